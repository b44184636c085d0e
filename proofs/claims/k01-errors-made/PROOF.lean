import PyProof.Rows.All
import Wide.All
import OpenK.AllK
import Wide.FinOn
import HandS.ForMost
import HandS.ForExc
import HandS.CallSlots
import HandS.NoneIn
import PyProof.EqKinds
import HandS.ExcInit
import HandS.Lambda
import HandS.Deep
import HandS.Walk
import HandS.IsInst
import HandS.Conv
import HandS.Star
import HandS.ExcField
import HandS.TupLen
import KE.GoesMore
import HandS.SortInts
import HandS.DictComp
import HandS.Style
import HandS.TupMul
import HandS.TupAny
import PyProof.Rows.SortShellK
import PyProof.Rows.SortStr
import HandS.SortKw
import HandS.TryMany
import KE.KEqNest
import PyProof.NeKinds
import HandS.Remove
import KE.KRevSl
import HandS.More
import PyProof.DictMoreH
import PyProof.P3In
import KE.GoesZip
import HandS.Zip
import HandS.ListItems
import KE.KDictItemsList
import HandS.DictTup
import HandS.Codes
import KE.KSortTupG
import HandS.Defaults
import HandS.MakeKw
import KE.DataFind
import KE.DataMinKey
import PyProof.AutoSeq1
import KE.KExcIs
import HandS.ExcIs
import HandS.ExcValue
import HandS.EndTab
import KE.KNestM
import PySem.Challenge.RW_lotmarks_k01_errors_made
set_option Elab.async false
set_option linter.all false
set_option maxRecDepth 100000
set_option maxHeartbeats 4000000
namespace Lf
open PySem PySem.Spec L2
abbrev NKey := List Key × Option (List Key)
section
variable {P : Program} {w : World}
/-- the items of such a key -/
def NIt (P : Program) (w : World) (h : Heap) : NKey → List Value → Prop
  | (l, none), vs => ∃ a, vs = [.ref a, .none] ∧ IsTupleKey (mixKind P w) h l a
  | (l, some ks), vs => ∃ a b, vs = [.ref a, .ref b] ∧ IsTupleKey (mixKind P w) h l a ∧ IsTupleKey (mixKind P w) h ks b
def NIs (P : Program) (w : World) (h : Heap) (k : NKey) (a : Addr) : Prop := ∃ ob its m, h.get? a = some ob ∧ ob.cls = .type "tuple" ∧ ob.data = .seq its m ∧ NIt P w h k its.toList
theorem NIt.uniq {h : Heap} {x y : NKey} {vs : List Value} (hx : NIt P w h x vs) (hy : NIt P w h y vs) : x = y := by
  obtain ⟨k, o⟩ := x
  obtain ⟨j, p⟩ := y
  cases o with
  | none =>
    obtain ⟨v, rfl, h1⟩ := hx
    cases p with
    | none =>
      obtain ⟨u, e, h2⟩ := hy
      cases e
      rw [h1.inj h2]
    | some js => obtain ⟨u, b, e, _⟩ := hy; cases e
  | some ks =>
    obtain ⟨v, a, rfl, h1, t1⟩ := hx
    cases p with
    | none =>
      obtain ⟨u, e, _⟩ := hy
      cases e
    | some js =>
      obtain ⟨u, b, e, h2, t2⟩ := hy
      cases e
      rw [h1.inj h2, t1.inj t2]
theorem NIs.type {s : Shared} {k : NKey} {a : Addr} (x : NIs P w s.heap k a) : s.TypeIs (.ref a) "tuple" := let ⟨ob, _, _, h1, h2, _⟩ := x; ⟨ob, h1, h2⟩
theorem NIs.uniq {h : Heap} {x y : NKey} {a : Addr} (hx : NIs P w h x a) (hy : NIs P w h y a) : x = y := by
  obtain ⟨ob, its, m, h1, _, h2, h3⟩ := hx
  obtain ⟨ob', its', m', g1, _, g2, g3⟩ := hy
  cases (Option.some.inj (h1.symm.trans g1) : ob = ob')
  rw [h2] at g2
  injection g2 with e1 _
  subst e1
  exact h3.uniq g3
theorem NIs.stay {h h' : Heap} {k : NKey} {a d : Addr} {ob : Obj} {es ep} (x : NIs P w h k a) (ho : h.get? d = some ob) (hd : ob.data = .dict es ep) (hs : Heap.SameBut d h h') : NIs P w h' k a := by
  obtain ⟨oa, its, m, h1, h2, h3, h4⟩ := x
  have ne : a ≠ d := fun z => by
    subst z
    cases (Option.some.inj (h1.symm.trans ho) : oa = ob)
    rw [hd] at h3
    exact nomatch h3
  refine ⟨oa, its, m, (hs.2 a ne).trans h1, h2, h3, ?_⟩
  obtain ⟨j, o⟩ := k
  cases o with
  | none =>
    obtain ⟨b, e, g1⟩ := h4
    exact ⟨b, e, g1.keeps ho hd hs⟩
  | some ks =>
    obtain ⟨v, b, e, g1, g2⟩ := h4
    exact ⟨v, b, e, g1.keeps ho hd hs, g2.keeps ho hd hs⟩
def nHash (w : World) : NKey → Int
  | (l, none) => reduceHash (Builtin.Tuple.tupleHashOf [reduceHash (Builtin.Tuple.tupleHashOf (l.map (keyH w))), reduceHash 0xFCA86420])
  | (l, some ks) => reduceHash (Builtin.Tuple.tupleHashOf [reduceHash (Builtin.Tuple.tupleHashOf (l.map (keyH w))), reduceHash (Builtin.Tuple.tupleHashOf (ks.map (keyH w)))])
def nDraw : NKey → Nat
  | (l, none) => l.length + 3
  | (l, some ks) => l.length + ks.length + 3
variable {A : Around} {E : Value → Shared → Prop} {s : Shared}
/-- v hashes to p.1 with p.2 draws -/
def HasH (P : Program) (w : World) (A : Around) (h : Heap) (v : Value) (p : Int × Nat) : Prop := ∀ (E : Value → Shared → Prop) (s : Shared) (Q : Int → Shared → Prop), s.heap = h → Q p.1 { s with toks := s.toks + p.2 } → wpAny (model P w) A (pyHash v) Q E s
theorem hash_tup {a : Addr} {ob : Obj} {its : Array Value} {m} {ps : List (Int × Nat)} {Q : Int → Shared → Prop} (hu : A.units < cLine) (h1 : s.heap.get? a = some ob) (h2 : ob.cls = .type "tuple") (h3 : ob.data = .seq its m) (hi : Paired (HasH P w A.in1 s.heap) its.toList ps)
    (hq : Q (reduceHash (Builtin.Tuple.tupleHashOf (ps.map (·.1)))) { s with toks := s.toks + ((ps.map (·.2)).sum + 1) }) : wpAny (model P w) A (pyHash (.ref a)) Q E s := by
  have ty : s.TypeIs (.ref a) "tuple" := ⟨ob, h1, h2⟩
  unfold pyHash
  first | unfold pyHashByItsType | skip
  first | refine wpAny_bind (wpAny_cRoomFor_or (Or.inr hu) ?_) | skip
  refine wpAny_bind (wpAny_specialOf ty F.slot_tuple_hash.lookup ?_)
  show wpAny _ _ (ite ((some (Value.builtin "tuple.__hash__") == some Value.none) = true) _ _) Q E s
  rw [if_neg (by rw [beq_builtin_none]; exact Bool.false_ne_true)]
  refine wpAny_bind (wpAny_specialOf ty F.slot_tuple_hash.lookup ?_)
  show wpAny _ _ (bind (callSpecialIfBoundUnlessNone? (.ref a) "__hash__" _) _) Q E s
  refine wpAny_bind (wpAny_callSpecialIfBoundUnlessNone?_slot ty F.slot_tuple_hash (wpAny_call_entry F.slot_tuple_hash ty F.entry_tuple_hash ?_ (F.args_tuple_hash_1 _)))
  show wpAny _ _ (bind (Builtin.Tuple.tupleItemsOf (.ref a)) _) _ _ s
  refine wpAny_bind (wpAny_tupleItemsOf h1 h3 ?_)
  refine wpAny_bind ?_
  rw [← Array.forIn_toList]
  refine wpAny_forIn_list _ (fun rest (b : Array Int) s' => ∃ dn lf, ps = dn ++ lf ∧ Paired (HasH P w A.in1 s.heap) rest lf ∧ b.toList = dn.map (·.1) ∧ s' = { s with toks := s.toks + (dn.map (·.2)).sum }) _ ?_ ?_ _ _ ⟨[], ps, rfl, hi, rfl, rfl⟩
  · rintro x rest b s' ⟨dn, lf, rfl, hl, hb, rfl⟩
    cases hl with
    | @cons _ p _ lf' g1 hl' =>
      refine wpAny_bind (g1 _ _ _ rfl ?_)
      have fin : ∃ dn' lf'', dn ++ p :: lf' = dn' ++ lf'' ∧ Paired (HasH P w A.in1 s.heap) rest lf'' ∧ (b.push p.1).toList = dn'.map (·.1) ∧ ({ ({ s with toks := s.toks + (dn.map (·.2)).sum } : Shared) with toks := s.toks + (dn.map (·.2)).sum + p.2 } : Shared) = { s with toks := s.toks + (dn'.map (·.2)).sum } :=
        ⟨dn ++ [p], lf', by simp, hl', by simp [hb], by simp [Nat.add_assoc]⟩
      first
        | exact wpAny_pure fin
        | exact wpAny_bind (wpAny_pure (wpAny_pure fin))
  · rintro b s' ⟨dn, lf, rfl, hl, hb, rfl⟩
    cases hl
    rw [List.append_nil] at hq
    show wpAny _ _ (retInt (Builtin.Tuple.tupleHashOf b.toList)) _ _ _
    rw [hb]
    refine wpAny_ret_mkInt ?_
    generalize Builtin.Tuple.tupleHashOf (dn.map (·.1)) = z at hq
    show wpAny _ _ (ite ((decide (-(2 : Int) ^ 63 ≤ z) && decide (z < 2 ^ 63)) = true) _ _) Q E _
    unfold reduceHash at hq
    by_cases hr : (decide (-(2 : Int) ^ 63 ≤ z) && decide (z < 2 ^ 63)) = true
    · rw [if_pos hr] at hq ⊢
      exact wpAny_pure (by simpa [Nat.add_assoc] using hq)
    · rw [if_neg hr] at hq ⊢
      exact wpAny_bind (wpAny_rule (wpAny_pure (by simpa [Nat.add_assoc] using hq)))
theorem hash_key {h : Heap} {ks : List Key} {b : Addr} (hu : A.units < cLine) (e : IsTupleKey (mixKind P w) h ks b) : HasH P w A h (.ref b) (tupleKeyHash (mixKind P w) ks, ks.length + 1) := fun E s Q z hq => wpAny_pyHash_tuple hu (z ▸ e) hq
theorem hash_non {h : Heap} : HasH P w A h .none (reduceHash 0xFCA86420, 1) := fun E s Q _ hq => (noneKind P w).pyHash (k := none) rfl hq
theorem hash_nest {k : NKey} {a : Addr} {Q : Int → Shared → Prop} (hu : A.units + 1 < cLine) (x : NIs P w s.heap k a) (hq : Q (nHash w k) { s with toks := s.toks + nDraw k }) : wpAny (model P w) A (pyHash (.ref a)) Q E s := by
  obtain ⟨ob, its, m, h1, h2, h3, h4⟩ := x
  obtain ⟨l, o⟩ := k
  cases o with
  | none =>
    obtain ⟨v, e, g1⟩ := h4
    exact hash_tup (ps := [(tupleKeyHash (mixKind P w) l, l.length + 1), (reduceHash 0xFCA86420, 1)]) (by omega) h1 h2 h3 (by rw [e]; exact .cons (hash_key (show A.units + 1 < cLine from hu) g1) (.cons hash_non .nil)) (by
      have e2 : l.length + 1 + 1 + 1 = l.length + 3 := by omega
      simpa [nDraw, nHash, e2, mixKind, tupleKeyHash] using hq)
  | some ks =>
    obtain ⟨v, b, e, g1, g2⟩ := h4
    exact hash_tup (ps := [(tupleKeyHash (mixKind P w) l, l.length + 1), (tupleKeyHash (mixKind P w) ks, ks.length + 1)]) (by omega) h1 h2 h3 (by rw [e]; exact .cons (hash_key (show A.units + 1 < cLine from hu) g1) (.cons (hash_key (show A.units + 1 < cLine from hu) g2) .nil)) (by
      have e2 : l.length + 1 + (ks.length + 1) + 1 = l.length + ks.length + 3 := by omega
      simpa [nDraw, nHash, e2, mixKind, tupleKeyHash] using hq)
/-- u == v comes to d -/
def HasE (P : Program) (w : World) (A : Around) (h : Heap) (u v : Value) (d : Bool) : Prop := ∀ (E : Value → Shared → Prop) (s : Shared) (Q : Bool → Shared → Prop), s.heap = h → Q d s → wpAny (model P w) A (eqBool u v) Q E s
/-- the items of two tuples compared: as far as both reach -/
inductive EqIts (P : Program) (w : World) (A : Around) (h : Heap) : List Value → List Value → Bool → Prop
  | nn : EqIts P w A h [] [] true
  | nc {v : Value} {vs : List Value} : EqIts P w A h [] (v :: vs) false
  | cn {v : Value} {vs : List Value} : EqIts P w A h (v :: vs) [] false
  | ne {u v : Value} {us vs : List Value} : HasE P w A h u v false → EqIts P w A h (u :: us) (v :: vs) false
  | eq {u v : Value} {us vs : List Value} {d : Bool} : HasE P w A h u v true → EqIts P w A h us vs d → EqIts P w A h (u :: us) (v :: vs) d
theorem eq_tree {a b : Addr} {oa ob : Obj} {xs ys : Array Value} {na nb} {d : Bool} {Z : Fin → Shared → Prop} (ga : s.heap.get? a = some oa) (da : oa.data = .seq xs na) (tb : s.TypeIs (.ref b) "tuple") (gb : s.heap.get? b = some ob) (db : ob.data = .seq ys nb)
    (hi : EqIts P w A s.heap xs.toList ys.toList d) (hq : Z (.done (.ret (.bool d))) s) : wpAny (model P w) A (Builtin.«tuple.__eq__» ⟨[.ref a, .ref b], []⟩) Z E s := by
  show wpAny _ _ (bind (isInstance (.ref b) (.type "tuple")) _) _ _ s
  refine wpAny_bind (wpAny_isInstance tb isSubtype_tuple_tuple ?_)
  simp only [Bool.not_true, Bool.false_eq_true, if_false]
  refine wpAny_bind (wpAny_tupleItemsOf ga da ?_)
  refine wpAny_bind (wpAny_tupleItemsOf gb db ?_)
  refine wpAny_bind ?_
  refine wpAny_forIn_list _ (fun rest r s' => r.1 = none ∧ s' = s ∧ ∃ us vs, rest = List.zip us vs ∧ EqIts P w A s.heap us vs d ∧ (us.length == vs.length) = (xs.size == ys.size)) _ ?_ ?_ _ _ ⟨rfl, rfl, xs.toList, ys.toList, rfl, hi, by simp⟩
  · rintro ⟨u, v⟩ rest r s' ⟨hr, rfl, us, vs, hz, hE, hl⟩
    cases hE with
    | nn => cases hz
    | nc => cases hz
    | cn => cases hz
    | @ne u' v' us' vs' he =>
      simp only [List.zip_cons_cons, List.cons.injEq, Prod.mk.injEq] at hz
      obtain ⟨⟨rfl, rfl⟩, rfl⟩ := hz
      refine wpAny_bind (he _ _ _ rfl ?_)
      simp only [Bool.not_false, if_true]
      exact wpAny_bind (wpAny_pure (wpAny_pure (wpAny_pure hq)))
    | @eq u' v' us' vs' _ he ht =>
      simp only [List.zip_cons_cons, List.cons.injEq, Prod.mk.injEq] at hz
      obtain ⟨⟨rfl, rfl⟩, rfl⟩ := hz
      refine wpAny_bind (he _ _ _ rfl ?_)
      simp only [Bool.not_true, Bool.false_eq_true, if_false]
      exact wpAny_pure ⟨rfl, rfl, us', vs', rfl, ht, by simpa using hl⟩
  · rintro ⟨r1, r2⟩ s' ⟨hr, rfl, us, vs, hz, hE, hl⟩
    simp only at hr
    subst hr
    refine wpAny_pure ?_
    have fin : (xs.size == ys.size) = d := by
      rw [← hl]
      cases hE with
      | nn => rfl
      | nc => rfl
      | cn => rfl
      | ne _ => cases hz
      | eq _ _ => cases hz
    show Z (.done (.ret (.bool (xs.size == ys.size)))) s'
    rw [fin]
    exact hq
theorem eq_key {h : Heap} {ks js : List Key} {a b : Addr} (hu : A.units < cLine) (e1 : IsTupleKey (mixKind P w) h ks a) (e2 : IsTupleKey (mixKind P w) h js b) : HasE P w A h (.ref a) (.ref b) (decide (ks = js)) := fun E s Q z hq => wpAny_eqBool_tuple hu (z ▸ e1) (z ▸ e2) hq
theorem key_tup {h : Heap} {ks : List Key} {a : Addr} (e : IsTupleKey (mixKind P w) h ks a) : ∃ items, h.IsTuple a items := let ⟨ob, its, m, h1, h2, h3, _⟩ := e; ⟨its, ob, h1, h2, m, h3⟩
theorem eq_nn {h : Heap} : HasE P w A h .none .none true := fun E s Q _ hq => SeqAt.EqAt.same _ _ _ _ _ hq
theorem eq_nt {h : Heap} {ks : List Key} {a : Addr} (hu : A.units < cLine) (e : IsTupleKey (mixKind P w) h ks a) : HasE P w A h .none (.ref a) false := fun E s Q z hq => by
  obtain ⟨its, t⟩ := key_tup e
  exact SeqAt.EqAt.none_tuple (A := A) (s := s) (z ▸ t) hu _ _ _ _ hq
theorem eq_tn {h : Heap} {ks : List Key} {a : Addr} (hu : A.units < cLine) (e : IsTupleKey (mixKind P w) h ks a) : HasE P w A h (.ref a) .none false := fun E s Q z hq => by
  obtain ⟨its, t⟩ := key_tup e
  exact SeqAt.EqAt.tuple_none (A := A) (s := s) (z ▸ t) hu _ _ _ _ hq
theorem eq_its {h : Heap} {x y : NKey} {us vs : List Value} (hu : A.units < cLine) (hx : NIt P w h x us) (hy : NIt P w h y vs) : EqIts P w A h us vs (decide (x = y)) := by
  obtain ⟨k, o⟩ := x
  obtain ⟨j, p⟩ := y
  have first : ∀ {a b : Addr} {us vs : List Value} {d : Bool}, IsTupleKey (mixKind P w) h k a → IsTupleKey (mixKind P w) h j b → (k = j → EqIts P w A h us vs (decide (((k, o) : NKey) = (j, p)))) → EqIts P w A h (.ref a :: us) (.ref b :: vs) (decide (((k, o) : NKey) = (j, p))) := by
    intro u v us vs d h1 h2 h3
    by_cases e : k = j
    · have q := eq_key (A := A) (h := h) hu h1 h2
      rw [decide_eq_true e] at q
      exact .eq q (h3 e)
    · have q := eq_key (A := A) (h := h) hu h1 h2
      rw [decide_eq_false e] at q
      rw [decide_eq_false (fun z => e (by cases z; rfl))]
      exact .ne q
  cases o with
  | none =>
    obtain ⟨u, rfl, h1⟩ := hx
    cases p with
    | none =>
      obtain ⟨v, rfl, h2⟩ := hy
      refine first (d := true) h1 h2 fun e => ?_
      rw [decide_eq_true (by rw [e])]
      exact .eq eq_nn .nn
    | some js =>
      obtain ⟨v, b, rfl, h2, t2⟩ := hy
      refine first (d := true) h1 h2 fun e => ?_
      rw [decide_eq_false (fun z => by cases z)]
      exact .ne (eq_nt hu t2)
  | some ks =>
    obtain ⟨u, a, rfl, h1, t1⟩ := hx
    cases p with
    | none =>
      obtain ⟨v, rfl, h2⟩ := hy
      refine first (d := true) h1 h2 fun e => ?_
      rw [decide_eq_false (fun z => by cases z)]
      exact .ne (eq_tn hu t1)
    | some js =>
      obtain ⟨v, b, rfl, h2, t2⟩ := hy
      refine first (d := true) h1 h2 fun e => ?_
      have q := eq_key (A := A) hu t1 t2
      by_cases e2 : ks = js
      · rw [decide_eq_true e2] at q
        rw [decide_eq_true (by rw [e, e2])]
        exact .eq q .nn
      · rw [decide_eq_false e2] at q
        rw [decide_eq_false (fun z => by cases z; exact e2 rfl)]
        exact .ne q
theorem eq_nest {x y : NKey} {a b : Addr} {Q : Bool → Shared → Prop} (hu : A.units + 1 < cLine) (hx : NIs P w s.heap x a) (hy : NIs P w s.heap y b) (hq : Q (decide (x = y)) s) : wpAny (model P w) A (eqBool (.ref a) (.ref b)) Q E s := by
  unfold eqBool
  try with_reducible refine wpAny_holding ?_
  show wpAny _ _ (ite ((Value.ref a == Value.ref b) = true) _ _) Q E s
  by_cases hab : (Value.ref a == Value.ref b) = true
  · rw [if_pos hab]
    have e : a = b := by have := eq_of_beq hab; injection this
    subst e
    obtain rfl := hx.uniq hy
    exact wpAny_bind (wpAny_rule (wpAny_pure (by simpa using hq)))
  · rw [if_neg hab]
    have tb := hy.type
    have ta := hx.type
    obtain ⟨oa, xs, na, ga, _, da, ia⟩ := hx
    obtain ⟨ob, ys, nb, gb, _, db, ib⟩ := hy
    exact wpAny_bind (wpAny_richCompare_same_room (op := .Eq) ta tb F.slot_tuple_eq (wpAny_call_entry F.slot_tuple_eq ta F.entry_tuple_eq (eq_tree ga da tb gb db (eq_its (by first | exact hu | exact Nat.lt_of_succ_lt hu) ia ib) ⟨_, rfl, (fun z => nomatch z), wpAny_truthy_bool hq⟩) (F.args_tuple_eq_2 _ _)) (Nat.lt_of_succ_lt hu))
/-- a == of a tuple of values is quiet, for any fuel -/
theorem quiet_key {n : Nat} {ks : List Key} {a : Addr} {Q : Bool → Shared → Prop} (x : IsTupleKey (mixKind P w) s.heap ks a) (hq : Q true s) : wpAny (model P w) A (eqIsQuiet (n + 1) (.ref a)) Q E s := by
  have ty := x.typeIs
  obtain ⟨ob, its, m, h1, _, h3, h4⟩ := x
  unfold eqIsQuiet
  refine wpAny_bind (wpAny_specialOf ty F.slot_tuple_eq.lookup ?_)
  show wpAny _ _ (bind (isInstance (.ref a) (.type "tuple")) _) _ _ s
  refine wpAny_bind (wpAny_isInstance ty isSubtype_tuple_tuple ?_)
  simp only [Bool.not_true, Bool.false_eq_true, if_false]
  refine wpAny_bind (wpAny_seqItems h1 h3 ?_)
  refine wpAny_bind ?_
  show wpAny _ _ (forIn its _ _) _ _ s
  rw [← Array.forIn_toList]
  refine wpAny_forIn_list _ (fun rest r s' => r.1 = none ∧ s' = s ∧ ∀ v ∈ rest, carriedByValue v = true) _ ?_ ?_ _ _ ⟨rfl, rfl, h4.byValue⟩
  · rintro v rest r s' ⟨_, rfl, all⟩
    rw [eqIsQuiet_byValue _ (all v List.mem_cons_self)]
    refine wpAny_bind (wpAny_pure ?_)
    simp only [Bool.not_true, Bool.false_eq_true, if_false]
    exact wpAny_pure ⟨rfl, rfl, fun u hm => all u (List.mem_cons_of_mem _ hm)⟩
  · rintro ⟨r1, r2⟩ s' ⟨hr, rfl, _⟩
    simp only at hr
    subst hr
    exact wpAny_pure hq
theorem quiet_nest {k : NKey} {a : Addr} {Q : Bool → Shared → Prop} (x : NIs P w s.heap k a) (hq : Q true s) : wpAny (model P w) A (eqIsQuiet 8 (.ref a)) Q E s := by
  have ty := x.type
  obtain ⟨ob, its, m, h1, _, h3, h4⟩ := x
  have qs : ∀ v ∈ its.toList, ∀ (E : Value → Shared → Prop) (Q : Bool → Shared → Prop), Q true s → wpAny (model P w) A (eqIsQuiet 7 v) Q E s := by
    obtain ⟨l, o⟩ := k
    cases o with
    | none =>
      obtain ⟨v, e, g1⟩ := h4
      intro u hm E Q q
      rw [e] at hm
      rcases List.mem_cons.mp hm with rfl | hm
      · exact quiet_key g1 q
      · have : u = .none := by simpa using hm
        rw [this, eqIsQuiet_byValue _ rfl]
        exact wpAny_pure q
    | some ks =>
      obtain ⟨v, b, e, g1, g2⟩ := h4
      intro u hm E Q q
      rw [e] at hm
      rcases List.mem_cons.mp hm with rfl | hm
      · exact quiet_key g1 q
      · have : u = .ref b := by simpa using hm
        rw [this]
        exact quiet_key g2 q
  unfold eqIsQuiet
  refine wpAny_bind (wpAny_specialOf ty F.slot_tuple_eq.lookup ?_)
  show wpAny _ _ (bind (isInstance (.ref a) (.type "tuple")) _) _ _ s
  refine wpAny_bind (wpAny_isInstance ty isSubtype_tuple_tuple ?_)
  simp only [Bool.not_true, Bool.false_eq_true, if_false]
  refine wpAny_bind (wpAny_seqItems h1 h3 ?_)
  refine wpAny_bind ?_
  show wpAny _ _ (forIn its _ _) _ _ s
  rw [← Array.forIn_toList]
  refine wpAny_forIn_list _ (fun rest r s' => r.1 = none ∧ s' = s ∧ ∀ v ∈ rest, v ∈ its.toList) _ ?_ ?_ _ _ ⟨rfl, rfl, fun _ hm => hm⟩
  · rintro v rest r s' ⟨_, rfl, all⟩
    refine wpAny_bind (qs v (all v List.mem_cons_self) _ _ ?_)
    simp only [Bool.not_true, Bool.false_eq_true, if_false]
    exact wpAny_pure ⟨rfl, rfl, fun u hm => all u (List.mem_cons_of_mem _ hm)⟩
  · rintro ⟨r1, r2⟩ s' ⟨hr, rfl, _⟩
    simp only at hr
    subst hr
    exact wpAny_pure hq
end
def nestKind (P : Program) (w : World) : HeapKind P w NKey where
  is := NIs P w
  hash := nHash w
  draws := nDraw
  room := fun A => A.units + 1 < cLine
  inj := fun hx hy => hx.uniq hy
  keeps := fun x ho hd hs => x.stay ho hd hs
  pyHash := fun hu hk hq => hash_nest hu hk hq
  eqBool := fun hu hx hy hq => eq_nest hu hx hy hq
  quiet := fun hk hq => quiet_nest hk hq
/-- a dict with such keys: its one object -/
def DNo (W : World) (a : Addr) (xs : List (NKey × Addr × Value)) : HO := .ext fun h => (a == sysModules) = false ∧ (xs.map (·.1)).Nodup ∧ ∃ o es ep, h.get? a = some o ∧ o.ExactDict ∧ o.data = .dict es ep ∧ es.toList = xs.map fun q => ⟨nHash W q.1, .ref q.2.1, q.2.2⟩
/-- the key stands at b -/
def KeyIn (G : Hp) (b : Addr) : NKey → Prop
  | (l, none) => ∃ d, G b = some (.tup [.ref d, .non]) ∧ G d = some (.tup (l.map kV))
  | (l, some ks) => ∃ d c, G b = some (.tup [.ref d, .ref c]) ∧ G d = some (.tup (l.map kV)) ∧ G c = some (.tup (ks.map kV))
theorem KeyIn.mono {G G' : Hp} {b : Addr} (sg : Same G G') : ∀ {k : NKey}, KeyIn G b k → KeyIn G' b k
  | (_, none), ⟨d, h1, h2⟩ => ⟨d, sg _ _ h1, sg _ _ h2⟩
  | (_, some _), ⟨d, c, h1, h2, h3⟩ => ⟨d, c, sg _ _ h1, sg _ _ h2, sg _ _ h3⟩
def NvR (G : Hp) (p : NKey × Int) (q : NKey × Addr × Value) : Prop := p.1 = q.1 ∧ KeyIn G q.2.1 p.1 ∧ ∃ tk, q.2.2 = .int p.2 tk
theorem NvR.mono {G G' : Hp} (sg : Same G G') {p : NKey × Int} {q : NKey × Addr × Value} (h : NvR G p q) : NvR G' p q := ⟨h.1, h.2.1.mono sg, h.2.2⟩
/-- a lambda: its name, parameters, body, scope; the names that it takes from around it -/
structure LamD where
  q : Str
  params : Arguments
  body : Expr
  scope : Scope
  ns : List Str
def lamNil : LamD := ⟨"", default, default, default, []⟩
/-- the names of the classes, the world, the lambdas -/
structure Cl where
  f : Str → Option Addr
  W : World
  lam : Str → LamD
instance : CoeFun Cl (fun _ => Str → Option Addr) := ⟨Cl.f⟩
end Lf
namespace Lf
open PySem PySem.Spec L2

inductive T where
  | non | bl (b : Bool) | int (i : Int) | str (x : Str)
  | lst (xs : List T) | tup (xs : List T) | fro (xs : List T)
  | dic (kvs : List (Key × T)) | dit (kvs : List (List Key × T))
  | obj (c : Str) (fs : List (Str × T)) | exo (c : Str) (fs : List (Str × T))

/-- what an own slot holds -/
inductive Own where
  | lst (xs : List T) | dic (lk : Bool) (kvs : List (Key × T)) | dit (lk : Bool) (kvs : List (List Key × T))
def Own.tree : Own → T
  | .lst xs => .lst xs
  | .dic _ kvs => .dic kvs
  | .dit _ kvs => .dit kvs
def Own.open : Own → Bool
  | .lst _ => true
  | .dic l _ => !l
  | .dit l _ => !l

/-- a value: a plain one, a cell of the store, an own slot that is lent -/
inductive Val where
  | t (x : T) | loc (n : Nat) | sl (i : Nat)
inductive Slot where
  | t (x : T) | loc (n : Nat) | own (o : Own) | exc (c : Str) (fs : List (Str × T)) | fn (q : Str) (caps : List T) | gf (q : Str)
/-- a field or an item of a cell -/
inductive Fv where
  | t (x : T) | loc (n : Nat)
def Fv.val : Fv → Val
  | .t x => .t x
  | .loc n => .loc n
inductive Cell where
  | lst (xs : List Fv) | dic (lk : Bool) (kvs : List (Key × Fv)) | dit (lk : Bool) (kvs : List (List Key × Fv)) | dnn (kvs : List (NKey × Int)) | dnl (kvs : List (NKey × Int)) | dcl (kvs : List (Key × Fv)) | ins (c : Str) (fs : List (Str × Fv)) | fz (x : T) | tpl (xs : List Fv) | tab (q : Str) | dead

structure DSt where
  δ : List (Option Slot)
  μ : List Cell
inductive Out (α : Type) where
  | ok (a : α) | exc (c : Str) (fs : List (Str × T))
def M (α : Type) := DSt → Option (Out α × DSt)
def ret {α : Type} (a : α) : M α := fun s => some (.ok a, s)
def bnd {α β : Type} (x : M α) (k : α → M β) : M β := fun s =>
  match x s with
  | none => none
  | some (.exc c fs, s1) => some (.exc c fs, s1)
  | some (.ok a, s1) => k a s1
def stuck {α : Type} : M α := fun _ => none
def raise {α : Type} (c : Str) (fs : List (Str × T)) : M α := fun s => some (.exc c fs, s)
theorem bnd_some {α β : Type} {x : M α} {k : α → M β} {s s' : DSt} {o : Out β} (h : bnd x k s = some (o, s')) :
    (∃ c fs, x s = some (.exc c fs, s') ∧ o = .exc c fs) ∨ ∃ a s1, x s = some (.ok a, s1) ∧ k a s1 = some (o, s') := by
  unfold bnd at h
  cases e : x s with
  | none => rw [e] at h; cases h
  | some p =>
    obtain ⟨q, s1⟩ := p
    rw [e] at h
    cases q with
    | exc c fs =>
      cases h
      exact .inl ⟨c, fs, rfl, rfl⟩
    | ok a => exact .inr ⟨a, s1, rfl, h⟩

mutual
inductive Rep (K : PySem.W.Frag) (cl : Cl) (G : Hp) : T → V → Prop
  | non : Rep K cl G .non .non
  | bl (b : Bool) : Rep K cl G (.bl b) (.bl b)
  | int (i : Int) : Rep K cl G (.int i) (.int i)
  | str (x : Str) : Rep K cl G (.str x) (.str x)
  | lst {a : Addr} {xs : List V} {ts : List T} : G a = some (.lst xs) → Reps K cl G ts xs → Rep K cl G (.lst ts) (.ref a)
  | fro {a : Addr} {xs : List V} {ts : List T} : SqL K G a xs → Reps K cl G ts xs → Rep K cl G (.fro ts) (.ref a)
  | tup {a : Addr} {xs : List V} {ts : List T} : G a = some (.tup xs) → Reps K cl G ts xs → Rep K cl G (.tup ts) (.ref a)
  | dic {a : Addr} {kvs : List (Key × V)} {ts : List (Key × T)} : G a = some (.dK kvs) → RepD K cl G ts kvs → Rep K cl G (.dic ts) (.ref a)
  | dit {a : Addr} {kvs : List (List Key × V)} {ts : List (List Key × T)} : G a = some (.dT kvs) → RepE K cl G ts kvs → Rep K cl G (.dit ts) (.ref a)
  | obj {a C dx : Addr} {c : Str} {fs : List (Str × V)} {ts : List (Str × T)} : cl c = some C → G a = some (.ins C dx fs) → RepF K cl G ts fs → Rep K cl G (.obj c ts) (.ref a)
  | exo {a C dx : Addr} {c : Str} {fs : List (Str × V)} {ts : List (Str × T)} : cl c = some C → G a = some (L2.exo a C (some dx)) → G dx = some (L2.exd dx fs) → RepF K cl G ts fs → Rep K cl G (.exo c ts) (.ref a)
  | ex0 {a C : Addr} {c : Str} : cl c = some C → G a = some (L2.exo a C none) → Rep K cl G (.exo c []) (.ref a)
inductive Reps (K : PySem.W.Frag) (cl : Cl) (G : Hp) : List T → List V → Prop
  | nil : Reps K cl G [] []
  | cons {t : T} {v : V} {ts : List T} {vs : List V} : Rep K cl G t v → Reps K cl G ts vs → Reps K cl G (t :: ts) (v :: vs)
inductive RepD (K : PySem.W.Frag) (cl : Cl) (G : Hp) : List (Key × T) → List (Key × V) → Prop
  | nil : RepD K cl G [] []
  | cons {k : Key} {t : T} {v : V} {ts : List (Key × T)} {vs : List (Key × V)} : Rep K cl G t v → RepD K cl G ts vs → RepD K cl G ((k, t) :: ts) ((k, v) :: vs)
inductive RepE (K : PySem.W.Frag) (cl : Cl) (G : Hp) : List (List Key × T) → List (List Key × V) → Prop
  | nil : RepE K cl G [] []
  | cons {k : List Key} {t : T} {v : V} {ts : List (List Key × T)} {vs : List (List Key × V)} : Rep K cl G t v → RepE K cl G ts vs → RepE K cl G ((k, t) :: ts) ((k, v) :: vs)
inductive RepF (K : PySem.W.Frag) (cl : Cl) (G : Hp) : List (Str × T) → List (Str × V) → Prop
  | nil : RepF K cl G [] []
  | cons {k : Str} {t : T} {v : V} {ts : List (Str × T)} {vs : List (Str × V)} : Rep K cl G t v → RepF K cl G ts vs → RepF K cl G ((k, t) :: ts) ((k, v) :: vs)
end

theorem same_sqL {K : PySem.W.Frag} {G G' : Hp} {a : Addr} {xs : List V} (s : Same G G') (h : SqL K G a xs) : SqL K G' a xs := s.seq h
mutual
theorem Rep.mono {K : PySem.W.Frag} {cl : Cl} {G G' : Hp} (s : Same G G') : ∀ {t : T} {v : V}, Rep K cl G t v → Rep K cl G' t v
  | _, _, .non => .non
  | _, _, .bl b => .bl b
  | _, _, .int b => .int b
  | _, _, .str b => .str b
  | _, _, .lst h r => .lst (s _ _ h) (r.mono s)
  | _, _, .fro h r => .fro (same_sqL s h) (r.mono s)
  | _, _, .tup h r => .tup (s _ _ h) (r.mono s)
  | _, _, .dic h r => .dic (s _ _ h) (r.mono s)
  | _, _, .dit h r => .dit (s _ _ h) (r.mono s)
  | _, _, .obj c h r => .obj c (s _ _ h) (r.mono s)
  | _, _, .exo c h h2 r => .exo c (s _ _ h) (s _ _ h2) (r.mono s)
  | _, _, .ex0 c h => .ex0 c (s _ _ h)
theorem Reps.mono {K : PySem.W.Frag} {cl : Cl} {G G' : Hp} (s : Same G G') : ∀ {t : List T} {v : List V}, Reps K cl G t v → Reps K cl G' t v
  | _, _, .nil => .nil
  | _, _, .cons h r => .cons (h.mono s) (r.mono s)
theorem RepD.mono {K : PySem.W.Frag} {cl : Cl} {G G' : Hp} (s : Same G G') : ∀ {t : List (Key × T)} {v : List (Key × V)}, RepD K cl G t v → RepD K cl G' t v
  | _, _, .nil => .nil
  | _, _, .cons h r => .cons (h.mono s) (r.mono s)
theorem RepE.mono {K : PySem.W.Frag} {cl : Cl} {G G' : Hp} (s : Same G G') : ∀ {t : List (List Key × T)} {v : List (List Key × V)}, RepE K cl G t v → RepE K cl G' t v
  | _, _, .nil => .nil
  | _, _, .cons h r => .cons (h.mono s) (r.mono s)
theorem RepF.mono {K : PySem.W.Frag} {cl : Cl} {G G' : Hp} (s : Same G G') : ∀ {t : List (Str × T)} {v : List (Str × V)}, RepF K cl G t v → RepF K cl G' t v
  | _, _, .nil => .nil
  | _, _, .cons h r => .cons (h.mono s) (r.mono s)
end
end Lf
namespace Lf
open PySem PySem.Spec L2

inductive Owner where
  | cell (n : Nat) | slot (i : Nat)
structure Wd where
  as : List Addr
  G : Hp
  ω : Addr → Option Owner
def Cell.live : Cell → Bool
  | .dead => false
  | .fz _ => false
  | .dnl _ => false
  | .dcl _ => false
  | .tpl _ => false
  | _ => true
section
variable (K : PySem.W.Frag) (cl : Cl)
def FvR (w : Wd) : Fv → V → Prop
  | .t x, v => Rep K cl w.G x v
  | .loc n, v => ∃ a, w.as[n]? = some a ∧ v = .ref a
def PvR {κ : Type} (w : Wd) (p : κ × Fv) (q : κ × V) : Prop := p.1 = q.1 ∧ FvR K cl w p.2 q.2
def CellR (w : Wd) (H : Hp) : Cell → Addr → Prop
  | .lst xs, a => ∃ vs, H a = some (.lst vs) ∧ Paired (FvR K cl w) xs vs
  | .dic false kvs, a => ∃ vs, H a = some (.dK vs) ∧ Paired (PvR K cl w) kvs vs
  | .dic true kvs, a => ∃ o vs, H a = some (.frz o (.dK vs)) ∧ Paired (PvR K cl w) kvs vs
  | .dit false kvs, a => ∃ vs, H a = some (.dT vs) ∧ Paired (PvR K cl w) kvs vs
  | .dit true kvs, a => ∃ o vs, H a = some (.frz o (.dT vs)) ∧ Paired (PvR K cl w) kvs vs
  | .dnn kvs, a => ∃ xs, H a = some (DNo cl.W a xs) ∧ Paired (NvR w.G) kvs xs ∧ xs.length ≤ sizeLine
  | .ins c fs, a => ∃ C dx vs, cl c = some C ∧ H a = some (.ins C dx vs) ∧ Paired (PvR K cl w) fs vs
  | .fz _, _ => True
  | .dnl _, _ => True
  | .dcl _, _ => True
  | .tpl _, _ => True
  | .tab q, a => cl q = some a ∧ ∃ ps : Array Value, H a = some (.tbl ps) ∧ TriplesOk ps.toList ∧ ∀ (pos : Pos) (cv : Value), codeAmong pos ps.toList = some cv → ∃ c, cv = .ref c ∧ w.G c = some (LamX.CodeO c q)
  | .dead, _ => True
/-- what stands still: plain data; a dict of nested keys that is walked; a dict of cells that is walked -/
def FzR (as : List Addr) (G : Hp) : Cell → Addr → Prop
  | .fz x, a => Rep K cl G x (.ref a)
  | .dnl kvs, a => ∃ o xs, G a = some (.frz o (DNo cl.W a xs)) ∧ Paired (NvR G) kvs xs ∧ xs.length ≤ sizeLine
  | .dcl kvs, a => ∃ o vs, G a = some (.frz o (.dK vs)) ∧ Paired (PvR K cl ⟨as, G, fun _ => none⟩) kvs vs
  | .tpl xs, a => ∃ vs, G a = some (.tup vs) ∧ Paired (FvR K cl ⟨as, G, fun _ => none⟩) xs vs
  | _, _ => True
def OwnR (G H : Hp) : Own → Addr → Prop
  | .lst ts, a => ∃ vs, H a = some (.lst vs) ∧ Reps K cl G ts vs
  | .dic false ts, a => ∃ vs, H a = some (.dK vs) ∧ RepD K cl G ts vs
  | .dic true ts, a => ∃ o vs, H a = some (.frz o (.dK vs)) ∧ RepD K cl G ts vs
  | .dit false ts, a => ∃ vs, H a = some (.dT vs) ∧ RepE K cl G ts vs
  | .dit true ts, a => ∃ o vs, H a = some (.frz o (.dT vs)) ∧ RepE K cl G ts vs
/-- the names that a lambda takes from around it: their cells and worths -/
def CapR (G : Hp) (clo : List (Str × Addr)) (ns : List Str) (caps : List T) : Prop := ∀ (i : Nat) (y : Str), ns[i]? = some y → ∃ (c : Addr) (t : T) (x : V) (u : Value) (o : Obj), clo.lookup y = some c ∧ caps[i]? = some t ∧ G c = some (.ext fun h => h.get? c = some o) ∧ o.data = .cell (some u) ∧ RelV x u ∧ Rep K cl G t x
/-- a function object that stands still -/
def FnR (G : Hp) (q : Str) (caps : List T) (v : V) : Prop := ∃ (f d : Addr) (clo : List (Str × Addr)) (pm ctv : Value), v = .ref f ∧ G f = some (.ext fun h => h.get? f = some (PySem.W.kla_obj "<lambda>" (cl.lam q).q (cl.lam q).params (cl.lam q).body (cl.lam q).scope clo pm d ctv)) ∧ G d = some (LamX.CodeO d (cl.lam q).q) ∧
  (∀ y c, clo.lookup y = some c → y ∈ (cl.lam q).ns) ∧ (∀ y z c, clo.lookup y = some c → clo.lookup z = some c → y = z) ∧ caps.length = (cl.lam q).ns.length ∧ CapR K cl G clo (cl.lam q).ns caps
def SlotR (w : Wd) (H : Hp) (i : Nat) : Slot → V → Prop
  | .t x, v => Rep K cl w.G x v
  | .loc n, v => ∃ a, w.as[n]? = some a ∧ v = .ref a
  | .own o, v => ∃ a, v = .ref a ∧ w.ω a = some (.slot i) ∧ OwnR K cl w.G H o a
  | .exc c fs, v => True
  | .fn q cs, v => FnR K cl w.G q cs v
  | .gf q, v => ∃ a, cl q = some a ∧ v = .ref a
/-- only a dict is locked while it is walked -/
def isD : HO → Bool
  | .dK _ => true
  | .dT _ => true
  | _ => false
structure Rc (w : Wd) (μ : List Cell) (H : Hp) : Prop where
  sub : ∀ a o, w.G a = some o → H a = some o ∨ (isD o = true ∧ ∃ q, H a = some (.frz q o))
  len : w.as.length = μ.length
  cell : ∀ n c a, μ[n]? = some c → w.as[n]? = some a → c.live = true → w.ω a = some (.cell n) ∧ CellR K cl w H c a
  own : ∀ a o, w.ω a = some o → w.G a = none ∧ H a ≠ none
  fz : ∀ (n : Nat) (x : Cell) (a : Addr), μ[n]? = some x → w.as[n]? = some a → FzR K cl w.as w.G x a
  tu : ∀ (a : Addr) (xs : List V), H a = some (.tup xs) → w.G a = some (.tup xs)
structure R (w : Wd) (st : DSt) (σ : St) (H : Hp) : Prop where
  rc : Rc K cl w st.μ H
  slen : st.δ.length = σ.length
  slot : ∀ i s, st.δ[i]? = some (some s) → ∃ x, σ[i]? = some (some x) ∧ SlotR K cl w H i s x
def VR (w : Wd) (σ : St) : Val → V → Prop
  | .t x, v => Rep K cl w.G x v
  | .loc n, v => ∃ a, w.as[n]? = some a ∧ v = .ref a
  | .sl i, v => σ[i]? = some (some v)
/-- an exception: of the class c, its fields fs -/
def ExR (w : Wd) (H : Hp) (c : Str) (fs : List (Str × T)) (cv : Value) (d : Option Addr) : Prop :=
  ∃ C, cl c = some C ∧ cv = .ref C ∧ (fs = [] ∨ ∃ dd vs, d = some dd ∧ H dd = some (.xd vs) ∧ RepF K cl w.G fs vs)
end
/-- a table of code objects -/
def isTb : HO → Bool
  | .tbl _ => true
  | _ => false
structure Le (w : Wd) (H : Hp) (w' : Wd) (H' : Hp) : Prop where
  as : w.as <+: w'.as
  g : Same w.G w'.G
  own : ∀ a, w.ω a = none → H a ≠ none → w'.ω a = none
  kq : ∀ a o, w.ω a = none → H a = some o → isTb o = false → (w.G a = none ∨ isD o = false) → H' a = some o
  th : ∀ a, w.ω a = none → H a ≠ none → H' a ≠ none
  gk : ∀ a, w.ω a = none → H a ≠ none → w'.G a = w.G a
theorem Le.kp {w w' : Wd} {H H' : Hp} (l : Le w H w' H') (a : Addr) (o : HO) (h1 : w.ω a = none) (h2 : H a = some o) (ht : isTb o = false := by rfl) (hg : w.G a = none ∨ isD o = false := by exact .inr rfl) : H' a = some o := l.kq a o h1 h2 ht hg
theorem th_of {w : Wd} {H H' : Hp} (k : ∀ a o, w.ω a = none → H a = some o → H' a = some o) : ∀ a, w.ω a = none → H a ≠ none → H' a ≠ none := fun a h1 h2 => by
  cases e : H a with
  | none => exact absurd e h2
  | some o => rw [k a o h1 e]; exact fun z => nomatch z
/-- all that is nobody's stays -/
theorem Le.all {w w' : Wd} {H H' : Hp} (as : w.as <+: w'.as) (g : Same w.G w'.G) (own : ∀ a, w.ω a = none → H a ≠ none → w'.ω a = none) (kp : ∀ a o, w.ω a = none → H a = some o → H' a = some o) (gk : ∀ a, w.ω a = none → H a ≠ none → w'.G a = w.G a) : Le w H w' H' := ⟨as, g, own, fun a o h1 h2 _ _ => kp a o h1 h2, th_of kp, gk⟩
theorem Le.refl (w : Wd) (H : Hp) : Le w H w H := Le.all (List.prefix_refl _) (Same.refl _) (fun _ h _ => h) (fun _ _ _ h => h) (fun _ _ _ => rfl)
theorem Le.trans {w w1 w2 : Wd} {H H1 H2 : Hp} (a : Le w H w1 H1) (b : Le w1 H1 w2 H2) : Le w H w2 H2 := by
  refine ⟨a.as.trans b.as, a.g.trans b.g, fun x h1 h2 => b.own x (a.own x h1 h2) (a.th x h1 h2), fun x o h1 h2 h3 h4 => ?_, fun x h1 h2 => b.th x (a.own x h1 h2) (a.th x h1 h2), fun x h1 h2 => ?_⟩
  · exact b.kq x o (a.own x h1 (by rw [h2]; exact fun z => nomatch z)) (a.kq x o h1 h2 h3 h4) h3 (h4.imp (fun g => (a.gk x h1 (by rw [h2]; exact fun z => nomatch z)).trans g) id)
  · rw [b.gk x (a.own x h1 h2) (a.th x h1 h2), a.gk x h1 h2]
theorem pre_get {α : Type} {l l' : List α} {n : Nat} {a : α} (p : l <+: l') (h : l[n]? = some a) : l'[n]? = some a := by
  obtain ⟨m, rfl⟩ := p
  rw [List.getElem?_append_left (List.getElem?_eq_some_iff.mp h).1]
  exact h
section
variable {K : PySem.W.Frag} {cl : Cl}
theorem FvR.mono {w w' : Wd} (pa : w.as <+: w'.as) (pg : Same w.G w'.G) : ∀ {f : Fv} {v : V}, FvR K cl w f v → FvR K cl w' f v
  | .t _, _, h => Rep.mono pg h
  | .loc _, _, ⟨a, h, e⟩ => ⟨a, pre_get pa h, e⟩
theorem PvR.mono {κ : Type} {w w' : Wd} (pa : w.as <+: w'.as) (pg : Same w.G w'.G) {p : κ × Fv} {q : κ × V} (h : PvR K cl w p q) : PvR K cl w' p q := ⟨h.1, h.2.mono pa pg⟩
theorem FzR.mono2 {as as' : List Addr} {G G' : Hp} (pa : as <+: as') (sg : Same G G') {c : Cell} {a : Addr} (h : FzR K cl as G c a) : FzR K cl as' G' c a := by
  cases c with
  | fz x => exact Rep.mono sg h
  | dnl kvs => obtain ⟨o, xs, h1, h2, h3⟩ := h; exact ⟨o, xs, sg _ _ h1, h2.mono fun _ _ z => z.mono sg, h3⟩
  | dcl kvs => obtain ⟨o, vs, h1, h2⟩ := h; exact ⟨o, vs, sg _ _ h1, h2.mono fun _ _ z => z.mono (w := ⟨as, G, fun _ => none⟩) (w' := ⟨as', G', fun _ => none⟩) pa sg⟩
  | tpl xs => obtain ⟨vs, h1, h2⟩ := h; exact ⟨vs, sg _ _ h1, h2.mono fun _ _ z => z.mono (w := ⟨as, G, fun _ => none⟩) (w' := ⟨as', G', fun _ => none⟩) pa sg⟩
  | _ => trivial
theorem FzR.mono {as : List Addr} {G G' : Hp} (sg : Same G G') {c : Cell} {a : Addr} (h : FzR K cl as G c a) : FzR K cl as G' c a := h.mono2 (List.prefix_refl _) sg
theorem FzR.live {as : List Addr} {G : Hp} {c : Cell} {a : Addr} (h : c.live = true) : FzR K cl as G c a := by
  cases c with
  | fz x => cases h
  | dnl kvs => cases h
  | dcl kvs => cases h
  | tpl xs => cases h
  | _ => trivial
theorem VR.mono {w w' : Wd} {σ : St} (pa : w.as <+: w'.as) (pg : Same w.G w'.G) : ∀ {f : Val} {v : V}, VR K cl w σ f v → VR K cl w' σ f v
  | .t _, _, h => Rep.mono pg h
  | .loc _, _, ⟨a, h, e⟩ => ⟨a, pre_get pa h, e⟩
  | .sl _, _, h => h
theorem VR.le {w w' : Wd} {H H' : Hp} {σ : St} (l : Le w H w' H') {f : Val} {v : V} (h : VR K cl w σ f v) : VR K cl w' σ f v := h.mono l.as l.g
/-- a cell stays as it is where its address does -/
theorem CellR.keep {w w' : Wd} {H H' : Hp} (pa : w.as <+: w'.as) (pg : Same w.G w'.G) {c : Cell} {a : Addr} (e : ∀ o, H a = some o → H' a = some o) (h : CellR K cl w H c a) : CellR K cl w' H' c a := by
  cases c with
  | lst xs => obtain ⟨vs, h1, h2⟩ := h; exact ⟨vs, e _ h1, h2.mono fun _ _ z => z.mono pa pg⟩
  | dic l kvs => cases l with
    | false => obtain ⟨vs, h1, h2⟩ := h; exact ⟨vs, e _ h1, h2.mono fun _ _ z => z.mono pa pg⟩
    | true => obtain ⟨o, vs, h1, h2⟩ := h; exact ⟨o, vs, e _ h1, h2.mono fun _ _ z => z.mono pa pg⟩
  | dit l kvs => cases l with
    | false => obtain ⟨vs, h1, h2⟩ := h; exact ⟨vs, e _ h1, h2.mono fun _ _ z => z.mono pa pg⟩
    | true => obtain ⟨o, vs, h1, h2⟩ := h; exact ⟨o, vs, e _ h1, h2.mono fun _ _ z => z.mono pa pg⟩
  | dnn kvs => obtain ⟨xs, h1, h2, h3⟩ := h; exact ⟨xs, e _ h1, h2.mono fun _ _ z => z.mono pg, h3⟩
  | ins c fs => obtain ⟨C, dx, vs, h0, h1, h2⟩ := h; exact ⟨C, dx, vs, h0, e _ h1, h2.mono fun _ _ z => z.mono pa pg⟩
  | fz x => trivial
  | dnl x => trivial
  | dcl x => trivial
  | tpl x => trivial
  | tab q => obtain ⟨h0, ps, h1, h2, h3⟩ := h; exact ⟨h0, ps, e _ h1, h2, fun p cv hc => by obtain ⟨c, e1, e2⟩ := h3 p cv hc; exact ⟨c, e1, pg _ _ e2⟩⟩
  | dead => trivial
theorem OwnR.keep {G G' H H' : Hp} (pg : Same G G') {c : Own} {a : Addr} (e : ∀ o, H a = some o → H' a = some o) (h : OwnR K cl G H c a) : OwnR K cl G' H' c a := by
  cases c with
  | lst xs => obtain ⟨vs, h1, h2⟩ := h; exact ⟨vs, e _ h1, h2.mono pg⟩
  | dic l kvs => cases l with
    | false => obtain ⟨vs, h1, h2⟩ := h; exact ⟨vs, e _ h1, h2.mono pg⟩
    | true => obtain ⟨o, vs, h1, h2⟩ := h; exact ⟨o, vs, e _ h1, h2.mono pg⟩
  | dit l kvs => cases l with
    | false => obtain ⟨vs, h1, h2⟩ := h; exact ⟨vs, e _ h1, h2.mono pg⟩
    | true => obtain ⟨o, vs, h1, h2⟩ := h; exact ⟨o, vs, e _ h1, h2.mono pg⟩
theorem OwnR.keepN {G G' H H' : Hp} (pg : Same G G') {c : Own} {a : Addr} (e' : ∀ o, isTb o = false → H a = some o → H' a = some o) (h : OwnR K cl G H c a) : OwnR K cl G' H' c a := by
  cases c with
  | lst xs => obtain ⟨vs, h1, h2⟩ := h; exact ⟨vs, e' _ rfl h1, h2.mono pg⟩
  | dic l kvs => cases l with
    | false => obtain ⟨vs, h1, h2⟩ := h; exact ⟨vs, e' _ rfl h1, h2.mono pg⟩
    | true => obtain ⟨o, vs, h1, h2⟩ := h; exact ⟨o, vs, e' _ rfl h1, h2.mono pg⟩
  | dit l kvs => cases l with
    | false => obtain ⟨vs, h1, h2⟩ := h; exact ⟨vs, e' _ rfl h1, h2.mono pg⟩
    | true => obtain ⟨o, vs, h1, h2⟩ := h; exact ⟨o, vs, e' _ rfl h1, h2.mono pg⟩
theorem FnR.mono {G G' : Hp} (pg : Same G G') {q : Str} {cs : List T} {v : V} (h : FnR K cl G q cs v) : FnR K cl G' q cs v := by
  obtain ⟨f, d, clo, pm, ctv, e, h1, h2, h3, h4, hl, h5⟩ := h
  refine ⟨f, d, clo, pm, ctv, e, pg _ _ h1, pg _ _ h2, h3, h4, hl, fun i y hy => ?_⟩
  obtain ⟨c, t, x, u, o, k1, k2, k3, k0, k4, k5⟩ := h5 i y hy
  exact ⟨c, t, x, u, o, k1, k2, pg _ _ k3, k0, k4, k5.mono pg⟩
theorem Reps.length : ∀ {ts : List T} {vs : List V} {G : Hp}, Reps K cl G ts vs → ts.length = vs.length
  | _, _, _, .nil => rfl
  | _, _, _, .cons _ r => by rw [List.length_cons, List.length_cons, r.length]

theorem CellR.ntup {w : Wd} {H : Hp} {c : Cell} {a : Addr} {xs : List V} (hl : c.live = true) (h : CellR K cl w H c a) : H a ≠ some (.tup xs) := by
  intro z
  cases c with
  | lst ys => obtain ⟨vs, h1, _⟩ := h; rw [h1] at z; cases z
  | dic l kvs => cases l with
    | false => obtain ⟨vs, h1, _⟩ := h; rw [h1] at z; cases z
    | true => obtain ⟨o, vs, h1, _⟩ := h; rw [h1] at z; cases z
  | dit l kvs => cases l with
    | false => obtain ⟨vs, h1, _⟩ := h; rw [h1] at z; cases z
    | true => obtain ⟨o, vs, h1, _⟩ := h; rw [h1] at z; cases z
  | dnn kvs => obtain ⟨vs, h1, _⟩ := h; rw [h1] at z; cases z
  | ins d fs => obtain ⟨C, dx, vs, _, h1, _⟩ := h; rw [h1] at z; cases z
  | fz x => cases hl
  | dnl x => cases hl
  | dcl x => cases hl
  | tpl x => cases hl
  | tab q => obtain ⟨_, ps, h1, _⟩ := h; rw [h1] at z; cases z
  | dead => cases hl
theorem OwnR.ntup {G H : Hp} {c : Own} {a : Addr} {xs : List V} (h : OwnR K cl G H c a) : H a ≠ some (.tup xs) := by
  intro z
  cases c with
  | lst ys => obtain ⟨vs, h1, _⟩ := h; rw [h1] at z; cases z
  | dic l kvs => cases l with
    | false => obtain ⟨vs, h1, _⟩ := h; rw [h1] at z; cases z
    | true => obtain ⟨o, vs, h1, _⟩ := h; rw [h1] at z; cases z
  | dit l kvs => cases l with
    | false => obtain ⟨vs, h1, _⟩ := h; rw [h1] at z; cases z
    | true => obtain ⟨o, vs, h1, _⟩ := h; rw [h1] at z; cases z
/-- what someone owns is no tuple -/
theorem Rc.ntup {w : Wd} {μ : List Cell} {H : Hp} (r : Rc K cl w μ H) {a : Addr} {o : Owner} (h : w.ω a = some o) (xs : List V) : H a ≠ some (.tup xs) := fun z => by
  have := r.tu a xs z
  rw [(r.own a o h).1] at this
  cases this
/-- a new object that stands still: it joins G -/
theorem R.fresh {w : Wd} {st : DSt} {σ : St} {H : Hp} (r : R K cl w st σ H) {p : Addr} (hp : H p = none) (o : HO) :
    let w' : Wd := { w with G := upd w.G p o }
    R K cl w' st σ (upd H p o) ∧ Le w H w' (upd H p o) := by
  intro w'
  have gp : w.G p = none := by
    cases e : w.G p with
    | none => rfl
    | some u =>
      rcases r.rc.sub p u e with h | ⟨_, _, h⟩ <;> (rw [hp] at h; cases h)
  have op : w.ω p = none := by
    cases e : w.ω p with
    | none => rfl
    | some u => exact absurd hp (r.rc.own p u e).2
  have sg : Same w.G w'.G := fun b u e => by
    show upd w.G p o b = some u
    rw [upd_ne (ne_of_none e gp)]; exact e
  have kH : ∀ b u, H b = some u → upd H p o b = some u := fun b u e => by rw [upd_ne (ne_of_none e hp)]; exact e
  have le : Le w H w' (upd H p o) := Le.all (List.prefix_refl _) sg (fun _ h _ => h) (fun a u _ h => kH a u h) (fun a _ h2 => upd_ne fun z => h2 (z ▸ hp))
  refine ⟨⟨⟨fun a u e => ?_, r.rc.len, fun n c a h1 h2 h3 => ?_, fun a u e => ?_, fun n x a h1 h2 => (r.rc.fz n x a h1 h2).mono sg, fun a xs e => ?_⟩, r.slen, fun i s e => ?_⟩, le⟩
  · by_cases hb : a = p
    · subst hb
      have e' : upd w.G a o a = some u := e
      rw [upd_same] at e'; cases e'
      exact .inl upd_same
    · have e' : upd w.G p o a = some u := e
      rw [upd_ne hb] at e'
      rcases r.rc.sub a u e' with h | ⟨d, q, h⟩
      · exact .inl (kH _ _ h)
      · exact .inr ⟨d, q, kH _ _ h⟩
  · obtain ⟨x, y⟩ := r.rc.cell n c a h1 h2 h3
    exact ⟨x, CellR.keep (w := w) (w' := w') (List.prefix_refl w.as) sg (kH a) y⟩
  · have hne : a ≠ p := fun z => by rw [z] at e; rw [op] at e; cases e
    refine ⟨?_, ?_⟩
    · show upd w.G p o a = none
      rw [upd_ne hne]; exact (r.rc.own a u e).1
    · rw [upd_ne hne]; exact (r.rc.own a u e).2
  · show upd w.G p o a = _
    by_cases hb : a = p
    · subst hb
      rw [upd_same] at e ⊢; exact e
    · rw [upd_ne hb] at e ⊢; exact r.rc.tu a xs e
  · obtain ⟨x, h1, h2⟩ := r.slot i s e
    refine ⟨x, h1, ?_⟩
    cases s with
    | t y => exact Rep.mono sg h2
    | loc n => exact h2
    | own q => obtain ⟨a, e1, e2, e3⟩ := h2; exact ⟨a, e1, e2, e3.keep sg (kH a)⟩
    | exc c fs => trivial
    | fn L cs => exact FnR.mono sg h2
    | gf a => exact h2

theorem Rc.lst {w : Wd} {μ : List Cell} {H : Hp} (r : Rc K cl w μ H) {a : Addr} {xs : List V} (h : w.G a = some (.lst xs)) : H a = some (.lst xs) := by
  rcases r.sub a _ h with e | ⟨e, _⟩
  · exact e
  · cases e
theorem Rc.tup {w : Wd} {μ : List Cell} {H : Hp} (r : Rc K cl w μ H) {a : Addr} {xs : List V} (h : w.G a = some (.tup xs)) : H a = some (.tup xs) := by
  rcases r.sub a _ h with e | ⟨e, _⟩
  · exact e
  · cases e
theorem Rc.fro {w : Wd} {μ : List Cell} {H : Hp} (r : Rc K cl w μ H) {a : Addr} {xs : List V} (h : SqL K w.G a xs) : SqL K H a xs := by
  rcases h with (h | ⟨o, h⟩) | h
  · rcases r.sub a _ h with e | ⟨e, _⟩
    · exact .inl (.inl e)
    · cases e
  · rcases r.sub a _ h with e | ⟨e, _⟩
    · exact .inl (.inr ⟨o, e⟩)
    · cases e
  · exact .inr h
theorem Rc.ins {w : Wd} {μ : List Cell} {H : Hp} (r : Rc K cl w μ H) {a C dx : Addr} {fs : List (Str × V)} (h : w.G a = some (.ins C dx fs)) : H a = some (.ins C dx fs) := by
  rcases r.sub a _ h with e | ⟨e, _⟩
  · exact e
  · cases e
theorem Rc.dK {w : Wd} {μ : List Cell} {H : Hp} (r : Rc K cl w μ H) {a : Addr} {xs : List (Key × V)} (h : w.G a = some (.dK xs)) : Rd H a (.dK xs) := by
  rcases r.sub a _ h with e | ⟨_, q, e⟩
  · exact .inl e
  · exact .inr ⟨q, e⟩
theorem Rc.dT {w : Wd} {μ : List Cell} {H : Hp} (r : Rc K cl w μ H) {a : Addr} {xs : List (List Key × V)} (h : w.G a = some (.dT xs)) : Rd H a (.dT xs) := by
  rcases r.sub a _ h with e | ⟨_, q, e⟩
  · exact .inl e
  · exact .inr ⟨q, e⟩
theorem Reps.fv {w : Wd} : ∀ {ts : List T} {vs : List V}, Reps K cl w.G ts vs → Paired (FvR K cl w) (ts.map Fv.t) vs
  | _, _, .nil => .nil
  | _, _, .cons h r => .cons h r.fv
/-- all plain -/
def plains : List Fv → Option (List T)
  | [] => some []
  | .t x :: r => (plains r).map (x :: ·)
  | .loc _ :: _ => none
theorem plains_reps {w : Wd} : ∀ {fs : List Fv} {ts : List T} {vs : List V}, plains fs = some ts → Paired (FvR K cl w) fs vs → Reps K cl w.G ts vs
  | [], _, _, h, .nil => by cases h; exact .nil
  | .t x :: r, ts, _, h, .cons a b => by
    unfold plains at h
    cases e : plains r with
    | none => rw [e] at h; cases h
    | some q => rw [e] at h; cases h; exact .cons a (plains_reps e b)
  | .loc _ :: _, _, _, h, _ => by cases h
/-- a slot as a value -/
def own1 (s : DSt) (i : Nat) : Option Slot := (s.δ[i]?).join
/-- a list with plain items -/
def lstOf (s : DSt) : Val → Option (List T)
  | .t (.lst xs) => some xs
  | .loc n => match s.μ[n]? with
    | some (.lst xs) => plains xs
    | _ => none
  | .sl i => match s.δ[i]? with
    | some (some (.own (.lst xs))) => some xs
    | some (some (.t (.lst xs))) => some xs
    | _ => none
  | _ => none
def tupOf : Val → Option (List T)
  | .t (.tup xs) => some xs
  | _ => none
/-- a list, a tuple, to be read: whether it is a tuple, its items -/
def seqOf (s : DSt) : Val → Option (Bool × List Fv)
  | .t (.lst xs) => some (false, xs.map .t)
  | .t (.fro xs) => some (false, xs.map .t)
  | .t (.tup xs) => some (true, xs.map .t)
  | .loc n => match s.μ[n]? with
    | some (.lst xs) => some (false, xs)
    | some (.tpl xs) => some (true, xs)
    | _ => none
  | .sl i => match s.δ[i]? with
    | some (some (.own (.lst xs))) => some (false, xs.map .t)
    | some (some (.t (.lst xs))) => some (false, xs.map .t)
    | _ => none
  | _ => none
theorem lst_at {w : Wd} {st : DSt} {σ : L2.St} {H : Hp} (r : R K cl w st σ H) {v : Val} {x : V} {ts : List T} (h : lstOf st v = some ts) (hv : VR K cl w σ v x) : ∃ a vs, x = .ref a ∧ H a = some (.lst vs) ∧ Reps K cl w.G ts vs := by
  cases v with
  | t y => cases y with
    | lst xs =>
      cases h
      cases hv with
      | lst e q => exact ⟨_, _, rfl, r.rc.lst e, q⟩
    | _ => cases h
  | loc n =>
    obtain ⟨a, ha, rfl⟩ := hv
    unfold lstOf at h
    dsimp only at h
    split at h
    · rename_i xs e
      obtain ⟨_, vs, e2, q⟩ := r.rc.cell n _ a e ha rfl
      exact ⟨a, vs, rfl, e2, plains_reps h q⟩
    · cases h
  | sl i =>
    unfold lstOf at h
    dsimp only at h
    split at h
    · rename_i xs e
      cases h
      obtain ⟨y, e1, a, e2, _, vs, e3, q⟩ := r.slot i _ e
      rw [show σ[i]? = some (some x) from hv] at e1
      cases e1
      exact ⟨a, vs, e2, e3, q⟩
    · rename_i xs e
      cases h
      obtain ⟨y, e1, q⟩ := r.slot i _ e
      rw [show σ[i]? = some (some x) from hv] at e1
      cases e1
      cases q with
      | lst e q => exact ⟨_, _, rfl, r.rc.lst e, q⟩
    · cases h
theorem seq_at {w : Wd} {st : DSt} {σ : L2.St} {H : Hp} (r : R K cl w st σ H) {v : Val} {x : V} {b : Bool} {ts : List Fv} (h : seqOf st v = some (b, ts)) (hv : VR K cl w σ v x) : ∃ a vs, x = .ref a ∧ (if b then SqT K H a vs else SqL K H a vs) ∧ Paired (FvR K cl w) ts vs := by
  cases v with
  | t y => cases y with
    | lst xs =>
      cases h
      cases hv with
      | lst e q => exact ⟨_, _, rfl, SqL.of (r.rc.lst e), q.fv⟩
    | fro xs =>
      cases h
      cases hv with
      | fro e q => exact ⟨_, _, rfl, r.rc.fro e, q.fv⟩
    | tup xs =>
      cases h
      cases hv with
      | tup e q => exact ⟨_, _, rfl, SqT.of (r.rc.tup e), q.fv⟩
    | _ => cases h
  | loc n =>
    obtain ⟨a, ha, rfl⟩ := hv
    unfold seqOf at h
    dsimp only at h
    split at h
    · rename_i xs e
      cases h
      obtain ⟨_, vs, e2, q⟩ := r.rc.cell n _ a e ha rfl
      exact ⟨a, vs, rfl, SqL.of e2, q⟩
    · rename_i xs e
      cases h
      obtain ⟨vs, e2, q⟩ := r.rc.fz n _ a e ha
      exact ⟨a, vs, rfl, SqT.of (r.rc.tup e2), q.mono fun _ _ z => z.mono (w := ⟨w.as, w.G, fun _ => none⟩) (w' := w) (List.prefix_refl _) (Same.refl _)⟩
    · cases h
  | sl i =>
    unfold seqOf at h
    dsimp only at h
    split at h
    · rename_i xs e
      cases h
      obtain ⟨y, e1, a, e2, _, vs, e3, q⟩ := r.slot i _ e
      rw [show σ[i]? = some (some x) from hv] at e1
      cases e1
      exact ⟨a, vs, e2, SqL.of e3, q.fv⟩
    · rename_i xs e
      cases h
      obtain ⟨y, e1, q⟩ := r.slot i _ e
      rw [show σ[i]? = some (some x) from hv] at e1
      cases e1
      cases q with
      | lst e q => exact ⟨_, _, rfl, SqL.of (r.rc.lst e), q.fv⟩
    · cases h
end
end Lf
namespace Lf
open PySem PySem.Spec L2

/-- what is wanted of exceptions, and that loops pass them on -/
structure Cw (X : Cx) (W : WX) : Prop where
  tk : Takes X W
  po : PassesOwn (model X.prog X.w) X.A X.env X.xe
def WE (X : Cx) (e : Expr) : TE := fun σ H Q => ∀ pins s, Inv X pins σ H s → wpAny (model X.prog X.w) X.A (eval e X.env) (EP X pins σ Q) X.xe s
theorem peW {X : Cx} {e : Expr} : PE X e (WE X e) := ⟨fun pins s σ H Q I h => h pins s I⟩
theorem PE.we {X : Cx} {e : Expr} {t : TE} (h : PE X e t) {σ : L2.St} {H : Hp} {Q : VK} (q : t σ H Q) : WE X e σ H Q := fun pins s I => h.run pins s σ H Q I q
def WT (X : Cx) (e : Expr) : TT := fun σ H Q => ∀ pins s, Inv X pins σ H s → wpAny (model X.prog X.w) X.A (isTrue e X.env (eval e X.env)) (TP X pins σ Q) X.xe s
theorem ptW {X : Cx} {e : Expr} : PT X e (WT X e) := ⟨fun pins s σ H Q I h => h pins s I⟩
theorem PT.wt {X : Cx} {e : Expr} {t : TT} (h : PT X e t) {σ : L2.St} {H : Hp} {Q : Bool → Hp → Prop} (q : t σ H Q) : WT X e σ H Q := fun pins s I => h.run pins s σ H Q I q
def WW (X : Cx) (e : Expr) : TT := fun σ H Q => ∀ whole pins s, Inv X pins σ H s → wpAny (model X.prog X.w) X.A (isTrue e X.env whole) (TP X pins σ Q) X.xe s
theorem pwW {X : Cx} {e : Expr} : PW X e (WW X e) := ⟨fun whole pins s σ H Q I h => h whole pins s I⟩
theorem PW.ww {X : Cx} {e : Expr} {t : TT} (h : PW X e t) {σ : L2.St} {H : Hp} {Q : Bool → Hp → Prop} (q : t σ H Q) : WW X e σ H Q := fun whole pins s I => h.run whole pins s σ H Q I q
def WA (X : Cx) (es : List Expr) : TA := fun σ H Q => ∀ (pos : Pos) pins s, Inv X pins σ H s → wpAny (model X.prog X.w) X.A (spliced (backTo pos (starEach es X.env))) (AP X pins σ Q) X.xe s
theorem paW {X : Cx} {es : List Expr} : PA X es (WA X es) := ⟨fun pos pins s σ H Q I h => h pos pins s I⟩
theorem PA.wa {X : Cx} {es : List Expr} {t : TA} (h : PA X es t) {σ : L2.St} {H : Hp} {Q : List V → Hp → Prop} (q : t σ H Q) : WA X es σ H Q := fun pos pins s I => h.run pos pins s σ H Q I q
def WS (X : Cx) (st : Stmt) : TS := fun D σ H => ∀ pins s, Inv X pins σ H s → wpAny (model X.prog X.w) X.A (exec st X.env) (SP X pins D) X.xe s
theorem psW {X : Cx} {st : Stmt} : PS X st (WS X st) := ⟨fun pins s σ H D I h => h pins s I⟩
theorem PS.ws {X : Cx} {st : Stmt} {t : TS} (h : PS X st t) {σ : L2.St} {H : Hp} {D : Ends} (q : t D σ H) : WS X st D σ H := fun pins s I => h.run pins s σ H D I q
def WSs (X : Cx) (st : List Stmt) : TS := fun D σ H => ∀ pins s, Inv X pins σ H s → wpAny (model X.prog X.w) X.A (execs st X.env) (SP X pins D) X.xe s
theorem pssW {X : Cx} {st : List Stmt} : PSs X st (WSs X st) := ⟨fun pins s σ H D I h => h pins s I⟩
theorem PSs.ws {X : Cx} {st : List Stmt} {t : TS} (h : PSs X st t) {σ : L2.St} {H : Hp} {D : Ends} (q : t D σ H) : WSs X st D σ H := fun pins s I => h.run pins s σ H D I q

section
variable (cl : Cl) (X : Cx)
/-- the end of a piece of the plain semantics: Q of a value, W of an exception -/
def Post {α : Type} (W : WX) (σ : L2.St) (w : Wd) (H : Hp) (o : Out α) (st' : DSt) (Q : α → Wd → Hp → Prop) : Prop :=
  match o with
  | .ok v => ∀ w' H', Le w H w' H' → R X.K cl w' st' σ H' → Q v w' H'
  | .exc c fs => ∀ w' H' cv d, Le w H w' H' → R X.K cl w' st' σ H' → ExR X.K cl w' H' c fs cv d → W cv d σ H'
def DE (e : Expr) (f : M Val) : Prop := ∀ (W : WX), Cw X W → ∀ (w : Wd) (st : DSt) (σ : L2.St) (H : Hp) (Q : VK) (o : Out Val) (st' : DSt), R X.K cl w st σ H → f st = some (o, st') →
  Post cl X W σ w H o st' (fun v w' H' => ∀ x, VR X.K cl w' σ v x → Q x H') → WE X e σ H Q
def DT (e : Expr) (f : M Bool) : Prop := ∀ (W : WX), Cw X W → ∀ (w : Wd) (st : DSt) (σ : L2.St) (H : Hp) (Q : Bool → Hp → Prop) (o : Out Bool) (st' : DSt), R X.K cl w st σ H → f st = some (o, st') →
  Post cl X W σ w H o st' (fun v _ H' => Q v H') → WT X e σ H Q
def DW (e : Expr) (f : M Bool) : Prop := ∀ (W : WX), Cw X W → ∀ (w : Wd) (st : DSt) (σ : L2.St) (H : Hp) (Q : Bool → Hp → Prop) (o : Out Bool) (st' : DSt), R X.K cl w st σ H → f st = some (o, st') →
  Post cl X W σ w H o st' (fun v _ H' => Q v H') → WW X e σ H Q
def DA (es : List Expr) (f : M (List Val)) : Prop := ∀ (W : WX), Cw X W → ∀ (w : Wd) (st : DSt) (σ : L2.St) (H : Hp) (Q : List V → Hp → Prop) (o : Out (List Val)) (st' : DSt), R X.K cl w st σ H → f st = some (o, st') →
  Post cl X W σ w H o st' (fun vs w' H' => ∀ xs, Paired (VR X.K cl w' σ) vs xs → Q xs H') → WA X es σ H Q
/-- an expression that makes a new object, nobody's as yet -/
def DF (e : Expr) (f : M Own) : Prop := ∀ (W : WX), Cw X W → ∀ (w : Wd) (st : DSt) (σ : L2.St) (H : Hp) (Q : VK) (o : Out Own) (st' : DSt), R X.K cl w st σ H → f st = some (o, st') →
  Post cl X W σ w H o st' (fun v w' H' => ∀ (p : Addr) (ho : HO), H' p = none → (∀ H2, H2 p = some ho → OwnR X.K cl w'.G H2 v p) → Q (.ref p) (upd H' p ho)) → WE X e σ H Q
inductive Fl where
  | nx | rt (v : Val) | rf (o : Own) | bk | ct
def SPost (W : WX) (w : Wd) (H : Hp) (D : Ends) (o : Out Fl) (st' : DSt) : Prop :=
  match o with
  | .ok .nx => ∀ w' σ' H', Le w H w' H' → R X.K cl w' st' σ' H' → D.nx σ' H'
  | .ok (.rt v) => ∀ w' σ' H', Le w H w' H' → R X.K cl w' st' σ' H' → ∀ x, VR X.K cl w' σ' v x → D.rt x H'
  | .ok (.rf v) => ∀ w' σ' H', Le w H w' H' → R X.K cl w' st' σ' H' → ∀ (p : Addr) (ho : HO), H' p = none → (∀ H2, H2 p = some ho → OwnR X.K cl w'.G H2 v p) → D.rt (.ref p) (upd H' p ho)
  | .ok .bk => ∀ w' σ' H', Le w H w' H' → R X.K cl w' st' σ' H' → D.bk σ' H'
  | .ok .ct => ∀ w' σ' H', Le w H w' H' → R X.K cl w' st' σ' H' → D.ct σ' H'
  | .exc c fs => ∀ w' σ' H' cv d, Le w H w' H' → R X.K cl w' st' σ' H' → ExR X.K cl w' H' c fs cv d → W cv d σ' H'
def DS (s : Stmt) (f : M Fl) : Prop := ∀ (W : WX), Cw X W → ∀ (w : Wd) (st : DSt) (σ : L2.St) (H : Hp) (D : Ends) (o : Out Fl) (st' : DSt), R X.K cl w st σ H → f st = some (o, st') →
  SPost cl X W w H D o st' → WS X s D σ H
def DSs (ss : List Stmt) (f : M Fl) : Prop := ∀ (W : WX), Cw X W → ∀ (w : Wd) (st : DSt) (σ : L2.St) (H : Hp) (D : Ends) (o : Out Fl) (st' : DSt), R X.K cl w st σ H → f st = some (o, st') →
  SPost cl X W w H D o st' → WSs X ss D σ H
end
section
variable {cl : Cl} {X : Cx}
theorem Post.after {α : Type} {W : WX} {σ : L2.St} {w w1 : Wd} {H H1 : Hp} {o : Out α} {st' : DSt} {Q : α → Wd → Hp → Prop} (l : Le w H w1 H1) (p : Post cl X W σ w H o st' Q) : Post cl X W σ w1 H1 o st' Q := by
  cases o with
  | ok v => exact fun w' H' l' r => p w' H' (l.trans l') r
  | exc c fs => exact fun w' H' cv d l' r => p w' H' cv d (l.trans l') r
theorem SPost.after {W : WX} {w w1 : Wd} {H H1 : Hp} {D : Ends} {o : Out Fl} {st' : DSt} (l : Le w H w1 H1) (p : SPost cl X W w H D o st') : SPost cl X W w1 H1 D o st' := by
  cases o with
  | ok v => cases v with
    | nx => exact fun w' σ' H' l' r => p w' σ' H' (l.trans l') r
    | rt v => exact fun w' σ' H' l' r => p w' σ' H' (l.trans l') r
    | rf v => exact fun w' σ' H' l' r => p w' σ' H' (l.trans l') r
    | bk => exact fun w' σ' H' l' r => p w' σ' H' (l.trans l') r
    | ct => exact fun w' σ' H' l' r => p w' σ' H' (l.trans l') r
  | exc c fs => exact fun w' σ' H' cv d l' r => p w' σ' H' cv d (l.trans l') r
/-- an exception of a part is one of the whole -/
theorem Post.exc {α β : Type} {W : WX} {σ : L2.St} {w : Wd} {H : Hp} {c : Str} {fs : List (Str × T)} {st' : DSt} {Q : α → Wd → Hp → Prop} {Q' : β → Wd → Hp → Prop} (p : Post cl X W σ w H (.exc c fs : Out α) st' Q) : Post cl X W σ w H (.exc c fs : Out β) st' Q' := p
theorem SPost.toPost {α : Type} {W : WX} {σ : L2.St} {w : Wd} {H : Hp} {D : Ends} {c : Str} {fs : List (Str × T)} {st' : DSt} {Q : α → Wd → Hp → Prop} (p : SPost cl X W w H D (.exc c fs) st') : Post cl X W σ w H (.exc c fs : Out α) st' Q :=
  fun w' H' cv d l r x => p w' σ H' cv d l r x

theorem de_int {i : Int} {j pos} : DE cl X (.Constant (.int i) j pos) (ret (.t (.int i))) := fun W cw w st σ H Q o st' r h p => by
  cases h
  exact PE.we pe_int (p w H (Le.refl _ _) r _ (Rep.int i))
theorem de_bl {i : Bool} {j pos} : DE cl X (.Constant (.bool i) j pos) (ret (.t (.bl i))) := fun W cw w st σ H Q o st' r h p => by
  cases h
  exact PE.we pe_bl (p w H (Le.refl _ _) r _ (Rep.bl i))
theorem de_non {j pos} : DE cl X (.Constant .none j pos) (ret (.t .non)) := fun W cw w st σ H Q o st' r h p => by
  cases h
  exact PE.we pe_non (p w H (Le.refl _ _) r _ Rep.non)
theorem de_str {x : Str} {j pos} : DE cl X (.Constant (.str x) j pos) (ret (.t (.str x))) := fun W cw w st σ H Q o st' r h p => by
  cases h
  exact PE.we pe_str (p w H (Le.refl _ _) r _ (Rep.str x))
/-- a name of the def -/
def dVar (i : Nat) : M Val := fun s => match s.δ[i]? with
  | some (some (.t x)) => some (.ok (.t x), s)
  | some (some (.loc n)) => some (.ok (.loc n), s)
  | some (some (.own _)) => some (.ok (.sl i), s)
  | _ => none
theorem de_var {i : Nat} {x : Str} {pos : Pos} (hN : X.N[i]? = some x) (hv : Vis X.env.scope x) (hd : (x == ("__debug__" : Str)) = false) (hcd : (x == ("__classdict__" : Str)) = false) : DE cl X (.Name x pos) (dVar i) := fun W cw w st σ H Q o st' r h p => by
  unfold dVar at h
  cases e : st.δ[i]? with
  | none => rw [e] at h; cases h
  | some q => cases q with
    | none => rw [e] at h; cases h
    | some s =>
      rw [e] at h
      obtain ⟨v, e1, e2⟩ := r.slot i s e
      cases s with
      | t y => cases h; exact PE.we (pe_var hN hv hd hcd) ⟨v, e1, p w H (Le.refl _ _) r v e2⟩
      | loc n => cases h; exact PE.we (pe_var hN hv hd hcd) ⟨v, e1, p w H (Le.refl _ _) r v e2⟩
      | own o => cases h; exact PE.we (pe_var hN hv hd hcd) ⟨v, e1, p w H (Le.refl _ _) r v e1⟩
      | exc c fs => cases h
      | fn L cs => cases h
      | gf a => cases h
/-- a rule of values: f, the model's; g, the plain one -/
def DOp (cl : Cl) (X : Cx) (f : Value → Value → Sem Value) (g : Val → Val → M Val) : Prop :=
  ∀ (W : WX), Cw X W → ∀ (w : Wd) (st : DSt) (σ : L2.St) (H : Hp) (Q : VK) (o : Out Val) (st' : DSt) (a b : Val) (x y : V) (u v : Value) (pins : List (Addr × Obj)) (s : Shared), R X.K cl w st σ H → VR X.K cl w σ a x → VR X.K cl w σ b y → g a b st = some (o, st') →
  Post cl X W σ w H o st' (fun v w' H' => ∀ x, VR X.K cl w' σ v x → Q x H') → Inv X pins σ H s → RelV x u → RelV y v → wpAny (model X.prog X.w) X.A (f u v) (EP X pins σ Q) X.xe s
def dBin (g : Val → Val → M Val) (fa fb : M Val) : M Val := bnd fa fun a => bnd fb fun b => g a b
theorem OpR.all {f : Value → Value → Sem Value} : OpR X f (fun x y H Q => ∀ (pins : List (Addr × Obj)) (s : Shared) (σ : L2.St) (u v : Value), Inv X pins σ H s → RelV x u → RelV y v → wpAny (model X.prog X.w) X.A (f u v) (EP X pins σ Q) X.xe s) :=
  fun pins s σ H x y v u Q I r1 r2 h => h pins s σ v u I r1 r2
/-- a rule of values at the slots at hand -/
theorem bin_at {f : Value → Value → Sem Value} {g : Val → Val → M Val} (ho : DOp cl X f g) {a b : Expr} {fa fb : M Val} (ha : DE cl X a fa) (hb : DE cl X b fb) {W : WX} (cw : Cw X W) {w : Wd} {st st' : DSt} {σ : L2.St} {H : Hp} {Q : VK} {o : Out Val} (r : R X.K cl w st σ H)
    (h : dBin g fa fb st = some (o, st')) (p : Post cl X W σ w H o st' (fun v w' H' => ∀ x, VR X.K cl w' σ v x → Q x H')) :
    tOp (fun x y H Q => ∀ (pins : List (Addr × Obj)) (s : Shared) (u v : Value), Inv X pins σ H s → RelV x u → RelV y v → wpAny (model X.prog X.w) X.A (f u v) (EP X pins σ Q) X.xe s) (WE X a) (WE X b) σ H Q := by
  unfold tOp
  rcases bnd_some h with ⟨c, fs, h1, rfl⟩ | ⟨va, st1, h1, h2⟩
  · exact ha W cw w st σ H _ _ st' r h1 p
  · refine ha W cw w st σ H _ _ st1 r h1 fun w1 H1 l1 r1 x hx => ?_
    rcases bnd_some h2 with ⟨c, fs, h3, rfl⟩ | ⟨vb, st2, h3, h4⟩
    · exact hb W cw w1 st1 σ H1 _ _ st' r1 h3 (p.after l1)
    · refine hb W cw w1 st1 σ H1 _ _ st2 r1 h3 fun w2 H2 l2 r2 y hy => ?_
      intro pins s u v I ru rv
      exact ho W cw w2 st2 σ H2 Q o st' va vb x y u v pins s r2 (hx.le l2) hy h4 (p.after (l1.trans l2)) I ru rv
theorem de_op {op : Operator} {g : Val → Val → M Val} {a b : Expr} {pos : Pos} {fa fb : M Val} (ho : DOp cl X (binaryOp op) g) (ha : DE cl X a fa) (hb : DE cl X b fb) : DE cl X (.BinOp a op b pos) (dBin g fa fb) := fun W cw w st σ H Q o st' r h p => by
  intro pins s I
  have q := bin_at ho ha hb cw r h p
  refine PySem.wpAny_BinOp (L2.bin (X := X) peW peW I q fun v u s2 x y H2 I2 rx ry q => q pins s2 v u I2 rx ry)
theorem de_cmp {op : CmpOp} {g : Val → Val → M Val} {a b : Expr} {pos : Pos} {fa fb : M Val} (ho : DOp cl X (compareOp op) g) (hm : behindInMarks op b = false) (ha : DE cl X a fa) (hb : DE cl X b fb) : DE cl X (.Compare a [op] [b] pos) (dBin g fa fb) := fun W cw w st σ H Q o st' r h p => by
  intro pins s I
  have q := bin_at ho ha hb cw r h p
  exact wpAny_Compare1 (L2.bin (X := X) peW peW I q fun v u s2 x y H2 I2 rx ry q => q pins s2 v u I2 rx ry) hm
end
end Lf
namespace Lf
open PySem PySem.Spec L2
section
variable {cl : Cl} {X : Cx}
theorem Reps.append {K : PySem.W.Frag} {G : Hp} : ∀ {a b : List T} {x y : List V}, Reps K cl G a x → Reps K cl G b y → Reps K cl G (a ++ b) (x ++ y)
  | _, _, _, _, .nil, q => q
  | _, _, _, _, .cons h r, q => .cons h (r.append q)
/-- the end of a step that changes nothing -/
theorem fin0 {α : Type} {W : WX} {σ : L2.St} {w : Wd} {H : Hp} {v : α} {st : DSt} {Q : α → Wd → Hp → Prop} (r : R X.K cl w st σ H) (p : Post cl X W σ w H (.ok v) st Q) : Q v w H := p w H (Le.refl _ _) r
/-- .. that makes a new list or tuple, which stands still -/
theorem finL {W : WX} {σ : L2.St} {w : Wd} {H : Hp} {ts : List T} {vs : List V} {st : DSt} {Q : VK} (r : R X.K cl w st σ H) (q : Reps X.K cl w.G ts vs) (p : Post cl X W σ w H (.ok (.t (.lst ts))) st (fun v w' H' => ∀ x, VR X.K cl w' σ v x → Q x H')) {a : Addr} (ha : H a = none) : Q (.ref a) (upd H a (.lst vs)) := by
  obtain ⟨r', l⟩ := r.fresh ha (.lst vs)
  exact p _ _ l r' (.ref a) (Rep.lst upd_same (q.mono l.g))
theorem finT {W : WX} {σ : L2.St} {w : Wd} {H : Hp} {ts : List T} {vs : List V} {st : DSt} {Q : VK} (r : R X.K cl w st σ H) (q : Reps X.K cl w.G ts vs) (p : Post cl X W σ w H (.ok (.t (.tup ts))) st (fun v w' H' => ∀ x, VR X.K cl w' σ v x → Q x H')) {a : Addr} (ha : H a = none) : Q (.ref a) (upd H a (.tup vs)) := by
  obtain ⟨r', l⟩ := r.fresh ha (.tup vs)
  exact p _ _ l r' (.ref a) (Rep.tup upd_same (q.mono l.g))

def dInt (c : Int → Int → Bool) (g : Int → Int → T) : Val → Val → M Val
  | .t (.int i), .t (.int j) => if c i j then ret (.t (g i j)) else stuck
  | _, _ => stuck
theorem dop_int {f : Value → Value → Sem Value} {C : Int → Int → Prop} {c : Int → Int → Bool} {g : Int → Int → V} {g' : Int → Int → T} (ho : OpR X f (rI C g)) (hc : ∀ i j, c i j = true → C i j) (hg : ∀ K G i j, Rep K cl G (g' i j) (g i j)) : DOp cl X f (dInt c g') := fun W cw w st σ H Q o st' a b x y u v pins s r ha hb h p I ru rv => by
  unfold dInt at h
  split at h
  · rename_i i j
    split at h
    · rename_i hcc
      cases h
      cases ha
      cases hb
      exact ho pins s σ H _ _ u v Q I ru rv ⟨i, j, rfl, rfl, hc i j hcc, fin0 r p _ (hg _ _ _ _)⟩
    · cases h
  · cases h
theorem rI_of {f : Value → Value → Sem Value} {g : Int → Int → V} (ho : OpR X f (rI0 g)) : OpR X f (rI (fun _ _ => True) g) := fun pins s σ H x y v u Q I r1 r2 ⟨i, j, e1, e2, _, q⟩ => ho pins s σ H x y v u Q I r1 r2 ⟨i, j, e1, e2, q⟩
abbrev yes2 : Int → Int → Bool := fun _ _ => true
theorem op2_sub : DOp cl X (binaryOp .Sub) (dInt yes2 fun i j => .int (i - j)) := dop_int (rI_of op_sub) (fun _ _ _ => trivial) fun _ _ _ _ => .int _
abbrev cDiv : Int → Int → Bool := fun _ j => decide (0 < j) && decide (j < 1073741824)
theorem op2_fdiv : DOp cl X (binaryOp .FloorDiv) (dInt cDiv fun i j => .int (i / j)) := dop_int op_fdiv (fun i j h => by simp only [cDiv, Bool.and_eq_true, decide_eq_true_eq] at h; exact h) fun _ _ _ _ => .int _
abbrev cMod : Int → Int → Bool := fun _ j => decide (0 < j)
theorem op2_mod : DOp cl X (binaryOp .Mod) (dInt cMod fun i j => .int (i % j)) := dop_int op_mod (fun i j h => by simpa only [cMod, decide_eq_true_eq] using h) fun _ _ _ _ => .int _
abbrev cPow : Int → Int → Bool := fun i j => decide (0 ≤ j) && decide (j ≤ 1000000) && decide (i.natAbs < 2 ^ 64)
theorem op2_pow : DOp cl X (binaryOp .Pow) (dInt cPow fun i j => .int (i ^ j.toNat)) := dop_int op_pow (fun i j h => by simp only [cPow, Bool.and_eq_true, decide_eq_true_eq] at h; exact ⟨h.1.1, h.1.2, h.2⟩) fun _ _ _ _ => .int _
theorem op2_lt : DOp cl X (compareOp .Lt) (dInt yes2 fun i j => .bl (decide (i < j))) := dop_int (rI_of op_lt) (fun _ _ _ => trivial) fun _ _ _ _ => .bl _
theorem op2_gt : DOp cl X (compareOp .Gt) (dInt yes2 fun i j => .bl (decide (j < i))) := dop_int (rI_of op_gt) (fun _ _ _ => trivial) fun _ _ _ _ => .bl _
theorem op2_ge : DOp cl X (compareOp .GtE) (dInt yes2 fun i j => .bl (decide (j ≤ i))) := dop_int (rI_of op_ge) (fun _ _ _ => trivial) fun _ _ _ _ => .bl _
def dAdd (a b : Val) : M Val := fun s => match a, b with
  | .t (.int i), .t (.int j) => some (.ok (.t (.int (i + j))), s)
  | .t (.str x), .t (.str y) => if x.length + y.length ≤ sizeLine then some (.ok (.t (.str (x ++ y))), s) else none
  | a, b => match lstOf s a, lstOf s b with
    | some xs, some ys => if xs.length + ys.length ≤ sizeLine then some (.ok (.t (.lst (xs ++ ys))), s) else none
    | _, _ => none
theorem op2_add : DOp cl X (binaryOp .Add) dAdd := fun W cw w st σ H Q o st' a b x y u v pins s r ha hb h p I ru rv => by
  unfold dAdd at h
  split at h
  · cases h
    cases ha
    cases hb
    exact op_add pins s σ H _ _ u v Q I ru rv ⟨_, _, rfl, rfl, fin0 r p _ (.int _)⟩
  · split at h
    · rename_i hl
      cases h
      cases ha
      cases hb
      exact op_add_str pins s σ H _ _ u v Q I ru rv ⟨_, _, rfl, rfl, hl, fin0 r p _ (.str _)⟩
    · cases h
  · split at h
    · rename_i xs ys e1 e2
      split at h
      · rename_i hl
        cases h
        obtain ⟨a1, vs1, rfl, g1, q1⟩ := lst_at r e1 ha
        obtain ⟨a2, vs2, rfl, g2, q2⟩ := lst_at r e2 hb
        exact op_cat pins s σ H _ _ u v Q I ru rv ⟨a1, a2, vs1, vs2, rfl, rfl, g1, g2, by rw [← q1.length, ← q2.length]; exact hl, fun p0 hp0 => finL r (q1.append q2) p hp0⟩
      · cases h
    · cases h
def dMul (a b : Val) : M Val := fun s => match a, b with
  | .t (.int i), .t (.int j) => if (decide (-(2 ^ 64) < i) && decide (i < 2 ^ 64)) || (decide (-(2 ^ 64) < j) && decide (j < 2 ^ 64)) then some (.ok (.t (.int (i * j))), s) else none
  | _, _ => none
theorem op2_mul : DOp cl X (binaryOp .Mult) dMul := fun W cw w st σ H Q o st' a b x y u v pins s r ha hb h p I ru rv => by
  unfold dMul at h
  split at h
  · split at h
    · rename_i hl
      cases h
      cases ha
      cases hb
      simp only [Bool.or_eq_true, Bool.and_eq_true, decide_eq_true_eq] at hl
      exact op_mul pins s σ H _ _ u v Q I ru rv ⟨_, _, rfl, rfl, hl, fin0 r p _ (.int _)⟩
    · cases h
  · cases h
mutual
def T.pd : T → Option PyData
  | .non => some .none
  | .bl b => some (.bool b)
  | .int i => some (.int i)
  | .str x => some (.str x)
  | .lst xs => (T.pds xs).map .list
  | .tup xs => (T.pds xs).map .tuple
  | _ => none
def T.pds : List T → Option (List PyData)
  | [] => some []
  | x :: r => match T.pd x, T.pds r with
    | some d, some ds => some (d :: ds)
    | _, _ => none
end
mutual
theorem Rep.dp {w : Wd} {μ : List Cell} {H : Hp} (r : Rc X.K cl w μ H) : ∀ {t : T} {v : V} {d : PyData}, Rep X.K cl w.G t v → T.pd t = some d → Dp X.K H v d
  | _, _, _, .non, h => by cases h; exact .non
  | _, _, _, .bl b, h => by cases h; exact .bl _
  | _, _, _, .int b, h => by cases h; exact .int _
  | _, _, _, .str b, h => by cases h; exact .str _
  | _, _, _, .lst (ts := ts) e q, h => by
    simp only [T.pd, Option.map_eq_some_iff] at h
    obtain ⟨ds, h1, rfl⟩ := h
    exact .lst (SqL.of (r.lst e)) (Reps.dp r q h1)
  | _, _, _, .tup (ts := ts) e q, h => by
    simp only [T.pd, Option.map_eq_some_iff] at h
    obtain ⟨ds, h1, rfl⟩ := h
    exact .tup (SqT.of (r.tup e)) (Reps.dp r q h1)
  | _, _, _, .fro _ _, h => by cases h
  | _, _, _, .dic _ _, h => by cases h
  | _, _, _, .dit _ _, h => by cases h
  | _, _, _, .obj _ _ _, h => by cases h
theorem Reps.dp {w : Wd} {μ : List Cell} {H : Hp} (r : Rc X.K cl w μ H) : ∀ {t : List T} {v : List V} {d : List PyData}, Reps X.K cl w.G t v → T.pds t = some d → DpAll X.K H v d
  | _, _, _, .nil, h => by cases h; exact .nil
  | _, _, _, .cons (t := t) (ts := ts) h1 h2, h => by
    unfold T.pds at h
    split at h
    · rename_i d ds e1 e2
      cases h
      exact .cons (Rep.dp r h1 e1) (Reps.dp r h2 e2)
    · cases h
end
def valPd (s : DSt) (v : Val) : Option PyData := match v with
  | .t x => x.pd
  | v => match lstOf s v with
    | some xs => (T.pds xs).map .list
    | none => none
theorem pd_at {w : Wd} {st : DSt} {σ : L2.St} {H : Hp} (r : R X.K cl w st σ H) {v : Val} {x : V} {d : PyData} (h : valPd st v = some d) (hv : VR X.K cl w σ v x) : Dp X.K H x d := by
  have gen : ∀ {xs : List T}, lstOf st v = some xs → (T.pds xs).map PyData.list = some d → Dp X.K H x d := fun {xs} e1 e2 => by
    obtain ⟨a, vs, rfl, g, q⟩ := lst_at r e1 hv
    simp only [Option.map_eq_some_iff] at e2
    obtain ⟨ds, h1, rfl⟩ := e2
    exact .lst (SqL.of g) (Reps.dp r.rc q h1)
  cases v with
  | t y => exact Rep.dp r.rc hv h
  | loc n =>
    unfold valPd at h
    dsimp only at h
    split at h
    · rename_i xs e; exact gen e h
    · cases h
  | sl n =>
    unfold valPd at h
    dsimp only at h
    split at h
    · rename_i xs e; exact gen e h
    · cases h
def dEq (neg : Bool) (a b : Val) : M Val := fun s => match valPd s a, valPd s b with
  | some d, some e => if SeqAt.shaped d && SeqAt.shaped e then some (.ok (.t (.bl (if neg then !PyData.eqv d e else PyData.eqv d e))), s) else none
  | _, _ => none
theorem op2_eq {k : Nat} (hr : Room k X.A) : DOp cl X (compareOp .Eq) (dEq false) := fun W cw w st σ H Q o st' a b x y u v pins s r ha hb h p I ru rv => by
  unfold dEq at h
  split at h
  · rename_i d e e1 e2
    split at h
    · rename_i hs
      cases h
      simp only [Bool.and_eq_true] at hs
      exact op_eqD hr.units pins s σ H _ _ u v Q I ru rv ⟨d, e, pd_at r e1 ha, pd_at r e2 hb, hs.1, hs.2, fin0 r p _ (.bl _)⟩
    · cases h
  · cases h
theorem op2_ne {k : Nat} (hr : Room k X.A) : DOp cl X (compareOp .NotEq) (dEq true) := fun W cw w st σ H Q o st' a b x y u v pins s r ha hb h p I ru rv => by
  unfold dEq at h
  split at h
  · rename_i d e e1 e2
    split at h
    · rename_i hs
      cases h
      simp only [Bool.and_eq_true] at hs
      exact op_neD hr.units pins s σ H _ _ u v Q I ru rv ⟨d, e, pd_at r e1 ha, pd_at r e2 hb, hs.1, hs.2, fin0 r p _ (.bl _)⟩
    · cases h
  · cases h
def isNon : Val → Bool
  | .t .non => true
  | _ => false
def dIsN (neg : Bool) (a b : Val) : M Val := fun s => match a, b with
  | .sl _, _ => none
  | a, .t .non => some (.ok (.t (.bl (if neg then !isNon a else isNon a))), s)
  | _, _ => none
end
end Lf
namespace Lf
open PySem PySem.Spec L2
section
variable {cl : Cl} {X : Cx}
def T.flat : T → Option V
  | .non => some .non
  | .bl b => some (.bl b)
  | .int i => some (.int i)
  | .str x => some (.str x)
  | _ => none
def flats : List Fv → Option (List V)
  | [] => some []
  | .t x :: r => match x.flat, flats r with
    | some v, some vs => some (v :: vs)
    | _, _ => none
  | .loc _ :: _ => none
/-- membership: a sign in a text, a flat thing in a flat sequence, data in a list -/
def dIn (neg : Bool) (a b : Val) : M Val := fun s => match a, b with
  | .t (.str x), .t (.str y) => if x.cps.size = 1 then some (.ok (.t (.bl (if neg then !decide (x.cps.getD 0 0 ∈ y.cps.toList) else decide (x.cps.getD 0 0 ∈ y.cps.toList)))), s) else none
  | .t x, b => match seqOf s b with
    | some (_, ts) => match x.flat, flats ts with
      | some v, some vs => some (.ok (.t (.bl (if neg then !inV v vs else inV v vs))), s)
      | _, _ => match x.pd, valPd s b with
        | some d, some (.list ds) => if SeqAt.shaped d && SeqAt.shaped (.list ds) then some (.ok (.t (.bl (if neg then !ds.any fun z => PyData.eqv z d else ds.any fun z => PyData.eqv z d))), s) else none
        | _, _ => none
    | none => none
  | _, _ => none
def asBl : Val → M Bool
  | .t (.bl b) => ret b
  | _ => stuck
theorem asBl_some {v : Val} {s s' : DSt} {o : Out Bool} (h : asBl v s = some (o, s')) : ∃ b, v = .t (.bl b) ∧ o = .ok b ∧ s' = s := by
  unfold asBl at h
  split at h
  · cases h; exact ⟨_, rfl, rfl, rfl⟩
  · cases h
theorem dt_val {e : Expr} {f : M Val} (he : ∀ whole, isTrue e X.env whole = (do let v ← whole; standAt e.pos; holding [v] (truthy v))) (h : DE cl X e f) : DT cl X e (bnd f asBl) := fun W cw w st σ H Q o st' r hf p => by
  refine PT.wt (pt_val peW he) ?_
  show WE X e σ H _
  rcases bnd_some hf with ⟨c, fs, h1, rfl⟩ | ⟨v, st1, h1, h2⟩
  · exact h W cw w st σ H _ _ st' r h1 p
  · obtain ⟨b, rfl, rfl, rfl⟩ := asBl_some h2
    refine h W cw w st σ H _ _ _ r h1 fun w1 H1 l1 r1 x hx => ?_
    cases hx
    exact ⟨b, rfl, p w1 H1 l1 r1⟩
theorem dt_cmp {op : CmpOp} {g : Val → Val → M Val} {a b : Expr} {pos : Pos} {fa fb : M Val} (ho : DOp cl X (compareOp op) g) (hm : behindInMarks op b = false) (ha : DE cl X a fa) (hb : DE cl X b fb) : DT cl X (.Compare a [op] [b] pos) (bnd (dBin g fa fb) asBl) := fun W cw w st σ H Q o st' r hf p => by
  intro pins s I
  have q : tOp (fun x y H Q => ∀ (pins : List (Addr × Obj)) (s : Shared) (u v : Value), Inv X pins σ H s → RelV x u → RelV y v → wpAny (model X.prog X.w) X.A (compareOp op u v) (EP X pins σ Q) X.xe s) (WE X a) (WE X b) σ H (fun x H' => ∃ k, x = .bl k ∧ Q k H') := by
    rcases bnd_some hf with ⟨c, fs, h1, rfl⟩ | ⟨v, st1, h1, h2⟩
    · exact bin_at ho ha hb cw r h1 p
    · obtain ⟨b, rfl, rfl, rfl⟩ := asBl_some h2
      refine bin_at ho ha hb cw r h1 fun w1 H1 l1 r1 x hx => ?_
      cases hx
      exact ⟨b, rfl, p w1 H1 l1 r1⟩
  refine wpAny_isTrue_Compare1 (thn (q pins s I) fun v s1 ⟨x, H1, I1, r1, q1⟩ => thn (q1 pins s1 I1) fun u s2 ⟨y, H2, I2, r2, q2⟩ =>
    thn (q2 pins s2 v u I2 r1 r2) fun c s3 ⟨z, H3, I3, r3, k, e, q3⟩ => ?_) hm
  subst e
  cases r3
  exact wpAny_truthy_bool ⟨H3, I3, q3⟩
theorem dw_or1 {a : Expr} {pos : Pos} {f : M Bool} (ha : DT cl X a f) : DW cl X (.BoolOp .Or [a] pos) f := fun W cw w st σ H Q o st' r h p => PW.ww (pw_or1 ptW) (ha W cw w st σ H Q o st' r h p)
def dAnd (f g : M Bool) : M Bool := bnd f fun b => if b then g else ret false
def dOr (f g : M Bool) : M Bool := bnd f fun b => if b then ret true else g
def dNot (f : M Bool) : M Bool := bnd f fun b => ret (!b)
theorem dw_or {a b : Expr} {rest : List Expr} {pos : Pos} {f g : M Bool} (ha : DT cl X a f) (hb : DW cl X (.BoolOp .Or (b :: rest) pos) g) : DW cl X (.BoolOp .Or (a :: b :: rest) pos) (dOr f g) := fun W cw w st σ H Q o st' r h p => by
  refine PW.ww (pw_or ptW pwW) ?_
  unfold tOr
  rcases bnd_some h with ⟨c, fs, h1, rfl⟩ | ⟨v, st1, h1, h2⟩
  · exact ha W cw w st σ H _ _ st' r h1 p
  · refine ha W cw w st σ H _ _ st1 r h1 fun w1 H1 l1 r1 => ?_
    cases v with
    | false => exact hb W cw w1 st1 σ H1 _ _ st' r1 h2 (p.after l1)
    | true => cases h2; exact p w1 H1 l1 r1
theorem dt_w {e : Expr} {f : M Bool} (h : DW cl X e f) : DT cl X e f := fun W cw w st σ H Q o st' r hf p => PT.wt (PW.pt pwW) (h W cw w st σ H Q o st' r hf p)
theorem dt_not {a : Expr} {pos : Pos} {f : M Bool} (ha : DT cl X a f) : DT cl X (.UnaryOp .Not a pos) (dNot f) := fun W cw w st σ H Q o st' r h p => by
  refine PT.wt (pt_not ptW) ?_
  unfold tNot
  rcases bnd_some h with ⟨c, fs, h1, rfl⟩ | ⟨v, st1, h1, h2⟩
  · exact ha W cw w st σ H _ _ st' r h1 p
  · cases h2; exact ha W cw w st σ H _ _ _ r h1 fun w1 H1 l1 r1 => p w1 H1 l1 r1
def vAnd (f g : M Val) : M Val := bnd f fun v => bnd (asBl v) fun b => if b then g else ret (.t (.bl false))
def vOr (f g : M Val) : M Val := bnd f fun v => bnd (asBl v) fun b => if b then ret (.t (.bl true)) else g
def vNot (f : M Val) : M Val := bnd f fun v => bnd (asBl v) fun b => ret (.t (.bl (!b)))
theorem de_one {op : BoolOp} {a : Expr} {pos : Pos} {f : M Val} (ha : DE cl X a f) : DE cl X (.BoolOp op [a] pos) f := fun W cw w st σ H Q o st' r h p => PE.we (pe_one peW) (ha W cw w st σ H Q o st' r h p)
theorem bl_bnd {α : Type} {v : Val} {k : Bool → M α} {s s' : DSt} {o : Out α} (h : bnd (asBl v) k s = some (o, s')) : ∃ b, v = .t (.bl b) ∧ k b s = some (o, s') := by
  rcases bnd_some h with ⟨c, fs, h1, rfl⟩ | ⟨b, st1, h1, h2⟩
  · obtain ⟨b, _, e, _⟩ := asBl_some h1
    cases e
  · obtain ⟨b', rfl, e, rfl⟩ := asBl_some h1
    cases e
    exact ⟨_, rfl, h2⟩
theorem de_and {a b : Expr} {rest : List Expr} {pos : Pos} {f g : M Val} (ha : DE cl X a f) (hb : DE cl X (.BoolOp .And (b :: rest) pos) g) : DE cl X (.BoolOp .And (a :: b :: rest) pos) (vAnd f g) := fun W cw w st σ H Q o st' r h p => by
  refine PE.we (pe_and peW peW) ?_
  unfold tAndV
  rcases bnd_some h with ⟨c, fs, h1, rfl⟩ | ⟨v, st1, h1, h2⟩
  · exact ha W cw w st σ H _ _ st' r h1 p
  · obtain ⟨b, rfl, h3⟩ := bl_bnd h2
    refine ha W cw w st σ H _ _ st1 r h1 fun w1 H1 l1 r1 x hx => ?_
    cases hx
    refine ⟨b, rfl, ?_⟩
    cases b with
    | true => exact hb W cw w1 st1 σ H1 _ _ st' r1 h3 (p.after l1)
    | false => cases h3; exact p w1 H1 l1 r1 _ (.bl _)
theorem de_not {a : Expr} {pos : Pos} {f : M Val} (ha : DE cl X a f) : DE cl X (.UnaryOp .Not a pos) (vNot f) := fun W cw w st σ H Q o st' r h p => by
  refine PE.we (pe_not peW) ?_
  unfold tNotV
  rcases bnd_some h with ⟨c, fs, h1, rfl⟩ | ⟨v, st1, h1, h2⟩
  · exact ha W cw w st σ H _ _ st' r h1 p
  · obtain ⟨b, rfl, h3⟩ := bl_bnd h2
    cases h3
    refine ha W cw w st σ H _ _ _ r h1 fun w1 H1 l1 r1 x hx => ?_
    cases hx
    exact ⟨b, rfl, p w1 H1 l1 r1 _ (.bl _)⟩
def dNeg : Val → M Val
  | .t (.int i) => ret (.t (.int (-i)))
  | _ => stuck
theorem de_neg {a : Expr} {pos : Pos} {f : M Val} (ha : DE cl X a f) : DE cl X (.UnaryOp .USub a pos) (bnd f dNeg) := fun W cw w st σ H Q o st' r h p => by
  refine PE.we (pe_un un_neg peW) ?_
  unfold tUn
  rcases bnd_some h with ⟨c, fs, h1, rfl⟩ | ⟨v, st1, h1, h2⟩
  · exact ha W cw w st σ H _ _ st' r h1 p
  · unfold dNeg at h2
    split at h2
    · cases h2
      refine ha W cw w st σ H _ _ _ r h1 fun w1 H1 l1 r1 x hx => ?_
      cases hx
      exact ⟨_, rfl, p w1 H1 l1 r1 _ (.int _)⟩
    · cases h2
def dIf {α : Type} (c : M Bool) (f g : M α) : M α := bnd c fun b => if b then f else g
def dChain (g g' : Val → Val → M Val) (fa fb fc : M Val) : M Val := bnd fa fun a => bnd fb fun b => bnd (g a b) fun z => bnd (asBl z) fun k => if k then bnd fc fun c => g' b c else ret (.t (.bl false))
theorem da_nil : DA cl X [] (ret []) := fun W cw w st σ H Q o st' r h p => by
  cases h
  exact PA.wa pa_nil (p w H (Le.refl _ _) r [] .nil)
def dCons (f : M Val) (g : M (List Val)) : M (List Val) := bnd f fun v => bnd g fun vs => ret (v :: vs)
theorem da_cons {e : Expr} {es : List Expr} {f : M Val} {g : M (List Val)} (hs : starEach (e :: es) X.env = (false, eval e X.env) :: starEach es X.env) (ha : DE cl X e f) (hb : DA cl X es g) : DA cl X (e :: es) (dCons f g) := fun W cw w st σ H Q o st' r h p => by
  refine PA.wa (pa_cons peW paW hs) ?_
  unfold tCons
  rcases bnd_some h with ⟨c, fs, h1, rfl⟩ | ⟨v, st1, h1, h2⟩
  · exact ha W cw w st σ H _ _ st' r h1 p
  · refine ha W cw w st σ H _ _ st1 r h1 fun w1 H1 l1 r1 x hx => ?_
    rcases bnd_some h2 with ⟨c, fs, h3, rfl⟩ | ⟨vs, st2, h3, h4⟩
    · exact hb W cw w1 st1 σ H1 _ _ st' r1 h3 (p.after l1)
    · cases h4
      exact hb W cw w1 st1 σ H1 _ _ _ r1 h3 fun w2 H2 l2 r2 xs hxs => p w2 H2 (l1.trans l2) r2 _ (.cons (hx.le l2) hxs)
end
end Lf
namespace Lf
open PySem PySem.Spec L2
section
variable {cl : Cl} {X : Cx}
theorem OwnR.ho {K : PySem.W.Frag} {G H : Hp} {o : Own} {a : Addr} (h : OwnR K cl G H o a) : ∃ ho, (H a = some ho ∨ (isD ho = true ∧ ∃ q, H a = some (.frz q ho))) ∧ ∀ G', Same G G' → G' a = some ho → Rep K cl G' o.tree (.ref a) := by
  cases o with
  | lst xs => obtain ⟨vs, h1, h2⟩ := h; exact ⟨_, .inl h1, fun G' s e => .lst e (h2.mono s)⟩
  | dic l kvs => cases l with
    | false => obtain ⟨vs, h1, h2⟩ := h; exact ⟨_, .inl h1, fun G' s e => .dic e (h2.mono s)⟩
    | true => obtain ⟨q, vs, h1, h2⟩ := h; exact ⟨.dK vs, .inr ⟨rfl, q, h1⟩, fun G' s e => .dic e (h2.mono s)⟩
  | dit l kvs => cases l with
    | false => obtain ⟨vs, h1, h2⟩ := h; exact ⟨_, .inl h1, fun G' s e => .dit e (h2.mono s)⟩
    | true => obtain ⟨q, vs, h1, h2⟩ := h; exact ⟨.dT vs, .inr ⟨rfl, q, h1⟩, fun G' s e => .dit e (h2.mono s)⟩
theorem lt_of_get {α : Type} {l : List α} {i : Nat} {a : α} (h : l[i]? = some a) : i < l.length := (List.getElem?_eq_some_iff.mp h).1
theorem R.freeze {K : PySem.W.Frag} {w : Wd} {st : DSt} {σ : L2.St} {H : Hp} (r : R K cl w st σ H) {i : Nat} {o : Own} (e : st.δ[i]? = some (some (.own o))) :
    ∃ a w', σ[i]? = some (some (.ref a)) ∧ Le w H w' H ∧ R K cl w' { st with δ := st.δ.set i (some (.t o.tree)) } σ H ∧ Rep K cl w'.G o.tree (.ref a) := by
  obtain ⟨x, e1, a, rfl, e2, e3⟩ := r.slot i _ e
  obtain ⟨ho, h1, h2⟩ := e3.ho
  obtain ⟨ga, na⟩ := r.rc.own a _ e2
  let w' : Wd := { w with G := upd w.G a ho, ω := fun b => if b = a then none else w.ω b }
  have sg : Same w.G w'.G := fun b u q => by
    show upd w.G a ho b = some u
    rw [upd_ne (ne_of_none q ga)]; exact q
  have rp : Rep K cl w'.G o.tree (.ref a) := h2 _ sg upd_same
  have hne : ∀ {b o'}, w.ω b = some o' → o' ≠ .slot i → b ≠ a := fun {b o'} q q' z => by rw [z, e2] at q; cases q; exact q' rfl
  refine ⟨a, w', e1, Le.all (List.prefix_refl _) sg (fun b q _ => ?_) (fun b u _ q => q) (fun b q _ => ?_), ⟨⟨fun b u q => ?_, r.rc.len, fun n c b q1 q2 q3 => ?_, fun b u q => ?_, fun n x b q1 q2 => (r.rc.fz n x b q1 q2).mono sg, fun b xs q => sg _ _ (r.rc.tu b xs q)⟩, ?_, fun j s q => ?_⟩, rp⟩
  · show (if b = a then none else w.ω b) = none
    split
    · rfl
    · exact q
  · show upd w.G a ho b = w.G b
    exact upd_ne fun z => by rw [z, e2] at q; cases q
  · by_cases hb : b = a
    · subst hb
      have q' : upd w.G b ho b = some u := q
      rw [upd_same] at q'
      cases q'
      exact h1
    · have q' : upd w.G a ho b = some u := q
      rw [upd_ne hb] at q'
      exact r.rc.sub b u q'
  · obtain ⟨x1, x2⟩ := r.rc.cell n c b q1 q2 q3
    have hb := hne x1 (fun z => by cases z)
    refine ⟨?_, CellR.keep (w := w) (w' := w') (List.prefix_refl _) sg (fun _ z => z) x2⟩
    show (if b = a then none else w.ω b) = _
    rw [if_neg hb]; exact x1
  · have q' : (if b = a then none else w.ω b) = some u := q
    by_cases hb : b = a
    · rw [if_pos hb] at q'; cases q'
    · rw [if_neg hb] at q'
      refine ⟨?_, (r.rc.own b u q').2⟩
      show upd w.G a ho b = none
      rw [upd_ne hb]; exact (r.rc.own b u q').1
  · show (st.δ.set i (some (.t o.tree))).length = σ.length
    rw [List.length_set]; exact r.slen
  · have q' : (st.δ.set i (some (.t o.tree)))[j]? = some (some s) := q
    by_cases hj : i = j
    · subst hj
      rw [List.getElem?_set_self (lt_of_get e)] at q'
      cases q'
      exact ⟨_, e1, rp⟩
    · rw [List.getElem?_set_ne hj] at q'
      obtain ⟨y, y1, y2⟩ := r.slot j s q'
      refine ⟨y, y1, ?_⟩
      cases s with
      | t z => exact Rep.mono sg y2
      | loc n => exact y2
      | own o' =>
        obtain ⟨b, z1, z2, z3⟩ := y2
        have hb := hne z2 (fun z => by cases z; exact hj rfl)
        refine ⟨b, z1, ?_, z3.keep sg fun _ z => z⟩
        show (if b = a then none else w.ω b) = _
        rw [if_neg hb]; exact z2
      | exc c fs => trivial
      | fn L cs => exact FnR.mono sg y2
      | gf a => exact y2
/-- a value, given away -/
def frz : Val → M T
  | .t x => ret x
  | .sl i => fun s => match s.δ[i]? with
    | some (some (.own o)) => some (.ok o.tree, { s with δ := s.δ.set i (some (.t o.tree)) })
    | some (some (.t x)) => some (.ok x, s)
    | _ => none
  | .loc _ => stuck
theorem frz_at {K : PySem.W.Frag} {w : Wd} {st st' : DSt} {σ : L2.St} {H : Hp} (r : R K cl w st σ H) {v : Val} {x : V} {o : Out T} (hv : VR K cl w σ v x) (h : frz v st = some (o, st')) : ∃ t w', o = .ok t ∧ Le w H w' H ∧ R K cl w' st' σ H ∧ Rep K cl w'.G t x := by
  cases v with
  | t y => cases h; exact ⟨y, w, rfl, Le.refl _ _, r, hv⟩
  | loc n => cases h
  | sl i =>
    unfold frz at h
    dsimp only at h
    split at h
    · rename_i ow e
      cases h
      obtain ⟨a, w', e1, l, r', rp⟩ := r.freeze e
      rw [show σ[i]? = some (some x) from hv] at e1
      cases e1
      exact ⟨_, w', rfl, l, r', rp⟩
    · rename_i y e
      cases h
      obtain ⟨z, e1, q⟩ := r.slot i _ e
      rw [show σ[i]? = some (some x) from hv] at e1
      cases e1
      exact ⟨y, w, rfl, Le.refl _ _, r, q⟩
    · cases h
def frzs : List Val → M (List T)
  | [] => ret []
  | v :: vs => bnd (frz v) fun t => bnd (frzs vs) fun ts => ret (t :: ts)
theorem frzs_at {K : PySem.W.Frag} {σ : L2.St} {H : Hp} : ∀ {vs : List Val} {xs : List V} {w : Wd} {st st' : DSt} {o : Out (List T)}, R K cl w st σ H → Paired (VR K cl w σ) vs xs → frzs vs st = some (o, st') → ∃ ts w', o = .ok ts ∧ Le w H w' H ∧ R K cl w' st' σ H ∧ Reps K cl w'.G ts xs
  | [], _, w, st, st', o, r, .nil, h => by cases h; exact ⟨[], w, rfl, Le.refl _ _, r, .nil⟩
  | v :: vs, _, w, st, st', o, r, .cons hv hvs, h => by
    unfold frzs at h
    rcases bnd_some h with ⟨c, fs, h1, rfl⟩ | ⟨t, st1, h1, h2⟩
    · obtain ⟨t, w', e, _⟩ := frz_at r hv h1
      cases e
    · obtain ⟨t', w1, e, l1, r1, q1⟩ := frz_at r hv h1
      cases e
      rcases bnd_some h2 with ⟨c, fs, h3, rfl⟩ | ⟨ts, st2, h3, h4⟩
      · obtain ⟨ts, w', e, _⟩ := frzs_at r1 (hvs.mono fun _ _ z => z.le l1) h3
        cases e
      · obtain ⟨ts', w2, e, l2, r2, q2⟩ := frzs_at r1 (hvs.mono fun _ _ z => z.le l1) h3
        cases e
        cases h4
        exact ⟨_, w2, rfl, l1.trans l2, r2, .cons (q1.mono l2.g) q2⟩
theorem df_lst {es : List Expr} {pos : Pos} {f : M (List Val)} (h : DA cl X es f) : DF cl X (.List es pos) (bnd f fun vs => bnd (frzs vs) fun ts => if ts.length ≤ sizeLine then ret (.lst ts) else stuck) := fun W cw w st σ H Q o st' r hf p => by
  refine PE.we (pe_lst paW) ?_
  unfold tLst
  rcases bnd_some hf with ⟨c, fs, h1, rfl⟩ | ⟨vs, st1, h1, h2⟩
  · exact h W cw w st σ H _ _ st' r h1 p
  · refine h W cw w st σ H _ _ st1 r h1 fun w1 H1 l1 r1 xs hxs => ?_
    rcases bnd_some h2 with ⟨c, fs, h3, rfl⟩ | ⟨ts, st2, h3, h4⟩
    · obtain ⟨ts, w', e, _⟩ := frzs_at r1 hxs h3
      cases e
    · obtain ⟨ts', w2, e, l2, r2, q2⟩ := frzs_at r1 hxs h3
      cases e
      split at h4
      · rename_i hl
        cases h4
        refine ⟨by rw [← q2.length]; exact hl, fun a ha => ?_⟩
        exact p w2 H1 (l1.trans l2) r2 a (.lst xs) ha fun H2 e2 => ⟨xs, e2, q2⟩
      · cases h4
theorem de_tup {es : List Expr} {x1} {pos : Pos} {f : M (List Val)} (h : DA cl X es f) : DE cl X (.Tuple es x1 pos) (bnd f fun vs => bnd (frzs vs) fun ts => if ts.length ≤ sizeLine then ret (.t (.tup ts)) else stuck) := fun W cw w st σ H Q o st' r hf p => by
  refine PE.we (pe_tup paW) ?_
  unfold tTup
  rcases bnd_some hf with ⟨c, fs, h1, rfl⟩ | ⟨vs, st1, h1, h2⟩
  · exact h W cw w st σ H _ _ st' r h1 p
  · refine h W cw w st σ H _ _ st1 r h1 fun w1 H1 l1 r1 xs hxs => ?_
    rcases bnd_some h2 with ⟨c, fs, h3, rfl⟩ | ⟨ts, st2, h3, h4⟩
    · obtain ⟨ts, w', e, _⟩ := frzs_at r1 hxs h3
      cases e
    · obtain ⟨ts', w2, e, l2, r2, q2⟩ := frzs_at r1 hxs h3
      cases e
      split at h4
      · rename_i hl
        cases h4
        refine ⟨by rw [← q2.length]; exact hl, fun a ha => ?_⟩
        exact finT r2 q2 (p.after (l1.trans l2)) ha
      · cases h4
/-- a new object, given away at once -/
def keep : Own → M Val
  | .lst xs => ret (.t (.lst xs))
  | .dic false kvs => ret (.t (.dic kvs))
  | .dit false kvs => ret (.t (.dit kvs))
  | _ => stuck
theorem DF.de {e : Expr} {f : M Own} (h : DF cl X e f) : DE cl X e (bnd f keep) := fun W cw w st σ H Q o st' r hf p => by
  rcases bnd_some hf with ⟨c, fs, h1, rfl⟩ | ⟨ow, st1, h1, h2⟩
  · exact h W cw w st σ H _ _ st' r h1 p
  · have key : ∀ {w1 : Wd} {H1 : Hp} (l1 : Le w H w1 H1) (r1 : R X.K cl w1 st1 σ H1) (a : Addr) (ho : HO) (ha : H1 a = none) (hO : ∀ H2, H2 a = some ho → OwnR X.K cl w1.G H2 ow a), Q (.ref a) (upd H1 a ho) := fun {w1 H1} l1 r1 a ho ha hO => by
      obtain ⟨r2, l2⟩ := r1.fresh ha ho
      unfold keep at h2
      split at h2
      · cases h2
        obtain ⟨vs, e1, e2⟩ := hO (upd H1 a ho) upd_same
        rw [upd_same] at e1
        cases e1
        exact p _ _ (l1.trans l2) r2 _ (Rep.lst upd_same (e2.mono l2.g))
      · cases h2
        obtain ⟨vs, e1, e2⟩ := hO (upd H1 a ho) upd_same
        rw [upd_same] at e1
        cases e1
        exact p _ _ (l1.trans l2) r2 _ (Rep.dic upd_same (e2.mono l2.g))
      · cases h2
        obtain ⟨vs, e1, e2⟩ := hO (upd H1 a ho) upd_same
        rw [upd_same] at e1
        cases e1
        exact p _ _ (l1.trans l2) r2 _ (Rep.dit upd_same (e2.mono l2.g))
      · cases h2
    exact h W cw w st σ H _ _ st1 r h1 fun w1 H1 l1 r1 a ho ha hO => key l1 r1 a ho ha hO

theorem R.setP {K : PySem.W.Frag} {w : Wd} {st : DSt} {σ : L2.St} {H : Hp} (r : R K cl w st σ H) {i : Nat} {s : Slot} {x : V} (hi : i < σ.length) (hs : SlotR K cl w H i s x) : R K cl w { st with δ := st.δ.set i (some s) } (σ.set i (some x)) H := by
  refine ⟨r.rc, by rw [List.length_set, List.length_set]; exact r.slen, fun j s' q => ?_⟩
  have q' : (st.δ.set i (some s))[j]? = some (some s') := q
  by_cases hj : i = j
  · subst hj
    rw [List.getElem?_set_self (by rw [r.slen]; exact hi)] at q'
    cases q'
    exact ⟨x, List.getElem?_set_self hi, hs⟩
  · rw [List.getElem?_set_ne hj] at q'
    rw [List.getElem?_set_ne hj]
    exact r.slot j s' q'
/-- a value into a slot -/
def put (i : Nat) : Val → M Unit
  | .t x => fun s => some (.ok (), { s with δ := s.δ.set i (some (.t x)) })
  | .loc n => fun s => some (.ok (), { s with δ := s.δ.set i (some (.loc n)) })
  | .sl j => bnd (frz (.sl j)) fun x => fun s => some (.ok (), { s with δ := s.δ.set i (some (.t x)) })
theorem put_at {K : PySem.W.Frag} {w : Wd} {st st' : DSt} {σ : L2.St} {H : Hp} (r : R K cl w st σ H) {i : Nat} (hi : i < σ.length) {v : Val} {x : V} {o : Out Unit} (hv : VR K cl w σ v x) (h : put i v st = some (o, st')) : ∃ w', o = .ok () ∧ Le w H w' H ∧ R K cl w' st' (σ.set i (some x)) H := by
  cases v with
  | t y => cases h; exact ⟨w, rfl, Le.refl _ _, r.setP hi hv⟩
  | loc n => cases h; exact ⟨w, rfl, Le.refl _ _, r.setP hi hv⟩
  | sl j =>
    unfold put at h
    rcases bnd_some h with ⟨c, fs, h1, rfl⟩ | ⟨t, st1, h1, h2⟩
    · obtain ⟨t, w', e, _⟩ := frz_at r hv h1
      cases e
    · obtain ⟨t', w1, e, l1, r1, q1⟩ := frz_at r hv h1
      cases e
      cases h2
      exact ⟨w1, rfl, l1, r1.setP hi q1⟩
/-- what a target does with a value; vs: the slots that it touches -/
def DG (cl : Cl) (X : Cx) (tg : Expr) (vs : List Nat) (g : Val → M Unit) : Prop :=
  ∀ (W : WX), Cw X W → ∀ (w : Wd) (st : DSt) (σ : L2.St) (H : Hp) (Q : L2.St → Hp → Prop) (v : Val) (x : V) (u : Value) (st' : DSt) (pins : List (Addr × Obj)) (s : Shared), R X.K cl w st σ H → VR X.K cl w σ v x → g v st = some (.ok (), st') →
  (∀ w' σ' H', Le w H w' H' → R X.K cl w' st' σ' H' → σ'.length = σ.length → (∀ j, j ∉ vs → σ'[j]? = σ[j]?) → Q σ' H') → Inv X pins σ H s → RelV x u →
  wpAny (model X.prog X.w) X.A (assign tg X.env u) (fun _ s' => ∃ σ' H', Inv X pins σ' H' s' ∧ Q σ' H') X.xe s
/-- a target lets no exception out -/
def Quiet {α : Type} (g : Val → M α) : Prop := ∀ v s c fs s', g v s ≠ some (.exc c fs, s')
theorem frz_quiet : Quiet frz := fun v s c fs s' h => by
  cases v with
  | t x => cases h
  | loc n => cases h
  | sl i =>
    unfold frz at h
    dsimp only at h
    split at h <;> cases h
theorem put_quiet {i : Nat} : Quiet (put i) := fun v s c fs s' h => by
  cases v with
  | t x => cases h
  | loc n => cases h
  | sl j =>
    unfold put at h
    rcases bnd_some h with ⟨c, fs, h1, _⟩ | ⟨t, st1, h1, h2⟩
    · exact frz_quiet _ _ _ _ _ h1
    · cases h2
theorem dg_name {i : Nat} {x : Str} {pos : Pos} (hN : X.N.Nodup) (hi : X.N[i]? = some x) (hx : Loc X.env.scope x) (hf : X.fn x = true ∨ X.env.scope.names.lookup x = some .local) : DG cl X (.Name x pos) [i] (put i) := fun W cw w st σ H Q v y u st' pins s r hv h p I ru => by
  have hl : i < σ.length := by rw [I.len]; exact lt_of_get hi
  obtain ⟨w', _, l, r'⟩ := put_at r hl hv h
  exact (pg_name (X := X) (pos := pos) hN hi hx hf).run pins s σ H y u Q I ru (p w' _ H l r' (List.length_set ..) fun j hj => List.getElem?_set_ne (fun z => hj (by simp [z])))
/-- several names -/
inductive NmA (X : Cx) : List Expr → List Nat → Prop
  | nil : NmA X [] []
  | cons {i : Nat} {x : Str} {pos : Pos} {es : List Expr} {is : List Nat} : X.N[i]? = some x → Loc X.env.scope x → (X.fn x = true ∨ X.env.scope.names.lookup x = some .local) → NmA X es is → NmA X (.Name x pos :: es) (i :: is)
def puts : List Nat → List T → M Unit
  | [], [] => ret ()
  | i :: is, t :: ts => bnd (put i (.t t)) fun _ => puts is ts
  | _, _ => stuck
def unpack (is : List Nat) : Val → M Unit
  | .t (.tup ts) => puts is ts
  | _ => stuck
theorem puts_quiet : ∀ {is : List Nat} {ts : List T} {s : DSt} {c : Str} {fs : List (Str × T)} {s' : DSt}, puts is ts s ≠ some (.exc c fs, s')
  | [], [], _, _, _, _, h => by cases h
  | i :: is, t :: ts, s, c, fs, s', h => by
    unfold puts at h
    rcases bnd_some h with ⟨c, fs, h1, _⟩ | ⟨_, st1, h1, h2⟩
    · exact put_quiet _ _ _ _ _ h1
    · exact puts_quiet h2
  | [], _ :: _, _, _, _, _, h => by cases h
  | _ :: _, [], _, _, _, _, h => by cases h
/-- the stores of the items, at the level of slots -/
def setAll : List Nat → List V → L2.St → L2.St
  | i :: is, x :: xs, σ => setAll is xs (σ.set i (some x))
  | _, _, σ => σ
theorem pgs_names (hN : X.N.Nodup) : ∀ {es : List Expr} {is : List Nat}, NmA X es is → PGs X es (fun vs σ H Q => vs.length = is.length ∧ Q (setAll is vs σ) H) ∧ (assignEach es X.env).length = is.length ∧ (assignEach es X.env).findIdx? (·.1) = none
  | _, _, .nil => ⟨⟨fun pins s σ H vs us Q I r h => by
      obtain ⟨e, h⟩ := h
      cases vs with
      | nil => exact pgs_nil.run pins s σ H [] us Q I r ⟨rfl, h⟩
      | cons a b => cases e⟩, rfl, rfl⟩
  | _, _, .cons (i := i) (x := x) (pos := pos) (es := es) (is := is) hi hx hf t => by
    obtain ⟨q, l1, l2⟩ := pgs_names hN t
    refine ⟨⟨fun pins s σ H vs us Q I r h => ?_⟩, ?_, ?_⟩
    · obtain ⟨e, h⟩ := h
      cases vs with
      | nil => cases e
      | cons a b =>
        exact (pgs_cons (pg_name (pos := pos) hN hi hx hf) q rfl).run pins s σ H (a :: b) us Q I r ⟨a, b, rfl, by simpa using e, h⟩
    · show ((assignEach es X.env).length + 1) = _
      rw [l1]; rfl
    · show List.findIdx? (·.1) ((false, _) :: assignEach es X.env) = none
      rw [List.findIdx?_cons, l2]; rfl
theorem puts_at {K : PySem.W.Frag} {H : Hp} : ∀ {is : List Nat} {ts : List T} {w : Wd} {st st' : DSt} {σ : L2.St} {xs : List V}, R K cl w st σ H → (∀ i ∈ is, i < σ.length) → Reps K cl w.G ts xs → puts is ts st = some (.ok (), st') → R K cl w st' (setAll is xs σ) H ∧ (setAll is xs σ).length = σ.length ∧ (∀ j, j ∉ is → (setAll is xs σ)[j]? = σ[j]?) ∧ xs.length = is.length
  | [], [], w, st, st', σ, _, r, hl, .nil, h => by cases h; exact ⟨r, rfl, fun _ _ => rfl, rfl⟩
  | i :: is, t :: ts, w, st, st', σ, _, r, hl, .cons (v := x) (vs := xs) q qs, h => by
    unfold puts at h
    rcases bnd_some h with ⟨c, fs, h1, e⟩ | ⟨_, st1, h1, h2⟩
    · cases e
    · cases h1
      have r1 := r.setP (s := .t t) (hl i List.mem_cons_self) q
      obtain ⟨a1, a2, a3, a4⟩ := puts_at r1 (fun j hj => by rw [List.length_set]; exact hl j (List.mem_cons_of_mem _ hj)) qs h2
      refine ⟨a1, a2.trans (List.length_set ..), fun j hj => ?_, by simp [a4]⟩
      rw [List.mem_cons, not_or] at hj
      exact (a3 j hj.2).trans (List.getElem?_set_ne fun z => hj.1 z.symm)
  | [], _ :: _, _, _, _, _, _, _, _, _, h => by cases h
  | _ :: _, [], _, _, _, _, _, _, _, _, h => by cases h
theorem NmA.lt {es : List Expr} {is : List Nat} (h : NmA X es is) : ∀ i ∈ is, i < X.N.length := by
  induction h with
  | nil => intro i hi; cases hi
  | cons h1 _ _ _ ih =>
    intro i hi
    rcases List.mem_cons.mp hi with rfl | hi
    · exact lt_of_get h1
    · exact ih i hi
theorem dg_tup {es : List Expr} {is : List Nat} {k : Nat} {pos : Pos} (hc : X.calm = true) (hN : X.N.Nodup) (hn : NmA X es is) : DG cl X (.Tuple es k pos) is (unpack is) := fun W cw w st σ H Q v y u st' pins s r hv h p I ru => by
  obtain ⟨q, l1, l2⟩ := pgs_names (X := X) hN hn
  unfold unpack at h
  split at h
  · rename_i ts
    cases hv with
    | tup e1 e2 =>
      obtain ⟨a1, a2, a3, a4⟩ := puts_at r (fun i hi => by rw [I.len]; exact hn.lt i hi) e2 h
      exact (pg_tup (X := X) (k := k) (pos := pos) (n := is.length) hc q l1 l2).run pins s σ H _ u Q I ru ⟨_, _, rfl, SqT.of (r.rc.tup e1), a4, a4, p w _ H (Le.refl _ _) a1 a2 a3⟩
  · cases h
end
end Lf
namespace Lf
open PySem PySem.Spec L2
section
variable {cl : Cl} {X : Cx}
theorem dss_nil : DSs cl X [] (ret .nx) := fun W cw w st σ H D o st' r h p => by
  cases h
  exact PSs.ws pss_nil (p w σ H (Le.refl _ _) r)
def dSeq (f g : M Fl) : M Fl := bnd f fun fl => match fl with
  | .nx => g
  | fl => ret fl
theorem dss_cons {s : Stmt} {ss : List Stmt} {f g : M Fl} (hf : DS cl X s f) (hg : DSs cl X ss g) : DSs cl X (s :: ss) (dSeq f g) := fun W cw w st σ H D o st' r h p => by
  refine PSs.ws (pss_cons psW pssW) ?_
  unfold tSeq
  rcases bnd_some h with ⟨c, fs, h1, rfl⟩ | ⟨fl, st1, h1, h2⟩
  · exact hf W cw w st σ H _ _ st' r h1 p
  · cases fl with
    | nx => exact hf W cw w st σ H _ _ st1 r h1 fun w1 σ1 H1 l1 r1 => hg W cw w1 st1 σ1 H1 D o st' r1 h2 (p.after l1)
    | rt v => cases h2; exact hf W cw w st σ H _ _ _ r h1 p
    | rf v => cases h2; exact hf W cw w st σ H _ _ _ r h1 p
    | bk => cases h2; exact hf W cw w st σ H _ _ _ r h1 p
    | ct => cases h2; exact hf W cw w st σ H _ _ _ r h1 p
/-- what is handed back stands still -/
def back : Val → M Fl
  | .t x => ret (.rt (.t x))
  | .loc n => ret (.rt (.loc n))
  | .sl i => bnd (frz (.sl i)) fun x => ret (.rt (.t x))
theorem ds_ret {e : Expr} {pos : Pos} {f : M Val} (he : DE cl X e f) : DS cl X (.Return (some e) pos) (bnd f back) := fun W cw w st σ H D o st' r h p => by
  refine PS.ws (ps_ret peW) ?_
  unfold tRet
  rcases bnd_some h with ⟨c, fs, h1, rfl⟩ | ⟨v, st1, h1, h2⟩
  · exact he W cw w st σ H _ _ st' r h1 p.toPost
  · refine he W cw w st σ H _ _ _ r h1 fun w1 H1 l1 r1 x hx => ?_
    cases v with
    | t y => cases h2; exact p w1 σ H1 l1 r1 x hx
    | loc n => cases h2; exact p w1 σ H1 l1 r1 x hx
    | sl i =>
      unfold back at h2
      rcases bnd_some h2 with ⟨c, fs, h3, rfl⟩ | ⟨t, st2, h3, h4⟩
      · obtain ⟨t, w', e, _⟩ := frz_at r1 hx h3
        cases e
      · obtain ⟨t', w2, e, l2, r2, q2⟩ := frz_at r1 hx h3
        cases e
        cases h4
        exact p w2 σ H1 (l1.trans l2) r2 x q2
theorem ds_retF {e : Expr} {pos : Pos} {f : M Own} (he : DF cl X e f) : DS cl X (.Return (some e) pos) (bnd f fun o => ret (.rf o)) := fun W cw w st σ H D o st' r h p => by
  refine PS.ws (ps_ret peW) ?_
  unfold tRet
  rcases bnd_some h with ⟨c, fs, h1, rfl⟩ | ⟨v, st1, h1, h2⟩
  · exact he W cw w st σ H _ _ st' r h1 p.toPost
  · cases h2
    exact he W cw w st σ H _ _ _ r h1 fun w1 H1 l1 r1 a ho ha hO => p w1 σ H1 l1 r1 a ho ha hO
theorem ds_if {c : Expr} {a b : List Stmt} {pos : Pos} {fc : M Bool} {f g : M Fl} (hc : DT cl X c fc) (ha : DSs cl X a f) (hb : DSs cl X b g) : DS cl X (.If c a b pos) (dIf fc f g) := fun W cw w st σ H D o st' r h p => by
  refine PS.ws (ps_if ptW pssW pssW) ?_
  unfold tIfS
  rcases bnd_some h with ⟨c, fs, h1, rfl⟩ | ⟨v, st1, h1, h2⟩
  · exact hc W cw w st σ H _ _ st' r h1 p.toPost
  · refine hc W cw w st σ H _ _ st1 r h1 fun w1 H1 l1 r1 => ?_
    cases v with
    | true => exact ha W cw w1 st1 σ H1 D _ st' r1 h2 (p.after l1)
    | false => exact hb W cw w1 st1 σ H1 D _ st' r1 h2 (p.after l1)
theorem ds_set {i : Nat} {x : Str} {e : Expr} {pos pos' : Pos} {f : M Val} (hN : X.N.Nodup) (hi : X.N[i]? = some x) (hx : Loc X.env.scope x) (hs : swapsWith e (some (.Name x pos')) pos.line X.env = pure false) (hf : X.fn x = true ∨ X.env.scope.names.lookup x = some .local) (he : DE cl X e f) :
    DS cl X (.Assign [.Name x pos'] e pos) (bnd f fun v => bnd (put i v) fun _ => ret .nx) := fun W cw w st σ H D o st' r h p => by
  intro pins s I
  refine (L2.ps_set (X := X) (pos := pos) (pos' := pos') hN hi hx peW hs hf).run pins s σ H D I ?_
  unfold tAsg gName
  rcases bnd_some h with ⟨c, fs, h1, rfl⟩ | ⟨v, st1, h1, h2⟩
  · exact he W cw w st σ H _ _ st' r h1 p.toPost
  · refine he W cw w st σ H _ _ _ r h1 fun w1 H1 l1 r1 y hy => ?_
    have hl : i < σ.length := by rw [I.len]; exact lt_of_get hi
    rcases bnd_some h2 with ⟨c, fs, h3, rfl⟩ | ⟨_, st2, h3, h4⟩
    · obtain ⟨w', e, _⟩ := put_at r1 hl hy h3
      cases e
    · obtain ⟨w', e, l2, r2⟩ := put_at r1 hl hy h3
      cases h4
      exact p w' _ H1 (l1.trans l2) r2
/-- a new object into a slot that owns it -/
def putO (i : Nat) (o : Own) : M Unit := fun s => some (.ok (), { s with δ := s.δ.set i (some (.own o)) })
def whileN (c : M Bool) (b : M Fl) : Nat → M Fl
  | 0 => stuck
  | n + 1 => bnd c fun k => if k then bnd b fun fl => match fl with
      | .nx => whileN c b n
      | .ct => whileN c b n
      | .bk => ret .nx
      | fl => ret fl
    else ret .nx
/-- the items, and what must hold for them to be still the ones -/
structure Its where
  items : List Val
  chk : DSt → Bool
/-- what was known is known, what was locked is locked -/
structure Sml (w : Wd) (H : Hp) (w1 : Wd) (H1 : Hp) : Prop where
  g : Same w.G w1.G
  lk : ∀ (a : Addr) (q : Obj) (u : HO), w.G a = some u → H a = some (.frz q u) → H1 a = some (.frz q u)
theorem Sml.refl {w : Wd} {H : Hp} : Sml w H w H := ⟨Same.refl _, fun _ _ _ _ h => h⟩
theorem Sml.step {K : PySem.W.Frag} {w w2 w3 : Wd} {H H2 H3 : Hp} {μ : List Cell} (s : Sml w H w2 H2) (l : Le w2 H2 w3 H3) (rc : Rc K cl w2 μ H2) : Sml w H w3 H3 := ⟨s.g.trans l.g, fun a q u h1 h2 => by
  have g2 := s.g _ _ h1
  have o2 : w2.ω a = none := by
    cases e : w2.ω a with
    | none => rfl
    | some o => rw [(rc.own a o e).1] at g2; cases g2
  exact l.kp a _ o2 (s.lk a q u h1 h2)⟩
theorem Sml.put {w w2 : Wd} {H H2 H3 : Hp} {D : Addr} (s : Sml w H w2 H2) (g : w.G D = none) (hh : ∀ a, a ≠ D → H3 a = H2 a) : Sml w H w2 H3 := ⟨s.g, fun a q u h1 h2 => by
  rw [hh a (fun z => by rw [z, g] at h1; cases h1)]
  exact s.lk a q u h1 h2⟩
theorem Le.sml {K : PySem.W.Frag} {w w1 : Wd} {H H1 : Hp} {μ : List Cell} (l : Le w H w1 H1) (rc : Rc K cl w μ H) : Sml w H w1 H1 := Sml.refl.step l rc
/-- an iterator J yields the items, as long as what it walks stands still -/
def ItR (cl : Cl) (X : Cx) (w : Wd) (H : Hp) (I : Its) (J : It) : Prop :=
  ∀ (i : Nat) (w1 : Wd) (st1 : DSt) (σ1 : L2.St) (H1 : Hp), w.as <+: w1.as → Sml w H w1 H1 → R X.K cl w1 st1 σ1 H1 → I.chk st1 = true →
    (I.items.length ≤ i → J.stop i H1) ∧ ∀ v, I.items[i]? = some v → J.go i H1 ∧ ∀ x H2, J.yld i H1 x H2 → ∃ w2, Le w1 H1 w2 H2 ∧ R X.K cl w2 st1 σ1 H2 ∧ VR X.K cl w2 σ1 v x
def WI (X : Cx) (tg iter : Expr) : TI := fun σ H Rr => ∀ pins s, Inv X pins σ H s → wpAny (model X.prog X.w) X.A (eval iter X.env) (fun v s1 => wpAny (model X.prog X.w) X.A (pyIter v) (PIE X pins σ tg Rr) X.xe s1) X.xe s
theorem piW {tg iter : Expr} : PI X tg iter (WI X tg iter) := ⟨fun pins s σ H Rr I h => h pins s I⟩
def DI (cl : Cl) (X : Cx) (tg iter : Expr) (f : M Its) : Prop := ∀ (W : WX), Cw X W → ∀ (w : Wd) (st : DSt) (σ : L2.St) (H : Hp) (Rr : It → Hp → Prop) (o : Out Its) (st' : DSt), R X.K cl w st σ H → f st = some (o, st') →
  Post cl X W σ w H o st' (fun I w' H' => ∀ J, ItR cl X w' H' I J → Rr J H') → WI X tg iter σ H Rr
def forL (g : Val → M Unit) (b : M Fl) (chk : DSt → Bool) : List Val → M Fl
  | [] => fun s => if chk s then some (.ok .nx, s) else none
  | v :: vs => fun s => if chk s then bnd (g v) (fun _ => bnd b fun fl => match fl with
      | .nx => forL g b chk vs
      | .ct => forL g b chk vs
      | .bk => ret .nx
      | fl => ret fl) s else none
def dFor (fi : M Its) (g : Val → M Unit) (b : M Fl) : M Fl := bnd fi fun I => forL g b I.chk I.items
theorem drop_cons {α : Type} {l : List α} {i : Nat} {v : α} {r : List α} (h : l.drop i = v :: r) : l[i]? = some v ∧ l.drop (i + 1) = r := by
  have h1 : i < l.length := by
    cases Nat.lt_or_ge i l.length with
    | inl q => exact q
    | inr q => rw [List.drop_eq_nil_of_le q] at h; cases h
  rw [List.drop_eq_getElem_cons h1] at h
  injection h with h2 h3
  exact ⟨by rw [List.getElem?_eq_getElem h1, h2], h3⟩
theorem ds_for {tg iter : Expr} {body : List Stmt} {pos : Pos} {fi : M Its} {g : Val → M Unit} {fb : M Fl} (hcalm : X.calm = true) (hsf : ∀ x, foldedSetIterable iter X.env x = pure x) (hq : Quiet g) {vs : List Nat} (hi : DI cl X tg iter fi) (hg : DG cl X tg vs g) (hb : DSs cl X body fb) : DS cl X (.For tg iter body [] pos) (dFor fi g fb) := fun W cw w st σ H D o st' r h p => by
  intro pins s I
  -- the target by its semantics at any slots
  have pg : PG X tg (fun v σ H Q => ∃ (w : Wd) (st st' : DSt) (a : Val), R X.K cl w st σ H ∧ VR X.K cl w σ a v ∧ g a st = some (.ok (), st') ∧ ∀ w' σ' H', Le w H w' H' → R X.K cl w' st' σ' H' → Q σ' H') :=
    ⟨fun pins s σ H v u Q I ru ⟨w, st, st', a, r, ha, hga, k⟩ => hg W cw w st σ H Q a v u st' pins s r ha hga (fun w' σ' H' l r' _ _ => k w' σ' H' l r') I ru⟩
  refine (L2.ps_for (X := X) (pos := pos) cw.po hcalm piW pg pssW hsf).run pins s σ H D I ?_
  unfold tFor
  rcases bnd_some h with ⟨c, fs, h1, rfl⟩ | ⟨its, st1, h1, h2⟩
  · exact hi W cw w st σ H _ _ st' r h1 p.toPost
  · refine hi W cw w st σ H _ _ st1 r h1 fun w1 H1 l1 r1 J hJ => ?_
    refine ⟨fun i m σ2 H2 => m = its.items.length - i ∧ i ≤ its.items.length ∧ ∃ w2 st2, Le w1 H1 w2 H2 ∧ R X.K cl w2 st2 σ2 H2 ∧ forL g fb its.chk (its.items.drop i) st2 = some (o, st'), ⟨its.items.length, by simp, Nat.zero_le _, w1, st1, Le.refl _ _, r1, by simpa using h2⟩, ?_⟩
    rintro i m σ2 H2 ⟨rfl, hi2, w2, st2, l2, r2, h3⟩
    have l12 := l1.trans l2
    cases e : its.items.drop i with
    | nil =>
      rw [e] at h3
      unfold forL at h3
      split at h3
      · rename_i hc
        cases h3
        refine .inl ⟨(hJ i w2 _ σ2 H2 l2.as (l2.sml r1.rc) r2 hc).1 (by have := congrArg List.length e; rw [List.length_drop, List.length_nil] at this; omega), p w2 σ2 H2 l12 r2⟩
      · cases h3
    | cons v vs =>
      obtain ⟨e1, e2⟩ := drop_cons e
      rw [e] at h3
      unfold forL at h3
      split at h3
      · rename_i hc
        obtain ⟨go, yl⟩ := (hJ i w2 st2 σ2 H2 l2.as (l2.sml r1.rc) r2 hc).2 v e1
        have hlt : i < its.items.length := lt_of_get e1
        refine .inr ⟨go, fun σ3 H3 => ∃ w3 st3, Le w1 H1 w3 H3 ∧ R X.K cl w3 st3 σ3 H3 ∧ forL g fb its.chk (its.items.drop (i + 1)) st3 = some (o, st'), fun σ3 H3 ⟨w3, st3, q1, q2, q3⟩ => ⟨its.items.length - (i + 1), by omega, rfl, hlt, w3, st3, q1, q2, q3⟩, fun x H3 y => ?_⟩
        obtain ⟨w3, l3, r3, hx⟩ := yl x H3 y
        rcases bnd_some h3 with ⟨c, fs, h4, rfl⟩ | ⟨_, st3, h4, h5⟩
        · exact absurd h4 (hq _ _ _ _ _)
        · refine ⟨w3, st2, st3, v, r3, hx, h4, fun w4 σ4 H4 l4 r4 => ?_⟩
          have l24 := l2.trans (l3.trans l4)
          have l14 := l1.trans l24
          rcases bnd_some h5 with ⟨c, fs, h6, rfl⟩ | ⟨fl, st4, h6, h7⟩
          · exact hb W cw w4 st3 σ4 H4 _ _ st' r4 h6 (p.after l14)
          · cases fl with
            | nx => exact hb W cw w4 st3 σ4 H4 _ _ st4 r4 h6 fun w5 σ5 H5 l5 r5 => ⟨w5, st4, l24.trans l5, r5, by rw [e2]; exact h7⟩
            | ct => exact hb W cw w4 st3 σ4 H4 _ _ st4 r4 h6 fun w5 σ5 H5 l5 r5 => ⟨w5, st4, l24.trans l5, r5, by rw [e2]; exact h7⟩
            | bk => cases h7; exact hb W cw w4 st3 σ4 H4 _ _ _ r4 h6 fun w5 σ5 H5 l5 r5 => p w5 σ5 H5 (l14.trans l5) r5
            | rt v => cases h7; exact hb W cw w4 st3 σ4 H4 _ _ _ r4 h6 (p.after l14)
            | rf v => cases h7; exact hb W cw w4 st3 σ4 H4 _ _ _ r4 h6 (p.after l14)
      · cases h3
end
end Lf
namespace Lf
open PySem PySem.Spec L2
mutual
def T.sm : T → T → Bool
  | .non, .non => true
  | .bl a, .bl b => a == b
  | .int a, .int b => a == b
  | .str a, .str b => a == b
  | .lst a, .lst b => T.sms a b
  | .tup a, .tup b => T.sms a b
  | .fro a, .fro b => T.sms a b
  | .dic a, .dic b => T.smD a b
  | .dit a, .dit b => T.smE a b
  | .obj c a, .obj d b => c == d && T.smF a b
  | .exo c a, .exo d b => c == d && T.smF a b
  | _, _ => false
def T.sms : List T → List T → Bool
  | [], [] => true
  | a :: r, b :: q => T.sm a b && T.sms r q
  | _, _ => false
def T.smD : List (Key × T) → List (Key × T) → Bool
  | [], [] => true
  | a :: r, b :: q => T.smD1 a b && T.smD r q
  | _, _ => false
def T.smD1 : Key × T → Key × T → Bool
  | (k, a), (l, b) => decide (k = l) && T.sm a b
def T.smE : List (List Key × T) → List (List Key × T) → Bool
  | [], [] => true
  | a :: r, b :: q => T.smE1 a b && T.smE r q
  | _, _ => false
def T.smE1 : List Key × T → List Key × T → Bool
  | (k, a), (l, b) => decide (k = l) && T.sm a b
def T.smF : List (Str × T) → List (Str × T) → Bool
  | [], [] => true
  | a :: r, b :: q => T.smF1 a b && T.smF r q
  | _, _ => false
def T.smF1 : Str × T → Str × T → Bool
  | (k, a), (l, b) => decide (k = l) && T.sm a b
end
mutual
theorem T.sm_refl : ∀ a : T, T.sm a a = true
  | .non => by simp [T.sm]
  | .bl a => by simp [T.sm]
  | .int a => by simp [T.sm]
  | .str a => by simp [T.sm]
  | .lst a => by simp only [T.sm]; exact T.sms_refl a
  | .tup a => by simp only [T.sm]; exact T.sms_refl a
  | .fro a => by simp only [T.sm]; exact T.sms_refl a
  | .dic a => by simp only [T.sm]; exact T.smD_refl a
  | .dit a => by simp only [T.sm]; exact T.smE_refl a
  | .obj c a => by simp only [T.sm, beq_self_eq_true, Bool.true_and]; exact T.smF_refl a
  | .exo c a => by simp only [T.sm, beq_self_eq_true, Bool.true_and]; exact T.smF_refl a
theorem T.sms_refl : ∀ a : List T, T.sms a a = true
  | [] => by simp [T.sms]
  | a :: r => by simp only [T.sms, T.sm_refl a, T.sms_refl r, Bool.and_self]
theorem T.smD_refl : ∀ a : List (Key × T), T.smD a a = true
  | [] => by simp [T.smD]
  | (k, a) :: r => by simp only [T.smD, T.smD1, T.sm_refl a, T.smD_refl r, Bool.and_self, decide_true]
theorem T.smE_refl : ∀ a : List (List Key × T), T.smE a a = true
  | [] => by simp [T.smE]
  | (k, a) :: r => by simp only [T.smE, T.smE1, T.sm_refl a, T.smE_refl r, Bool.and_self, decide_true]
theorem T.smF_refl : ∀ a : List (Str × T), T.smF a a = true
  | [] => by simp [T.smF]
  | (k, a) :: r => by simp only [T.smF, T.smF1, T.sm_refl a, T.smF_refl r, Bool.and_self, decide_true]
end
mutual
theorem T.sm_eq : ∀ {a b : T}, T.sm a b = true → a = b
  | .non, b, h => by cases b <;> simp only [T.sm] at h <;> first | rfl | cases h
  | .bl a, b, h => by cases b <;> simp only [T.sm, beq_iff_eq] at h <;> first | (rw [h]) | cases h
  | .int a, b, h => by cases b <;> simp only [T.sm, beq_iff_eq] at h <;> first | (rw [h]) | cases h
  | .str a, b, h => by cases b <;> simp only [T.sm, beq_iff_eq] at h <;> first | (rw [h]) | cases h
  | .lst a, b, h => by cases b <;> simp only [T.sm] at h <;> first | (rw [T.sms_eq h]) | cases h
  | .tup a, b, h => by cases b <;> simp only [T.sm] at h <;> first | (rw [T.sms_eq h]) | cases h
  | .fro a, b, h => by cases b <;> simp only [T.sm] at h <;> first | (rw [T.sms_eq h]) | cases h
  | .dic a, b, h => by cases b <;> simp only [T.sm] at h <;> first | (rw [T.smD_eq h]) | cases h
  | .dit a, b, h => by cases b <;> simp only [T.sm] at h <;> first | (rw [T.smE_eq h]) | cases h
  | .obj c a, b, h => by cases b <;> simp only [T.sm, Bool.and_eq_true, beq_iff_eq] at h <;> first | (rw [h.1, T.smF_eq h.2]) | cases h
  | .exo c a, b, h => by cases b <;> simp only [T.sm, Bool.and_eq_true, beq_iff_eq] at h <;> first | (rw [h.1, T.smF_eq h.2]) | cases h
theorem T.sms_eq : ∀ {a b : List T}, T.sms a b = true → a = b
  | [], b, h => by cases b <;> simp only [T.sms] at h <;> first | rfl | cases h
  | a :: r, b, h => by
    cases b with
    | nil => simp [T.sms, T.smD, T.smE, T.smF] at h
    | cons c q => simp only [T.sms, Bool.and_eq_true] at h; rw [T.sm_eq h.1, T.sms_eq h.2]
theorem T.smD_eq : ∀ {a b : List (Key × T)}, T.smD a b = true → a = b
  | [], b, h => by cases b <;> simp only [T.smD] at h <;> first | rfl | cases h
  | (k, a) :: r, b, h => by
    cases b with
    | nil => simp [T.sms, T.smD, T.smE, T.smF] at h
    | cons c q => obtain ⟨l, c⟩ := c; simp only [T.smD, T.smD1, Bool.and_eq_true, decide_eq_true_eq] at h; rw [h.1.1, T.sm_eq h.1.2, T.smD_eq h.2]
theorem T.smE_eq : ∀ {a b : List (List Key × T)}, T.smE a b = true → a = b
  | [], b, h => by cases b <;> simp only [T.smE] at h <;> first | rfl | cases h
  | (k, a) :: r, b, h => by
    cases b with
    | nil => simp [T.sms, T.smD, T.smE, T.smF] at h
    | cons c q => obtain ⟨l, c⟩ := c; simp only [T.smE, T.smE1, Bool.and_eq_true, decide_eq_true_eq] at h; rw [h.1.1, T.sm_eq h.1.2, T.smE_eq h.2]
theorem T.smF_eq : ∀ {a b : List (Str × T)}, T.smF a b = true → a = b
  | [], b, h => by cases b <;> simp only [T.smF] at h <;> first | rfl | cases h
  | (k, a) :: r, b, h => by
    cases b with
    | nil => simp [T.sms, T.smD, T.smE, T.smF] at h
    | cons c q => obtain ⟨l, c⟩ := c; simp only [T.smF, T.smF1, Bool.and_eq_true, decide_eq_true_eq] at h; rw [h.1.1, T.sm_eq h.1.2, T.smF_eq h.2]
end
def Fv.sms : List Fv → List Fv → Bool
  | [], [] => true
  | .t a :: r, .t b :: q => T.sm a b && Fv.sms r q
  | .loc a :: r, .loc b :: q => a == b && Fv.sms r q
  | _, _ => false
theorem Fv.sms_refl : ∀ a : List Fv, Fv.sms a a = true
  | [] => rfl
  | .t a :: r => by simp only [Fv.sms, T.sm_refl, Fv.sms_refl r, Bool.and_self]
  | .loc a :: r => by simp only [Fv.sms, beq_self_eq_true, Fv.sms_refl r, Bool.and_self]
theorem Fv.sms_eq : ∀ {a b : List Fv}, Fv.sms a b = true → a = b
  | [], [], _ => rfl
  | .t a :: r, .t b :: q, h => by simp only [Fv.sms, Bool.and_eq_true] at h; rw [T.sm_eq h.1, Fv.sms_eq h.2]
  | .loc a :: r, .loc b :: q, h => by simp only [Fv.sms, Bool.and_eq_true, beq_iff_eq] at h; rw [h.1, Fv.sms_eq h.2]
  | [], _ :: _, h => by cases h
  | .t _ :: _, [], h => by cases h
  | .loc _ :: _, [], h => by cases h
  | .t _ :: _, .loc _ :: _, h => by cases h
  | .loc _ :: _, .t _ :: _, h => by cases h
section
variable {cl : Cl} {X : Cx}
/-- the sequence v stands still -/
def still (v : Val) (b : Bool) (ts : List Fv) : DSt → Bool := match v with
  | .t _ => fun _ => true
  | v => fun s => match seqOf s v with
    | some (b', ts') => (b == b') && Fv.sms ts ts'
    | none => false
theorem still_seq {v : Val} {b : Bool} {ts : List Fv} {s s1 : DSt} (h : seqOf s v = some (b, ts)) (h1 : still v b ts s1 = true) : seqOf s1 v = some (b, ts) := by
  cases v with
  | t x => cases x <;> simp only [seqOf] at h ⊢ <;> exact h
  | loc n =>
    unfold still at h1
    dsimp only at h1
    split at h1
    · rename_i b' ts' e
      simp only [Bool.and_eq_true, beq_iff_eq] at h1
      rw [e, ← h1.1, Fv.sms_eq h1.2]
    · cases h1
  | sl n =>
    unfold still at h1
    dsimp only at h1
    split at h1
    · rename_i b' ts' e
      simp only [Bool.and_eq_true, beq_iff_eq] at h1
      rw [e, ← h1.1, Fv.sms_eq h1.2]
    · cases h1
def walkSeq (v : Val) : M Its := fun s => match seqOf s v with
  | some (b, ts) => some (.ok ⟨ts.map Fv.val, still v b ts⟩, s)
  | none => none
theorem FvR.vr {K : PySem.W.Frag} {w : Wd} {σ : L2.St} {f : Fv} {x : V} (h : FvR K cl w f x) : VR K cl w σ f.val x := by
  cases f with
  | t y => exact h
  | loc n => exact h
theorem PI.wi {tg iter : Expr} {wi : TI} (h : PI X tg iter wi) {σ : L2.St} {H : Hp} {Rr : It → Hp → Prop} (q : wi σ H Rr) : WI X tg iter σ H Rr := fun pins s I => h.run pins s σ H Rr I q
theorem paired_at {α β : Type} {F : α → β → Prop} : ∀ {l : List α} {m : List β} {i : Nat} {a : α}, Paired F l m → l[i]? = some a → ∃ b, m[i]? = some b ∧ F a b
  | _, _, i, a, .nil, e => by simp at e
  | _, _, 0, a, .cons h _, e => by simp at e; subst e; exact ⟨_, rfl, h⟩
  | _, _, i + 1, a, .cons _ t, e => by
    obtain ⟨b, h1, h2⟩ := paired_at (i := i) (a := a) t (by simpa using e)
    exact ⟨b, by simpa using h1, h2⟩
/-- an own slot that is walked stands still from then on -/
def lend : Val → M Val
  | .sl i => bnd (frz (.sl i)) fun x => ret (.t x)
  | v => ret v
theorem lend_at {K : PySem.W.Frag} {w : Wd} {st st' : DSt} {σ : L2.St} {H : Hp} (r : R K cl w st σ H) {v : Val} {x : V} {o : Out Val} (hv : VR K cl w σ v x) (h : lend v st = some (o, st')) : ∃ v' w', o = .ok v' ∧ Le w H w' H ∧ R K cl w' st' σ H ∧ VR K cl w' σ v' x ∧ ∀ i, v' ≠ .sl i := by
  cases v with
  | t y => cases h; exact ⟨_, w, rfl, Le.refl _ _, r, hv, fun _ z => nomatch z⟩
  | loc n => cases h; exact ⟨_, w, rfl, Le.refl _ _, r, hv, fun _ z => nomatch z⟩
  | sl i =>
    unfold lend at h
    rcases bnd_some h with ⟨c, fs, h1, rfl⟩ | ⟨t, st1, h1, h2⟩
    · obtain ⟨t, w', e, _⟩ := frz_at r hv h1
      cases e
    · obtain ⟨t', w1, e, l1, r1, q1⟩ := frz_at r hv h1
      cases e
      cases h2
      exact ⟨_, w1, rfl, l1, r1, q1, fun _ z => nomatch z⟩
theorem vr_later {K : PySem.W.Frag} {w w1 : Wd} {σ σ1 : L2.St} {v : Val} {x : V} (la : w.as <+: w1.as) (lg : Same w.G w1.G) (hv : VR K cl w σ v x) (hs : ∀ i, v ≠ .sl i) : VR K cl w1 σ1 v x := by
  cases v with
  | t y => exact Rep.mono lg hv
  | loc n => obtain ⟨b, h1, h2⟩ := hv; exact ⟨b, pre_get la h1, h2⟩
  | sl i => exact absurd rfl (hs i)
theorem it_list {w : Wd} {st : DSt} {σ : L2.St} {H : Hp} {v : Val} {a : Addr} {ts : List Fv} (h : seqOf st v = some (false, ts)) (hv : VR X.K cl w σ v (.ref a)) (hs : ∀ i, v ≠ .sl i) : ItR cl X w H ⟨ts.map Fv.val, still v false ts⟩ (Itl X.K a) := fun i w1 st1 σ1 H1 la ⟨lg, _⟩ r hc => by
  obtain ⟨b, vs, e, g, pr⟩ := seq_at r (still_seq h hc) (vr_later (σ1 := σ1) la lg hv hs)
  cases e
  have g' : SqL X.K H1 a vs := g
  refine ⟨fun hi => ⟨vs, g', by rw [← pr.length]; simpa using hi⟩, fun u hu => ?_⟩
  rw [List.getElem?_map, Option.map_eq_some_iff] at hu
  obtain ⟨f, hf, rfl⟩ := hu
  obtain ⟨x, hx, fx⟩ := paired_at pr hf
  refine ⟨⟨vs, x, g', hx⟩, fun y H2 ⟨e2, hy⟩ => ?_⟩
  subst e2
  have := hy vs g'
  rw [hx] at this
  cases this
  exact ⟨w1, Le.refl _ _, r, fx.vr⟩
theorem it_tup {w : Wd} {st : DSt} {σ : L2.St} {H : Hp} {v : Val} {a : Addr} {ts : List Fv} (h : seqOf st v = some (true, ts)) (hv : VR X.K cl w σ v (.ref a)) (hs : ∀ i, v ≠ .sl i) : ItR cl X w H ⟨ts.map Fv.val, still v true ts⟩ (Itt X.K a) := fun i w1 st1 σ1 H1 la ⟨lg, _⟩ r hc => by
  obtain ⟨b, vs, e, g, pr⟩ := seq_at r (still_seq h hc) (vr_later (σ1 := σ1) la lg hv hs)
  cases e
  have g' : SqT X.K H1 a vs := g
  refine ⟨fun hi => ⟨vs, g', by rw [← pr.length]; simpa using hi⟩, fun u hu => ?_⟩
  rw [List.getElem?_map, Option.map_eq_some_iff] at hu
  obtain ⟨f, hf, rfl⟩ := hu
  obtain ⟨x, hx, fx⟩ := paired_at pr hf
  refine ⟨⟨vs, x, g', hx⟩, fun y H2 ⟨e2, hy⟩ => ?_⟩
  subst e2
  have := hy vs g'
  rw [hx] at this
  cases this
  exact ⟨w1, Le.refl _ _, r, fx.vr⟩
/-- signs of a text -/
def signs (x : Str) : List Val := x.cps.toList.map fun c => .t (.str ⟨#[c]⟩)
theorem it_str {w : Wd} {H : Hp} {x : Str} : ItR cl X w H ⟨signs x, fun _ => true⟩ (L2.Its x) := fun i w1 st1 σ1 H1 la ⟨lg, _⟩ r hc => by
  refine ⟨fun hi => by show x.cps.size ≤ i; simpa [signs] using hi, fun u hu => ?_⟩
  have hu' : (signs x)[i]? = some u := hu
  unfold signs at hu'
  rw [List.getElem?_map, Option.map_eq_some_iff] at hu'
  obtain ⟨c, hc', rfl⟩ := hu'
  have hlt : i < x.cps.size := by simpa using lt_of_get hc'
  refine ⟨hlt, fun y H2 ⟨e2, c2, h2, h3⟩ => ?_⟩
  subst e2
  rw [Array.getElem?_toList] at hc'
  rw [hc'] at h2
  cases h2
  subst h3
  exact ⟨w1, Le.refl _ _, r, .str _⟩
/-- for x in e: a list, a tuple, a text -/
def walkOf (v : Val) : M Its := match v with
  | .t (.str x) => ret ⟨signs x, fun _ => true⟩
  | v => bnd (lend v) walkSeq
theorem di_seq {tg e : Expr} {f : M Val} (he : DE cl X e f) : DI cl X tg e (bnd f walkOf) := fun W cw w st σ H Rr o st' r h p => by
  rcases bnd_some h with ⟨c, fs, h1, rfl⟩ | ⟨v, st1, h1, h2⟩
  · refine PI.wi (pi_list peW) ?_
    exact he W cw w st σ H _ _ st' r h1 p
  · have main : (∀ x, v ≠ .t (.str x)) → bnd (lend v) walkSeq st1 = some (o, st') → WI X tg e σ H Rr := fun hns h3 => by
      rcases bnd_some h3 with ⟨c, fs, h4, rfl⟩ | ⟨v', st2, h4, h5⟩
      · -- lend raises nothing
        exfalso
        cases v with
        | t y => cases h4
        | loc n => cases h4
        | sl i =>
          unfold lend at h4
          rcases bnd_some h4 with ⟨c, fs, h6, e⟩ | ⟨t, st3, h6, h7⟩
          · unfold frz at h6
            dsimp only at h6
            split at h6 <;> cases h6
          · cases h7
      · unfold walkSeq at h5
        split at h5
        · rename_i b ts e5
          cases h5
          cases b with
          | false =>
            refine PI.wi (pi_list peW) ?_
            refine he W cw w st σ H _ _ st1 r h1 fun w1 H1 l1 r1 x hx => ?_
            obtain ⟨v2, w2, e2, l2, r2, hv2, ns⟩ := lend_at r1 hx h4
            cases e2
            obtain ⟨a, vs, rfl, g, pr⟩ := seq_at r2 e5 hv2
            exact ⟨a, rfl, ⟨vs, g⟩, p w2 H1 (l1.trans l2) r2 _ (it_list e5 hv2 ns)⟩
          | true =>
            refine PI.wi (pi_tup peW) ?_
            refine he W cw w st σ H _ _ st1 r h1 fun w1 H1 l1 r1 x hx => ?_
            obtain ⟨v2, w2, e2, l2, r2, hv2, ns⟩ := lend_at r1 hx h4
            cases e2
            obtain ⟨a, vs, rfl, g, pr⟩ := seq_at r2 e5 hv2
            exact ⟨a, rfl, ⟨vs, g⟩, p w2 H1 (l1.trans l2) r2 _ (it_tup e5 hv2 ns)⟩
        · cases h5
    unfold walkOf at h2
    split at h2
    · rename_i x
      cases h2
      refine PI.wi (pi_str peW) ?_
      refine he W cw w st σ H _ _ _ r h1 fun w1 H1 l1 r1 y hy => ?_
      cases hy
      exact ⟨x, rfl, p w1 H1 l1 r1 _ it_str⟩
    · rename_i hns
      exact main (fun x z => hns x z) h2
def rangeV (lo : Int) (n : Nat) : List Val := (List.range n).map fun k => .t (.int (lo + (k : Nat)))
theorem it_range {w : Wd} {H : Hp} {lo : Int} {n : Nat} : ItR cl X w H ⟨rangeV lo n, fun _ => true⟩ (Itr lo n) := fun i w1 st1 σ1 H1 la ⟨lg, _⟩ r hc => by
  refine ⟨fun hi => by show n ≤ i; simpa [rangeV] using hi, fun u hu => ?_⟩
  have hu' : (rangeV lo n)[i]? = some u := hu
  unfold rangeV at hu'
  rw [List.getElem?_map, Option.map_eq_some_iff] at hu'
  obtain ⟨c, hc', rfl⟩ := hu'
  have hlt : i < n := by simpa using lt_of_get hc'
  rw [List.getElem?_range hlt] at hc'
  cases hc'
  refine ⟨hlt, fun y H2 ⟨e2, h3⟩ => ?_⟩
  subst e2
  subst h3
  exact ⟨w1, Le.refl _ _, r, .int _⟩
def mkRange (vs : List Val) : M Its := match vs with
  | [.t (.int j)] => if decide (-(2 ^ 62) ≤ j) && decide (j < 2 ^ 62) then ret ⟨rangeV 0 j.toNat, fun _ => true⟩ else stuck
  | [.t (.int i), .t (.int j)] => if decide (-(2 ^ 62) ≤ i) && decide (i < 2 ^ 62) && decide (-(2 ^ 62) ≤ j) && decide (j < 2 ^ 62) then ret ⟨rangeV i (j - i).toNat, fun _ => true⟩ else stuck
  | _ => stuck
theorem mkRange_some {vs : List Val} {s s' : DSt} {o : Out Its} (h : mkRange vs s = some (o, s')) : s' = s ∧ ((∃ j : Int, vs = [.t (.int j)] ∧ -(2 ^ 62) ≤ j ∧ j < 2 ^ 62 ∧ o = .ok ⟨rangeV 0 j.toNat, fun _ => true⟩) ∨
    ∃ i j : Int, vs = [.t (.int i), .t (.int j)] ∧ (-(2 ^ 62) ≤ i ∧ i < 2 ^ 62 ∧ -(2 ^ 62) ≤ j ∧ j < 2 ^ 62) ∧ o = .ok ⟨rangeV i (j - i).toNat, fun _ => true⟩) := by
  unfold mkRange at h
  split at h
  · split at h
    · rename_i hb
      cases h
      simp only [Bool.and_eq_true, decide_eq_true_eq] at hb
      exact ⟨rfl, .inl ⟨_, rfl, hb.1, hb.2, rfl⟩⟩
    · cases h
  · split at h
    · rename_i hb
      cases h
      simp only [Bool.and_eq_true, decide_eq_true_eq] at hb
      exact ⟨rfl, .inr ⟨_, _, rfl, ⟨hb.1.1.1, hb.1.1.2, hb.1.2, hb.2⟩, rfl⟩⟩
    · cases h
  · cases h
theorem di_range1 {tg a : Expr} {p pos : Pos} {f : M (List Val)} (hg : Gl X "range") (hm : X.mg "range" = none) (hs : starEach [a] X.env = [(false, eval a X.env)]) (ha : DA cl X [a] f) : DI cl X tg (.Call (.Name "range" p) [a] [] pos) (bnd f fun vs => if vs.length = 1 then mkRange vs else stuck) := fun W cw w st σ H Rr o st' r h pp => by
  refine PI.wi (pi_range1 hg hm paW hs) ?_
  rcases bnd_some h with ⟨c, fs, h1, rfl⟩ | ⟨vs, st1, h1, h2⟩
  · exact ha W cw w st σ H _ _ st' r h1 pp
  · refine ha W cw w st σ H _ _ st1 r h1 fun w1 H1 l1 r1 xs hxs => ?_
    split at h2
    · rename_i hl
      obtain ⟨rfl, ⟨j, rfl, b1, b2, rfl⟩ | ⟨i, j, rfl, _⟩⟩ := mkRange_some h2
      · cases hxs with
        | cons hx hn => cases hn; cases hx; exact ⟨j, rfl, b1, b2, pp w1 H1 l1 r1 _ it_range⟩
      · cases hl
    · cases h2
def enumV (ts : List T) : List Val := (List.range ts.length).map fun k => .t (.tup [.int (k : Nat), ts.getD k .non])
/-- a list with plain items, as it is walked -/
def walkEnum (v : Val) : M Its := bnd (lend v) fun v => fun s => match seqOf s v with
  | some (false, ts) => match plains ts with
    | some xs => some (.ok ⟨enumV xs, still v false (xs.map .t)⟩, s)
    | none => none
  | _ => none
end
end Lf
namespace Lf
open PySem PySem.Spec L2
section
variable {cl : Cl} {X : Cx}
def wipeD (δ : List (Option Slot)) : List Nat → List (Option Slot)
  | [] => δ
  | v :: vs => (wipeD δ vs).set v none
def backD (δ δ2 : List (Option Slot)) : List Nat → List (Option Slot)
  | [] => δ2
  | v :: vs => (backD δ δ2 vs).set v (δ[v]?).join
def noOwn (δ : List (Option Slot)) (vs : List Nat) : Bool := vs.all fun v => match δ[v]? with
  | some (some (.own _)) => false
  | _ => true
theorem wipeD_length (δ : List (Option Slot)) : ∀ vs : List Nat, (wipeD δ vs).length = δ.length
  | [] => rfl
  | v :: vs => by unfold wipeD; rw [List.length_set, wipeD_length δ vs]
theorem backD_length (δ δ2 : List (Option Slot)) : ∀ vs : List Nat, (backD δ δ2 vs).length = δ2.length
  | [] => rfl
  | v :: vs => by unfold backD; rw [List.length_set, backD_length δ δ2 vs]
theorem wipeD_some {δ : List (Option Slot)} {i : Nat} {x : Slot} : ∀ {vs : List Nat}, (wipeD δ vs)[i]? = some (some x) → δ[i]? = some (some x) ∧ i ∉ vs
  | [], h => ⟨h, by simp⟩
  | v :: vs, h => by
    unfold wipeD at h
    by_cases hi : v = i
    · subst hi
      by_cases hv : v < (wipeD δ vs).length
      · rw [List.getElem?_set_self hv] at h; cases h
      · rw [List.getElem?_eq_none (by simpa using hv)] at h; cases h
    · rw [List.getElem?_set_ne hi] at h
      obtain ⟨h1, h2⟩ := wipeD_some h
      exact ⟨h1, by simp only [List.mem_cons, not_or]; exact ⟨fun e => hi e.symm, h2⟩⟩
theorem backD_some {δ δ2 : List (Option Slot)} {i : Nat} {x : Slot} (hl : δ.length = δ2.length) : ∀ {vs : List Nat}, (backD δ δ2 vs)[i]? = some (some x) → (i ∈ vs ∧ δ[i]? = some (some x)) ∨ (i ∉ vs ∧ δ2[i]? = some (some x))
  | [], h => .inr ⟨by simp, h⟩
  | v :: vs, h => by
    unfold backD at h
    by_cases hi : v = i
    · subst hi
      by_cases hv : v < (backD δ δ2 vs).length
      · rw [List.getElem?_set_self hv] at h
        refine .inl ⟨by simp, ?_⟩
        cases e : δ[v]? with
        | none => rw [e] at h; cases h
        | some y => rw [e] at h; simpa using h
      · rw [List.getElem?_eq_none (by simpa using hv)] at h; cases h
    · rw [List.getElem?_set_ne hi] at h
      rcases backD_some hl h with ⟨h1, h2⟩ | ⟨h1, h2⟩
      · exact .inl ⟨by simp [h1], h2⟩
      · exact .inr ⟨by simp only [List.mem_cons, not_or]; exact ⟨fun e => hi e.symm, h1⟩, h2⟩
theorem R.wiped {K : PySem.W.Frag} {w : Wd} {st : DSt} {σ : L2.St} {H : Hp} (r : R K cl w st σ H) (vs : List Nat) : R K cl w { st with δ := wipeD st.δ vs } (wipe σ vs) H := by
  refine ⟨r.rc, by rw [wipeD_length, wipe_length]; exact r.slen, fun i s h => ?_⟩
  obtain ⟨h1, h2⟩ := wipeD_some h
  rw [wipe_out h2]
  exact r.slot i s h1
theorem R.unwipe {K : PySem.W.Frag} {w w' : Wd} {st st2 : DSt} {σ σ2 : L2.St} {H H' : Hp} {vs : List Nat} (r : R K cl w st σ H) (l : Le w H w' H') (no : noOwn st.δ vs = true) (r2 : R K cl w' st2 σ2 H') (e : wipe σ2 vs = wipe σ vs) : R K cl w' { st2 with δ := backD st.δ st2.δ vs } σ H' := by
  have hl : st.δ.length = st2.δ.length := by
    have := congrArg List.length e
    rw [wipe_length, wipe_length] at this
    rw [r.slen, r2.slen, this]
  refine ⟨r2.rc, by show (backD st.δ st2.δ vs).length = _; rw [backD_length, ← hl]; exact r.slen, fun i s h => ?_⟩
  rcases backD_some hl h with ⟨h1, h2⟩ | ⟨h1, h2⟩
  · obtain ⟨x, x1, x2⟩ := r.slot i s h2
    refine ⟨x, x1, ?_⟩
    cases s with
    | t y => exact Rep.mono l.g x2
    | loc n => obtain ⟨a, e1, e2⟩ := x2; exact ⟨a, pre_get l.as e1, e2⟩
    | own o =>
      have := List.all_eq_true.mp no i h1
      simp only [h2] at this
      cases this
    | exc c fs => trivial
    | fn L cs => exact FnR.mono l.g x2
    | gf a => exact x2
  · obtain ⟨x, x1, x2⟩ := r2.slot i s h2
    refine ⟨x, ?_, x2⟩
    rw [← wipe_out (σ := σ) h1, ← e, wipe_out h1]; exact x1
theorem wipe_agree {σ σ2 : L2.St} : ∀ {vs : List Nat}, σ2.length = σ.length → (∀ j, j ∉ vs → σ2[j]? = σ[j]?) → wipe σ2 vs = wipe σ vs := fun {vs} hl h => by
  apply List.ext_getElem?
  intro j
  by_cases hj : j ∈ vs
  · have key : ∀ (τ : L2.St), τ.length = σ.length → (wipe τ vs)[j]? = if j < σ.length then some none else none := fun τ ht => by
      clear h
      induction vs with
      | nil => cases hj
      | cons v vs ih =>
        unfold wipe
        by_cases hv : v = j
        · subst hv
          by_cases hlt : v < σ.length
          · rw [List.getElem?_set_self (by rw [wipe_length, ht]; exact hlt), if_pos hlt]
          · rw [List.getElem?_eq_none (by rw [List.length_set, wipe_length, ht]; omega), if_neg hlt]
        · rw [List.getElem?_set_ne hv]
          rcases List.mem_cons.mp hj with z | z
          · exact absurd z.symm hv
          · exact ih z
    rw [key σ2 hl, key σ rfl]
  · rw [wipe_out hj, wipe_out hj]; exact h j hj
/-- D-level readings for the block, whatever its context is -/
def tD (cl : Cl) (K : PySem.W.Frag) (f : M Val) : TE := fun σ H Q => ∃ (w : Wd) (st st' : DSt) (v : Val), R K cl w st σ H ∧ f st = some (.ok v, st') ∧ ∀ w' H' x, Le w H w' H' → R K cl w' st' σ H' → VR K cl w' σ v x → Q x H'
def tDT (cl : Cl) (K : PySem.W.Frag) (f : M Bool) : TT := fun σ H Q => ∃ (w : Wd) (st st' : DSt) (v : Bool), R K cl w st σ H ∧ f st = some (.ok v, st') ∧ ∀ w' H', Le w H w' H' → R K cl w' st' σ H' → Q v H'
def tDG (cl : Cl) (K : PySem.W.Frag) (vs : List Nat) (g : Val → M Unit) : TG := fun x σ H Q => ∃ (w : Wd) (st st' : DSt) (v : Val), R K cl w st σ H ∧ VR K cl w σ v x ∧ g v st = some (.ok (), st') ∧ ∀ w' σ' H', Le w H w' H' → R K cl w' st' σ' H' → σ'.length = σ.length → (∀ j, j ∉ vs → σ'[j]? = σ[j]?) → Q σ' H'
def cFalse : WX := fun _ _ _ _ => False
theorem pe_tD {X' : Cx} {e : Expr} {f : M Val} (cw : Cw X' cFalse) (h : DE cl X' e f) : PE X' e (tD cl X'.K f) := ⟨fun pins s σ H Q I ⟨w, st, st', v, r, hf, k⟩ => h cFalse cw w st σ H Q (.ok v) st' r hf (fun w' H' l r' x hx => k w' H' x l r' hx) pins s I⟩
theorem pt_tDT {X' : Cx} {e : Expr} {f : M Bool} (cw : Cw X' cFalse) (h : DT cl X' e f) : PT X' e (tDT cl X'.K f) := ⟨fun pins s σ H Q I ⟨w, st, st', v, r, hf, k⟩ => h cFalse cw w st σ H Q (.ok v) st' r hf (fun w' H' l r' => k w' H' l r') pins s I⟩
theorem pg_tDG {X' : Cx} {e : Expr} {vs : List Nat} {g : Val → M Unit} (cw : Cw X' cFalse) (h : DG cl X' e vs g) : PG X' e (tDG cl X'.K vs g) := ⟨fun pins s σ H x u Q I ru ⟨w, st, st', v, r, hv, hf, k⟩ => h cFalse cw w st σ H Q v x u st' pins s r hv hf k I ru⟩
theorem cw_blk {s : Shared} {H : Hp} {scope : Scope} {env : Env} {fp : List Addr} : Cw (X.blk s H scope env fp) cFalse := ⟨takes0, PassesOwn.never⟩
/-- no test, or one -/
inductive DTs (cl : Cl) (X : Cx) : List Expr → M Bool → Prop
  | nil : DTs cl X [] (ret true)
  | one {c : Expr} {f : M Bool} : DT cl X c f → DTs cl X [c] f
theorem pts_tDT {X' : Cx} {es : List Expr} {f : M Bool} (cw : Cw X' cFalse) (h : DTs cl X' es f) : PTs X' es (tDT cl X'.K f) := by
  cases h with
  | nil => exact ⟨fun pins s σ H Q I ⟨w, st, st', v, r, hf, k⟩ => by cases hf; exact pts_nil.run pins s σ H Q I (k w H (Le.refl _ _) r)⟩
  | one h => exact pts_one (pt_tDT cw h)
def compL (vs : List Nat) (g : Val → M Unit) (t : M Bool) (e : M Val) (chk : DSt → Bool) : List Val → List T → M (List T)
  | [], acc => fun s => if chk s then some (.ok acc, s) else none
  | v :: r, acc => fun s => if chk s then bnd (g v) (fun _ => bnd t fun b => if b then bnd e fun x => bnd (frz x) fun y => fun s => if acc.length < sizeLine then compL vs g t e chk r (acc ++ [y]) { s with δ := wipeD s.δ vs } else none
      else fun s => compL vs g t e chk r acc { s with δ := wipeD s.δ vs }) s else none
/-- nothing raised within it -/
def hush {α : Type} (f : M α) : M α := fun s => match f s with
  | some (.ok a, s') => some (.ok a, s')
  | _ => none
theorem hush_some {α : Type} {f : M α} {s s' : DSt} {o : Out α} (h : hush f s = some (o, s')) : ∃ a, o = .ok a ∧ f s = some (.ok a, s') := by
  unfold hush at h
  split at h
  · rename_i a s1 e
    cases h
    exact ⟨a, rfl, e⟩
  · cases h
def dComp (vs : List Nat) (fi : M Its) (g : Val → M Unit) (t : M Bool) (e : M Val) : M Own := bnd fi fun I => fun s => if noOwn s.δ vs then
    match hush (compL vs g t e I.chk I.items []) { s with δ := wipeD s.δ vs } with
    | some (.ok ys, s2) => some (.ok (.lst ys), { s2 with δ := backD s.δ s2.δ vs })
    | _ => none
  else none
/-- an address that nobody speaks of may hold anything -/
theorem R.swap {K : PySem.W.Frag} {w : Wd} {st : DSt} {σ : L2.St} {H H' : Hp} (r : R K cl w st σ H) {D : Addr} (g : w.G D = none) (o : w.ω D = none) (hh : ∀ a, a ≠ D → H' a = H a) (nt : ∀ xs : List V, H' D ≠ some (.tup xs) := by first | (intro _ z; rw [upd_same] at z; cases z) | (intro _ z; rw [del_same] at z; cases z) | (intro _ z; simp at z) | (intro _ z; exact nomatch (show (none : Option HO) = _ from Eq.trans (Eq.symm (if_pos rfl)) z))) : R K cl w st σ H' := by
  refine ⟨⟨fun a u e => ?_, r.rc.len, fun n c a h1 h2 h3 => ?_, fun a u e => ?_, r.rc.fz, fun a xs q => by
    by_cases hb : a = D
    · subst hb; exact absurd q (nt xs)
    · rw [hh a hb] at q; exact r.rc.tu a xs q⟩, r.slen, fun i s e => ?_⟩
  · have hne : a ≠ D := fun z => by rw [z, g] at e; cases e
    rw [hh a hne]; exact r.rc.sub a u e
  · obtain ⟨x, y⟩ := r.rc.cell n c a h1 h2 h3
    have hne : a ≠ D := fun z => by rw [z, o] at x; cases x
    exact ⟨x, y.keep (List.prefix_refl _) (Same.refl _) fun u q => by rw [hh a hne]; exact q⟩
  · have hne : a ≠ D := fun z => by rw [z, o] at e; cases e
    rw [hh a hne]; exact r.rc.own a u e
  · obtain ⟨x, h1, h2⟩ := r.slot i s e
    refine ⟨x, h1, ?_⟩
    cases s with
    | t y => exact h2
    | loc n => exact h2
    | own q =>
      obtain ⟨a, e1, e2, e3⟩ := h2
      have hne : a ≠ D := fun z => by rw [z, o] at e2; cases e2
      exact ⟨a, e1, e2, e3.keep (Same.refl _) fun u q => by rw [hh a hne]; exact q⟩
    | exc c fs => trivial
    | fn L cs => exact h2
    | gf a => exact h2
theorem Le.swap {w w' : Wd} {H H1 H2 : Hp} {D : Addr} (l : Le w H w' H1) (hD : H D = none) (hh : ∀ a, a ≠ D → H2 a = H1 a) : Le w H w' H2 :=
  ⟨l.as, l.g, l.own, fun a o h1 h2 h3 h4 => by rw [hh a (fun z => by rw [z, hD] at h2; cases h2)]; exact l.kq a o h1 h2 h3 h4, fun a h1 h2 => by rw [hh a (fun z => h2 (by rw [z]; exact hD))]; exact l.th a h1 h2, l.gk⟩
theorem Reps.snoc {K : PySem.W.Frag} {G : Hp} {ts : List T} {vs : List V} {t : T} {v : V} (h : Reps K cl G ts vs) (q : Rep K cl G t v) : Reps K cl G (ts ++ [t]) (vs ++ [v]) := h.append (.cons q .nil)
theorem R.free {K : PySem.W.Frag} {w : Wd} {st : DSt} {σ : L2.St} {H : Hp} (r : R K cl w st σ H) {D : Addr} (hD : H D = none) : w.G D = none ∧ w.ω D = none := by
  refine ⟨?_, ?_⟩
  · cases e : w.G D with
    | none => rfl
    | some u => rcases r.rc.sub D u e with h | ⟨_, _, h⟩ <;> (rw [hD] at h; cases h)
  · cases e : w.ω D with
    | none => rfl
    | some u => exact absurd hD (r.rc.own D u e).2
/-- what a comprehension asks, by its plain semantics -/
theorem comp_read {tg iter : Expr} {vs : List Nat} {fi : M Its} {g : Val → M Unit} {ft : M Bool} {fe : M Val} (hi : DI cl X tg iter fi) {W : WX} (cw : Cw X W) {w : Wd} {st st' : DSt} {σ : L2.St} {H : Hp} {Q : VK} {o : Out Own} (r : R X.K cl w st σ H) (h : dComp vs fi g ft fe st = some (o, st'))
    (p : Post cl X W σ w H o st' (fun v w' H' => ∀ (p : Addr) (ho : HO), H' p = none → (∀ H2, H2 p = some ho → OwnR X.K cl w'.G H2 v p) → Q (.ref p) (upd H' p ho))) :
    tLc (WI X tg iter) (tDG cl X.K vs g) (tDT cl X.K ft) (tD cl X.K fe) vs σ H Q := by
  unfold tLc
  rcases bnd_some h with ⟨c, fs, h1, rfl⟩ | ⟨its, st1, h1, h2⟩
  · exact hi W cw w st σ H _ _ st' r h1 p
  · refine hi W cw w st σ H _ _ st1 r h1 fun w1 H1 l1 r1 J hJ => ?_
    split at h2
    · rename_i no
      split at h2
      · rename_i ys s2 e2
        cases h2
        obtain ⟨_, z, e3⟩ := hush_some e2
        cases z
        intro D hD
        obtain ⟨gD, oD⟩ := r1.free hD
        refine ⟨fun i m H2 => m = its.items.length - i ∧ i ≤ its.items.length ∧ ∃ w2 st2 acc accV, Le w1 H1 w2 H2 ∧ R X.K cl w2 st2 (wipe σ vs) H2 ∧ w2.G D = none ∧ w2.ω D = none ∧ H2 D = some (.lst accV) ∧ Reps X.K cl w2.G acc accV ∧ compL vs g ft fe its.chk (its.items.drop i) acc st2 = some (.ok ys, s2),
          ⟨its.items.length, by simp, Nat.zero_le _, w1, _, [], [], (Le.refl w1 H1).swap hD (fun a ha => upd_ne ha), (r1.wiped vs).swap gD oD (fun a ha => upd_ne ha), gD, oD, upd_same, .nil, by simpa using e3⟩, ?_⟩
        rintro i m H2 ⟨rfl, hi2, w2, st2, acc, accV, l2, r2, g2, o2, hD2, q2, h3⟩
        cases e : its.items.drop i with
        | nil =>
          rw [e] at h3
          unfold compL at h3
          split at h3
          · rename_i hck
            cases h3
            refine .inl ⟨(hJ i w2 _ _ H2 l2.as (l2.sml r1.rc) r2 hck).1 (by have := congrArg List.length e; rw [List.length_drop, List.length_nil] at this; omega), ?_⟩
            have r3 := R.unwipe r1 l2 no r2 (by rw [wipe_agree (vs := vs) (σ := σ) (σ2 := wipe σ vs) (wipe_length ..) (fun j hj => wipe_out hj)])
            let H3 : Hp := fun a => if a = D then none else H2 a
            have hh : ∀ a, a ≠ D → H3 a = H2 a := fun a ha => if_neg ha
            have hfin := p w2 H3 (l1.trans (l2.swap hD hh)) (r3.swap g2 o2 hh) D (.lst accV) (if_pos rfl) (fun H4 e4 => ⟨accV, e4, q2⟩)
            have eH : upd H3 D (.lst accV) = H2 := by
              funext a
              by_cases ha : a = D
              · rw [ha, upd_same, hD2]
              · rw [upd_ne ha, hh a ha]
            rw [eH] at hfin
            exact hfin
          · cases h3
        | cons v rest =>
          obtain ⟨e1, e2'⟩ := drop_cons e
          rw [e] at h3
          unfold compL at h3
          split at h3
          · rename_i hck
            obtain ⟨go, yl⟩ := (hJ i w2 st2 _ H2 l2.as (l2.sml r1.rc) r2 hck).2 v e1
            have hlt : i < its.items.length := lt_of_get e1
            refine .inr ⟨go, fun H6 => ∃ w6 st6 acc6 accV6, Le w1 H1 w6 H6 ∧ R X.K cl w6 st6 (wipe σ vs) H6 ∧ w6.G D = none ∧ w6.ω D = none ∧ H6 D = some (.lst accV6) ∧ Reps X.K cl w6.G acc6 accV6 ∧ compL vs g ft fe its.chk (its.items.drop (i + 1)) acc6 st6 = some (.ok ys, s2),
              fun H6 ⟨w6, st6, acc6, accV6, q⟩ => ⟨its.items.length - (i + 1), by omega, rfl, hlt, w6, st6, acc6, accV6, q⟩, fun x H3 y => ?_⟩
            obtain ⟨w3, l3, r3, hx⟩ := yl x H3 y
            rcases bnd_some h3 with ⟨c, fs, h4, z⟩ | ⟨_, st3, h4, h5⟩
            · cases z
            · refine ⟨w3, st2, st3, v, r3, hx, h4, fun w4 σ4 H4 l4 r4 hl4 ha4 => ⟨?_, ?_⟩⟩
              · rw [wipe_agree (vs := vs) hl4 ha4]
                exact wipe_agree (vs := vs) (wipe_length ..) (fun j hj => wipe_out hj)
              have ew : wipe σ4 vs = wipe σ vs := by
                rw [wipe_agree (vs := vs) hl4 ha4]
                exact wipe_agree (vs := vs) (wipe_length ..) (fun j hj => wipe_out hj)
              rcases bnd_some h5 with ⟨c, fs, h6, z⟩ | ⟨b, st4, h6, h7⟩
              · cases z
              · refine ⟨w4, st3, st4, b, r4, h6, fun w5 H5 l5 r5 => ?_⟩
                have l25 := l3.trans (l4.trans l5)
                have ne2 : H2 D ≠ none := by rw [hD2]; exact fun z => nomatch z
                have g5 : w5.G D = none := (l25.gk D o2 ne2).trans g2
                have o5 : w5.ω D = none := l25.own D o2 ne2
                have hD5 : H5 D = some (.lst accV) := l25.kp D _ o2 hD2
                cases b with
                | false =>
                  have h7 : compL vs g ft fe its.chk rest acc { st4 with δ := wipeD st4.δ vs } = some (.ok ys, s2) := h7
                  refine iteF ?_
                  refine ⟨w5, _, acc, accV, l2.trans l25, ?_, g5, o5, hD5, q2.mono l25.g, by rw [e2']; exact h7⟩
                  have := r5.wiped vs
                  rw [ew] at this
                  exact this
                | true =>
                  refine iteT ?_
                  rcases bnd_some (show bnd fe _ st4 = some (.ok ys, s2) from h7) with ⟨c, fs, h8, z⟩ | ⟨xv, st5, h8, h9⟩
                  · cases z
                  · refine ⟨w5, st4, st5, xv, r5, h8, fun w6 H6 x6 l6 r6 hx6 => ?_⟩
                    have l26 := l25.trans l6
                    have g6 : w6.G D = none := (l26.gk D o2 ne2).trans g2
                    have o6 : w6.ω D = none := l26.own D o2 ne2
                    have hD6 : H6 D = some (.lst accV) := l26.kp D _ o2 hD2
                    rcases bnd_some h9 with ⟨c, fs, h10, z⟩ | ⟨ty, st6, h10, h11⟩
                    · exact absurd h10 (frz_quiet _ _ _ _ _)
                    · obtain ⟨ty', w7, z, l7, r7, q7⟩ := frz_at r6 hx6 h10
                      cases z
                      have h11 : (if acc.length < sizeLine then compL vs g ft fe its.chk rest (acc ++ [ty]) { st6 with δ := wipeD st6.δ vs } else none) = some (.ok ys, s2) := h11
                      split at h11
                      · rename_i hlen
                        have l27 := l26.trans l7
                        have g7 : w7.G D = none := (l27.gk D o2 ne2).trans g2
                        have o7 : w7.ω D = none := l27.own D o2 ne2
                        have qq := q2.mono l27.g
                        refine ⟨accV, hD6, by rw [← q2.length]; exact hlen, w7, _, acc ++ [ty], accV ++ [x6], (l2.trans l27).swap hD (fun a ha => upd_ne ha), ?_, g7, o7, upd_same, qq.snoc q7, by rw [e2']; exact h11⟩
                        have := (r7.wiped vs).swap g7 o7 (H' := upd H6 D (.lst (accV ++ [x6]))) (fun a ha => upd_ne ha)
                        rw [ew] at this
                        exact this
                      · cases h11
          · cases h3
      · cases h2
    · cases h2
theorem df_comp {elt tg iter : Expr} {ifs : List Expr} {scope : Scope} {own : List (Str × Nat)} {pos : Pos} {fi : M Its} {g : Val → M Unit} {ft : M Bool} {fe : M Val} (hc : X.calm = true) (hN : X.N.Nodup) (ok : BlkOk X.N X.env.scope scope own) (hs : ∀ x, foldedSetIterable iter X.env x = pure x)
    (hi : DI cl X tg iter fi) (hg : ∀ (s : Shared) (H : Hp) (C : Addr) (c : List (Str × Addr)) (fp : List Addr), DG cl (X.blk s H scope (compEnvC scope c C X.env) fp) tg (own.map (·.2)) g)
    (ht : ∀ (s : Shared) (H : Hp) (C : Addr) (c : List (Str × Addr)) (fp : List Addr), DTs cl (X.blk s H scope (compEnvC scope c C X.env) fp) ifs ft)
    (he : ∀ (s : Shared) (H : Hp) (C : Addr) (c : List (Str × Addr)) (fp : List Addr), DE cl (X.blk s H scope (compEnvC scope c C X.env) fp) elt fe) :
    DF cl X (.ListComp elt [⟨tg, iter, ifs, 0⟩] scope pos) (dComp (own.map (·.2)) fi g ft fe) := fun W cw w st σ H Q o st' r h p =>
  PE.we (pe_lc (g := tDG cl X.K (own.map (·.2)) g) (tt := tDT cl X.K ft) (te := tD cl X.K fe) hc hN piW ok (fun s H C c fp => pg_tDG cw_blk (hg s H C c fp)) (fun s H C c fp => pts_tDT cw_blk (ht s H C c fp)) (fun s H C c fp => pe_tD cw_blk (he s H C c fp)) hs) (comp_read hi cw r h p)
/-- .. that stands still -/
def putK (i : Nat) (o : Own) : M Unit := bnd (keep o) fun v => put i v
theorem keep_at {K : PySem.W.Frag} {w : Wd} {st st' : DSt} {σ : L2.St} {H : Hp} (r : R K cl w st σ H) {ow : Own} {a : Addr} {ho : HO} (ha : H a = none) (hO : ∀ H2, H2 a = some ho → OwnR K cl w.G H2 ow a) {o : Out Val} (h : keep ow st = some (o, st')) :
    ∃ t w', o = .ok (.t t) ∧ st' = st ∧ Le w H w' (upd H a ho) ∧ R K cl w' st σ (upd H a ho) ∧ Rep K cl w'.G t (.ref a) := by
  obtain ⟨r2, l2⟩ := r.fresh ha ho
  unfold keep at h
  split at h
  · cases h
    obtain ⟨vs, e1, e2⟩ := hO (upd H a ho) upd_same
    rw [upd_same] at e1
    cases e1
    exact ⟨_, _, rfl, rfl, l2, r2, .lst upd_same (e2.mono l2.g)⟩
  · cases h
    obtain ⟨vs, e1, e2⟩ := hO (upd H a ho) upd_same
    rw [upd_same] at e1
    cases e1
    exact ⟨_, _, rfl, rfl, l2, r2, .dic upd_same (e2.mono l2.g)⟩
  · cases h
    obtain ⟨vs, e1, e2⟩ := hO (upd H a ho) upd_same
    rw [upd_same] at e1
    cases e1
    exact ⟨_, _, rfl, rfl, l2, r2, .dit upd_same (e2.mono l2.g)⟩
  · cases h
end
end Lf
namespace Lf
open PySem PySem.Spec L2
section
variable {cl : Cl} {X : Cx}
def DC (cl : Cl) (X : Cx) (f : Value) (g : List Val → M Val) : Prop :=
  ∀ (W : WX), Cw X W → ∀ (w : Wd) (st : DSt) (σ : L2.St) (H : Hp) (Q : VK) (o : Out Val) (st' : DSt) (vs : List Val) (xs : List V) (us : List Value) (pins : List (Addr × Obj)) (s : Shared), R X.K cl w st σ H → Paired (VR X.K cl w σ) vs xs → g vs st = some (o, st') →
  Post cl X W σ w H o st' (fun v w' H' => ∀ x, VR X.K cl w' σ v x → Q x H') → Inv X pins σ H s → Vals xs us → wpAny (model X.prog X.w) X.A (call f us) (EP X pins σ Q) X.xe s
section
variable {x : Str} {p pos : Pos} {e : Expr} {es : List Expr} {fa : M (List Val)} {id T : String} {g : List Val → M Val}
theorem de_callB (hc : DC cl X (.builtin id) g) (hg : Gl X x) (hm : X.mg x = none) (hv : bootBuiltins x = some (.builtin id)) (hn : x ≠ "__name__") (hdb : (x == ("__debug__" : Str)) = false)
    (he : starEach (e :: es) X.env = (false, eval e X.env) :: starEach es X.env) (hpl : (backTo pos (starEach es X.env)).any (·.1) = false) (ha : DA cl X (e :: es) fa) : DE cl X (.Call (.Name x p) (e :: es) [] pos) (bnd fa g) := fun W cw w st σ H Q o st' r h pp => by
  intro pins s I
  refine wpAny_Call_Name_kw (ld_blt I hg hm hv ?_ hn hdb)
  rcases bnd_some h with ⟨c, fs, h1, rfl⟩ | ⟨vs, st1, h1, h2⟩
  · exact PyProof.Rows.callWith_builtin1 (thn (ha W cw w st σ H (fun _ _ => False) _ st' r h1 pp pos pins s I) fun us s1 ⟨_, _, _, _, z⟩ => z.elim) he hpl
  · refine PyProof.Rows.callWith_builtin1 (thn (ha W cw w st σ H (fun xs H1 => ∃ w1, Le w H w1 H1 ∧ R X.K cl w1 st1 σ H1 ∧ Paired (VR X.K cl w1 σ) vs xs) _ st1 r h1 (fun w1 H1 l1 r1 xs hxs => ⟨w1, l1, r1, hxs⟩) pos pins s I) fun us s1 ⟨xs, H1, I1, rv, w1, l1, r1, hxs⟩ => ?_) he hpl
    exact hc W cw w1 st1 σ H1 Q o st' vs xs us pins s1 r1 hxs h2 (pp.after l1) I1 rv
theorem de_callTy (hc : DC cl X (.type T) g) (hg : Gl X x) (hm : X.mg x = none) (hv : bootBuiltins x = some (.type T)) (hn : x ≠ "__name__") (hdb : (x == ("__debug__" : Str)) = false)
    (he : starEach (e :: es) X.env = (false, eval e X.env) :: starEach es X.env) (hpl : (backTo pos (starEach es X.env)).any (·.1) = false) (ha : DA cl X (e :: es) fa) : DE cl X (.Call (.Name x p) (e :: es) [] pos) (bnd fa g) := fun W cw w st σ H Q o st' r h pp => by
  intro pins s I
  refine wpAny_Call_Name_kw (ld_blt I hg hm hv ?_ hn hdb)
  rcases bnd_some h with ⟨c, fs, h1, rfl⟩ | ⟨vs, st1, h1, h2⟩
  · exact PyProof.Rows.callWith_type1 (thn (ha W cw w st σ H (fun _ _ => False) _ st' r h1 pp pos pins s I) fun us s1 ⟨_, _, _, _, z⟩ => z.elim) he hpl
  · refine PyProof.Rows.callWith_type1 (thn (ha W cw w st σ H (fun xs H1 => ∃ w1, Le w H w1 H1 ∧ R X.K cl w1 st1 σ H1 ∧ Paired (VR X.K cl w1 σ) vs xs) _ st1 r h1 (fun w1 H1 l1 r1 xs hxs => ⟨w1, l1, r1, hxs⟩) pos pins s I) fun us s1 ⟨xs, H1, I1, rv, w1, l1, r1, hxs⟩ => ?_) he hpl
    exact hc W cw w1 st1 σ H1 Q o st' vs xs us pins s1 r1 hxs h2 (pp.after l1) I1 rv
/-- .. that make a new object -/
def DCF (cl : Cl) (X : Cx) (f : Value) (g : List Val → M Own) : Prop :=
  ∀ (W : WX), Cw X W → ∀ (w : Wd) (st : DSt) (σ : L2.St) (H : Hp) (Q : VK) (o : Out Own) (st' : DSt) (vs : List Val) (xs : List V) (us : List Value) (pins : List (Addr × Obj)) (s : Shared), R X.K cl w st σ H → Paired (VR X.K cl w σ) vs xs → g vs st = some (o, st') →
  Post cl X W σ w H o st' (fun v w' H' => ∀ (p : Addr) (ho : HO), H' p = none → (∀ H2, H2 p = some ho → OwnR X.K cl w'.G H2 v p) → Q (.ref p) (upd H' p ho)) → Inv X pins σ H s → Vals xs us → wpAny (model X.prog X.w) X.A (call f us) (EP X pins σ Q) X.xe s
end
theorem one_of {w : Wd} {σ : L2.St} {v : Val} {xs : List V} (h : Paired (VR X.K cl w σ) [v] xs) : ∃ x, xs = [x] ∧ VR X.K cl w σ v x := by
  cases h with
  | cons a b => cases b; exact ⟨_, rfl, a⟩
/-- len of a list, a tuple, a text -/
def dLen (vs : List Val) : M Val := fun s => match vs with
  | [.t (.str x)] => if x.length ≤ sizeLine then some (.ok (.t (.int x.length)), s) else none
  | [v] => match seqOf s v with
    | some (_, ts) => some (.ok (.t (.int ts.length)), s)
    | none => none
  | _ => none
theorem dc_len : DC cl X (.builtin "len") dLen := fun W cw w st σ H Q o st' vs xs us pins s r hv h p I rv => by
  unfold dLen at h
  split at h
  · split at h
    · rename_i hl
      cases h
      obtain ⟨x, rfl, hx⟩ := one_of hv
      cases hx
      exact call_len pins s σ H _ us Q I rv ⟨_, _, rfl, ⟨hl, rfl⟩, fin0 r p _ (.int _)⟩
    · cases h
  · split at h
    · rename_i b ts e
      cases h
      obtain ⟨x, rfl, hx⟩ := one_of hv
      obtain ⟨a, ws, rfl, g, pr⟩ := seq_at r e hx
      refine call_len pins s σ H _ us Q I rv ⟨_, ts.length, rfl, ?_, fin0 r p _ (.int _)⟩
      cases b with
      | true => exact .inr ⟨ws, g, pr.length⟩
      | false => exact .inl ⟨ws, g, pr.length⟩
    · cases h
  · cases h
/-- int(n), int(flag) -/
def dInt1 (vs : List Val) : M Val := fun s => match vs with
  | [.t (.int i)] => some (.ok (.t (.int i)), s)
  | [.t (.bl b)] => some (.ok (.t (.int (if b then 1 else 0))), s)
  | _ => none
theorem dc_int : DC cl X (.type "int") dInt1 := fun W cw w st σ H Q o st' vs xs us pins s r hv h p I rv => by
  unfold dInt1 at h
  split at h
  · cases h
    obtain ⟨x, rfl, hx⟩ := one_of hv
    cases hx
    exact call_int1 pins s σ H _ us Q I rv (.inl ⟨_, rfl, fin0 r p _ (.int _)⟩)
  · cases h
    obtain ⟨x, rfl, hx⟩ := one_of hv
    cases hx
    exact call_int1 pins s σ H _ us Q I rv (.inr ⟨_, rfl, fin0 r p _ (.int _)⟩)
  · cases h
def blsT : List T → Option (List Bool)
  | [] => some []
  | .bl b :: r => (blsT r).map (b :: ·)
  | _ :: _ => none
theorem bls_at {K : PySem.W.Frag} {G : Hp} : ∀ {ts : List T} {bs : List Bool} {vs : List V}, blsT ts = some bs → Reps K cl G ts vs → vs = bs.map V.bl
  | [], _, _, h, .nil => by cases h; rfl
  | .bl b :: r, bs, _, h, .cons a q => by
    unfold blsT at h
    cases e : blsT r with
    | none => rw [e] at h; cases h
    | some z => rw [e] at h; cases h; cases a; rw [bls_at e q]; rfl
  | .non :: _, _, _, h, _ => by cases h
  | .int _ :: _, _, _, h, _ => by cases h
  | .str _ :: _, _, _, h, _ => by cases h
  | .lst _ :: _, _, _, h, _ => by cases h
  | .tup _ :: _, _, _, h, _ => by cases h
  | .fro _ :: _, _, _, h, _ => by cases h
  | .dic _ :: _, _, _, h, _ => by cases h
  | .dit _ :: _, _, _, h, _ => by cases h
  | .obj _ _ :: _, _, _, h, _ => by cases h
def dAll (vs : List Val) : M Val := fun s => match vs with
  | [v] => match lstOf s v with
    | some ts => match blsT ts with
      | some bs => some (.ok (.t (.bl (bs.all id))), s)
      | none => none
    | none => none
  | _ => none
def dAny (vs : List Val) : M Val := fun s => match vs with
  | [v] => match lstOf s v with
    | some ts => match blsT ts with
      | some bs => some (.ok (.t (.bl (bs.any id))), s)
      | none => none
    | none => none
  | _ => none
theorem dc_all (hc : X.calm = true) : DC cl X (.builtin "all") dAll := fun W cw w st σ H Q o st' vs xs us pins s r hv h p I rv => by
  unfold dAll at h
  split at h
  · split at h
    · rename_i ts e
      split at h
      · rename_i bs e2
        cases h
        obtain ⟨x, rfl, hx⟩ := one_of hv
        obtain ⟨a, ws, rfl, g, q⟩ := lst_at r e hx
        rw [bls_at e2 q] at g
        exact cr_all hc pins s σ H _ us Q I rv ⟨a, bs, rfl, SqL.of g, fin0 r p _ (.bl _)⟩
      · cases h
    · cases h
  · cases h
theorem dc_any (hc : X.calm = true) : DC cl X (.builtin "any") dAny := fun W cw w st σ H Q o st' vs xs us pins s r hv h p I rv => by
  unfold dAny at h
  split at h
  · split at h
    · rename_i ts e
      split at h
      · rename_i bs e2
        cases h
        obtain ⟨x, rfl, hx⟩ := one_of hv
        obtain ⟨a, ws, rfl, g, q⟩ := lst_at r e hx
        rw [bls_at e2 q] at g
        exact cr_any hc pins s σ H _ us Q I rv ⟨a, bs, rfl, SqL.of g, fin0 r p _ (.bl _)⟩
      · cases h
    · cases h
  · cases h
def intsT : List T → Option (List Int)
  | [] => some []
  | .int b :: r => (intsT r).map (b :: ·)
  | _ :: _ => none
def strsT : List T → Option (List Str)
  | [] => some []
  | .str b :: r => (strsT r).map (b :: ·)
  | _ :: _ => none
/-- the least of some intsT -/
def minI : List Int → Int
  | [] => 0
  | [a] => a
  | a :: r => min a (minI r)
def dMin (vs : List Val) : M Val := fun s => match vs with
  | [.t (.int i), .t (.int j)] => some (.ok (.t (.int (if j < i then j else i))), s)
  | [v] => match lstOf s v with
    | some ts => match intsT ts with
      | some bs => if bs.isEmpty then none else some (.ok (.t (.int (minI bs))), s)
      | none => none
    | none => none
  | _ => none
def dSum (vs : List Val) : M Val := fun s => match vs with
  | [v] => match lstOf s v with
    | some ts => match intsT ts with
      | some bs => some (.ok (.t (.int bs.sum)), s)
      | none => none
    | none => none
  | _ => none
/-- list(xs): a new list -/
def dList (vs : List Val) : M Own := fun s => match vs with
  | [v] => match seqOf s v with
    | some (_, ts) => match plains ts with
      | some xs => some (.ok (.lst xs), s)
      | none => none
    | none => none
  | _ => none
/-- tuple(xs) -/
def dTuple (vs : List Val) : M Val := fun s => match vs with
  | [v] => match seqOf s v with
    | some (_, ts) => match plains ts with
      | some xs => some (.ok (.t (.tup xs)), s)
      | none => none
    | none => none
  | _ => none
end
end Lf
namespace Lf
open PySem PySem.Spec L2
section
variable {κ α : Type} [DecidableEq κ]
def look : List (κ × α) → κ → Option α
  | [], _ => none
  | (k, a) :: r, j => if k = j then some a else look r j
def putA : List (κ × α) → κ → α → List (κ × α)
  | [], k, a => [(k, a)]
  | (j, b) :: r, k, a => if j = k then (j, a) :: r else (j, b) :: putA r k a
end
/-- keys stand once -/
def okKeys {κ α : Type} [DecidableEq κ] (l : List (κ × α)) : Bool := decide (l.map (·.1)).Nodup
section
variable {cl : Cl} {X : Cx}
theorem look_val {κ : Type} [DecidableEq κ] {K : PySem.W.Frag} {w : Wd} (k : κ) : ∀ {l : List (κ × Fv)} {m : List (κ × V)}, Paired (PvR K cl w) l m → (∀ f, look l k = some f → ∃ v, valV m k = some v ∧ FvR K cl w f v) ∧ (look l k = none → valV m k = none)
  | _, _, .nil => ⟨fun f h => (by cases h), fun _ => rfl⟩
  | _, _, .cons (a := p) (b := q) h t => by
    obtain ⟨e, hv⟩ := h
    obtain ⟨j, f⟩ := p
    obtain ⟨j', v⟩ := q
    cases (show j = j' from e)
    obtain ⟨i1, i2⟩ := look_val k t
    by_cases ej : j = k
    · refine ⟨fun f' h' => ?_, fun h' => ?_⟩
      · simp only [look, if_pos ej] at h'
        cases h'
        exact ⟨v, valV_pos (p := (j, v)) ej, hv⟩
      · simp only [look, if_pos ej] at h'
        cases h'
    · refine ⟨fun f' h' => ?_, fun h' => ?_⟩
      · simp only [look, if_neg ej] at h'
        obtain ⟨v', e1, e2⟩ := i1 f' h'
        exact ⟨v', (valV_neg (p := (j, v)) ej).trans e1, e2⟩
      · simp only [look, if_neg ej] at h'
        exact (valV_neg (p := (j, v)) ej).trans (i2 h')
theorem map_same {κ : Type} [DecidableEq κ] {k : κ} {v : V} : ∀ {m : List (κ × V)}, k ∉ m.map (·.1) → m.map (fun kv => if kv.1 = k then (kv.1, v) else kv) = m
  | [], _ => rfl
  | p :: r, h => by
    rw [List.map_cons, List.mem_cons, not_or] at h
    have hp : ¬ p.1 = k := fun z => h.1 z.symm
    rw [List.map_cons, map_same (m := r) h.2, if_neg hp]
/-- the library's store is ours where each key stands once -/
theorem putK_put {κ : Type} [DecidableEq κ] {k : κ} {v : V} : ∀ {m : List (κ × V)}, (m.map (·.1)).Nodup → L2.putK m k v = putA m k v
  | [], _ => rfl
  | p :: r, h => by
    rw [List.map_cons, List.nodup_cons] at h
    have ih := putK_put (k := k) (v := v) (m := r) h.2
    obtain ⟨j, u⟩ := p
    by_cases e : j = k
    · subst e
      have h1 : (((j, u) :: r).any fun kv => decide (kv.1 = j)) = true := by simp
      unfold L2.putK
      rw [if_pos h1, List.map_cons, map_same h.1]
      simp [putA]
    · have h1 : (((j, u) :: r).any fun kv => decide (kv.1 = k)) = r.any fun kv => decide (kv.1 = k) := by rw [List.any_cons, decide_eq_false e, Bool.false_or]
      have e2 : putA ((j, u) :: r) k v = (j, u) :: putA r k v := by simp [putA, e]
      rw [e2, ← ih]
      unfold L2.putK
      rw [h1, List.map_cons, if_neg e]
      split
      · rfl
      · rfl
theorem put_pair {κ : Type} [DecidableEq κ] {K : PySem.W.Frag} {w : Wd} {k : κ} {f : Fv} {v : V} (h : FvR K cl w f v) : ∀ {l : List (κ × Fv)} {m : List (κ × V)}, Paired (PvR K cl w) l m → Paired (PvR K cl w) (putA l k f) (putA m k v)
  | _, _, .nil => .cons ⟨rfl, h⟩ .nil
  | _, _, .cons (a := p) (b := q) e t => by
    obtain ⟨e1, e2⟩ := e
    obtain ⟨j, g⟩ := p
    obtain ⟨j', u⟩ := q
    cases (show j = j' from e1)
    unfold putA
    by_cases ej : j = k
    · rw [if_pos ej, if_pos ej]; exact .cons ⟨rfl, h⟩ t
    · rw [if_neg ej, if_neg ej]; exact .cons ⟨rfl, e2⟩ (put_pair h t)
theorem keys_pair {κ : Type} {K : PySem.W.Frag} {w : Wd} : ∀ {l : List (κ × Fv)} {m : List (κ × V)}, Paired (PvR K cl w) l m → l.map (·.1) = m.map (·.1)
  | _, _, .nil => rfl
  | _, _, .cons e t => by rw [List.map_cons, List.map_cons, keys_pair t, e.1]
theorem RepD.pv {K : PySem.W.Frag} {w : Wd} : ∀ {l : List (Key × T)} {m : List (Key × V)}, RepD K cl w.G l m → Paired (PvR K cl w) (l.map fun p => (p.1, Fv.t p.2)) m
  | _, _, .nil => .nil
  | _, _, .cons h r => .cons ⟨rfl, h⟩ r.pv
theorem RepE.pv {K : PySem.W.Frag} {w : Wd} : ∀ {l : List (List Key × T)} {m : List (List Key × V)}, RepE K cl w.G l m → Paired (PvR K cl w) (l.map fun p => (p.1, Fv.t p.2)) m
  | _, _, .nil => .nil
  | _, _, .cons h r => .cons ⟨rfl, h⟩ r.pv
/-- a dict by its pairs -/
def dcK (s : DSt) : Val → Option (List (Key × Fv))
  | .t (.dic kvs) => some (kvs.map fun p => (p.1, Fv.t p.2))
  | .loc n => match s.μ[n]? with
    | some (.dic _ kvs) => some kvs
    | some (.dcl kvs) => some kvs
    | some (.fz (.dic kvs)) => some (kvs.map fun p => (p.1, Fv.t p.2))
    | _ => none
  | .sl i => match s.δ[i]? with
    | some (some (.own (.dic _ kvs))) => some (kvs.map fun p => (p.1, Fv.t p.2))
    | some (some (.t (.dic kvs))) => some (kvs.map fun p => (p.1, Fv.t p.2))
    | _ => none
  | _ => none
theorem dcK_at {w : Wd} {st : DSt} {σ : L2.St} {H : Hp} {K : PySem.W.Frag} (r : R K cl w st σ H) {v : Val} {x : V} {l : List (Key × Fv)} (h : dcK st v = some l) (hv : VR K cl w σ v x) : ∃ a m, x = .ref a ∧ Rd H a (.dK m) ∧ Paired (PvR K cl w) l m := by
  cases v with
  | t y => cases y with
    | dic xs =>
      cases h
      cases hv with
      | dic e q => exact ⟨_, _, rfl, r.rc.dK e, q.pv⟩
    | _ => cases h
  | loc n =>
    obtain ⟨a, ha, rfl⟩ := hv
    unfold dcK at h
    dsimp only at h
    split at h
    · rename_i lk kvs e
      cases h
      obtain ⟨_, q⟩ := r.rc.cell n _ a e ha rfl
      cases lk with
      | false => obtain ⟨m, e2, q⟩ := q; exact ⟨a, m, rfl, .inl e2, q⟩
      | true => obtain ⟨o, m, e2, q⟩ := q; exact ⟨a, m, rfl, .inr ⟨o, e2⟩, q⟩
    · rename_i kvs e
      cases h
      obtain ⟨o, m, g, q⟩ := r.rc.fz n _ a e ha
      rcases r.rc.sub a _ g with e2 | ⟨z, _⟩
      · exact ⟨a, m, rfl, .inr ⟨o, e2⟩, q.mono fun _ _ z => z.mono (List.prefix_refl _) (Same.refl _)⟩
      · cases z
    · rename_i kvs e
      cases h
      have q : Rep _ cl _ _ _ := r.rc.fz n _ a e ha
      cases q with
      | dic e q => exact ⟨_, _, rfl, r.rc.dK e, q.pv⟩
    · cases h
  | sl i =>
    unfold dcK at h
    dsimp only at h
    split at h
    · rename_i lk kvs e
      cases h
      obtain ⟨y, e1, a, e2, _, q⟩ := r.slot i _ e
      rw [show σ[i]? = some (some x) from hv] at e1
      cases e1
      cases lk with
      | false => obtain ⟨m, e3, q⟩ := q; exact ⟨a, m, e2, .inl e3, q.pv⟩
      | true => obtain ⟨o, m, e3, q⟩ := q; exact ⟨a, m, e2, .inr ⟨o, e3⟩, q.pv⟩
    · rename_i kvs e
      cases h
      obtain ⟨y, e1, q⟩ := r.slot i _ e
      rw [show σ[i]? = some (some x) from hv] at e1
      cases e1
      cases q with
      | dic e q => exact ⟨_, _, rfl, r.rc.dK e, q.pv⟩
    · cases h
def keyT : T → Option Key
  | .int i => some (.inl i)
  | .str x => some (.inr x)
  | _ => none
theorem keyT_at {K : PySem.W.Frag} {G : Hp} {t : T} {k : Key} {x : V} (h : keyT t = some k) (r : Rep K cl G t x) : x = kV k := by
  cases r <;> simp only [keyT] at h <;> first | (cases h; rfl) | cases h
/-- membership: in a dict too -/
def dInD (neg : Bool) (a b : Val) : M Val := fun s => match dcK s b with
  | some kvs => match a with
    | .t x => match keyT x with
      | some k => some (.ok (.t (.bl (if neg then !(look kvs k).isSome else (look kvs k).isSome))), s)
      | none => none
    | _ => none
  | none => dIn neg a b s
def dIx (a b : Val) : M Val := fun s => match dcK s a with
  | some kvs => match b with
    | .t x => match keyT x with
      | some k => match look kvs k with
        | some f => some (.ok f.val, s)
        | none => none
      | none => none
    | _ => none
  | none => match a, b with
    | .t (.str x), .t (.int i) => if x.length ≤ sizeLine then match atI x.cps.toList i with
        | some c => some (.ok (.t (.str ⟨#[c]⟩)), s)
        | none => none
      else none
    | a, .t (.int i) => match seqOf s a with
      | some (_, ts) => match atI ts i with
        | some f => some (.ok f.val, s)
        | none => none
      | none => none
    | _, _ => none
theorem atI_pair {α β : Type} {F : α → β → Prop} {l : List α} {m : List β} {i : Int} {a : α} (h : Paired F l m) (e : atI l i = some a) : ∃ b, atI m i = some b ∧ F a b := by
  unfold atI at e ⊢
  rw [← h.length]
  cases q : ixN l.length i with
  | none => rw [q] at e; cases e
  | some j => rw [q] at e; exact paired_at h e
theorem de_ix {a b : Expr} {pos : Pos} {fa fb : M Val} {k : Nat} (hr : Room k X.A) (hs : PlainIx b) (ha : DE cl X a fa) (hb : DE cl X b fb) : DE cl X (.Subscript a b pos) (dBin dIx fa fb) := fun W cw w st σ H Q o st' r h p => by
  rcases bnd_some h with ⟨c, fs, h1, rfl⟩ | ⟨va, st1, h1, h2⟩
  · exact PE.we (pe_ix ix_seq peW peW hs) (ha W cw w st σ H _ _ st' r h1 p)
  · rcases bnd_some h2 with ⟨c, fs, h3, rfl⟩ | ⟨vb, st2, h3, h4⟩
    · refine PE.we (pe_ix ix_seq peW peW hs) (ha W cw w st σ H _ _ st1 r h1 fun w1 H1 l1 r1 x hx => ?_)
      exact hb W cw w1 st1 σ H1 _ _ st' r1 h3 (p.after l1)
    · unfold dIx at h4
      split at h4
      · rename_i kvs e
        split at h4
        · rename_i t
          split at h4
          · rename_i kk ek
            split at h4
            · rename_i f ef
              cases h4
              refine PE.we (pe_dget (hu_of hr) peW peW hs) (ha W cw w st σ H _ _ st1 r h1 fun w1 H1 l1 r1 x hx => ?_)
              refine hb W cw w1 st1 σ H1 _ _ _ r1 h3 fun w2 H2 l2 r2 y hy => ?_
              obtain ⟨d, m, rfl, rd, pr⟩ := dcK_at r2 e (hx.le l2)
              obtain ⟨v, e1, e2⟩ := (look_val kk pr).1 f ef
              refine ⟨d, v, rfl, .inl ⟨m, kk, rd, keyT_at ek hy, e1.symm⟩, p w2 H2 (l1.trans l2) r2 v e2.vr⟩
            · cases h4
          · cases h4
        · cases h4
      · refine PE.we (pe_ix ix_seq peW peW hs) (ha W cw w st σ H _ _ st1 r h1 fun w1 H1 l1 r1 x hx => ?_)
        split at h4
        · split at h4
          · rename_i hl
            split at h4
            · rename_i c ec
              cases h4
              refine hb W cw w1 st1 σ H1 _ _ _ r1 h3 fun w2 H2 l2 r2 y hy => ?_
              cases hx
              cases hy
              exact .inr (.inr ⟨_, _, c, rfl, rfl, hl, ec, p w2 H2 (l1.trans l2) r2 _ (.str _)⟩)
            · cases h4
          · cases h4
        · split at h4
          · rename_i tb ts e
            split at h4
            · rename_i f ef
              cases h4
              refine hb W cw w1 st1 σ H1 _ _ _ r1 h3 fun w2 H2 l2 r2 y hy => ?_
              cases hy
              obtain ⟨q, xs, rfl, g, pr⟩ := seq_at r2 e (hx.le l2)
              obtain ⟨v, e1, e2⟩ := atI_pair pr ef
              cases tb with
              | false => exact .inl ⟨q, xs, _, v, rfl, rfl, g, e1, p w2 H2 (l1.trans l2) r2 v e2.vr⟩
              | true => exact .inr (.inl ⟨q, xs, _, v, rfl, rfl, g, e1, p w2 H2 (l1.trans l2) r2 v e2.vr⟩)
            · cases h4
          · cases h4
        · cases h4
def cutT {α : Type} (xs : List α) (lo hi : Option Int) : List α := (xs.drop (HT.sIx xs.length 0 lo)).take (HT.sIx xs.length xs.length hi - HT.sIx xs.length 0 lo)
theorem Reps.drop {K : PySem.W.Frag} {G : Hp} : ∀ (n : Nat) {a : List T} {x : List V}, Reps K cl G a x → Reps K cl G (a.drop n) (x.drop n)
  | 0, _, _, h => h
  | _ + 1, _, _, .nil => .nil
  | n + 1, _, _, .cons _ r => Reps.drop n r
theorem Reps.take {K : PySem.W.Frag} {G : Hp} : ∀ (n : Nat) {a : List T} {x : List V}, Reps K cl G a x → Reps K cl G (a.take n) (x.take n)
  | 0, _, _, _ => .nil
  | _ + 1, _, _, .nil => .nil
  | n + 1, _, _, .cons h r => .cons h (Reps.take n r)
theorem Reps.cut {K : PySem.W.Frag} {G : Hp} {a : List T} {x : List V} (h : Reps K cl G a x) (lo hi : Option Int) : Reps K cl G (cutT a lo hi) (cutV x lo hi) := by
  unfold cutT cutV
  rw [h.length]
  exact Reps.take _ (Reps.drop _ h)
/-- a part of a slice -/
inductive DPt (cl : Cl) (X : Cx) : Option Expr → M (Option Int) → Prop
  | dn : DPt cl X none (ret none)
  | ds {e : Expr} {f : M Val} : DE cl X e f → DPt cl X (some e) (bnd f fun v => match v with | .t (.int i) => ret (some i) | _ => stuck)
def WO (X : Cx) (e : Option Expr) : TO := fun σ H Q => ∀ pins s, Inv X pins σ H s → wpAny (model X.prog X.w) X.A (evalPart e X.env) (fun u s' => ∃ o H', Inv X pins σ H' s' ∧ IsPart u o ∧ Q o H') X.xe s
theorem DPt.run {e : Option Expr} {f : M (Option Int)} (h : DPt cl X e f) {W : WX} (cw : Cw X W) {w : Wd} {st st' : DSt} {σ : L2.St} {H : Hp} {Q : Option Int → Hp → Prop} {o : Out (Option Int)} (r : R X.K cl w st σ H) (hf : f st = some (o, st'))
    (p : Post cl X W σ w H o st' (fun i _ H' => Q i H')) : WO X e σ H Q := by
  cases h with
  | dn => cases hf; exact fun pins s I => po_none.run pins s σ H Q I (p w H (Le.refl _ _) r)
  | ds he =>
    intro pins s I
    refine (po_some peW).run pins s σ H Q I ?_
    unfold tPart
    rcases bnd_some hf with ⟨c, fs, h1, rfl⟩ | ⟨v, st1, h1, h2⟩
    · exact he W cw w st σ H _ _ st' r h1 p
    · refine he W cw w st σ H _ _ st1 r h1 fun w1 H1 l1 r1 x hx => ?_
      split at h2
      · cases h2
        cases hx
        exact ⟨_, rfl, p w1 H1 l1 r1⟩
      · cases h2
def dCut (fa : M Val) (fl fh : M (Option Int)) : M Own := bnd fa fun v => bnd fl fun lo => bnd fh fun hi => fun s => match lstOf s v with
  | some ts => some (.ok (.lst (cutT ts lo hi)), s)
  | none => none
end
end Lf
namespace Lf
open PySem PySem.Spec L2
section
variable {cl : Cl} {X : Cx}
theorem R.updO {K : PySem.W.Frag} {w : Wd} {st : DSt} {σ : L2.St} {H : Hp} (r : R K cl w st σ H) {i : Nat} {o o' : Own} {a : Addr} {ho : HO} (e : st.δ[i]? = some (some (.own o))) (hx : σ[i]? = some (some (.ref a))) (hO : ∀ H2, H2 a = some ho → OwnR K cl w.G H2 o' a) :
    R K cl w { st with δ := st.δ.set i (some (.own o')) } σ (upd H a ho) ∧ Le w H w (upd H a ho) := by
  obtain ⟨x, e1, b, rfl, oa, _⟩ := r.slot i _ e
  rw [hx] at e1
  cases e1
  obtain ⟨ga, na⟩ := r.rc.own a _ oa
  have kH : ∀ b, b ≠ a → ∀ u, H b = some u → upd H a ho b = some u := fun b hb u q => by rw [upd_ne hb]; exact q
  refine ⟨⟨⟨fun b u q => ?_, r.rc.len, fun n c b q1 q2 q3 => ?_, fun b u q => ?_, r.rc.fz, fun b xs q => by
    by_cases hb : b = a
    · subst hb; exact absurd q (hO _ upd_same).ntup
    · rw [upd_ne hb] at q; exact r.rc.tu b xs q⟩, by rw [List.length_set]; exact r.slen, fun j s q => ?_⟩, Le.all (List.prefix_refl _) (Same.refl _) (fun _ q _ => q) (fun b u q1 q2 => kH b (fun z => by rw [z, oa] at q1; cases q1) u q2) (fun _ _ _ => rfl)⟩
  · have hb : b ≠ a := fun z => by rw [z, ga] at q; cases q
    rw [upd_ne hb]; exact r.rc.sub b u q
  · obtain ⟨x1, x2⟩ := r.rc.cell n c b q1 q2 q3
    have hb : b ≠ a := fun z => by rw [z, oa] at x1; cases x1
    exact ⟨x1, x2.keep (List.prefix_refl _) (Same.refl _) (kH b hb)⟩
  · refine ⟨(r.rc.own b u q).1, ?_⟩
    by_cases hb : b = a
    · rw [hb, upd_same]; exact fun z => nomatch z
    · rw [upd_ne hb]; exact (r.rc.own b u q).2
  · have q' : (st.δ.set i (some (.own o')))[j]? = some (some s) := q
    by_cases hj : i = j
    · subst hj
      rw [List.getElem?_set_self (lt_of_get e)] at q'
      cases q'
      exact ⟨_, hx, a, rfl, oa, hO _ upd_same⟩
    · rw [List.getElem?_set_ne hj] at q'
      obtain ⟨y, y1, y2⟩ := r.slot j s q'
      refine ⟨y, y1, ?_⟩
      cases s with
      | t z => exact y2
      | loc n => exact y2
      | own o'' =>
        obtain ⟨b, z1, z2, z3⟩ := y2
        have hb : b ≠ a := fun z => by rw [z, oa] at z2; cases z2; exact hj rfl
        exact ⟨b, z1, z2, z3.keep (Same.refl _) (kH b hb)⟩
      | exc c fs => trivial
      | fn L cs => exact y2
      | gf a => exact y2
theorem R.updC {K : PySem.W.Frag} {w : Wd} {st : DSt} {σ : L2.St} {H : Hp} (r : R K cl w st σ H) {n : Nat} {c c' : Cell} {a : Addr} {ho : HO} (e : st.μ[n]? = some c) (ha : w.as[n]? = some a) (hl : c.live = true) (hl' : c'.live = true) (hO : ∀ H2, H2 a = some ho → CellR K cl w H2 c' a) :
    R K cl w { st with μ := st.μ.set n c' } σ (upd H a ho) ∧ Le w H w (upd H a ho) := by
  obtain ⟨oa, _⟩ := r.rc.cell n c a e ha hl
  obtain ⟨ga, na⟩ := r.rc.own a _ oa
  have kH : ∀ b, b ≠ a → ∀ u, H b = some u → upd H a ho b = some u := fun b hb u q => by rw [upd_ne hb]; exact q
  refine ⟨⟨⟨fun b u q => ?_, by rw [List.length_set]; exact r.rc.len, fun m c2 b q1 q2 q3 => ?_, fun b u q => ?_, fun m x b q1 q2 => ?_, fun b xs q => by
    by_cases hb : b = a
    · subst hb; exact absurd q ((hO _ upd_same).ntup hl')
    · rw [upd_ne hb] at q; exact r.rc.tu b xs q⟩, r.slen, fun j s q => ?_⟩, Le.all (List.prefix_refl _) (Same.refl _) (fun _ q _ => q) (fun b u q1 q2 => kH b (fun z => by rw [z, oa] at q1; cases q1) u q2) (fun _ _ _ => rfl)⟩
  · have hb : b ≠ a := fun z => by rw [z, ga] at q; cases q
    rw [upd_ne hb]; exact r.rc.sub b u q
  · have q1' : (st.μ.set n c')[m]? = some c2 := q1
    by_cases hm : n = m
    · subst hm
      rw [List.getElem?_set_self (lt_of_get e)] at q1'
      cases q1'
      rw [ha] at q2
      cases q2
      exact ⟨oa, hO _ upd_same⟩
    · rw [List.getElem?_set_ne hm] at q1'
      obtain ⟨x1, x2⟩ := r.rc.cell m c2 b q1' q2 q3
      have hb : b ≠ a := fun z => by rw [z, oa] at x1; cases x1; exact hm rfl
      exact ⟨x1, x2.keep (List.prefix_refl _) (Same.refl _) (kH b hb)⟩
  · refine ⟨(r.rc.own b u q).1, ?_⟩
    by_cases hb : b = a
    · rw [hb, upd_same]; exact fun z => nomatch z
    · rw [upd_ne hb]; exact (r.rc.own b u q).2
  · have q1' : (st.μ.set n c')[m]? = some x := q1
    by_cases hm : n = m
    · subst hm
      rw [List.getElem?_set_self (lt_of_get e)] at q1'
      cases q1'
      exact FzR.live hl'
    · rw [List.getElem?_set_ne hm] at q1'
      exact r.rc.fz m x b q1' q2
  · obtain ⟨y, y1, y2⟩ := r.slot j s q
    refine ⟨y, y1, ?_⟩
    cases s with
    | t z => exact y2
    | loc n => exact y2
    | own o'' =>
      obtain ⟨b, z1, z2, z3⟩ := y2
      have hb : b ≠ a := fun z => by rw [z, oa] at z2; cases z2
      exact ⟨b, z1, z2, z3.keep (Same.refl _) (kH b hb)⟩
    | exc c fs => trivial
    | fn L cs => exact y2
    | gf a => exact y2
theorem R.newC {K : PySem.W.Frag} {w : Wd} {st : DSt} {σ : L2.St} {H : Hp} (r : R K cl w st σ H) {c : Cell} {a : Addr} {ho : HO} (ha : H a = none)
    (hl : c.live = true) (hO : ∀ w' H2, w.as <+: w'.as → Same w.G w'.G → H2 a = some ho → CellR K cl w' H2 c a) :
    ∃ w', w'.as[st.μ.length]? = some a ∧ w'.G = w.G ∧ Le w H w' (upd H a ho) ∧ R K cl w' { st with μ := st.μ ++ [c] } σ (upd H a ho) := by
  let w' : Wd := { as := w.as ++ [a], G := w.G, ω := fun b => if b = a then some (.cell st.μ.length) else w.ω b }
  obtain ⟨ga, oa⟩ := r.free ha
  have pa : w.as <+: w'.as := List.prefix_append ..
  have kH : ∀ b u, H b = some u → upd H a ho b = some u := fun b u e => by rw [upd_ne (ne_of_none e ha)]; exact e
  have sg : Same w.G w'.G := Same.refl _
  refine ⟨w', ?_, rfl, Le.all pa sg (fun b q1 q2 => ?_) (fun b u _ q => kH b u q) (fun _ _ _ => rfl), ⟨⟨fun b u q => ?_, ?_, fun n c2 b q1 q2 q3 => ?_, fun b u q => ?_, fun n x b q1 q2 => ?_, fun b xs q => by
    by_cases hb : b = a
    · subst hb; exact absurd q ((hO w' _ pa sg upd_same).ntup hl)
    · rw [upd_ne hb] at q; exact r.rc.tu b xs q⟩, r.slen, fun j s q => ?_⟩⟩
  · show (w.as ++ [a])[st.μ.length]? = some a
    rw [← r.rc.len]; simp
  · show (if b = a then some (Owner.cell st.μ.length) else w.ω b) = none
    rw [if_neg (fun z => q2 (by rw [z]; exact ha))]; exact q1
  · rcases r.rc.sub b u q with h | ⟨d, z, h⟩
    · exact .inl (kH _ _ h)
    · exact .inr ⟨d, z, kH _ _ h⟩
  · show (w.as ++ [a]).length = (st.μ ++ [c]).length
    rw [List.length_append, List.length_append, r.rc.len]; rfl
  · have q1' : (st.μ ++ [c])[n]? = some c2 := q1
    have q2' : (w.as ++ [a])[n]? = some b := q2
    by_cases hn : n < st.μ.length
    · rw [List.getElem?_append_left hn] at q1'
      rw [List.getElem?_append_left (by rw [r.rc.len]; exact hn)] at q2'
      obtain ⟨x1, x2⟩ := r.rc.cell n c2 b q1' q2' q3
      have hb : b ≠ a := fun z => by rw [z, oa] at x1; cases x1
      refine ⟨?_, CellR.keep (w := w) (w' := w') pa sg (kH b) x2⟩
      show (if b = a then some (Owner.cell st.μ.length) else w.ω b) = _
      rw [if_neg hb]; exact x1
    · have hn' : n = st.μ.length := by
        have := lt_of_get q1'
        rw [List.length_append] at this
        have : n < st.μ.length + 1 := this
        omega
      subst hn'
      rw [List.getElem?_append_right (Nat.le_refl _)] at q1'
      rw [List.getElem?_append_right (by rw [r.rc.len]; exact Nat.le_refl _)] at q2'
      simp at q1'
      rw [r.rc.len] at q2'
      simp at q2'
      subst q1' q2'
      refine ⟨?_, hO w' _ pa sg upd_same⟩
      show (if a = a then some (Owner.cell st.μ.length) else w.ω a) = _
      rw [if_pos rfl]
  · have q' : (if b = a then some (Owner.cell st.μ.length) else w.ω b) = some u := q
    by_cases hb : b = a
    · rw [hb]
      exact ⟨ga, by rw [upd_same]; exact fun z => nomatch z⟩
    · rw [if_neg hb] at q'
      refine ⟨(r.rc.own b u q').1, ?_⟩
      rw [upd_ne hb]; exact (r.rc.own b u q').2
  · have q1' : (st.μ ++ [c])[n]? = some x := q1
    have q2' : (w.as ++ [a])[n]? = some b := q2
    by_cases hn : n < st.μ.length
    · rw [List.getElem?_append_left hn] at q1'
      rw [List.getElem?_append_left (by rw [r.rc.len]; exact hn)] at q2'
      exact (r.rc.fz n x b q1' q2').mono2 (List.prefix_append _ _) (Same.refl _)
    · rw [List.getElem?_append_right (by omega)] at q1'
      cases e : n - st.μ.length with
      | zero => rw [e] at q1'; simp at q1'; subst q1'; exact FzR.live hl
      | succ k => rw [e] at q1'; simp at q1'
  · obtain ⟨y, y1, y2⟩ := r.slot j s q
    refine ⟨y, y1, ?_⟩
    cases s with
    | t z => exact y2
    | loc n => obtain ⟨b, e1, e2⟩ := y2; exact ⟨b, pre_get pa e1, e2⟩
    | own o' =>
      obtain ⟨b, z1, z2, z3⟩ := y2
      have hb : b ≠ a := fun z => by rw [z, oa] at z2; cases z2
      refine ⟨b, z1, ?_, z3.keep sg (kH b)⟩
      show (if b = a then some (Owner.cell st.μ.length) else w.ω b) = _
      rw [if_neg hb]; exact z2
    | exc c fs => trivial
    | fn L cs => exact y2
    | gf a => exact y2
/-- a value as a cell's item -/
def asFv : Val → M Fv
  | .t x => ret (.t x)
  | .loc n => ret (.loc n)
  | .sl i => bnd (frz (.sl i)) fun x => ret (.t x)
theorem asFv_at {K : PySem.W.Frag} {w : Wd} {st st' : DSt} {σ : L2.St} {H : Hp} (r : R K cl w st σ H) {v : Val} {x : V} {o : Out Fv} (hv : VR K cl w σ v x) (h : asFv v st = some (o, st')) : ∃ f w', o = .ok f ∧ Le w H w' H ∧ R K cl w' st' σ H ∧ FvR K cl w' f x := by
  cases v with
  | t y => cases h; exact ⟨_, w, rfl, Le.refl _ _, r, hv⟩
  | loc n => cases h; exact ⟨_, w, rfl, Le.refl _ _, r, hv⟩
  | sl i =>
    unfold asFv at h
    rcases bnd_some h with ⟨c, fs, h1, rfl⟩ | ⟨t, st1, h1, h2⟩
    · obtain ⟨t, w', e, _⟩ := frz_at r hv h1
      cases e
    · obtain ⟨t', w1, e, l1, r1, q1⟩ := frz_at r hv h1
      cases e
      cases h2
      exact ⟨_, w1, rfl, l1, r1, q1⟩
/-- a list that may be changed: its items, and the store of others -/
def getL (s : DSt) : Val → Option (List Fv)
  | .loc n => match s.μ[n]? with
    | some (.lst xs) => some xs
    | _ => none
  | .sl i => match s.δ[i]? with
    | some (some (.own (.lst xs))) => some (xs.map .t)
    | _ => none
  | _ => none
def setL (s : DSt) (v : Val) (ys : List Fv) : Option DSt := match v with
  | .loc n => some { s with μ := s.μ.set n (.lst ys) }
  | .sl i => match plains ys with
    | some zs => some { s with δ := s.δ.set i (some (.own (.lst zs))) }
    | none => none
  | _ => none
theorem getL_at {K : PySem.W.Frag} {w : Wd} {st : DSt} {σ : L2.St} {H : Hp} (r : R K cl w st σ H) {v : Val} {x : V} {xs : List Fv} (hv : VR K cl w σ v x) (h : getL st v = some xs) : ∃ a vs, x = .ref a ∧ H a = some (.lst vs) ∧ Paired (FvR K cl w) xs vs ∧
    ∀ ys vs' st', setL st v ys = some st' → Paired (FvR K cl w) ys vs' → R K cl w st' σ (upd H a (.lst vs')) ∧ Le w H w (upd H a (.lst vs')) := by
  cases v with
  | t y => cases h
  | loc n =>
    obtain ⟨a, ha, rfl⟩ := hv
    unfold getL at h
    dsimp only at h
    split at h
    · rename_i ys e
      cases h
      obtain ⟨_, vs, e2, q⟩ := r.rc.cell n _ a e ha rfl
      refine ⟨a, vs, rfl, e2, q, fun ys vs' st' h1 h2 => ?_⟩
      cases h1
      exact r.updC e ha rfl rfl fun H2 e3 => ⟨vs', e3, h2⟩
    · cases h
  | sl i =>
    unfold getL at h
    dsimp only at h
    split at h
    · rename_i zs e
      cases h
      obtain ⟨y, e1, a, e2, _, vs, e3, q⟩ := r.slot i _ e
      rw [show σ[i]? = some (some x) from hv] at e1
      cases e1
      subst e2
      refine ⟨a, vs, rfl, e3, q.fv, fun ys vs' st' h1 h2 => ?_⟩
      unfold setL at h1
      dsimp only at h1
      split at h1
      · rename_i zs' e5
        cases h1
        exact r.updO e hv fun H2 e4 => ⟨vs', e4, plains_reps e5 h2⟩
      · cases h1
    · cases h
/-- o.m(e, ..) of a list: m by values -/
def DMt (cl : Cl) (X : Cx) (id : String) (g : Val → List Val → M Val) : Prop :=
  ∀ (W : WX), Cw X W → ∀ (w : Wd) (st : DSt) (σ : L2.St) (H : Hp) (Q : VK) (o : Out Val) (st' : DSt) (v : Val) (x : V) (u : Value) (vs : List Val) (xs : List V) (us : List Value) (pins : List (Addr × Obj)) (s : Shared), R X.K cl w st σ H → VR X.K cl w σ v x → Paired (VR X.K cl w σ) vs xs → g v vs st = some (o, st') →
  Post cl X W σ w H o st' (fun v w' H' => ∀ x, VR X.K cl w' σ v x → Q x H') → Inv X pins σ H s → RelV x u → Vals xs us → wpAny (model X.prog X.w) X.A (call (.builtin id) (u :: us)) (EP X pins σ Q) X.xe s
/-- the receiver's type -/
def isLst (s : DSt) (v : Val) : Bool := (seqOf s v).any fun p => !p.1
def dMeth (fo : M Val) (fa : M (List Val)) (g : Val → List Val → M Val) : M Val := bnd fo fun v => fun s => if isLst s v then bnd fa (fun vs => g v vs) s else none
def mAppend (v : Val) (vs : List Val) : M Val := match vs with
  | [a] => bnd (asFv a) fun f => fun s => match getL s v with
    | some xs => if xs.length < sizeLine then match setL s v (xs ++ [f]) with
        | some s' => some (.ok (.t .non), s')
        | none => none
      else none
    | none => none
  | _ => stuck
def mPopAt (v : Val) (vs : List Val) : M Val := fun s => match vs with
  | [.t (.int i)] => match getL s v with
    | some xs => if decide (-(2 ^ 63) ≤ i) && decide (i < 2 ^ 63) then match seqIndex? i xs.length with
        | some k => match xs[k]? with
          | some f => match setL s v (xs.eraseIdx k) with
            | some s' => some (.ok f.val, s')
            | none => none
          | none => none
        | none => none
      else none
    | none => none
  | _ => none
def setIx (o i v : Val) : M Unit := bnd (asFv v) fun f => fun s => match dcK s o with
  | some kvs => match o, i with
    | .loc n, .t x => match s.μ[n]?, keyT x with
      | some (.dic false l), some k => if okKeys l && decide (l.length < sizeLine) then some (.ok (), { s with μ := s.μ.set n (.dic false (putA l k f)) }) else none
      | _, _ => none
    | .sl n, .t x => match s.δ[n]?, keyT x, f with
      | some (some (.own (.dic false l))), some k, .t z => if okKeys l && decide (l.length < sizeLine) then some (.ok (), { s with δ := s.δ.set n (some (.own (.dic false (putA l k z)))) }) else none
      | _, _, _ => none
    | _, _ => none
  | none => match i with
    | .t (.int j) => match getL s o with
      | some xs => match ixN xs.length j with
        | some k => match setL s o (xs.set k f) with
          | some s' => some (.ok (), s')
          | none => none
        | none => none
      | none => none
    | _ => none
theorem paired_set {α β : Type} {F : α → β → Prop} {a : α} {b : β} (h : F a b) : ∀ {l : List α} {m : List β} (k : Nat), Paired F l m → Paired F (l.set k a) (m.set k b)
  | _, _, _, .nil => .nil
  | _, _, 0, .cons _ t => .cons h t
  | _, _, k + 1, .cons q t => .cons q (paired_set h k t)
theorem putA_map {k : Key} {z : T} : ∀ {l : List (Key × T)}, (putA l k z).map (fun p => (p.1, Fv.t p.2)) = putA (l.map fun p => (p.1, Fv.t p.2)) k (.t z)
  | [] => rfl
  | (j, a) :: r => by
    have ih := putA_map (k := k) (z := z) (l := r)
    simp only [List.map_cons, putA]
    split
    · rfl
    · rw [List.map_cons, ih]
theorem RepD.of_pv {K : PySem.W.Frag} {w : Wd} : ∀ {l : List (Key × T)} {m : List (Key × V)}, Paired (PvR K cl w) (l.map fun p => (p.1, Fv.t p.2)) m → RepD K cl w.G l m
  | [], _, .nil => .nil
  | (k, t) :: r, _, .cons (b := q) h t' => by
    obtain ⟨j, v⟩ := q
    cases (show k = j from h.1)
    exact .cons h.2 (RepD.of_pv t')
theorem ds_setix {o i e : Expr} {pos pos' : Pos} {fo fi fe : M Val} {k : Nat} (hr : Room k X.A) (hs : swapsWith e (some (.Subscript o i pos')) pos.line X.env = pure false) (hso : swapsWithSole [.Subscript o i pos'] e pos.line X.env = pure false) (hw : swappedStores [.Subscript o i pos'] e X.env = pure none)
    (h1 : (assignEach [.Subscript o i pos'] X.env).map (·.2) = [assign (.Subscript o i pos') X.env])
    (hsub : ∀ v, assign (.Subscript o i pos') X.env v = (do
      let ov ← holding [v] (eval o X.env)
      let iv ← holding [v, ov] (eval i X.env)
      standAt pos'
      holding [v, ov, iv] (setItem ov iv v)
      release [v, ov, iv] []))
    (ho : DE cl X o fo) (hi : DE cl X i fi) (he : DE cl X e fe) : DS cl X (.Assign [.Subscript o i pos'] e pos) (bnd fe fun v => bnd fo fun a => bnd fi fun j => bnd (setIx a j v) fun _ => ret .nx) := fun W cw w st σ H D out st' r h p => by
  rcases bnd_some h with ⟨c, fs, g1, rfl⟩ | ⟨v, st1, g1, g2⟩
  · exact PS.ws (ps_dput (hu_of hr) peW peW peW hs) (he W cw w st σ H _ _ st' r g1 p.toPost)
  · rcases bnd_some g2 with ⟨c, fs, g3, rfl⟩ | ⟨a, st2, g3, g4⟩
    · exact PS.ws (ps_dput (hu_of hr) peW peW peW hs) (he W cw w st σ H _ _ st1 r g1 fun w1 H1 l1 r1 y hy => ho W cw w1 st1 σ H1 _ _ st' r1 g3 (p.after l1).toPost)
    · rcases bnd_some g4 with ⟨c, fs, g5, rfl⟩ | ⟨j, st3, g5, g6⟩
      · exact PS.ws (ps_dput (hu_of hr) peW peW peW hs) (he W cw w st σ H _ _ st1 r g1 fun w1 H1 l1 r1 y hy => ho W cw w1 st1 σ H1 _ _ st2 r1 g3 fun w2 H2 l2 r2 x hx => hi W cw w2 st2 σ H2 _ _ st' r2 g5 ((p.after l1).after l2).toPost)
      · rcases bnd_some g6 with ⟨c, fs, g7, rfl⟩ | ⟨_, st4, g7, g8⟩
        · exfalso
          unfold setIx at g7
          rcases bnd_some g7 with ⟨c, fs, g9, e9⟩ | ⟨f, st5, g9, g10⟩
          · cases v with
            | t x => cases g9
            | loc n => cases g9
            | sl n =>
              unfold asFv at g9
              rcases bnd_some g9 with ⟨c, fs, g11, _⟩ | ⟨f, st5, g11, g12⟩
              · exact frz_quiet _ _ _ _ _ g11
              · cases g12
          · repeat (first | (split at g10) | cases g10)
        · cases g8
          unfold setIx at g7
          rcases bnd_some g7 with ⟨c, fs, g9, z⟩ | ⟨f, st5, g9, g10⟩
          · cases z
          · split at g10
            · rename_i kvs ek
              refine PS.ws (ps_dput (hu_of hr) peW peW peW hs) (he W cw w st σ H _ _ st1 r g1 fun w1 H1 l1 r1 y hy => ho W cw w1 st1 σ H1 _ _ st2 r1 g3 fun w2 H2 l2 r2 x hx => hi W cw w2 st2 σ H2 _ _ st3 r2 g5 fun w3 H3 l3 r3 z hz => ?_)
              obtain ⟨f', w4, e4, l4, r4, q4⟩ := asFv_at r3 ((hy.le l2).le l3) g9
              cases e4
              have hx4 := (hx.le l3).le l4
              have hz4 := hz.le l4
              have l14 := l1.trans (l2.trans (l3.trans l4))
              split at g10
              · rename_i n t
                split at g10
                · rename_i l kk e5 e6
                  split at g10
                  · rename_i hok
                    cases g10
                    simp only [Bool.and_eq_true, decide_eq_true_eq, okKeys] at hok
                    obtain ⟨b, hb, rfl⟩ := hx4
                    obtain ⟨_, m, e7, pr⟩ := r4.rc.cell n _ b e5 hb rfl
                    have hk := keyT_at e6 hz4
                    subst hk
                    have nd : (m.map (·.1)).Nodup := by rw [← keys_pair pr]; exact hok.1
                    obtain ⟨r5, l5⟩ := r4.updC (c' := .dic false (putA l kk f)) (ho := .dK (putA m kk y)) e5 hb rfl rfl fun H5 e8 => ⟨_, e8, put_pair q4 pr⟩
                    refine ⟨b, _, rfl, DPut.k e7 (by rw [← pr.length]; exact hok.2), ?_⟩
                    rw [putK_put nd]
                    exact p w4 σ _ (l14.trans l5) r5
                  · cases g10
                · cases g10
              · rename_i n t
                split at g10
                · rename_i l kk z' e5 e6
                  split at g10
                  · rename_i hok
                    cases g10
                    simp only [Bool.and_eq_true, decide_eq_true_eq, okKeys] at hok
                    obtain ⟨xx, e7, b, e8, _, m, e9, q⟩ := r4.slot n _ e5
                    rw [show σ[n]? = some (some x) from hx4] at e7
                    cases e7
                    subst e8
                    have hk := keyT_at e6 hz4
                    subst hk
                    have pr := q.pv (w := w4)
                    have nd : (m.map (·.1)).Nodup := by rw [← keys_pair pr, List.map_map]; exact hok.1
                    have pr2 : RepD X.K cl w4.G (putA l kk z') (putA m kk y) := RepD.of_pv (w := w4) (by rw [putA_map]; exact put_pair (f := .t z') q4 pr)
                    obtain ⟨r5, l5⟩ := r4.updO (o' := .dic false (putA l kk z')) (ho := .dK (putA m kk y)) e5 hx4 fun H5 e10 => ⟨_, e10, pr2⟩
                    refine ⟨b, _, rfl, DPut.k e9 (by have := pr.length; rw [List.length_map] at this; rw [← this]; exact hok.2), ?_⟩
                    rw [putK_put nd]
                    exact p w4 σ _ (l14.trans l5) r5
                  · cases g10
                · cases g10
              · cases g10
            · split at g10
              · rename_i jj
                split at g10
                · rename_i xs e5
                  split at g10
                  · rename_i kk e6
                    split at g10
                    · rename_i s' e7
                      cases g10
                      refine PS.ws (ps_asg peW (pg_sub peW peW set_list hsub) hso hw h1) (he W cw w st σ H _ _ st1 r g1 fun w1 H1 l1 r1 y hy => ho W cw w1 st1 σ H1 _ _ st2 r1 g3 fun w2 H2 l2 r2 x hx => hi W cw w2 st2 σ H2 _ _ st3 r2 g5 fun w3 H3 l3 r3 z hz => ?_)
                      obtain ⟨f', w4, e4, l4, r4, q4⟩ := asFv_at r3 ((hy.le l2).le l3) g9
                      cases e4
                      have hx4 := (hx.le l3).le l4
                      cases hz
                      obtain ⟨b, ws, rfl, g, pr, kkk⟩ := getL_at r4 hx4 e5
                      obtain ⟨r5, l5⟩ := kkk _ (ws.set kk y) _ e7 (paired_set q4 kk pr)
                      exact ⟨b, ws, jj, kk, rfl, rfl, g, by rw [← pr.length]; exact e6, p w4 σ _ (l1.trans (l2.trans (l3.trans (l4.trans l5)))) r5⟩
                    · cases g10
                  · cases g10
                · cases g10
              · cases g10
end
end Lf
namespace Lf
open PySem PySem.Spec L2
section
variable {cl : Cl} {X : Cx}
theorem RepF.pv {K : PySem.W.Frag} {w : Wd} : ∀ {l : List (Str × T)} {m : List (Str × V)}, RepF K cl w.G l m → Paired (PvR K cl w) (l.map fun p => (p.1, Fv.t p.2)) m
  | _, _, .nil => .nil
  | _, _, .cons h r => .cons ⟨rfl, h⟩ r.pv
/-- an instance: its class, its attributes -/
def insOf (s : DSt) : Val → Option (Str × List (Str × Fv))
  | .t (.obj c fs) => some (c, fs.map fun p => (p.1, Fv.t p.2))
  | .loc n => match s.μ[n]? with
    | some (.ins c fs) => some (c, fs)
    | _ => none
  | _ => none
def dAttr (cs : List Str) (f : Str) (v : Val) : M Val := fun s => match insOf s v with
  | some (c, l) => if cs.contains c then match look l f with
      | some g => some (.ok g.val, s)
      | none => none
    else none
  | none => none
/-- the classes that have an attribute -/
def HasA (cl : Cl) (K : PySem.W.Frag) (cs : List Str) (f : Str) : Prop := ∀ c ∈ cs, ∀ C, cl c = some C → Cls K C ∧ NoAttr K C f
/-- o.f = v, o a cell -/
def setF (cs : List Str) (f : Str) (o : Val) (g : Fv) : M Unit := fun s => match o with
  | .loc n => match s.μ[n]? with
    | some (.ins c fs) => if cs.contains c && decide (fs.length < 1000) then some (.ok (), { s with μ := s.μ.set n (.ins c (putA fs f g)) }) else none
    | _ => none
  | _ => none
/-- a new object as a cell -/
def Own.cell : Own → Cell
  | .lst xs => .lst (xs.map .t)
  | .dic l kvs => .dic l (kvs.map fun p => (p.1, Fv.t p.2))
  | .dit l kvs => .dit l (kvs.map fun p => (p.1, Fv.t p.2))
theorem own_cell {K : PySem.W.Frag} {w w' : Wd} {H : Hp} {o : Own} {a : Addr} (h : OwnR K cl w.G H o a) (pg : Same w.G w'.G) : CellR K cl w' H o.cell a := by
  cases o with
  | lst xs => obtain ⟨vs, e, q⟩ := h; exact ⟨vs, e, (q.mono pg).fv⟩
  | dic l kvs => cases l with
    | false => obtain ⟨vs, e, q⟩ := h; exact ⟨vs, e, (q.mono pg).pv⟩
    | true => obtain ⟨ob, vs, e, q⟩ := h; exact ⟨ob, vs, e, (q.mono pg).pv⟩
  | dit l kvs => cases l with
    | false => obtain ⟨vs, e, q⟩ := h; exact ⟨vs, e, (q.mono pg).pv⟩
    | true => obtain ⟨ob, vs, e, q⟩ := h; exact ⟨ob, vs, e, (q.mono pg).pv⟩
def newCell (o : Own) : M Nat := fun s => some (.ok s.μ.length, { s with μ := s.μ ++ [o.cell] })
theorem newCell_at {K : PySem.W.Frag} {w : Wd} {st : DSt} {σ : L2.St} {H : Hp} (r : R K cl w st σ H) {o : Own} {a : Addr} {ho : HO} (ha : H a = none) (hO : ∀ H2, H2 a = some ho → OwnR K cl w.G H2 o a) :
    ∃ w', w'.as[st.μ.length]? = some a ∧ Le w H w' (upd H a ho) ∧ R K cl w' { st with μ := st.μ ++ [o.cell] } σ (upd H a ho) := by
  obtain ⟨w', e1, _, l, r'⟩ := r.newC (c := o.cell) ha (by cases o <;> rfl) fun w' H2 _ pg e => own_cell (hO H2 e) pg
  exact ⟨w', e1, l, r'⟩
/-- x = e, a new object into a cell -/
theorem ds_cell {i : Nat} {x : Str} {e : Expr} {pos pos' : Pos} {f : M Own} (hN : X.N.Nodup) (hi : X.N[i]? = some x) (hx : Loc X.env.scope x) (hs : swapsWith e (some (.Name x pos')) pos.line X.env = pure false) (hf : X.fn x = true ∨ X.env.scope.names.lookup x = some .local) (he : DF cl X e f) :
    DS cl X (.Assign [.Name x pos'] e pos) (bnd f fun v => bnd (newCell v) fun n => bnd (put i (.loc n)) fun _ => ret .nx) := fun W cw w st σ H D o st' r h p => by
  intro pins s I
  refine (L2.ps_set (X := X) (pos := pos) (pos' := pos') hN hi hx peW hs hf).run pins s σ H D I ?_
  unfold tAsg gName
  rcases bnd_some h with ⟨c, fs, h1, rfl⟩ | ⟨v, st1, h1, h2⟩
  · exact he W cw w st σ H _ _ st' r h1 p.toPost
  · refine he W cw w st σ H _ _ _ r h1 fun w1 H1 l1 r1 a ho ha hO => ?_
    have hl : i < σ.length := by rw [I.len]; exact lt_of_get hi
    cases h2
    obtain ⟨w2, e2, l2, r2⟩ := newCell_at r1 ha hO
    exact p w2 _ _ (l1.trans l2) (r2.setP hl (s := .loc st1.μ.length) ⟨a, e2, rfl⟩)
inductive Ret where
  | val (v : Fv) | own (o : Own)
abbrev DFun := List Fv → List Cell → Option (Out Ret × List Cell)
/-- only cells are owned -/
def Wd.bare (w : Wd) : Prop := ∀ a i, w.ω a ≠ some (.slot i)
def CPost (cl : Cl) (K : PySem.W.Frag) (w : Wd) (H : Hp) (Q : VK) (E : XK) (o : Out Ret) (μ' : List Cell) : Prop := match o with
  | .ok (.val v) => ∀ w' H' x, Le w H w' H' → w'.bare → Rc K cl w' μ' H' → FvR K cl w' v x → Q x H'
  | .ok (.own v) => ∀ w' H', Le w H w' H' → w'.bare → Rc K cl w' μ' H' → ∀ (p : Addr) (ho : HO), H' p = none → (∀ H2, H2 p = some ho → OwnR K cl w'.G H2 v p) → Q (.ref p) (upd H' p ho)
  | .exc c fs => ∀ w' H' cv d, Le w H w' H' → w'.bare → Rc K cl w' μ' H' → ExR K cl w' H' c fs cv d → E cv d H'
/-- a def's promise, by a plain function -/
def spD (cl : Cl) (K : PySem.W.Frag) (n : Nat) (F : DFun) : Sp := fun vs H Q E => ∃ (w : Wd) (μ : List Cell) (args : List Fv) (o : Out Ret) (μ' : List Cell), args.length = n ∧ w.bare ∧ Rc K cl w μ H ∧ Paired (FvR K cl w) args vs ∧ F args μ = some (o, μ') ∧ CPost cl K w H Q E o μ'
def Fv.slot : Fv → Slot
  | .t x => .t x
  | .loc n => .loc n
def startD (n : Nat) (args : List Fv) : List (Option Slot) := args.map (fun f => some f.slot) ++ List.replicate (n - args.length) none
def Cell.sm : Cell → Cell → Bool
  | .lst a, .lst b => Fv.sms a b
  | .dic l a, .dic m b => l == m && decide (a.map (·.1) = b.map (·.1)) && Fv.sms (a.map (·.2)) (b.map (·.2))
  | .dit l a, .dit m b => l == m && decide (a.map (·.1) = b.map (·.1)) && Fv.sms (a.map (·.2)) (b.map (·.2))
  | .dcl a, .dcl b => decide (a.map (·.1) = b.map (·.1)) && Fv.sms (a.map (·.2)) (b.map (·.2))
  | .ins c a, .ins d b => c == d && decide (a.map (·.1) = b.map (·.1)) && Fv.sms (a.map (·.2)) (b.map (·.2))
  | .dnn a, .dnn b => decide (a = b)
  | .dnl a, .dnl b => decide (a = b)
  | .fz a, .fz b => T.sm a b
  | .tpl a, .tpl b => Fv.sms a b
  | .tab a, .tab b => decide (a = b)
  | .dead, .dead => true
  | _, _ => false
def Cell.sms : List Cell → List Cell → Bool
  | [], [] => true
  | a :: r, b :: q => Cell.sm a b && Cell.sms r q
  | _, _ => false
theorem pairs_eq {κ α : Type} : ∀ {a b : List (κ × α)}, a.map (·.1) = b.map (·.1) → a.map (·.2) = b.map (·.2) → a = b
  | [], [], _, _ => rfl
  | (k, x) :: r, (j, y) :: q, h1, h2 => by
    simp only [List.map_cons, List.cons.injEq] at h1 h2
    rw [h1.1, h2.1, pairs_eq h1.2 h2.2]
  | [], _ :: _, h, _ => by cases h
  | _ :: _, [], h, _ => by cases h
theorem Cell.sm_eq {a b : Cell} (h : Cell.sm a b = true) : a = b := by
  cases a <;> cases b <;> simp only [Cell.sm, Bool.and_eq_true, beq_iff_eq, decide_eq_true_eq] at h <;> first | (cases h; done) | rfl | (rw [h]; done) | (rw [Fv.sms_eq h]) | (rw [T.sm_eq h]) | (rw [pairs_eq h.1 (Fv.sms_eq h.2)]; done) | (rw [h.1.1, pairs_eq h.1.2 (Fv.sms_eq h.2)])
theorem Cell.sms_eq : ∀ {a b : List Cell}, Cell.sms a b = true → a = b
  | [], [], _ => rfl
  | a :: r, b :: q, h => by simp only [Cell.sms, Bool.and_eq_true] at h; rw [Cell.sm_eq h.1, Cell.sms_eq h.2]
  | [], _ :: _, h => by cases h
  | _ :: _, [], h => by cases h
theorem Cell.sm_refl (a : Cell) : Cell.sm a a = true := by
  cases a <;> simp [Cell.sm, Fv.sms_refl, T.sm_refl]
theorem Cell.sms_refl : ∀ a : List Cell, Cell.sms a a = true
  | [] => rfl
  | a :: r => by simp only [Cell.sms, Cell.sm_refl, Cell.sms_refl r, Bool.and_self]
/-- the store behind a def: its own cells go -/
def trunc0 (μ μ' : List Cell) : Option (List Cell) := if μ'.length = μ.length then some μ' else if Cell.sms (μ'.take μ.length) μ then some μ else none
def trunc (μ μ' : List Cell) : Option (List Cell) := some ((trunc0 μ μ').getD μ')
def runD (n : Nat) (body : M Fl) : DFun := fun args μ => match body ⟨startD n args, μ⟩ with
  | some (.ok .nx, s) => (trunc μ s.μ).map fun m => (.ok (.val (.t .non)), m)
  | some (.ok (.rt (.t x)), s) => (trunc μ s.μ).map fun m => (.ok (.val (.t x)), m)
  | some (.ok (.rt (.loc k)), s) => if s.μ.length = μ.length then some (.ok (.val (.loc k)), s.μ) else none
  | some (.ok (.rf o), s) => (trunc μ s.μ).map fun m => (.ok (.own o), m)
  | some (.exc c fs, s) => (trunc μ s.μ).map fun m => (.exc c fs, m)
  | _ => none
end
end Lf
namespace Lf
open PySem PySem.Spec L2
section
variable {cl : Cl} {X : Cx}
/-- the owners that are cells below n -/
def Wd.cut (w : Wd) (n : Nat) : Wd := { as := w.as.take n, G := w.G, ω := fun a => match w.ω a with | some (.cell m) => if m < n then some (.cell m) else none | _ => none }
theorem cut_bare {w : Wd} {n : Nat} : (w.cut n).bare := fun a i h => by
  have h : (match w.ω a with | some (.cell m) => if m < n then some (Owner.cell m) else none | _ => none) = some (.slot i) := h
  split at h
  · split at h <;> cases h
  · cases h
theorem cut_own {w : Wd} {n : Nat} {a : Addr} {m : Nat} (h : w.ω a = some (.cell m)) (hm : m < n) : (w.cut n).ω a = some (.cell m) := by
  show (match w.ω a with | some (.cell m) => if m < n then some (Owner.cell m) else none | _ => none) = _
  rw [h]; exact if_pos hm
theorem cut_some {w : Wd} {n : Nat} {a : Addr} {o : Owner} (h : (w.cut n).ω a = some o) : w.ω a = some o := by
  have h' : (match w.ω a with | some (.cell m) => if m < n then some (Owner.cell m) else none | _ => none) = some o := h
  split at h'
  · rename_i m e
    split at h'
    · cases h'; exact e
    · cases h'
  · cases h'
theorem cut_none {w : Wd} {n : Nat} {a : Addr} (h : w.ω a = none) : (w.cut n).ω a = none := by
  show (match w.ω a with | some (.cell m) => if m < n then some (Owner.cell m) else none | _ => none) = none
  rw [h]
theorem paired_cut {α : Type} {K : PySem.W.Frag} {w w1 : Wd} {n : Nat} (hn : w.as.length = n) (get : α → Fv) : ∀ {xs : List α} {vs0 vs1 : List V}, Paired (fun p v => FvR K cl w (get p) v) xs vs0 → Paired (fun p v => FvR K cl w1 (get p) v) xs vs1 → Paired (fun p v => FvR K cl (w1.cut n) (get p) v) xs vs1
  | _, _, _, .nil, .nil => .nil
  | _, _, _, .cons (a := f) h0 t0, .cons h1 t1 => by
    refine .cons ?_ (paired_cut hn get t0 t1)
    cases e : get f with
    | t x => rw [e] at h1; exact h1
    | loc m =>
      rw [e] at h0 h1
      obtain ⟨a0, e0, _⟩ := h0
      obtain ⟨a1, e1, e2⟩ := h1
      refine ⟨a1, ?_, e2⟩
      show (w1.as.take n)[m]? = some a1
      rw [List.getElem?_take_of_lt (by rw [← hn]; exact lt_of_get e0)]
      exact e1
theorem pv_split {κ : Type} {K : PySem.W.Frag} {w : Wd} : ∀ {l : List (κ × Fv)} {m : List (κ × V)}, Paired (PvR K cl w) l m → l.map (·.1) = m.map (·.1) ∧ Paired (fun (p : κ × Fv) v => FvR K cl w p.2 v) l (m.map (·.2))
  | _, _, .nil => ⟨rfl, .nil⟩
  | _, _, .cons h t => by
    obtain ⟨a, b⟩ := pv_split t
    exact ⟨by rw [List.map_cons, List.map_cons, a, h.1], .cons h.2 b⟩
theorem pv_join {κ : Type} {K : PySem.W.Frag} {w : Wd} : ∀ {l : List (κ × Fv)} {m : List (κ × V)}, l.map (·.1) = m.map (·.1) → Paired (fun (p : κ × Fv) v => FvR K cl w p.2 v) l (m.map (·.2)) → Paired (PvR K cl w) l m
  | [], [], _, _ => .nil
  | (k, f) :: r, (j, v) :: q, h, .cons a b => by
    simp only [List.map_cons, List.cons.injEq] at h
    exact .cons ⟨h.1, a⟩ (pv_join h.2 b)
  | [], _ :: _, h, _ => by cases h
  | _ :: _, [], h, _ => by cases h
theorem cell_cut {K : PySem.W.Frag} {w w1 : Wd} {H H1 : Hp} {n : Nat} (hn : w.as.length = n) {c : Cell} {a a1 : Addr} (h0 : CellR K cl w H c a) (h1 : CellR K cl w1 H1 c a1) : CellR K cl (w1.cut n) H1 c a1 := by
  have pv : ∀ {κ : Type} {l : List (κ × Fv)} {m0 m1 : List (κ × V)}, Paired (PvR K cl w) l m0 → Paired (PvR K cl w1) l m1 → Paired (PvR K cl (w1.cut n)) l m1 := fun {κ l m0 m1} q0 q1 => by
    obtain ⟨a0, b0⟩ := pv_split q0
    obtain ⟨a1, b1⟩ := pv_split q1
    exact pv_join a1 (paired_cut hn (fun (p : κ × Fv) => p.2) b0 b1)
  cases c with
  | lst xs => obtain ⟨v0, _, q0⟩ := h0; obtain ⟨v1, e1, q1⟩ := h1; exact ⟨v1, e1, paired_cut hn id q0 q1⟩
  | dic l kvs => cases l with
    | false => obtain ⟨v0, _, q0⟩ := h0; obtain ⟨v1, e1, q1⟩ := h1; exact ⟨v1, e1, pv q0 q1⟩
    | true => obtain ⟨_, v0, _, q0⟩ := h0; obtain ⟨o, v1, e1, q1⟩ := h1; exact ⟨o, v1, e1, pv q0 q1⟩
  | dit l kvs => cases l with
    | false => obtain ⟨v0, _, q0⟩ := h0; obtain ⟨v1, e1, q1⟩ := h1; exact ⟨v1, e1, pv q0 q1⟩
    | true => obtain ⟨_, v0, _, q0⟩ := h0; obtain ⟨o, v1, e1, q1⟩ := h1; exact ⟨o, v1, e1, pv q0 q1⟩
  | dnn kvs => exact h1
  | dnl kvs => trivial
  | dcl kvs => trivial
  | tpl xs => trivial
  | ins c fs => obtain ⟨_, _, v0, _, _, q0⟩ := h0; obtain ⟨C, dx, v1, e0, e1, q1⟩ := h1; exact ⟨C, dx, v1, e0, e1, pv q0 q1⟩
  | fz x => trivial
  | tab q => exact h1
  | dead => trivial
theorem fz_cut {K : PySem.W.Frag} {w w1 : Wd} {n : Nat} (hn : w.as.length = n) {c : Cell} {a a1 : Addr} (h0 : FzR K cl w.as w.G c a) (h1 : FzR K cl w1.as w1.G c a1) : FzR K cl (w1.as.take n) w1.G c a1 := by
  cases c with
  | dcl kvs =>
    obtain ⟨_, v0, _, q0⟩ := h0
    obtain ⟨o, v1, e1, q1⟩ := h1
    refine ⟨o, v1, e1, ?_⟩
    obtain ⟨a0, b0⟩ := pv_split q0
    obtain ⟨a1, b1⟩ := pv_split q1
    have z := pv_join a1 (paired_cut (w := ⟨w.as, w.G, fun _ => none⟩) (w1 := ⟨w1.as, w1.G, fun _ => none⟩) hn (fun (p : Key × Fv) => p.2) b0 b1)
    exact z.mono fun _ _ z => z.mono (List.prefix_refl _) (Same.refl _)
  | tpl xs =>
    obtain ⟨v0, _, q0⟩ := h0
    obtain ⟨v1, e1, q1⟩ := h1
    have z := paired_cut (w := ⟨w.as, w.G, fun _ => none⟩) (w1 := ⟨w1.as, w1.G, fun _ => none⟩) hn id q0 q1
    exact ⟨v1, e1, z.mono fun _ _ z => z.mono (List.prefix_refl _) (Same.refl _)⟩
  | lst xs => trivial
  | dic l kvs => trivial
  | dit l kvs => trivial
  | dnn kvs => trivial
  | dnl kvs => exact h1
  | ins c fs => trivial
  | fz x => exact h1
  | tab q => trivial
  | dead => trivial
theorem le_cut {w w1 : Wd} {H H1 : Hp} {n : Nat} (hn : w.as.length = n) (l : Le w H w1 H1) : Le w H (w1.cut n) H1 := by
  refine ⟨?_, l.g, fun a h1 h2 => cut_none (l.own a h1 h2), l.kq, l.th, l.gk⟩
  show w.as <+: w1.as.take n
  obtain ⟨m, e⟩ := l.as
  rw [← e, ← hn, List.take_left]
  exact List.prefix_refl _
/-- behind a def: the world of the caller's cells -/
theorem rc_cut {K : PySem.W.Frag} {w w1 : Wd} {μ μ1 m : List Cell} {H H1 : Hp} (r0 : Rc K cl w μ H) (l : Le w H w1 H1) (r1 : Rc K cl w1 μ1 H1) (h : trunc0 μ μ1 = some m) : Rc K cl (w1.cut μ.length) m H1 := by
  have hl : μ.length ≤ μ1.length := by
    rw [← r0.len, ← r1.len]; exact l.as.length_le
  have hlen : (w1.as.take μ.length).length = μ.length := by
    rw [List.length_take, r1.len]; omega
  unfold trunc0 at h
  split at h
  · rename_i e
    cases h
    refine ⟨r1.sub, by show (w1.as.take μ.length).length = _; rw [hlen, e], fun n c a h1 h2 h3 => ?_, fun a o h => ?_, fun n x a h1 h2 => ?_, r1.tu⟩
    · have hn : n < μ.length := by rw [← e]; exact lt_of_get h1
      have h2' : (w1.as.take μ.length)[n]? = some a := h2
      rw [List.getElem?_take_of_lt hn] at h2'
      obtain ⟨x1, x2⟩ := r1.cell n c a h1 h2' h3
      refine ⟨cut_own x1 hn, CellR.keep (w := w1) (w' := w1.cut μ.length) ?_ (Same.refl _) (fun _ z => z) x2⟩
      show w1.as <+: w1.as.take μ.length
      rw [List.take_of_length_le (by rw [r1.len, e]; exact Nat.le_refl _)]
      exact List.prefix_refl _
    · exact r1.own a o (cut_some h)
    · have hn : n < μ.length := by rw [← e]; exact lt_of_get h1
      have h2' : (w1.as.take μ.length)[n]? = some a := h2
      rw [List.getElem?_take_of_lt hn] at h2'
      refine (r1.fz n x a h1 h2').mono2 ?_ (Same.refl _)
      show w1.as <+: w1.as.take μ.length
      rw [List.take_of_length_le (by rw [r1.len, e]; exact Nat.le_refl _)]
      exact List.prefix_refl _
  · split at h
    · rename_i hs
      cases h
      have es := Cell.sms_eq hs
      refine ⟨r1.sub, hlen, fun n c a h1 h2 h3 => ?_, fun a o h => r1.own a o (cut_some h), fun n x a h1 h2 => ?_, r1.tu⟩
      case refine_2 =>
        have hn : n < μ.length := lt_of_get h1
        have h2' : (w1.as.take μ.length)[n]? = some a := h2
        rw [List.getElem?_take_of_lt hn] at h2'
        have h1' : μ1[n]? = some x := by
          rw [← es, List.getElem?_take_of_lt hn] at h1; exact h1
        obtain ⟨a0, ha0⟩ : ∃ a0, w.as[n]? = some a0 := ⟨_, List.getElem?_eq_getElem (by rw [r0.len]; exact hn)⟩
        exact fz_cut r0.len (r0.fz n x a0 h1 ha0) (r1.fz n x a h1' h2')
      have hn : n < μ.length := lt_of_get h1
      have h2' : (w1.as.take μ.length)[n]? = some a := h2
      rw [List.getElem?_take_of_lt hn] at h2'
      have h1' : μ1[n]? = some c := by
        rw [← es, List.getElem?_take_of_lt hn] at h1; exact h1
      obtain ⟨x1, x2⟩ := r1.cell n c a h1' h2' h3
      obtain ⟨a0, ha0⟩ : ∃ a0, w.as[n]? = some a0 := ⟨_, List.getElem?_eq_getElem (by rw [r0.len]; exact hn)⟩
      obtain ⟨_, y2⟩ := r0.cell n c a0 h1 ha0 h3
      exact ⟨cut_own x1 hn, cell_cut r0.len y2 x2⟩
    · cases h
theorem start_slots {K : PySem.W.Frag} {w : Wd} {μ : List Cell} {H : Hp} {n : Nat} {args : List Fv} {vs : List V} {N : List Str} (rc : Rc K cl w μ H) (h : Paired (FvR K cl w) args vs) (hn : N.length = n) : R K cl w ⟨startD n args, μ⟩ (L2.start N vs) H := by
  have hl := h.length
  refine ⟨rc, ?_, fun i s e => ?_⟩
  · show (startD n args).length = (L2.start N vs).length
    unfold startD L2.start
    rw [List.length_append, List.length_append, List.length_map, List.length_map, List.length_replicate, List.length_replicate, hn, hl]
  · have e' : (startD n args)[i]? = some (some s) := e
    unfold startD at e'
    by_cases hi : i < args.length
    · rw [List.getElem?_append_left (by rw [List.length_map]; exact hi), List.getElem?_map] at e'
      cases q : args[i]? with
      | none => rw [q] at e'; cases e'
      | some f =>
        rw [q] at e'
        cases e'
        obtain ⟨v, ev, fv⟩ := paired_at h q
        refine ⟨v, ?_, ?_⟩
        · unfold L2.start
          rw [List.getElem?_append_left (by rw [List.length_map, ← hl]; exact hi), List.getElem?_map, ev]; rfl
        · cases f with
          | t x => exact fv
          | loc m => exact fv
    · rw [List.getElem?_append_right (by rw [List.length_map]; omega), List.getElem?_replicate] at e'
      split at e' <;> cases e'
/-- the caller's cells alone -/
def Wd.cells (w : Wd) : Wd := { w with ω := fun a => match w.ω a with | some (.cell m) => some (.cell m) | _ => none }
theorem cells_bare {w : Wd} : w.cells.bare := fun a i h => by
  have h : (match w.ω a with | some (.cell m) => some (Owner.cell m) | _ => none) = some (.slot i) := h
  split at h <;> cases h
theorem cells_some {w : Wd} {a : Addr} {o : Owner} (h : w.cells.ω a = some o) : w.ω a = some o := by
  have h : (match w.ω a with | some (.cell m) => some (Owner.cell m) | _ => none) = some o := h
  split at h
  · rename_i m e; cases h; exact e
  · cases h
theorem rc_cells {K : PySem.W.Frag} {w : Wd} {μ : List Cell} {H : Hp} (r : Rc K cl w μ H) : Rc K cl w.cells μ H := by
  refine ⟨r.sub, r.len, fun n c a h1 h2 h3 => ?_, fun a o h => r.own a o (cells_some h), r.fz, r.tu⟩
  obtain ⟨x1, x2⟩ := r.cell n c a h1 h2 h3
  refine ⟨?_, x2.keep (List.prefix_refl _) (Same.refl _) fun _ z => z⟩
  show (match w.ω a with | some (.cell m) => some (Owner.cell m) | _ => none) = _
  rw [x1]
theorem fin_at {K : PySem.W.Frag} {wd w1 : Wd} {μ m : List Cell} {st1 : DSt} {σ1 : L2.St} {H H1 : Hp} (rc : Rc K cl wd μ H) (l : Le wd H w1 H1) (r : R K cl w1 st1 σ1 H1) (ht : trunc μ st1.μ = some m) : ∃ w2 : Wd, Le wd H w2 H1 ∧ w2.bare ∧ Rc K cl w2 m H1 ∧ w2.G = w1.G := by
  unfold trunc at ht
  cases e : trunc0 μ st1.μ with
  | some m' =>
    rw [e] at ht
    cases ht
    exact ⟨w1.cut μ.length, le_cut rc.len l, cut_bare, rc_cut rc l r.rc e, rfl⟩
  | none =>
    rw [e] at ht
    cases ht
    refine ⟨w1.cells, ⟨l.as, l.g, fun a h1 h2 => ?_, l.kq, l.th, l.gk⟩, cells_bare, rc_cells r.rc, rfl⟩
    show (match w1.ω a with | some (.cell m) => some (Owner.cell m) | _ => none) = none
    rw [l.own a h1 h2]
theorem fn_okC {P : Program} {w : World} {K : PySem.W.Frag} {mg : Str → Option Value} {base : Heap} {x qual : Str} {st : Stmt} {f : Addr} {fd : FuncData} {N ps : List Str} {k : Nat} {body : M Fl} (F : Fun K x qual st f fd) (S : FnScope N ps (defScope st))
    (hb : ∀ (cdv : Value), fd.code = cdv → ∀ (A : Around) (outer : List Env) (s : Shared) (H : Hp) (E : XK), Room k (A.deeper (PyProof.Rows.envOfC qual (defScope st) s.heap.objs.size f cdv)) → DSs cl (cxOf (L2.CX P w) P w K mg base N qual (defScope st) f cdv A outer s H E) (defBody st) body) :
    FnOk P w K mg base (L2.CX P w) (k + 1) f fd ps (spD cl K ps.length (runD N.length body)) := by
  obtain ⟨oc, od, kV, doc, pm, an, cdv, ct, osl, rfl, lk, hcd⟩ := F.ex
  refine fn_of lk hcd S (fun vs H Q E h => ?_) (fun A outer s H vs Q E hr h => ?_)
  · obtain ⟨w, μ, args, o, μ', h1, _, _, h2, _⟩ := h
    rw [← h2.length]; exact h1
  · obtain ⟨wd, μ, args, o, μ', h1, hbare, rc, h2, hF, hp⟩ := h
    refine ⟨_, pssW, ?_⟩
    let Y : Cx := cxOf (L2.CX P w) P w K mg base N qual (defScope st) f cdv A outer s H E
    have cw : Cw Y (fun cls d _ H => E cls d H) := ⟨takes_of rfl rfl rfl rfl, passes_of rfl⟩
    have ds : DSs cl Y (defBody st) body := hb cdv rfl A outer s H E hr
    have r0 : R K cl wd ⟨startD N.length args, μ⟩ (L2.start N vs) H := start_slots rc h2 rfl
    show WSs Y (defBody st) _ (L2.start N vs) H
    unfold runD at hF
    split at hF
    · rename_i s1 e1
      cases et : trunc μ s1.μ with
      | none => rw [et] at hF; cases hF
      | some m =>
        rw [et] at hF
        cases hF
        refine ds _ cw wd _ _ H _ _ s1 r0 e1 fun w1 σ1 H1 l1 r1 => ?_
        obtain ⟨w2, a1, a2, a3, a4⟩ := fin_at rc l1 r1 et
        exact hp w2 H1 .non a1 a2 a3 .non
    · rename_i y s1 e1
      cases et : trunc μ s1.μ with
      | none => rw [et] at hF; cases hF
      | some m =>
        rw [et] at hF
        cases hF
        refine ds _ cw wd _ _ H _ _ s1 r0 e1 fun w1 σ1 H1 l1 r1 v hv => ?_
        obtain ⟨w2, a1, a2, a3, a4⟩ := fin_at rc l1 r1 et
        refine hp w2 H1 v a1 a2 a3 ?_
        show Rep K cl w2.G y v
        rw [a4]
        exact hv
    · rename_i n s1 e1
      split at hF
      · rename_i el
        cases hF
        refine ds _ cw wd _ _ H _ _ s1 r0 e1 fun w1 σ1 H1 l1 r1 v hv => ?_
        have et : trunc0 μ s1.μ = some s1.μ := by unfold trunc0; rw [if_pos el]
        have a1 := le_cut rc.len l1
        have a2 : (w1.cut μ.length).bare := cut_bare
        have a3 := rc_cut rc l1 r1.rc et
        obtain ⟨b, e2, e3⟩ := hv
        refine hp _ H1 v a1 a2 a3 ⟨b, ?_, e3⟩
        show (w1.as.take μ.length)[n]? = some b
        rw [List.getElem?_take_of_lt (by rw [← el, ← r1.rc.len]; exact lt_of_get e2)]
        exact e2
      · cases hF
    · rename_i y s1 e1
      cases et : trunc μ s1.μ with
      | none => rw [et] at hF; cases hF
      | some m =>
        rw [et] at hF
        cases hF
        refine ds _ cw wd _ _ H _ _ s1 r0 e1 fun w1 σ1 H1 l1 r1 b ho hb hO => ?_
        obtain ⟨w2, a1, a2, a3, a4⟩ := fin_at rc l1 r1 et
        exact hp w2 H1 a1 a2 a3 b ho hb (by rw [a4]; exact hO)
    · rename_i c fs s1 e1
      cases et : trunc μ s1.μ with
      | none => rw [et] at hF; cases hF
      | some m =>
        rw [et] at hF
        cases hF
        refine ds _ cw wd _ _ H _ _ s1 r0 e1 fun w1 σ1 H1 cv d l1 r1 hx => ?_
        obtain ⟨w2, a1, a2, a3, a4⟩ := fin_at rc l1 r1 et
        refine hp w2 H1 cv d a1 a2 a3 ?_
        obtain ⟨C, x1, x2, x3⟩ := hx
        refine ⟨C, x1, x2, ?_⟩
        rcases x3 with x3 | ⟨dd, vs, x3, x4, x5⟩
        · exact .inl x3
        · exact .inr ⟨dd, vs, x3, x4, by rw [a4]; exact x5⟩
    · cases hF
theorem fn_ok {P : Program} {w : World} {K : PySem.W.Frag} {mg : Str → Option Value} {base : Heap} {x qual : Str} {st : Stmt} {f : Addr} {fd : FuncData} {N ps : List Str} {k : Nat} {body : M Fl} (F : Fun K x qual st f fd) (S : FnScope N ps (defScope st))
    (hb : ∀ (cdv : Value) (A : Around) (outer : List Env) (s : Shared) (H : Hp) (E : XK), Room k (A.deeper (PyProof.Rows.envOfC qual (defScope st) s.heap.objs.size f cdv)) → DSs cl (cxOf (L2.CX P w) P w K mg base N qual (defScope st) f cdv A outer s H E) (defBody st) body) :
    FnOk P w K mg base (L2.CX P w) (k + 1) f fd ps (spD cl K ps.length (runD N.length body)) := fn_okC F S fun cdv _ => hb cdv
/-- behind a call: the caller's slots stand as they stood -/
theorem R.back {K : PySem.W.Frag} {w w1 : Wd} {st : DSt} {σ : L2.St} {H H1 : Hp} {μ1 : List Cell} (r : R K cl w st σ H) (l : Le w.cells H w1 H1) (hb : w1.bare) (rc : Rc K cl w1 μ1 H1) :
    ∃ w2, Le w H w2 H1 ∧ R K cl w2 { st with μ := μ1 } σ H1 ∧ w2.as = w1.as ∧ w2.G = w1.G := by
  let w2 : Wd := { as := w1.as, G := w1.G, ω := fun a => match w.ω a with | some (.slot i) => some (.slot i) | _ => w1.ω a }
  have nn : ∀ a, w.ω a = none → w.cells.ω a = none := fun a h => by
    show (match w.ω a with | some (.cell m) => some (Owner.cell m) | _ => none) = none
    rw [h]
  have ns : ∀ a i, w.ω a = some (.slot i) → w.cells.ω a = none := fun a i h => by
    show (match w.ω a with | some (.cell m) => some (Owner.cell m) | _ => none) = none
    rw [h]
  have w2c : ∀ a, (∀ i, w.ω a ≠ some (.slot i)) → w2.ω a = w1.ω a := fun a h => by
    show (match w.ω a with | some (.slot i) => some (Owner.slot i) | _ => w1.ω a) = _
    split
    · rename_i i e; exact absurd e (h i)
    · rfl
  have w2s : ∀ a i, w.ω a = some (.slot i) → w2.ω a = some (.slot i) := fun a i h => by
    show (match w.ω a with | some (.slot i) => some (Owner.slot i) | _ => w1.ω a) = _
    rw [h]
  have own1 : ∀ a i, w.ω a = some (.slot i) → w1.ω a = none ∧ w1.G a = none ∧ H a ≠ none ∧ H1 a ≠ none ∧ ∀ o, isTb o = false → H a = some o → H1 a = some o := fun a i h => by
    obtain ⟨g, n⟩ := r.rc.own a _ h
    exact ⟨l.own a (ns a i h) n, (l.gk a (ns a i h) n).trans g, n, l.th a (ns a i h) n, fun o t e => l.kq a o (ns a i h) e t (.inl g)⟩
  refine ⟨w2, ⟨l.as, l.g, fun a h1 h2 => ?_, fun a o h1 h2 h3 h4 => l.kq a o (nn a h1) h2 h3 h4, fun a h1 h2 => l.th a (nn a h1) h2, fun a h1 h2 => l.gk a (nn a h1) h2⟩, ⟨⟨rc.sub, rc.len, fun n c a h1 h2 h3 => ?_, fun a o h => ?_, rc.fz, rc.tu⟩, r.slen, fun i s e => ?_⟩, rfl, rfl⟩
  · rw [w2c a fun i z => by rw [h1] at z; cases z]
    exact l.own a (nn a h1) h2
  · obtain ⟨x1, x2⟩ := rc.cell n c a h1 h2 h3
    refine ⟨?_, CellR.keep (w := w1) (w' := w2) (List.prefix_refl _) (Same.refl _) (fun _ z => z) x2⟩
    rw [w2c a fun i z => by rw [(own1 a i z).1] at x1; cases x1]
    exact x1
  · by_cases hs : ∃ i, w.ω a = some (.slot i)
    · obtain ⟨i, hs⟩ := hs
      obtain ⟨k1, k2, k3, k4, k5⟩ := own1 a i hs
      exact ⟨k2, k4⟩
    · rw [w2c a fun i z => hs ⟨i, z⟩] at h
      exact rc.own a o h
  · obtain ⟨x, e1, e2⟩ := r.slot i s e
    refine ⟨x, e1, ?_⟩
    cases s with
    | t y => exact Rep.mono l.g e2
    | loc n => obtain ⟨a, z1, z2⟩ := e2; exact ⟨a, pre_get l.as z1, z2⟩
    | own o =>
      obtain ⟨a, z1, z2, z3⟩ := e2
      exact ⟨a, z1, w2s a i z2, z3.keepN l.g (own1 a i z2).2.2.2.2⟩
    | exc c fs => trivial
    | fn L cs => exact FnR.mono l.g e2
    | gf a => exact e2
def asFvs : List Val → M (List Fv)
  | [] => ret []
  | v :: vs => bnd (asFv v) fun f => bnd (asFvs vs) fun fs => ret (f :: fs)
theorem asFvs_at {K : PySem.W.Frag} {σ : L2.St} {H : Hp} : ∀ {vs : List Val} {xs : List V} {w : Wd} {st st' : DSt} {o : Out (List Fv)}, R K cl w st σ H → Paired (VR K cl w σ) vs xs → asFvs vs st = some (o, st') → ∃ fs w', o = .ok fs ∧ Le w H w' H ∧ R K cl w' st' σ H ∧ Paired (FvR K cl w') fs xs
  | [], _, w, st, st', o, r, .nil, h => by cases h; exact ⟨[], w, rfl, Le.refl _ _, r, .nil⟩
  | v :: vs, _, w, st, st', o, r, .cons hv hvs, h => by
    unfold asFvs at h
    rcases bnd_some h with ⟨c, fs, h1, rfl⟩ | ⟨t, st1, h1, h2⟩
    · obtain ⟨t, w', e, _⟩ := asFv_at r hv h1
      cases e
    · obtain ⟨t', w1, e, l1, r1, q1⟩ := asFv_at r hv h1
      cases e
      rcases bnd_some h2 with ⟨c, fs, h3, rfl⟩ | ⟨ts, st2, h3, h4⟩
      · obtain ⟨ts, w', e, _⟩ := asFvs_at r1 (hvs.mono fun _ _ z => z.le l1) h3
        cases e
      · obtain ⟨ts', w2, e, l2, r2, q2⟩ := asFvs_at r1 (hvs.mono fun _ _ z => z.le l1) h3
        cases e
        cases h4
        exact ⟨_, w2, rfl, l1.trans l2, r2, .cons (q1.mono l2.as l2.g) q2⟩
/-- a call of a plain function -/
def callF (F : DFun) (args : List Fv) : M Ret := fun s => match F args s.μ with
  | some (.ok v, m) => some (.ok v, { s with μ := m })
  | some (.exc c fs, m) => some (.exc c fs, { s with μ := m })
  | none => none
/-- how a call ends for the caller -/
theorem call_end {W : WX} {w : Wd} {st st' : DSt} {σ : L2.St} {H : Hp} {Q : VK} {F : DFun} {n : Nat} {args : List Fv} {xs : List V} {o : Out Ret} (r : R X.K cl w st σ H) (ha : Paired (FvR X.K cl w) args xs) (hn : args.length = n) (h : callF F args st = some (o, st'))
    (p : Post cl X W σ w H o st' (fun v w' H' => match v with
      | .val v => ∀ x, FvR X.K cl w' v x → Q x H'
      | .own v => ∀ (p : Addr) (ho : HO), H' p = none → (∀ H2, H2 p = some ho → OwnR X.K cl w'.G H2 v p) → Q (.ref p) (upd H' p ho))) : spD cl X.K n F xs H Q (fun c d H' => W c d σ H') := by
  unfold callF at h
  have fa : Paired (FvR X.K cl w.cells) args xs := ha.mono fun _ _ z => z.mono (List.prefix_refl _) (Same.refl _)
  split at h
  · rename_i v m e
    cases h
    refine ⟨w.cells, st.μ, args, _, m, hn, cells_bare, rc_cells r.rc, fa, e, ?_⟩
    cases v with
    | val v =>
      intro w1 H1 x l b rc fx
      obtain ⟨w2, l2, r2, e1, e2⟩ := r.back l b rc
      exact p w2 H1 l2 r2 x (fx.mono (by rw [e1]; exact List.prefix_refl _) (by rw [e2]; exact Same.refl _))
    | own v =>
      intro w1 H1 l b rc q ho hq hO
      obtain ⟨w2, l2, r2, e1, e2⟩ := r.back l b rc
      exact p w2 H1 l2 r2 q ho hq (by rw [e2]; exact hO)
  · rename_i c fs m e
    cases h
    refine ⟨w.cells, st.μ, args, _, m, hn, cells_bare, rc_cells r.rc, fa, e, ?_⟩
    intro w1 H1 cv d l b rc hx
    obtain ⟨w2, l2, r2, e1, e2⟩ := r.back l b rc
    refine p w2 H1 cv d l2 r2 ?_
    obtain ⟨C, k1, k2, k3⟩ := hx
    refine ⟨C, k1, k2, ?_⟩
    rcases k3 with k3 | ⟨dd, vs, k3, k4, k5⟩
    · exact .inl k3
    · exact .inr ⟨dd, vs, k3, k4, by rw [e2]; exact k5⟩
  · cases h
def retV : Ret → M Val
  | .val v => ret v.val
  | .own o => keep o
def retO : Ret → M Own
  | .val _ => stuck
  | .own o => ret o
def dCall (F : DFun) (fa : M (List Val)) : M Ret := bnd fa fun vs => bnd (asFvs vs) fun fs => callF F fs
/-- a call's end as a value -/
theorem ret_end {W : WX} {w : Wd} {st : DSt} {σ : L2.St} {H : Hp} {Q : VK} {f : M Ret} {o : Out Val} {st' : DSt} (h : bnd f retV st = some (o, st')) (p : Post cl X W σ w H o st' (fun v w' H' => ∀ x, VR X.K cl w' σ v x → Q x H')) :
    ∃ o1 st1, f st = some (o1, st1) ∧ Post cl X W σ w H o1 st1 (fun v w' H' => match v with
      | .val v => ∀ x, FvR X.K cl w' v x → Q x H'
      | .own v => ∀ (p : Addr) (ho : HO), H' p = none → (∀ H2, H2 p = some ho → OwnR X.K cl w'.G H2 v p) → Q (.ref p) (upd H' p ho)) := by
  rcases bnd_some h with ⟨c, fs, h1, rfl⟩ | ⟨v, st1, h1, h2⟩
  · exact ⟨_, _, h1, p⟩
  · refine ⟨_, _, h1, fun w1 H1 l1 r1 => ?_⟩
    cases v with
    | val v => cases h2; exact fun x fx => p w1 H1 l1 r1 x fx.vr
    | own v =>
      intro a ho ha hO
      obtain ⟨t, w2, e, e', l2, r2, q2⟩ := keep_at r1 ha hO (show keep v st1 = some (o, st') from h2)
      subst e e'
      exact p w2 _ (l1.trans l2) r2 _ q2
section
variable {k : Nat} {f C : Addr} {fd : FuncData} {ps : List Str} {F : DFun} {x m : Str} {p pos apos : Pos} {e o : Expr} {es : List Expr} {fa : M (List Val)} {fo : M Val}
theorem call_we {W : WX} (cw : Cw X W) (G : FnOk X.prog X.w X.K X.mg X.base (L2.CX X.prog X.w) k f fd ps (spD cl X.K ps.length F)) (hr : Room k X.A) (hb : Binds X.K fd ps []) {w : Wd} {st st' : DSt} {σ : L2.St} {H : Hp} {Q : VK} {vs : List Val} {xs : List V} {us : List Value} {ou : Out Ret} {pins : List (Addr × Obj)} {s : Shared}
    (r : R X.K cl w st σ H) (hv : Paired (VR X.K cl w σ) vs xs) (h : bnd (asFvs vs) (fun fs => callF F fs) st = some (ou, st')) (hl : vs.length = ps.length)
    (pp : Post cl X W σ w H ou st' (fun v w' H' => match v with
      | .val v => ∀ x, FvR X.K cl w' v x → Q x H'
      | .own v => ∀ (p : Addr) (ho : HO), H' p = none → (∀ H2, H2 p = some ho → OwnR X.K cl w'.G H2 v p) → Q (.ref p) (upd H' p ho))) (I : Inv X pins σ H s) (rv : Vals xs us) : wpAny (model X.prog X.w) X.A (call (.ref f) us) (EP X pins σ Q) X.xe s := by
  rcases bnd_some h with ⟨c, fs, h1, rfl⟩ | ⟨fs, st1, h1, h2⟩
  · obtain ⟨fs, w', e, _⟩ := asFvs_at r hv h1
    cases e
  · obtain ⟨fs', w1, e, l1, r1, q1⟩ := asFvs_at r hv h1
    cases e
    have hlen : fs.length = ps.length := by rw [q1.length, ← hv.length]; exact hl
    have sp := call_end (W := W) r1 q1 hlen h2 (pp.after l1)
    exact run_fnSD (E := fun σ c d H' => W c d σ H') (dvs := []) (ds := []) G hr hb .nil (passAt cw.tk σ) I rv (by rw [List.append_nil]; exact sp)
end
end
end Lf
namespace Lf
open PySem PySem.Spec L2
section
variable {cl : Cl} {X : Cx}
def Len (n : Nat) (fa : M (List Val)) : Prop := ∀ s vs s', fa s = some (.ok vs, s') → vs.length = n
theorem len_nil : Len 0 (ret []) := fun s vs s' h => by cases h; rfl
theorem len_cons {n : Nat} {f : M Val} {g : M (List Val)} (h : Len n g) : Len (n + 1) (dCons f g) := fun s vs s' e => by
  unfold dCons at e
  rcases bnd_some e with ⟨c, fs, _, z⟩ | ⟨v, s1, h1, h2⟩
  · cases z
  · rcases bnd_some h2 with ⟨c, fs, _, z⟩ | ⟨vs, s2, h3, h4⟩
    · cases z
    · cases h4
      rw [List.length_cons, h _ _ _ h3]
section
variable {k : Nat} {f C : Addr} {fd : FuncData} {ps : List Str} {F : DFun} {x m : Str} {p pos apos : Pos} {e o : Expr} {es : List Expr} {fa : M (List Val)} {fo : M Val}
theorem de_call (G : FnOk X.prog X.w X.K X.mg X.base (L2.CX X.prog X.w) k f fd ps (spD cl X.K ps.length F)) (hr : Room k X.A) (hg : Gl X x) (hm : X.mg x = some (.ref f)) (hk : PySem.W.keepIn X.K (.ref f) = true) (hb : Binds X.K fd ps []) (hdb : (x == ("__debug__" : Str)) = false)
    (he : starEach (e :: es) X.env = (false, eval e X.env) :: starEach es X.env) (hpl : (backTo pos (starEach es X.env)).any (·.1) = false) (hla : Len ps.length fa) (ha : DA cl X (e :: es) fa) : DE cl X (.Call (.Name x p) (e :: es) [] pos) (bnd (dCall F fa) retV) := fun W cw w st σ H Q ou st' r h pp => by
  obtain ⟨o1, st1, h1, pp1⟩ := ret_end h pp
  intro pins s I
  refine wpAny_Call_Name_kw (ld_glob I hg hm ?_ hdb)
  rcases bnd_some h1 with ⟨c, fs, h2, rfl⟩ | ⟨vs, st2, h2, h3⟩
  · exact PySem.W.callWith_K (h₀ := X.base) I.ok.mod.kin hk (thn (ha W cw w st σ H (fun _ _ => False) _ st1 r h2 pp1.exc pos pins s I) fun us s1 ⟨_, _, _, _, z⟩ => z.elim) he hpl
  · refine PySem.W.callWith_K (h₀ := X.base) I.ok.mod.kin hk (thn (ha W cw w st σ H (fun xs H1 => ∃ w1, Le w H w1 H1 ∧ R X.K cl w1 st2 σ H1 ∧ Paired (VR X.K cl w1 σ) vs xs) _ st2 r h2 (fun w1 H1 l1 r1 xs hxs => ⟨w1, l1, r1, hxs⟩) pos pins s I) fun us s1 ⟨xs, H1, I1, rv, w1, l1, r1, hxs⟩ => ⟨I1.kIn, ?_⟩) he hpl
    exact call_we cw G hr hb r1 hxs h3 (hla _ _ _ h2) (pp1.after l1) I1 rv
/-- .. that hands back a new object -/
theorem df_call (G : FnOk X.prog X.w X.K X.mg X.base (L2.CX X.prog X.w) k f fd ps (spD cl X.K ps.length F)) (hr : Room k X.A) (hg : Gl X x) (hm : X.mg x = some (.ref f)) (hk : PySem.W.keepIn X.K (.ref f) = true) (hb : Binds X.K fd ps []) (hdb : (x == ("__debug__" : Str)) = false)
    (he : starEach (e :: es) X.env = (false, eval e X.env) :: starEach es X.env) (hpl : (backTo pos (starEach es X.env)).any (·.1) = false) (hla : Len ps.length fa) (ha : DA cl X (e :: es) fa) : DF cl X (.Call (.Name x p) (e :: es) [] pos) (bnd (dCall F fa) retO) := fun W cw w st σ H Q ou st' r h pp => by
  have key : ∃ o1 st1, dCall F fa st = some (o1, st1) ∧ Post cl X W σ w H o1 st1 (fun v w' H' => match v with
      | .val v => ∀ x, FvR X.K cl w' v x → Q x H'
      | .own v => ∀ (p : Addr) (ho : HO), H' p = none → (∀ H2, H2 p = some ho → OwnR X.K cl w'.G H2 v p) → Q (.ref p) (upd H' p ho)) := by
    rcases bnd_some h with ⟨c, fs, h1, rfl⟩ | ⟨v, st1, h1, h2⟩
    · exact ⟨_, _, h1, pp⟩
    · refine ⟨_, _, h1, fun w1 H1 l1 r1 => ?_⟩
      cases v with
      | val v => cases h2
      | own v => cases h2; exact pp w1 H1 l1 r1
  obtain ⟨o1, st1, h1, pp1⟩ := key
  intro pins s I
  refine wpAny_Call_Name_kw (ld_glob I hg hm ?_ hdb)
  rcases bnd_some h1 with ⟨c, fs, h2, rfl⟩ | ⟨vs, st2, h2, h3⟩
  · exact PySem.W.callWith_K (h₀ := X.base) I.ok.mod.kin hk (thn (ha W cw w st σ H (fun _ _ => False) _ st1 r h2 pp1.exc pos pins s I) fun us s1 ⟨_, _, _, _, z⟩ => z.elim) he hpl
  · refine PySem.W.callWith_K (h₀ := X.base) I.ok.mod.kin hk (thn (ha W cw w st σ H (fun xs H1 => ∃ w1, Le w H w1 H1 ∧ R X.K cl w1 st2 σ H1 ∧ Paired (VR X.K cl w1 σ) vs xs) _ st2 r h2 (fun w1 H1 l1 r1 xs hxs => ⟨w1, l1, r1, hxs⟩) pos pins s I) fun us s1 ⟨xs, H1, I1, rv, w1, l1, r1, hxs⟩ => ⟨I1.kIn, ?_⟩) he hpl
    exact call_we cw G hr hb r1 hxs h3 (hla _ _ _ h2) (pp1.after l1) I1 rv
def dMethC (c m : Str) (F : DFun) (fo : M Val) (fa : M (List Val)) : M Ret := bnd fo fun v => fun s => match insOf s v with
  | some (d, l) => if d = c ∧ look l m = none then bnd fa (fun vs => bnd (asFvs (v :: vs)) fun fs => callF F fs) s else none
  | none => none
def plainD {κ : Type} : List (κ × Fv) → Option (List (κ × T))
  | [] => some []
  | (k, .t x) :: r => (plainD r).map ((k, x) :: ·)
  | (_, .loc _) :: _ => none
/-- a cell as plain data -/
def thawC (m : List Cell) (n j : Nat) : Option T := if j < n then none else match m[j]? with
  | some (.lst xs) => (plains xs).map .lst
  | some (.dic false kvs) => (plainD kvs).map .dic
  | some (.dit false kvs) => (plainD kvs).map .dit
  | some (Cell.fz x) => some x
  | _ => none
def thawF (m : List Cell) (n : Nat) : List (Str × Fv) → Option (List (Str × T))
  | [] => some []
  | (k, .t x) :: r => (thawF m n r).map ((k, x) :: ·)
  | (k, .loc j) :: r => match thawC m n j, thawF m n r with
    | some x, some l => some ((k, x) :: l)
    | _, _ => none
def mkObj (c : Str) (F : DFun) (fs : List Fv) : M Val := fun s => match F (.loc s.μ.length :: fs) (s.μ ++ [.ins c []]) with
  | some (.ok (.val (.t .non)), m) => if Cell.sms (m.take s.μ.length) s.μ then match m[s.μ.length]? with
      | some (.ins d l) => match thawF m s.μ.length l with
        | some ts => some (.ok (.t (.obj d ts)), s)
        | none => none
      | _ => none
    else none
  | some (.exc d l, m) => if Cell.sms (m.take s.μ.length) s.μ then some (.exc d l, s) else none
  | _ => none
end
end
end Lf
namespace Lf
open PySem PySem.Spec L2
open PyProof.Rows in
section
variable {prog : Program} {w : World} {A : Around} {E : Value → Shared → Prop} {s : Shared} {r d : Addr} {n : Nat} {Ty : String} {P : Nat → Value → Prop} {OK : Heap → Prop}
end
section
variable {cl : Cl} {X : Cx}
def keyTree : Key → T
  | .inl i => .int i
  | .inr x => .str x
/-- tuple(x): of a dict too -/
def dTupleD (vs : List Val) : M Val := fun s => match vs with
  | [v] => match dcK s v with
    | some kvs => some (.ok (.t (.tup (kvs.map fun p => keyTree p.1))), s)
    | none => dTuple vs s
  | _ => none
end
end Lf
namespace Lf
open PySem PySem.Spec L2
section
variable {cl : Cl} {X : Cx}
/-- a dict that is walked -/
def stillD (v : Val) : M (List (Key × T)) := fun s => match v with
  | .t (.dic kvs) => some (.ok kvs, s)
  | .loc n => match s.μ[n]? with
    | some (.dic false kvs) => match plainD kvs with
      | some ts => some (.ok ts, { s with μ := s.μ.set n (.fz (.dic ts)) })
      | none => none
    | some (.fz (.dic kvs)) => some (.ok kvs, s)
    | _ => none
  | .sl i => match s.δ[i]? with
    | some (some (.own (.dic _ kvs))) => some (.ok kvs, { s with δ := s.δ.set i (some (.t (.dic kvs))) })
    | some (some (.t (.dic kvs))) => some (.ok kvs, s)
    | _ => none
  | _ => none
/-- behind the walk what was locked is as it was -/
def unl (X : Cx) (P : Hp → Prop) : Hp → Prop := fun H => P H ∨ ∃ d od u, (∀ o' u', X.H_0 d ≠ some (.frz o' u')) ∧ H d = some (.frz od u) ∧ P (upd H d u)
def keysV (kvs : List (Key × T)) : List Val := kvs.map fun p => .t (keyTree p.1)
def dForK (fe : M Val) (g : Val → M Unit) (b : M Fl) : M Fl := bnd fe fun v => bnd (stillD v) fun kvs => forL g b (fun _ => true) (keysV kvs)
theorem RepD.at {K : PySem.W.Frag} {G : Hp} : ∀ {l : List (Key × T)} {m : List (Key × V)} {i : Nat} {p : Key × T}, RepD K cl G l m → l[i]? = some p → ∃ v, m[i]? = some (p.1, v)
  | _, _, i, p, .nil, h => by simp at h
  | _, _, 0, p, .cons _ _, h => by simp at h; subst h; exact ⟨_, rfl⟩
  | _, _, i + 1, p, .cons _ t, h => by
    obtain ⟨v, e⟩ := RepD.at (i := i) t (by simpa using h)
    exact ⟨v, by simpa using e⟩
theorem RepD.length {K : PySem.W.Frag} {G : Hp} : ∀ {l : List (Key × T)} {m : List (Key × V)}, RepD K cl G l m → l.length = m.length
  | _, _, .nil => rfl
  | _, _, .cons _ t => by rw [List.length_cons, List.length_cons, t.length]
/-- the world while a dict that stands still is locked -/
theorem R.locked {K : PySem.W.Frag} {w : Wd} {st : DSt} {σ : L2.St} {H : Hp} (r : R K cl w st σ H) {d : Addr} {vs : List (Key × V)} (g : w.G d = some (.dK vs)) (od : Obj) : R K cl w st σ (upd H d (.frz od (.dK vs))) := by
  have no : ∀ a o, w.ω a = some o → a ≠ d := fun a o h z => by rw [z] at h; rw [(r.rc.own d o h).1] at g; cases g
  refine ⟨⟨fun a u e => ?_, r.rc.len, fun n c a h1 h2 h3 => ?_, fun a o h => ?_, r.rc.fz, fun a xs q => by
    by_cases hb : a = d
    · subst hb; rw [upd_same] at q; cases q
    · rw [upd_ne hb] at q; exact r.rc.tu a xs q⟩, r.slen, fun i s e => ?_⟩
  · by_cases hb : a = d
    · rw [hb] at e ⊢
      rw [g] at e
      cases e
      exact .inr ⟨rfl, od, upd_same⟩
    · rw [upd_ne hb]; exact r.rc.sub a u e
  · obtain ⟨x1, x2⟩ := r.rc.cell n c a h1 h2 h3
    exact ⟨x1, x2.keep (List.prefix_refl _) (Same.refl _) fun u q => by rw [upd_ne (no a _ x1)]; exact q⟩
  · refine ⟨(r.rc.own a o h).1, ?_⟩
    rw [upd_ne (no a o h)]; exact (r.rc.own a o h).2
  · obtain ⟨x, h1, h2⟩ := r.slot i s e
    refine ⟨x, h1, ?_⟩
    cases s with
    | t y => exact h2
    | loc n => exact h2
    | own q =>
      obtain ⟨a, e1, e2, e3⟩ := h2
      exact ⟨a, e1, e2, e3.keep (Same.refl _) fun u q => by rw [upd_ne (no a _ e2)]; exact q⟩
    | exc c fs => trivial
    | fn L cs => exact h2
    | gf a => exact h2
end
end Lf
namespace Lf
open PySem PySem.Spec L2
section
variable {cl : Cl} {X : Cx}
def tDI (cl : Cl) (K : PySem.W.Frag) (X : Cx) (f : M Its) : TI := fun σ H Rr => ∃ (w : Wd) (st st' : DSt) (I : Its), R K cl w st σ H ∧ f st = some (.ok I, st') ∧ ∀ w' H' J, Le w H w' H' → R K cl w' st' σ H' → ItR cl X w' H' I J → Rr J H'
def compL2 (vs vs1 : List Nat) (g : Val → M Unit) (t : M Bool) (fi1 : M Its) (g1 : Val → M Unit) (t1 : M Bool) (e : M Val) (chk : DSt → Bool) : List Val → List T → M (List T)
  | [], acc => fun s => if chk s then some (.ok acc, s) else none
  | v :: r, acc => fun s => if chk s then bnd (g v) (fun _ => bnd t fun b => if b then bnd fi1 fun I1 => fun s1 => bnd (compL vs1 g1 t1 e I1.chk I1.items acc) (fun acc1 => fun s2 => compL2 vs vs1 g t fi1 g1 t1 e chk r acc1 { s2 with δ := wipeD s2.δ vs }) { s1 with δ := wipeD s1.δ vs1 }
      else fun s => compL2 vs vs1 g t fi1 g1 t1 e chk r acc { s with δ := wipeD s.δ vs }) s else none
def dComp2 (vs vs1 : List Nat) (fi : M Its) (g : Val → M Unit) (t : M Bool) (fi1 : M Its) (g1 : Val → M Unit) (t1 : M Bool) (e : M Val) : M Own := bnd fi fun I => fun s => if noOwn s.δ vs then
    match hush (compL2 vs vs1 g t fi1 g1 t1 e I.chk I.items []) { s with δ := wipeD s.δ vs } with
    | some (.ok ys, s2) => some (.ok (.lst ys), { s2 with δ := backD s.δ s2.δ vs })
    | _ => none
  else none
def tagOf (s : DSt) (v : Val) : Option String := match v with
  | .t .non => some "NoneType"
  | .t (.bl _) => some "bool"
  | .t (.int _) => some "int"
  | .t (.str _) => some "str"
  | .t (.tup _) => some "tuple"
  | .t (.dic _) => some "dict"
  | v => match lstOf s v with
    | some _ => some "list"
    | none => match v with
      | .loc n => match s.μ[n]? with
        | some (.lst _) => some "list"
        | some (.tpl _) => some "tuple"
        | _ => none
      | _ => none
theorem tag_at {w : Wd} {st : DSt} {σ : L2.St} {H : Hp} (r : R X.K cl w st σ H) {v : Val} {x : V} {n : String} (h : tagOf st v = some n) (hv : VR X.K cl w σ v x) : TyX X.K H x (.type n) := by
  have gen : ∀ {xs : List T}, lstOf st v = some xs → n = "list" → TyX X.K H x (.type n) := fun {xs} e1 e2 => by
    obtain ⟨a, vs, rfl, g, q⟩ := lst_at r e1 hv
    rw [e2]
    exact .base (.lst g)
  unfold tagOf at h
  split at h
  · cases h; cases hv; exact .base .non
  · cases h; cases hv; exact .base (.bl _)
  · cases h; cases hv; exact .base (.int _)
  · cases h; cases hv; exact .base (.str _)
  · cases h
    cases hv with
    | tup e q => exact .base (.tup (r.rc.tup e))
  · cases h
    cases hv with
    | dic e q =>
      rcases r.rc.dK e with e1 | ⟨ob, e1⟩
      · exact .base (.dK e1)
      · exact .fDict e1
  · split at h
    · rename_i xs e
      cases h
      exact gen e rfl
    · split at h
      · rename_i m _ _ _ _ _ _ _ _
        obtain ⟨a, ha, rfl⟩ := hv
        split at h
        · rename_i xs e
          cases h
          obtain ⟨_, vs, e2, _⟩ := r.rc.cell _ _ a e ha rfl
          exact .base (.lst e2)
        · rename_i xs e
          cases h
          obtain ⟨vs, e2, _⟩ := r.rc.fz _ _ a e ha
          exact .base (.tup (r.rc.tup e2))
        · cases h
      · cases h
def isiB (a b : String) : Bool := a == b || (a == "bool" && b == "int")
abbrev tags : List String := ["NoneType", "bool", "int", "str", "tuple", "dict", "list"]
theorem tag_mem {s : DSt} {v : Val} {n : String} (h : tagOf s v = some n) : n ∈ tags := by
  unfold tagOf at h
  split at h
  all_goals first
    | (cases h; simp)
    | (split at h
       · cases h; simp
       · split at h
         · split at h
           · cases h; simp
           · cases h; simp
           · cases h
         · cases h)
def KitOk (ty : String) : Prop := ∀ a ∈ tags, kitB a ty = some (isiB a ty)
theorem kit_ok {ty : String} (h : (tags.all fun a => decide (kitB a ty = some (isiB a ty))) = true) : KitOk ty := fun a ha => of_decide_eq_true (List.all_eq_true.mp h a ha)
def dIsi (tys : List String) (v : Val) : M Val := fun s => match tagOf s v with
  | some n => some (.ok (.t (.bl (tys.any fun ty => isiB n ty))), s)
  | none => none
theorem de_isi1 {e : Expr} {ty : String} {tyS : Str} {p p1 pos : Pos} {f : M Val} (hk : KitOk ty) (hg : Gl X "isinstance") (hm : X.mg "isinstance" = none) (hg1 : Gl X tyS) (hm1 : X.mg tyS = none) (hv1 : bootBuiltins tyS = some (.type ty)) (hn1 : tyS ≠ "__name__") (hd1 : (tyS == ("__debug__" : Str)) = false)
    (he : starEach [e, .Name tyS p1] X.env = (false, eval e X.env) :: starEach [.Name tyS p1] X.env) (h : DE cl X e f) : DE cl X (.Call (.Name "isinstance" p) [e, .Name tyS p1] [] pos) (bnd f (dIsi [ty])) := fun W cw w st σ H Q o st' r hf pp => by
  refine PE.we (pe_callB call_isi hg hm PyProof.Rows.boot_isinstance (pa_cons peW (pa_cons (pe_bltn (v := .ty ty) hg1 hm1 hv1 rfl hn1 hd1) pa_nil) he) (by decide) (by decide) he) ?_
  rcases bnd_some hf with ⟨c, fs, h1, rfl⟩ | ⟨v, st1, h1, h2⟩
  · exact h W cw w st σ H _ _ st' r h1 pp
  · refine h W cw w st σ H _ _ st1 r h1 fun w1 H1 l1 r1 x hx => ?_
    unfold dIsi at h2
    split at h2
    · rename_i n e1
      cases h2
      refine ⟨x, .ty ty, _, _, isiB n ty, rfl, .ty ty, tag_at r1 e1 hx, kit_ty (hk n (tag_mem e1)), ?_⟩
      have := pp w1 H1 l1 r1 (.bl _) (.bl _)
      simpa using this
    · cases h2
def dJoin (a b : Val) : M Val := fun s => match a with
  | .t (.str x) => match seqOf s b with
    | some (_, ts) => match plains ts with
      | some zs => match strsT zs with
        | some ys => if (ys.map (·.length)).sum + ys.length * x.length ≤ 16777216 then some (.ok (.t (.str (Txt.join x ys))), s) else none
        | none => none
      | none => none
    | none => none
  | _ => none
def isStr : Val → Bool
  | .t (.str _) => true
  | _ => false
def dStar (f : M Val) (g : M (List Val)) : M (List Val) := bnd f fun v => fun s => match seqOf s v with
  | some (_, ts) => bnd g (fun vs => ret (ts.map Fv.val ++ vs)) s
  | none => none
end
end Lf
namespace Lf
open PySem PySem.Spec L2
/-- a class of the program whose __init__ is ValueError's -/
def baseB (K : PySem.W.Frag) (L : Addr) : Bool := PySem.W.readsIn K L (.type "type") && ((match PySem.W.findCls K (.ref L) (.type "type") "__init__" with | some (.val v) => v == .builtin "ValueError.__init__" | _ => false) && decide (PySem.W.specialIn K (.ref L) "__getattribute__" = some (some (.builtin "type.__getattribute__"))))
section
variable {X : Cx} {e : Expr} {es : List Expr} {ta : TA} {p1 p2 pos : Pos} {L : Addr} {b : Str}
theorem pe_base {pl : Sem Bool} (gb : Gl X b) (mb : X.mg b = some (.ref L)) (hb : baseB X.K L = true) (pa : PA X (e :: es) ta) (hdb : (b == ("__debug__" : Str)) = false)
    (ec : eval (.Call (.Attribute (.Name b p1) "__init__" p2) (e :: es) [] pos) X.env = (do
      let ov ← eval (.Name b p1) X.env
      standAt p2.atName
      let (f, first) ← holding [ov] (getMethod ov "__init__" pl)
      callWith pos f first (backTo pos (starEach (e :: es) X.env)) (backToKw pos (keywordEach [] X.env))))
    (e1 : starEach (e :: es) X.env = (false, eval e X.env) :: starEach es X.env) (e2 : (backTo pos (starEach es X.env)).any (·.1) = false) :
    PE X (.Call (.Attribute (.Name b p1) "__init__" p2) (e :: es) [] pos) (tVeI X.K ta) := by
  simp only [baseB, Bool.and_eq_true, decide_eq_true_eq] at hb
  obtain ⟨b1, b2', b3⟩ := hb
  have b2 : PySem.W.findCls X.K (.ref L) (.type "type") "__init__" = some (.val (.builtin "ValueError.__init__")) := by
    split at b2'
    · rename_i v ev
      rw [ev, beq_iff_eq.mp b2']
    · cases b2'
  constructor
  intro pins s σ H Q J hyp
  apply PySem.W.methodCall_KW _ ec
  apply ld_glob J gb mb _ hdb
  apply PySem.W.method_cls J.kIn b3
  refine PySem.W.cls_value J.kIn b1 b2 (show PySem.W.handedIn (.builtin "ValueError.__init__") = true by decide +kernel) ?_
  show wpAny _ _ (callWith pos (Value.builtin "ValueError.__init__") [] (backTo pos (starEach (e :: es) X.env)) []) _ _ _
  apply PyProof.Rows.callWith_method1 _ e1 e2
  apply thn (pa.run pos pins _ σ H _ (J.tok _) hyp)
  rintro us s1 ⟨vs, H1, J1, q1, a, C, ws, rfl, len, T, ha, q⟩
  cases q1 with
  | @cons _ u0 _ ur ra rest =>
    obtain rfl : u0 = Value.ref a := ra
    refine oinit_ok T J1 ha ?_ fun s' J2 => ⟨.non, H1, J2, rfl, q⟩
    have := Paired.length rest
    rw [sizeLine_eq]
    omega
end
/-- what the __init__ of an error with the one field f keeps -/
def spErr (K : PySem.W.Frag) (f : Str) : Sp := fun vs H Q E => ∃ (a C : Addr) (y : V), vs = [.ref a, y] ∧ OexC K C ∧ PySem.W.findIn K (.ref C) f = some none ∧ H a = some (exo a C none) ∧
  ∀ dx, H dx = none → dx ≠ a → Q .non (upd (upd H dx (exd dx [(f, y)])) a (exo a C (some dx)))
theorem err_body {X : Cx} {f b m : Str} {L : Addr} {j : Nat} {p1 p2 p3 p4 p5 p6 p7 p8 p9 p10 : Pos} {pl : Sem Bool} (hN : X.N = [("self" : Str), f]) (vf : Vis X.env.scope f) (vs : Vis X.env.scope "self") (df : (f == ("__debug__" : Str)) = false) (cf : (f == ("__classdict__" : Str)) = false)
    (gb : Gl X b) (mb : X.mg b = some (.ref L)) (hb : baseB X.K L = true) (hdb : (b == ("__debug__" : Str)) = false)
    (ec : eval (.Call (.Attribute (.Name b p1) "__init__" p2) [.Name "self" p3, .Constant (.str m) j p4] [] p5) X.env = (do
      let ov ← eval (.Name b p1) X.env
      standAt p2.atName
      let (f, first) ← holding [ov] (getMethod ov "__init__" pl)
      callWith p5 f first (backTo p5 (starEach [.Name "self" p3, .Constant (.str m) j p4] X.env)) (backToKw p5 (keywordEach [] X.env))))
    (e1 : starEach [.Name "self" p3, .Constant (.str m) j p4] X.env = (false, eval (.Name "self" p3) X.env) :: starEach [.Constant (.str m) j p4] X.env) (e2 : (backTo p5 (starEach [.Constant (.str m) j p4] X.env)).any (·.1) = false)
    (hs : swapsWith (.Name f p9) (some (.Attribute (.Name "self" p7) f p8)) p10.line X.env = pure false) (pa : ∃ ta, PA X [.Name "self" p3, .Constant (.str m) j p4] ta ∧ ∀ σ H Q, ta σ H Q = ∃ v, σ[0]? = some (some v) ∧ Q [v, .str m] H)
    {H : Hp} {a C : Addr} {y : V} {D : Ends} (T : OexC X.K C) (hno : PySem.W.findIn X.K (.ref C) f = some none) (ha : H a = some (exo a C none)) (hq : ∀ dx, H dx = none → dx ≠ a → ∀ σ, D.nx σ (upd (upd H dx (exd dx [(f, y)])) a (exo a C (some dx)))) :
    WSs X [.Expr (.Call (.Attribute (.Name b p1) "__init__" p2) [.Name "self" p3, .Constant (.str m) j p4] [] p5) p6, .Assign [.Attribute (.Name "self" p7) f p8] (.Name f p9) p10] D [some (.ref a), some y] H := by
  obtain ⟨ta, pa, ea⟩ := pa
  refine PSs.ws (pss_cons (ps_expr (pe_base (pl := pl) gb mb hb pa hdb ec e1 e2)) (pss_cons (ps_ost (pe_var (i := 0) (by rw [hN]; rfl) vs (by decide) (by decide)) (pe_var (i := 1) (by rw [hN]; rfl) vf df cf) hs) pss_nil)) ?_
  unfold tSeq
  show tVeI X.K ta _ H _
  unfold tVeI
  rw [ea]
  refine ⟨.ref a, rfl, a, C, [.str m], rfl, by simp, T, ha, ?_⟩
  show tOst X.K f (tVar 0) (tVar 1) _ _ H
  unfold tOst
  refine ⟨y, rfl, .ref a, rfl, a, C, rfl, T, hno, .inl ⟨ha, fun dx n1 n2 => hq dx n1 n2 _⟩⟩
end Lf
namespace Lf
open PySem PySem.Spec L2
section
variable {cl : Cl} {X : Cx}
/-- an expression of a suite, by the fields of the exception -/
def DX (cl : Cl) (X : Cx) (n : Str) (i : Nat) (cs : List Str) (e : Expr) (g : List (Str × T) → Option T) : Prop :=
  ∀ (a : Addr) (oe : Obj) (pn : List (Addr × Obj)) (c : Str) (C dd : Addr) (vs : List (Str × V)) (fs : List (Str × T)) (t : T) (w : Wd) (st : DSt) (σ : L2.St) (H : Hp) (Q : VK), Zc (.ref C) (some dd) oe → (∃ us, oe.data = .fields us) → cl c = some C → c ∈ cs → R X.K cl w st σ H → σ[i]? = some (some (.ref a)) →
    H dd = some (.xd vs) → RepF X.K cl w.G fs vs → g fs = some t → (∀ w' H' x, Le w H w' H' → R X.K cl w' st σ H' → H' dd = some (.xd vs) → Rep X.K cl w'.G t x → Q x H') → WE (X.suite a ((a, oe) :: pn)) e σ H Q
def DXs (cl : Cl) (X : Cx) (n : Str) (i : Nat) (cs : List Str) (es : List Expr) (g : List (Str × T) → Option (List T)) : Prop :=
  ∀ (a : Addr) (oe : Obj) (pn : List (Addr × Obj)) (c : Str) (C dd : Addr) (vs : List (Str × V)) (fs : List (Str × T)) (t : List T) (w : Wd) (st : DSt) (σ : L2.St) (H : Hp) (Q : List V → Hp → Prop), Zc (.ref C) (some dd) oe → (∃ us, oe.data = .fields us) → cl c = some C → c ∈ cs → R X.K cl w st σ H → σ[i]? = some (some (.ref a)) →
    H dd = some (.xd vs) → RepF X.K cl w.G fs vs → g fs = some t → (∀ w' H' xs, Le w H w' H' → R X.K cl w' st σ H' → H' dd = some (.xd vs) → Reps X.K cl w'.G t xs → Q xs H') → WA (X.suite a ((a, oe) :: pn)) es σ H Q
theorem RepF.look {K : PySem.W.Frag} {G : Hp} {f : Str} : ∀ {l : List (Str × T)} {m : List (Str × V)} {g : T}, RepF K cl G l m → look l f = some g → ∃ v, m.lookup f = some v ∧ Rep K cl G g v
  | _, _, _, .nil, h => by cases h
  | _, _, g, .cons (k := k) (t := x) (v := v) e t, h => by
    unfold Lf.look at h
    by_cases ej : k = f
    · subst ej
      rw [if_pos rfl] at h
      cases h
      exact ⟨v, by simp [List.lookup], e⟩
    · rw [if_neg ej] at h
      obtain ⟨v', h1, h2⟩ := RepF.look t h
      refine ⟨v', ?_, h2⟩
      have : (f == k) = false := by simpa using fun z : f = k => ej z.symm
      simp only [List.lookup, this]
      exact h1
def xCons (g : List (Str × T) → Option T) (gs : List (Str × T) → Option (List T)) : List (Str × T) → Option (List T) := fun fs => match g fs, gs fs with
  | some t, some ts => some (t :: ts)
  | _, _ => none
def xSeq (mk : List T → T) (gs : List (Str × T) → Option (List T)) : List (Str × T) → Option T := fun fs => match gs fs with
  | some ts => if ts.length ≤ sizeLine then some (mk ts) else none
  | none => none
/-- try: body / except x as n: return e -/
def dTryR (ms : Str → Option Bool) (cs : List Str) (i : Nat) (f : M Fl) (g : List (Str × T) → Option T) : M Fl := fun s => match f s with
  | some (.exc c fs, s1) => match ms c with
    | some true => if (c ∈ cs ∧ fs ≠ []) ∧ i < s1.δ.length then match g fs with
        | some t => some (.ok (.rt (.t t)), { s1 with δ := s1.δ.set i none })
        | none => none
      else none
    | some false => some (.exc c fs, s1)
    | none => none
  | r => r
theorem R.clear {K : PySem.W.Frag} {w : Wd} {st : DSt} {σ : L2.St} {H : Hp} (r : R K cl w st σ H) (i : Nat) (v : Option V) : R K cl w { st with δ := st.δ.set i none } (σ.set i v) H := by
  refine ⟨r.rc, by simp [r.slen], fun j s e => ?_⟩
  have e : (st.δ.set i none)[j]? = some (some s) := e
  by_cases h : i = j
  · subst h
    by_cases hl : i < st.δ.length
    · rw [List.getElem?_set_self hl] at e; cases e
    · rw [List.getElem?_eq_none (by simpa using hl)] at e; cases e
  · rw [List.getElem?_set_ne h] at e
    rw [List.getElem?_set_ne h]
    exact r.slot j s e
end
end Lf
namespace Lf
open PySem PySem.Spec L2
abbrev oSub := dInt yes2 fun i j => T.int (i - j)
abbrev oDiv := dInt cDiv fun i j => T.int (i / j)
abbrev oMod := dInt cMod fun i j => T.int (i % j)
abbrev oPow := dInt cPow fun i j => T.int (i ^ j.toNat)
abbrev oLt := dInt yes2 fun i j => T.bl (decide (i < j))
abbrev oLe := dInt yes2 fun i j => T.bl (decide (i ≤ j))
abbrev oGt := dInt yes2 fun i j => T.bl (decide (j < i))
abbrev oGe := dInt yes2 fun i j => T.bl (decide (j ≤ i))
abbrev cInt (i : Int) : M Val := ret (.t (.int i))
abbrev cStr (x : Str) : M Val := ret (.t (.str x))
abbrev cBl (b : Bool) : M Val := ret (.t (.bl b))
abbrev cNon : M Val := ret (.t .non)
def dLst (f : M (List Val)) : M Own := bnd f fun vs => bnd (frzs vs) fun ts => if ts.length ≤ sizeLine then ret (.lst ts) else stuck
def dTup (f : M (List Val)) : M Val := bnd f fun vs => bnd (frzs vs) fun ts => if ts.length ≤ sizeLine then ret (.t (.tup ts)) else stuck
def dSet (i : Nat) (f : M Val) : M Fl := bnd f fun v => bnd (put i v) fun _ => ret .nx
def dOwn (i : Nat) (f : M Own) : M Fl := bnd f fun v => bnd (putO i v) fun _ => ret .nx
def dCellS (i : Nat) (f : M Own) : M Fl := bnd f fun v => bnd (newCell v) fun n => bnd (put i (.loc n)) fun _ => ret .nx
def dExpr (f : M Val) : M Fl := bnd f fun _ => ret .nx
def dRet (f : M Val) : M Fl := bnd f back
def dRetF (f : M Own) : M Fl := bnd f fun o => ret (.rf o)
def dKeep (f : M Own) : M Val := bnd f keep
def dT (f : M Val) : M Bool := bnd f asBl
def dTC (g : Val → Val → M Val) (fa fb : M Val) : M Bool := bnd (dBin g fa fb) asBl
def dFld (cs : List Str) (f : Str) (fo fe : M Val) : M Fl := bnd fe fun v => bnd fo fun a => bnd (asFv v) fun g => bnd (setF cs f a g) fun _ => ret .nx
def dFldC (cs : List Str) (f : Str) (fo : M Val) (fe : M Own) : M Fl := bnd fe fun v => bnd (newCell v) fun n => bnd fo fun a => bnd (setF cs f a (.loc n)) fun _ => ret .nx
def dSetIx (fo fi fe : M Val) : M Fl := bnd fe fun v => bnd fo fun a => bnd fi fun j => bnd (setIx a j v) fun _ => ret .nx
def dAt (cs : List Str) (f : Str) (fe : M Val) : M Val := bnd fe (dAttr cs f)
def dCallV (F : DFun) (fa : M (List Val)) : M Val := bnd (dCall F fa) retV
def dCallO (F : DFun) (fa : M (List Val)) : M Own := bnd (dCall F fa) retO
def dMethV (c m : Str) (F : DFun) (fo : M Val) (fa : M (List Val)) : M Val := bnd (dMethC c m F fo fa) retV
def dMake (c : Str) (F : DFun) (fa : M (List Val)) : M Val := bnd fa fun vs => bnd (asFvs vs) fun fs => mkObj c F fs
def dRaise (c f : Str) (fe : M Val) : M Fl := bnd fe fun v => bnd (frz v) fun t => raise c [(f, t)]
def iSeq (f : M Val) : M Its := bnd f walkOf
def iRange1 (f : M (List Val)) : M Its := bnd f fun vs => if vs.length = 1 then mkRange vs else stuck
def iRange2 (f : M (List Val)) : M Its := bnd f fun vs => if vs.length = 2 then mkRange vs else stuck
def iEnum (f : M (List Val)) : M Its := bnd f fun vs => match vs with | [v] => walkEnum v | _ => stuck
def pInt (f : M Val) : M (Option Int) := bnd f fun v => match v with | .t (.int i) => ret (some i) | _ => stuck
def dJn (fo fe : M Val) : M Val := bnd fo fun a => if isStr a then bnd fe fun b => dJoin a b else stuck
section
variable {cl : Cl} {X : Cx}
theorem gv (i : Nat) {x : Str} {pos : Pos} (h1 : X.N[i]? = some x := by rfl) (h2 : Vis X.env.scope x := by first | exact Or.inl rfl | exact Or.inr (Or.inl rfl) | exact Or.inr (Or.inr rfl)) (h3 : (x == ("__debug__" : Str)) = false := by decide) (h4 : (x == ("__classdict__" : Str)) = false := by decide) :
    DE cl X (.Name x pos) (dVar i) := de_var h1 h2 h3 h4
theorem gCmp {op : CmpOp} {g : Val → Val → M Val} {a b : Expr} {pos : Pos} {fa fb : M Val} (ho : DOp cl X (compareOp op) g) (ha : DE cl X a fa) (hb : DE cl X b fb) (hm : behindInMarks op b = false := by rfl) : DE cl X (.Compare a [op] [b] pos) (dBin g fa fb) := de_cmp ho hm ha hb
theorem tCmp {op : CmpOp} {g : Val → Val → M Val} {a b : Expr} {pos : Pos} {fa fb : M Val} (ho : DOp cl X (compareOp op) g) (ha : DE cl X a fa) (hb : DE cl X b fb) (hm : behindInMarks op b = false := by rfl) : DT cl X (.Compare a [op] [b] pos) (dTC g fa fb) := dt_cmp ho hm ha hb
theorem tV {e : Expr} {f : M Val} (h : DE cl X e f) (he : ∀ whole, isTrue e X.env whole = (do let v ← whole; standAt e.pos; holding [v] (truthy v)) := by intro _; rfl) : DT cl X e (dT f) := dt_val he h
theorem gFr {e : Expr} {f : M Own} (h : DF cl X e f) : DE cl X e (dKeep f) := h.de
theorem gA {e : Expr} {es : List Expr} {f : M Val} {g : M (List Val)} (ha : DE cl X e f) (hb : DA cl X es g) (hs : starEach (e :: es) X.env = (false, eval e X.env) :: starEach es X.env := by rfl) : DA cl X (e :: es) (dCons f g) := da_cons hs ha hb
theorem gLst {es : List Expr} {pos : Pos} {f : M (List Val)} (h : DA cl X es f) : DF cl X (.List es pos) (dLst f) := df_lst h
theorem gTup {es : List Expr} {x1} {pos : Pos} {f : M (List Val)} (h : DA cl X es f) : DE cl X (.Tuple es x1 pos) (dTup f) := de_tup h
theorem gB {id : String} {g : List Val → M Val} {x : Str} {e : Expr} {es : List Expr} {p pos : Pos} {fa : M (List Val)} (hc : DC cl X (.builtin id) g) (hm : X.mg x = none) (hv : bootBuiltins x = some (.builtin id)) (ha : DA cl X (e :: es) fa) (hg : Gl X x := by rfl) (hn : x ≠ "__name__" := by decide) (hdb : (x == ("__debug__" : Str)) = false := by decide)
    (he : starEach (e :: es) X.env = (false, eval e X.env) :: starEach es X.env := by rfl) (hpl : (backTo pos (starEach es X.env)).any (·.1) = false := by rfl) : DE cl X (.Call (.Name x p) (e :: es) [] pos) (bnd fa g) := de_callB hc hg hm hv hn hdb he hpl ha
theorem gTy {id : String} {g : List Val → M Val} {x : Str} {e : Expr} {es : List Expr} {p pos : Pos} {fa : M (List Val)} (hc : DC cl X (.type id) g) (hm : X.mg x = none) (hv : bootBuiltins x = some (.type id)) (ha : DA cl X (e :: es) fa) (hg : Gl X x := by rfl) (hn : x ≠ "__name__" := by decide) (hdb : (x == ("__debug__" : Str)) = false := by decide)
    (he : starEach (e :: es) X.env = (false, eval e X.env) :: starEach es X.env := by rfl) (hpl : (backTo pos (starEach es X.env)).any (·.1) = false := by rfl) : DE cl X (.Call (.Name x p) (e :: es) [] pos) (bnd fa g) := de_callTy hc hg hm hv hn hdb he hpl ha
section
variable {k : Nat} {f C : Addr} {fd : FuncData} {ps : List Str} {F : DFun} {x m : Str} {p pos apos : Pos} {e o : Expr} {es : List Expr} {fa : M (List Val)} {fo : M Val}
theorem gCall (G : FnOk X.prog X.w X.K X.mg X.base (L2.CX X.prog X.w) k f fd ps (spD cl X.K ps.length F)) (hr : Room k X.A) (hm : X.mg x = some (.ref f)) (hk : PySem.W.keepIn X.K (.ref f) = true) (hb : Binds X.K fd ps []) (hla : Len ps.length fa) (ha : DA cl X (e :: es) fa)
    (hg : Gl X x := by rfl) (hdb : (x == ("__debug__" : Str)) = false := by decide) (he : starEach (e :: es) X.env = (false, eval e X.env) :: starEach es X.env := by rfl) (hpl : (backTo pos (starEach es X.env)).any (·.1) = false := by rfl) : DE cl X (.Call (.Name x p) (e :: es) [] pos) (dCallV F fa) := de_call G hr hg hm hk hb hdb he hpl hla ha
theorem gCallF (G : FnOk X.prog X.w X.K X.mg X.base (L2.CX X.prog X.w) k f fd ps (spD cl X.K ps.length F)) (hr : Room k X.A) (hm : X.mg x = some (.ref f)) (hk : PySem.W.keepIn X.K (.ref f) = true) (hb : Binds X.K fd ps []) (hla : Len ps.length fa) (ha : DA cl X (e :: es) fa)
    (hg : Gl X x := by rfl) (hdb : (x == ("__debug__" : Str)) = false := by decide) (he : starEach (e :: es) X.env = (false, eval e X.env) :: starEach es X.env := by rfl) (hpl : (backTo pos (starEach es X.env)).any (·.1) = false := by rfl) : DF cl X (.Call (.Name x p) (e :: es) [] pos) (dCallO F fa) := df_call G hr hg hm hk hb hdb he hpl hla ha
end
theorem gIsi1 {e : Expr} {ty : String} {tyS : Str} {p p1 pos : Pos} {f : M Val} (hm : X.mg "isinstance" = none) (hm1 : X.mg tyS = none) (hk : KitOk ty) (hv1 : bootBuiltins tyS = some (.type ty)) (h : DE cl X e f) (hg : Gl X "isinstance" := by rfl) (hg1 : Gl X tyS := by rfl) (hn1 : tyS ≠ "__name__" := by decide) (hd1 : (tyS == ("__debug__" : Str)) = false := by decide)
    (he : starEach [e, .Name tyS p1] X.env = (false, eval e X.env) :: starEach [.Name tyS p1] X.env := by rfl) : DE cl X (.Call (.Name "isinstance" p) [e, .Name tyS p1] [] pos) (bnd f (dIsi [ty])) := de_isi1 hk hg hm hg1 hm1 hv1 hn1 hd1 he h
theorem iS {tg e : Expr} {f : M Val} (he : DE cl X e f) : DI cl X tg e (iSeq f) := di_seq he
theorem iR1 {tg a : Expr} {p pos : Pos} {f : M (List Val)} (hm : X.mg "range" = none) (ha : DA cl X [a] f) (hg : Gl X "range" := by rfl) (hs : starEach [a] X.env = [(false, eval a X.env)] := by rfl) : DI cl X tg (.Call (.Name "range" p) [a] [] pos) (iRange1 f) := di_range1 hg hm hs ha
theorem gN (i : Nat) {x : Str} {pos : Pos} (hN : X.N.Nodup) (h1 : X.N[i]? = some x := by rfl) (h2 : Loc X.env.scope x := by first | exact Or.inl rfl | exact Or.inr rfl) (h3 : X.fn x = true ∨ X.env.scope.names.lookup x = some .local := by first | exact Or.inl rfl | exact Or.inr rfl) : DG cl X (.Name x pos) [i] (put i) := dg_name hN h1 h2 h3
theorem nmC (i : Nat) {x : Str} {pos : Pos} {es : List Expr} {is : List Nat} (h : NmA X es is) (h1 : X.N[i]? = some x := by rfl) (h2 : Loc X.env.scope x := by first | exact Or.inl rfl | exact Or.inr rfl) (h3 : X.fn x = true ∨ X.env.scope.names.lookup x = some .local := by first | exact Or.inl rfl | exact Or.inr rfl) : NmA X (.Name x pos :: es) (i :: is) := .cons h1 h2 h3 h
theorem sSet (i : Nat) {x : Str} {e : Expr} {pos pos' : Pos} {f : M Val} (hN : X.N.Nodup) (he : DE cl X e f) (hi : X.N[i]? = some x := by rfl) (hx : Loc X.env.scope x := by first | exact Or.inl rfl | exact Or.inr rfl) (hs : swapsWith e (some (.Name x pos')) pos.line X.env = pure false := by rfl) (hf : X.fn x = true ∨ X.env.scope.names.lookup x = some .local := by first | exact Or.inl rfl | exact Or.inr rfl) :
    DS cl X (.Assign [.Name x pos'] e pos) (dSet i f) := ds_set hN hi hx hs hf he
theorem sCell (i : Nat) {x : Str} {e : Expr} {pos pos' : Pos} {f : M Own} (hN : X.N.Nodup) (he : DF cl X e f) (hi : X.N[i]? = some x := by rfl) (hx : Loc X.env.scope x := by first | exact Or.inl rfl | exact Or.inr rfl) (hs : swapsWith e (some (.Name x pos')) pos.line X.env = pure false := by rfl) (hf : X.fn x = true ∨ X.env.scope.names.lookup x = some .local := by first | exact Or.inl rfl | exact Or.inr rfl) :
    DS cl X (.Assign [.Name x pos'] e pos) (dCellS i f) := ds_cell hN hi hx hs hf he
theorem sRet {e : Expr} {pos : Pos} {f : M Val} (he : DE cl X e f) : DS cl X (.Return (some e) pos) (dRet f) := ds_ret he
theorem sRetF {e : Expr} {pos : Pos} {f : M Own} (he : DF cl X e f) : DS cl X (.Return (some e) pos) (dRetF f) := ds_retF he
theorem sFor {tg iter : Expr} {body : List Stmt} {pos : Pos} {fi : M Its} {g : Val → M Unit} {fb : M Fl} {vs : List Nat} (hcalm : X.calm = true) (hq : Quiet g) (hi : DI cl X tg iter fi) (hg : DG cl X tg vs g) (hb : DSs cl X body fb) (hsf : ∀ x, foldedSetIterable iter X.env x = pure x := by intro _; rfl) : DS cl X (.For tg iter body [] pos) (dFor fi g fb) := ds_for hcalm hsf hq hi hg hb
theorem sIx {o i e : Expr} {pos pos' : Pos} {fo fi fe : M Val} {k : Nat} (hr : Room k X.A) (ho : DE cl X o fo) (hi : DE cl X i fi) (he : DE cl X e fe) (hs : swapsWith e (some (.Subscript o i pos')) pos.line X.env = pure false := by rfl) (hso : swapsWithSole [.Subscript o i pos'] e pos.line X.env = pure false := by rfl) (hw : swappedStores [.Subscript o i pos'] e X.env = pure none := by rfl)
    (h1 : (assignEach [.Subscript o i pos'] X.env).map (·.2) = [assign (.Subscript o i pos') X.env] := by rfl)
    (hsub : ∀ v, assign (.Subscript o i pos') X.env v = (do
      let ov ← holding [v] (eval o X.env)
      let iv ← holding [v, ov] (eval i X.env)
      standAt pos'
      holding [v, ov, iv] (setItem ov iv v)
      release [v, ov, iv] []) := by intro _; rfl) : DS cl X (.Assign [.Subscript o i pos'] e pos) (dSetIx fo fi fe) := ds_setix hr hs hso hw h1 hsub ho hi he
end
end Lf
namespace Lf
open PySem PySem.Spec L2
section
variable {cl : Cl} {X : Cx}
def one1 (t : T) (k : Val) : M Own := match k with
  | .t x => match keyT x with
    | some j => ret (.dic false [(j, t)])
    | none => stuck
  | _ => stuck
def dDict1 (fk fv : M Val) : M Own := bnd fk fun k => bnd fv fun v => bnd (frz v) fun t => one1 t k
theorem Le.laid {w : Wd} {H : Hp} {p : Addr} {o : HO} (hp : H p = none) : Le w H w (upd H p o) :=
  Le.all (List.prefix_refl _) (Same.refl _) (fun _ h _ => h) (fun a u _ h => by rw [upd_ne (ne_of_none h hp)]; exact h) (fun _ _ _ => rfl)
theorem gDict1 {k v : Expr} {pos : Pos} {fk fv : M Val} (hk : DE cl X k fk) (hv : DE cl X v fv) : DF cl X (.Dict [some k] [v] pos) (dDict1 fk fv) := fun W cw w st σ H Q o st' r h p => by
  refine PE.we (pe_disp (pps_cons peW peW pps_nil) rfl rfl (by simp) (by simp)) ?_
  intro a ha
  obtain ⟨ga, oa⟩ := r.free ha
  have l0 : Le w H w (upd H a (.dK [])) := Le.laid ha
  have r0 : R X.K cl w st σ (upd H a (.dK [])) := r.swap ga oa fun b hb => upd_ne hb
  have p0 := p.after l0
  show WE X k σ (upd H a (.dK [])) _
  rcases bnd_some h with ⟨c, fs, h1, rfl⟩ | ⟨x, st1, h1, h2⟩
  · exact hk W cw w st σ _ _ _ st' r0 h1 p0.exc
  · refine hk W cw w st σ _ _ _ st1 r0 h1 fun w1 H1 l1 r1 x' hx => ?_
    show WE X v σ H1 _
    rcases bnd_some h2 with ⟨c, fs, h3, rfl⟩ | ⟨y, st2, h3, h4⟩
    · exact hv W cw w1 st1 σ _ _ _ st' r1 h3 (p0.after l1).exc
    · refine hv W cw w1 st1 σ _ _ _ st2 r1 h3 fun w2 H2 l2 r2 y' hy => ?_
      rcases bnd_some h4 with ⟨c, fs, h5, rfl⟩ | ⟨t, st3, h5, h6⟩
      · obtain ⟨t, w', z, _⟩ := frz_at r2 hy h5
        cases z
      · obtain ⟨t', w3, z, l3, r3, q3⟩ := frz_at r2 hy h5
        cases z
        have h6 : one1 t x st3 = some (o, st') := h6
        cases x with
        | loc n => cases h6
        | sl i => cases h6
        | t xt =>
          cases ej : keyT xt with
          | none => simp only [one1, ej] at h6; cases h6
          | some j =>
            simp only [one1, ej] at h6
            cases h6
            have l4 := l1.trans (l2.trans l3)
            have e2 : H2 a = some (.dK []) := l4.kp a _ oa upd_same rfl (.inl ga)
            obtain rfl := keyT_at ej (hx.le l2)
            have gk : w3.G a = none := (l4.gk a oa (by rw [upd_same]; exact fun z => nomatch z)).trans ga
            have ok : w3.ω a = none := l4.own a oa (by rw [upd_same]; exact fun z => nomatch z)
            refine ⟨e2, [(j, y')], rfl, by simp, ?_⟩
            have hd : ∀ b, b ≠ a → del H2 a b = H2 b := fun b hb => del_ne hb
            have r5 : R X.K cl w3 st' σ (del H2 a) := r3.swap gk ok hd
            have l5 : Le w H w3 (del H2 a) := (l0.trans l4).swap ha hd
            have q := p w3 (del H2 a) l5 r5 a (.dK [(j, y')]) del_same fun H3 e3 => ⟨_, e3, .cons q3 .nil⟩
            have eq : upd (del H2 a) a (.dK [(j, y')]) = upd H2 a (.dK [(j, y')]) := by
              funext b
              by_cases hb : b = a
              · rw [hb, upd_same, upd_same]
              · rw [upd_ne hb, upd_ne hb, del_ne hb]
            rw [eq] at q
            exact q
end
section
variable {cl : Cl} {X : Cx}
theorem DG.mono {tg : Expr} {vs vs' : List Nat} {g : Val → M Unit} (hs : ∀ i ∈ vs, i ∈ vs') (h : DG cl X tg vs g) : DG cl X tg vs' g := fun W cw w st σ H Q v y u st' pins s r hv hg p I ru =>
  h W cw w st σ H Q v y u st' pins s r hv hg (fun w' σ' H' l r' hl hj => p w' σ' H' l r' hl fun j hn => hj j fun z => hn (hs j z)) I ru
theorem gComp {elt tg iter : Expr} {ifs : List Expr} {scope : Scope} {own : List (Str × Nat)} {pos : Pos} {fi : M Its} {g : Val → M Unit} {ft : M Bool} {fe : M Val} (hN : X.N.Nodup) (ok : BlkOk X.N X.env.scope scope own)
    (hi : DI cl X tg iter fi) (hg : ∀ (s : Shared) (H : Hp) (C : Addr) (c : List (Str × Addr)) (fp : List Addr), DG cl (X.blk s H scope (compEnvC scope c C X.env) fp) tg (own.map (·.2)) g)
    (ht : ∀ (s : Shared) (H : Hp) (C : Addr) (c : List (Str × Addr)) (fp : List Addr), DTs cl (X.blk s H scope (compEnvC scope c C X.env) fp) ifs ft)
    (he : ∀ (s : Shared) (H : Hp) (C : Addr) (c : List (Str × Addr)) (fp : List Addr), DE cl (X.blk s H scope (compEnvC scope c C X.env) fp) elt fe) (hc : X.calm = true := by rfl) (hs : ∀ x, foldedSetIterable iter X.env x = pure x := by intro _; rfl) :
    DF cl X (.ListComp elt [⟨tg, iter, ifs, 0⟩] scope pos) (dComp (own.map (·.2)) fi g ft fe) := df_comp hc hN ok hs hi hg ht he
end
theorem err_ok {P : Program} {w : World} {K : PySem.W.Frag} {mg : Str → Option Value} {base : Heap} {x qual fl b m : Str} {st : Stmt} {f L : Addr} {fd : FuncData} {j : Nat} {p1 p2 p3 p4 p5 p6 p7 p8 p9 p10 : Pos} (F : Fun K x qual st f fd) (S : FnScope [("self" : Str), fl] [("self" : Str), fl] (defScope st))
    (hbody : defBody st = [.Expr (.Call (.Attribute (.Name b p1) "__init__" p2) [.Name "self" p3, .Constant (.str m) j p4] [] p5) p6, .Assign [.Attribute (.Name "self" p7) fl p8] (.Name fl p9) p10])
    (mb : mg b = some (.ref L)) (hb : baseB K L = true) (df : (fl == ("__debug__" : Str)) = false) (cf : (fl == ("__classdict__" : Str)) = false) (hdb : (b == ("__debug__" : Str)) = false)
    (vf : Vis (defScope st) fl) (vs : Vis (defScope st) "self")
    (hX : ∀ (cdv : Value) (A : Around) (outer : List Env) (s : Shared) (H : Hp) (E : XK), let X := cxOf (L2.CX P w) P w K mg base [("self" : Str), fl] qual (defScope st) f cdv A outer s H E
      Gl X b ∧ (∃ pl : Sem Bool, eval (.Call (.Attribute (.Name b p1) "__init__" p2) [.Name "self" p3, .Constant (.str m) j p4] [] p5) X.env = (do
        let ov ← eval (.Name b p1) X.env
        standAt p2.atName
        let (f, first) ← holding [ov] (getMethod ov "__init__" pl)
        callWith p5 f first (backTo p5 (starEach [.Name "self" p3, .Constant (.str m) j p4] X.env)) (backToKw p5 (keywordEach [] X.env)))) ∧
      starEach [.Name "self" p3, .Constant (.str m) j p4] X.env = (false, eval (.Name "self" p3) X.env) :: starEach [.Constant (.str m) j p4] X.env ∧ (backTo p5 (starEach [.Constant (.str m) j p4] X.env)).any (·.1) = false ∧
      starEach [.Constant (.str m) j p4] X.env = (false, eval (.Constant (.str m) j p4) X.env) :: starEach [] X.env ∧
      swapsWith (.Name fl p9) (some (.Attribute (.Name "self" p7) fl p8)) p10.line X.env = pure false) :
    FnOk P w K mg base (L2.CX P w) 1 f fd [("self" : Str), fl] (spErr K fl) := by
  refine F.okX S (fun vs H Q E h => ?_) (fun cdv A outer s H us Q E hr h => ?_)
  · obtain ⟨a, C, y, rfl, _⟩ := h
    rfl
  · obtain ⟨a, C, y, rfl, T, hno, ha, hq⟩ := h
    obtain ⟨k1, ⟨pl, k2⟩, k3, k4, k5, k6⟩ := hX cdv A outer s H E
    refine ⟨_, pssW, ?_⟩
    rw [hbody]
    exact err_body (X := cxOf (L2.CX P w) P w K mg base [("self" : Str), fl] qual (defScope st) f cdv A outer s H E) rfl vf vs df cf k1 mb hb hdb k2 k3 k4 k6
      ⟨_, pa_cons (pe_var (i := 0) rfl vs (by decide) (by decide)) (pa_cons pe_str pa_nil k5) k3, fun _ _ _ => rfl⟩ T hno ha fun dx n1 n2 _ => hq dx n1 n2
end Lf
namespace Lf
open PySem PySem.Spec L2
def Wp {α : Type} (f : M α) (s : DSt) (Q : Out α → DSt → Prop) : Prop := ∃ o s', f s = some (o, s') ∧ Q o s'
def Fw (F : DFun) (args : List Fv) (μ : List Cell) (Q : Out Ret → List Cell → Prop) : Prop := ∃ o m, F args μ = some (o, m) ∧ Q o m
theorem Wp.imp {α : Type} {f : M α} {s : DSt} {Q Q' : Out α → DSt → Prop} (h : Wp f s Q) (k : ∀ o s', Q o s' → Q' o s') : Wp f s Q' := by
  obtain ⟨o, s', e, q⟩ := h
  exact ⟨o, s', e, k o s' q⟩
theorem Fw.imp {F : DFun} {args : List Fv} {μ : List Cell} {Q Q' : Out Ret → List Cell → Prop} (h : Fw F args μ Q) (k : ∀ o s', Q o s' → Q' o s') : Fw F args μ Q' := by
  obtain ⟨o, s', e, q⟩ := h
  exact ⟨o, s', e, k o s' q⟩
/-- the rest of a run -/
def Bk {α β : Type} (k : α → M β) (Q : Out β → DSt → Prop) : Out α → DSt → Prop
  | .ok a, s => Wp (k a) s Q
  | .exc c fs, s => Q (.exc c fs) s
def Sk (g : M Fl) (Q : Out Fl → DSt → Prop) : Out Fl → DSt → Prop
  | .ok .nx, s => Wp g s Q
  | o, s => Q o s
def Ik {α : Type} (f g : M α) (Q : Out α → DSt → Prop) : Out Bool → DSt → Prop
  | .ok b, s => if b = true then Wp f s Q else Wp g s Q
  | .exc c fs, s => Q (.exc c fs) s
@[simp] theorem Bk_ok {α β : Type} (k : α → M β) (Q : Out β → DSt → Prop) (a : α) (s : DSt) : Bk k Q (.ok a) s = Wp (k a) s Q := rfl
@[simp] theorem Bk_exc {α β : Type} (k : α → M β) (Q : Out β → DSt → Prop) (c : Str) (fs : List (Str × T)) (s : DSt) : Bk k Q (.exc c fs) s = Q (.exc c fs) s := rfl
@[simp] theorem Sk_nx (g : M Fl) (Q : Out Fl → DSt → Prop) (s : DSt) : Sk g Q (.ok .nx) s = Wp g s Q := rfl
@[simp] theorem Sk_rt (g : M Fl) (Q : Out Fl → DSt → Prop) (v : Val) (s : DSt) : Sk g Q (.ok (.rt v)) s = Q (.ok (.rt v)) s := rfl
@[simp] theorem Sk_rf (g : M Fl) (Q : Out Fl → DSt → Prop) (v : Own) (s : DSt) : Sk g Q (.ok (.rf v)) s = Q (.ok (.rf v)) s := rfl
@[simp] theorem Sk_bk (g : M Fl) (Q : Out Fl → DSt → Prop) (s : DSt) : Sk g Q (.ok .bk) s = Q (.ok .bk) s := rfl
@[simp] theorem Sk_ct (g : M Fl) (Q : Out Fl → DSt → Prop) (s : DSt) : Sk g Q (.ok .ct) s = Q (.ok .ct) s := rfl
@[simp] theorem Sk_exc (g : M Fl) (Q : Out Fl → DSt → Prop) (c : Str) (fs : List (Str × T)) (s : DSt) : Sk g Q (.exc c fs) s = Q (.exc c fs) s := rfl
@[simp] theorem Ik_ok {α : Type} (f g : M α) (Q : Out α → DSt → Prop) (b : Bool) (s : DSt) : Ik f g Q (.ok b) s = if b = true then Wp f s Q else Wp g s Q := rfl
@[simp] theorem Wp_bnd {α β : Type} (x : M α) (k : α → M β) (s : DSt) (Q : Out β → DSt → Prop) : Wp (bnd x k) s Q = Wp x s (Bk k Q) := by
  apply propext
  constructor
  · rintro ⟨o, s', e, q⟩
    rcases bnd_some e with ⟨c, fs, h1, rfl⟩ | ⟨a, s1, h1, h2⟩
    · exact ⟨_, _, h1, q⟩
    · exact ⟨_, _, h1, o, s', h2, q⟩
  · rintro ⟨o, s1, e, q⟩
    cases o with
    | ok a =>
      obtain ⟨o', s', e', q'⟩ := q
      exact ⟨o', s', by unfold bnd; rw [e]; exact e', q'⟩
    | exc c fs => exact ⟨_, _, by unfold bnd; rw [e], q⟩
@[simp] theorem Wp_ret {α : Type} (a : α) (s : DSt) (Q : Out α → DSt → Prop) : Wp (ret a) s Q = Q (.ok a) s := by
  apply propext
  constructor
  · rintro ⟨o, s', e, q⟩; cases e; exact q
  · exact fun q => ⟨_, _, rfl, q⟩
theorem Wp_some {α : Type} {f : M α} {s s' : DSt} {o : Out α} {Q : Out α → DSt → Prop} (h : f s = some (o, s')) : Wp f s Q = Q o s' := by
  apply propext
  constructor
  · rintro ⟨o, s', e, q⟩; rw [h] at e; cases e; exact q
  · exact fun q => ⟨_, _, h, q⟩
@[simp] theorem Wp_raise {α : Type} (c : Str) (fs : List (Str × T)) (s : DSt) (Q : Out α → DSt → Prop) : Wp (raise (α := α) c fs) s Q = Q (.exc c fs) s := Wp_some rfl
@[simp] theorem Wp_dSeq (f g : M Fl) (s : DSt) (Q : Out Fl → DSt → Prop) : Wp (dSeq f g) s Q = Wp f s (Sk g Q) := by
  unfold dSeq
  rw [Wp_bnd]
  congr 1
  funext o s1
  cases o with
  | exc c fs => rfl
  | ok v => cases v <;> first | rfl | exact Wp_ret _ _ _
@[simp] theorem Wp_dIf {α : Type} (c : M Bool) (f g : M α) (s : DSt) (Q : Out α → DSt → Prop) : Wp (dIf c f g) s Q = Wp c s (Ik f g Q) := by
  unfold dIf
  rw [Wp_bnd]
  congr 1
  funext o s1
  cases o with
  | exc c fs => rfl
  | ok v => cases v <;> rfl
@[simp] theorem Wp_dVar {i : Nat} {x : T} {δ : List (Option Slot)} {μ : List Cell} (h : δ[i]? = some (some (.t x))) (Q : Out Val → DSt → Prop) : Wp (dVar i) ⟨δ, μ⟩ Q = Q (.ok (.t x)) ⟨δ, μ⟩ := Wp_some (by unfold dVar; simp only [h])
@[simp] theorem Wp_dVarL {i n : Nat} {δ : List (Option Slot)} {μ : List Cell} (h : δ[i]? = some (some (.loc n))) (Q : Out Val → DSt → Prop) : Wp (dVar i) ⟨δ, μ⟩ Q = Q (.ok (.loc n)) ⟨δ, μ⟩ := Wp_some (by unfold dVar; simp only [h])
@[simp] theorem Wp_dVarO {i : Nat} {o : Own} {δ : List (Option Slot)} {μ : List Cell} (h : δ[i]? = some (some (.own o))) (Q : Out Val → DSt → Prop) : Wp (dVar i) ⟨δ, μ⟩ Q = Q (.ok (.sl i)) ⟨δ, μ⟩ := Wp_some (by unfold dVar; simp only [h])
@[simp] theorem Wp_dBin (g : Val → Val → M Val) (a b : M Val) (s : DSt) (Q : Out Val → DSt → Prop) : Wp (dBin g a b) s Q = Wp a s (Bk (fun x => bnd b fun y => g x y) Q) := Wp_bnd _ _ _ _
@[simp] theorem Wp_dSet (i : Nat) (f : M Val) (s : DSt) (Q : Out Fl → DSt → Prop) : Wp (dSet i f) s Q = Wp f s (Bk (fun v => bnd (put i v) fun _ => ret .nx) Q) := Wp_bnd _ _ _ _
@[simp] theorem Wp_dOwn (i : Nat) (f : M Own) (s : DSt) (Q : Out Fl → DSt → Prop) : Wp (dOwn i f) s Q = Wp f s (Bk (fun v => bnd (putO i v) fun _ => ret .nx) Q) := Wp_bnd _ _ _ _
@[simp] theorem Wp_dCellS (i : Nat) (f : M Own) (s : DSt) (Q : Out Fl → DSt → Prop) : Wp (dCellS i f) s Q = Wp f s (Bk (fun v => bnd (newCell v) fun n => bnd (put i (.loc n)) fun _ => ret .nx) Q) := Wp_bnd _ _ _ _
@[simp] theorem Wp_dExpr (f : M Val) (s : DSt) (Q : Out Fl → DSt → Prop) : Wp (dExpr f) s Q = Wp f s (Bk (fun _ => ret .nx) Q) := Wp_bnd _ _ _ _
@[simp] theorem Wp_dRet (f : M Val) (s : DSt) (Q : Out Fl → DSt → Prop) : Wp (dRet f) s Q = Wp f s (Bk back Q) := Wp_bnd _ _ _ _
@[simp] theorem Wp_dRetF (f : M Own) (s : DSt) (Q : Out Fl → DSt → Prop) : Wp (dRetF f) s Q = Wp f s (Bk (fun o => ret (.rf o)) Q) := Wp_bnd _ _ _ _
@[simp] theorem Wp_dKeep (f : M Own) (s : DSt) (Q : Out Val → DSt → Prop) : Wp (dKeep f) s Q = Wp f s (Bk keep Q) := Wp_bnd _ _ _ _
@[simp] theorem Wp_dT (f : M Val) (s : DSt) (Q : Out Bool → DSt → Prop) : Wp (dT f) s Q = Wp f s (Bk asBl Q) := Wp_bnd _ _ _ _
@[simp] theorem Wp_dTC (g : Val → Val → M Val) (a b : M Val) (s : DSt) (Q : Out Bool → DSt → Prop) : Wp (dTC g a b) s Q = Wp a s (Bk (fun x => bnd b fun y => g x y) (Bk asBl Q)) := by
  unfold dTC dBin
  rw [Wp_bnd, Wp_bnd]
@[simp] theorem Wp_dCons (f : M Val) (g : M (List Val)) (s : DSt) (Q : Out (List Val) → DSt → Prop) : Wp (dCons f g) s Q = Wp f s (Bk (fun v => bnd g fun vs => ret (v :: vs)) Q) := Wp_bnd _ _ _ _
@[simp] theorem Wp_dLst (f : M (List Val)) (s : DSt) (Q : Out Own → DSt → Prop) : Wp (dLst f) s Q = Wp f s (Bk (fun vs => bnd (frzs vs) fun ts => if ts.length ≤ sizeLine then ret (.lst ts) else stuck) Q) := Wp_bnd _ _ _ _
@[simp] theorem Wp_dTup (f : M (List Val)) (s : DSt) (Q : Out Val → DSt → Prop) : Wp (dTup f) s Q = Wp f s (Bk (fun vs => bnd (frzs vs) fun ts => if ts.length ≤ sizeLine then ret (.t (.tup ts)) else stuck) Q) := Wp_bnd _ _ _ _
@[simp] theorem Wp_dSetIx (fo fi fe : M Val) (s : DSt) (Q : Out Fl → DSt → Prop) : Wp (dSetIx fo fi fe) s Q = Wp fe s (Bk (fun v => bnd fo fun a => bnd fi fun j => bnd (setIx a j v) fun _ => ret .nx) Q) := Wp_bnd _ _ _ _
@[simp] theorem Wp_dAt (cs : List Str) (f : Str) (fe : M Val) (s : DSt) (Q : Out Val → DSt → Prop) : Wp (dAt cs f fe) s Q = Wp fe s (Bk (dAttr cs f) Q) := Wp_bnd _ _ _ _
@[simp] theorem Wp_asBl (b : Bool) (s : DSt) (Q : Out Bool → DSt → Prop) : Wp (asBl (.t (.bl b))) s Q = Q (.ok b) s := Wp_ret _ _ _
@[simp] theorem Wp_dInt (c : Int → Int → Bool) (g : Int → Int → T) (i j : Int) (s : DSt) (Q : Out Val → DSt → Prop) : Wp (dInt c g (.t (.int i)) (.t (.int j))) s Q = (c i j = true ∧ Q (.ok (.t (g i j))) s) := by
  cases h : c i j with
  | true => exact (Wp_some (o := .ok (.t (g i j))) (s' := s) (by simp [dInt, h, ret])).trans (by simp)
  | false =>
    apply propext
    constructor
    · rintro ⟨o, s', e, q⟩
      simp [dInt, h, stuck] at e
    · rintro ⟨z, _⟩; cases z
@[simp] theorem Wp_dAddI (i j : Int) (s : DSt) (Q : Out Val → DSt → Prop) : Wp (dAdd (.t (.int i)) (.t (.int j))) s Q = Q (.ok (.t (.int (i + j)))) s := Wp_some rfl
theorem Wp_dMulI {i j : Int} (h : (decide (-(2 ^ 64) < i) && decide (i < 2 ^ 64)) || (decide (-(2 ^ 64) < j) && decide (j < 2 ^ 64))) (s : DSt) (Q : Out Val → DSt → Prop) : Wp (dMul (.t (.int i)) (.t (.int j))) s Q = Q (.ok (.t (.int (i * j)))) s := Wp_some (by show (if _ then _ else _) = _; exact if_pos h)
@[simp] theorem Wp_dInt1 (i : Int) (s : DSt) (Q : Out Val → DSt → Prop) : Wp (dInt1 [.t (.int i)]) s Q = Q (.ok (.t (.int i))) s := Wp_some rfl
@[simp] theorem Wp_backT (x : T) (s : DSt) (Q : Out Fl → DSt → Prop) : Wp (back (.t x)) s Q = Q (.ok (.rt (.t x))) s := Wp_ret _ _ _
@[simp] theorem Wp_putT (i : Nat) (x : T) (δ : List (Option Slot)) (μ : List Cell) (Q : Out Unit → DSt → Prop) : Wp (put i (.t x)) ⟨δ, μ⟩ Q = Q (.ok ()) ⟨δ.set i (some (.t x)), μ⟩ := Wp_some rfl
@[simp] theorem Wp_putL (i n : Nat) (δ : List (Option Slot)) (μ : List Cell) (Q : Out Unit → DSt → Prop) : Wp (put i (.loc n)) ⟨δ, μ⟩ Q = Q (.ok ()) ⟨δ.set i (some (.loc n)), μ⟩ := Wp_some rfl
@[simp] theorem Wp_putO (i : Nat) (o : Own) (δ : List (Option Slot)) (μ : List Cell) (Q : Out Unit → DSt → Prop) : Wp (putO i o) ⟨δ, μ⟩ Q = Q (.ok ()) ⟨δ.set i (some (.own o)), μ⟩ := Wp_some rfl
/-- the end of a def -/
def Rk (μ : List Cell) (Q : Out Ret → List Cell → Prop) : Out Fl → DSt → Prop
  | .ok .nx, s => ∃ m, trunc μ s.μ = some m ∧ Q (.ok (.val (.t .non))) m
  | .ok (.rt (.t x)), s => ∃ m, trunc μ s.μ = some m ∧ Q (.ok (.val (.t x))) m
  | .ok (.rt (.loc k)), s => s.μ.length = μ.length ∧ Q (.ok (.val (.loc k))) s.μ
  | .ok (.rf o), s => ∃ m, trunc μ s.μ = some m ∧ Q (.ok (.own o)) m
  | .exc c fs, s => ∃ m, trunc μ s.μ = some m ∧ Q (.exc c fs) m
  | _, _ => False
theorem Fw_run {n : Nat} {body : M Fl} {args : List Fv} {μ : List Cell} {Q : Out Ret → List Cell → Prop} (h : Wp body ⟨startD n args, μ⟩ (Rk μ Q)) : Fw (runD n body) args μ Q := by
  obtain ⟨o, s, e, q⟩ := h
  unfold Fw runD
  rw [e]
  cases o with
  | exc c fs => obtain ⟨m, e1, q⟩ := q; exact ⟨_, m, by simp only [e1, Option.map_some], q⟩
  | ok v => cases v with
    | nx => obtain ⟨m, e1, q⟩ := q; exact ⟨_, m, by simp only [e1, Option.map_some], q⟩
    | rf v => obtain ⟨m, e1, q⟩ := q; exact ⟨_, m, by simp only [e1, Option.map_some], q⟩
    | bk => exact q.elim
    | ct => exact q.elim
    | rt v => cases v with
      | t x => obtain ⟨m, e1, q⟩ := q; exact ⟨_, m, by simp only [e1, Option.map_some], q⟩
      | loc k => obtain ⟨e1, q⟩ := q; exact ⟨_, s.μ, by simp only [if_pos e1], q⟩
      | sl i => exact q.elim
def Ck (s : DSt) (Q : Out Ret → DSt → Prop) : Out Ret → List Cell → Prop := fun o m => Q o { s with μ := m }
@[simp] theorem Wp_callF (F : DFun) (args : List Fv) (s : DSt) (Q : Out Ret → DSt → Prop) : Wp (callF F args) s Q = Fw F args s.μ (Ck s Q) := by
  apply propext
  constructor
  · rintro ⟨o, s', e, q⟩
    unfold callF at e
    split at e
    · rename_i v m e1; cases e; exact ⟨_, _, e1, q⟩
    · rename_i v fs m e1; cases e; exact ⟨_, _, e1, q⟩
    · cases e
  · rintro ⟨o, m, e, q⟩
    cases o with
    | ok v => exact ⟨.ok v, { s with μ := m }, by unfold callF; rw [e], q⟩
    | exc c fs => exact ⟨.exc c fs, { s with μ := m }, by unfold callF; rw [e], q⟩
@[simp] theorem Wp_dCall (F : DFun) (fa : M (List Val)) (s : DSt) (Q : Out Ret → DSt → Prop) : Wp (dCall F fa) s Q = Wp fa s (Bk (fun vs => bnd (asFvs vs) fun fs => callF F fs) Q) := Wp_bnd _ _ _ _
@[simp] theorem Wp_dCallV (F : DFun) (fa : M (List Val)) (s : DSt) (Q : Out Val → DSt → Prop) : Wp (dCallV F fa) s Q = Wp fa s (Bk (fun vs => bnd (asFvs vs) fun fs => callF F fs) (Bk retV Q)) := by
  unfold dCallV
  rw [Wp_bnd, Wp_dCall]
@[simp] theorem Wp_dCallO (F : DFun) (fa : M (List Val)) (s : DSt) (Q : Out Own → DSt → Prop) : Wp (dCallO F fa) s Q = Wp fa s (Bk (fun vs => bnd (asFvs vs) fun fs => callF F fs) (Bk retO Q)) := by
  unfold dCallO
  rw [Wp_bnd, Wp_dCall]
@[simp] theorem Wp_asFvs0 (s : DSt) (Q : Out (List Fv) → DSt → Prop) : Wp (asFvs []) s Q = Q (.ok []) s := Wp_ret _ _ _
@[simp] theorem Wp_asFvsT (x : T) (vs : List Val) (s : DSt) (Q : Out (List Fv) → DSt → Prop) : Wp (asFvs (.t x :: vs)) s Q = Wp (asFvs vs) s (Bk (fun fs => ret (.t x :: fs)) Q) := by
  show Wp (bnd (ret (Fv.t x)) fun f => bnd (asFvs vs) fun fs => ret (f :: fs)) s Q = _
  rw [Wp_bnd, Wp_ret, Bk_ok, Wp_bnd]
@[simp] theorem Wp_asFvsL (n : Nat) (vs : List Val) (s : DSt) (Q : Out (List Fv) → DSt → Prop) : Wp (asFvs (.loc n :: vs)) s Q = Wp (asFvs vs) s (Bk (fun fs => ret (.loc n :: fs)) Q) := by
  show Wp (bnd (ret (Fv.loc n)) fun f => bnd (asFvs vs) fun fs => ret (f :: fs)) s Q = _
  rw [Wp_bnd, Wp_ret, Bk_ok, Wp_bnd]
@[simp] theorem Wp_retVv (v : Fv) (s : DSt) (Q : Out Val → DSt → Prop) : Wp (retV (.val v)) s Q = Q (.ok v.val) s := Wp_ret _ _ _
@[simp] theorem Wp_retOo (v : Own) (s : DSt) (Q : Out Own → DSt → Prop) : Wp (retO (.own v)) s Q = Q (.ok v) s := Wp_ret _ _ _
/-- what the body of a for must come to: Nx of the state ahead of the next turn -/
def Lk (Nx : DSt → Prop) (Q : Out Fl → DSt → Prop) : Out Fl → DSt → Prop
  | .ok .nx, s => Nx s
  | .ok .ct, s => Nx s
  | .ok .bk, s => Q (.ok .nx) s
  | o, s => Q o s
theorem Wp_forNil {g : Val → M Unit} {b : M Fl} {chk : DSt → Bool} {s : DSt} {Q : Out Fl → DSt → Prop} (hc : chk s = true) (h : Q (.ok .nx) s) : Wp (forL g b chk []) s Q := ⟨_, s, by simp [forL, hc], h⟩
theorem Wp_forCons {g : Val → M Unit} {b : M Fl} {chk : DSt → Bool} {v : Val} {vs : List Val} {s : DSt} {Q : Out Fl → DSt → Prop} (hc : chk s = true) (h : Wp (g v) s (Bk (fun _ => b) (Lk (fun s' => Wp (forL g b chk vs) s' Q) Q))) : Wp (forL g b chk (v :: vs)) s Q := by
  have e : Wp (forL g b chk (v :: vs)) s Q = Wp (bnd (g v) fun _ => bnd b fun fl => match fl with | .nx => forL g b chk vs | .ct => forL g b chk vs | .bk => ret .nx | fl => ret fl) s Q := by
    have z : forL g b chk (v :: vs) s = bnd (g v) (fun _ => bnd b fun fl => match fl with | .nx => forL g b chk vs | .ct => forL g b chk vs | .bk => ret .nx | fl => ret fl) s := by
      rw [forL]
      exact if_pos hc
    unfold Wp
    rw [z]
  rw [e, Wp_bnd]
  refine h.imp fun o s1 q => ?_
  cases o with
  | exc c fs => exact q
  | ok u =>
    have q : Wp b s1 _ := q
    show Wp (bnd b _) s1 Q
    rw [Wp_bnd]
    refine q.imp fun o s2 q => ?_
    cases o with
    | exc c fs => exact q
    | ok fl => cases fl with
      | nx => exact q
      | ct => exact q
      | bk => show Wp (ret _) _ _; rw [Wp_ret]; exact q
      | rt v => show Wp (ret _) _ _; rw [Wp_ret]; exact q
      | rf v => show Wp (ret _) _ _; rw [Wp_ret]; exact q
/-- the rule of a for by an invariant over the items that are left -/
theorem Wp_forInv (Iv : List Val → DSt → Prop) {g : Val → M Unit} {b : M Fl} {chk : DSt → Bool} {Q : Out Fl → DSt → Prop} (hc : ∀ vs s, Iv vs s → chk s = true) (h0 : ∀ s, Iv [] s → Q (.ok .nx) s)
    (h1 : ∀ v vs s, Iv (v :: vs) s → Wp (g v) s (Bk (fun _ => b) (Lk (Iv vs) Q))) : ∀ vs s, Iv vs s → Wp (forL g b chk vs) s Q
  | [], s, h => Wp_forNil (hc _ _ h) (h0 _ h)
  | v :: vs, s, h => by
    refine Wp_forCons (hc _ _ h) ((h1 v vs s h).imp fun o s1 q => ?_)
    cases o with
    | exc c fs => exact q
    | ok u =>
      refine Wp.imp (f := b) q fun o s2 q => ?_
      cases o with
      | exc c fs => exact q
      | ok fl => cases fl with
        | nx => exact Wp_forInv Iv hc h0 h1 vs s2 q
        | ct => exact Wp_forInv Iv hc h0 h1 vs s2 q
        | bk => exact q
        | rt v => exact q
        | rf v => exact q
@[simp] theorem Wp_dFor (fi : M Its) (g : Val → M Unit) (b : M Fl) (s : DSt) (Q : Out Fl → DSt → Prop) : Wp (dFor fi g b) s Q = Wp fi s (Bk (fun I => forL g b I.chk I.items) Q) := Wp_bnd _ _ _ _
/-- a pool of draws -/
abbrev poolC (a b c : Int) : Cell := .lst [.t (.int a), .t (.int b), .t (.int c)]
end Lf
namespace Lf
open PySem PySem.Spec L2
@[simp] theorem Fv_val_t (x : T) : (Fv.t x).val = .t x := rfl
@[simp] theorem Fv_val_l (n : Nat) : (Fv.loc n).val = .loc n := rfl
@[simp] theorem Fv_slot_t (x : T) : (Fv.t x).slot = .t x := rfl
@[simp] theorem Fv_slot_l (n : Nat) : (Fv.loc n).slot = .loc n := rfl
theorem stuckF {α : Type} {s : DSt} {Q : Out α → DSt → Prop} : Wp (stuck (α := α)) s Q = False := by
  apply propext
  constructor
  · rintro ⟨o, s', e, _⟩; cases e
  · exact fun z => z.elim
@[simp] theorem Wp_ite {α : Type} (c : Prop) [Decidable c] (f g : M α) (s : DSt) (Q : Out α → DSt → Prop) : Wp (if c then f else g) s Q = if c then Wp f s Q else Wp g s Q := by
  by_cases h : c
  · rw [if_pos h, if_pos h]
  · rw [if_neg h, if_neg h]
theorem Wp_need {α : Type} (c : Prop) [Decidable c] (f : M α) (s : DSt) (Q : Out α → DSt → Prop) : (if c then Wp f s Q else Wp stuck s Q) = (c ∧ Wp f s Q) := by
  rw [stuckF]
  apply propext
  by_cases h : c
  · simp [h]
  · simp [h]
@[simp] theorem Wp_needR {α : Type} (c : Prop) [Decidable c] (a : α) (s : DSt) (Q : Out α → DSt → Prop) : Wp (if c then ret a else stuck) s Q = (c ∧ Q (.ok a) s) := by
  rw [Wp_ite, Wp_need, Wp_ret]
@[simp] theorem Wp_frzs0 (s : DSt) (Q : Out (List T) → DSt → Prop) : Wp (frzs []) s Q = Q (.ok []) s := Wp_ret _ _ _
@[simp] theorem Wp_frzsT (x : T) (vs : List Val) (s : DSt) (Q : Out (List T) → DSt → Prop) : Wp (frzs (.t x :: vs)) s Q = Wp (frzs vs) s (Bk (fun ts => ret (x :: ts)) Q) := by
  show Wp (bnd (ret x) fun t => bnd (frzs vs) fun ts => ret (t :: ts)) s Q = _
  rw [Wp_bnd, Wp_ret, Bk_ok, Wp_bnd]
@[simp] theorem Wp_frzT (x : T) (s : DSt) (Q : Out T → DSt → Prop) : Wp (frz (.t x)) s Q = Q (.ok x) s := Wp_ret _ _ _
@[simp] theorem Wp_keepL (xs : List T) (s : DSt) (Q : Out Val → DSt → Prop) : Wp (keep (.lst xs)) s Q = Q (.ok (.t (.lst xs))) s := Wp_ret _ _ _
@[simp] theorem Wp_keepD (xs : List (Key × T)) (s : DSt) (Q : Out Val → DSt → Prop) : Wp (keep (.dic false xs)) s Q = Q (.ok (.t (.dic xs))) s := Wp_ret _ _ _
theorem plains_t : ∀ xs : List T, plains (xs.map Fv.t) = some xs
  | [] => rfl
  | x :: r => by simp [plains, plains_t r]
@[simp] theorem Wp_lenL (xs : List T) (s : DSt) (Q : Out Val → DSt → Prop) : Wp (dLen [.t (.lst xs)]) s Q = Q (.ok (.t (.int xs.length))) s := Wp_some (by simp [dLen, seqOf])
@[simp] theorem Wp_lenF (xs : List T) (s : DSt) (Q : Out Val → DSt → Prop) : Wp (dLen [.t (.fro xs)]) s Q = Q (.ok (.t (.int xs.length))) s := Wp_some (by simp [dLen, seqOf])
@[simp] theorem Wp_lenT (xs : List T) (s : DSt) (Q : Out Val → DSt → Prop) : Wp (dLen [.t (.tup xs)]) s Q = Q (.ok (.t (.int xs.length))) s := Wp_some (by simp [dLen, seqOf])
@[simp] theorem Wp_lenO {i : Nat} {xs : List T} {δ : List (Option Slot)} {μ : List Cell} (h : δ[i]? = some (some (.own (.lst xs)))) (Q : Out Val → DSt → Prop) : Wp (dLen [.sl i]) ⟨δ, μ⟩ Q = Q (.ok (.t (.int xs.length))) ⟨δ, μ⟩ := Wp_some (by simp [dLen, seqOf, h])
@[simp] theorem Wp_listL (xs : List T) (s : DSt) (Q : Out Own → DSt → Prop) : Wp (dList [.t (.lst xs)]) s Q = Q (.ok (.lst xs)) s := Wp_some (by simp [dList, seqOf, plains_t])
@[simp] theorem Wp_listT (xs : List T) (s : DSt) (Q : Out Own → DSt → Prop) : Wp (dList [.t (.tup xs)]) s Q = Q (.ok (.lst xs)) s := Wp_some (by simp [dList, seqOf, plains_t])
theorem Wp_ixL {δ : List (Option Slot)} {μ : List Cell} {n : Nat} {xs : List Fv} (h : μ[n]? = some (.lst xs)) {i : Int} {f : Fv} (hi : atI xs i = some f) (Q : Out Val → DSt → Prop) : Wp (dIx (.loc n) (.t (.int i))) ⟨δ, μ⟩ Q = Q (.ok f.val) ⟨δ, μ⟩ := Wp_some (by simp [dIx, dcK, seqOf, h, hi])
theorem atI_nat {α : Type} {xs : List α} {i : Nat} {x : α} (h : xs[i]? = some x) : atI xs (i : Int) = some x := by
  have hl : i < xs.length := (List.getElem?_eq_some_iff.mp h).1
  have : (i : Int) < (xs.length : Int) := by exact_mod_cast hl
  simp [atI, ixN, this, h]
theorem atI_lst {xs : List T} {i : Int} {x : T} (h : atI xs i = some x) : atI (xs.map Fv.t) i = some (Fv.t x) := by
  unfold atI at h ⊢
  rw [List.length_map]
  cases e : ixN xs.length i with
  | none => rw [e] at h; cases h
  | some j =>
    rw [e] at h
    have h : xs[j]? = some x := h
    simp [h]
theorem Wp_ixT {xs : List T} {i : Int} {x : T} (h : atI xs i = some x) (s : DSt) (Q : Out Val → DSt → Prop) : Wp (dIx (.t (.lst xs)) (.t (.int i))) s Q = Q (.ok (.t x)) s := Wp_some (by simp [dIx, dcK, seqOf, atI_lst h])
theorem Wp_ixF {xs : List T} {i : Int} {x : T} (h : atI xs i = some x) (s : DSt) (Q : Out Val → DSt → Prop) : Wp (dIx (.t (.fro xs)) (.t (.int i))) s Q = Q (.ok (.t x)) s := Wp_some (by simp [dIx, dcK, seqOf, atI_lst h])
theorem Wp_setIxL {δ : List (Option Slot)} {μ : List Cell} {n : Nat} {xs : List Fv} (h : μ[n]? = some (.lst xs)) {i : Int} {j : Nat} (hi : ixN xs.length i = some j) (x : T) (Q : Out Unit → DSt → Prop) : Wp (setIx (.loc n) (.t (.int i)) (.t x)) ⟨δ, μ⟩ Q = Q (.ok ()) ⟨δ, μ.set n (.lst (xs.set j (.t x)))⟩ := Wp_some (by
  simp [setIx, asFv, bnd, ret, dcK, getL, setL, h, hi])
@[simp] theorem Wp_appO {i : Nat} {xs : List T} {δ : List (Option Slot)} {μ : List Cell} (h : δ[i]? = some (some (.own (.lst xs)))) (x : T) (Q : Out Val → DSt → Prop) : Wp (mAppend (.sl i) [.t x]) ⟨δ, μ⟩ Q = (xs.length < sizeLine ∧ Q (.ok (.t .non)) ⟨δ.set i (some (.own (.lst (xs ++ [x])))), μ⟩) := by
  by_cases hl : xs.length < sizeLine
  · refine (Wp_some (o := .ok (.t .non)) (s' := ⟨δ.set i (some (.own (.lst (xs ++ [x])))), μ⟩) ?_).trans (by simp [hl])
    have : plains (xs.map Fv.t ++ [Fv.t x]) = some (xs ++ [x]) := by
      have := plains_t (xs ++ [x])
      simpa using this
    simp [mAppend, asFv, bnd, ret, getL, setL, h, hl, this]
  · apply propext
    constructor
    · rintro ⟨o, s', e, _⟩
      simp [mAppend, asFv, bnd, ret, getL, h, hl] at e
    · rintro ⟨z, _⟩; exact absurd z hl
/-- o.m(..), o a list -/
def methK (fa : M (List Val)) (g : Val → List Val → M Val) (v : Val) : M Val := fun s => if isLst s v then bnd fa (fun vs => g v vs) s else none
@[simp] theorem Wp_dMeth (fo : M Val) (fa : M (List Val)) (g : Val → List Val → M Val) (s : DSt) (Q : Out Val → DSt → Prop) : Wp (dMeth fo fa g) s Q = Wp fo s (Bk (methK fa g) Q) := Wp_bnd _ _ _ _
@[simp] theorem Wp_methK {fa : M (List Val)} {g : Val → List Val → M Val} {v : Val} {s : DSt} (h : isLst s v = true) (Q : Out Val → DSt → Prop) : Wp (methK fa g v) s Q = Wp fa s (Bk (fun vs => g v vs) Q) := by
  rw [← Wp_bnd]
  unfold Wp methK
  rw [if_pos h]
@[simp] theorem isLst_own {i : Nat} {xs : List T} {δ : List (Option Slot)} {μ : List Cell} (h : δ[i]? = some (some (.own (.lst xs)))) : isLst ⟨δ, μ⟩ (.sl i) = true := by simp [isLst, seqOf, h]
@[simp] theorem isLst_loc {n : Nat} {xs : List Fv} {δ : List (Option Slot)} {μ : List Cell} (h : μ[n]? = some (.lst xs)) : isLst ⟨δ, μ⟩ (.loc n) = true := by simp [isLst, seqOf, h]
@[simp] theorem Wp_methO {fa : M (List Val)} {g : Val → List Val → M Val} {i : Nat} {xs : List T} {δ : List (Option Slot)} {μ : List Cell} (h : δ[i]? = some (some (.own (.lst xs)))) (Q : Out Val → DSt → Prop) : Wp (methK fa g (.sl i)) ⟨δ, μ⟩ Q = Wp fa ⟨δ, μ⟩ (Bk (fun vs => g (.sl i) vs) Q) := Wp_methK (isLst_own h) Q
@[simp] theorem Lk_nx (Nx : DSt → Prop) (Q : Out Fl → DSt → Prop) (s : DSt) : Lk Nx Q (.ok .nx) s = Nx s := rfl
@[simp] theorem Lk_ct (Nx : DSt → Prop) (Q : Out Fl → DSt → Prop) (s : DSt) : Lk Nx Q (.ok .ct) s = Nx s := rfl
@[simp] theorem Lk_bk (Nx : DSt → Prop) (Q : Out Fl → DSt → Prop) (s : DSt) : Lk Nx Q (.ok .bk) s = Q (.ok .nx) s := rfl
@[simp] theorem Lk_rt (Nx : DSt → Prop) (Q : Out Fl → DSt → Prop) (v : Val) (s : DSt) : Lk Nx Q (.ok (.rt v)) s = Q (.ok (.rt v)) s := rfl
@[simp] theorem Lk_rf (Nx : DSt → Prop) (Q : Out Fl → DSt → Prop) (v : Own) (s : DSt) : Lk Nx Q (.ok (.rf v)) s = Q (.ok (.rf v)) s := rfl
@[simp] theorem Lk_exc (Nx : DSt → Prop) (Q : Out Fl → DSt → Prop) (c : Str) (fs : List (Str × T)) (s : DSt) : Lk Nx Q (.exc c fs) s = Q (.exc c fs) s := rfl
@[simp] theorem rangeV_len (lo : Int) (n : Nat) : (rangeV lo n).length = n := by simp [rangeV]
/-- a piece of a list -/
def cutK (v : Val) (lo hi : Option Int) : M Own := fun s => match lstOf s v with
  | some ts => some (.ok (.lst (cutT ts lo hi)), s)
  | none => none
@[simp] theorem Wp_dCut (fa : M Val) (fl fh : M (Option Int)) (s : DSt) (Q : Out Own → DSt → Prop) : Wp (dCut fa fl fh) s Q = Wp fa s (Bk (fun v => bnd fl fun lo => bnd fh fun hi => cutK v lo hi) Q) := Wp_bnd _ _ _ _
@[simp] theorem Wp_cutL (xs : List T) (lo hi : Option Int) (s : DSt) (Q : Out Own → DSt → Prop) : Wp (cutK (.t (.lst xs)) lo hi) s Q = Q (.ok (.lst (cutT xs lo hi))) s := Wp_some rfl
def pIntK (v : Val) : M (Option Int) := match v with | .t (.int i) => ret (some i) | _ => stuck
@[simp] theorem Wp_pInt (f : M Val) (s : DSt) (Q : Out (Option Int) → DSt → Prop) : Wp (pInt f) s Q = Wp f s (Bk pIntK Q) := Wp_bnd _ _ _ _
@[simp] theorem Wp_pIntK (i : Int) (s : DSt) (Q : Out (Option Int) → DSt → Prop) : Wp (pIntK (.t (.int i))) s Q = Q (.ok (some i)) s := Wp_ret _ _ _
@[simp] theorem cutT_take {α : Type} (xs : List α) (i : Nat) : cutT xs none (some (i : Int)) = xs.take i := by
  unfold cutT
  rw [HT.sIx_none, HT.sIx_nat, List.drop_zero, Nat.sub_zero]
  rw [List.take_eq_take_iff]
  omega
@[simp] theorem cutT_drop {α : Type} (xs : List α) (i : Nat) : cutT xs (some (i : Int)) none = xs.drop i := by
  unfold cutT
  rw [HT.sIx_none, HT.sIx_nat]
  rcases Nat.le_total i xs.length with h | h
  · rw [Nat.min_eq_left h, ← List.length_drop, List.take_length]
  · rw [Nat.min_eq_right h, List.drop_eq_nil_of_le h, List.drop_eq_nil_of_le (Nat.le_refl _)]
    simp
@[simp] theorem Wp_addL (xs ys : List T) (s : DSt) (Q : Out Val → DSt → Prop) : Wp (dAdd (.t (.lst xs)) (.t (.lst ys))) s Q = (xs.length + ys.length ≤ sizeLine ∧ Q (.ok (.t (.lst (xs ++ ys)))) s) := by
  by_cases h : xs.length + ys.length ≤ sizeLine
  · exact (Wp_some (o := .ok (.t (.lst (xs ++ ys)))) (s' := s) (by simp [dAdd, lstOf, h])).trans (by simp [h])
  · apply propext
    constructor
    · rintro ⟨o, s', e, _⟩; simp [dAdd, lstOf, h] at e
    · rintro ⟨z, _⟩; exact absurd z h
@[simp] theorem Wp_addS (x y : Str) (s : DSt) (Q : Out Val → DSt → Prop) : Wp (dAdd (.t (.str x)) (.t (.str y))) s Q = (x.length + y.length ≤ sizeLine ∧ Q (.ok (.t (.str (x ++ y)))) s) := by
  by_cases h : x.length + y.length ≤ sizeLine
  · exact (Wp_some (o := .ok (.t (.str (x ++ y)))) (s' := s) (by simp [dAdd, h])).trans (by simp [h])
  · apply propext
    constructor
    · rintro ⟨o, s', e, _⟩; simp [dAdd, h] at e
    · rintro ⟨z, _⟩; exact absurd z h
def rngK (k : Nat) (vs : List Val) : M Its := if vs.length = k then mkRange vs else stuck
@[simp] theorem Wp_iRange1 (f : M (List Val)) (s : DSt) (Q : Out Its → DSt → Prop) : Wp (iRange1 f) s Q = Wp f s (Bk (rngK 1) Q) := Wp_bnd _ _ _ _
@[simp] theorem Wp_iRange2 (f : M (List Val)) (s : DSt) (Q : Out Its → DSt → Prop) : Wp (iRange2 f) s Q = Wp f s (Bk (rngK 2) Q) := Wp_bnd _ _ _ _
theorem Wp_rng1 {j : Int} (h0 : -(2 ^ 62) ≤ j) (h1 : j < 2 ^ 62) (s : DSt) (Q : Out Its → DSt → Prop) : Wp (rngK 1 [.t (.int j)]) s Q = Q (.ok ⟨rangeV 0 j.toNat, fun _ => true⟩) s := Wp_some (by
  have h0' : (-4611686018427387904 : Int) ≤ j := h0
  have h1' : j < (4611686018427387904 : Int) := h1
  simp [rngK, mkRange, h0', h1', ret])
@[simp] theorem Wp_iSeq (f : M Val) (s : DSt) (Q : Out Its → DSt → Prop) : Wp (iSeq f) s Q = Wp f s (Bk walkOf Q) := Wp_bnd _ _ _ _
@[simp] theorem Wp_walkL (xs : List T) (s : DSt) (Q : Out Its → DSt → Prop) : Wp (walkOf (.t (.lst xs))) s Q = Q (.ok ⟨xs.map Val.t, fun _ => true⟩) s := Wp_some (by
  show bnd (lend (.t (.lst xs))) walkSeq s = _
  simp [lend, bnd, ret, walkSeq, seqOf, still])
@[simp] theorem Wp_walkT (xs : List T) (s : DSt) (Q : Out Its → DSt → Prop) : Wp (walkOf (.t (.tup xs))) s Q = Q (.ok ⟨xs.map Val.t, fun _ => true⟩) s := Wp_some (by
  show bnd (lend (.t (.tup xs))) walkSeq s = _
  simp [lend, bnd, ret, walkSeq, seqOf, still])
@[simp] theorem Wp_walkS (x : Str) (s : DSt) (Q : Out Its → DSt → Prop) : Wp (walkOf (.t (.str x))) s Q = Q (.ok ⟨signs x, fun _ => true⟩) s := Wp_some rfl
@[simp] theorem Ck_eq (δ : List (Option Slot)) (μ : List Cell) (Q : Out Ret → DSt → Prop) (o : Out Ret) (m : List Cell) : Ck ⟨δ, μ⟩ Q o m = Q o ⟨δ, m⟩ := rfl
theorem trunc_len {μ m : List Cell} (h : m.length = μ.length) : trunc μ m = some m := by
  unfold trunc trunc0
  rw [if_pos h]
  rfl
theorem trunc_old {μ m : List Cell} (h : m.take μ.length = μ) : trunc μ m = some μ := by
  unfold trunc trunc0
  by_cases h1 : m.length = μ.length
  · rw [if_pos h1]
    rw [← h1, List.take_length] at h
    rw [h]
    rfl
  · rw [if_neg h1, h, if_pos (Cell.sms_refl μ)]
    rfl
@[simp] theorem trunc_set (μ : List Cell) (n : Nat) (c : Cell) : trunc μ (μ.set n c) = some (μ.set n c) := trunc_len (by simp)
@[simp] theorem trunc_same (μ : List Cell) : trunc μ μ = some μ := trunc_len rfl
@[simp] theorem Rk_nx (μ : List Cell) (Q : Out Ret → List Cell → Prop) (s : DSt) : Rk μ Q (.ok .nx) s = ∃ m, trunc μ s.μ = some m ∧ Q (.ok (.val (.t .non))) m := rfl
@[simp] theorem Rk_rt (μ : List Cell) (Q : Out Ret → List Cell → Prop) (s : DSt) (x : T) : Rk μ Q (.ok (.rt (.t x))) s = ∃ m, trunc μ s.μ = some m ∧ Q (.ok (.val (.t x))) m := rfl
@[simp] theorem Rk_rf (μ : List Cell) (Q : Out Ret → List Cell → Prop) (s : DSt) (x : Own) : Rk μ Q (.ok (.rf x)) s = ∃ m, trunc μ s.μ = some m ∧ Q (.ok (.own x)) m := rfl
@[simp] theorem Rk_exc (μ : List Cell) (Q : Out Ret → List Cell → Prop) (s : DSt) (c : Str) (fs : List (Str × T)) : Rk μ Q (.exc c fs) s = ∃ m, trunc μ s.μ = some m ∧ Q (.exc c fs) m := rfl
@[simp] theorem Wp_backO {i : Nat} {o : Own} {δ : List (Option Slot)} {μ : List Cell} (h : δ[i]? = some (some (.own o))) (Q : Out Fl → DSt → Prop) : Wp (back (.sl i)) ⟨δ, μ⟩ Q = Q (.ok (.rt (.t o.tree))) ⟨δ.set i (some (.t o.tree)), μ⟩ := Wp_some (by simp [back, bnd, frz, h, ret])
def compK (vs : List Nat) (g : Val → M Unit) (t : M Bool) (e : M Val) (I : Its) : M Own := fun s => if noOwn s.δ vs then
    match hush (compL vs g t e I.chk I.items []) { s with δ := wipeD s.δ vs } with
    | some (.ok ys, s2) => some (.ok (.lst ys), { s2 with δ := backD s.δ s2.δ vs })
    | _ => none
  else none
@[simp] theorem Wp_dComp (vs : List Nat) (fi : M Its) (g : Val → M Unit) (t : M Bool) (e : M Val) (s : DSt) (Q : Out Own → DSt → Prop) : Wp (dComp vs fi g t e) s Q = Wp fi s (Bk (compK vs g t e) Q) := Wp_bnd _ _ _ _
/-- what one turn must come to: go on with one item more, or with none -/
def Ek (acc : List T) (e : M Val) (Nx : List T → DSt → Prop) : Out Bool → DSt → Prop
  | .ok true, s => Wp e s (Bk frz fun o s2 => match o with
      | .ok y => acc.length < sizeLine ∧ Nx (acc ++ [y]) s2
      | .exc _ _ => False)
  | .ok false, s => Nx acc s
  | .exc _ _, _ => False
def Yk (acc : List T) (Nx : List T → DSt → Prop) : Out T → DSt → Prop
  | .ok y, s => acc.length < sizeLine ∧ Nx (acc ++ [y]) s
  | .exc _ _, _ => False
@[simp] theorem Yk_ok (acc : List T) (Nx : List T → DSt → Prop) (y : T) (s : DSt) : Yk acc Nx (.ok y) s = (acc.length < sizeLine ∧ Nx (acc ++ [y]) s) := rfl
@[simp] theorem Ek_true (acc : List T) (e : M Val) (Nx : List T → DSt → Prop) (s : DSt) : Ek acc e Nx (.ok true) s = Wp e s (Bk frz (Yk acc Nx)) := by
  show Wp e s _ = _
  congr 2
  funext o s2
  cases o <;> rfl
@[simp] theorem Ek_false (acc : List T) (e : M Val) (Nx : List T → DSt → Prop) (s : DSt) : Ek acc e Nx (.ok false) s = Nx acc s := rfl
theorem compL_inv (Iv : List Val → List T → DSt → Prop) {vs : List Nat} {g : Val → M Unit} {t : M Bool} {e : M Val} {chk : DSt → Bool} (hc : ∀ r acc s, Iv r acc s → chk s = true)
    (h1 : ∀ v r acc s, Iv (v :: r) acc s → Wp (g v) s (Bk (fun _ => t) (Ek acc e fun acc' s' => Iv r acc' { s' with δ := wipeD s'.δ vs }))) : ∀ items acc s, Iv items acc s → ∃ ys s2, compL vs g t e chk items acc s = some (.ok ys, s2) ∧ Iv [] ys s2
  | [], acc, s, h => ⟨acc, s, by simp [compL, hc _ _ _ h], h⟩
  | v :: r, acc, s, h => by
    obtain ⟨o, s1, e1, q1⟩ := h1 v r acc s h
    cases o with
    | exc c fs => exact q1.elim
    | ok u =>
      obtain ⟨o, s2, e2, q2⟩ := (show Wp t s1 _ from q1)
      cases o with
      | exc c fs => exact q2.elim
      | ok b => cases b with
        | false =>
          obtain ⟨ys, s3, e3, q3⟩ := compL_inv Iv hc h1 r acc _ q2
          refine ⟨ys, s3, ?_, q3⟩
          rw [compL]
          dsimp only
          rw [if_pos (hc _ _ _ h)]
          simp only [bnd, e1, e2]
          exact e3
        | true =>
          obtain ⟨o, s3, e3, q3⟩ := (show Wp e s2 _ from q2)
          cases o with
          | exc c fs => exact q3.elim
          | ok x =>
            obtain ⟨o, s4, e4, q4⟩ := (show Wp (frz x) s3 _ from q3)
            cases o with
            | exc c fs => exact q4.elim
            | ok y =>
              obtain ⟨hl, q4⟩ := q4
              obtain ⟨ys, s5, e5, q5⟩ := compL_inv Iv hc h1 r (acc ++ [y]) _ q4
              refine ⟨ys, s5, ?_, q5⟩
              rw [compL]
              dsimp only
              rw [if_pos (hc _ _ _ h)]
              simp only [bnd, e1, e2]
              show bnd e _ s2 = _
              simp only [bnd, e3, e4, if_pos hl]
              exact e5
theorem Wp_comp (Iv : List Val → List T → DSt → Prop) {vs : List Nat} {g : Val → M Unit} {t : M Bool} {e : M Val} {I : Its} {s : DSt} {Q : Out Own → DSt → Prop} (hn : noOwn s.δ vs = true) (hc : ∀ r acc s, Iv r acc s → I.chk s = true)
    (h0 : Iv I.items [] { s with δ := wipeD s.δ vs }) (h1 : ∀ v r acc s, Iv (v :: r) acc s → Wp (g v) s (Bk (fun _ => t) (Ek acc e fun acc' s' => Iv r acc' { s' with δ := wipeD s'.δ vs })))
    (h2 : ∀ ys s2, Iv [] ys s2 → Q (.ok (.lst ys)) { s2 with δ := backD s.δ s2.δ vs }) : Wp (compK vs g t e I) s Q := by
  obtain ⟨ys, s2, e1, q⟩ := compL_inv Iv hc h1 I.items [] _ h0
  refine ⟨_, _, ?_, h2 ys s2 q⟩
  unfold compK hush
  rw [if_pos hn, e1]
def jnK (fe : M Val) (a : Val) : M Val := if isStr a then bnd fe fun b => dJoin a b else stuck
@[simp] theorem Wp_dJn (fo fe : M Val) (s : DSt) (Q : Out Val → DSt → Prop) : Wp (dJn fo fe) s Q = Wp fo s (Bk (jnK fe) Q) := Wp_bnd _ _ _ _
@[simp] theorem Wp_jnK (fe : M Val) (x : Str) (s : DSt) (Q : Out Val → DSt → Prop) : Wp (jnK fe (.t (.str x))) s Q = Wp fe s (Bk (dJoin (.t (.str x))) Q) := Wp_bnd _ _ _ _
def PoolAt (n k : Nat) (μ : List Cell) : Prop := ∃ a b c : Int, μ[n]? = some (poolC a b c) ∧ 0 ≤ a ∧ 0 ≤ b ∧ b < 1073741824 ∧ 0 ≤ c ∧ c ≤ k
/-- only the pool has changed -/
def Draw (n : Nat) (μ : List Cell) (k : Nat) (μ' : List Cell) : Prop := (∃ c, μ' = μ.set n c) ∧ PoolAt n k μ'
theorem Draw.refl {n k : Nat} {μ : List Cell} (h : PoolAt n k μ) : Draw n μ k μ := by
  obtain ⟨a, b, c, e, q⟩ := h
  refine ⟨⟨poolC a b c, ?_⟩, a, b, c, e, q⟩
  obtain ⟨h1, h2⟩ := List.getElem?_eq_some_iff.mp e
  rw [← h2, List.set_getElem_self]
theorem Draw.trans {n k k' : Nat} {μ μ' μ'' : List Cell} (h : Draw n μ k μ') (h' : Draw n μ' k' μ'') : Draw n μ k' μ'' := by
  obtain ⟨⟨c, rfl⟩, _⟩ := h
  obtain ⟨⟨d, rfl⟩, p⟩ := h'
  exact ⟨⟨d, by rw [List.set_set]⟩, by rw [List.set_set] at p ⊢; exact p⟩
theorem Draw.len {n k : Nat} {μ μ' : List Cell} (h : Draw n μ k μ') : μ'.length = μ.length := by
  obtain ⟨⟨c, rfl⟩, _⟩ := h
  simp
theorem PoolAt.mono {n k k' : Nat} {μ : List Cell} (h : PoolAt n k μ) (hk : k ≤ k') : PoolAt n k' μ := by
  obtain ⟨a, b, c, e, h1, h2, h3, h4, h5⟩ := h
  exact ⟨a, b, c, e, h1, h2, h3, h4, by omega⟩
theorem Draw.mono {n k k' : Nat} {μ μ' : List Cell} (h : Draw n μ k μ') (hk : k ≤ k') : Draw n μ k' μ' := ⟨h.1, h.2.mono hk⟩
end Lf
namespace Lf
open PySem PySem.Spec L2
@[simp] theorem Wp_dNot (f : M Bool) (s : DSt) (Q : Out Bool → DSt → Prop) : Wp (dNot f) s Q = Wp f s (Bk (fun b => ret (!b)) Q) := Wp_bnd _ _ _ _
@[simp] theorem Wp_dAnd (f g : M Bool) (s : DSt) (Q : Out Bool → DSt → Prop) : Wp (dAnd f g) s Q = Wp f s (Ik g (ret false) Q) := by
  unfold dAnd
  rw [Wp_bnd]
  congr 1
  funext o s1
  cases o with
  | exc c fs => rfl
  | ok b => cases b <;> rfl
@[simp] theorem Wp_dOr (f g : M Bool) (s : DSt) (Q : Out Bool → DSt → Prop) : Wp (dOr f g) s Q = Wp f s (Ik (ret true) g Q) := by
  unfold dOr
  rw [Wp_bnd]
  congr 1
  funext o s1
  cases o with
  | exc c fs => rfl
  | ok b => cases b <;> rfl
@[simp] theorem Wp_vAnd (f g : M Val) (s : DSt) (Q : Out Val → DSt → Prop) : Wp (vAnd f g) s Q = Wp f s (Bk asBl (Ik g (ret (.t (.bl false))) Q)) := by
  unfold vAnd
  rw [Wp_bnd]
  congr 1
  funext o s1
  cases o with
  | exc c fs => rfl
  | ok v =>
    show Wp (bnd (asBl v) _) s1 Q = Wp (asBl v) s1 _
    rw [Wp_bnd]
    congr 1
    funext o s2
    cases o with
    | exc c fs => rfl
    | ok b => cases b <;> rfl
@[simp] theorem Wp_vOr (f g : M Val) (s : DSt) (Q : Out Val → DSt → Prop) : Wp (vOr f g) s Q = Wp f s (Bk asBl (Ik (ret (.t (.bl true))) g Q)) := by
  unfold vOr
  rw [Wp_bnd]
  congr 1
  funext o s1
  cases o with
  | exc c fs => rfl
  | ok v =>
    show Wp (bnd (asBl v) _) s1 Q = Wp (asBl v) s1 _
    rw [Wp_bnd]
    congr 1
    funext o s2
    cases o with
    | exc c fs => rfl
    | ok b => cases b <;> rfl
@[simp] theorem Wp_vNot (f : M Val) (s : DSt) (Q : Out Val → DSt → Prop) : Wp (vNot f) s Q = Wp f s (Bk (fun v => bnd (asBl v) fun b => ret (.t (.bl (!b)))) Q) := Wp_bnd _ _ _ _
@[simp] theorem Wp_dChain (g g' : Val → Val → M Val) (fa fb fc : M Val) (s : DSt) (Q : Out Val → DSt → Prop) : Wp (dChain g g' fa fb fc) s Q = Wp fa s (Bk (fun a => bnd fb fun b => bnd (g a b) fun z => bnd (asBl z) fun k => if k then bnd fc fun c => g' b c else ret (.t (.bl false))) Q) := Wp_bnd _ _ _ _
theorem Wp_isi {tys : List String} {v : Val} {s : DSt} {n : String} (h : tagOf s v = some n) (Q : Out Val → DSt → Prop) : Wp (dIsi tys v) s Q = Q (.ok (.t (.bl (tys.any fun ty => isiB n ty)))) s := Wp_some (by simp [dIsi, h])
@[simp] theorem Wp_isiS (tys : List String) (y : Str) (s : DSt) (Q : Out Val → DSt → Prop) : Wp (dIsi tys (.t (.str y))) s Q = Q (.ok (.t (.bl (tys.any fun ty => isiB "str" ty)))) s := Wp_isi rfl Q
@[simp] theorem Wp_isiI (tys : List String) (y : Int) (s : DSt) (Q : Out Val → DSt → Prop) : Wp (dIsi tys (.t (.int y))) s Q = Q (.ok (.t (.bl (tys.any fun ty => isiB "int" ty)))) s := Wp_isi rfl Q
@[simp] theorem Wp_isiB (tys : List String) (y : Bool) (s : DSt) (Q : Out Val → DSt → Prop) : Wp (dIsi tys (.t (.bl y))) s Q = Q (.ok (.t (.bl (tys.any fun ty => isiB "bool" ty)))) s := Wp_isi rfl Q
@[simp] theorem Wp_isiN (tys : List String) (s : DSt) (Q : Out Val → DSt → Prop) : Wp (dIsi tys (.t .non)) s Q = Q (.ok (.t (.bl (tys.any fun ty => isiB "NoneType" ty)))) s := Wp_isi rfl Q
@[simp] theorem Wp_isiL (tys : List String) (y : List T) (s : DSt) (Q : Out Val → DSt → Prop) : Wp (dIsi tys (.t (.lst y))) s Q = Q (.ok (.t (.bl (tys.any fun ty => isiB "list" ty)))) s := Wp_isi rfl Q
@[simp] theorem Wp_isiT (tys : List String) (y : List T) (s : DSt) (Q : Out Val → DSt → Prop) : Wp (dIsi tys (.t (.tup y))) s Q = Q (.ok (.t (.bl (tys.any fun ty => isiB "tuple" ty)))) s := Wp_isi rfl Q
theorem blsT_bl : ∀ bs : List Bool, blsT (bs.map T.bl) = some bs
  | [] => rfl
  | b :: r => by simp [blsT, blsT_bl r]
@[simp] theorem Wp_allL (bs : List Bool) (s : DSt) (Q : Out Val → DSt → Prop) : Wp (dAll [.t (.lst (bs.map T.bl))]) s Q = Q (.ok (.t (.bl (bs.all id)))) s := Wp_some (by simp [dAll, lstOf, blsT_bl])
@[simp] theorem Wp_anyL (bs : List Bool) (s : DSt) (Q : Out Val → DSt → Prop) : Wp (dAny [.t (.lst (bs.map T.bl))]) s Q = Q (.ok (.t (.bl (bs.any id)))) s := Wp_some (by simp [dAny, lstOf, blsT_bl])
theorem Wp_compM {α : Type} (l : List α) (f : α → Val) (p : α → Bool) (ψ : α → T) {vs : List Nat} {g : Val → M Unit} {t : M Bool} {e : M Val} {I : Its} {s : DSt} {Q : Out Own → DSt → Prop} (hn : noOwn s.δ vs = true) (hb : backD s.δ (wipeD s.δ vs) vs = s.δ) (hi : I.items = l.map f) (hl : l.length < sizeLine) (hc : I.chk { s with δ := wipeD s.δ vs } = true)
    (h1 : ∀ a ∈ l, ∀ acc : List T, acc.length < sizeLine → Wp (g (f a)) { s with δ := wipeD s.δ vs } (Bk (fun _ => t) (Ek acc e fun acc' s' => acc' = (if p a then acc ++ [ψ a] else acc) ∧ { s' with δ := wipeD s'.δ vs } = ({ s with δ := wipeD s.δ vs } : DSt))))
    (h2 : Q (.ok (.lst ((l.filter p).map ψ))) s) : Wp (compK vs g t e I) s Q := by
  refine Wp_comp (fun r acc s' => s' = { s with δ := wipeD s.δ vs } ∧ ∃ a b, l = a ++ b ∧ r = b.map f ∧ acc = (a.filter p).map ψ) hn (fun r acc s' ⟨e, _⟩ => by rw [e]; exact hc) ⟨rfl, [], l, rfl, hi, rfl⟩ ?_ ?_
  · rintro v r acc s' ⟨rfl, a, b, el, er, rfl⟩
    cases b with
    | nil => cases er
    | cons x b =>
      rw [List.map_cons] at er
      cases er
      have hlen : ((a.filter p).map ψ).length < sizeLine := by
        have h3 := List.length_filter_le p a
        have h4 : l.length = a.length + (b.length + 1) := by rw [el]; simp
        rw [List.length_map]
        omega
      have fin : ∀ (acc' : List T) (s' : DSt), (acc' = (if p x then (a.filter p).map ψ ++ [ψ x] else (a.filter p).map ψ) ∧ ({ s' with δ := wipeD s'.δ vs } : DSt) = { s with δ := wipeD s.δ vs }) → (({ s' with δ := wipeD s'.δ vs } : DSt) = { s with δ := wipeD s.δ vs } ∧ ∃ a' b', l = a' ++ b' ∧ b.map f = b'.map f ∧ acc' = (a'.filter p).map ψ) := fun acc' s' ⟨e1, e2⟩ => by
        refine ⟨e2, a ++ [x], b, by rw [el]; simp, rfl, ?_⟩
        rw [e1, List.filter_append]
        cases hp : p x <;> simp [hp]
      refine (h1 x (by rw [el]; simp) _ hlen).imp fun o s1 q => ?_
      cases o with
      | exc c fs => exact q
      | ok u =>
        refine Wp.imp (f := t) q fun o s2 q => ?_
        cases o with
        | exc c fs => exact q
        | ok b => cases b with
          | false => exact fin _ _ q
          | true =>
            rw [Ek_true] at q ⊢
            refine q.imp fun o s3 q => ?_
            cases o with
            | exc c fs => exact q
            | ok x =>
              refine Wp.imp (f := frz x) q fun o s4 q => ?_
              cases o with
              | exc c fs => exact q
              | ok y => exact ⟨q.1, fin _ _ q.2⟩
  · rintro ys s2 ⟨rfl, a, b, el, er, rfl⟩
    have : b = [] := by simpa using er.symm
    subst this
    rw [List.append_nil] at el
    subst el
    dsimp only
    rw [hb]
    exact h2
theorem Wp_compA {α : Type} (l : List α) (f : α → Val) (ψ : α → T) {vs : List Nat} {g : Val → M Unit} {t : M Bool} {e : M Val} {I : Its} {s : DSt} {Q : Out Own → DSt → Prop} (hn : noOwn s.δ vs = true) (hb : backD s.δ (wipeD s.δ vs) vs = s.δ) (hi : I.items = l.map f) (hl : l.length < sizeLine) (hc : I.chk { s with δ := wipeD s.δ vs } = true)
    (h1 : ∀ a ∈ l, ∀ acc : List T, acc.length < sizeLine → Wp (g (f a)) { s with δ := wipeD s.δ vs } (Bk (fun _ => t) (Ek acc e fun acc' s' => acc' = acc ++ [ψ a] ∧ { s' with δ := wipeD s'.δ vs } = ({ s with δ := wipeD s.δ vs } : DSt))))
    (h2 : Q (.ok (.lst (l.map ψ))) s) : Wp (compK vs g t e I) s Q := by
  refine Wp_compM l f (fun _ => true) ψ hn hb hi hl hc (fun a ha acc hacc => ?_) ?_
  · simpa using h1 a ha acc hacc
  · have : l.filter (fun _ => true) = l := by simp
    rw [this]
    exact h2
theorem Wp_anyM {α : Type} (l : List α) (f : α → Bool) (s : DSt) (Q : Out Val → DSt → Prop) : Wp (dAny [.t (.lst (l.map fun a => T.bl (f a)))]) s Q = Q (.ok (.t (.bl (l.any f)))) s := by
  have e : (l.map fun a => T.bl (f a)) = (l.map f).map T.bl := by rw [List.map_map]; rfl
  rw [e, Wp_anyL]
  simp
def enK (vs : List Val) : M Its := match vs with | [v] => walkEnum v | _ => stuck
@[simp] theorem Wp_iEnum (f : M (List Val)) (s : DSt) (Q : Out Its → DSt → Prop) : Wp (iEnum f) s Q = Wp f s (Bk enK Q) := Wp_bnd _ _ _ _
@[simp] theorem Wp_enK (xs : List T) (s : DSt) (Q : Out Its → DSt → Prop) : Wp (enK [.t (.lst xs)]) s Q = Q (.ok ⟨enumV xs, fun _ => true⟩) s := Wp_some (by
  simp only [enK, walkEnum, lend, bnd, ret, seqOf, plains_t, still])
@[simp] theorem Wp_unpack2 (i j : Nat) (a b : T) (δ : List (Option Slot)) (μ : List Cell) (Q : Out Unit → DSt → Prop) : Wp (unpack [i, j] (.t (.tup [a, b]))) ⟨δ, μ⟩ Q = Q (.ok ()) ⟨(δ.set i (some (.t a))).set j (some (.t b)), μ⟩ := Wp_some rfl
@[simp] theorem Wp_eqI (neg : Bool) (i j : Int) (s : DSt) (Q : Out Val → DSt → Prop) : Wp (dEq neg (.t (.int i)) (.t (.int j))) s Q = Q (.ok (.t (.bl (if neg then !(i == j) else (i == j))))) s := Wp_some (by
  have : SeqAt.shaped (.int i) = true ∧ SeqAt.shaped (.int j) = true := ⟨by rfl, by rfl⟩
  simp [dEq, valPd, T.pd, this.1, this.2, PyData.eqv])
@[simp] theorem Wp_eqB (neg : Bool) (i j : Bool) (s : DSt) (Q : Out Val → DSt → Prop) : Wp (dEq neg (.t (.bl i)) (.t (.bl j))) s Q = Q (.ok (.t (.bl (if neg then !(i == j) else (i == j))))) s := Wp_some (by
  have : SeqAt.shaped (.bool i) = true ∧ SeqAt.shaped (.bool j) = true := ⟨by rfl, by rfl⟩
  simp [dEq, valPd, T.pd, this.1, this.2, PyData.eqv])
@[simp] theorem Wp_dRaise (c f : Str) (fe : M Val) (s : DSt) (Q : Out Fl → DSt → Prop) : Wp (dRaise c f fe) s Q = Wp fe s (Bk (fun v => bnd (frz v) fun t => raise c [(f, t)]) Q) := Wp_bnd _ _ _ _
end Lf
namespace Lf
open PySem PySem.Spec L2
def Vk (b : M Fl) (Nx : DSt → Prop) (Q : Out Fl → DSt → Prop) : Out Bool → DSt → Prop
  | .ok k, s => if k = true then Wp b s (Lk Nx Q) else Q (.ok .nx) s
  | .exc c fs, s => Q (.exc c fs) s
@[simp] theorem Vk_ok (b : M Fl) (Nx : DSt → Prop) (Q : Out Fl → DSt → Prop) (k : Bool) (s : DSt) : Vk b Nx Q (.ok k) s = if k = true then Wp b s (Lk Nx Q) else Q (.ok .nx) s := rfl
@[simp] theorem Wp_dFldC (cs : List Str) (f : Str) (fo : M Val) (fe : M Own) (s : DSt) (Q : Out Fl → DSt → Prop) : Wp (dFldC cs f fo fe) s Q = Wp fe s (Bk (fun v => bnd (newCell v) fun n => bnd fo fun a => bnd (setF cs f a (.loc n)) fun _ => ret .nx) Q) := Wp_bnd _ _ _ _
@[simp] theorem Wp_dFld (cs : List Str) (f : Str) (fo fe : M Val) (s : DSt) (Q : Out Fl → DSt → Prop) : Wp (dFld cs f fo fe) s Q = Wp fe s (Bk (fun v => bnd fo fun a => bnd (asFv v) fun g => bnd (setF cs f a g) fun _ => ret .nx) Q) := Wp_bnd _ _ _ _
@[simp] theorem Wp_newCell (o : Own) (δ : List (Option Slot)) (μ : List Cell) (Q : Out Nat → DSt → Prop) : Wp (newCell o) ⟨δ, μ⟩ Q = Q (.ok μ.length) ⟨δ, μ ++ [o.cell]⟩ := Wp_some rfl
@[simp] theorem Wp_asFvT (x : T) (s : DSt) (Q : Out Fv → DSt → Prop) : Wp (asFv (.t x)) s Q = Q (.ok (.t x)) s := Wp_ret _ _ _
@[simp] theorem Wp_asFvL (n : Nat) (s : DSt) (Q : Out Fv → DSt → Prop) : Wp (asFv (.loc n)) s Q = Q (.ok (.loc n)) s := Wp_ret _ _ _
@[simp] theorem Wp_dForK (fe : M Val) (g : Val → M Unit) (b : M Fl) (s : DSt) (Q : Out Fl → DSt → Prop) : Wp (dForK fe g b) s Q = Wp fe s (Bk (fun v => bnd (stillD v) fun kvs => forL g b (fun _ => true) (keysV kvs)) Q) := Wp_bnd _ _ _ _
theorem plainD_t {κ : Type} : ∀ l : List (κ × T), plainD (l.map fun p => (p.1, Fv.t p.2)) = some l
  | [] => rfl
  | (k, x) :: r => by simp [plainD, plainD_t r]
@[simp] theorem Wp_dMethV (c m : Str) (F : DFun) (fo : M Val) (fa : M (List Val)) (s : DSt) (Q : Out Val → DSt → Prop) : Wp (dMethV c m F fo fa) s Q = Wp (dMethC c m F fo fa) s (Bk retV Q) := Wp_bnd _ _ _ _
/-- behind the instance -/
def mcK (c m : Str) (F : DFun) (fa : M (List Val)) (v : Val) : M Ret := fun s => match insOf s v with
  | some (d, l) => if d = c ∧ look l m = none then bnd fa (fun vs => bnd (asFvs (v :: vs)) fun fs => callF F fs) s else none
  | none => none
@[simp] theorem Wp_dMethC (c m : Str) (F : DFun) (fo : M Val) (fa : M (List Val)) (s : DSt) (Q : Out Ret → DSt → Prop) : Wp (dMethC c m F fo fa) s Q = Wp fo s (Bk (mcK c m F fa) Q) := Wp_bnd _ _ _ _
@[simp] theorem Wp_tupD {v : Val} {s : DSt} {kvs : List (Key × Fv)} (h : dcK s v = some kvs) (Q : Out Val → DSt → Prop) : Wp (dTupleD [v]) s Q = Q (.ok (.t (.tup (kvs.map fun p => keyTree p.1)))) s := Wp_some (by simp [dTupleD, h])
@[simp] theorem Wp_tupL (xs : List T) (s : DSt) (Q : Out Val → DSt → Prop) : Wp (dTupleD [.t (.lst xs)]) s Q = Q (.ok (.t (.tup xs))) s := Wp_some (by simp [dTupleD, dcK, dTuple, seqOf, plains_t])
@[simp] theorem Wp_tupT (xs : List T) (s : DSt) (Q : Out Val → DSt → Prop) : Wp (dTupleD [.t (.tup xs)]) s Q = Q (.ok (.t (.tup xs))) s := Wp_some (by simp [dTupleD, dcK, dTuple, seqOf, plains_t])
@[simp] theorem Wp_dMake (c : Str) (F : DFun) (fa : M (List Val)) (s : DSt) (Q : Out Val → DSt → Prop) : Wp (dMake c F fa) s Q = Wp fa s (Bk (fun vs => bnd (asFvs vs) fun fs => mkObj c F fs) Q) := Wp_bnd _ _ _ _
def compK2 (vs vs1 : List Nat) (g : Val → M Unit) (t : M Bool) (fi1 : M Its) (g1 : Val → M Unit) (t1 : M Bool) (e : M Val) (I : Its) : M Own := fun s => if noOwn s.δ vs then
    match hush (compL2 vs vs1 g t fi1 g1 t1 e I.chk I.items []) { s with δ := wipeD s.δ vs } with
    | some (.ok ys, s2) => some (.ok (.lst ys), { s2 with δ := backD s.δ s2.δ vs })
    | _ => none
  else none
@[simp] theorem Wp_dComp2 (vs vs1 : List Nat) (fi : M Its) (g : Val → M Unit) (t : M Bool) (fi1 : M Its) (g1 : Val → M Unit) (t1 : M Bool) (e : M Val) (s : DSt) (Q : Out Own → DSt → Prop) : Wp (dComp2 vs vs1 fi g t fi1 g1 t1 e) s Q = Wp fi s (Bk (compK2 vs vs1 g t fi1 g1 t1 e) Q) := Wp_bnd _ _ _ _
/-- the inner loop of one turn -/
def Jk (vs1 : List Nat) (g1 : Val → M Unit) (t1 : M Bool) (e : M Val) (acc : List T) (Nx : List T → DSt → Prop) : Out Its → DSt → Prop
  | .ok I, s => ∃ ys s3, compL vs1 g1 t1 e I.chk I.items acc { s with δ := wipeD s.δ vs1 } = some (.ok ys, s3) ∧ Nx ys s3
  | .exc _ _, _ => False
def Hk (fi1 : M Its) (vs1 : List Nat) (g1 : Val → M Unit) (t1 : M Bool) (e : M Val) (acc : List T) (Nx : List T → DSt → Prop) : Out Bool → DSt → Prop
  | .ok b, s => if b = true then Wp fi1 s (Jk vs1 g1 t1 e acc Nx) else Nx acc s
  | .exc _ _, _ => False
@[simp] theorem Hk_true (fi1 : M Its) (vs1 : List Nat) (g1 : Val → M Unit) (t1 : M Bool) (e : M Val) (acc : List T) (Nx : List T → DSt → Prop) (s : DSt) : Hk fi1 vs1 g1 t1 e acc Nx (.ok true) s = Wp fi1 s (Jk vs1 g1 t1 e acc Nx) := by simp [Hk]
end Lf
namespace Lf
open PySem PySem.Spec L2
section
variable {cl : Cl} {X : Cx}
def dnnOf (s : DSt) : Val → Option (List (NKey × Int))
  | .loc n => match s.μ[n]? with
    | some (.dnn kvs) => some kvs
    | some (.dic false []) => some []
    | _ => none
  | _ => none
def keysT : List T → Option (List Key)
  | [] => some []
  | t :: r => match keyT t, keysT r with
    | some k, some ks => some (k :: ks)
    | _, _ => none
def nkeyT : T → Option NKey
  | .tup [.tup xs, .non] => match keysT xs with
    | some k => some (k, none)
    | none => none
  | .tup [.tup xs, .tup ys] => match keysT xs, keysT ys with
    | some k, some ks => some (k, some ks)
    | _, _ => none
  | _ => none
def dInN (neg : Bool) (a b : Val) : M Val := fun s => match dnnOf s b with
  | some kvs => match a with
    | .t x => match nkeyT x with
      | some k => some (.ok (.t (.bl (if neg then !(look kvs k).isSome else (look kvs k).isSome))), s)
      | none => none
    | _ => none
  | none => none
def dIxN (a b : Val) : M Val := fun s => match dnnOf s a with
  | some kvs => match b with
    | .t x => match nkeyT x with
      | some k => match look kvs k with
        | some i => some (.ok (.t (.int i)), s)
        | none => none
      | none => none
    | _ => none
  | none => none
def dLenN (vs : List Val) : M Val := fun s => match vs with
  | [v] => match dnnOf s v with
    | some kvs => some (.ok (.t (.int kvs.length)), s)
    | none => none
  | _ => none
def setIxN (o i v : Val) : M Unit := fun s => match dnnOf s o, o, i, v with
  | some kvs, .loc n, .t x, .t (.int z) => match nkeyT x with
    | some k => if decide (kvs.length < sizeLine) && (look kvs k).isNone then some (.ok (), { s with μ := s.μ.set n (.dnn (kvs ++ [(k, z)])) }) else none
    | none => none
  | _, _, _, _ => none
end
end Lf
namespace Lf
open PySem PySem.Spec L2
section
variable {cl : Cl} {X : Cx}
def dNew (f : M Own) : M Val := bnd f fun o => bnd (newCell o) fun n => ret (.loc n)
def mkObjC (c : Str) (F : DFun) (fs : List Fv) : M Val := fun s => match F (.loc s.μ.length :: fs) (s.μ ++ [.ins c []]) with
  | some (.ok (.val (.t .non)), m) => some (.ok (.loc s.μ.length), { s with μ := m })
  | some (.exc d l, m) => some (.exc d l, { s with μ := m })
  | _ => none
def dMakeC (c : Str) (F : DFun) (fa : M (List Val)) : M Val := bnd fa fun vs => bnd (asFvs vs) fun fs => mkObjC c F fs
def frzC (n : Nat) : M T := fun s => match s.μ[n]? with
  | some (.lst xs) => match plains xs with
    | some ts => some (.ok (.lst ts), { s with μ := s.μ.set n (.fz (.lst ts)) })
    | none => none
  | some (.dic false kvs) => match plainD kvs with
    | some ts => some (.ok (.dic ts), { s with μ := s.μ.set n (.fz (.dic ts)) })
    | none => none
  | some (.fz x) => some (.ok x, s)
  | _ => none
def frzFs : List (Key × Fv) → M (List (Key × T))
  | [] => ret []
  | (k, .t x) :: r => bnd (frzFs r) fun l => ret ((k, x) :: l)
  | (k, .loc m) :: r => bnd (frzC m) fun x => bnd (frzFs r) fun l => ret ((k, x) :: l)
/-- a cell with the cells in it -/
def frzN (n : Nat) : M T := fun s => match s.μ[n]? with
  | some (.dic false kvs) => match frzFs kvs s with
    | some (.ok l, s1) => match s1.μ[n]? with
      | some (.dic false _) => some (.ok (.dic l), { s1 with μ := s1.μ.set n (.fz (.dic l)) })
      | _ => none
    | _ => none
  | _ => frzC n s
def frzV : Val → M T
  | .loc n => frzN n
  | v => frz v
def frzVs : List Val → M (List T)
  | [] => ret []
  | v :: vs => bnd (frzV v) fun t => bnd (frzVs vs) fun ts => ret (t :: ts)
/-- a tuple, its cells given away -/
def dTupF (f : M (List Val)) : M Val := bnd f fun vs => bnd (frzVs vs) fun ts => if ts.length ≤ sizeLine then ret (.t (.tup ts)) else stuck
end
end Lf
namespace Lf
open PySem PySem.Spec L2
def IteT (K : PySem.W.Frag) (a : Addr) : It :=
  ⟨fun i H => ∃ (xs : List V) (x : V), SqT K H a xs ∧ xs[i]? = some x, fun i H v H' => ∃ q x, v = .ref q ∧ H q = none ∧ H' = upd H q (.tup [.int (i : Nat), x]) ∧ ∀ xs, SqT K H a xs → xs[i]? = some x, fun i H => ∃ xs : List V, SqT K H a xs ∧ xs.length ≤ i⟩
def iEnumT (K : PySem.W.Frag) (ta : TA) : TI := fun σ H R => ta σ H fun vs H1 => ∃ a xs, vs = [.ref a] ∧ SqT K H1 a xs ∧ R (IteT K a) H1
section
variable {cl : Cl} {X : Cx}
def walkEnumT (v : Val) : M Its := bnd (lend v) fun v => fun s => match seqOf s v with
  | some (true, ts) => match plains ts with
    | some xs => some (.ok ⟨enumV xs, still v true (xs.map .t)⟩, s)
    | none => none
  | _ => none
def iEnT (f : M (List Val)) : M Its := bnd f fun vs => match vs with | [v] => walkEnumT v | _ => stuck
end
end Lf
namespace Lf
open PySem PySem.Spec L2
section
variable {α : Type} (le : α → α → Bool)
def insB (x : α) : List α → List α
  | [] => [x]
  | y :: r => if le x y then x :: y :: r else y :: insB x r
def srtB : List α → List α
  | [] => []
  | x :: r => insB le x (srtB r)
variable {le}
end
def leS (a b : Str) : Bool := !ltCps b.cps.toList a.cps.toList
abbrev srtS := srtB leS
abbrev leI : Int → Int → Bool := fun a b => decide (a ≤ b)
abbrev srtI := srtB leI
section
variable {cl : Cl} {X : Cx}
/-- sorted(xs), a list of texts or of ints -/
def dSorted (vs : List Val) : M Own := fun s => match vs with
  | [v] => match lstOf s v with
    | some ts => match strsT ts with
      | some xs => if xs.length < 64 then some (.ok (.lst ((srtS xs).map T.str)), s) else none
      | none => match intsT ts with
        | some ns => some (.ok (.lst ((srtI ns).map T.int)), s)
        | none => none
    | none => none
  | _ => none
def mIndex (v : Val) (vs : List Val) : M Val := fun s => match vs, seqOf s v with
  | [.t y], some (false, ts) => match y.flat, flats ts with
    | some z, some zs => match zs.findIdx? fun q => eqV q z with
      | some j => some (.ok (.t (.int (j : Nat))), s)
      | none => none
    | _, _ => none
  | _, _ => none
def dListD (vs : List Val) : M Own := fun s => match vs with
  | [v] => match dcK s v with
    | some kvs => some (.ok (.lst (kvs.map fun p => keyTree p.1)), s)
    | none => dList vs s
  | _ => none
end
end Lf
namespace Lf
open PySem PySem.Spec L2
section
variable {cl : Cl} {X : Cx}
/-- one pair more -/
def dcPut (acc : List (Key × Fv)) (y : Val) (f : Fv) : Option (List (Key × Fv)) := match y with
  | .t ty => match keyT ty with
    | some k => if okKeys acc && decide (acc.length < sizeLine) then some (putA acc k f) else none
    | none => none
  | _ => none
def dcL (vs : List Nat) (g : Val → M Unit) (t : M Bool) (fk fv : M Val) (chk : DSt → Bool) : List Val → List (Key × Fv) → M (List (Key × Fv))
  | [], acc => fun s => if chk s then some (.ok acc, s) else none
  | v :: r, acc => fun s => if chk s then bnd (g v) (fun _ => bnd t fun b => if b then bnd fk fun y => bnd fv fun x => bnd (asFv x) fun f => fun s => match dcPut acc y f with
        | some acc' => dcL vs g t fk fv chk r acc' { s with δ := wipeD s.δ vs }
        | none => none
      else fun s => dcL vs g t fk fv chk r acc { s with δ := wipeD s.δ vs }) s else none
def dcRun (vs : List Nat) (fi : M Its) (g : Val → M Unit) (t : M Bool) (fk fv : M Val) : M (List (Key × Fv)) := bnd fi fun I => fun s => if noOwn s.δ vs then
    match hush (dcL vs g t fk fv I.chk I.items []) { s with δ := wipeD s.δ vs } with
    | some (.ok ys, s2) => some (.ok ys, { s2 with δ := backD s.δ s2.δ vs })
    | _ => none
  else none
section
variable {kx vx tg iter : Expr} {ifs : List Expr} {scope : Scope} {own : List (Str × Nat)} {pos : Pos} {fi : M Its} {g : Val → M Unit} {ft : M Bool} {fk fv : M Val}
/-- as a cell -/
def dDcC (vs : List Nat) (fi : M Its) (g : Val → M Unit) (t : M Bool) (fk fv : M Val) : M Val := bnd (dcRun vs fi g t fk fv) fun acc => fun s => some (.ok (.loc s.μ.length), { s with μ := s.μ ++ [.dic false acc] })
/-- as a new object of plain items -/
def dDcF (vs : List Nat) (fi : M Its) (g : Val → M Unit) (t : M Bool) (fk fv : M Val) : M Own := bnd (dcRun vs fi g t fk fv) fun acc => match plainD acc with
  | some l => ret (.dic false l)
  | none => stuck
end
end
end Lf
namespace Lf
open PySem PySem.Spec L2
section
variable {cl : Cl} {X : Cx}
def dSetIxN (fo fi fe : M Val) : M Fl := bnd fe fun v => bnd fo fun a => bnd fi fun j => bnd (setIxN a j v) fun _ => ret .nx
end
end Lf
namespace Lf
open PySem PySem.Spec L2
@[simp] theorem Wp_listD_L (xs : List T) (s : DSt) (Q : Out Own → DSt → Prop) : Wp (dListD [.t (.lst xs)]) s Q = Q (.ok (.lst xs)) s := Wp_some (by simp [dListD, dcK, dList, seqOf, plains_t])
@[simp] theorem Wp_listD_T (xs : List T) (s : DSt) (Q : Out Own → DSt → Prop) : Wp (dListD [.t (.tup xs)]) s Q = Q (.ok (.lst xs)) s := Wp_some (by simp [dListD, dcK, dList, seqOf, plains_t])
@[simp] theorem Wp_dNew (f : M Own) (s : DSt) (Q : Out Val → DSt → Prop) : Wp (dNew f) s Q = Wp f s (Bk (fun o => bnd (newCell o) fun n => ret (.loc n)) Q) := Wp_bnd _ _ _ _
@[simp] theorem Wp_dMakeC (c : Str) (F : DFun) (fa : M (List Val)) (s : DSt) (Q : Out Val → DSt → Prop) : Wp (dMakeC c F fa) s Q = Wp fa s (Bk (fun vs => bnd (asFvs vs) fun fs => mkObjC c F fs) Q) := Wp_bnd _ _ _ _
@[simp] theorem Wp_dTupF (f : M (List Val)) (s : DSt) (Q : Out Val → DSt → Prop) : Wp (dTupF f) s Q = Wp f s (Bk (fun vs => bnd (frzVs vs) fun ts => if ts.length ≤ sizeLine then ret (.t (.tup ts)) else stuck) Q) := Wp_bnd _ _ _ _
@[simp] theorem Wp_frzVs0 (s : DSt) (Q : Out (List T) → DSt → Prop) : Wp (frzVs []) s Q = Q (.ok []) s := Wp_ret _ _ _
@[simp] theorem Wp_frzVsC (v : Val) (vs : List Val) (s : DSt) (Q : Out (List T) → DSt → Prop) : Wp (frzVs (v :: vs)) s Q = Wp (frzV v) s (Bk (fun t => bnd (frzVs vs) fun ts => ret (t :: ts)) Q) := Wp_bnd _ _ _ _
@[simp] theorem Wp_frzVT (x : T) (s : DSt) (Q : Out T → DSt → Prop) : Wp (frzV (.t x)) s Q = Q (.ok x) s := Wp_ret _ _ _
@[simp] theorem Wp_dSetIxN (fo fi fe : M Val) (s : DSt) (Q : Out Fl → DSt → Prop) : Wp (dSetIxN fo fi fe) s Q = Wp fe s (Bk (fun v => bnd fo fun a => bnd fi fun j => bnd (setIxN a j v) fun _ => ret .nx) Q) := Wp_bnd _ _ _ _
@[simp] theorem Wp_iEnT (f : M (List Val)) (s : DSt) (Q : Out Its → DSt → Prop) : Wp (iEnT f) s Q = Wp f s (Bk (fun vs => match vs with | [v] => walkEnumT v | _ => stuck) Q) := Wp_bnd _ _ _ _
@[simp] theorem Wp_walkEnumT (xs : List T) (s : DSt) (Q : Out Its → DSt → Prop) : Wp (walkEnumT (.t (.tup xs))) s Q = Q (.ok ⟨enumV xs, fun _ => true⟩) s := Wp_some (by
  simp only [walkEnumT, lend, bnd, Lf.ret, seqOf, plains_t, still])
@[simp] theorem Wp_methT {fa : M (List Val)} {g : Val → List Val → M Val} (xs : List T) (s : DSt) (Q : Out Val → DSt → Prop) : Wp (methK fa g (.t (.lst xs))) s Q = Wp fa s (Bk (fun vs => g (.t (.lst xs)) vs) Q) := Wp_methK (by simp [isLst, seqOf]) Q
def dcK2 (vs : List Nat) (g : Val → M Unit) (t : M Bool) (fk fv : M Val) (I : Its) : M (List (Key × Fv)) := fun s => if noOwn s.δ vs then
    match hush (dcL vs g t fk fv I.chk I.items []) { s with δ := wipeD s.δ vs } with
    | some (.ok ys, s2) => some (.ok ys, { s2 with δ := backD s.δ s2.δ vs })
    | _ => none
  else none
def newDic (acc : List (Key × Fv)) : M Val := fun s => some (.ok (.loc s.μ.length), { s with μ := s.μ ++ [.dic false acc] })
@[simp] theorem Wp_newDic (acc : List (Key × Fv)) (δ : List (Option Slot)) (μ : List Cell) (Q : Out Val → DSt → Prop) : Wp (newDic acc) ⟨δ, μ⟩ Q = Q (.ok (.loc μ.length)) ⟨δ, μ ++ [.dic false acc]⟩ := Wp_some rfl
def plnDic (acc : List (Key × Fv)) : M Own := match plainD acc with
  | some l => ret (.dic false l)
  | none => stuck
@[simp] theorem Wp_plnDic (l : List (Key × T)) (s : DSt) (Q : Out Own → DSt → Prop) : Wp (plnDic (l.map fun p => (p.1, Fv.t p.2))) s Q = Q (.ok (.dic false l)) s := by
  unfold plnDic
  rw [plainD_t]
  exact Wp_ret _ _ _
@[simp] theorem Wp_dDcC (vs : List Nat) (fi : M Its) (g : Val → M Unit) (t : M Bool) (fk fv : M Val) (s : DSt) (Q : Out Val → DSt → Prop) : Wp (dDcC vs fi g t fk fv) s Q = Wp fi s (Bk (dcK2 vs g t fk fv) (Bk newDic Q)) := (Wp_bnd (dcRun vs fi g t fk fv) newDic s Q).trans (Wp_bnd fi (dcK2 vs g t fk fv) s _)
@[simp] theorem Wp_dDcF (vs : List Nat) (fi : M Its) (g : Val → M Unit) (t : M Bool) (fk fv : M Val) (s : DSt) (Q : Out Own → DSt → Prop) : Wp (dDcF vs fi g t fk fv) s Q = Wp fi s (Bk (dcK2 vs g t fk fv) (Bk plnDic Q)) := (Wp_bnd (dcRun vs fi g t fk fv) plnDic s Q).trans (Wp_bnd fi (dcK2 vs g t fk fv) s _)
def DkV (acc : List (Key × Fv)) (y : Val) (Nx : List (Key × Fv) → DSt → Prop) : Out Fv → DSt → Prop
  | .ok f, s => ∃ acc', dcPut acc y f = some acc' ∧ Nx acc' s
  | .exc _ _, _ => False
@[simp] theorem DkV_ok (acc : List (Key × Fv)) (y : Val) (Nx : List (Key × Fv) → DSt → Prop) (f : Fv) (s : DSt) : DkV acc y Nx (.ok f) s = ∃ acc', dcPut acc y f = some acc' ∧ Nx acc' s := rfl
def DkY (acc : List (Key × Fv)) (fv : M Val) (Nx : List (Key × Fv) → DSt → Prop) : Out Val → DSt → Prop
  | .ok y, s => Wp fv s (Bk asFv (DkV acc y Nx))
  | .exc _ _, _ => False
@[simp] theorem DkY_ok (acc : List (Key × Fv)) (fv : M Val) (Nx : List (Key × Fv) → DSt → Prop) (y : Val) (s : DSt) : DkY acc fv Nx (.ok y) s = Wp fv s (Bk asFv (DkV acc y Nx)) := rfl
def Dk (acc : List (Key × Fv)) (fk fv : M Val) (Nx : List (Key × Fv) → DSt → Prop) : Out Bool → DSt → Prop
  | .ok b, s => if b = true then Wp fk s (DkY acc fv Nx) else Nx acc s
  | .exc _ _, _ => False
@[simp] theorem Dk_ok (acc : List (Key × Fv)) (fk fv : M Val) (Nx : List (Key × Fv) → DSt → Prop) (b : Bool) (s : DSt) : Dk acc fk fv Nx (.ok b) s = if b = true then Wp fk s (DkY acc fv Nx) else Nx acc s := rfl
end Lf
namespace Lf
open PySem PySem.Spec L2
section
variable {cl : Cl} {X : Cx}
def putFs : List Nat → List Fv → M Unit
  | [], [] => ret ()
  | i :: is, f :: fs => bnd (put i f.val) fun _ => putFs is fs
  | _, _ => stuck
def dPar (is : List Nat) (fa : M (List Val)) : M Fl := bnd fa fun vs => bnd (asFvs vs) fun fs => bnd (putFs is fs) fun _ => ret .nx
theorem fv_vr {K : PySem.W.Frag} {w : Wd} {σ : L2.St} {f : Fv} {x : V} (h : FvR K cl w f x) : VR K cl w σ f.val x := by
  cases f with
  | t y => exact h
  | loc n => exact h
theorem putFs_at {K : PySem.W.Frag} {H : Hp} : ∀ {is : List Nat} {fs : List Fv} {w : Wd} {st st' : DSt} {σ : L2.St} {xs : List V} {o : Out Unit}, R K cl w st σ H → (∀ i ∈ is, i < σ.length) → Paired (FvR K cl w) fs xs → putFs is fs st = some (o, st') → o = .ok () ∧ xs.length = is.length ∧ ∃ w', Le w H w' H ∧ R K cl w' st' (setAll is xs σ) H
  | [], [], w, st, st', σ, _, o, r, hl, .nil, h => by cases h; exact ⟨rfl, rfl, w, Le.refl _ _, r⟩
  | i :: is, f :: fs, w, st, st', σ, _, o, r, hl, .cons (b := x) (l₂ := xs) q qs, h => by
    unfold putFs at h
    rcases bnd_some h with ⟨c, fs', h1, rfl⟩ | ⟨_, st1, h1, h2⟩
    · obtain ⟨w', e, _⟩ := put_at r (hl i List.mem_cons_self) (fv_vr q) h1
      cases e
    · obtain ⟨w1, _, l1, r1⟩ := put_at r (hl i List.mem_cons_self) (fv_vr q) h1
      obtain ⟨e1, e2, w', l2, r2⟩ := putFs_at r1 (fun j hj => by rw [List.length_set]; exact hl j (List.mem_cons_of_mem _ hj)) (qs.mono fun _ _ z => FvR.mono l1.as l1.g z) h2
      exact ⟨e1, by simp [e2], w', l1.trans l2, r2⟩
  | [], _ :: _, _, _, _, _, _, _, _, _, _, h => by cases h
  | _ :: _, [], _, _, _, _, _, _, _, _, _, h => by cases h
theorem ds_par2 {i j : Nat} {x y : Str} {a b : Expr} {fa : M (List Val)} {px py pt pos : Pos} {kt k2 pt2} (hc : X.calm = true) (hN : X.N.Nodup) (hi : X.N[i]? = some x) (hj : X.N[j]? = some y) (hij : i ≠ j)
    (hx : X.env.scope.names.lookup x = some .local) (hy : X.env.scope.names.lookup y = some .local)
    (hw : swappedStores [.Tuple [.Name x px, .Name y py] kt pt] (.Tuple [a, b] k2 pt2) X.env = pure (some [x, y]))
    (hs : swapsWithSole [.Tuple [.Name x px, .Name y py] kt pt] (.Tuple [a, b] k2 pt2) pos.line X.env = pure false) (ha : DA cl X [a, b] fa) :
    DS cl X (.Assign [.Tuple [.Name x px, .Name y py] kt pt] (.Tuple [a, b] k2 pt2) pos) (dPar [i, j] fa) := fun W cw w st σ H D o st' r h p => by
  intro pins s I
  refine (L2.ps_par (X := X) (pos := pos) hc hN hi hj hij hx hy paW hw hs).run pins s σ H D I ?_
  unfold tPar
  have hl : ∀ n ∈ [i, j], n < σ.length := fun n hn => by
    rw [I.len]
    rcases List.mem_cons.mp hn with rfl | hn
    · exact lt_of_get hi
    · rw [show n = j by simpa using hn]
      exact lt_of_get hj
  rcases bnd_some h with ⟨c, fs, h1, rfl⟩ | ⟨vs, st1, h1, h2⟩
  · exact ha W cw w st σ H _ _ st' r h1 p.toPost
  · refine ha W cw w st σ H _ _ _ r h1 fun w1 H1 l1 r1 xs hxs => ?_
    rcases bnd_some h2 with ⟨c, fs, h3, rfl⟩ | ⟨fs, st2, h3, h4⟩
    · obtain ⟨fs', w', e, _⟩ := asFvs_at r1 hxs h3
      cases e
    · obtain ⟨fs', w2, e, l2, r2, q2⟩ := asFvs_at r1 hxs h3
      cases e
      rcases bnd_some h4 with ⟨c, fs2, h5, rfl⟩ | ⟨_, st3, h5, h6⟩
      · obtain ⟨e, _⟩ := putFs_at r2 hl q2 h5
        cases e
      · obtain ⟨_, e2, w3, l3, r3⟩ := putFs_at r2 hl q2 h5
        cases h6
        match xs, e2 with
        | [v, u], _ => exact ⟨v, u, rfl, p w3 _ H1 (l1.trans (l2.trans l3)) r3⟩
def dAsg (f : M Val) (g : Val → M Unit) : M Fl := bnd f fun v => bnd (g v) fun _ => ret .nx
def dAug (i : Nat) (g : Int → Int → Int) (f : M Val) : M Fl := fun s => match s.δ[i]? with
  | some (some (.t (.int n))) => (bnd f fun v => match v with
    | .t (.int m) => bnd (put i (.t (.int (g n m)))) fun _ => ret .nx
    | _ => stuck) s
  | _ => none
theorem sPar2 (i j : Nat) {x y : Str} {a b : Expr} {fa : M (List Val)} {px py pt pos : Pos} {kt k2 pt2} (hc : X.calm = true) (hN : X.N.Nodup) (ha : DA cl X [a, b] fa) (hi : X.N[i]? = some x := by rfl) (hj : X.N[j]? = some y := by rfl) (hij : i ≠ j := by decide)
    (hx : X.env.scope.names.lookup x = some .local := by rfl) (hy : X.env.scope.names.lookup y = some .local := by rfl)
    (hw : swappedStores [.Tuple [.Name x px, .Name y py] kt pt] (.Tuple [a, b] k2 pt2) X.env = pure (some [x, y]) := by rfl)
    (hs : swapsWithSole [.Tuple [.Name x px, .Name y py] kt pt] (.Tuple [a, b] k2 pt2) pos.line X.env = pure false := by rfl) :
    DS cl X (.Assign [.Tuple [.Name x px, .Name y py] kt pt] (.Tuple [a, b] k2 pt2) pos) (dPar [i, j] fa) := ds_par2 hc hN hi hj hij hx hy hw hs ha
@[simp] theorem Wp_dPar (is : List Nat) (fa : M (List Val)) (s : DSt) (Q : Out Fl → DSt → Prop) : Wp (dPar is fa) s Q = Wp fa s (Bk (fun vs => bnd (asFvs vs) fun fs => bnd (putFs is fs) fun _ => ret .nx) Q) := Wp_bnd _ _ _ _
@[simp] theorem Wp_putFs0 (s : DSt) (Q : Out Unit → DSt → Prop) : Wp (putFs [] []) s Q = Q (.ok ()) s := Wp_ret _ _ _
@[simp] theorem Wp_putFsC (i : Nat) (is : List Nat) (f : Fv) (fs : List Fv) (s : DSt) (Q : Out Unit → DSt → Prop) : Wp (putFs (i :: is) (f :: fs)) s Q = Wp (put i f.val) s (Bk (fun _ => putFs is fs) Q) := Wp_bnd _ _ _ _
@[simp] theorem Wp_dAsg (f : M Val) (g : Val → M Unit) (s : DSt) (Q : Out Fl → DSt → Prop) : Wp (dAsg f g) s Q = Wp f s (Bk (fun v => bnd (g v) fun _ => ret .nx) Q) := Wp_bnd _ _ _ _
end
end Lf
namespace Lf
open PySem PySem.Spec L2 PyProof.Rows
abbrev DC2 (kx vx t0 i0 : Expr) (c0 : List Expr) (t1 i1 : Expr) (c1 : List Expr) (sc : Scope) (ps : Pos) : Expr := .DictComp kx vx [⟨t0, i0, c0, 0⟩, ⟨t1, i1, c1, 0⟩] sc ps
section
variable {prog : Program} {w : World} {A : Around} {R : Result → Shared → Prop} {s : Shared} {kx vx t0 i0 t1 i1 : Expr} {c0 c1 : List Expr} {sc : Scope} {ps : Pos} {it acc : Value} {en : Env}
abbrev nb (prog : Program) (w : World) (A : Around) (en : Env) (R : Result → Shared → Prop) := notedBy (model prog w) A en fun e s' => R (.error e) s'
end
end Lf
namespace Lf
open PySem PySem.Spec L2
section
variable {X : Cx}
/-- the block of a comprehension -/
abbrev Bk3 (X : Cx) (P : Cx → Prop) (sc : Scope) : Prop := ∀ (s : Shared) (H : Hp) (C : Addr) (c : List (Str × Addr)) (fp : List Addr), P (X.blk s H sc (compEnvC sc c C X.env) fp)
def tDc2 (wa : TI) (ga : TG) (ta : TT) (wb : TI) (gb : TG) (tb : TT) (tk tv : TE) (vs ws : List Nat) : TE := fun σ H Q => wa σ H fun J H1 => ∀ D, H1 D = none → ∃ W : Nat → Nat → Hp → Prop, (∃ m, W 0 m (upd H1 D (.dK []))) ∧ ∀ i m H, W i m H →
  (J.stop i H ∧ Q (.ref D) H) ∨ (J.go i H ∧ ∃ Nx : Hp → Prop, (∀ H', Nx H' → ∃ m', m' < m ∧ W (i + 1) m' H') ∧ ∀ x H', J.yld i H x H' → ga x (wipe σ vs) H' fun σ2 H2 => wipe σ2 vs = wipe σ vs ∧ ta σ2 H2 fun b H3 =>
    if b = true then wb σ2 H3 fun J1 H4 => ∃ W1 : Nat → Nat → Hp → Prop, (∃ m, W1 0 m H4) ∧ ∀ j k H, W1 j k H →
      (J1.stop j H ∧ Nx H) ∨ (J1.go j H ∧ ∃ Nx1 : Hp → Prop, (∀ H', Nx1 H' → ∃ k', k' < k ∧ W1 (j + 1) k' H') ∧ ∀ x H', J1.yld j H x H' → gb x (wipe σ2 ws) H' fun σ3 H5 => wipe σ3 ws = wipe σ2 ws ∧ tb σ3 H5 fun b H6 =>
        if b = true then tk σ3 H6 fun y H7 => tv σ3 H7 fun z H8 => ∃ kvs k, y = kV k ∧ H8 D = some (.dK kvs) ∧ kvs.length < sizeLine ∧ Nx1 (upd H8 D (.dK (L2.putK kvs k z))) else Nx1 H6)
    else Nx H3)
end
end Lf
namespace Lf
open PySem PySem.Spec L2
section
variable {cl : Cl} {X : Cx}
def dcL2 (vs ws : List Nat) (g : Val → M Unit) (t : M Bool) (fi1 : M Its) (g1 : Val → M Unit) (t1 : M Bool) (fk fv : M Val) (chk : DSt → Bool) : List Val → List (Key × Fv) → M (List (Key × Fv))
  | [], acc => fun s => if chk s then some (.ok acc, s) else none
  | v :: r, acc => fun s => if chk s then bnd (g v) (fun _ => bnd t fun b => if b then bnd fi1 fun I1 => fun s1 => bnd (dcL ws g1 t1 fk fv I1.chk I1.items acc) (fun acc1 => fun s2 => dcL2 vs ws g t fi1 g1 t1 fk fv chk r acc1 { s2 with δ := wipeD s2.δ vs }) { s1 with δ := wipeD s1.δ ws }
      else fun s => dcL2 vs ws g t fi1 g1 t1 fk fv chk r acc { s with δ := wipeD s.δ vs }) s else none
def dcRun2 (vs ws : List Nat) (fi : M Its) (g : Val → M Unit) (t : M Bool) (fi1 : M Its) (g1 : Val → M Unit) (t1 : M Bool) (fk fv : M Val) : M (List (Key × Fv)) := bnd fi fun I => fun s => if noOwn s.δ vs then
    match hush (dcL2 vs ws g t fi1 g1 t1 fk fv I.chk I.items []) { s with δ := wipeD s.δ vs } with
    | some (.ok ys, s2) => some (.ok ys, { s2 with δ := backD s.δ s2.δ vs })
    | _ => none
  else none
def dDcF2 (vs ws : List Nat) (fi : M Its) (g : Val → M Unit) (t : M Bool) (fi1 : M Its) (g1 : Val → M Unit) (t1 : M Bool) (fk fv : M Val) : M Own := bnd (dcRun2 vs ws fi g t fi1 g1 t1 fk fv) fun acc => match plainD acc with
  | some l => ret (.dic false l)
  | none => stuck
end
end Lf
namespace Lf
open PySem PySem.Spec L2 PyProof.Rows
section
variable {cl : Cl} {X : Cx}
/-- list * int, tuple * int -/
def dRep (a b : Val) : M Val := fun s => match a, b with
  | .t (.tup ts), .t (.int k) => if 0 ≤ k ∧ k ≤ 1000 ∧ ts.length ≤ 1000 then some (.ok (.t (.tup (List.replicate k.toNat ts).flatten)), s) else none
  | a, .t (.int k) => match lstOf s a with
    | some ts => if 0 ≤ k ∧ k ≤ 1000 ∧ ts.length ≤ 1000 then some (.ok (.t (.lst (List.replicate k.toNat ts).flatten)), s) else none
    | none => none
  | _, _ => none
@[simp] theorem Wp_repT (ts : List T) (k : Nat) (s : DSt) (Q : Out Val → DSt → Prop) (h1 : k ≤ 1000) (h2 : ts.length ≤ 1000) : Wp (dRep (.t (.tup ts)) (.t (.int (k : Int)))) s Q = Q (.ok (.t (.tup (List.replicate k ts).flatten))) s := Wp_some (by
  simp [dRep, h2]
  omega)
@[simp] theorem Wp_repL (ts : List T) (k : Nat) (s : DSt) (Q : Out Val → DSt → Prop) (h1 : k ≤ 1000) (h2 : ts.length ≤ 1000) : Wp (dRep (.t (.lst ts)) (.t (.int (k : Int)))) s Q = Q (.ok (.t (.lst (List.replicate k ts).flatten))) s := Wp_some (by
  simp [dRep, lstOf, h2]
  omega)
end
end Lf
namespace Lf
open PySem PySem.Spec L2
section
variable {cl : Cl} {X : Cx}
end
end Lf
namespace Lf
open PySem PySem.Spec L2
section
variable {cl : Cl} {X : Cx}
end
end Lf
namespace Lf
open PySem PySem.Spec L2
section
variable {cl : Cl} {X : Cx}
def alt {α : Type} (f g : M α) : M α := fun s => match f s with
  | some r => some r
  | none => g s
/-- enumerate of a list or of a tuple -/
def iEnA (f : M (List Val)) : M Its := alt (iEnum f) (iEnT f)
end
end Lf
namespace Lf
open PySem PySem.Spec L2 PyProof.Rows
section
variable {prog : PySem.Program} {w : World} {A : Around} {E : Value → Shared → Prop} {s : Shared}
end
section
variable {cl : Cl} {X : Cx}
/-- sorted(xs), of a tuple of texts too -/
def dSortedA (vs : List Val) : M Own := fun s => match vs with
  | [.t (.tup ts)] => match strsT ts with
    | some xs => if xs.length < 64 then some (.ok (.lst ((srtS xs).map T.str)), s) else none
    | none => none
  | vs => dSorted vs s
def cutA (v : Val) (lo hi : Option Int) : M Val := fun s => match v with
  | .t (.tup ts) => some (.ok (.t (.tup (cutT ts lo hi))), s)
  | v => match lstOf s v with
    | some ts => some (.ok (.t (.lst (cutT ts lo hi))), s)
    | none => none
def dCutA (fa : M Val) (fl fh : M (Option Int)) : M Val := bnd fa fun v => bnd fl fun lo => bnd fh fun hi => cutA v lo hi
@[simp] theorem Wp_dCutA (fa : M Val) (fl fh : M (Option Int)) (s : DSt) (Q : Out Val → DSt → Prop) : Wp (dCutA fa fl fh) s Q = Wp fa s (Bk (fun v => bnd fl fun lo => bnd fh fun hi => cutA v lo hi) Q) := Wp_bnd _ _ _ _
@[simp] theorem Wp_cutAL (ts : List T) (lo hi : Option Int) (s : DSt) (Q : Out Val → DSt → Prop) : Wp (cutA (.t (.lst ts)) lo hi) s Q = Q (.ok (.t (.lst (cutT ts lo hi)))) s := Wp_some rfl
@[simp] theorem Wp_cutAT (ts : List T) (lo hi : Option Int) (s : DSt) (Q : Out Val → DSt → Prop) : Wp (cutA (.t (.tup ts)) lo hi) s Q = Q (.ok (.t (.tup (cutT ts lo hi)))) s := Wp_some rfl
def walkEnA (v : Val) : M Its := alt (walkEnum v) (walkEnumT v)
def enKA (vs : List Val) : M Its := match vs with
  | [v] => walkEnA v
  | _ => stuck
def iEnB (f : M (List Val)) : M Its := bnd f enKA
@[simp] theorem Wp_iEnB (f : M (List Val)) (s : DSt) (Q : Out Its → DSt → Prop) : Wp (iEnB f) s Q = Wp f s (Bk enKA Q) := Wp_bnd _ _ _ _
@[simp] theorem Wp_enKAL (xs : List T) (s : DSt) (Q : Out Its → DSt → Prop) : Wp (enKA [.t (.lst xs)]) s Q = Q (.ok ⟨enumV xs, fun _ => true⟩) s := Wp_some (by
  simp only [enKA, walkEnA, alt, walkEnum, lend, bnd, Lf.ret, seqOf, plains_t, still])
@[simp] theorem Wp_enKAT (xs : List T) (s : DSt) (Q : Out Its → DSt → Prop) : Wp (enKA [.t (.tup xs)]) s Q = Q (.ok ⟨enumV xs, fun _ => true⟩) s := Wp_some (by
  simp only [enKA, walkEnA, alt, walkEnum, walkEnumT, lend, bnd, Lf.ret, seqOf, plains_t, still])
end
end Lf
namespace Lf
open PySem PySem.Spec L2
def dcK3 (vs ws : List Nat) (g : Val → M Unit) (t : M Bool) (fi1 : M Its) (g1 : Val → M Unit) (t1 : M Bool) (fk fv : M Val) (I : Its) : M (List (Key × Fv)) := fun s => if noOwn s.δ vs then
    match hush (dcL2 vs ws g t fi1 g1 t1 fk fv I.chk I.items []) { s with δ := wipeD s.δ vs } with
    | some (.ok ys, s2) => some (.ok ys, { s2 with δ := backD s.δ s2.δ vs })
    | _ => none
  else none
@[simp] theorem Wp_dDcF2 (vs ws : List Nat) (fi : M Its) (g : Val → M Unit) (t : M Bool) (fi1 : M Its) (g1 : Val → M Unit) (t1 : M Bool) (fk fv : M Val) (s : DSt) (Q : Out Own → DSt → Prop) : Wp (dDcF2 vs ws fi g t fi1 g1 t1 fk fv) s Q = Wp fi s (Bk (dcK3 vs ws g t fi1 g1 t1 fk fv) (Bk plnDic Q)) := (Wp_bnd (dcRun2 vs ws fi g t fi1 g1 t1 fk fv) plnDic s Q).trans (Wp_bnd fi (dcK3 vs ws g t fi1 g1 t1 fk fv) s _)
def DJ (ws : List Nat) (g1 : Val → M Unit) (t1 : M Bool) (fk fv : M Val) (acc : List (Key × Fv)) (Nx : List (Key × Fv) → DSt → Prop) : Out Its → DSt → Prop
  | .ok I, s => ∃ ys s3, dcL ws g1 t1 fk fv I.chk I.items acc { s with δ := wipeD s.δ ws } = some (.ok ys, s3) ∧ Nx ys s3
  | .exc _ _, _ => False
def DH (fi1 : M Its) (ws : List Nat) (g1 : Val → M Unit) (t1 : M Bool) (fk fv : M Val) (acc : List (Key × Fv)) (Nx : List (Key × Fv) → DSt → Prop) : Out Bool → DSt → Prop
  | .ok b, s => if b = true then Wp fi1 s (DJ ws g1 t1 fk fv acc Nx) else Nx acc s
  | .exc _ _, _ => False
@[simp] theorem DH_true (fi1 : M Its) (ws : List Nat) (g1 : Val → M Unit) (t1 : M Bool) (fk fv : M Val) (acc : List (Key × Fv)) (Nx : List (Key × Fv) → DSt → Prop) (s : DSt) : DH fi1 ws g1 t1 fk fv acc Nx (.ok true) s = Wp fi1 s (DJ ws g1 t1 fk fv acc Nx) := by simp [DH]
@[simp] theorem DJ_ok (ws : List Nat) (g1 : Val → M Unit) (t1 : M Bool) (fk fv : M Val) (acc : List (Key × Fv)) (Nx : List (Key × Fv) → DSt → Prop) (I : Its) (s : DSt) : DJ ws g1 t1 fk fv acc Nx (.ok I) s = ∃ ys s3, dcL ws g1 t1 fk fv I.chk I.items acc { s with δ := wipeD s.δ ws } = some (.ok ys, s3) ∧ Nx ys s3 := rfl
def keyD (v : T) (ks : List Str) : List (Key × Fv) := ks.map fun x => ((Sum.inr x : Key), Fv.t v)
def addK (ks : List Str) (x : Str) : List Str := if x ∈ ks then ks else ks ++ [x]
end Lf
namespace Lf
open PySem PySem.Spec L2 PyProof.Rows
section
variable {prog : PySem.Program} {w : World} {A : Around} {R : Result → Shared → Prop} {I : Addr} {fp wr : List Addr} {n : Nat} {P : Nat → Value → Prop} {St : Nat → Heap → Prop} {kw : List (Str × Value)}
end
section
variable {prog : PySem.Program} {w : World} {A : Around} {E : Value → Shared → Prop} {s : Shared}
end
section
variable {cl : Cl} {X : Cx}
def mxI : Int → List Int → Int
  | m, [] => m
  | m, x :: r => mxI (if m < x then x else m) r
def mxD (v : Val) (vs : List Val) : M Val := fun s => match vs with
  | [u] => match lstOf s u with
    | some ts => match intsT ts with
      | some [] => some (.ok v, s)
      | some (m :: r) => some (.ok (.t (.int (mxI m r))), s)
      | none => none
    | none => none
  | _ => none
def dMaxD (fa : M (List Val)) (fd : M Val) : M Val := bnd fa fun vs => bnd fd fun d => mxD d vs
def dMax (vs : List Val) : M Val := fun s => match vs with
  | [.t (.int i), .t (.int j)] => some (.ok (.t (.int (if j > i then j else i))), s)
  | [v] => match lstOf s v with
    | some ts => match intsT ts with
      | some (m :: r) => some (.ok (.t (.int (mxI m r))), s)
      | _ => none
    | none => none
  | _ => none
@[simp] theorem Wp_dMaxD (fa : M (List Val)) (fd : M Val) (s : DSt) (Q : Out Val → DSt → Prop) : Wp (dMaxD fa fd) s Q = Wp fa s (Bk (fun vs => bnd fd fun d => mxD d vs) Q) := Wp_bnd _ _ _ _
@[simp] theorem Wp_max2 (i j : Int) (s : DSt) (Q : Out Val → DSt → Prop) : Wp (dMax [.t (.int i), .t (.int j)]) s Q = Q (.ok (.t (.int (if j > i then j else i)))) s := Wp_some rfl
end
end Lf
namespace Lf
open PySem PySem.Spec L2 PyProof.Rows
section
variable {prog : PySem.Program} {w : World} {A : Around} {E : Value → Shared → Prop}
theorem draw_walk {I : Addr} {fp wr : List Addr} {n : Nat} {items : Array Value} {St : Nat → Heap → Prop} (W : Walks prog w A I fp wr n (fun i v => items[i]? = some v) St) : ∀ (k j : Nat) (s : Shared) (Q : List Value → Shared → Prop), St j s.heap → j + k ≤ n → j + k ≤ items.size →
    (∀ h' tk, St (j + k) h' → (∀ b o, b ∉ wr → s.heap.get? b = some o → h'.get? b = some o) → Q ((items.toList.drop j).take k) { s with heap := h', toks := tk }) → wpAny (model prog w) A (draw (.ref I) k) Q E s
  | 0, j, s, Q, st, _, _, hQ => by
    show wpAny _ _ (pure []) Q E s
    exact wpAny_pure (by simpa using hQ s.heap s.toks st fun b o _ e => e)
  | k + 1, j, s, Q, st, hle, hle2, hQ => by
    have hlt : j < items.size := by omega
    show wpAny _ _ (pyNext (.ref I) >>= _) Q E s
    refine wpAny_bind (W.item j s _ _ (by omega) st fun v h1 tk1 hP st1 hk1 => ?_)
    refine wpAny_bind (wpAny_holding (draw_walk W k (j + 1) _ _ st1 (by omega) (by omega) fun h2 tk2 st2 hk2 => wpAny_pure ?_))
    have hv : items[j] = v := by
      have : items[j]? = some items[j] := by simp [hlt]
      rw [this] at hP
      exact Option.some.inj hP
    have hd : items.toList.drop j = v :: items.toList.drop (j + 1) := by rw [← hv]; simp [List.drop_eq_getElem_cons, hlt]
    have := hQ h2 tk2 (by rw [show j + (k + 1) = j + 1 + k by omega]; exact st2) fun b o hb e => hk2 b o hb (hk1 b o hb e)
    rw [hd, List.take_succ_cons] at this
    exact this
theorem unpack_list {s : Shared} {l : Addr} {items : Array Value} {targets : List (Bool × (Value → Sem Unit))} {Q : Unit → Shared → Prop} (hh : A.handled = none) (hl : s.heap.IsList l items) (hn : targets.length = items.size) (hstar : targets.findIdx? (·.1) = none)
    (h : ∀ h' tk, (∀ b o, s.heap.get? b = some o → h'.get? b = some o) → wpAny (model prog w) A (assignInOrder (targets.map (·.2)) items.toList) Q E { s with heap := h', toks := tk }) : wpAny (model prog w) A (PySem.unpack (.ref l) targets) Q E s := by
  have hlt : l < s.heap.objs.size := by obtain ⟨o, ho, _⟩ := hl; exact Heap.lt_size ho
  unfold PySem.unpack
  rw [hn, hstar]
  refine wpAny_bind (wpAny_holding ?_)
  unfold unpackItems
  refine wpAny_bind ?_
  unfold notIterableAtAll
  refine wpAny_bind (wpAny_specialOf hl.typeIs slot_list_iter.lookup ?_)
  refine wpAny_pure ?_
  simp only [Bool.false_eq_true, if_false]
  refine wpAny_bind (wpAny_holding (wpAny_pyIter_list hl ?_))
  have W := Walks.list (prog := prog) (w := w) (A := A) hh s.heap.objs.size l (Nat.ne_of_lt hlt) items
  refine wpAny_bind (wpAny_holding (draw_walk W items.size 0 _ _ ⟨⟨_, Heap.get?_push_size _ rfl, rfl, rfl⟩, hl.push _⟩ (by omega) (by omega) fun h1 tk1 st1 hk1 => ?_))
  have hall : List.take items.size (List.drop 0 items.toList) = items.toList := by rw [List.drop_zero]; exact List.take_of_length_le (by simp)
  rw [hall]
  rw [if_neg (by simp)]
  refine wpAny_bind (wpAny_holding (W.done _ _ _ (by simpa using st1) fun h2 tk2 hk2 => ?_))
  simp only [Option.isSome_none, Bool.false_eq_true, if_false]
  refine wpAny_pure (h h2 tk2 fun b o e => ?_)
  have hb : b ∉ [s.heap.objs.size] := fun z => by
    have z : b = s.heap.objs.size := by simpa using z
    have := Heap.lt_size e
    rw [z] at this
    exact Nat.lt_irrefl _ this
  exact hk2 b o hb (hk1 b o hb (Heap.get?_push_of_some _ e))
end
section
variable {cl : Cl} {X : Cx}
theorem pg_lst {es : List Expr} {k : Nat} {pos : Pos} {t : TGs} {n : Nat} (hc : X.calm = true) (h : PGs X es t) (hn : (assignEach es X.env).length = n := by rfl) (hst : (assignEach es X.env).findIdx? (·.1) = none := by rfl) : PG X (.Tuple es k pos) (fun v σ H Q => ∃ a xs, v = .ref a ∧ SqL X.K H a xs ∧ xs.length = n ∧ t xs σ H Q) := by
  refine ⟨fun pins s σ H v u Q I r hw => ?_⟩
  obtain ⟨a, xs, e1, hq, hl, hw⟩ := hw
  subst e1
  cases r
  obtain ⟨its, rv, ht, hz⟩ := I.list hq
  rw [assign_Tuple]
  refine wpAny_bind (wpAny_standAt (unpack_list (I.ok.hd hc) ht.isList (by simp [hn, ← hl, rv.length]) hst fun h' tk hx => ?_))
  exact h.run pins _ σ H xs _ Q (I.kept (t' := tk) hx) (by simpa using rv) hw
def unpackA (is : List Nat) : Val → M Unit
  | .t (.tup ts) => puts is ts
  | .t (.lst ts) => puts is ts
  | _ => stuck
theorem unpackA_quiet {is : List Nat} : Quiet (unpackA is) := fun v s c fs s' h => by
  unfold unpackA at h
  split at h
  · exact puts_quiet h
  · exact puts_quiet h
  · cases h
theorem dg_tupA {es : List Expr} {is : List Nat} {k : Nat} {pos : Pos} (hc : X.calm = true) (hN : X.N.Nodup) (hn : NmA X es is) : DG cl X (.Tuple es k pos) is (unpackA is) := fun W cw w st σ H Q v y u st' pins s r hv h p I ru => by
  obtain ⟨q, l1, l2⟩ := pgs_names (X := X) hN hn
  unfold unpackA at h
  split at h
  · exact dg_tup (k := k) (pos := pos) hc hN hn W cw w st σ H Q _ y u st' pins s r hv h p I ru
  · rename_i ts
    cases hv with
    | lst e1 e2 =>
      obtain ⟨a1, a2, a3, a4⟩ := puts_at r (fun i hi => by rw [I.len]; exact hn.lt i hi) e2 h
      exact (pg_lst (X := X) (k := k) (pos := pos) (n := is.length) hc q l1 l2).run pins s σ H _ u Q I ru ⟨_, _, rfl, SqL.of (r.rc.lst e1), a4, a4, p w _ H (Le.refl _ _) a1 a2 a3⟩
  · cases h
@[simp] theorem Wp_unpackA2 (i j : Nat) (a b : T) (δ : List (Option Slot)) (μ : List Cell) (Q : Out Unit → DSt → Prop) : Wp (unpackA [i, j] (.t (.tup [a, b]))) ⟨δ, μ⟩ Q = Q (.ok ()) ⟨(δ.set i (some (.t a))).set j (some (.t b)), μ⟩ := Wp_some rfl
@[simp] theorem Wp_unpackL2 (i j : Nat) (a b : T) (δ : List (Option Slot)) (μ : List Cell) (Q : Out Unit → DSt → Prop) : Wp (unpackA [i, j] (.t (.lst [a, b]))) ⟨δ, μ⟩ Q = Q (.ok ()) ⟨(δ.set i (some (.t a))).set j (some (.t b)), μ⟩ := Wp_some rfl
@[simp] theorem Wp_unpackL3 (i j k : Nat) (a b c : T) (δ : List (Option Slot)) (μ : List Cell) (Q : Out Unit → DSt → Prop) : Wp (unpackA [i, j, k] (.t (.lst [a, b, c]))) ⟨δ, μ⟩ Q = Q (.ok ()) ⟨((δ.set i (some (.t a))).set j (some (.t b))).set k (some (.t c)), μ⟩ := Wp_some rfl
def rgT (a b : Int) : List T := (List.range (b - a).toNat).map fun i => T.int (a + (i : Nat))
def lrg (a b : Int) : M Own := fun s => if decide (-(2 ^ 20) ≤ a) && decide (a < 2 ^ 20) && decide (-(2 ^ 20) ≤ b) && decide (b < 2 ^ 20) then some (.ok (.lst (rgT a b)), s) else none
def dLR1 (f : M Val) : M Own := bnd f fun v => match v with
  | .t (.int b) => lrg 0 b
  | _ => stuck
def dLR2 (f g : M Val) : M Own := bnd f fun v => bnd g fun u => match v, u with
  | .t (.int a), .t (.int b) => lrg a b
  | _, _ => stuck
@[simp] theorem Wp_dLR1 (f : M Val) (s : DSt) (Q : Out Own → DSt → Prop) : Wp (dLR1 f) s Q = Wp f s (Bk (fun v => match v with
  | .t (.int b) => lrg 0 b
  | _ => stuck) Q) := Wp_bnd _ _ _ _
end
end Lf
namespace Lf
open PySem PySem.Spec L2
section
variable {cl : Cl} {X : Cx}
def dMeth0 (fo : M Val) (g : Val → List Val → M Val) : M Val := bnd fo fun v => fun s => if isLst s v then g v [] s else none
def mPop (v : Val) (vs : List Val) : M Val := fun s => match vs with
  | [] => match getL s v with
    | some xs => match xs[xs.length - 1]? with
      | some f => match setL s v xs.dropLast with
        | some s' => some (.ok f.val, s')
        | none => none
      | none => none
    | none => none
  | _ => none
def mClear (v : Val) (vs : List Val) : M Val := fun s => match vs with
  | [] => match getL s v with
    | some xs => match setL s v [] with
      | some s' => some (.ok (.t .non), s')
      | none => none
    | none => none
  | _ => none
def mExtend (v : Val) (vs : List Val) : M Val := fun s => match vs with
  | [a] => match getL s v with
    | some xs => match lstOf s a with
      | some ts => if xs.length + ts.length ≤ sizeLine then match setL s v (xs ++ ts.map Fv.t) with
          | some s' => some (.ok (.t .non), s')
          | none => none
        else none
      | none => none
    | none => none
  | _ => none
def mInsert (v : Val) (vs : List Val) : M Val := match vs with
  | [.t (.int i), a] => bnd (asFv a) fun f => fun s => match getL s v with
    | some xs => if decide (xs.length < sizeLine) && decide (0 ≤ i) && decide (i < 2 ^ 63) then match setL s v (xs.take i.toNat ++ [f] ++ xs.drop i.toNat) with
        | some s' => some (.ok (.t .non), s')
        | none => none
      else none
    | none => none
  | _ => stuck
def methK0 (g : Val → List Val → M Val) (v : Val) : M Val := fun s => if isLst s v then g v [] s else none
@[simp] theorem Wp_dMeth0 (fo : M Val) (g : Val → List Val → M Val) (s : DSt) (Q : Out Val → DSt → Prop) : Wp (dMeth0 fo g) s Q = Wp fo s (Bk (methK0 g) Q) := Wp_bnd _ _ _ _
end
end Lf
namespace Lf
open PySem PySem.Spec L2
section
variable {cl : Cl} {X : Cx}
def pairsT : List T → Option (List (Key × T))
  | [] => some []
  | .tup [k, x] :: r => match keyT k, pairsT r with
    | some kk, some l => some ((kk, x) :: l)
    | _, _ => none
  | _ :: _ => none
def mergeA {α : Type} (acc : List (Key × α)) (l : List (Key × α)) : List (Key × α) := l.foldl (fun a p => putA a p.1 p.2) acc
def dDictP (vs : List Val) : M Own := fun s => match vs with
  | [v] => match lstOf s v with
    | some ts => match pairsT ts with
      | some kvs => some (.ok (.dic false (mergeA [] kvs)), s)
      | none => none
    | none => none
  | _ => none
def gtK (a : Val) (b : Val) (d : Val) : M Val := fun s => match dcK s a with
  | some kvs => match b with
    | .t x => match keyT x with
      | some k => match look kvs k with
        | some f => some (.ok f.val, s)
        | none => some (.ok d, s)
      | none => none
    | _ => none
  | none => none
def isDc (a : Val) : M Unit := fun s => if (dcK s a).isSome then some (.ok (), s) else none
def dGet1 (fo fk : M Val) : M Val := bnd fo fun a => bnd (isDc a) fun _ => bnd fk fun b => gtK a b (.t .non)
def dGet2 (fo fk fd : M Val) : M Val := bnd fo fun a => bnd (isDc a) fun _ => bnd fk fun b => bnd fd fun d => gtK a b d
@[simp] theorem Wp_dGet1 (fo fk : M Val) (s : DSt) (Q : Out Val → DSt → Prop) : Wp (dGet1 fo fk) s Q = Wp fo s (Bk (fun a => bnd (isDc a) fun _ => bnd fk fun b => gtK a b (.t .non)) Q) := Wp_bnd _ _ _ _
@[simp] theorem Wp_dGet2 (fo fk fd : M Val) (s : DSt) (Q : Out Val → DSt → Prop) : Wp (dGet2 fo fk fd) s Q = Wp fo s (Bk (fun a => bnd (isDc a) fun _ => bnd fk fun b => bnd fd fun d => gtK a b d) Q) := Wp_bnd _ _ _ _
end
end Lf
namespace Lf
open PySem PySem.Spec L2
section
variable {cl : Cl} {X : Cx}
section
variable (i : Nat) {y : Str} {py : Pos} {kx vx tg iter : Expr} {ifs : List Expr} {scope : Scope} {own : List (Str × Nat)} {pos spos : Pos} {fi : M Its} {g : Val → M Unit} {ft : M Bool} {fk fv : M Val}
end
end
end Lf
namespace Lf
open PySem PySem.Spec L2
mutual
theorem eqv_self : ∀ d : PyData, d.canLay0 = true → PyData.eqv d d = true
  | .none, _ => rfl
  | .bool b, _ => by simp [PyData.eqv]
  | .int i, _ => by simp [PyData.eqv]
  | .str x, _ => by simp [PyData.eqv]
  | .list xs, h => by simp only [PyData.eqv]; exact eqvs_self xs h
  | .tuple xs, h => by simp only [PyData.eqv]; exact eqvs_self xs h
  | .dict kv, h => by simp [PyData.canLay0] at h
theorem eqvs_self : ∀ ds : List PyData, PyData.canLayAll0 ds = true → PyData.eqvAll ds ds = true
  | [], _ => rfl
  | d :: r, h => by
    simp only [PyData.canLayAll0, Bool.and_eq_true] at h
    simp only [PyData.eqvAll, eqv_self d h.1, eqvs_self r h.2, Bool.and_self]
end
/-- x can be compared; at most k deep -/
def Pk (k : Nat) (x : T) : Prop := ∃ d, T.pd x = some d ∧ d.canLay0 = true ∧ d.depth ≤ k
def Pks (k : Nat) (xs : List T) : Prop := ∃ ds, T.pds xs = some ds ∧ PyData.canLayAll0 ds = true ∧ PyData.depthAll ds ≤ k
theorem Pk.mono {k m : Nat} {x : T} (h : Pk k x) (hm : k ≤ m) : Pk m x := by
  obtain ⟨d, a, b, c⟩ := h
  exact ⟨d, a, b, Nat.le_trans c hm⟩
theorem pk_bl {k : Nat} (b : Bool) : Pk k (.bl b) := ⟨.bool b, rfl, rfl, by simp [PyData.depth]⟩
theorem pk_int {k : Nat} (b : Int) : Pk k (.int b) := ⟨.int b, rfl, rfl, by simp [PyData.depth]⟩
theorem pk_str {k : Nat} {x : Str} (h : PyData.strOk x = true) : Pk k (.str x) := ⟨.str x, rfl, h, by simp [PyData.depth]⟩
theorem pks {k : Nat} : ∀ {xs : List T}, (∀ x ∈ xs, Pk k x) → Pks k xs
  | [], _ => ⟨[], rfl, rfl, by simp [PyData.depthAll]⟩
  | x :: r, h => by
    obtain ⟨d, a, b, c⟩ := h x (by simp)
    obtain ⟨ds, a2, b2, c2⟩ := pks (xs := r) fun y hy => h y (List.mem_cons_of_mem _ hy)
    refine ⟨d :: ds, by simp only [T.pds, a, a2], by simp only [PyData.canLayAll0, b, b2, Bool.and_self], ?_⟩
    simp only [PyData.depthAll]
    omega
theorem pk_lst {k : Nat} {xs : List T} (h : ∀ x ∈ xs, Pk k x) : Pk (k + 1) (.lst xs) := by
  obtain ⟨ds, a, b, c⟩ := pks h
  exact ⟨.list ds, by simp only [T.pd, a, Option.map_some], b, by simp only [PyData.depth]; omega⟩
theorem pk_tup {k : Nat} {xs : List T} (h : ∀ x ∈ xs, Pk k x) : Pk (k + 1) (.tup xs) := by
  obtain ⟨ds, a, b, c⟩ := pks h
  exact ⟨.tuple ds, by simp only [T.pd, a, Option.map_some], b, by simp only [PyData.depth]; omega⟩
theorem Pk.shaped {k : Nat} {x : T} {d : PyData} (h : d.canLay0 = true) (hd : d.depth ≤ k) (hk : k ≤ 64) : SeqAt.shaped d = true := by
  unfold SeqAt.shaped
  rw [h]
  simp
  omega
theorem Wp_eqR (neg : Bool) {k : Nat} {x : T} (h : Pk k x) (hk : k ≤ 64) (s : DSt) (Q : Out Val → DSt → Prop) : Wp (dEq neg (.t x) (.t x)) s Q = Q (.ok (.t (.bl (!neg)))) s := by
  obtain ⟨d, a, b, c⟩ := h
  have hs := Pk.shaped (x := x) b c hk
  refine Wp_some ?_
  simp only [dEq, valPd, a, hs, Bool.and_self, if_true, eqv_self d b]
  cases neg <;> rfl
/-- no truth values in it -/
inductive Nb : T → Prop
  | non : Nb .non
  | int (i : Int) : Nb (.int i)
  | str (x : Str) : Nb (.str x)
  | lst {xs : List T} : (∀ x ∈ xs, Nb x) → Nb (.lst xs)
  | tup {xs : List T} : (∀ x ∈ xs, Nb x) → Nb (.tup xs)
theorem map_some {α β : Type} {f : α → β} {o : Option α} {b : β} (h : o.map f = some b) : ∃ a, o = some a ∧ f a = b := by
  cases o with
  | none => cases h
  | some a => exact ⟨a, rfl, Option.some.inj h⟩
noncomputable def eqT (x y : T) : Bool := @decide (x = y) (Classical.propDecidable _)
end Lf
namespace Lf
open PySem PySem.Spec L2 PyProof.Rows
abbrev Hnd := Value × Option Nat × (Addr → Value → Option Addr → TS)
/-- what the clauses wish, one behind the other -/
def wAll (K : PySem.W.Frag) (Wo : WX) (D : Ends) : List Hnd → WX
  | [] => Wo
  | (c, none, ts) :: r => fun cls d σ H => ∃ b, PySem.W.exmOne K cls c = some b ∧ (b = true → ∀ a, H a = none → ts a cls d D σ H) ∧ (b = false → wAll K Wo D r cls d σ H)
  | (c, some i, ts) :: r => fun cls d σ H => ∃ b, PySem.W.exmOne K cls c = some b ∧ (b = true → ∀ a, H a = none → ts a cls d { nx := fun σ' H' => D.nx (σ'.set i none) H', rt := D.rt, bk := fun σ' H' => D.bk (σ'.set i none) H', ct := fun σ' H' => D.ct (σ'.set i none) H' } (σ.set i (some (.ref a))) H) ∧ (b = false → wAll K Wo D r cls d σ H)
abbrev SuOk (X : Cx) (su : List Stmt) (ts : Addr → Value → Option Addr → TS) : Prop := ∀ (a : Addr) (oe : Obj) (cls : Value) (d : Option Addr) (pn : List (Addr × Obj)), Zc cls d oe → (∃ vs, oe.data = .fields vs) → PSs (X.suite a ((a, oe) :: pn)) su (ts a cls d)
inductive HdA (X : Cx) : List ExceptHandler → List Hnd → Prop
  | nil : HdA X [] []
  | bare {x : Str} {c : Value} {ts : Addr → Value → Option Addr → TS} {b₀ : Stmt} {su : List Stmt} {np q : Pos} {hds : List ExceptHandler} {l : List Hnd} (hc : Names X x c) (hu : SuOk X (b₀ :: su) ts) (r : HdA X hds l) : HdA X (.ExceptHandler (some (.Name x np)) none (b₀ :: su) q :: hds) ((c, none, ts) :: l)
  | named {x n : Str} {i : Nat} {c : Value} {ts : Addr → Value → Option Addr → TS} {b₀ : Stmt} {su : List Stmt} {np q : Pos} {hds : List ExceptHandler} {l : List Hnd} (hi : X.N[i]? = some n) (hln : X.env.kindOf n = some .local) (hc : Names X x c) (hu : SuOk X (b₀ :: su) ts) (r : HdA X hds l) : HdA X (.ExceptHandler (some (.Name x np)) (some n) (b₀ :: su) q :: hds) ((c, some i, ts) :: l)
section
variable {X : Cx} {body : List Stmt} {h₀ : ExceptHandler} {hds : List ExceptHandler} {l : List Hnd} {pos : Pos} {tb : WX → TS} {Wo : WX}
end
end Lf
namespace Lf
open PySem PySem.Spec L2
section
variable {cl : Cl} {X : Cx}
structure Clz where
  ms : Str → Option Bool
  cs : List Str
  oi : Option Nat
  g : List (Str × T) → Option T
def hnd : List Clz → Str → List (Str × T) → M Fl
  | [], c, fs => fun s => some (.exc c fs, s)
  | k :: r, c, fs => fun s => match k.ms c with
    | some true => match k.oi with
      | some i => if (c ∈ k.cs ∧ fs ≠ []) ∧ i < s.δ.length then match k.g fs with
          | some t => some (.ok (.rt (.t t)), { s with δ := s.δ.set i none })
          | none => none
        else none
      | none => match k.g [] with
        | some t => some (.ok (.rt (.t t)), s)
        | none => none
    | some false => hnd r c fs s
    | none => none
/-- try: f / except ..: return .. / except ..: return .. -/
def dTryA (l : List Clz) (f : M Fl) : M Fl := fun s => match f s with
  | some (.exc c fs, s1) => hnd l c fs s1
  | r => r
/-- an expression of a suite that has no name for the exception -/
def DX0 (cl : Cl) (X : Cx) (e : Expr) (t : T) : Prop := ∀ (a : Addr) (oe : Obj) (pn : List (Addr × Obj)) (w : Wd) (st : DSt) (σ : L2.St) (H : Hp) (Q : VK), R X.K cl w st σ H → (∀ w' H' x, Le w H w' H' → R X.K cl w' st σ H' → Rep X.K cl w'.G t x → Q x H') → WE (X.suite a ((a, oe) :: pn)) e σ H Q
def DX0s (cl : Cl) (X : Cx) (es : List Expr) (t : List T) : Prop := ∀ (a : Addr) (oe : Obj) (pn : List (Addr × Obj)) (w : Wd) (st : DSt) (σ : L2.St) (H : Hp) (Q : List V → Hp → Prop), R X.K cl w st σ H → (∀ w' H' xs, Le w H w' H' → R X.K cl w' st σ H' → Reps X.K cl w'.G t xs → Q xs H') → WA (X.suite a ((a, oe) :: pn)) es σ H Q
inductive HC (cl : Cl) (X : Cx) : List ExceptHandler → List Clz → Prop
  | nil : HC cl X [] []
  | named {x n : Str} {c : Value} {i : Nat} {e : Expr} {np rp q : Pos} {ms : Str → Option Bool} {cs : List Str} {g : List (Str × T) → Option T} {hds : List ExceptHandler} {l : List Clz} (hi : X.N[i]? = some n) (hln : X.env.kindOf n = some .local) (hc : Names X x c) (hms : ∀ d C b, cl d = some C → ms d = some b → PySem.W.exmOne X.K (.ref C) c = some b) (hg : DX cl X n i cs e g) (r : HC cl X hds l) :
      HC cl X (.ExceptHandler (some (.Name x np)) (some n) [.Return (some e) rp] q :: hds) (⟨ms, cs, some i, g⟩ :: l)
  | bare {x : Str} {c : Value} {e : Expr} {np rp q : Pos} {ms : Str → Option Bool} {t : T} {hds : List ExceptHandler} {l : List Clz} (hc : Names X x c) (hms : ∀ d C b, cl d = some C → ms d = some b → PySem.W.exmOne X.K (.ref C) c = some b) (hg : DX0 cl X e t) (r : HC cl X hds l) :
      HC cl X (.ExceptHandler (some (.Name x np)) none [.Return (some e) rp] q :: hds) (⟨ms, [], none, fun _ => some t⟩ :: l)
abbrev tsOf (X : Cx) (e : Expr) (rp : Pos) : Addr → Value → Option Addr → TS := fun a cls d D σ H => ∀ (oe : Obj) (pn : List (Addr × Obj)), Zc cls d oe → (∃ us, oe.data = .fields us) → WSs (X.suite a ((a, oe) :: pn)) [.Return (some e) rp] D σ H
theorem suOk {e : Expr} {rp : Pos} : SuOk X [.Return (some e) rp] (tsOf X e rp) := fun a oe cls d pn hz hd => ⟨fun pins s σ H D I h => h oe pn hz hd pins s I⟩
theorem HC.run {hds : List ExceptHandler} {l : List Clz} (h : HC cl X hds l) : ∃ lh, HdA X hds lh ∧ ∀ (W : WX) (w : Wd) (H : Hp) (D : Ends) (o : Out Fl) (st1 st' : DSt) (w1 : Wd) (σ1 : L2.St) (H1 : Hp) (d : Str) (C : Addr) (fs : List (Str × T)) (dd : Option Addr), Le w H w1 H1 → R X.K cl w1 st1 σ1 H1 → cl d = some C → (fs = [] ∨ ∃ d1 vs, dd = some d1 ∧ H1 d1 = some (.xd vs) ∧ RepF X.K cl w1.G fs vs) →
    hnd l d fs st1 = some (o, st') → SPost cl X W w H D o st' → wAll X.K W D lh (.ref C) dd σ1 H1 := by
  induction h with
  | nil =>
    refine ⟨[], .nil, fun W w H D o st1 st' w1 σ1 H1 d C fs dd l1 r1 hC hx hh pp => ?_⟩
    cases hh
    exact pp w1 σ1 H1 _ _ l1 r1 ⟨C, hC, rfl, hx⟩
  | @named x n c i e np rp q ms cs g hds l hi hln hc hms hg r ih =>
    obtain ⟨lh, a1, a2⟩ := ih
    refine ⟨(c, some i, tsOf X e rp) :: lh, .named hi hln hc suOk a1, fun W w H D o st1 st' w1 σ1 H1 d C fs dd l1 r1 hC hx hh pp => ?_⟩
    unfold hnd at hh
    dsimp only at hh
    split at hh
    · rename_i em
      refine ⟨true, hms d C true hC em, fun _ a ha oe pn' hz hdt => ?_, fun z => by cases z⟩
      split at hh
      · rename_i hcond
        obtain ⟨⟨hcs, hne⟩, hil0⟩ := hcond
        split at hh
        · rename_i t et
          cases hh
          rcases hx with hx | ⟨d1, vs1, rfl, q2, q3⟩
          · exact absurd hx hne
          · refine PSs.ws (pss_cons (ps_ret peW) pss_nil) ?_
            have hil : i < σ1.length := by rw [← r1.slen]; exact hil0
            refine hg a oe pn' d C d1 vs1 fs t w1 _ _ H1 _ hz hdt hC hcs (r1.clear i (some (.ref a))) (by rw [List.getElem?_set_self hil]) q2 q3 et fun w2 H2 y l2 r2 _ ry => ?_
            exact pp w2 _ H2 (l1.trans l2) r2 y ry
        · cases hh
      · cases hh
    · rename_i em
      exact ⟨false, hms d C false hC em, fun z => absurd z (by decide), fun _ => a2 W w H D o st1 st' w1 σ1 H1 d C fs dd l1 r1 hC hx hh pp⟩
    · cases hh
  | @bare x c e np rp q ms t hds l hc hms hg r ih =>
    obtain ⟨lh, a1, a2⟩ := ih
    refine ⟨(c, none, tsOf X e rp) :: lh, .bare hc suOk a1, fun W w H D o st1 st' w1 σ1 H1 d C fs dd l1 r1 hC hx hh pp => ?_⟩
    unfold hnd at hh
    dsimp only at hh
    split at hh
    · rename_i em
      cases hh
      refine ⟨true, hms d C true hC em, fun _ a ha oe pn' hz hdt => ?_, fun z => by cases z⟩
      refine PSs.ws (pss_cons (ps_ret peW) pss_nil) ?_
      exact hg a oe pn' w1 _ _ H1 _ r1 fun w2 H2 y l2 r2 ry => pp w2 _ H2 (l1.trans l2) r2 y ry
    · rename_i em
      exact ⟨false, hms d C false hC em, fun z => absurd z (by decide), fun _ => a2 W w H D o st1 st' w1 σ1 H1 d C fs dd l1 r1 hC hx hh pp⟩
    · cases hh
def Ta (l : List Clz) (Q : Out Fl → DSt → Prop) : Out Fl → DSt → Prop
  | .exc c fs, s => Wp (hnd l c fs) s Q
  | o, s => Q o s
@[simp] theorem Ta_ok (l : List Clz) (Q : Out Fl → DSt → Prop) (v : Fl) (s : DSt) : Ta l Q (.ok v) s = Q (.ok v) s := rfl
@[simp] theorem Ta_exc (l : List Clz) (Q : Out Fl → DSt → Prop) (c : Str) (fs : List (Str × T)) (s : DSt) : Ta l Q (.exc c fs) s = Wp (hnd l c fs) s Q := rfl
end
end Lf
namespace Lf
open PySem PySem.Spec L2 PyProof.Rows
section
variable {X : Cx} {pins : List (Addr × Obj)} {σ : L2.St} {H : Hp} {s : Shared}
end
section
variable {cl : Cl} {K : PySem.W.Frag}
end
end Lf
namespace Lf
open PySem PySem.Spec L2 PyProof.Rows
/-- the receiver's context -/
abbrev rcvCx (X : Cx) (Ng : List Str) (x : Str) (sg : Scope) (g : Addr) (cdg : Value) (s : Shared) (H : Hp) : Cx := cxOf C8.CX0 X.prog X.w X.K X.mg X.base Ng x sg g cdg X.A X.stack s H C8.E0
/-- x(lambda: fb), x being: try: ask() / except .. / return f0 -/
def dLamA (n : Nat) (q : Str) (m : Nat) (l : List Clz) (f0 : M Val) (fb : M Val) : M Val := fun s =>
  match s.μ[n]? with
  | some (.tab q') => if q' = q then
      match fb s with
      | some (.ok _, s1) => match f0 ⟨List.replicate m none, s1.μ⟩ with
          | some (.ok (.t t), s2) => some (.ok (.t t), { s1 with μ := s2.μ })
          | _ => none
      | some (.exc c fs, s1) => match hnd l c fs ⟨List.replicate m none, s1.μ⟩ with
          | some (.ok (.rt (.t t)), s2) => some (.ok (.t t), { s1 with μ := s2.μ })
          | _ => none
      | none => none
    else none
  | _ => none
section
variable {cl : Cl} {X : Cx}
end
end Lf
namespace Lf
open PySem PySem.Spec L2
/-- behind the lambda's body: what the receiver makes of it -/
def Lm (m : Nat) (l : List Clz) (f0 : M Val) (Q : Out Val → DSt → Prop) : Out Val → DSt → Prop
  | .ok _, s1 => Wp f0 ⟨List.replicate m none, s1.μ⟩ fun o s2 => ∃ t, o = .ok (.t t) ∧ Q (.ok (.t t)) { s1 with μ := s2.μ }
  | .exc c fs, s1 => Wp (hnd l c fs) ⟨List.replicate m none, s1.μ⟩ fun o s2 => ∃ t, o = .ok (.rt (.t t)) ∧ Q (.ok (.t t)) { s1 with μ := s2.μ }
@[simp] theorem Lm_ok (m : Nat) (l : List Clz) (f0 : M Val) (Q : Out Val → DSt → Prop) (v : Val) (s : DSt) : Lm m l f0 Q (.ok v) s = Wp f0 ⟨List.replicate m none, s.μ⟩ fun o s2 => ∃ t, o = .ok (.t t) ∧ Q (.ok (.t t)) { s with μ := s2.μ } := rfl
@[simp] theorem Lm_exc (m : Nat) (l : List Clz) (f0 : M Val) (Q : Out Val → DSt → Prop) (c : Str) (fs : List (Str × T)) (s : DSt) : Lm m l f0 Q (.exc c fs) s = Wp (hnd l c fs) ⟨List.replicate m none, s.μ⟩ fun o s2 => ∃ t, o = .ok (.rt (.t t)) ∧ Q (.ok (.t t)) { s with μ := s2.μ } := rfl
end Lf
namespace Lf
open PySem PySem.Spec L2
def nkT : NKey → T
  | (l, none) => .tup [.tup (l.map keyTree), .non]
  | (l, some ks) => .tup [.tup (l.map keyTree), .tup (ks.map keyTree)]
def dnlOf (s : DSt) : Val → Option (List (NKey × Int))
  | .loc n => match s.μ[n]? with
    | some (.dnl kvs) => some kvs
    | _ => none
  | _ => none
def lockN (v : Val) : M (List (NKey × Int)) := fun s => match v with
  | .loc n => match s.μ[n]? with
    | some (.dnn kvs) => some (.ok kvs, { s with μ := s.μ.set n (.dnl kvs) })
    | some (.dnl kvs) => some (.ok kvs, s)
    | _ => none
  | _ => none
def walkN (v : Val) : M Its := bnd (lockN v) fun kvs => ret ⟨kvs.map fun p => .t (nkT p.1), fun _ => true⟩
def iKeyN (f : M Val) : M Its := bnd f walkN
section
variable {cl : Cl} {X : Cx} {K : PySem.W.Frag}
/-- the keys of the locked dict at d -/
def Itn (W : World) (d : Addr) (o : Obj) (xs : List (NKey × Addr × Value)) : It :=
  ⟨fun i H => H d = some (.frz o (DNo W d xs)) ∧ i < xs.length, fun i H x H' => H' = H ∧ ∃ q, xs[i]? = some q ∧ x = .ref q.2.1, fun i H => H d = some (.frz o (DNo W d xs)) ∧ xs.length ≤ i⟩
theorem Inv.frzN {pins : List (Addr × Obj)} {σ : L2.St} {H : Hp} {s : Shared} {W : World} {d : Addr} {o : Obj} {xs : List (NKey × Addr × Value)} (I : Inv X pins σ H s) (h : H d = some (.frz o (DNo W d xs))) :
    (d == sysModules) = false ∧ s.heap.get? d = some o ∧ o.ExactDict ∧ (xs.map (·.1)).Nodup ∧ ∃ (es : Array DictEntry) (ep : Nat), o.data = .dict es ep ∧ es.toList = xs.map (fun q => ⟨nHash W q.1, .ref q.2.1, q.2.2⟩) := by
  obtain ⟨hd, ⟨h0, h1, o', es, ep, ho, hx, hdt, he⟩, _⟩ := (show ObjOk X.prog X.w H s.heap d (.frz o (DNo W d xs)) from I.hok d _ h)
  rw [hd] at ho
  cases ho
  exact ⟨h0, hd, hx, h1, es, ep, hdt, he⟩
def iKeysN (td : TE) : TI := fun σ H R => td σ H fun x H1 => ∃ (W : World) (d : Addr) (o : Obj) (xs : List (NKey × Addr × Value)), x = .ref d ∧ H1 d = some (.frz o (DNo W d xs)) ∧ R (Itn W d o xs) H1
def dIxL (a b : Val) : M Val := fun s => match dnlOf s a with
  | some kvs => match b with
    | .t x => match nkeyT x with
      | some k => match look kvs k with
        | some i => some (.ok (.t (.int i)), s)
        | none => none
      | none => none
    | _ => none
  | none => none
end
end Lf
namespace Lf
open PySem PySem.Spec L2
@[simp] theorem Wp_iKeyN (f : M Val) (s : DSt) (Q : Out Its → DSt → Prop) : Wp (iKeyN f) s Q = Wp f s (Bk walkN Q) := Wp_bnd _ _ _ _
end Lf
namespace Lf
open PySem PySem.Spec L2
def feO : HO → Bool
  | .frz _ (.ext _) => true
  | .frz _ (.dK _) => true
  | _ => false
def SameX (G G' : Hp) : Prop := ∀ b u, G b = some u → feO u = false → G' b = some u
section
variable {cl : Cl} {X : Cx} {K : PySem.W.Frag}
theorem sqL_X {G G' : Hp} {a : Addr} {xs : List V} (s : SameX G G') (h : SqL K G a xs) : SqL K G' a xs := by
  rcases h with (h | ⟨o, h⟩) | h
  · exact .inl (.inl (s _ _ h rfl))
  · exact .inl (.inr ⟨o, s _ _ h rfl⟩)
  · exact .inr h
mutual
theorem Rep.monoX {G G' : Hp} (s : SameX G G') : ∀ {t : T} {v : V}, Rep K cl G t v → Rep K cl G' t v
  | _, _, .non => .non
  | _, _, .bl b => .bl b
  | _, _, .int b => .int b
  | _, _, .str b => .str b
  | _, _, .lst h r => .lst (s _ _ h rfl) (Reps.monoX s r)
  | _, _, .fro h r => .fro (sqL_X s h) (Reps.monoX s r)
  | _, _, .tup h r => .tup (s _ _ h rfl) (Reps.monoX s r)
  | _, _, .dic h r => .dic (s _ _ h rfl) (RepD.monoX s r)
  | _, _, .dit h r => .dit (s _ _ h rfl) (RepE.monoX s r)
  | _, _, .obj c h r => .obj c (s _ _ h rfl) (RepF.monoX s r)
  | _, _, .exo c h h2 r => .exo c (s _ _ h rfl) (s _ _ h2 rfl) (RepF.monoX s r)
  | _, _, .ex0 c h => .ex0 c (s _ _ h rfl)
theorem Reps.monoX {G G' : Hp} (s : SameX G G') : ∀ {t : List T} {v : List V}, Reps K cl G t v → Reps K cl G' t v
  | _, _, .nil => .nil
  | _, _, .cons h r => .cons (Rep.monoX s h) (Reps.monoX s r)
theorem RepD.monoX {G G' : Hp} (s : SameX G G') : ∀ {t : List (Key × T)} {v : List (Key × V)}, RepD K cl G t v → RepD K cl G' t v
  | _, _, .nil => .nil
  | _, _, .cons h r => .cons (Rep.monoX s h) (RepD.monoX s r)
theorem RepE.monoX {G G' : Hp} (s : SameX G G') : ∀ {t : List (List Key × T)} {v : List (List Key × V)}, RepE K cl G t v → RepE K cl G' t v
  | _, _, .nil => .nil
  | _, _, .cons h r => .cons (Rep.monoX s h) (RepE.monoX s r)
theorem RepF.monoX {G G' : Hp} (s : SameX G G') : ∀ {t : List (Str × T)} {v : List (Str × V)}, RepF K cl G t v → RepF K cl G' t v
  | _, _, .nil => .nil
  | _, _, .cons h r => .cons (Rep.monoX s h) (RepF.monoX s r)
end
theorem FnR.monoX {G G' : Hp} (s : SameX G G') {q : Str} {cs : List T} {v : V} (h : FnR K cl G q cs v) : FnR K cl G' q cs v := by
  obtain ⟨f, d, clo, pm, ctv, e, h1, h2, h3, h4, hl, h5⟩ := h
  refine ⟨f, d, clo, pm, ctv, e, s _ _ h1 rfl, s _ _ h2 rfl, h3, h4, hl, fun i y hy => ?_⟩
  obtain ⟨c, t, x, u, o, k1, k2, k3, k0, k4, k5⟩ := h5 i y hy
  exact ⟨c, t, x, u, o, k1, k2, s _ _ k3 rfl, k0, k4, Rep.monoX s k5⟩
theorem FvR.monoX {w w' : Wd} (ea : w'.as = w.as) (s : SameX w.G w'.G) : ∀ {f : Fv} {v : V}, FvR K cl w f v → FvR K cl w' f v
  | .t _, _, h => Rep.monoX s h
  | .loc _, _, ⟨a, h, e⟩ => ⟨a, by rw [ea]; exact h, e⟩
theorem PvR.monoX {κ : Type} {w w' : Wd} (ea : w'.as = w.as) (s : SameX w.G w'.G) {p : κ × Fv} {q : κ × V} (h : PvR K cl w p q) : PvR K cl w' p q := ⟨h.1, FvR.monoX ea s h.2⟩
theorem KeyIn.monoX {G G' : Hp} {b : Addr} (s : SameX G G') : ∀ {k : NKey}, KeyIn G b k → KeyIn G' b k
  | (_, none), ⟨d, h1, h2⟩ => ⟨d, s _ _ h1 rfl, s _ _ h2 rfl⟩
  | (_, some _), ⟨d, c, h1, h2, h3⟩ => ⟨d, c, s _ _ h1 rfl, s _ _ h2 rfl, s _ _ h3 rfl⟩
theorem NvR.monoX {G G' : Hp} (s : SameX G G') {p : NKey × Int} {q : NKey × Addr × Value} (h : NvR G p q) : NvR G' p q := ⟨h.1, KeyIn.monoX s h.2.1, h.2.2⟩
def isDnl : Cell → Bool
  | .dnl _ => true
  | _ => false
/-- no cell but the one at n stands still so -/
def soleN (μ : List Cell) (n : Nat) : Bool := (List.range μ.length).all fun m => m == n || match μ[m]? with
  | some c => !isDnl c
  | none => true
/-- the dict in the slot i is locked for one statement -/
def dUnl (i : Nat) (f : M Fl) : M Fl := fun st => match st.δ[i]? with
  | some (some (.loc n)) => match st.μ[n]? with
    | some (.dnn kvs) => match f st with
      | some (.ok .nx, st1) => match st1.μ[n]? with
        | some (.dnl kvs') => if decide (kvs' = kvs) && soleN st1.μ n then some (.ok .nx, { st1 with μ := st1.μ.set n (.dnn kvs) }) else none
        | _ => none
      | _ => none
    | _ => none
  | _ => none
end
end Lf
namespace Lf
open PySem PySem.Spec L2
section
variable {cl : Cl}
def adopt1 (i : Nat) (s : DSt) : Option DSt := match s.δ[i]? with
  | some (some (.loc n)) => match s.μ[n]? with
    | some (.lst fs) => match plains fs with
      | some ts => some ⟨s.δ.set i (some (.own (.lst ts))), s.μ.set n .dead⟩
      | none => none
    | some (.dic false kvs) => match plainD kvs with
      | some ts => some ⟨s.δ.set i (some (.own (.dic false ts))), s.μ.set n .dead⟩
      | none => none
    | _ => none
  | _ => none
def adopts : List Nat → DSt → Option DSt
  | [], s => some s
  | i :: r, s => match adopt1 i s with
    | some s1 => adopts r s1
    | none => none
end
def dAdopt (is : List Nat) (f : M Fl) : M Fl := fun s => match f s with
  | some (.ok .nx, s1) => match adopts is s1 with
    | some s2 => some (.ok .nx, s2)
    | none => none
  | some (.exc c fs, s1) => some (.exc c fs, s1)
  | _ => none
section
variable {cl : Cl} {X : Cx}
end
def Adp (is : List Nat) (Q : Out Fl → DSt → Prop) (o : Out Fl) (s : DSt) : Prop := (o = .ok .nx ∧ ∃ s2, adopts is s = some s2 ∧ Q (.ok .nx) s2) ∨ ∃ c fs, o = .exc c fs ∧ Q (.exc c fs) s
end Lf
namespace Lf
open PySem PySem.Spec L2
def fD (ks : List Str) (f : Str → T) : List (Key × T) := ks.map fun c => ((Sum.inr c : Key), f c)
def fSet {α : Type} (f : Str → α) (c : Str) (y : α) : Str → α := fun d => if d = c then y else f d
@[simp] theorem fSet_same {α : Type} (f : Str → α) (c : Str) (y : α) : fSet f c y c = y := by simp [fSet]
end Lf
namespace Lf
open PySem PySem.Spec L2 PyProof.Rows
section
variable {X : Cx}
def tMk0 (C : Addr) (sp : Sp) : L2.St → Hp → XK → Prop := fun σ H Q => ∀ a, H a = none → sp [.ref a] (upd H a (exo a C none)) (fun vv H2 => vv = .non ∧ H2 a = some (exo a C none) ∧ Q (.ref C) none (del H2 a)) (fun _ _ _ => False)
end
def spErr0 (K : PySem.W.Frag) : Sp := fun vs H Q E => ∃ (a C : Addr), vs = [.ref a] ∧ OexC K C ∧ H a = some (exo a C none) ∧ Q .non H
theorem err0_body {X : Cx} {b m : Str} {L : Addr} {j : Nat} {p1 p2 p3 p4 p5 p6 : Pos} {pl : Sem Bool} (gb : Gl X b) (mb : X.mg b = some (.ref L)) (hb : baseB X.K L = true) (hdb : (b == ("__debug__" : Str)) = false)
    (ec : eval (.Call (.Attribute (.Name b p1) "__init__" p2) [.Name "self" p3, .Constant (.str m) j p4] [] p5) X.env = (do
      let ov ← eval (.Name b p1) X.env
      standAt p2.atName
      let (f, first) ← holding [ov] (getMethod ov "__init__" pl)
      callWith p5 f first (backTo p5 (starEach [.Name "self" p3, .Constant (.str m) j p4] X.env)) (backToKw p5 (keywordEach [] X.env))))
    (e1 : starEach [.Name "self" p3, .Constant (.str m) j p4] X.env = (false, eval (.Name "self" p3) X.env) :: starEach [.Constant (.str m) j p4] X.env) (e2 : (backTo p5 (starEach [.Constant (.str m) j p4] X.env)).any (·.1) = false)
    (pa : ∃ ta, PA X [.Name "self" p3, .Constant (.str m) j p4] ta ∧ ∀ σ H Q, ta σ H Q = ∃ v, σ[0]? = some (some v) ∧ Q [v, .str m] H)
    {H : Hp} {a C : Addr} {D : Ends} (T : OexC X.K C) (ha : H a = some (exo a C none)) (hq : ∀ σ, D.nx σ H) :
    WSs X [.Expr (.Call (.Attribute (.Name b p1) "__init__" p2) [.Name "self" p3, .Constant (.str m) j p4] [] p5) p6] D [some (.ref a)] H := by
  obtain ⟨ta, pa, ea⟩ := pa
  refine PSs.ws (pss_cons (ps_expr (pe_base (pl := pl) gb mb hb pa hdb ec e1 e2)) pss_nil) ?_
  unfold tSeq
  show tVeI X.K ta _ H _
  unfold tVeI
  rw [ea]
  exact ⟨.ref a, rfl, a, C, [.str m], rfl, by simp, T, ha, hq _⟩
theorem err0_ok {P : Program} {w : World} {K : PySem.W.Frag} {mg : Str → Option Value} {base : Heap} {x qual b m : Str} {st : Stmt} {f L : Addr} {fd : FuncData} {j : Nat} {p1 p2 p3 p4 p5 p6 : Pos} (F : Fun K x qual st f fd) (S : FnScope [("self" : Str)] [("self" : Str)] (defScope st))
    (hbody : defBody st = [.Expr (.Call (.Attribute (.Name b p1) "__init__" p2) [.Name "self" p3, .Constant (.str m) j p4] [] p5) p6])
    (mb : mg b = some (.ref L)) (hb : baseB K L = true) (hdb : (b == ("__debug__" : Str)) = false) (vs : Vis (defScope st) "self")
    (hX : ∀ (cdv : Value) (A : Around) (outer : List Env) (s : Shared) (H : Hp) (E : XK), let X := cxOf (L2.CX P w) P w K mg base [("self" : Str)] qual (defScope st) f cdv A outer s H E
      Gl X b ∧ (∃ pl : Sem Bool, eval (.Call (.Attribute (.Name b p1) "__init__" p2) [.Name "self" p3, .Constant (.str m) j p4] [] p5) X.env = (do
        let ov ← eval (.Name b p1) X.env
        standAt p2.atName
        let (f, first) ← holding [ov] (getMethod ov "__init__" pl)
        callWith p5 f first (backTo p5 (starEach [.Name "self" p3, .Constant (.str m) j p4] X.env)) (backToKw p5 (keywordEach [] X.env)))) ∧
      starEach [.Name "self" p3, .Constant (.str m) j p4] X.env = (false, eval (.Name "self" p3) X.env) :: starEach [.Constant (.str m) j p4] X.env ∧ (backTo p5 (starEach [.Constant (.str m) j p4] X.env)).any (·.1) = false ∧
      starEach [.Constant (.str m) j p4] X.env = (false, eval (.Constant (.str m) j p4) X.env) :: starEach [] X.env) :
    FnOk P w K mg base (L2.CX P w) 1 f fd [("self" : Str)] (spErr0 K) := by
  refine F.okX S (fun vs H Q E h => ?_) (fun cdv A outer s H us Q E hr h => ?_)
  · obtain ⟨a, C, rfl, _⟩ := h
    rfl
  · obtain ⟨a, C, rfl, T, ha, hq⟩ := h
    obtain ⟨k1, ⟨pl, k2⟩, k3, k4, k5⟩ := hX cdv A outer s H E
    refine ⟨_, pssW, ?_⟩
    rw [hbody]
    exact err0_body (X := cxOf (L2.CX P w) P w K mg base [("self" : Str)] qual (defScope st) f cdv A outer s H E) k1 mb hb hdb k2 k3 k4
      ⟨_, pa_cons (pe_var (i := 0) rfl vs (by decide) (by decide)) (pa_cons pe_str pa_nil k5) k3, fun _ _ _ => rfl⟩ T ha fun _ => hq
section
variable {cl : Cl} {X : Cx}
end
end Lf
namespace Lf.Nq
open PySem PySem.SeqAt PySem.W
open AutoSeq1 (wpAny_loadPart')
open MeetsSeq MeetsSeq2 MeetsSeq3 SeqRoads2
section
variable {P : Program} {W : World}
theorem loopN (l1 l2 : Addr) (xs ys : Array Value) (m1 m2 : Nat) (d1 d2 : Option Addr) (z1 z2 : Array (Option Value)) (hsize : xs.size = ys.size) (f : Nat → Bool) (c : Nat) :
    ∀ i : Nat, xs.size - i = c → MeetsIn P W (Builtin.«list.__eq__.loop» ⟨[.ref l1, .ref l2, rawInt i, rawInt 3], []⟩)
      (fun A R s => s.heap.get? l1 = some { cls := .type "list", dict := d1, data := .seq xs m1, slots := z1 } ∧ s.heap.get? l2 = some { cls := .type "list", dict := d2, data := .seq ys m2, slots := z2 } ∧
        (∀ j (a1 : j < xs.size) (a2 : j < ys.size), EqIn P W A.in1 s xs[j] ys[j] (f j)) ∧ R (.ok (.ret (.bool (!((List.range xs.size).drop i).all f)))) s) := by
  induction c with
  | zero =>
    intro i hc A R s hyp
    obtain ⟨hh, gg, dd, tt, oo⟩ := s
    obtain ⟨k1, k2, ke, kr⟩ := hyp
    wp_walk using wpAny_loadPart' k1, wpAny_loadPart' k2
    have j1 : xs[((i : Nat) : Int).toNat]? = none := by simp; omega
    have j2 : ys[((i : Nat) : Int).toNat]? = none := by simp; omega
    have jd : (List.range xs.size).drop i = [] := by simp; omega
    rw [jd] at kr
    rw [j1, j2]
    wp_walk using wpAny_loadPart' k1, wpAny_loadPart' k2
    show R (.ok (.ret (.bool (xs.size != ys.size)))) _
    rw [hsize]
    simpa using kr
  | succ c ih =>
    intro i hc A R s hyp
    obtain ⟨hh, gg, dd, tt, oo⟩ := s
    obtain ⟨k1, k2, ke, kr⟩ := hyp
    wp_walk using wpAny_loadPart' k1, wpAny_loadPart' k2
    have i1 : i < xs.size := by omega
    have i2 : i < ys.size := by omega
    have j1 : xs[((i : Nat) : Int).toNat]? = some xs[i] := by simp [i1]
    have j2 : ys[((i : Nat) : Int).toNat]? = some ys[i] := by simp [i2]
    have jd : (List.range xs.size).drop i = i :: (List.range xs.size).drop (i + 1) := by simp [List.drop_eq_getElem_cons, i1]
    have jc : ((i : Int) + 1) = ((i + 1 : Nat) : Int) := by push_cast; rfl
    rw [jd, List.all_cons] at kr
    rw [j1, j2]
    refine wpAny_bind (ke i i1 i2 _ _ ?_)
    cases fi : f i with
    | true =>
      rw [fi] at kr
      wp_walk
      rw [jc]
      exact ⟨plainId_quiet plain_eq_loop _, codeAny_builtin entry_eq_loop (by
        rw [Around.under_plainId plain_eq_loop _]; exact ih (i + 1) (by omega) A R _ ⟨k1, k2, ke, by simpa using kr⟩)⟩
    | false =>
      rw [fi] at kr
      wp_walk using wpAny_loadPart' k1, wpAny_loadPart' k2
      rw [j1, j2]
      wp_walk
      simpa using kr
theorem listN (l1 l2 : Addr) (xs ys : Array Value) (m1 m2 : Nat) (d1 d2 : Option Addr) (z1 z2 : Array (Option Value)) (hsize : xs.size = ys.size) (f : Nat → Bool) :
    MeetsIn P W (Builtin.«list.__ne__» ⟨[.ref l1, .ref l2], []⟩)
      (fun A R s => s.heap.get? l1 = some { cls := .type "list", dict := d1, data := .seq xs m1, slots := z1 } ∧ s.heap.get? l2 = some { cls := .type "list", dict := d2, data := .seq ys m2, slots := z2 } ∧
        (∀ j (a1 : j < xs.size) (a2 : j < ys.size), EqIn P W A.in1 s xs[j] ys[j] (f j)) ∧ R (.ok (.ret (.bool (!(List.range xs.size).all f)))) s) := by
  intro A R s hyp
  obtain ⟨hh, gg, dd, tt, oo⟩ := s
  obtain ⟨k1, k2, ke, kr⟩ := hyp
  have q3 := AutoSeq1.sub_list_list
  have qn : ¬ (xs.size != ys.size) = true := by simp [hsize]
  wp_walk using wpAny_loadPart' k1, wpAny_loadPart' k2
  exact ⟨plainId_quiet plain_eq_loop _, codeAny_builtin entry_eq_loop (by
    rw [Around.under_plainId plain_eq_loop _]; exact loopN l1 l2 xs ys m1 m2 d1 d2 z1 z2 hsize f _ 0 rfl A R _ ⟨k1, k2, ke, by simpa using kr⟩)⟩
theorem ne_lists {A : Around} {s : Shared} {E Q : Value → Shared → Prop} {l1 l2 : Addr} {xs ys : Array Value} {f : Nat → Bool} (k1 : s.heap.IsList l1 xs) (k2 : s.heap.IsList l2 ys) (hsize : xs.size = ys.size) (room : A.units < cLine)
    (ke : ∀ j (a1 : j < xs.size) (a2 : j < ys.size), EqIn P W A.in1 s xs[j] ys[j] (f j)) (q : Q (.bool (!(List.range xs.size).all f)) s) : wpAny (model P W) A (compareOp .NotEq (.ref l1) (.ref l2)) Q E s := by
  obtain ⟨⟨c1, d1, t1, z1⟩, o1, e1, n1, f1⟩ := id k1
  obtain ⟨⟨c2, d2, t2, z2⟩, o2, e2, n2, f2⟩ := id k2
  simp only at e1 f1 e2 f2
  subst e1 f1 e2 f2
  exact wpAny_richCompare_same_room (T := "list") (op := .NotEq) ⟨_, o1, rfl⟩ ⟨_, o2, rfl⟩ F.slot_list_ne (call_meetsIn F.slot_list_ne ⟨_, o1, rfl⟩ F.entry_list_ne (F.args_list_ne_2 _ _) (listN l1 l2 xs ys n1 n2 d1 d2 z1 z2 hsize f)
    ⟨o1, o2, ke, show Value.bool (!(List.range xs.size).all f) ≠ Value.notImplemented ∧ Q (.bool (!(List.range xs.size).all f)) s from ⟨(fun x => nomatch x), q⟩⟩) room
end
section
variable {P : Program} {W : World} {Kk : Type} [DecidableEq Kk] {knd : KeyKind P W Kk} {A : Around} {E : Value → Shared → Prop} {s : Shared}
theorem ne_dicts {a b : Addr} {ka kb : List (Kk × Value)} {f : Bool} {Q : Value → Shared → Prop} (sa : (a == sysModules) = false) (sb : (b == sysModules) = false) (da : s.heap.DictOf knd a ka) (db : s.heap.DictOf knd b kb) (room : A.units < cLine)
    (hits : ka.length = kb.length → KeqHitsIn P W A.in1 s kb ka f) (q : Q (.bool (!(ka.length == kb.length && f))) s) : wpAny (model P W) A (compareOp .NotEq (.ref a) (.ref b)) Q E s := by
  refine wpAny_richCompare_same_room (op := .NotEq) da.typeIs db.typeIs PySem.F.slot_dict_ne (wpAny_call_entry PySem.F.slot_dict_ne da.typeIs PySem.F.entry_dict_ne ?_ (PySem.F.args_dict_ne_2 _ _)) room
  show wpAny _ _ (Builtin.Dict.dictSlotArgs "__ne__" ⟨[.ref a, .ref b], []⟩ >>= _) _ _ s
  refine wpAny_bind ?_
  unfold Builtin.Dict.dictSlotArgs
  refine wpAny_bind (wpAny_notOrdered_dict da.typeIs ?_)
  show wpAny _ _ (pure (Value.ref a, Value.ref b)) _ _ s
  refine wpAny_pure (wpAny_bind (wpAny_isInstance (T := "dict") db.typeIs PySem.F.sub_dict_dict ?_))
  simp only [Bool.not_true, Bool.false_eq_true, if_false]
  refine wpAny_bind (wpAny_pure (wpAny_bind (wpAny_pure (wpAny_bind (keq_samePairsIn sa sb da db hits ?_)))))
  refine wpAny_pure ⟨_, rfl, fun x => (nomatch x), ?_⟩
  simpa using q
end
end Lf.Nq
namespace Lf
open PySem PySem.Spec L2
def leafEq (x y : T) : Option Bool := match x.pd, y.pd with
  | some d, some e => if SeqAt.shaped d && SeqAt.shaped e then some (PyData.eqv d e) else none
  | _, _ => none
def eqAll (f : T → T → Option Bool) : List T → List T → Option Bool
  | [], [] => some true
  | x :: xs, y :: ys => match f x y, eqAll f xs ys with
    | some b, some c => some (b && c)
    | _, _ => none
  | _, _ => none
def eqHit {κ : Type} [DecidableEq κ] (f : T → T → Option Bool) (ls : List (κ × T)) : List (κ × T) → Option Bool
  | [] => some true
  | (k, v) :: r => match eqHit f ls r with
    | none => none
    | some c => match look ls k with
      | none => some false
      | some u => match f v u with
        | some b => some (b && c)
        | none => none
def eqN : Nat → T → T → Option Bool
  | 0, x, y => leafEq x y
  | n + 1, x, y => match leafEq x y with
    | some b => some b
    | none => match x, y with
      | .lst xs, .lst ys => if xs.length = ys.length then eqAll (eqN n) xs ys else some false
      | .dic ks, .dic ls => if okKeys ks = true then (match eqHit (eqN n) ls ks with | some c => some (decide (ks.length = ls.length) && c) | none => none) else none
      | _, _ => none
def eAt (f : T → T → Option Bool) (xs ys : List T) (j : Nat) : Bool := match xs[j]?, ys[j]? with
  | some x, some y => (f x y).getD false
  | _, _ => false
theorem eqAll_at {f : T → T → Option Bool} : ∀ {xs ys : List T} {b : Bool}, eqAll f xs ys = some b → b = (List.range xs.length).all (eAt f xs ys) ∧ ∀ (j : Nat) (x y : T), xs[j]? = some x → ys[j]? = some y → f x y = some (eAt f xs ys j)
  | [], [], b, h => by cases h; exact ⟨rfl, fun j x y h => by simp at h⟩
  | [], _ :: _, b, h => by cases h
  | _ :: _, [], b, h => by cases h
  | x :: xs, y :: ys, b, h => by
    unfold eqAll at h
    split at h
    · rename_i b1 c1 e1 e2
      cases h
      obtain ⟨i1, i2⟩ := eqAll_at e2
      refine ⟨?_, fun j u v hu hv => ?_⟩
      · rw [List.length_cons, List.range_succ_eq_map, List.all_cons, i1]
        congr 1
        · simp [eAt, e1]
        · rw [List.all_map]; rfl
      · cases j with
        | zero => simp at hu hv; subst hu; subst hv; simp [eAt, e1]
        | succ j => simp at hu hv; have := i2 j u v hu hv; simpa [eAt] using this
    · cases h
def eKey {κ : Type} [DecidableEq κ] (f : T → T → Option Bool) (ks ls : List (κ × T)) (k : κ) : Bool := match look ks k, look ls k with
  | some x, some y => (f x y).getD false
  | _, _ => false
theorem look_in' {κ α : Type} [DecidableEq κ] {l : List (κ × α)} (hn : (l.map (·.1)).Nodup) {k : κ} {v : α} (h : (k, v) ∈ l) : look l k = some v := by
  induction l with
  | nil => cases h
  | cons p r ih =>
    obtain ⟨j, u⟩ := p
    rw [List.map_cons, List.nodup_cons] at hn
    rcases List.mem_cons.mp h with e | e
    · cases e; simp [look]
    · have : j ≠ k := fun z => hn.1 (List.mem_map.mpr ⟨(k, v), e, z.symm⟩)
      simp [look, this]
      exact ih hn.2 e
theorem eqHit_at {κ : Type} [DecidableEq κ] {f : T → T → Option Bool} {ls ks : List (κ × T)} (hn : (ks.map (·.1)).Nodup) : ∀ {r : List (κ × T)} {b : Bool}, (∀ p ∈ r, p ∈ ks) → eqHit f ls r = some b → b = r.all (fun p => (look ls p.1).isSome && eKey f ks ls p.1) ∧ ∀ p ∈ r, ∀ u, look ls p.1 = some u → f p.2 u = some (eKey f ks ls p.1)
  | [], b, _, h => by cases h; exact ⟨rfl, fun p hp => by cases hp⟩
  | (k, v) :: r, b, hs, h => by
    have hk : look ks k = some v := look_in' hn (hs _ (by simp))
    unfold eqHit at h
    split at h
    · cases h
    · rename_i c ec
      obtain ⟨i1, i2⟩ := eqHit_at hn (fun p hp => hs p (List.mem_cons_of_mem _ hp)) ec
      split at h
      · rename_i el
        cases h
        refine ⟨by simp [el], fun p hp u hu => ?_⟩
        rcases List.mem_cons.mp hp with rfl | hp
        · rw [el] at hu; cases hu
        · exact i2 p hp u hu
      · rename_i u el
        split at h
        · rename_i b1 e1
          cases h
          have ek : eKey f ks ls k = b1 := by simp [eKey, hk, el, e1]
          refine ⟨by simp [el, ek, i1], fun p hp u' hu => ?_⟩
          rcases List.mem_cons.mp hp with rfl | hp
          · rw [el] at hu; cases hu
            show f v u = some (eKey f ks ls k)
            rw [ek]; exact e1
          · exact i2 p hp u' hu
        · cases h
section
variable {cl : Cl} {X : Cx} {pins : List (Addr × Obj)} {σ : L2.St} {H : Hp} {s : Shared}
theorem leaf_reads {w : Wd} {μ : List Cell} (r : Rc X.K cl w μ H) (I : Inv X pins σ H s) {x y : T} {b : Bool} (h : leafEq x y = some b) {v u : V} {v' u' : Value} (hv : Rep X.K cl w.G x v) (hu : Rep X.K cl w.G y u) (rv : RelV v v') (ru : RelV u u') :
    ∃ d e as bs, Reads s.heap v' d as ∧ Reads s.heap u' e bs ∧ SeqAt.shaped d = true ∧ SeqAt.shaped e = true ∧ b = PyData.eqv d e := by
  unfold leafEq at h
  split at h
  · rename_i d e e1 e2
    split at h
    · rename_i hs
      cases h
      simp only [Bool.and_eq_true] at hs
      obtain ⟨as, r1⟩ := Dp.reads I d v v' (Rep.dp r hv e1) rv
      obtain ⟨bs, r2⟩ := Dp.reads I e u u' (Rep.dp r hu e2) ru
      exact ⟨d, e, as, bs, r1, r2, hs.1, hs.2, rfl⟩
    · cases h
  · cases h
theorem repsDet {G : Hp} {f : T → T → Option Bool} : ∀ {xs ys : List T} {vs : List V}, Reps X.K cl G xs vs → Reps X.K cl G ys vs → (∀ x y v b, v ∈ vs → Rep X.K cl G x v → Rep X.K cl G y v → f x y = some b → b = true) → ∀ {b : Bool}, eqAll f xs ys = some b → b = true
  | _, _, _, .nil, .nil, _, b, h => by cases h; rfl
  | _, _, _, .cons a1 r1, .cons a2 r2, hf, b, h => by
    unfold eqAll at h
    split at h
    · rename_i b1 c1 e1 e2
      cases h
      rw [hf _ _ _ _ (by simp) a1 a2 e1, repsDet r1 r2 (fun x y v b hv => hf x y v b (List.mem_cons_of_mem _ hv)) e2]
      rfl
    · cases h
theorem valV_cons {κ : Type} [DecidableEq κ] (j k : κ) (v : V) (r : List (κ × V)) : valV ((j, v) :: r) k = if j = k then some v else valV r k := by
  unfold valV
  rw [List.find?_cons]
  by_cases e : j = k <;> simp [e]
theorem repD_look {G : Hp} (k : Key) : ∀ {ks : List (Key × T)} {kvs : List (Key × V)}, RepD X.K cl G ks kvs → (∀ x, look ks k = some x → ∃ v, valV kvs k = some v ∧ (k, v) ∈ kvs ∧ Rep X.K cl G x v) ∧ (look ks k = none → valV kvs k = none)
  | _, _, .nil => ⟨fun x h => (by cases h), fun _ => rfl⟩
  | _, _, .cons (k := j) (v := v) (vs := vs) a r => by
    obtain ⟨i1, i2⟩ := repD_look k r
    by_cases e : j = k
    · subst e
      refine ⟨fun x h => ?_, fun h => ?_⟩
      · simp [look] at h; subst h
        exact ⟨v, by simp [valV_cons], by simp, a⟩
      · simp [look] at h
    · refine ⟨fun x h => ?_, fun h => ?_⟩
      · simp [look, e] at h
        obtain ⟨u, q1, q2, q3⟩ := i1 x h
        exact ⟨u, by rw [valV_cons, if_neg e]; exact q1, List.mem_cons_of_mem _ q2, q3⟩
      · simp [look, e] at h
        rw [valV_cons, if_neg e]; exact i2 h
theorem repD_mem {G : Hp} : ∀ {ks : List (Key × T)} {kvs : List (Key × V)}, RepD X.K cl G ks kvs → ∀ p ∈ kvs, ∃ x, (p.1, x) ∈ ks ∧ Rep X.K cl G x p.2
  | _, _, .nil, p, h => by cases h
  | _, _, .cons (t := t) a r, p, h => by
    rcases List.mem_cons.mp h with rfl | h
    · exact ⟨t, by simp, a⟩
    · obtain ⟨x, h1, h2⟩ := repD_mem r p h
      exact ⟨x, List.mem_cons_of_mem _ h1, h2⟩
theorem repD_keys {G : Hp} : ∀ {ks : List (Key × T)} {kvs : List (Key × V)}, RepD X.K cl G ks kvs → ks.map (·.1) = kvs.map (·.1)
  | _, _, .nil => rfl
  | _, _, .cons a r => by simp [repD_keys r]
theorem look_none' {κ α : Type} [DecidableEq κ] {k : κ} : ∀ {l : List (κ × α)}, look l k = none → k ∉ l.map (·.1)
  | [], _, h => by cases h
  | (j, a) :: r, e, h => by
    by_cases q : j = k
    · simp [look, q] at e
    · simp [look, q] at e
      rcases List.mem_cons.mp h with z | z
      · exact q z.symm
      · exact look_none' e z
theorem vals_mem : ∀ {xs : List V} {its : List Value}, Vals xs its → ∀ v ∈ xs, ∃ v', RelV v v'
  | _, _, .nil, v, h => by cases h
  | _, _, .cons a r, v, h => by
    rcases List.mem_cons.mp h with rfl | h
    · exact ⟨_, a⟩
    · exact vals_mem r v h
theorem kv_mem {κ : Type} : ∀ {xs : List (κ × V)} {its : List (κ × Value)}, KV xs its → ∀ p ∈ xs, ∃ v', RelV p.2 v'
  | _, _, .nil, v, h => by cases h
  | _, _, .cons a r, v, h => by
    rcases List.mem_cons.mp h with rfl | h
    · exact ⟨_, a.2⟩
    · exact kv_mem r v h
/-- what one object stands for is equal -/
theorem eqN_det {w : Wd} {μ : List Cell} (r : Rc X.K cl w μ H) (I : Inv X pins σ H s) : ∀ (n : Nat) {x y : T} {v : V} {v' : Value} {b : Bool}, Rep X.K cl w.G x v → Rep X.K cl w.G y v → RelV v v' → eqN n x y = some b → b = true := by
  have leaf : ∀ {x y : T} {v : V} {v' : Value} {b : Bool}, Rep X.K cl w.G x v → Rep X.K cl w.G y v → RelV v v' → leafEq x y = some b → b = true := fun {x y v v' b} h1 h2 rv h => by
    obtain ⟨d, e, as, bs, r1, r2, s1, s2, rfl⟩ := leaf_reads r I h h1 h2 rv rv
    obtain ⟨rfl, _⟩ := r1.unique e bs r2
    exact eqv_self d (SeqAt.canLay_of_shaped s1)
  intro n
  induction n with
  | zero => exact fun h1 h2 rv h => leaf h1 h2 rv h
  | succ n ih =>
    intro x y v v' b h1 h2 rv h
    unfold eqN at h
    split at h
    · rename_i b' e
      cases h
      exact leaf h1 h2 rv e
    · split at h
      · rename_i xs ys _
        split at h
        · cases h1 with
          | lst g1 q1 => cases h2 with
            | lst g2 q2 =>
              rw [g1] at g2
              cases g2
              obtain ⟨its, rel, _, _⟩ := I.list (SqL.of (r.lst g1))
              exact repsDet q1 q2 (fun x y v b hv a1 a2 e => by
                obtain ⟨u, ru⟩ := vals_mem rel v hv
                exact ih a1 a2 ru e) h
        · rename_i hne
          cases h1 with
          | lst g1 q1 => cases h2 with
            | lst g2 q2 =>
              rw [g1] at g2
              cases g2
              exact absurd (q1.length.trans q2.length.symm) hne
      · rename_i ks ls _
        split at h
        · rename_i hok
          have hn : (ks.map (·.1)).Nodup := of_decide_eq_true hok
          cases h1 with
          | dic g1 q1 => cases h2 with
            | dic g2 q2 =>
              rw [g1] at g2
              cases g2
              split at h
              · rename_i c0 ec
                cases h
                obtain ⟨i1, i2⟩ := eqHit_at hn (fun p hp => hp) ec
                rw [decide_eq_true (q1.length.trans q2.length.symm), Bool.true_and, i1, List.all_eq_true]
                intro p hp
                have hk : p.1 ∈ ls.map (·.1) := by
                  rw [repD_keys q2, ← repD_keys q1]
                  exact List.mem_map.mpr ⟨p, hp, rfl⟩
                cases hl : look ls p.1 with
                | none => exact absurd hk (look_none' hl)
                | some u =>
                  have e := i2 p hp u hl
                  obtain ⟨v1, a1, a2, a3⟩ := (repD_look p.1 q2).1 u hl
                  obtain ⟨v2, b1, b2, b3⟩ := (repD_look p.1 q1).1 p.2 (look_in' hn hp)
                  rw [a1] at b1
                  cases b1
                  obtain ⟨_, _, va, ra, _⟩ := (r.dK g1).ok I.hok
                  obtain ⟨u', ru⟩ := kv_mem ra _ a2
                  have := ih b3 a3 ru e
                  simp [this]
              · cases h
        · cases h
      · cases h
theorem vals_get : ∀ {xs : List V} {its : List Value}, Vals xs its → ∀ {j : Nat} {v : V}, xs[j]? = some v → ∃ v', its[j]? = some v' ∧ RelV v v'
  | _, _, .nil, j, v, h => by simp at h
  | _, _, .cons a r, 0, v, h => by simp at h; subst h; exact ⟨_, rfl, a⟩
  | _, _, .cons a r, j + 1, v, h => by simp at h; simpa using vals_get r h
theorem reps_get {G : Hp} : ∀ {ts : List T} {xs : List V}, Reps X.K cl G ts xs → ∀ {j : Nat} {t : T}, ts[j]? = some t → ∃ v, xs[j]? = some v ∧ Rep X.K cl G t v
  | _, _, .nil, j, v, h => by simp at h
  | _, _, .cons a r, 0, v, h => by simp at h; subst h; exact ⟨_, rfl, a⟩
  | _, _, .cons a r, j + 1, v, h => by simp at h; simpa using reps_get r h
theorem kv_val {κ : Type} [DecidableEq κ] {xs : List (κ × V)} {its : List (κ × Value)} (h : KV xs its) (k : κ) {y : Value} (hy : valueAt its k = some y) : ∃ v, valV xs k = some v ∧ RelV v y := by
  have := h.val k
  rw [hy] at this
  cases e : valV xs k with
  | none => rw [e] at this; exact absurd this (by simp [RelO])
  | some v => rw [e] at this; exact ⟨v, rfl, this⟩
theorem kv_pair {κ : Type} : ∀ {xs : List (κ × V)} {its : List (κ × Value)}, KV xs its → ∀ p ∈ its, ∃ v, (p.1, v) ∈ xs ∧ RelV v p.2
  | _, _, .nil, p, h => by cases h
  | _, _, .cons (a := a0) a r, p, h => by
    rcases List.mem_cons.mp h with rfl | h
    · obtain ⟨k, v⟩ := a0
      obtain ⟨rfl, a2⟩ := a
      exact ⟨v, by simp, a2⟩
    · obtain ⟨v, h1, h2⟩ := kv_pair r p h
      exact ⟨v, List.mem_cons_of_mem _ h1, h2⟩
theorem kv_keys {κ : Type} : ∀ {xs : List (κ × V)} {its : List (κ × Value)}, KV xs its → its.map (·.1) = xs.map (·.1)
  | _, _, .nil => rfl
  | _, _, .cons a r => by
    have := kv_keys r
    simp [a.1, this]
/-- the items of two lists -/
theorem list_items {w : Wd} {μ : List Cell} (r : Rc X.K cl w μ H) (I : Inv X pins σ H s) {n : Nat} (ih : ∀ {x y : T} {v u : V} {v' u' : Value} {b : Bool}, Rep X.K cl w.G x v → Rep X.K cl w.G y u → RelV v v' → RelV u u' → eqN n x y = some b → PySem.W.EqTree X.prog X.w s (n + 64) v' u' b)
    {xs ys : List T} {vs us : List V} {its jts : List Value} (q1 : Reps X.K cl w.G xs vs) (q2 : Reps X.K cl w.G ys us) (r1 : Vals vs its) (r2 : Vals us jts) {b : Bool} (h : eqAll (eqN n) xs ys = some b) :
    b = (List.range its.toArray.size).all (eAt (eqN n) xs ys) ∧ ∀ j (h1 : j < its.toArray.size) (h2 : j < jts.toArray.size), PySem.W.EqTree X.prog X.w s (n + 64) its.toArray[j] jts.toArray[j] (eAt (eqN n) xs ys j) := by
  obtain ⟨i1, i2⟩ := eqAll_at h
  have l1 : xs.length = its.length := by rw [q1.length, r1.length]
  have l2 : ys.length = jts.length := by rw [q2.length, r2.length]
  refine ⟨by rw [i1, List.size_toArray, l1], fun j h1 h2 => ?_⟩
  simp at h1 h2
  obtain ⟨x, hx⟩ : ∃ x, xs[j]? = some x := ⟨_, List.getElem?_eq_getElem (by omega)⟩
  obtain ⟨y, hy⟩ : ∃ y, ys[j]? = some y := ⟨_, List.getElem?_eq_getElem (by omega)⟩
  obtain ⟨v, hv, pv⟩ := reps_get q1 hx
  obtain ⟨u, hu, pu⟩ := reps_get q2 hy
  obtain ⟨v', hv', rv⟩ := vals_get r1 hv
  obtain ⟨u', hu', ru⟩ := vals_get r2 hu
  have e1 : its.toArray[j] = v' := by
    have := List.getElem?_eq_some_iff.mp hv'
    simpa using this.2
  have e2 : jts.toArray[j] = u' := by
    have := List.getElem?_eq_some_iff.mp hu'
    simpa using this.2
  rw [e1, e2]
  exact ih pv pu rv ru (i2 j x y hx hy)
theorem dict_items {w : Wd} {μ : List Cell} (r : Rc X.K cl w μ H) (I : Inv X pins σ H s) {n : Nat} (ih : ∀ {x y : T} {v u : V} {v' u' : Value} {b : Bool}, Rep X.K cl w.G x v → Rep X.K cl w.G y u → RelV v v' → RelV u u' → eqN n x y = some b → PySem.W.EqTree X.prog X.w s (n + 64) v' u' b)
    {ks ls : List (Key × T)} {kvs lvs : List (Key × V)} {va vb : List (Key × Value)} (hn : (ks.map (·.1)).Nodup) (q1 : RepD X.K cl w.G ks kvs) (q2 : RepD X.K cl w.G ls lvs) (ra : KV kvs va) (rb : KV lvs vb) {b : Bool} (h : eqHit (eqN n) ls ks = some b) :
    b = (va.all fun p => (valueAt vb p.1).isSome && eKey (eqN n) ks ls p.1) ∧ ∀ k v y, (k, v) ∈ va → valueAt vb k = some y → PySem.W.EqTree X.prog X.w s (n + 64) v y (eKey (eqN n) ks ls k) := by
  obtain ⟨i1, i2⟩ := eqHit_at hn (fun p hp => hp) h
  have some_eq : ∀ k : Key, (look ls k).isSome = (valueAt vb k).isSome := fun k => by
    have e := (rb.val k).isSome_eq
    rw [← e]
    cases hl : look ls k with
    | none => rw [(repD_look k q2).2 hl]; rfl
    | some u => obtain ⟨v, e, _⟩ := (repD_look k q2).1 u hl; rw [e]; rfl
  refine ⟨?_, fun k v y hm hy => ?_⟩
  · rw [i1]
    have e1 : (ks.all fun p => (look ls p.1).isSome && eKey (eqN n) ks ls p.1) = ((ks.map (·.1)).all fun k => (look ls k).isSome && eKey (eqN n) ks ls k) := by rw [List.all_map]; rfl
    have e2 : (va.all fun p => (valueAt vb p.1).isSome && eKey (eqN n) ks ls p.1) = ((va.map (·.1)).all fun k => (valueAt vb k).isSome && eKey (eqN n) ks ls k) := by rw [List.all_map]; rfl
    rw [e1, e2, kv_keys ra, ← repD_keys q1]
    congr 1
    funext k
    rw [some_eq]
  · obtain ⟨v1, m1, rv⟩ := kv_pair ra _ hm
    obtain ⟨x, hx, px⟩ := repD_mem q1 _ m1
    obtain ⟨u1, hu, ru⟩ := kv_val rb k hy
    have hl : (look ls k).isSome = true := by rw [some_eq, hy]; rfl
    obtain ⟨u, hu2⟩ := Option.isSome_iff_exists.mp hl
    obtain ⟨u2, e2, _, pu⟩ := (repD_look k q2).1 u hu2
    rw [hu] at e2
    cases e2
    exact ih px pu rv ru (i2 (k, x) hx u hu2)
theorem beq_dec (a b : Nat) : (a == b) = decide (a = b) := by
  by_cases h : a = b <;> simp [h]
theorem eqN_tree {w : Wd} {μ : List Cell} (r : Rc X.K cl w μ H) (I : Inv X pins σ H s) : ∀ (n : Nat) {x y : T} {v u : V} {v' u' : Value} {b : Bool}, Rep X.K cl w.G x v → Rep X.K cl w.G y u → RelV v v' → RelV u u' → eqN n x y = some b → PySem.W.EqTree X.prog X.w s (n + 64) v' u' b := by
  have leaf : ∀ (n : Nat) {x y : T} {v u : V} {v' u' : Value} {b : Bool}, Rep X.K cl w.G x v → Rep X.K cl w.G y u → RelV v v' → RelV u u' → leafEq x y = some b → PySem.W.EqTree X.prog X.w s (n + 64) v' u' b := fun n {x y v u v' u' b} h1 h2 rv ru h => by
    obtain ⟨d, e, as, bs, r1, r2, s1, s2, rfl⟩ := leaf_reads r I h h1 h2 rv ru
    exact .leaf fun A hA => SeqAt.eqAt_reads d e A s v' u' as bs r1 r2 (SeqAt.canLay_of_shaped s1) (SeqAt.canLay_of_shaped s2) (SeqAt.room_of_shaped s1 (by omega))
  intro n
  induction n with
  | zero => exact fun h1 h2 rv ru h => leaf 0 h1 h2 rv ru h
  | succ n ih =>
    intro x y v u v' u' b h1 h2 rv ru h
    have hb := h
    unfold eqN at h
    split at h
    · rename_i b' e
      cases h
      exact leaf (n + 1) h1 h2 rv ru e
    · split at h
      · rename_i xs ys _
        cases h1 with
        | @lst a vs _ g1 q1 => cases h2 with
          | @lst c us _ g2 q2 =>
            cases (show v' = Value.ref a from rv)
            cases (show u' = Value.ref c from ru)
            by_cases hac : a = c
            · subst hac
              rw [eqN_det r I (n + 1) (.lst g1 q1) (.lst g2 q2) (show RelV (.ref a) (.ref a) from rfl) hb]
              exact .same
            · obtain ⟨its, r1, p1, _⟩ := I.list (SqL.of (r.lst g1))
              obtain ⟨jts, r2, p2, _⟩ := I.list (SqL.of (r.lst g2))
              have l1 : xs.length = its.length := by rw [q1.length, r1.length]
              have l2 : ys.length = jts.length := by rw [q2.length, r2.length]
              split at h
              · rename_i hl
                obtain ⟨e1, e2⟩ := list_items r I ih q1 q2 r1 r2 h
                rw [e1]
                have := PySem.W.EqTree.lists hac p1.isList p2.isList (by simp; omega) e2
                rw [show n + 64 + 1 = n + 1 + 64 by omega] at this
                exact this
              · rename_i hl
                cases h
                have := PySem.W.EqTree.listsLen (prog := X.prog) (w := X.w) (n := n + 64) hac p1.isList p2.isList (by simp; omega)
                rw [show n + 64 + 1 = n + 1 + 64 by omega] at this
                exact this
      · rename_i ks ls _
        split at h
        · rename_i hok
          have hn : (ks.map (·.1)).Nodup := of_decide_eq_true hok
          cases h1 with
          | @dic a kvs _ g1 q1 => cases h2 with
            | @dic c lvs _ g2 q2 =>
              cases (show v' = Value.ref a from rv)
              cases (show u' = Value.ref c from ru)
              by_cases hac : a = c
              · subst hac
                rw [eqN_det r I (n + 1) (.dic g1 q1) (.dic g2 q2) (show RelV (.ref a) (.ref a) from rfl) hb]
                exact .same
              · obtain ⟨_, ya, va, ra, da⟩ := (r.dK g1).ok I.hok
                obtain ⟨_, yb, vb, rb, db⟩ := (r.dK g2).ok I.hok
                have la : va.length = ks.length := by rw [q1.length, ← ra.length]
                have lb : vb.length = ls.length := by rw [q2.length, ← rb.length]
                split at h
                · rename_i c0 ec
                  cases h
                  obtain ⟨e1, e2⟩ := dict_items r I ih hn q1 q2 ra rb ec
                  have := PySem.W.EqTree.dicts hac ya yb da db e2
                  rw [← e1, la, lb, show n + 64 + 1 = n + 1 + 64 by omega, beq_dec] at this
                  exact this
                · cases h
        · cases h
      · cases h

/-- a == b, a != b: as before, or by eqN -/
def dEqN (neg : Bool) (a b : Val) : M Val := fun s => match dEq neg a b s with
  | some q => some q
  | none => match frz a s with
    | some (.ok x, s1) => match frz b s1 with
      | some (.ok y, s2) => match eqN 50 x y with
        | some c => some (.ok (.t (.bl (if neg then !c else c))), s2)
        | none => none
      | _ => none
    | _ => none
theorem eqN_top {w : Wd} {μ : List Cell} (r : Rc X.K cl w μ H) (I : Inv X pins σ H s) {n : Nat} {A : Around} (hA : A.units + n + 70 < cLine) {x y : T} {v u : V} {v' u' : Value} {b : Bool} (h1 : Rep X.K cl w.G x v) (h2 : Rep X.K cl w.G y u) (rv : RelV v v') (ru : RelV u u') (h : eqN (n + 1) x y = some b) (neg : Bool)
    {E Q : Value → Shared → Prop} (q : Q (.bool (if neg then !b else b)) s) : wpAny (model X.prog X.w) A (compareOp (if neg then .NotEq else .Eq) v' u') Q E s := by
  have hb := h
  unfold eqN at h
  split at h
  · rename_i b' e
    cases h
    obtain ⟨d, e, as, bs, r1, r2, s1, s2, rfl⟩ := leaf_reads r I e h1 h2 rv ru
    cases neg with
    | false => exact SeqAt.compareEq_shaped r1 r2 s1 s2 (by omega) q
    | true => exact SeqAt.compareNe_shaped r1 r2 s1 s2 (by omega) q
  · split at h
    · rename_i xs ys _
      cases h1 with
      | @lst a vs _ g1 q1 => cases h2 with
        | @lst c us _ g2 q2 =>
          cases (show v' = Value.ref a from rv)
          cases (show u' = Value.ref c from ru)
          obtain ⟨its, r1, p1, _⟩ := I.list (SqL.of (r.lst g1))
          obtain ⟨jts, r2, p2, _⟩ := I.list (SqL.of (r.lst g2))
          have l1 : xs.length = its.length := by rw [q1.length, r1.length]
          have l2 : ys.length = jts.length := by rw [q2.length, r2.length]
          split at h
          · rename_i hl
            obtain ⟨e1, e2⟩ := list_items r I (eqN_tree r I n) q1 q2 r1 r2 h
            rw [e1] at q
            have hz : its.toArray.size = jts.toArray.size := by simp; omega
            cases neg with
            | false => exact PySem.W.eq_listsT p1.isList p2.isList hz e2 (by omega) q
            | true => exact Nq.ne_lists p1.isList p2.isList hz (by omega) (fun j h1 h2 => (e2 j h1 h2).at A.in1 (by show A.units + 1 + _ < cLine; omega)) q
          · rename_i hl
            cases h
            have hz : (its.toArray.size != jts.toArray.size) = true := by simp; omega
            cases neg with
            | false => exact SeqAt.RcAt.lists_lengths p1.isList p2.isList hz (by omega) X.prog X.w E Q q
            | true => exact SeqAt.RcNeAt.lists_lengths p1.isList p2.isList hz (by omega) X.prog X.w E Q q
    · rename_i ks ls _
      split at h
      · rename_i hok
        have hn : (ks.map (·.1)).Nodup := of_decide_eq_true hok
        cases h1 with
        | @dic a kvs _ g1 q1 => cases h2 with
          | @dic c lvs _ g2 q2 =>
            cases (show v' = Value.ref a from rv)
            cases (show u' = Value.ref c from ru)
            obtain ⟨_, ya, va, ra, da⟩ := (r.dK g1).ok I.hok
            obtain ⟨_, yb, vb, rb, db⟩ := (r.dK g2).ok I.hok
            have la : va.length = ks.length := by rw [q1.length, ← ra.length]
            have lb : vb.length = ls.length := by rw [q2.length, ← rb.length]
            split at h
            · rename_i c0 ec
              cases h
              obtain ⟨e1, e2⟩ := dict_items r I (eqN_tree r I n) hn q1 q2 ra rb ec
              rw [e1, ← beq_dec, ← la, ← lb] at q
              cases neg with
              | false => exact PySem.W.eq_dictsT ya yb da db e2 (by omega) q
              | true => exact Nq.ne_dicts ya yb da db (by omega) (fun _ => PySem.W.KeqHitsIn.of _ fun k v y hm hv => (e2 k v y hm hv).at A.in1 (by show A.units + 1 + _ < cLine; omega)) q
            · cases h
      · cases h
    · cases h
theorem op_eqN_gen {k : Nat} (neg : Bool) (hold : DOp cl X (compareOp (if neg then .NotEq else .Eq)) (dEq neg)) (hr : Room k X.A) : DOp cl X (compareOp (if neg then .NotEq else .Eq)) (dEqN neg) := fun W cw w st σ H Q o st' a b x y u v pins s r ha hb h p I ru rv => by
  unfold dEqN at h
  split at h
  · rename_i q e
    cases h
    exact hold W cw w st σ H Q o st' a b x y u v pins s r ha hb e p I ru rv
  · split at h
    · rename_i tx s1 e1
      split at h
      · rename_i ty s2 e2
        split at h
        · rename_i c ec
          cases h
          obtain ⟨t1, w1, z1, l1, r1, p1⟩ := frz_at r ha e1
          cases z1
          obtain ⟨t2, w2, z2, l2, r2, p2⟩ := frz_at r1 (hb.le l1) e2
          cases z2
          have := hr.un
          exact eqN_top (n := 49) r2.rc I (by omega) (p1.mono l2.g) p2 ru rv ec neg ⟨.bl _, H, I, rfl, p w2 H (l1.trans l2) r2 (.bl _) (.bl _)⟩
        · cases h
      · cases h
    · cases h
end
section
variable {cl : Cl} {X : Cx}
theorem op5_eq {k : Nat} (hr : Room k X.A) : DOp cl X (compareOp .Eq) (dEqN false) := op_eqN_gen false (op2_eq hr) hr
end
end Lf
namespace Lf
open PySem PySem.Spec L2
def tksT : List T → Option (List Key)
  | [] => some []
  | x :: r => match keyT x, tksT r with
    | some k, some ks => some (k :: ks)
    | _, _ => none
def tkT : T → Option (List Key)
  | .tup xs => tksT xs
  | _ => none
def tkTree (k : List Key) : T := .tup (k.map keyTree)
theorem keyT_tree : ∀ k : Key, keyT (keyTree k) = some k
  | .inl i => rfl
  | .inr x => rfl
theorem tksT_tree : ∀ k : List Key, tksT (k.map keyTree) = some k
  | [] => rfl
  | k :: r => by simp [tksT, keyT_tree, tksT_tree r]
@[simp] theorem tkT_tree (k : List Key) : tkT (tkTree k) = some k := tksT_tree k
def dcT (s : DSt) : Val → Option (List (List Key × Fv))
  | .t (.dit kvs) => some (kvs.map fun p => (p.1, Fv.t p.2))
  | .loc n => match s.μ[n]? with
    | some (.dit _ kvs) => some kvs
    | some (.fz (.dit kvs)) => some (kvs.map fun p => (p.1, Fv.t p.2))
    | _ => none
  | .sl i => match s.δ[i]? with
    | some (some (.own (.dit _ kvs))) => some (kvs.map fun p => (p.1, Fv.t p.2))
    | some (some (.t (.dit kvs))) => some (kvs.map fun p => (p.1, Fv.t p.2))
    | _ => none
  | _ => none
section
variable {cl : Cl} {X : Cx}
end
/-- k in d, d a dict with tuples for keys -/
def dInT (neg : Bool) (a b : Val) : M Val := fun s => match dcT s b, a with
  | some kvs, .t x => match tkT x with
    | some k => some (.ok (.t (.bl (if neg then !(look kvs k).isSome else (look kvs k).isSome))), s)
    | none => none
  | _, _ => none
def dIxT (a b : Val) : M Val := fun s => match dcT s a, b with
  | some kvs, .t x => match tkT x with
    | some k => match look kvs k with
      | some f => some (.ok f.val, s)
      | none => none
    | none => none
  | _, _ => none
section
variable {cl : Cl} {X : Cx}
end
/-- d[k] = v -/
def setIxT (o i v : Val) : M Unit := bnd (asFv v) fun f => fun s => match o, i with
  | .loc n, .t x => match s.μ[n]?, tkT x with
    | some (.dit false l), some k => if okKeys l && decide (l.length < sizeLine) then some (.ok (), { s with μ := s.μ.set n (.dit false (putA l k f)) }) else none
    | _, _ => none
  | .sl n, .t x => match s.δ[n]?, tkT x, f with
    | some (some (.own (.dit false l))), some k, .t z => if okKeys l && decide (l.length < sizeLine) then some (.ok (), { s with δ := s.δ.set n (some (.own (.dit false (putA l k z)))) }) else none
    | _, _, _ => none
  | _, _ => none
def dSetIxT (fo fi fe : M Val) : M Fl := bnd fe fun v => bnd fo fun a => bnd fi fun j => bnd (setIxT a j v) fun _ => ret .nx
section
variable {cl : Cl} {X : Cx}
theorem RepE.of_pv {K : PySem.W.Frag} {w : Wd} : ∀ {l : List (List Key × T)} {m : List (List Key × V)}, Paired (PvR K cl w) (l.map fun p => (p.1, Fv.t p.2)) m → RepE K cl w.G l m
  | [], _, .nil => .nil
  | (k, t) :: r, _, .cons (b := q) h t' => by
    obtain ⟨j, v⟩ := q
    cases (show k = j from h.1)
    exact .cons h.2 (RepE.of_pv t')
end
@[simp] theorem Wp_dSetIxT (fo fi fe : M Val) (s : DSt) (Q : Out Fl → DSt → Prop) : Wp (dSetIxT fo fi fe) s Q = Wp fe s (Bk (fun v => bnd fo fun a => bnd fi fun j => bnd (setIxT a j v) fun _ => ret .nx) Q) := Wp_bnd _ _ _ _
end Lf
namespace Lf
open PySem PySem.Spec L2 PyProof.Rows
section
variable {X : Cx}
/-- {k_: v_ for target in iter_ if ..}, keys ints or texts: D_ the new dict -/
def tDcT (wi_ : TI) (g_ : TG) (tt_ : TT) (tk_ tv_ : TE) (vs_ : List Nat) : TE := fun σ_ H_ Q_ => wi_ σ_ H_ fun J_ H1_ => ∀ D_, H1_ D_ = none → ∃ W_ : Nat → Nat → Hp → Prop, (∃ m_, W_ 0 m_ (upd H1_ D_ (.dT []))) ∧ ∀ i_ m_ H_, W_ i_ m_ H_ →
  (J_.stop i_ H_ ∧ Q_ (.ref D_) H_) ∨ (J_.go i_ H_ ∧ ∃ Nx_ : Hp → Prop, (∀ H'_, Nx_ H'_ → ∃ m'_, m'_ < m_ ∧ W_ (i_ + 1) m'_ H'_) ∧ ∀ x_ H'_, J_.yld i_ H_ x_ H'_ → g_ x_ (wipe σ_ vs_) H'_ fun σ2_ H2_ => wipe σ2_ vs_ = wipe σ_ vs_ ∧ tt_ σ2_ H2_ fun b_ H3_ =>
    if b_ = true then tk_ σ2_ H3_ fun y_ H4_ => tv_ σ2_ H4_ fun z_ H5_ => ∃ (kvs_ : List (List L2.Key × V)) (k_ : List L2.Key) (bk_ : Addr), y_ = .ref bk_ ∧ H5_ bk_ = some (.tup (k_.map kV)) ∧ H5_ D_ = some (.dT kvs_) ∧ kvs_.length < sizeLine ∧ Nx_ (upd H5_ D_ (.dT (L2.putK kvs_ k_ z_))) else Nx_ H3_)
end
section
variable {cl : Cl} {X : Cx}
/-- one pair more -/
def dcPutT (acc : List (List Key × Fv)) (y : Val) (f : Fv) : Option (List (List Key × Fv)) := match y with
  | .t ty => match tkT ty with
    | some k => if okKeys acc && decide (acc.length < sizeLine) then some (putA acc k f) else none
    | none => none
  | _ => none
def dcLT (vs : List Nat) (g : Val → M Unit) (t : M Bool) (fk fv : M Val) (chk : DSt → Bool) : List Val → List (List Key × Fv) → M (List (List Key × Fv))
  | [], acc => fun s => if chk s then some (.ok acc, s) else none
  | v :: r, acc => fun s => if chk s then bnd (g v) (fun _ => bnd t fun b => if b then bnd fk fun y => bnd fv fun x => bnd (asFv x) fun f => fun s => match dcPutT acc y f with
        | some acc' => dcLT vs g t fk fv chk r acc' { s with δ := wipeD s.δ vs }
        | none => none
      else fun s => dcLT vs g t fk fv chk r acc { s with δ := wipeD s.δ vs }) s else none
def dcRunT (vs : List Nat) (fi : M Its) (g : Val → M Unit) (t : M Bool) (fk fv : M Val) : M (List (List Key × Fv)) := bnd fi fun I => fun s => if noOwn s.δ vs then
    match hush (dcLT vs g t fk fv I.chk I.items []) { s with δ := wipeD s.δ vs } with
    | some (.ok ys, s2) => some (.ok ys, { s2 with δ := backD s.δ s2.δ vs })
    | _ => none
  else none
section
variable {kx vx tg iter : Expr} {ifs : List Expr} {scope : Scope} {own : List (Str × Nat)} {pos : Pos} {fi : M Its} {g : Val → M Unit} {ft : M Bool} {fk fv : M Val}
/-- as a cell -/
def dDcCT (vs : List Nat) (fi : M Its) (g : Val → M Unit) (t : M Bool) (fk fv : M Val) : M Val := bnd (dcRunT vs fi g t fk fv) fun acc => fun s => some (.ok (.loc s.μ.length), { s with μ := s.μ ++ [.dit false acc] })
/-- as a new object of plain items -/
def dDcFT (vs : List Nat) (fi : M Its) (g : Val → M Unit) (t : M Bool) (fk fv : M Val) : M Own := bnd (dcRunT vs fi g t fk fv) fun acc => match plainD acc with
  | some l => ret (.dit false l)
  | none => stuck
end
end
def dcK2T (vs : List Nat) (g : Val → M Unit) (t : M Bool) (fk fv : M Val) (I : Its) : M (List (List Key × Fv)) := fun s => if noOwn s.δ vs then
    match hush (dcLT vs g t fk fv I.chk I.items []) { s with δ := wipeD s.δ vs } with
    | some (.ok ys, s2) => some (.ok ys, { s2 with δ := backD s.δ s2.δ vs })
    | _ => none
  else none
def newDit (acc : List (List Key × Fv)) : M Val := fun s => some (.ok (.loc s.μ.length), { s with μ := s.μ ++ [.dit false acc] })
@[simp] theorem Wp_newDit (acc : List (List Key × Fv)) (δ : List (Option Slot)) (μ : List Cell) (Q : Out Val → DSt → Prop) : Wp (newDit acc) ⟨δ, μ⟩ Q = Q (.ok (.loc μ.length)) ⟨δ, μ ++ [.dit false acc]⟩ := Wp_some rfl
def plnDit (acc : List (List Key × Fv)) : M Own := match plainD acc with
  | some l => ret (.dit false l)
  | none => stuck
@[simp] theorem Wp_plnDit (l : List (List Key × T)) (s : DSt) (Q : Out Own → DSt → Prop) : Wp (plnDit (l.map fun p => (p.1, Fv.t p.2))) s Q = Q (.ok (.dit false l)) s := by
  unfold plnDit
  rw [plainD_t]
  exact Wp_ret _ _ _
@[simp] theorem Wp_dDcCT (vs : List Nat) (fi : M Its) (g : Val → M Unit) (t : M Bool) (fk fv : M Val) (s : DSt) (Q : Out Val → DSt → Prop) : Wp (dDcCT vs fi g t fk fv) s Q = Wp fi s (Bk (dcK2T vs g t fk fv) (Bk newDit Q)) := (Wp_bnd (dcRunT vs fi g t fk fv) newDit s Q).trans (Wp_bnd fi (dcK2T vs g t fk fv) s _)
@[simp] theorem Wp_dDcFT (vs : List Nat) (fi : M Its) (g : Val → M Unit) (t : M Bool) (fk fv : M Val) (s : DSt) (Q : Out Own → DSt → Prop) : Wp (dDcFT vs fi g t fk fv) s Q = Wp fi s (Bk (dcK2T vs g t fk fv) (Bk plnDit Q)) := (Wp_bnd (dcRunT vs fi g t fk fv) plnDit s Q).trans (Wp_bnd fi (dcK2T vs g t fk fv) s _)
def DkVT (acc : List (List Key × Fv)) (y : Val) (Nx : List (List Key × Fv) → DSt → Prop) : Out Fv → DSt → Prop
  | .ok f, s => ∃ acc', dcPutT acc y f = some acc' ∧ Nx acc' s
  | .exc _ _, _ => False
@[simp] theorem DkVT_ok (acc : List (List Key × Fv)) (y : Val) (Nx : List (List Key × Fv) → DSt → Prop) (f : Fv) (s : DSt) : DkVT acc y Nx (.ok f) s = ∃ acc', dcPutT acc y f = some acc' ∧ Nx acc' s := rfl
def DkYT (acc : List (List Key × Fv)) (fv : M Val) (Nx : List (List Key × Fv) → DSt → Prop) : Out Val → DSt → Prop
  | .ok y, s => Wp fv s (Bk asFv (DkVT acc y Nx))
  | .exc _ _, _ => False
@[simp] theorem DkYT_ok (acc : List (List Key × Fv)) (fv : M Val) (Nx : List (List Key × Fv) → DSt → Prop) (y : Val) (s : DSt) : DkYT acc fv Nx (.ok y) s = Wp fv s (Bk asFv (DkVT acc y Nx)) := rfl
def DkT (acc : List (List Key × Fv)) (fk fv : M Val) (Nx : List (List Key × Fv) → DSt → Prop) : Out Bool → DSt → Prop
  | .ok b, s => if b = true then Wp fk s (DkYT acc fv Nx) else Nx acc s
  | .exc _ _, _ => False
@[simp] theorem DkT_ok (acc : List (List Key × Fv)) (fk fv : M Val) (Nx : List (List Key × Fv) → DSt → Prop) (b : Bool) (s : DSt) : DkT acc fk fv Nx (.ok b) s = if b = true then Wp fk s (DkYT acc fv Nx) else Nx acc s := rfl
end Lf
namespace Lf
open PySem PySem.Spec L2
section
variable {cl : Cl} {X : Cx}
def stillT (v : Val) : M (List (List Key × T)) := fun s => match v with
  | .t (.dit kvs) => some (.ok kvs, s)
  | .loc n => match s.μ[n]? with
    | some (.dit false kvs) => match plainD kvs with
      | some ts => some (.ok ts, { s with μ := s.μ.set n (.fz (.dit ts)) })
      | none => none
    | some (.fz (.dit kvs)) => some (.ok kvs, s)
    | _ => none
  | .sl i => match s.δ[i]? with
    | some (some (.own (.dit _ kvs))) => some (.ok kvs, { s with δ := s.δ.set i (some (.t (.dit kvs))) })
    | some (some (.t (.dit kvs))) => some (.ok kvs, s)
    | _ => none
  | _ => none
theorem RepE.at {K : PySem.W.Frag} {G : Hp} : ∀ {l : List (List Key × T)} {m : List (List Key × V)} {i : Nat} {p : List Key × T}, RepE K cl G l m → l[i]? = some p → ∃ v, m[i]? = some (p.1, v)
  | _, _, i, p, .nil, h => by simp at h
  | _, _, 0, p, .cons _ _, h => by simp at h; subst h; exact ⟨_, rfl⟩
  | _, _, i + 1, p, .cons _ t, h => by
    obtain ⟨v, e⟩ := RepE.at (i := i) t (by simpa using h)
    exact ⟨v, by simpa using e⟩
theorem RepE.length {K : PySem.W.Frag} {G : Hp} : ∀ {l : List (List Key × T)} {m : List (List Key × V)}, RepE K cl G l m → l.length = m.length
  | _, _, .nil => rfl
  | _, _, .cons _ t => by rw [List.length_cons, List.length_cons, t.length]

theorem Le.locked {w : Wd} {H : Hp} {d : Addr} {o : HO} {od : Obj} (g : w.G d = some o) (hd : isD o = true) (h : H d = some o) : Le w H w (upd H d (.frz od o)) := by
  refine ⟨List.prefix_refl _, Same.refl _, fun _ q _ => q, fun a u h1 h2 h3 h4 => ?_, fun a h1 h2 => ?_, fun _ _ _ => rfl⟩
  · have hb : a ≠ d := fun z => by
      rw [z, h] at h2
      cases h2
      rcases h4 with h4 | h4
      · rw [z, g] at h4; cases h4
      · rw [hd] at h4; cases h4
    rw [upd_ne hb]; exact h2
  · by_cases hb : a = d
    · rw [hb, upd_same]; exact fun z => nomatch z
    · rw [upd_ne hb]; exact h2
def walkD (v : Val) : M Its := bnd (stillD v) fun kvs => ret ⟨keysV kvs, fun _ => true⟩
def iKeyD (f : M Val) : M Its := bnd f walkD
def keysTV (kvs : List (List Key × T)) : List Val := kvs.map fun p => .t (tkTree p.1)
def walkT (v : Val) : M Its := bnd (stillT v) fun kvs => ret ⟨keysTV kvs, fun _ => true⟩
def iKeyT (f : M Val) : M Its := bnd f walkT
/-- list(d), tuple keys -/
def dListT (vs : List Val) : M Own := fun s => match vs with
  | [v] => match dcT s v with
    | some kvs => some (.ok (.lst (kvs.map fun p => tkTree p.1)), s)
    | none => dListD vs s
  | _ => none
def gtT (a : Val) (b : Val) (d : Val) : M Val := fun s => match dcT s a with
  | some kvs => match b with
    | .t x => match tkT x with
      | some k => match look kvs k with
        | some f => some (.ok f.val, s)
        | none => some (.ok d, s)
      | none => none
    | _ => none
  | none => none
def isDt (a : Val) : M Unit := fun s => if (dcT s a).isSome then some (.ok (), s) else none
def dGet1T (fo fk : M Val) : M Val := bnd fo fun a => bnd (isDt a) fun _ => bnd fk fun b => gtT a b (.t .non)
def dGet2T (fo fk fd : M Val) : M Val := bnd fo fun a => bnd (isDt a) fun _ => bnd fk fun b => bnd fd fun d => gtT a b d
@[simp] theorem Wp_dGet1T (fo fk : M Val) (s : DSt) (Q : Out Val → DSt → Prop) : Wp (dGet1T fo fk) s Q = Wp fo s (Bk (fun a => bnd (isDt a) fun _ => bnd fk fun b => gtT a b (.t .non)) Q) := Wp_bnd _ _ _ _
@[simp] theorem Wp_dGet2T (fo fk fd : M Val) (s : DSt) (Q : Out Val → DSt → Prop) : Wp (dGet2T fo fk fd) s Q = Wp fo s (Bk (fun a => bnd (isDt a) fun _ => bnd fk fun b => bnd fd fun d => gtT a b d) Q) := Wp_bnd _ _ _ _
end

@[simp] theorem Wp_iKeyD (f : M Val) (s : DSt) (Q : Out Its → DSt → Prop) : Wp (iKeyD f) s Q = Wp f s (Bk walkD Q) := Wp_bnd _ _ _ _
@[simp] theorem Wp_iKeyT (f : M Val) (s : DSt) (Q : Out Its → DSt → Prop) : Wp (iKeyT f) s Q = Wp f s (Bk walkT Q) := Wp_bnd _ _ _ _
@[simp] theorem Wp_walkDt (kvs : List (Key × T)) (s : DSt) (Q : Out Its → DSt → Prop) : Wp (walkD (.t (.dic kvs))) s Q = Q (.ok ⟨keysV kvs, fun _ => true⟩) s := Wp_some (by simp [walkD, bnd, stillD, ret])
@[simp] theorem Wp_walkTt (kvs : List (List Key × T)) (s : DSt) (Q : Out Its → DSt → Prop) : Wp (walkT (.t (.dit kvs))) s Q = Q (.ok ⟨keysTV kvs, fun _ => true⟩) s := Wp_some (by simp [walkT, bnd, stillT, ret])
end Lf
namespace Lf
open PySem PySem.Spec L2
def dWp (ks : List Nat) : M Fl := fun s => some (.ok .nx, { s with δ := wipeD s.δ ks })
section
variable {cl : Cl} {X : Cx}
theorem R.wipedD {K : PySem.W.Frag} {w : Wd} {st : DSt} {σ : L2.St} {H : Hp} (r : R K cl w st σ H) (ks : List Nat) : R K cl w { st with δ := wipeD st.δ ks } σ H :=
  ⟨r.rc, (wipeD_length st.δ ks).trans r.slen, fun i s e => r.slot i s (wipeD_some e).1⟩
theorem dss_wp {ss : List Stmt} {f : M Fl} {ks : List Nat} (h : DSs cl X ss f) : DSs cl X ss (dSeq (dWp ks) f) := fun W cw w st σ H D o st' r hf p =>
  h W cw w _ σ H D o st' (r.wipedD ks) hf p
theorem dss_wpE {ss : List Stmt} {f : M Fl} {ks : List Nat} (h : DSs cl X ss f) : DSs cl X ss (dSeq f (dWp ks)) := fun W cw w st σ H D o st' r hf p => by
  unfold dSeq at hf
  rcases bnd_some hf with ⟨c, fs, h1, rfl⟩ | ⟨fl, st1, h1, h2⟩
  · exact h W cw w st σ H D _ st' r h1 p
  · cases fl with
    | nx =>
      cases h2
      exact h W cw w st σ H D _ st1 r h1 fun w' σ' H' l r' => p w' σ' H' l (r'.wipedD ks)
    | rt v => cases h2; exact h W cw w st σ H D _ _ r h1 p
    | rf v => cases h2; exact h W cw w st σ H D _ _ r h1 p
    | bk => cases h2; exact h W cw w st σ H D _ _ r h1 p
    | ct => cases h2; exact h W cw w st σ H D _ _ r h1 p
end
def wpD (δ : List (Option Slot)) (ks : List Nat) : List (Option Slot) := wipeD δ ks
@[simp] theorem wpD_nil (δ : List (Option Slot)) : wpD δ [] = δ := rfl
@[simp] theorem wpD_cons (δ : List (Option Slot)) (k : Nat) (ks : List Nat) : wpD δ (k :: ks) = (wpD δ ks).set k none := rfl
@[simp] theorem Wp_dWp (ks : List Nat) (δ : List (Option Slot)) (μ : List Cell) (Q : Out Fl → DSt → Prop) : Wp (dWp ks) ⟨δ, μ⟩ Q = Q (.ok .nx) ⟨wpD δ ks, μ⟩ := Wp_some rfl
end Lf
namespace Lf
open PySem PySem.Spec L2
section
variable {M : Model} {A : Around} {E : Value → Shared → Prop} {s : Shared} {K : PySem.W.Frag} {x C L f : Addr} {h₀ : Heap} {m : Str → Option Value} {ox : Obj} {od : Option Obj} {name : Str} {b : Value}
end
section
variable {cl : Cl} {X : Cx} {k : Nat} {f C : Addr} {fd : FuncData} {ps : List Str} {F : DFun} {c : Str}
def dInO (c : Str) (F : DFun) (neg : Bool) (a b : Val) : M Val := fun s => match insOf s b with
  | some (d, _) => if d = c then bnd (bnd (asFvs [b, a]) fun fs => callF F fs) (fun r => match r with
      | .val (.t (.bl t)) => ret (.t (.bl (if neg then !t else t)))
      | _ => stuck) s else none
  | none => none
/-- len of an own object -/
def dLenO (c : Str) (F : DFun) (vs : List Val) : M Val := fun s => match vs with
  | [v] => match insOf s v with
    | some (d, _) => if d = c then bnd (bnd (asFvs [v]) fun fs => callF F fs) (fun r => match r with
        | .val (.t (.int t)) => if 0 ≤ t ∧ t < 2 ^ 63 then ret (.t (.int t)) else stuck
        | _ => stuck) s else none
    | none => none
  | _ => none
end
end Lf
namespace Lf
open PySem PySem.Spec L2
def strsF : List Fv → Option (List Str)
  | [] => some []
  | .t (.str x) :: r => (strsF r).map (x :: ·)
  | _ :: _ => none
def mRemove (v : Val) (vs : List Val) : M Val := fun s => match vs with
  | [.t (.str y)] => match getL s v with
    | some xs => match strsF xs with
      | some ys => if y ∈ ys then match setL s v ((ys.erase y).map fun y => Fv.t (.str y)) with
          | some s' => some (.ok (.t .non), s')
          | none => none
        else none
      | none => none
    | none => none
  | _ => none
section
variable {cl : Cl} {X : Cx}
def isStrV (k : Str) : Value → Bool
  | .str z _ => z.cps.toList == k.cps.toList
  | _ => false
end
end Lf
namespace HT
open PySem PyProof.Rows PySem.SeqAt
section
variable {prog : Program} {w : World} {A : Around} {E : Value → Shared → Prop} {s : Shared}
end
end HT
namespace Lf
open PySem PySem.Spec L2 PyProof.Rows
section
variable {cl : Cl} {X : Cx}
/-- xs[::-1] -/
def revA (v : Val) : M Val := fun s => match v with
  | .t (.tup ts) => some (.ok (.t (.tup ts.reverse)), s)
  | _ => match lstOf s v with
    | some ts => some (.ok (.t (.lst ts.reverse)), s)
    | none => none
def dRev (fe fs : M Val) : M Val := bnd fe fun v => bnd fs fun k => match k with
  | .t (.int i) => if i = -1 then revA v else stuck
  | _ => stuck
end
@[simp] theorem Wp_dRev (fe fs : M Val) (s : DSt) (Q : Out Val → DSt → Prop) : Wp (dRev fe fs) s Q = Wp fe s (Bk (fun v => bnd fs fun k => match k with
  | .t (.int i) => if i = -1 then revA v else stuck
  | _ => stuck) Q) := Wp_bnd _ _ _ _
@[simp] theorem Wp_revL (ts : List T) (s : DSt) (Q : Out Val → DSt → Prop) : Wp (revA (.t (.lst ts))) s Q = Q (.ok (.t (.lst ts.reverse))) s := Wp_some rfl
@[simp] theorem Wp_revT (ts : List T) (s : DSt) (Q : Out Val → DSt → Prop) : Wp (revA (.t (.tup ts))) s Q = Q (.ok (.t (.tup ts.reverse))) s := Wp_some rfl
end Lf
namespace Lf
open PySem PySem.Spec L2
def pickI (vs : List Val) (k : Val) : M Val := fun s => match k with
  | .t (.int i) => match atI vs i with
    | some v => some (.ok v, s)
    | none => none
  | _ => none
def dPick (fa : M (List Val)) (fi : M Val) : M Val := bnd fa fun vs => if vs.length ≤ sizeLine then bnd fi (pickI vs) else stuck
section
variable {cl : Cl} {X : Cx}
end
@[simp] theorem Wp_dPick (fa : M (List Val)) (fi : M Val) (s : DSt) (Q : Out Val → DSt → Prop) : Wp (dPick fa fi) s Q = Wp fa s (Bk (fun vs => if vs.length ≤ sizeLine then bnd fi (pickI vs) else stuck) Q) := Wp_bnd _ _ _ _
end Lf
namespace Lf
open PySem PySem.Spec L2
def dDictC (vs : List Val) : M Own := fun s => match vs with
  | [v] => match dcK s v with
    | some kvs => match plainD kvs with
      | some l => some (.ok (.dic false l), s)
      | none => none
    | none => dDictP vs s
  | _ => none
section
variable {cl : Cl} {X : Cx}
end
end Lf
namespace Lf
open PySem PySem.Spec L2
section
variable {cl : Cl} {X : Cx}
def dAddT (a b : Val) : M Val := fun s => match a, b with
  | .t (.tup xs), .t (.tup ys) => if xs.length + ys.length ≤ sizeLine then some (.ok (.t (.tup (xs ++ ys))), s) else none
  | a, b => dAdd a b s
/-- a + b of lists, the new list one's own -/
def dAddF (fa fb : M Val) : M Own := bnd fa fun a => bnd fb fun b => fun s => match lstOf s a, lstOf s b with
  | some xs, some ys => if xs.length + ys.length ≤ sizeLine then some (.ok (.lst (xs ++ ys)), s) else none
  | _, _ => none
end
@[simp] theorem Wp_dAddTT (xs ys : List T) (s : DSt) (Q : Out Val → DSt → Prop) : Wp (dAddT (.t (.tup xs)) (.t (.tup ys))) s Q = (xs.length + ys.length ≤ sizeLine ∧ Q (.ok (.t (.tup (xs ++ ys)))) s) := by
  by_cases h : xs.length + ys.length ≤ sizeLine
  · rw [Wp_some (o := .ok (.t (.tup (xs ++ ys)))) (s' := s) (by simp [dAddT, h])]
    simp [h]
  · apply propext
    constructor
    · rintro ⟨o, s', e, q⟩
      simp [dAddT, h] at e
    · rintro ⟨z, _⟩; exact absurd z h
@[simp] theorem Wp_dAddTI (i j : Int) (s : DSt) (Q : Out Val → DSt → Prop) : Wp (dAddT (.t (.int i)) (.t (.int j))) s Q = Q (.ok (.t (.int (i + j)))) s := Wp_some rfl
def addOwK (a b : Val) : M Own := fun s => match lstOf s a, lstOf s b with
  | some xs, some ys => if xs.length + ys.length ≤ sizeLine then some (.ok (.lst (xs ++ ys)), s) else none
  | _, _ => none
@[simp] theorem Wp_dAddF (fa fb : M Val) (s : DSt) (Q : Out Own → DSt → Prop) : Wp (dAddF fa fb) s Q = Wp fa s (Bk (fun a => bnd fb fun b => addOwK a b) Q) := Wp_bnd _ _ _ _
end Lf
namespace Lf
open PySem PySem.Spec L2
theorem Wp_forM {α : Type} (l : List α) (f : α → Val) (Iv : List α → List α → DSt → Prop) {g : Val → M Unit} {b : M Fl} {chk : DSt → Bool} {items : List Val} {s : DSt} {Q : Out Fl → DSt → Prop}
    (h0 : Iv [] l s) (h1 : ∀ pre a rest s, l = pre ++ a :: rest → Iv pre (a :: rest) s → Wp (g (f a)) s (Bk (fun _ => b) (Lk (Iv (pre ++ [a]) rest) Q))) (h2 : ∀ s, Iv l [] s → Q (.ok .nx) s)
    (hc : ∀ pre rest s, Iv pre rest s → chk s = true) (hi : items = l.map f) : Wp (forL g b chk items) s Q := by
  subst hi
  refine Wp_forInv (fun vs s => ∃ pre rest, l = pre ++ rest ∧ vs = rest.map f ∧ Iv pre rest s) (fun vs s ⟨pre, rest, _, _, h⟩ => hc _ _ _ h) ?_ ?_ _ _ ⟨[], l, rfl, rfl, h0⟩
  · rintro s ⟨pre, rest, e, er, h⟩
    have : rest = [] := by simpa using er.symm
    subst this
    rw [List.append_nil] at e
    subst e
    exact h2 s h
  · rintro v vs s ⟨pre, rest, e, er, h⟩
    cases rest with
    | nil => cases er
    | cons a rest =>
      rw [List.map_cons] at er
      obtain ⟨rfl, rfl⟩ := List.cons.inj er
      refine (h1 pre a rest s e h).imp fun o s1 q => ?_
      cases o with
      | exc c fs => exact q
      | ok u =>
        refine Wp.imp (f := b) q fun o s2 q => ?_
        cases o with
        | exc c fs => exact q
        | ok fl => cases fl with
          | nx => exact ⟨pre ++ [a], rest, by rw [e]; simp, rfl, q⟩
          | ct => exact ⟨pre ++ [a], rest, by rw [e]; simp, rfl, q⟩
          | bk => exact q
          | rt v => exact q
          | rf v => exact q
theorem Wp_rngN {n : Nat} (h : n < 1000000000) (s : DSt) (Q : Out Its → DSt → Prop) : Wp (rngK 1 [.t (.int (n : Int))]) s Q = Q (.ok ⟨(List.range n).map fun k : Nat => Val.t (.int (k : Int)), fun _ => true⟩) s := by
  rw [Wp_rng1 (by omega) (by omega)]
  unfold rangeV
  simp
def IsSq (μ : List Cell) (v : Fv) (ts : List T) : Prop := v = .t (.lst ts) ∨ v = .t (.tup ts) ∨ ∃ n, v = .loc n ∧ μ[n]? = some (.lst (ts.map Fv.t))
theorem IsSq.l {μ : List Cell} (ts : List T) : IsSq μ (.t (.lst ts)) ts := .inl rfl
theorem IsSq.u {μ : List Cell} (ts : List T) : IsSq μ (.t (.tup ts)) ts := .inr (.inl rfl)
theorem IsSq.c {μ : List Cell} {n : Nat} {ts : List T} (h : μ[n]? = some (.lst (ts.map Fv.t))) : IsSq μ (.loc n) ts := .inr (.inr ⟨n, rfl, h⟩)
@[simp] theorem Wp_listDL (xs : List T) (s : DSt) (Q : Out Own → DSt → Prop) : Wp (dListD [.t (.lst xs)]) s Q = Q (.ok (.lst xs)) s := Wp_some (by simp [dListD, dcK, dList, seqOf, plains_t])
@[simp] theorem Wp_listDT (xs : List T) (s : DSt) (Q : Out Own → DSt → Prop) : Wp (dListD [.t (.tup xs)]) s Q = Q (.ok (.lst xs)) s := Wp_some (by simp [dListD, dcK, dList, seqOf, plains_t])
theorem IsSq.far {μ μ' : List Cell} {v : Fv} {ts : List T} (h : IsSq μ v ts) (e : ∀ n, v = .loc n → μ'[n]? = μ[n]?) : IsSq μ' v ts := by
  rcases h with rfl | rfl | ⟨n, rfl, h⟩
  · exact .inl rfl
  · exact .inr (.inl rfl)
  · exact .inr (.inr ⟨n, rfl, by rw [e n rfl]; exact h⟩)
@[simp] theorem retV_own (o : Own) : retV (.own o) = keep o := rfl
def stW (g : M (List Val)) (v : Val) : M (List Val) := fun s => match seqOf s v with
  | some (_, ts) => bnd g (fun vs => ret (ts.map Fv.val ++ vs)) s
  | none => none
@[simp] theorem Wp_dStarW (f : M Val) (g : M (List Val)) (s : DSt) (Q : Out (List Val) → DSt → Prop) : Wp (dStar f g) s Q = Wp f s (Bk (stW g) Q) := Wp_bnd _ _ _ _
theorem fvals_t (xs : List T) : (xs.map Fv.t).map Fv.val = xs.map Val.t := by rw [List.map_map]; rfl
@[simp] theorem Wp_stL (g : M (List Val)) (xs : List T) (s : DSt) (Q : Out (List Val) → DSt → Prop) : Wp (stW g (.t (.lst xs))) s Q = Wp g s (Bk (fun vs => ret (xs.map Val.t ++ vs)) Q) := by
  rw [← Wp_bnd]; unfold Wp stW; simp only [seqOf, fvals_t]
@[simp] theorem Wp_stT (g : M (List Val)) (xs : List T) (s : DSt) (Q : Out (List Val) → DSt → Prop) : Wp (stW g (.t (.tup xs))) s Q = Wp g s (Bk (fun vs => ret (xs.map Val.t ++ vs)) Q) := by
  rw [← Wp_bnd]; unfold Wp stW; simp only [seqOf, fvals_t]
@[simp] theorem Wp_dNegI (i : Int) (s : DSt) (Q : Out Val → DSt → Prop) : Wp (dNeg (.t (.int i))) s Q = Q (.ok (.t (.int (-i)))) s := Wp_some rfl
end Lf
namespace Lf
open PySem PySem.Spec L2 PyProof.Rows
def dLamB (wr : T → T) (n : Nat) (q : Str) (m : Nat) (l : List Clz) (fb : M Val) : M Val := fun s =>
  match s.μ[n]? with
  | some (.tab q') => if q' = q then
      match fb s with
      | some (.ok (.t t), s1) => some (.ok (.t (wr t)), s1)
      | some (.exc c fs, s1) => match hnd l c fs ⟨List.replicate m none, s1.μ⟩ with
          | some (.ok (.rt (.t t)), s2) => some (.ok (.t t), { s1 with μ := s2.μ })
          | _ => none
      | _ => none
    else none
  | _ => none
section
variable {cl : Cl} {X : Cx}
end
/-- behind the lambda's body -/
def LmB (wr : T → T) (m : Nat) (l : List Clz) (Q : Out Val → DSt → Prop) : Out Val → DSt → Prop
  | .ok (.t t), s1 => Q (.ok (.t (wr t))) s1
  | .ok _, _ => False
  | .exc c fs, s1 => Wp (hnd l c fs) ⟨List.replicate m none, s1.μ⟩ fun o s2 => ∃ t, o = .ok (.rt (.t t)) ∧ Q (.ok (.t t)) { s1 with μ := s2.μ }
@[simp] theorem LmB_ok (wr : T → T) (m : Nat) (l : List Clz) (Q : Out Val → DSt → Prop) (x : T) (s : DSt) : LmB wr m l Q (.ok (.t x)) s = Q (.ok (.t (wr x))) s := rfl
@[simp] theorem LmB_exc (wr : T → T) (m : Nat) (l : List Clz) (Q : Out Val → DSt → Prop) (c : Str) (fs : List (Str × T)) (s : DSt) : LmB wr m l Q (.exc c fs) s = Wp (hnd l c fs) ⟨List.replicate m none, s.μ⟩ fun o s2 => ∃ t, o = .ok (.rt (.t t)) ∧ Q (.ok (.t t)) { s with μ := s2.μ } := rfl
end Lf
namespace Lf
open PySem PySem.Spec L2
section
variable {cl : Cl} {X : Cx}
def sdN (v : Val) (vs : List Val) : M Val := fun s => match vs with
  | [.t x, .t (.int z)] => match dnnOf s v, v, nkeyT x with
    | some kvs, .loc n, some k => match look kvs k with
      | some i => some (.ok (.t (.int i)), s)
      | none => if decide (kvs.length < sizeLine) then some (.ok (.t (.int z)), { s with μ := s.μ.set n (.dnn (kvs ++ [(k, z)])) }) else none
    | _, _, _ => none
  | _ => none
def dSdN (fo : M Val) (fa : M (List Val)) : M Val := bnd fo fun v => fun s => if (dnnOf s v).isSome then bnd fa (fun vs => sdN v vs) s else none
end
end Lf
namespace Lf
open PySem PySem.Spec L2
def fvPd (μ : List Cell) : Fv → Option PyData
  | .t x => x.pd
  | .loc m => match μ[m]? with
    | some (.lst xs) => match plains xs with
      | some ts => (T.pds ts).map .list
      | none => none
    | _ => none
def fvPds (μ : List Cell) : List Fv → Option (List PyData)
  | [] => some []
  | x :: r => match fvPd μ x, fvPds μ r with
    | some d, some ds => some (d :: ds)
    | _, _ => none
def valPdL (s : DSt) (v : Val) : Option PyData := match v with
  | .loc n => match s.μ[n]? with
    | some (.lst xs) => (fvPds s.μ xs).map .list
    | _ => none
  | v => valPd s v
section
variable {cl : Cl} {X : Cx}
def dEqL (neg : Bool) (a b : Val) : M Val := fun s => match valPdL s a, valPdL s b with
  | some d, some e => if SeqAt.shaped d && SeqAt.shaped e then some (.ok (.t (.bl (if neg then !PyData.eqv d e else PyData.eqv d e))), s) else none
  | _, _ => none
def frzFl : List Fv → M (List T)
  | [] => ret []
  | .t x :: r => bnd (frzFl r) fun l => ret (x :: l)
  | .loc m :: r => bnd (frzC m) fun x => bnd (frzFl r) fun l => ret (x :: l)
/-- a list with the cells in it -/
def frzLL (n : Nat) : M T := fun s => match s.μ[n]? with
  | some (.lst xs) => match frzFl xs s with
    | some (.ok l, s1) => match s1.μ[n]? with
      | some (.lst _) => some (.ok (.lst l), { s1 with μ := s1.μ.set n (.fz (.lst l)) })
      | _ => none
    | _ => none
  | _ => none
def frzX (n : Nat) : M T := fun s => match s.μ[n]? with
  | some (.lst _) => frzLL n s
  | _ => frzN n s
/-- the cell that a slot holds stands still, with the cells in it -/
def dFz (i : Nat) : M Fl := fun s => match s.δ[i]? with
  | some (some (.loc n)) => match frzX n s with
    | some (.ok x, s1) => some (.ok .nx, { s1 with δ := s1.δ.set i (some (.t x)) })
    | _ => none
  | _ => none
end
end Lf
namespace Lf.Nq
open PySem PySem.SeqAt PySem.W
section
variable {prog : Program} {w : World} {Kk : Type} [DecidableEq Kk] {knd : HeapKind prog w Kk} {A : Around} {E : Value → Shared → Prop} {s : Shared}
def prH (xs : List (Kk × Addr × Value)) : List (Kk × Value) := xs.map fun x => (x.1, x.2.2)
end
end Lf.Nq
namespace Lf
open PySem PySem.Spec L2
section
variable {cl : Cl} {X : Cx} {pins : List (Addr × Obj)} {σ : L2.St} {H : Hp} {s : Shared}
def eqE (x y : T) : Option Bool := match x, y with
  | .dit ks, .dit ls => if okKeys ks = true then (match eqHit (eqN 49) ls ks with | some c => some (decide (ks.length = ls.length) && c) | none => none) else none
  | _, _ => none
/-- a == b, a != b: dicts with tuples for keys -/
def dEqE (neg : Bool) (a b : Val) : M Val := fun s => match frz a s with
  | some (.ok x, s1) => match frz b s1 with
    | some (.ok y, s2) => match eqE x y with
      | some c => some (.ok (.t (.bl (if neg then !c else c))), s2)
      | none => none
    | _ => none
  | _ => none
end
end Lf
namespace Lf
open PySem PySem.Spec L2
end Lf
namespace Lf
open PySem PySem.Spec L2
section
variable {cl : Cl} {X : Cx}
def isiX (ty : String) (g : List (Str × T) → Option T) (fs : List (Str × T)) : Option T := match g fs with
  | some t => match tagOf ⟨[], []⟩ (.t t) with
    | some n => some (.bl (isiB n ty))
    | none => none
  | none => none
end
end Lf
namespace Lf
open PySem PySem.Spec L2
/-- what the library asks of the class -/
structure IsC (K : PySem.W.Frag) (C : Addr) : Prop where
  cl : Cls K C
  ha : PySem.W.findIn K (.ref C) "__class__" = some (some (.builtin "object.__class__"))
  hn : PySem.W.specialIn K (.builtin "object.__class__") "__get__" = some (some (.builtin "getset_descriptor.__get__"))
  tk : PySem.W.takesIn K (.builtin "object.__class__") = some true
  mr : PySem.W.mroIn K C (.type "object") = some true
  nn : PySem.W.kitOne K (.type "NoneType") (.ref C) = some false
section
variable {cl : Cl} {X : Cx}
def dIsO (c : Str) (v : Val) : M Val := fun s => match v with
  | .t (.obj d _) => if d = c then some (.ok (.t (.bl true)), s) else none
  | .t .non => some (.ok (.t (.bl false)), s)
  | _ => none
def dInU (neg : Bool) (a b : Val) : M Val := fun s => match dInD neg a b s with
  | some q => some q
  | none => match a, b with
    | .t x, .t (.tup xs) => match x.pd, T.pds xs with
      | some d, some ds => if SeqAt.shaped d && SeqAt.shaped (.tuple ds) then some (.ok (.t (.bl (if neg then !ds.any fun z => PyData.eqv z d else ds.any fun z => PyData.eqv z d))), s) else none
      | _, _ => none
    | _, _ => none
end
end Lf
namespace Lf
open PySem PySem.Spec L2
def itNm : Bool → String
  | true => "tuple_iterator"
  | false => "list_iterator"
def itAt (b : Bool) (h : Heap) (it l : Addr) (i : Nat) : Prop := if b then h.IsTupleIter it l i else h.IsListIter it l i
def sqAt (b : Bool) (h : Heap) (l : Addr) (xs : Array Value) : Prop := if b then h.IsTuple l xs else h.IsList l xs
def SqB (K : PySem.W.Frag) (b : Bool) (H : Hp) (a : Addr) (xs : List V) : Prop := if b then SqT K H a xs else SqL K H a xs
theorem sqAt.push {b : Bool} {h : Heap} {l : Addr} {xs : Array Value} (q : sqAt b h l xs) (o : Obj) : sqAt b (h.push o) l xs := by
  cases b
  · exact Heap.IsList.push q o
  · exact Heap.IsTuple.push q o
theorem itAt.ob {b : Bool} {h : Heap} {it l : Addr} {i : Nat} (q : itAt b h it l i) : ∃ o, h.get? it = some o ∧ ∀ v, o.data ≠ .cell v := by
  cases b
  · obtain ⟨o, e, _, d⟩ := q
    exact ⟨o, e, fun v z => by rw [d] at z; cases z⟩
  · obtain ⟨o, e, _, d⟩ := q
    exact ⟨o, e, fun v z => by rw [d] at z; cases z⟩
theorem itAt.at {b : Bool} {h h' : Heap} {it l : Addr} {i : Nat} (q : itAt b h it l i) (k : ∀ o, h.get? it = some o → h'.get? it = some o) : itAt b h' it l i := by
  cases b
  · exact Heap.IsListIter.at q k
  · exact Heap.IsTupleIter.at q k
theorem sqAt.at {b : Bool} {h h' : Heap} {l : Addr} {xs : Array Value} (q : sqAt b h l xs) (k : ∀ o, h.get? l = some o → h'.get? l = some o) : sqAt b h' l xs := by
  cases b
  · exact Heap.IsList.at q k
  · exact Heap.IsTuple.at q k
theorem sqAt.lt {b : Bool} {h : Heap} {l : Addr} {xs : Array Value} (q : sqAt b h l xs) : l < h.objs.size := by
  cases b
  · obtain ⟨o, e, _⟩ := q
    exact Heap.lt_size e
  · obtain ⟨o, e, _⟩ := q
    exact Heap.lt_size e
/-- the two sequences as they stand at each turn, the items in new pairs -/
def ItzB (K : PySem.W.Frag) (b1 b2 : Bool) (n1 n2 : Nat) (a b : Addr) : It :=
  ⟨fun i H => ∃ (xs ys : List V) (x y : V), SqB K b1 H a xs ∧ SqB K b2 H b ys ∧ xs.length = n1 ∧ ys.length = n2 ∧ xs[i]? = some x ∧ ys[i]? = some y,
    fun i H v H' => ∃ T x y, v = .ref T ∧ H T = none ∧ H' = upd H T (.tup [x, y]) ∧ (∀ xs, SqB K b1 H a xs → xs[i]? = some x) ∧ ∀ ys, SqB K b2 H b ys → ys[i]? = some y,
    fun i H => ∃ xs ys : List V, SqB K b1 H a xs ∧ SqB K b2 H b ys ∧ xs.length = n1 ∧ ys.length = n2 ∧ (n1 ≤ i ∨ n2 ≤ i)⟩
abbrev zpH1 (b1 : Bool) (h : Heap) (l1 : Addr) : Heap := h.push { cls := .type (itNm b1), data := .fields #[.ref l1, .int 0 0] }
abbrev zpH2 (b1 b2 : Bool) (h : Heap) (l1 l2 : Addr) : Heap := (zpH1 b1 h l1).push { cls := .type (itNm b2), data := .fields #[.ref l2, .int 0 0] }
abbrev zpH3 (b1 b2 : Bool) (h : Heap) (l1 l2 : Addr) : Heap := (zpH2 b1 b2 h l1 l2).push { cls := .type "tuple", data := .seq #[.ref h.objs.size, .ref (zpH1 b1 h l1).objs.size] }
abbrev zpH4 (b1 b2 : Bool) (h : Heap) (l1 l2 : Addr) : Heap := (zpH3 b1 b2 h l1 l2).push { cls := .type "tuple", data := .seq #[.none, .none] }
abbrev zpH5 (b1 b2 : Bool) (h : Heap) (l1 l2 : Addr) : Heap := (zpH4 b1 b2 h l1 l2).push { cls := .type "zip", data := .fields #[.none, .bool false, .bool false, .ref (zpH2 b1 b2 h l1 l2).objs.size, .ref (zpH3 b1 b2 h l1 l2).objs.size] }
def iZipB (K : PySem.W.Frag) (ta : TA) : TI := fun σ H R => ta σ H fun vs H1 => ∃ b1 b2 a b xs ys, vs = [.ref a, .ref b] ∧ SqB K b1 H1 a xs ∧ SqB K b2 H1 b ys ∧ R (ItzB K b1 b2 xs.length ys.length a b) H1
section
variable {cl : Cl} {X : Cx}
def zipV (xs ys : List T) : List Val := (xs.zip ys).map fun p => .t (.tup [p.1, p.2])
def walkZip (x y : T) : M Its := fun s => match seqOf s (.t x), seqOf s (.t y) with
  | some (_, fs), some (_, gs) => match plains fs, plains gs with
    | some xs, some ys => some (.ok ⟨zipV xs ys, fun _ => true⟩, s)
    | _, _ => none
  | _, _ => none
def iZip (f : M (List Val)) : M Its := bnd f fun vs => bnd (frzs vs) fun ts => match ts with
  | [x, y] => walkZip x y
  | _ => stuck
end
@[simp] theorem Wp_iZip (f : M (List Val)) (s : DSt) (Q : Out Its → DSt → Prop) : Wp (iZip f) s Q = Wp f s (Bk (fun vs => bnd (frzs vs) fun ts => match ts with | [x, y] => walkZip x y | _ => stuck) Q) := Wp_bnd _ _ _ _
def isSqT : T → Option (List T)
  | .lst xs => some xs
  | .tup xs => some xs
  | _ => none
end Lf
namespace Lf
open PySem PySem.Spec PyProof.Rows L2
/-- a tracked dict told by its pairs -/
inductive PsOf (H : Hp) (d : Addr) : List (V × V) → Prop
  | k {kvs : List (Key × V)} (e : Rd H d (.dK kvs)) : PsOf H d (kvs.map fun p => (kV p.1, p.2))
  | t {kvs : List (List Key × V)} {bs : List Addr} (e : Rd H d (.dT kvs)) (h : Paired (fun p b => H b = some (.tup (p.1.map kV))) kvs bs) : PsOf H d ((kvs.zip bs).map fun p => (V.ref p.2, p.1.2))
/-- the same in the memory -/
def RawP (h : Heap) (d : Addr) (ps : List (V × V)) : Prop :=
  ps.length ≤ sizeLine ∧ (d == sysModules) = false ∧ ∃ es ep, h.DictRaw d es ep ∧ es.size = ps.length ∧ ∀ i (hi : i < es.size) p, ps[i]? = some p → RelV p.1 es[i].key ∧ RelV p.2 es[i].val
def tListVals (te : TE) : TE := fun σ H Q => te σ H fun x H1 => ∃ d, x = .ref d ∧ ((∃ m, Rd H1 d (.dK m)) ∨ ∃ m, Rd H1 d (.dT m)) ∧ ∀ ps p, PsOf H1 d ps → H1 p = none → Q (.ref p) (upd H1 p (.lst (ps.map (·.2))))
section
variable {X : Cx} {e : Expr} {te : TE} {p apos cpos pos : Pos}
/-- the pairs tracked at their addresses -/
def putP : Hp → List Addr → List (V × V) → Hp
  | H, a :: as, p :: kvs => putP (upd H a (.tup [p.1, p.2])) as kvs
  | H, _, _ => H
def tListIts (te : TE) : TE := fun σ H Q => te σ H fun x H1 => ∃ d, x = .ref d ∧ ((∃ m, Rd H1 d (.dK m)) ∨ ∃ m, Rd H1 d (.dT m)) ∧ ∀ ps p as, PsOf H1 d ps → as.length = ps.length → as.Nodup → H1 p = none → (∀ t ∈ as, H1 t = none) → p ∉ as → Q (.ref p) (upd (putP H1 as ps) p (.lst (as.map V.ref)))
end
section
variable {cl : Cl} {X : Cx}
/-- the values of a dict that holds plain data -/
def valsOf (s : DSt) (v : Val) : Option (List T) := match dcT s v with
  | some kvs => (plainD kvs).map fun l => l.map (·.2)
  | none => match dcK s v with
    | some kvs => (plainD kvs).map fun l => l.map (·.2)
    | none => none
/-- its pairs -/
def itsOf (s : DSt) (v : Val) : Option (List T) := match dcT s v with
  | some kvs => (plainD kvs).map fun l => l.map fun p => .tup [tkTree p.1, p.2]
  | none => match dcK s v with
    | some kvs => (plainD kvs).map fun l => l.map fun p => .tup [keyTree p.1, p.2]
    | none => none
def dListV (f : M Val) : M Own := bnd f fun v => fun s => match valsOf s v with
  | some ts => some (.ok (.lst ts), s)
  | none => none
def dListI (f : M Val) : M Own := bnd f fun v => fun s => match itsOf s v with
  | some ts => some (.ok (.lst ts), s)
  | none => none
end
@[simp] theorem Wp_dListV (f : M Val) (s : DSt) (Q : Out Own → DSt → Prop) : Wp (dListV f) s Q = Wp f s (Bk (fun v => fun s => match valsOf s v with | some ts => some (.ok (.lst ts), s) | none => none) Q) := Wp_bnd _ _ _ _
@[simp] theorem Wp_dListI (f : M Val) (s : DSt) (Q : Out Own → DSt → Prop) : Wp (dListI f) s Q = Wp f s (Bk (fun v => fun s => match itsOf s v with | some ts => some (.ok (.lst ts), s) | none => none) Q) := Wp_bnd _ _ _ _
end Lf
namespace Lf
open PySem PySem.Spec L2
section
variable {cl : Cl} {X : Cx}
def dLenT (vs : List Val) : M Val := fun s => match vs with
  | [v] => match dcT s v with
    | some kvs => some (.ok (.t (.int kvs.length)), s)
    | none => none
  | _ => none
end
end Lf
namespace Lf
open PySem PySem.Spec L2
section
variable {cl : Cl} {X : Cx} {K : PySem.W.Frag}
def lockC (v : Val) : M (List (Key × Fv)) := fun s => match v with
  | .loc n => match s.μ[n]? with
    | some (.dic false kvs) => some (.ok kvs, { s with μ := s.μ.set n (.dcl kvs) })
    | _ => none
  | _ => none
def keysC (kvs : List (Key × Fv)) : List Val := kvs.map fun p => .t (keyTree p.1)
def walkC (v : Val) : M Its := bnd (lockC v) fun kvs => ret ⟨keysC kvs, fun _ => true⟩
def iKeyC (f : M Val) : M Its := bnd f walkC
def isDcl : Cell → Bool
  | .dcl _ => true
  | _ => false
/-- no cell but the one at n stands still so -/
def soleC (μ : List Cell) (n : Nat) : Bool := (List.range μ.length).all fun m => m == n || match μ[m]? with
  | some c => !isDcl c
  | none => true
/-- the dict of cells in the slot i is locked for one statement -/
def dUnlC (i : Nat) (f : M Fl) : M Fl := fun st => match st.δ[i]? with
  | some (some (.loc n)) => match st.μ[n]? with
    | some (.dic false kvs) => match f st with
      | some (.ok .nx, st1) => match st1.μ[n]? with
        | some (.dcl kvs') => if soleC st1.μ n then some (.ok .nx, { st1 with μ := st1.μ.set n (.dic false kvs') }) else none
        | _ => none
      | _ => none
    | _ => none
  | _ => none
end
section
variable {cl : Cl} {X : Cx}
def dLenA (vs : List Val) : M Val := fun s => match vs with
  | [v] => match dcK s v with
    | some kvs => some (.ok (.t (.int kvs.length)), s)
    | none => dLen vs s
  | _ => none
end
theorem Wp_lenA {v : Val} {s : DSt} {kvs : List (Key × Fv)} (h : dcK s v = some kvs) (Q : Out Val → DSt → Prop) : Wp (dLenA [v]) s Q = Q (.ok (.t (.int kvs.length))) s := Wp_some (by simp only [dLenA, h])
@[simp] theorem Wp_lenAt (kvs : List (Key × T)) (s : DSt) (Q : Out Val → DSt → Prop) : Wp (dLenA [.t (.dic kvs)]) s Q = Q (.ok (.t (.int kvs.length))) s := by rw [Wp_lenA (kvs := kvs.map fun p => (p.1, Fv.t p.2)) rfl]; simp
section
variable {cl : Cl} {X : Cx}
def isDtB (s : DSt) (v : Val) : Bool := (dcT s v).isSome
def dIsiT (ty : String) (v : Val) : M Val := fun s => if isDtB s v then some (.ok (.t (.bl (isiB "dict" ty))), s) else dIsi [ty] v s
end
@[simp] theorem Wp_iKeyC (f : M Val) (s : DSt) (Q : Out Its → DSt → Prop) : Wp (iKeyC f) s Q = Wp f s (Bk walkC Q) := Wp_bnd _ _ _ _
end Lf
namespace Lf
open PySem PySem.Spec L2
section
variable {cl : Cl} {X : Cx} {K : PySem.W.Frag}
def dRetO (i : Nat) : M Fl := fun s => match s.δ[i]? with
  | some (some (.own o)) => if o.open then some (.ok (.rf o), { s with δ := s.δ.set i none }) else none
  | _ => none
/-- the world without one own object -/
def Wd.off (w : Wd) (a : Addr) : Wd := { w with ω := fun b => if b = a then none else w.ω b }
def offH (H : Hp) (a : Addr) : Hp := fun b => if b = a then none else H b
theorem OwnR.there {G H : Hp} {o : Own} {a : Addr} (h : OwnR K cl G H o a) : ∃ x, H a = some x ∧ ∀ H2 : Hp, H2 a = some x → OwnR K cl G H2 o a := by
  cases o with
  | lst ts => obtain ⟨vs, e, q⟩ := h; exact ⟨_, e, fun H2 e2 => ⟨vs, e2, q⟩⟩
  | dic l ts => cases l with
    | false => obtain ⟨vs, e, q⟩ := h; exact ⟨_, e, fun H2 e2 => ⟨vs, e2, q⟩⟩
    | true => obtain ⟨o, vs, e, q⟩ := h; exact ⟨_, e, fun H2 e2 => ⟨o, vs, e2, q⟩⟩
  | dit l ts => cases l with
    | false => obtain ⟨vs, e, q⟩ := h; exact ⟨_, e, fun H2 e2 => ⟨vs, e2, q⟩⟩
    | true => obtain ⟨o, vs, e, q⟩ := h; exact ⟨_, e, fun H2 e2 => ⟨o, vs, e2, q⟩⟩
theorem R.off {w : Wd} {st : DSt} {σ : L2.St} {H : Hp} (r : R K cl w st σ H) {i : Nat} {a : Addr} (oa : w.ω a = some (.slot i)) : R K cl (w.off a) { st with δ := st.δ.set i none } σ (offH H a) ∧ Le w H (w.off a) (offH H a) := by
  obtain ⟨ga, na⟩ := r.rc.own a _ oa
  have kH : ∀ b, b ≠ a → ∀ u, H b = some u → offH H a b = some u := fun b hb u q => by unfold offH; rw [if_neg hb]; exact q
  have bH : ∀ b u, offH H a b = some u → b ≠ a ∧ H b = some u := fun b u q => by
    unfold offH at q
    split at q
    · cases q
    · rename_i hb; exact ⟨hb, q⟩
  have kO : ∀ b o, (w.off a).ω b = some o → b ≠ a ∧ w.ω b = some o := fun b o q => by
    have q : (if b = a then none else w.ω b) = some o := q
    split at q
    · cases q
    · rename_i hb; exact ⟨hb, q⟩
  have oK : ∀ b o, b ≠ a → w.ω b = some o → (w.off a).ω b = some o := fun b o hb q => by
    show (if b = a then none else w.ω b) = some o
    rw [if_neg hb]; exact q
  refine ⟨⟨⟨fun b u q => ?_, r.rc.len, fun m c b q1 q2 q3 => ?_, fun b u q => ?_, fun m x b q1 q2 => r.rc.fz m x b q1 q2, fun b xs q => ?_⟩, by
    show (st.δ.set i none).length = _
    rw [List.length_set]; exact r.slen, fun j s q => ?_⟩, Le.all (List.prefix_refl _) (Same.refl _) (fun b q _ => ?_) (fun b u q1 q2 => kH b (fun z => by rw [z, oa] at q1; cases q1) u q2) (fun _ _ _ => rfl)⟩
  · have hb : b ≠ a := fun z => by
      have q : w.G b = some u := q
      rw [z, ga] at q; cases q
    rcases r.rc.sub b u q with e | ⟨e1, q2, e2⟩
    · exact .inl (kH b hb u e)
    · exact .inr ⟨e1, q2, kH b hb _ e2⟩
  · obtain ⟨x1, x2⟩ := r.rc.cell m c b q1 q2 q3
    have hb : b ≠ a := fun z => by rw [z, oa] at x1; cases x1
    exact ⟨oK b _ hb x1, x2.keep (List.prefix_refl _) (Same.refl _) (kH b hb)⟩
  · obtain ⟨hb, q⟩ := kO b u q
    obtain ⟨x1, x2⟩ := r.rc.own b u q
    refine ⟨x1, fun z => x2 ?_⟩
    unfold offH at z
    rw [if_neg hb] at z
    exact z
  · exact r.rc.tu b xs (bH b _ q).2
  · have q' : (st.δ.set i none)[j]? = some (some s) := q
    by_cases hj : i = j
    · subst hj
      have hl : i < st.δ.length := by
        have := (List.getElem?_eq_some_iff.mp q').1
        rwa [List.length_set] at this
      rw [List.getElem?_set_self hl] at q'
      cases q'
    · rw [List.getElem?_set_ne hj] at q'
      obtain ⟨x, y1, y2⟩ := r.slot j s q'
      refine ⟨x, y1, ?_⟩
      cases s with
      | t z => exact y2
      | loc n => exact y2
      | own o =>
        obtain ⟨b, z1, z2, z3⟩ := y2
        have hb : b ≠ a := fun z => by rw [z, oa] at z2; cases z2; exact hj rfl
        exact ⟨b, z1, oK b _ hb z2, z3.keep (Same.refl _) (kH b hb)⟩
      | exc c fs => trivial
      | fn L cs => exact y2
      | gf a => exact y2
  · show (if b = a then none else w.ω b) = none
    rw [q]; split <;> rfl
section
variable {κ α : Type} [DecidableEq κ]
def dropA (l : List (κ × α)) (k : κ) : List (κ × α) := l.filter fun p => decide (p.1 ≠ k)
end
def popC (v i : Val) : M Val := fun s => match v, i with
  | .loc n, .t x => match s.μ[n]?, keyT x with
    | some (.dic false l), some k => match look l k with
      | some f => some (.ok f.val, { s with μ := s.μ.set n (.dic false (dropA l k)) })
      | none => none
    | _, _ => none
  | _, _ => none
def dPopK (fo fk : M Val) : M Val := bnd fo fun a => bnd (isDc a) fun _ => bnd fk fun b => popC a b
end
@[simp] theorem Wp_dPopK (fo fk : M Val) (s : DSt) (Q : Out Val → DSt → Prop) : Wp (dPopK fo fk) s Q = Wp fo s (Bk (fun a => bnd (isDc a) fun _ => bnd fk fun b => popC a b) Q) := Wp_bnd _ _ _ _
end Lf
namespace Lf
open PySem PySem.Spec L2
section
variable {cl : Cl} {X : Cx}
def cutTx (v : Val) (lo hi : Option Int) : M Val := fun s => match v with
  | .t (.str z) => if z.length ≤ sizeLine then some (.ok (.t (.str (Txt.slice z lo hi))), s) else none
  | _ => none
def dCutS (fa : M Val) (fl fh : M (Option Int)) : M Val := bnd fa fun v => bnd fl fun lo => bnd fh fun hi => cutTx v lo hi
def dLstL (f : M (List Val)) : M Val := bnd f fun vs => bnd (asFvs vs) fun fs => fun s => if fs.length ≤ sizeLine then some (.ok (.loc s.μ.length), { s with μ := s.μ ++ [.lst fs] }) else none
end
@[simp] theorem Wp_dCutS (fa : M Val) (fl fh : M (Option Int)) (s : DSt) (Q : Out Val → DSt → Prop) : Wp (dCutS fa fl fh) s Q = Wp fa s (Bk (fun v => bnd fl fun lo => bnd fh fun hi => cutTx v lo hi) Q) := Wp_bnd _ _ _ _
def lstC (fs : List Fv) : M Val := fun s => if fs.length ≤ sizeLine then some (.ok (.loc s.μ.length), { s with μ := s.μ ++ [.lst fs] }) else none
@[simp] theorem Wp_dLstL (f : M (List Val)) (s : DSt) (Q : Out Val → DSt → Prop) : Wp (dLstL f) s Q = Wp f s (Bk (fun vs => bnd (asFvs vs) lstC) Q) := Wp_bnd _ _ _ _
end Lf
namespace Lf.Iw
open PySem PySem.SeqAt PySem.W
open AutoSeq1 (wpAny_loadPart')
open MeetsSeq MeetsSeq2 MeetsSeq3 SeqRoads2
section
variable {s : Shared} {A : Around}
end
end Lf.Iw

namespace Lf
open PySem PySem.Spec L2
def eqM : Nat → T → T → Option Bool
  | 0, x, y => leafEq x y
  | n + 1, x, y => match leafEq x y with
    | some b => some b
    | none => match x, y with
      | .lst xs, .lst ys => if xs.length = ys.length then eqAll (eqM n) xs ys else some false
      | .tup xs, .tup ys => if xs.length = ys.length then eqAll (eqM n) xs ys else none
      | .dic ks, .dic ls => if okKeys ks = true then (match eqHit (eqM n) ls ks with | some c => some (decide (ks.length = ls.length) && c) | none => none) else none
      | _, _ => none
section
variable {cl : Cl} {X : Cx} {pins : List (Addr × Obj)} {σ : L2.St} {H : Hp} {s : Shared}
/-- a == b, a != b: as before, or by eqM -/
def eqMt : T → T → Option Bool
  | .tup _, _ => none
  | x, y => eqM 50 x y
def dEqM (neg : Bool) (a b : Val) : M Val := fun s => match dEq neg a b s with
  | some q => some q
  | none => match frz a s with
    | some (.ok x, s1) => match frz b s1 with
      | some (.ok y, s2) => match eqMt x y with
        | some c => some (.ok (.t (.bl (if neg then !c else c))), s2)
        | none => none
      | _ => none
    | _ => none
end

section
variable {cl : Cl} {X : Cx}
end
def isD2 : T → Bool
  | .tup [.dic _, .str _] => true
  | _ => false
def isS2 : T → Bool
  | .tup [.str _, .str _] => true
  | _ => false
def dInX (neg : Bool) (a b : Val) : M Val := fun s => match dInU neg a b s with
  | some q => some q
  | none => match a, b with
    | .t x, .t (.lst ys) => if isD2 x && ys.all isS2 then some (.ok (.t (.bl neg)), s) else none
    | _, _ => none
section
variable {cl : Cl} {X : Cx} {pins : List (Addr × Obj)} {σ : L2.St} {H : Hp} {s : Shared}
end
end Lf
namespace Lf
open PySem PySem.Spec L2
section
variable {cl : Cl} {X : Cx}
abbrev cShr (i j : Int) : Bool := decide (0 ≤ j)
abbrev oShr : Val → Val → M Val := dInt cShr fun i j => .int (i / 2 ^ j.toNat)
abbrev oShl : Val → Val → M Val := dInt cPow fun i j => .int (i * 2 ^ j.toNat)
end
abbrev kOr : PyProof.Rows.KeyOrd := PyProof.Rows.listOrd PyProof.Rows.itemOrd
def kP (p : Str × Str) : kOr.α := ([Sum.inr p.1.cps.toList, Sum.inr p.2.cps.toList] : List (Int ⊕ List Nat))
def bP (p q : Str × Str) : Bool := kOr.blt (kP p) (kP q)
def leP (p q : Str × Str) : Bool := !bP q p
abbrev srtP := srtB leP
section
variable {cl : Cl} {X : Cx}
open PyProof.Rows in
def prT : T → Option (Str × Str)
  | .tup [.str a, .str b] => some (a, b)
  | _ => none
def prsT : List T → Option (List (Str × Str))
  | [] => some []
  | t :: r => match prT t, prsT r with
    | some p, some l => some (p :: l)
    | _, _ => none
def tP (p : Str × Str) : T := .tup [.str p.1, .str p.2]
/-- sorted(xs), pairs of texts too -/
def dSortedB (vs : List Val) : M Own := fun s => match dSortedA vs s with
  | some q => some q
  | none => match vs with
    | [v] => match lstOf s v with
      | some ts => match prsT ts with
        | some ps => some (.ok (.lst ((srtP ps).map tP)), s)
        | none => none
      | none => none
    | _ => none
def kV (G : Hp) : V → Str × Str
  | .ref t => match G t with
    | some (.tup [.str a, .str b]) => (a, b)
    | _ => ("", "")
  | _ => ("", "")
end
end Lf
namespace Lf
open PySem PySem.Spec L2
section
variable {cl : Cl} {X : Cx}
def FzOk (cl : Cl) (f : Nat → M T) : Prop := ∀ {K : PySem.W.Frag} {w : Wd} {st st' : DSt} {σ : L2.St} {H : Hp} {n : Nat} {a : Addr} {o : Out T}, R K cl w st σ H → w.as[n]? = some a → f n st = some (o, st') → ∃ t w', o = .ok t ∧ Le w H w' H ∧ R K cl w' st' σ H ∧ Rep K cl w'.G t (.ref a)
def frzLs (f : Nat → M T) : List Fv → M (List T)
  | [] => ret []
  | .t x :: r => bnd (frzLs f r) fun l => ret (x :: l)
  | .loc m :: r => bnd (f m) fun x => bnd (frzLs f r) fun l => ret (x :: l)
def frzKs (f : Nat → M T) : List (Key × Fv) → M (List (Key × T))
  | [] => ret []
  | (k, .t x) :: r => bnd (frzKs f r) fun l => ret ((k, x) :: l)
  | (k, .loc m) :: r => bnd (f m) fun x => bnd (frzKs f r) fun l => ret ((k, x) :: l)
def frzG : Nat → Nat → M T
  | 0, n => frzC n
  | k + 1, n => fun s => match s.μ[n]? with
    | some (.lst xs) => match frzLs (frzG k) xs s with
      | some (.ok l, s1) => match s1.μ[n]? with
        | some (.lst _) => some (.ok (.lst l), { s1 with μ := s1.μ.set n (.fz (.lst l)) })
        | _ => none
      | _ => none
    | some (.dic false kvs) => match frzKs (frzG k) kvs s with
      | some (.ok l, s1) => match s1.μ[n]? with
        | some (.dic false _) => some (.ok (.dic l), { s1 with μ := s1.μ.set n (.fz (.dic l)) })
        | _ => none
      | _ => none
    | some (.fz x) => some (.ok x, s)
    | _ => none
/-- the cell that a slot holds stands still, with all cells in it -/
def dFzG (k i : Nat) : M Fl := fun s => match s.δ[i]? with
  | some (some (.loc n)) => match frzG k n s with
    | some (.ok x, s1) => some (.ok .nx, { s1 with δ := s1.δ.set i (some (.t x)) })
    | _ => none
  | _ => none
def compLC (vs : List Nat) (g : Val → M Unit) (t : M Bool) (e : M Val) (chk : DSt → Bool) : List Val → List Fv → M (List Fv)
  | [], acc => fun s => if chk s then some (.ok acc, s) else none
  | v :: r, acc => fun s => if chk s then bnd (g v) (fun _ => bnd t fun b => if b then bnd e fun x => bnd (asFv x) fun y => fun s => if acc.length < sizeLine then compLC vs g t e chk r (acc ++ [y]) { s with δ := wipeD s.δ vs } else none
      else fun s => compLC vs g t e chk r acc { s with δ := wipeD s.δ vs }) s else none
def compKC (vs : List Nat) (g : Val → M Unit) (t : M Bool) (e : M Val) (I : Its) : M Val := fun s => if noOwn s.δ vs then
    match hush (compLC vs g t e I.chk I.items []) { s with δ := wipeD s.δ vs } with
    | some (.ok ys, s2) => some (.ok (.loc s2.μ.length), { s2 with δ := backD s.δ s2.δ vs, μ := s2.μ ++ [.lst ys] })
    | _ => none
  else none
def dCompC (vs : List Nat) (fi : M Its) (g : Val → M Unit) (t : M Bool) (e : M Val) : M Val := bnd fi (compKC vs g t e)
end
@[simp] theorem Wp_dCompC (vs : List Nat) (fi : M Its) (g : Val → M Unit) (t : M Bool) (e : M Val) (s : DSt) (Q : Out Val → DSt → Prop) : Wp (dCompC vs fi g t e) s Q = Wp fi s (Bk (compKC vs g t e) Q) := Wp_bnd _ _ _ _
end Lf
namespace Lf
open PySem PySem.Spec L2
section
variable {cl : Cl} {X : Cx}
def dBool1 (vs : List Val) : M Val := fun s => match vs with
  | [.t (.bl b)] => some (.ok (.t (.bl b)), s)
  | _ => none
def dIsB (neg : Bool) (a b : Val) : M Val := fun s => match a, b with
  | .t (.bl x), .t (.bl y) => some (.ok (.t (.bl (if neg then !(x == y) else x == y))), s)
  | _, _ => none
def mIndexD (v : Val) (vs : List Val) : M Val := fun s => match mIndex v vs s with
  | some q => some q
  | none => match vs, valPd s v with
    | [.t y], some (.list ds) => match y.pd with
      | some d => if SeqAt.shaped d && SeqAt.shaped (.list ds) then match ds.findIdx? fun z => PyData.eqv z d with
          | some j => some (.ok (.t (.int (j : Nat))), s)
          | none => none
        else none
      | none => none
    | _, _ => none
abbrev FunV (K : PySem.W.Frag) (x qual : Str) (st : Stmt) (dvs : List V) (f : Addr) (fd : FuncData) : Prop := FunD K x qual (defArgs st) (defBody st) (defScope st) dvs [] f fd
def dCallVD (F : DFun) (ds : List T) (fa : M (List Val)) : M Val := bnd (bnd fa fun vs => bnd (asFvs vs) fun fs => callF F (fs ++ ds.map Fv.t)) retV
section
variable {k : Nat} {f : Addr} {fd : FuncData} {ps : List Str} {F : DFun} {x : Str} {p pos : Pos} {e : Expr} {es : List Expr} {fa : M (List Val)} {ds : List T} {dvs : List V} {dw : List Value}
end
end
end Lf
namespace Lf
open PySem PySem.Spec L2
def dSnoc (fa : M (List Val)) (fk : M Val) : M (List Val) := bnd fa fun vs => bnd fk fun v => ret (vs ++ [v])
section
variable {cl : Cl} {X : Cx}
section
variable {k n : Nat} {f : Addr} {fd : FuncData} {ps : List Str} {F : DFun} {x : Str} {kx : Str} {p pos kpos : Pos} {e ek : Expr} {es : List Expr} {fa : M (List Val)} {fk : M Val}
end
end
def mRemoveD (v : Val) (vs : List Val) : M Val := fun s => match mRemove v vs s with
  | some q => some q
  | none => match vs, getL s v, valPd s v with
    | [.t y], some xs, some (.list ds) => match y.pd with
      | some d => if SeqAt.shaped d && SeqAt.shaped (.list ds) then match ds.findIdx? fun z => PyData.eqv z d with
          | some j => match setL s v (xs.eraseIdx j) with
            | some s' => some (.ok (.t .non), s')
            | none => none
          | none => none
        else none
      | none => none
    | _, _, _ => none
section
variable {cl : Cl} {X : Cx}
end
end Lf
namespace Lf
open PySem PySem.Spec L2 PyProof.Rows
/-- one parameter x, captured names and globals -/
structure LamS1 (sc scope : Scope) (x : Str) : Prop where
  kind : scope.kind = .function
  co : scope.isCoroutine = false
  gen : scope.isGenerator = false
  own : ∀ y ∈ scope.names, y.2 ≠ .cell
  par : scope.names.lookup x = some .local
  only : ∀ y, scope.names.lookup y = some .local → y = x
  free : ∀ y ∈ scope.names, y.2 = .free → sc.names.lookup y.1 = some .cell ∨ sc.names.lookup y.1 = some .free
theorem LamS1.has {X : Cx} {scope : Scope} {x : Str} (L : LamS1 X.env.scope scope x) (ok : X.Ok) : ∀ y ∈ scope.names, y.2 = .free → ∃ c, X.env.cells.lookup y.1 = some c := fun y hy e => by
  rcases L.free y hy e with k | k
  · exact ok.has _ (.inl k)
  · exact ok.has _ (.inr k)
/-- the context of the lambda's body: x stands behind the maker's names -/
def lamCx1 (X : Cx) (A : Around) (outer : List Env) (s : Shared) (H : Hp) (E : XK) (scope : Scope) (x : Str) (f c' : Addr) : Cx where
  prog := X.prog
  w := X.w
  K := X.K
  mg := X.mg
  base := X.base
  A := A.deeper (LamX.lamEnv X scope s.heap.objs.size f c')
  N := X.N ++ [x]
  s_0 := s
  H_0 := H
  env := LamX.lamEnv X scope s.heap.objs.size f c'
  outer := outer
  stack := LamX.lamEnv X scope s.heap.objs.size f c' :: outer
  ex := []
  fn := fun _ => false
  calm := true
  pn := []
  xe := fun e s' => wpAny (model X.prog X.w) (A.deeper (LamX.lamEnv X scope s.heap.objs.size f c')) (leaving (LamX.lamEnv X scope s.heap.objs.size f c') e) (fun _ s'' => L2.CX X.prog X.w outer H s E e s'') (fun e' s'' => L2.CX X.prog X.w outer H s E e' s'') s'
section
variable {X : Cx} {pins : List (Addr × Obj)} {σ : L2.St} {H : Hp} {s : Shared}
end
section
variable {cl : Cl} {K : PySem.W.Frag}
end

def keyN (fb : M Val) (s : DSt) (x : T) : Option Int := match fb ⟨s.δ ++ [some (.t x)], s.μ⟩ with
  | some (.ok (.t (.int k)), _) => some k
  | _ => none
def keysN (fb : M Val) (s : DSt) : List T → Option (List Int)
  | [] => some []
  | x :: r => match keyN fb s x, keysN fb s r with
    | some k, some ks => some (k :: ks)
    | _, _ => none
def bestN (ks : List Int) : Nat := argBest (fun i j => decide (ks.getD i 0 > ks.getD j 0)) (ks.length - 1)
/-- max(d, key=lambda x: ..), d a dict with tuple keys -/
def dMaxKey (n : Nat) (q : Str) (fa : M (List Val)) (fb : M Val) : M Val := bnd fa fun vs => fun s => match vs, s.μ[n]? with
  | [.t (.dit kvs)], some (.tab q') => if q' = q then match keysN fb s (kvs.map fun p => tkTree p.1) with
      | some ks => match kvs[bestN ks]? with
        | some p => some (.ok (.t (tkTree p.1)), s)
        | none => none
      | none => none
    else none
  | _, _ => none
section
variable {cl : Cl} {X : Cx}
end

def lamS1B (sc scope : Scope) (x : Str) : Bool := decide (scope.kind = .function) && !scope.isCoroutine && !scope.isGenerator && decide (scope.names.lookup x = some .local) &&
  scope.names.all fun y => !decide (y.2 = .cell) && (!decide (y.2 = .local) || decide (y.1 = x)) && (!decide (y.2 = .free) || decide (sc.names.lookup y.1 = some .cell) || decide (sc.names.lookup y.1 = some .free))
end Lf
namespace Lf
open PySem PySem.Spec L2
def dMethO (c m : Str) (F : DFun) (fo : M Val) (fa : M (List Val)) : M Own := bnd (dMethC c m F fo fa) retO
section
variable {cl : Cl} {X : Cx}
def fvsOf (s : DSt) : Val → Option (List Fv)
  | .loc n => match s.μ[n]? with
    | some (.lst xs) => some xs
    | _ => none
  | v => (lstOf s v).map fun xs => xs.map Fv.t
/-- [a, ..] into a new cell; cells among the things -/
def dDispC (fa : M (List Val)) : M Val := bnd fa fun vs => bnd (asFvs vs) fun fs => fun s => if fs.length ≤ sizeLine then some (.ok (.loc s.μ.length), { s with μ := s.μ ++ [.lst fs] }) else none
/-- a + b into a new cell -/
def addCK (a b : Val) : M Val := fun s => match fvsOf s a, fvsOf s b with
  | some xs, some ys => if xs.length + ys.length ≤ sizeLine then some (.ok (.loc s.μ.length), { s with μ := s.μ ++ [.lst (xs ++ ys)] }) else none
  | _, _ => none
def dAddC (fa fb : M Val) : M Val := bnd fa fun a => bnd fb fun b => addCK a b
section
variable {k : Nat} {f C : Addr} {fd : FuncData} {ps : List Str} {F : DFun} {x m : Str} {p pos apos : Pos} {e o : Expr} {es : List Expr} {fa : M (List Val)} {fo : M Val}
end
end
@[simp] theorem Wp_dDispC (fa : M (List Val)) (s : DSt) (Q : Out Val → DSt → Prop) : Wp (dDispC fa) s Q = Wp fa s (Bk (fun vs => bnd (asFvs vs) fun fs => fun s => if fs.length ≤ sizeLine then some (.ok (.loc s.μ.length), { s with μ := s.μ ++ [.lst fs] }) else none) Q) := Wp_bnd _ _ _ _
@[simp] theorem Wp_dAddC (fa fb : M Val) (s : DSt) (Q : Out Val → DSt → Prop) : Wp (dAddC fa fb) s Q = Wp fa s (Bk (fun a => bnd fb fun b => addCK a b) Q) := Wp_bnd _ _ _ _
end Lf
namespace Lf
open PySem PySem.Spec L2
section
variable {cl : Cl} {X : Cx}
def dListN (vs : List Val) : M Own := fun s => match vs with
  | [.loc n] => match s.μ[n]? with
    | some (.dnn kvs) => some (.ok (.lst (kvs.map fun p => nkT p.1)), s)
    | _ => none
  | _ => none
@[simp] theorem Wp_dListN {n : Nat} {kvs : List (NKey × Int)} {δ : List (Option Slot)} {μ : List Cell} (h : μ[n]? = some (.dnn kvs)) (Q : Out Own → DSt → Prop) : Wp (dListN [.loc n]) ⟨δ, μ⟩ Q = Q (.ok (.lst (kvs.map fun p => nkT p.1))) ⟨δ, μ⟩ := Wp_some (by simp [dListN, h])
def mExtendT (v : Val) (vs : List Val) : M Val := fun s => match vs with
  | [.t (.tup ts)] => match getL s v with
    | some xs => if xs.length + ts.length ≤ sizeLine then match setL s v (xs ++ ts.map Fv.t) with
        | some s' => some (.ok (.t .non), s')
        | none => none
      else none
    | none => none
  | _ => mExtend v vs s
section
variable (i : Nat) {y : Str} {py : Pos} {kx vx tg iter : Expr} {ifs : List Expr} {scope : Scope} {own : List (Str × Nat)} {pos spos : Pos} {fi : M Its} {g : Val → M Unit} {ft : M Bool} {fk fv : M Val}
end
end
end Lf
namespace Lf
open PySem PySem.Spec L2
section
variable {cl : Cl} {X : Cx} {k : Nat} {f C : Addr} {fd : FuncData} {ps : List Str} {F : DFun} {c : Str}
def dEqO (c : Str) (F : DFun) (a b : Val) : M Val := fun s => match insOf s a, insOf s b with
  | some (d, _), some (e, _) => if d = c ∧ e = c then bnd (bnd (asFvs [a, b]) fun fs => callF F fs) (fun r => match r with
      | .val (.t (.bl t)) => ret (.t (.bl t))
      | _ => stuck) s else none
  | _, _ => none
end
end Lf
namespace Lf
open PySem PySem.Spec L2
section
variable {cl : Cl} {X : Cx}
def tMkX (C : Addr) (sp : Sp) (ta : TA) : TE := fun σ H Q => ta σ H fun vs H1 => vs.length ≤ 1000 ∧ ∀ a, H1 a = none → sp (.ref a :: vs) (upd H1 a (exo a C none)) (fun v H2 => v = .non ∧ Q (.ref a) H2) (fun _ _ _ => False)
theorem pe_mkx {CX : CXT} {x : Str} {C fI : Addr} {k : Nat} {fd : FuncData} {ps : List Str} {sp : Sp} {p pos : Pos} {e : Expr} {es : List Expr} {ta : TA} (T : OexC X.K C) (iC : PySem.W.findIn X.K (.ref C) "__init__" = some (some (.ref fI))) (tI : PySem.W.typeIn X.K (.ref fI) = some (.type "function"))
    (F1 : FnOk X.prog X.w X.K X.mg X.base CX k fI fd ps sp) (hr : Room (k + 1) X.A) (hb : Binds X.K fd ps []) (hx : Passes CX X (fun _ _ _ => False)) (hg : Gl X x) (hm : X.mg x = some (.ref C)) (ha : PA X (e :: es) ta)
    (hdb : (x == ("__debug__" : Str)) = false) (he : starEach (e :: es) X.env = (false, eval e X.env) :: starEach es X.env) (hpl : (backTo pos (starEach es X.env)).any (·.1) = false) :
    PE X (.Call (.Name x p) (e :: es) [] pos) (tMkX C sp ta) := by
  refine ⟨fun pins s σ H Q I h => ?_⟩
  obtain ⟨nm, q, N, bs, bm, sn, sub, ab, col, dd, k0, k1, k2, k3, k5, hC, hbm⟩ := T.cls
  refine wpAny_Call_Name_kw (ld_glob I hg hm ?_ hdb)
  refine PySem.W.callWith_K (h₀ := X.base) I.ok.mod.kin T.kC (thn (ha.run pos pins s σ H _ I h) fun us s1 ⟨vs, H1, I1, r1, hz, q1⟩ => ⟨I1.kIn, ?_⟩) he hpl
  show wpAny _ _ (call (.ref C) us) _ _ _
  obtain ⟨hp, g, dr, tk, os⟩ := s1
  have hsz : hp.objs.size ≤ hp.objs.size + 1 := Nat.le_succ _
  have hn : H1 (hp.objs.size + 1) = none := I1.hok.fresh hsz
  have hq := q1 (hp.objs.size + 1) hn
  have kk : ∀ b o, hp.get? b = some o → ((hp.push (PySem.W.kdv_tup us)).push (PySem.HandSPX.excO C hp.objs.size)).get? b = some o := fun b o e => Heap.get?_push_of_some _ (Heap.get?_push_of_some _ e)
  have hget : ((hp.push (PySem.W.kdv_tup us)).push (PySem.HandSPX.excO C hp.objs.size)).get? (hp.objs.size + 1) = some (PySem.HandSPX.excO C hp.objs.size) := by heap_get
  have I2 : Inv X pins σ (upd H1 (hp.objs.size + 1) (exo (hp.objs.size + 1) C none)) ⟨(hp.push (PySem.W.kdv_tup us)).push (PySem.HandSPX.excO C hp.objs.size), g, dr, tk, os⟩ :=
    I1.laid (t' := tk) (a := hp.objs.size + 1) (o := exo (hp.objs.size + 1) C none) (h' := (hp.push (PySem.W.kdv_tup us)).push (PySem.HandSPX.excO C hp.objs.size)) kk hsz (exo_ok hget)
  have r2 : Vals (V.ref (hp.objs.size + 1) :: vs) (Value.ref (hp.objs.size + 1) :: us) := .cons rfl r1
  have hl : (Value.ref (hp.objs.size + 1) :: us).length = ps.length := by
    have e := r2.length
    rw [F1.len _ _ _ _ hq] at e
    exact e.symm
  have hb' := hb
  have hus : us.length ≤ sizeLine := by
    rw [← Paired.length r1, sizeLine_eq]
    omega
  have bb := hb _ (Value.ref (hp.objs.size + 1) :: us) I2.kIn (by rw [List.append_nil]; exact hl)
  rw [List.append_nil] at bb
  refine wpAny_call (PySem.HandSPX.call_own F.excBase_ValueError (fun Y => PySem.HandSPX.refsVE_contains Y bm hbm) (I1.kIn _ _ hC) (PySem.W.looks_findIn I1.kIn iC) (fun self => PySem.W.bind_fn I1.kIn self tI) hus
    (codeAny_mono (F1.run _ X.stack _ _ ⟨Value.ref (hp.objs.size + 1) :: us, []⟩ (Value.ref (hp.objs.size + 1) :: us) _ _ (fun _ _ _ => False) (hr.make C us []) (I2.env0.make C us []) bb r2 hq) fun r s' hq' => ?_))
  cases r with
  | error er => exact hx pins σ _ _ er s' I2 hq'
  | ok fl =>
    cases fl with
    | ret u =>
      obtain ⟨v, H2, J, rv, ev, q2⟩ := I2.after hq'
      subst ev
      exact ⟨rv, .ref (hp.objs.size + 1), H2, J, rfl, q2⟩
    | next => exact False.elim hq'
    | brk => exact False.elim hq'
    | cont => exact False.elim hq'
theorem put2 {H1 : Hp} {a dx : Addr} {o1 o2 o3 : HO} (n : dx ≠ a) : upd (upd (upd H1 a o1) dx o2) a o3 = upd (upd H1 dx o2) a o3 := by
  funext b
  by_cases hb : b = a
  · rw [hb, upd_same, upd_same]
  · rw [upd_ne hb, upd_ne hb]
    by_cases hd : b = dx
    · rw [hd, upd_same, upd_same]
    · rw [upd_ne hd, upd_ne hd, upd_ne hb]
/-- C(e) as a value -/
def dMkX (c f : Str) (fe : M Val) : M Val := bnd fe fun v => bnd (frz v) fun t => ret (.t (.exo c [(f, t)]))
theorem gMkX {x f c : Str} {C fI : Addr} {k : Nat} {fd : FuncData} {ps : List Str} {e : Expr} {p pos : Pos} {fe : M Val} (hC : cl c = some C) (T : OexC X.K C) (hno : PySem.W.findIn X.K (.ref C) f = some none) (iC : PySem.W.findIn X.K (.ref C) "__init__" = some (some (.ref fI))) (tI : PySem.W.typeIn X.K (.ref fI) = some (.type "function"))
    (F1 : FnOk X.prog X.w X.K X.mg X.base (L2.CX X.prog X.w) k fI fd ps (spErr X.K f)) (hr : Room (k + 1) X.A) (hb : Binds X.K fd ps []) (hm : X.mg x = some (.ref C)) (he : DE cl X e fe) (hg : Gl X x := by rfl) (hdb : (x == ("__debug__" : Str)) = false := by decide)
    (he1 : starEach [e] X.env = (false, eval e X.env) :: starEach [] X.env := by rfl) (hpl : (backTo pos (starEach [] X.env)).any (·.1) = false := by rfl) : DE cl X (.Call (.Name x p) [e] [] pos) (dMkX c f fe) := fun W cw w st σ H Q o st' r h pp => by
  refine PE.we (pe_mkx T iC tI F1 hr hb (passes_call (W := W) cw.tk (fun _ _ _ _ z => z.elim)) hg hm (pa_cons peW pa_nil he1) hdb he1 hpl) ?_
  show WE X e σ H _
  rcases bnd_some h with ⟨c', fs, h1, rfl⟩ | ⟨v, st1, h1, h2⟩
  · exact he W cw w st σ H _ _ st' r h1 pp.exc
  · refine he W cw w st σ H _ _ st1 r h1 fun w1 H1 l1 r1 y hy => ?_
    rcases bnd_some h2 with ⟨c', fs, h3, rfl⟩ | ⟨t, st2, h3, h4⟩
    · obtain ⟨t, w2, z, _⟩ := frz_at r1 hy h3
      cases z
    · obtain ⟨t', w2, z, l2, r2, q2⟩ := frz_at r1 hy h3
      cases z
      cases h4
      refine ⟨by simp, fun a ha => ⟨a, C, y, by simp, T, hno, upd_same, fun dx n1 n2 => ⟨rfl, ?_⟩⟩⟩
      have nd : H1 dx = none := by rw [upd_ne n2] at n1; exact n1
      rw [put2 n2]
      obtain ⟨r3, l3⟩ := r2.fresh nd (exd dx [(f, y)])
      have na : upd H1 dx (exd dx [(f, y)]) a = none := by rw [upd_ne (Ne.symm n2)]; exact ha
      obtain ⟨r4, l4⟩ := r3.fresh na (exo a C (some dx))
      exact pp _ _ (l1.trans (l2.trans (l3.trans l4))) r4 (.ref a) (.exo hC upd_same (by show upd _ a _ dx = _; rw [upd_ne n2]; exact upd_same) (.cons ((q2.mono l3.g).mono l4.g) .nil))
theorem pe_mkx0 {CX : CXT} {x : Str} {C fI : Addr} {k : Nat} {fd : FuncData} {ps : List Str} {sp : Sp} {p pos : Pos} (T : OexC X.K C) (iC : PySem.W.findIn X.K (.ref C) "__init__" = some (some (.ref fI))) (tI : PySem.W.typeIn X.K (.ref fI) = some (.type "function"))
    (F1 : FnOk X.prog X.w X.K X.mg X.base CX k fI fd ps sp) (hr : Room (k + 1) X.A) (hb : Binds X.K fd ps []) (hx : Passes CX X (fun _ _ _ => False)) (hg : Gl X x) (hm : X.mg x = some (.ref C)) (hdb : (x == ("__debug__" : Str)) = false) :
    PE X (.Call (.Name x p) [] [] pos) (fun σ H Q => ∀ a, H a = none → sp [.ref a] (upd H a (exo a C none)) (fun v H2 => v = .non ∧ Q (.ref a) H2) (fun _ _ _ => False)) := by
  refine ⟨fun pins s σ H Q I h => ?_⟩
  obtain ⟨nm, q, N, bs, bm, sn, sub, ab, col, dd, k0, k1, k2, k3, k5, hC, hbm⟩ := T.cls
  refine wpAny_Call_Name_kw (ld_glob I hg hm ?_ hdb)
  refine PySem.W.callWith_K0 (first := []) I.kIn T.kC ?_
  show wpAny _ _ (call (.ref C) []) _ _ _
  obtain ⟨hA, g, dr, tk, os⟩ := s
  have hsize : hA.objs.size ≤ hA.objs.size + 1 := Nat.le_succ _
  have nil1 : H (hA.objs.size + 1) = none := I.hok.fresh hsize
  have hspec := h (hA.objs.size + 1) nil1
  have kpp : ∀ b o, hA.get? b = some o → ((hA.push (PySem.W.kdv_tup [])).push (PySem.HandSPX.excO C hA.objs.size)).get? b = some o := fun b o e => Heap.get?_push_of_some _ (Heap.get?_push_of_some _ e)
  have hgot : ((hA.push (PySem.W.kdv_tup [])).push (PySem.HandSPX.excO C hA.objs.size)).get? (hA.objs.size + 1) = some (PySem.HandSPX.excO C hA.objs.size) := by heap_get
  have Inew : Inv X pins σ (upd H (hA.objs.size + 1) (exo (hA.objs.size + 1) C none)) ⟨(hA.push (PySem.W.kdv_tup [])).push (PySem.HandSPX.excO C hA.objs.size), g, dr, tk, os⟩ :=
    I.laid (t' := tk) (a := hA.objs.size + 1) (o := exo (hA.objs.size + 1) C none) (h' := (hA.push (PySem.W.kdv_tup [])).push (PySem.HandSPX.excO C hA.objs.size)) kpp hsize (exo_ok hgot)
  have rval : Vals [V.ref (hA.objs.size + 1)] [Value.ref (hA.objs.size + 1)] := .cons rfl .nil
  have hlen : ([Value.ref (hA.objs.size + 1)] : List Value).length = ps.length := by
    have e := rval.length
    rw [F1.len _ _ _ _ hspec] at e
    exact e.symm
  refine wpAny_call (PySem.HandSPX.call_own F.excBase_ValueError (fun Y => PySem.HandSPX.refsVE_contains Y bm hbm) (I.kIn _ _ hC) (PySem.W.looks_findIn I.kIn iC) (fun self => PySem.W.bind_fn I.kIn self tI) (by simp)
    (codeAny_mono (F1.run _ X.stack _ _ ⟨[Value.ref (hA.objs.size + 1)], []⟩ [Value.ref (hA.objs.size + 1)] _ _ (fun _ _ _ => False) (hr.make C [] []) (Inew.env0.make C [] []) (hb _ [Value.ref (hA.objs.size + 1)] Inew.kIn (by simpa using hlen)) rval hspec) fun res s' hres => ?_))
  cases res with
  | error er => exact hx pins σ _ _ er s' Inew hres
  | ok flw =>
    cases flw with
    | ret uv =>
      obtain ⟨v, H2, J, rv, ev, q2⟩ := Inew.after hres
      subst ev
      exact ⟨rv, .ref (hA.objs.size + 1), H2, J, rfl, q2⟩
    | next => exact False.elim hres
    | brk => exact False.elim hres
    | cont => exact False.elim hres
/-- C() as a value -/
def dMkX0 (c : Str) : M Val := ret (.t (.exo c []))
theorem gMkX0 {x c : Str} {C fI : Addr} {k : Nat} {fd : FuncData} {ps : List Str} {p pos : Pos} (hC : cl c = some C) (T : OexC X.K C) (iC : PySem.W.findIn X.K (.ref C) "__init__" = some (some (.ref fI))) (tI : PySem.W.typeIn X.K (.ref fI) = some (.type "function"))
    (F1 : FnOk X.prog X.w X.K X.mg X.base (L2.CX X.prog X.w) k fI fd ps (spErr0 X.K)) (hr : Room (k + 1) X.A) (hb : Binds X.K fd ps []) (hm : X.mg x = some (.ref C)) (hg : Gl X x := by rfl) (hdb : (x == ("__debug__" : Str)) = false := by decide) : DE cl X (.Call (.Name x p) [] [] pos) (dMkX0 c) := fun W cw w st σ H Q o st' r h pp => by
  refine PE.we (pe_mkx0 T iC tI F1 hr hb (passes_call (W := W) cw.tk (fun _ _ _ _ z => z.elim)) hg hm hdb) ?_
  cases h
  refine fun a ha => ⟨a, C, rfl, T, upd_same, rfl, ?_⟩
  obtain ⟨r3, l3⟩ := r.fresh ha (exo a C none)
  exact pp _ _ l3 r3 (.ref a) (.ex0 hC upd_same)
def tXv (X : Cx) (n : Str) (te : TE) : TE := fun σ H Q => te σ H fun x H1 => ∃ (a C dx : Addr) (fs : List (Str × V)) (v : V), x = .ref a ∧ H1 a = some (exo a C (some dx)) ∧ H1 dx = some (exd dx fs) ∧ XfC X.K C ∧ PySem.W.findIn X.K (.ref C) n = some none ∧ fs.lookup n = some v ∧ Q v H1
theorem pe_xv {e : Expr} {te : TE} {pos : Pos} {n : Str} (he : PE X e te) (hb : attributeBase e n X.env (eval e X.env) = eval e X.env) : PE X (.Attribute e n pos) (tXv X n te) := by
  refine ⟨fun pins s σ H Q I h => ?_⟩
  refine attr_of hb (thn (he.run pins s σ H _ I h) fun u s1 hh => ?_)
  obtain ⟨x, H1, I1, rx, a, C, dx, fs, v, ex, ha, hd, T, hno, l, q⟩ := hh
  subst ex
  obtain rfl : u = Value.ref a := rx
  obtain ⟨t1, hoe⟩ := exo_at I1.hok ha
  obtain ⟨mA, hns, hr⟩ := exd_at I1.hok hd
  obtain ⟨od, ho, hl⟩ := lookIn_ns hns
  obtain ⟨u, hu, ru⟩ := RelO.some_of (v := v) (o := mA n) (by rw [← l]; exact hr n)
  have J : PySem.W.InstAt s1.heap a { cls := .ref C, dict := some dx, data := .fields #[.ref t1, .none, .none, .none, .bool false, .none] } C (some od) := ⟨hoe, rfl, rfl, ho⟩
  exact HandSPX.exc_get I1.kIn J T.ga T.gg T.exC (PySem.W.findObj_own T.hdC hno rfl (by rw [hl, hu])) (handed_of ru) ⟨v, H1, I1.tok _, ru, q⟩
def dXv (cs : List Str) (n : Str) (f : M Val) : M Val := bnd f fun v => fun s => match v with
  | .t (.exo c fs) => if cs.contains c then match look fs n with
      | some t => some (.ok (.t t), s)
      | none => none
    else none
  | _ => none
theorem gXv {cs : List Str} {n : Str} {e : Expr} {f : M Val} {pos : Pos} (hf : ∀ c ∈ cs, ∀ C, cl c = some C → XfC X.K C ∧ PySem.W.findIn X.K (.ref C) n = some none) (he : DE cl X e f) (hb : attributeBase e n X.env (eval e X.env) = eval e X.env := by rfl) : DE cl X (.Attribute e n pos) (dXv cs n f) := fun W cw w st σ H Q o st' r h pp => by
  refine PE.we (pe_xv peW hb) ?_
  show WE X e σ H _
  rcases bnd_some h with ⟨c', fs, h1, rfl⟩ | ⟨v, st1, h1, h2⟩
  · exact he W cw w st σ H _ _ st' r h1 pp.exc
  · refine he W cw w st σ H _ _ st1 r h1 fun w1 H1 l1 r1 y hy => ?_
    split at h2
    · rename_i c fs
      split at h2
      · rename_i hc
        split at h2
        · rename_i t et
          cases h2
          cases hy with
          | @exo a C dx _ vs _ hC ga gd q =>
            obtain ⟨hx, hn⟩ := hf c (List.contains_iff_mem.mp hc) C hC
            obtain ⟨v, e1, e2⟩ := RepF.look q et
            have k1 : H1 a = some (exo a C (some dx)) := by
              rcases r1.rc.sub a _ ga with z | ⟨z, _⟩
              · exact z
              · cases z
            have k2 : H1 dx = some (exd dx vs) := by
              rcases r1.rc.sub dx _ gd with z | ⟨z, _⟩
              · exact z
              · cases z
            exact ⟨a, C, dx, vs, v, rfl, k1, k2, hx, hn, e1, pp _ _ l1 r1 v e2⟩
          | ex0 => cases et
        · cases h2
      · cases h2
    · cases h2
def Exd (H : Hp) (a C : Addr) : Prop := (∃ (dx : Addr) (fs : List (Str × V)), H a = some (exo a C (some dx)) ∧ H dx = some (exd dx fs)) ∨ H a = some (exo a C none)
def rIsX (K : PySem.W.Frag) : List V → Hp → VK → Prop := fun xs H Q => ∃ (a C : Addr) (c : V) (u : Value) (b : Bool), xs = [.ref a, c] ∧ ClsV c u ∧ ExcC K C ∧ Exd H a C ∧ PySem.W.kitOne K (.ref C) u = some b ∧ Q (.bl b) H
theorem call_isX : CallR X (.builtin "isinstance") (rIsX X.K) := by
  intro pins s σ H xs us Q I r h
  obtain ⟨a, C, c, u, b, rfl, k, Z, hx, e, q⟩ := h
  obtain ⟨u1, u2, rfl, r1, r2⟩ := vals2 r
  have e2 := k.eq r2
  subst e2
  cases (show u1 = Value.ref a from r1)
  have hcl : (PySem.W.clsIn X.K C).isSome = true := by
    have := Z.hd
    unfold PySem.W.hasDictIn at this
    cases z : PySem.W.clsIn X.K C with
    | none => rw [z] at this; cases this
    | some _ => rfl
  rcases hx with ⟨dx, fs, h1, h2⟩ | h1
  · obtain ⟨t1, hoe⟩ := exo_at I.hok h1
    obtain ⟨mA, hns, hr⟩ := exd_at I.hok h2
    obtain ⟨od, ho, hl⟩ := lookIn_ns hns
    have J : PySem.W.InstAt s.heap a { cls := .ref C, dict := some dx, data := .fields #[.ref t1, .none, .none, .none, .bool false, .none] } C (some od) := ⟨hoe, rfl, rfl, ho⟩
    exact PySem.W.kia_one (PySem.W.kitx_exc hcl Z.hg Z.hk Z.hs Z.ha Z.hn Z.ht Z.hm) I.kIn J e (fun z => nomatch z) fun tk => ⟨.bl b, H, I.tok tk, rfl, q⟩
  · obtain ⟨t1, hoe⟩ := exo_at I.hok h1
    have J : PySem.W.InstAt s.heap a { cls := .ref C, dict := none, data := .fields #[.ref t1, .none, .none, .none, .bool false, .none] } C none := ⟨hoe, rfl, rfl, trivial⟩
    exact PySem.W.kia_one (PySem.W.kitx_exc hcl Z.hg Z.hk Z.hs Z.ha Z.hn Z.ht Z.hm) I.kIn J e (fun z => nomatch z) fun tk => ⟨.bl b, H, I.tok tk, rfl, q⟩
def dIsX (tb : Str → Option Bool) (v : Val) : M Val := fun s => match v with
  | .t (.exo c _) => match tb c with
    | some b => some (.ok (.t (.bl b)), s)
    | none => none
  | _ => none
/-- what the class of the errors that tb speaks of must say -/
def IsX (cl : Cl) (K : PySem.W.Frag) (tb : Str → Option Bool) (u : Value) : Prop := ∀ c b, tb c = some b → ∀ C, cl c = some C → ExcC K C ∧ PySem.W.kitOne K (.ref C) u = some b
theorem rep_exd {w : Wd} {μ : List Cell} {H : Hp} {c : Str} {ts : List (Str × T)} {x : V} (r : Rc X.K cl w μ H) (h : Rep X.K cl w.G (.exo c ts) x) : ∃ a C, x = .ref a ∧ cl c = some C ∧ Exd H a C := by
  cases h with
  | @exo a C dx _ vs _ hC ga gd q =>
    refine ⟨a, C, rfl, hC, .inl ⟨dx, vs, ?_, ?_⟩⟩
    · rcases r.sub a _ ga with z | ⟨z, _⟩
      · exact z
      · cases z
    · rcases r.sub dx _ gd with z | ⟨z, _⟩
      · exact z
      · cases z
  | @ex0 a C _ hC ga =>
    refine ⟨a, C, rfl, hC, .inr ?_⟩
    rcases r.sub a _ ga with z | ⟨z, _⟩
    · exact z
    · cases z
theorem isX_gen {e t : Expr} {p pos : Pos} {f : M Val} {tb : Str → Option Bool} {cv : V} {u : Value} {tt : TE} (hm : X.mg "isinstance" = none) (ht : PE X t tt) (hq : ∀ σ H (Q : VK), Q cv H → tt σ H Q) (hk : ClsV cv u) (hI : IsX cl X.K tb u) (h : DE cl X e f) (hg : Gl X "isinstance")
    (he : starEach [e, t] X.env = (false, eval e X.env) :: starEach [t] X.env) (he2 : starEach [t] X.env = (false, eval t X.env) :: starEach [] X.env) (hpl : (backTo pos (starEach [t] X.env)).any (·.1) = false) : DE cl X (.Call (.Name "isinstance" p) [e, t] [] pos) (bnd f (dIsX tb)) := fun W cw w st σ H Q o st' r hf pp => by
  refine PE.we (pe_callB call_isX hg hm PyProof.Rows.boot_isinstance (pa_cons peW (pa_cons ht pa_nil he2) he) (by decide) (by decide) he hpl) ?_
  rcases bnd_some hf with ⟨c, fs, h1, rfl⟩ | ⟨v, st1, h1, h2⟩
  · exact h W cw w st σ H _ _ st' r h1 pp.exc
  · refine h W cw w st σ H _ _ st1 r h1 fun w1 H1 l1 r1 x hx => ?_
    unfold dIsX at h2
    split at h2
    · rename_i c fs
      split at h2
      · rename_i b eb
        cases h2
        obtain ⟨a, C, rfl, hC, hex⟩ := rep_exd r1.rc hx
        obtain ⟨hZ, hK⟩ := hI c b eb C hC
        exact hq _ _ _ ⟨a, C, cv, u, b, rfl, hk, hZ, hex, hK, pp w1 H1 l1 r1 (.bl _) (.bl _)⟩
      · cases h2
    · cases h2
end
end Lf
namespace Lf.Xk
open PySem PySem.W PySem.Calls PyProof.Rows PySem.Spec PySem.HandSPX
section
variable {M : Model} {A : Around} {E : Value → Shared → Prop} {h : Heap} {g : Array GenState} {d : Drawn} {t : Nat} {os : OsState}
variable {nm q : Str} {C N : Addr} {bs bm bmB : List Value} {hdct : Bool} {sn : List Str} {sub : List Value} {ab : Bool} {col : Option Bool} {dd : Option Addr} {k0 k1 k2 k3 k5 : Option Value} {B newId initId : String}
theorem checkK (F : ExcBaseFacts B newId initId bmB) (hT : ∀ X : String, bm.contains (.type X) = bmB.contains (.type X)) {f : Str} {v : Value} {Q : Unit → Shared → Prop}
    (hC : h.get? C = some (excClassObj nm q C N bs bm hdct sn sub ab col dd k0 k1 k2 k3 k5 newId)) (hq : Q () ⟨h, g, d, t, os⟩) : wpAny M A (checkBuiltinCall newId ⟨[.ref C], [(f, v)]⟩) Q E ⟨h, g, d, t, os⟩ := by
  have hcont : (Value.ref C :: bm).contains (.type B) = true := by rw [List.contains_cons, hT, F.hasB, Bool.or_true]
  have hstar := F.noStar
  simp only [checkBuiltinCall, F.newKind, F.newSplit, F.newRow]
  repeat (first | refine wpAny_loadPart_at hC ?_ | (refine wpAny_isSubtype_exc hC ?_; rw [hcont]) | refine wpAny_staticBase_exc hC ?_ | refine wpAny_madeBy_exc hC ?_ | simp only [bne_self_eq_false, Bool.false_eq_true, if_false] | wp_step)
  exact hq
end
section
variable {prog : Program} {w : World} {A : Around} {E : Value → Shared → Prop} {R : Result → Shared → Prop} {h : Heap} {g : Array GenState} {d : Drawn} {t : Nat} {os : OsState}
variable {nm q : Str} {C N : Addr} {bs bm bmB : List Value} {hdct : Bool} {sn : List Str} {sub : List Value} {ab : Bool} {col : Option Bool} {dd : Option Addr} {k0 k1 k2 k3 k5 : Option Value} {B newId initId : String}
theorem newK (F : ExcBaseFacts B newId initId bmB) (hT : ∀ X : String, bm.contains (.type X) = bmB.contains (.type X)) {kw : List (Str × Value)}
    (hC : h.get? C = some (excClassObj nm q C N bs bm hdct sn sub ab col dd k0 k1 k2 k3 k5 newId))
    (hq : R (.ok (.ret (.ref (h.objs.size + 1)))) ⟨(h.push (W.kdv_tup [])).push (excO C h.objs.size), g, d, t, os⟩) :
    codeAny (model prog w) A (.builtin newId ⟨[.ref C], kw⟩) R ⟨h, g, d, t, os⟩ := by
  have hends := F.ends
  have hcB : (Value.ref C :: bm).contains (.type B) = true := by rw [List.contains_cons, hT, F.hasB, Bool.or_true]
  have hcA : (Value.ref C :: bm).contains (.type "AttributeError") = false := by rw [List.contains_cons, hT, F.noAttr]; rfl
  have hcN : (Value.ref C :: bm).contains (.type "NameError") = false := by rw [List.contains_cons, hT, F.noName]; rfl
  refine codeAny_builtinAt F.entry ?_
  unfold Builtin.«BaseException.__new__»
  refine PySem.wpAt_bind ?_
  show PySem.wpAt _ _ _ (stack >>= _) _ _ _
  refine PySem.wpAt_bind (PySem.wpAt_stack fun p below => PySem.wpAt_of_wpAny ?_)
  wp_walk
  refine PySem.wpAt_of_wpAny ?_
  rw [F.owner]
  have hrest : ([] : List Value).length ≤ sizeLine := by simp
  repeat (first | with_reducible refine wpAny_madeHere_exc F.canon hC ?_ | with_reducible refine wpAny_loadPart_at hC ?_ | (with_reducible refine wpAny_isSubtype_exc hC ?_; first | rw [hcB] | rw [hcA] | rw [hcN]) | wp_step)
  show R _ _
  rw [Heap.size_push]
  exact hq
theorem typeK (F : ExcBaseFacts B newId initId bmB) (hT : ∀ X : String, bm.contains (.type X) = bmB.contains (.type X)) {f : Str} {v : Value} {fI : Addr} {Q : Fin → Shared → Prop}
    (hC : h.get? C = some (excClassObj nm q C N bs bm hdct sn sub ab col dd k0 k1 k2 k3 k5 newId))
    (hi : W.Looks (model prog w) h (typeLookup (.ref C) "__init__") (some (.ref fI))) (hb : ∀ self, W.Looks (model prog w) h (bindSpecial (.ref fI) self) (.ref fI, [self]))
    (hq : codeAny (model prog w) A (.call (.ref fI) ⟨[.ref (h.objs.size + 1)], [(f, v)]⟩)
      (fun r s' => match r with | .ok (.ret v) => v = .none ∧ Q (.done (.ret (.ref (h.objs.size + 1)))) s' | .ok _ => False | .error e => E e s')
      ⟨(h.push (W.kdv_tup [])).push (excO C h.objs.size), g, d, t, os⟩) :
    wpAny (model prog w) A (Builtin.«type.__call__» ⟨[.ref C], [(f, v)]⟩) Q E ⟨h, g, d, t, os⟩ := by
  repeat (first | with_reducible refine wpAny_loadPart_at hC ?_ | with_reducible refine wpAny_madeBy_exc hC ?_ | wp_step)
  refine codeAny_call_builtin_code (Code.quiet_builtin _ F.quiet) (checkK F hT hC ?_)
  refine newK F hT hC ?_
  show wpAny _ _ _ _ _ _
  have k : ∀ b o, h.get? b = some o → ((h.push (W.kdv_tup [])).push (excO C h.objs.size)).get? b = some o := fun b o e => Heap.get?_push_of_some _ (Heap.get?_push_of_some _ e)
  have hC₁ := k _ _ hC
  have hget : ((h.push (W.kdv_tup [])).push (excO C h.objs.size)).get? (h.objs.size + 1) = some (excO C h.objs.size) := by heap_get
  have hcC : (Value.ref C :: bm).contains (.ref C) = true := by simp
  have i1 := hi.keeps k
  have b1 := (hb (.ref (h.objs.size + 1))).keeps k
  unfold isInstance
  repeat (first | with_reducible refine wpAny_loadPart_at hget ?_ | (with_reducible refine wpAny_isSubtype_exc hC₁ ?_; rw [hcC]) | wp_step)
  show wpAny _ _ (typeLookup (.ref C) _) _ _ _
  refine i1.at ?_
  refine wpAny_holding (wpAny_bind (b1.at ?_))
  refine wpAny_bind (wpAny_call (codeAny_mono hq fun r s' z => ?_))
  rcases r with e | (v | _ | _ | _) <;> first | exact z | exact z.elim | skip
  obtain ⟨rfl, z⟩ := z
  first
    | exact wpAny_pure (wpAny_pure z)
    | (wp_walk; exact z)
theorem callK (F : ExcBaseFacts B newId initId bmB) (hT : ∀ X : String, bm.contains (.type X) = bmB.contains (.type X)) {f : Str} {v : Value} {fI : Addr}
    (hC : h.get? C = some (excClassObj nm q C N bs bm hdct sn sub ab col dd k0 k1 k2 k3 k5 newId))
    (hi : W.Looks (model prog w) h (typeLookup (.ref C) "__init__") (some (.ref fI))) (hb : ∀ self, W.Looks (model prog w) h (bindSpecial (.ref fI) self) (.ref fI, [self]))
    (hq : codeAny (model prog w) (A.under (.builtin "type.__call__" ⟨[.ref C], [(f, v)]⟩)) (.call (.ref fI) ⟨[.ref (h.objs.size + 1)], [(f, v)]⟩) (W.InitBack (h.objs.size + 1) R)
      ⟨(h.push (W.kdv_tup [])).push (excO C h.objs.size), g, d, t, os⟩) :
    codeAny (model prog w) A (.call (.ref C) ⟨[], [(f, v)]⟩) R ⟨h, g, d, t, os⟩ := by
  have f1 := tc_lookup
  have f2 := tc_bind (.ref C)
  have hTy : (⟨h, g, d, t, os⟩ : Shared).TypeIs (.ref C) "type" := ⟨_, hC, rfl⟩
  refine codeAny_of_tree ?_
  show wpAny _ _ (callAny (.ref C) _) _ _ _
  repeat (any_goals (first | assumption | with_reducible refine wpAny_loadPart_at hC ?_ | wp_step))
  refine ⟨rfl, ?_⟩
  refine codeAny_call_builtin_at (Code.quiet_builtin _ (by decide +kernel)) entry_typeCall (wpAny_check_type_call_sub hC (typeK F hT hC hi hb ?_))
  refine codeAny_mono hq fun r s' z => ?_
  rcases r with e | (v | _ | _ | _) <;> exact z
end
end Lf.Xk
namespace Lf
open PySem PySem.Spec L2
section
variable {cl : Cl} {X : Cx}
/-- one argument, by its name -/
theorem kbinds_one {K : PySem.W.Frag} {x qual : Str} {st : Stmt} {f : Addr} {fd : FuncData} (F : L2.Fun K x qual st f fd) {ps ks : List Str} {n : Nat}
    (h : ∀ (kV doc pm : Value) (an : Option Addr) (cdv ct : Value) (us ws : List Value), us.length = n → ws.length = ks.length → bindArgs (PySem.W.fnOf x qual (defArgs st) (defBody st) (defScope st) .none kV doc pm an cdv ct) ⟨us, ks.zip ws⟩ = pure (ps.zip (us ++ ws))) : KBn K fd ps n ks (fun us ws => us ++ ws) (fun vs zs => vs ++ zs) := by
  obtain ⟨oc, od, kV, doc, pm, an, cdv, ct, osl, rfl, lk, hcd⟩ := F.ex
  refine ⟨fun s us ws X l1 l2 => BindsTo.of_looks fun M => ?_, fun r1 r2 => r1.append r2⟩
  rw [h kV doc pm an cdv ct us ws l1 l2]
  exact .of_pure rfl
def tMkXK (C : Addr) (sp : Sp) (te : TE) : TE := fun σ H Q => te σ H fun y H1 => ∃ v, [y] = [v] ∧ ∀ a, H1 a = none → sp [.ref a, v] (upd H1 a (exo a C none)) (fun v H2 => v = .non ∧ Q (.ref a) H2) (fun _ _ _ => False)
theorem pe_mkxK {CX : CXT} {x f : Str} {C fI : Addr} {k : Nat} {fd : FuncData} {ps : List Str} {sp : Sp} {p pos kp : Pos} {e : Expr} {te : TE} (T : OexC X.K C) (iC : PySem.W.findIn X.K (.ref C) "__init__" = some (some (.ref fI))) (tI : PySem.W.typeIn X.K (.ref fI) = some (.type "function"))
    (F1 : FnOk X.prog X.w X.K X.mg X.base CX k fI fd ps sp) (hr : Room (k + 1) X.A) (hb : KBn X.K fd ps 1 [f] (fun us ws => us ++ ws) (fun vs zs => vs ++ zs)) (hx : Passes CX X (fun _ _ _ => False)) (hg : Gl X x) (hm : X.mg x = some (.ref C)) (ha : PE X e te)
    (hdb : (x == ("__debug__" : Str)) = false) (hall : (backToKw pos (keywordEach [⟨some f, e, kp⟩] X.env)).all (·.1.isSome) = true) (hks : (backToKw pos (keywordEach [⟨some f, e, kp⟩] X.env)).filterMap (·.1) = [f])
    (hpl : ((backTo pos (starEach [] X.env)).any (·.1) || (backToKw pos (keywordEach [⟨some f, e, kp⟩] X.env)).any (·.1.isNone)) = false) :
    PE X (.Call (.Name x p) [] [⟨some f, e, kp⟩] pos) (tMkXK C sp te) := by
  refine ⟨fun pins s σ H Q I h => ?_⟩
  obtain ⟨nm, q, N, bs, bm, sn, sub, ab, col, dd, k0, k1, k2, k3, k5, hC, hbm⟩ := T.cls
  refine wpAny_Call_Name_kw (ld_glob I hg hm ?_ hdb)
  have hk : PK X [⟨some f, e, kp⟩] (tCons te tNil) := pk_cons ha pk_nil
  have h' : tCons te tNil σ H (fun vs H1 => ∃ v, vs = [v] ∧ ∀ a, H1 a = none → sp [.ref a, v] (upd H1 a (exo a C none)) (fun v H2 => v = .non ∧ Q (.ref a) H2) (fun _ _ _ => False)) := h
  refine PySem.W.callWith_KW0 (h₀ := X.base) I.ok.mod.kin T.kC hall (thn (hk.run pos pins s σ H _ I h') fun us s1 ⟨vs, H1, I1, r1, v, ev, q1⟩ => ⟨I1.kIn, ?_⟩) hpl
  rw [hks]
  subst ev
  obtain ⟨u, rfl, ru⟩ : ∃ u, us = [u] ∧ RelV v u := by
    cases r1 with
    | cons a b =>
      cases b
      exact ⟨_, rfl, a⟩
  show wpAny _ _ (call (.ref C) [] [(f, u)]) _ _ _
  obtain ⟨hp, g, dr, tk, os⟩ := s1
  have hsz : hp.objs.size ≤ hp.objs.size + 1 := Nat.le_succ _
  have hn : H1 (hp.objs.size + 1) = none := I1.hok.fresh hsz
  have hq := q1 (hp.objs.size + 1) hn
  have kk : ∀ b o, hp.get? b = some o → ((hp.push (PySem.W.kdv_tup [])).push (PySem.HandSPX.excO C hp.objs.size)).get? b = some o := fun b o e => Heap.get?_push_of_some _ (Heap.get?_push_of_some _ e)
  have hget : ((hp.push (PySem.W.kdv_tup [])).push (PySem.HandSPX.excO C hp.objs.size)).get? (hp.objs.size + 1) = some (PySem.HandSPX.excO C hp.objs.size) := by heap_get
  have I2 : Inv X pins σ (upd H1 (hp.objs.size + 1) (exo (hp.objs.size + 1) C none)) ⟨(hp.push (PySem.W.kdv_tup [])).push (PySem.HandSPX.excO C hp.objs.size), g, dr, tk, os⟩ :=
    I1.laid (t' := tk) (a := hp.objs.size + 1) (o := exo (hp.objs.size + 1) C none) (h' := (hp.push (PySem.W.kdv_tup [])).push (PySem.HandSPX.excO C hp.objs.size)) kk hsz (exo_ok hget)
  have r2 : Vals ([V.ref (hp.objs.size + 1)] ++ [v]) ([Value.ref (hp.objs.size + 1)] ++ [u]) := .cons rfl (.cons ru .nil)
  refine wpAny_call (Xk.callK F.excBase_ValueError (fun Y => PySem.HandSPX.refsVE_contains Y bm hbm) (I1.kIn _ _ hC) (PySem.W.looks_findIn I1.kIn iC) (fun self => PySem.W.bind_fn I1.kIn self tI)
    (codeAny_mono (F1.run _ X.stack _ _ ⟨[Value.ref (hp.objs.size + 1)], [(f, u)]⟩ ([Value.ref (hp.objs.size + 1)] ++ [u]) _ _ (fun _ _ _ => False) (hr.make C [] [(f, u)]) (I2.env0.make C [] [(f, u)]) (hb.to _ [Value.ref (hp.objs.size + 1)] [u] I2.kIn rfl rfl) r2 hq) fun r s' hq' => ?_))
  cases r with
  | error er => exact hx pins σ _ _ er s' I2 hq'
  | ok fl =>
    cases fl with
    | ret u =>
      obtain ⟨v, H2, J, rv, ev, q2⟩ := I2.after hq'
      subst ev
      exact ⟨rv, .ref (hp.objs.size + 1), H2, J, rfl, q2⟩
    | next => exact False.elim hq'
    | brk => exact False.elim hq'
    | cont => exact False.elim hq'
theorem gMkXk {x f c : Str} {C fI : Addr} {k : Nat} {fd : FuncData} {ps : List Str} {e : Expr} {p pos kp : Pos} {fe : M Val} (hC : cl c = some C) (T : OexC X.K C) (hno : PySem.W.findIn X.K (.ref C) f = some none) (iC : PySem.W.findIn X.K (.ref C) "__init__" = some (some (.ref fI))) (tI : PySem.W.typeIn X.K (.ref fI) = some (.type "function"))
    (F1 : FnOk X.prog X.w X.K X.mg X.base (L2.CX X.prog X.w) k fI fd ps (spErr X.K f)) (hr : Room (k + 1) X.A) (hb : KBn X.K fd ps 1 [f] (fun us ws => us ++ ws) (fun vs zs => vs ++ zs)) (hm : X.mg x = some (.ref C)) (he : DE cl X e fe) (hg : Gl X x := by rfl) (hdb : (x == ("__debug__" : Str)) = false := by decide)
    (hall : (backToKw pos (keywordEach [⟨some f, e, kp⟩] X.env)).all (·.1.isSome) = true := by rfl) (hks : (backToKw pos (keywordEach [⟨some f, e, kp⟩] X.env)).filterMap (·.1) = [f] := by rfl)
    (hpl : ((backTo pos (starEach [] X.env)).any (·.1) || (backToKw pos (keywordEach [⟨some f, e, kp⟩] X.env)).any (·.1.isNone)) = false := by rfl) : DE cl X (.Call (.Name x p) [] [⟨some f, e, kp⟩] pos) (dMkX c f fe) := fun W cw w st σ H Q o st' r h pp => by
  refine PE.we (pe_mkxK T iC tI F1 hr hb (passes_call (W := W) cw.tk (fun _ _ _ _ z => z.elim)) hg hm peW hdb hall hks hpl) ?_
  show WE X e σ H _
  rcases bnd_some h with ⟨c', fs, h1, rfl⟩ | ⟨v, st1, h1, h2⟩
  · exact he W cw w st σ H _ _ st' r h1 pp.exc
  · refine he W cw w st σ H _ _ st1 r h1 fun w1 H1 l1 r1 y hy => ?_
    rcases bnd_some h2 with ⟨c', fs, h3, rfl⟩ | ⟨t, st2, h3, h4⟩
    · obtain ⟨t, w2, z, _⟩ := frz_at r1 hy h3
      cases z
    · obtain ⟨t', w2, z, l2, r2, q2⟩ := frz_at r1 hy h3
      cases z
      cases h4
      refine ⟨y, rfl, fun a ha => ⟨a, C, y, rfl, T, hno, upd_same, fun dx n1 n2 => ⟨rfl, ?_⟩⟩⟩
      have nd : H1 dx = none := by rw [upd_ne n2] at n1; exact n1
      rw [put2 n2]
      obtain ⟨r3, l3⟩ := r2.fresh nd (exd dx [(f, y)])
      have na : upd H1 dx (exd dx [(f, y)]) a = none := by rw [upd_ne (Ne.symm n2)]; exact ha
      obtain ⟨r4, l4⟩ := r3.fresh na (exo a C (some dx))
      exact pp _ _ (l1.trans (l2.trans (l3.trans l4))) r4 (.ref a) (.exo hC upd_same (by show upd _ a _ dx = _; rw [upd_ne n2]; exact upd_same) (.cons ((q2.mono l3.g).mono l4.g) .nil))
theorem pe_mkB {C : Addr} {bmB : List Value} {B newId initId : String} {x : Str} {p pos : Pos} (F : ExcBaseFacts B newId initId bmB) (q : PySem.W.excIn X.K C bmB newId = true) (gC : X.mg x = some (.ref C)) (kC : PySem.W.keepIn X.K (.ref C) = true) (hg : Gl X x) (hdb : (x == ("__debug__" : Str)) = false) :
    PE X (.Call (.Name x p) [] [] pos) (fun σ H Q => ∀ a, H a = none → Q (.ref a) (upd H a (exo a C none))) := by
  refine ⟨fun pins s σ H Q I h => ?_⟩
  refine wpAny_Call_Name_kw (ld_glob I hg gC ?_ hdb)
  refine PySem.W.callWith_K0 (first := []) I.kIn kC ?_
  show wpAny _ _ (call (.ref C) []) _ _ _
  obtain ⟨bm, N, nm, qn, bs, hdct, sn, sub, ab, col, dd, k0, k1, k2, k3, k5, mN, hC, hN, hni, T⟩ := exc_obj I.kIn q
  refine wpAny_call_exc_subT F T hC hN hni (fun h' a hm => ?_) (by simp)
  have hn : H a = none := I.hok.gone hm.new
  obtain ⟨t, ht, _, _⟩ := hm.there
  exact ⟨.ref a, upd H a (exo a C none), I.laidN hm.keeps hm.new hn (exo_ok ht), rfl, h a hn⟩
theorem gMkXB {x c : Str} {C : Addr} {bmB : List Value} {B newId initId : String} {p pos : Pos} (F : ExcBaseFacts B newId initId bmB) (hC : cl c = some C) (q : PySem.W.excIn X.K C bmB newId = true) (hm : X.mg x = some (.ref C)) (kC : PySem.W.keepIn X.K (.ref C) = true) (hg : Gl X x := by rfl) (hdb : (x == ("__debug__" : Str)) = false := by decide) : DE cl X (.Call (.Name x p) [] [] pos) (dMkX0 c) := fun W cw w st σ H Q o st' r h pp => by
  refine PE.we (pe_mkB F q hm kC hg hdb) ?_
  cases h
  refine fun a ha => ?_
  obtain ⟨r3, l3⟩ := r.fresh ha (exo a C none)
  exact pp _ _ l3 r3 (.ref a) (.ex0 hC upd_same)
end
@[simp] theorem Wp_dMkX (c f : Str) (fe : M Val) (s : DSt) (Q : Out Val → DSt → Prop) : Wp (dMkX c f fe) s Q = Wp fe s (Bk (fun v => bnd (frz v) fun t => ret (.t (.exo c [(f, t)]))) Q) := Wp_bnd _ _ _ _
@[simp] theorem Wp_dMkX0 (c : Str) (s : DSt) (Q : Out Val → DSt → Prop) : Wp (dMkX0 c) s Q = Q (.ok (.t (.exo c []))) s := Wp_ret _ _ _
def xvR (cs : List Str) (n : Str) (v : Val) : M Val := fun s => match v with
  | .t (.exo c fs) => if cs.contains c then match look fs n with
      | some t => some (.ok (.t t), s)
      | none => none
    else none
  | _ => none
@[simp] theorem Wp_dXv (cs : List Str) (n : Str) (f : M Val) (s : DSt) (Q : Out Val → DSt → Prop) : Wp (dXv cs n f) s Q = Wp f s (Bk (xvR cs n) Q) := Wp_bnd _ _ _ _
theorem Wp_xvR {cs : List Str} {n c : Str} {fs : List (Str × T)} {t : T} (h : cs.contains c = true) (l : look fs n = some t) (s : DSt) (Q : Out Val → DSt → Prop) : Wp (xvR cs n (.t (.exo c fs))) s Q = Q (.ok (.t t)) s := Wp_some (by simp only [xvR, h, l, if_true])
theorem Wp_isX {tb : Str → Option Bool} {c : Str} {fs : List (Str × T)} {b : Bool} (h : tb c = some b) (s : DSt) (Q : Out Val → DSt → Prop) : Wp (dIsX tb (.t (.exo c fs))) s Q = Q (.ok (.t (.bl b))) s := Wp_some (by simp only [dIsX, h])
section
variable {cl : Cl} {X : Cx}
theorem de_isX {e : Expr} {cS : Str} {C2 : Addr} {p p1 pos : Pos} {f : M Val} {tb : Str → Option Bool} (hm : X.mg "isinstance" = none) (hm1 : X.mg cS = some (.ref C2)) (hI : IsX cl X.K tb (.ref C2)) (h : DE cl X e f) (hg : Gl X "isinstance" := by rfl) (hg1 : Gl X cS := by rfl) (hd1 : (cS == ("__debug__" : Str)) = false := by decide)
    (he : starEach [e, .Name cS p1] X.env = (false, eval e X.env) :: starEach [.Name cS p1] X.env := by rfl) (he2 : starEach [.Name cS p1] X.env = (false, eval (.Name cS p1) X.env) :: starEach [] X.env := by rfl) (hpl : (backTo pos (starEach [.Name cS p1] X.env)).any (·.1) = false := by rfl) : DE cl X (.Call (.Name "isinstance" p) [e, .Name cS p1] [] pos) (bnd f (dIsX tb)) :=
  isX_gen hm (pe_glob (v := .ref C2) hg1 hm1 rfl hd1) (fun _ _ _ q => q) (.own C2) hI h hg he he2 hpl
theorem de_isXV {e : Expr} {ty : String} {tyS : Str} {p p1 pos : Pos} {f : M Val} {tb : Str → Option Bool} (hm : X.mg "isinstance" = none) (hm1 : X.mg tyS = none) (hv1 : bootBuiltins tyS = some (.type ty)) (hI : IsX cl X.K tb (.type ty)) (h : DE cl X e f) (hg : Gl X "isinstance" := by rfl) (hg1 : Gl X tyS := by rfl) (hn1 : tyS ≠ "__name__" := by decide) (hd1 : (tyS == ("__debug__" : Str)) = false := by decide)
    (he : starEach [e, .Name tyS p1] X.env = (false, eval e X.env) :: starEach [.Name tyS p1] X.env := by rfl) (he2 : starEach [.Name tyS p1] X.env = (false, eval (.Name tyS p1) X.env) :: starEach [] X.env := by rfl) (hpl : (backTo pos (starEach [.Name tyS p1] X.env)).any (·.1) = false := by rfl) : DE cl X (.Call (.Name "isinstance" p) [e, .Name tyS p1] [] pos) (bnd f (dIsX tb)) :=
  isX_gen hm (pe_bltn (v := .ty ty) hg1 hm1 hv1 rfl hn1 hd1) (fun _ _ _ q => q) (.ty ty) hI h hg he he2 hpl
end
/-- what isinstance asks of the class of an error -/
def excB (K : PySem.W.Frag) (D : Addr) : Bool := decide (PySem.W.findIn K (.ref D) "__getattribute__" = some (some (.builtin "BaseException.__getattribute__"))) && (decide (PySem.W.findIn K (.ref D) "__getattr__" = some none) && (decide (PySem.W.subIn K (.ref D) (.type "BaseException") = some true) && (PySem.W.hasDictIn K D && (decide (PySem.W.findIn K (.ref D) "__class__" = some (some (.builtin "object.__class__"))) && (decide (PySem.W.specialIn K (.builtin "object.__class__") "__get__" = some (some (.builtin "getset_descriptor.__get__"))) && (decide (PySem.W.takesIn K (.builtin "object.__class__") = some true) && decide (PySem.W.mroIn K D (.type "object") = some true)))))))
theorem excB_ok {K : PySem.W.Frag} {D : Addr} (h : excB K D = true) : ExcC K D := by
  unfold excB at h
  simp only [Bool.and_eq_true, decide_eq_true_eq] at h
  obtain ⟨h1, h2, h3, h4, h5, h6, h7, h8⟩ := h
  exact ⟨h1, h2, h3, h4, h5, h6, h7, h8⟩
def tbx (xs : List Str) (D : Str) : Str → Option Bool := fun c => if c ∈ xs then some (decide (c = D ∨ D = "LotError")) else none
def tbv (xs : List Str) : Str → Option Bool := fun c => if c ∈ xs then some true else none
def kitB (K : PySem.W.Frag) (ps : List (Str × Addr)) : Bool := ps.all fun p => ps.all fun q => decide (PySem.W.kitOne K (.ref p.2) (.ref q.2) = some (decide (p.1 = q.1 ∨ q.1 = "LotError")))
def kivB (K : PySem.W.Frag) (ps : List (Str × Addr)) : Bool := ps.all fun p => decide (PySem.W.kitOne K (.ref p.2) (.type "ValueError") = some true)
theorem isX_of {cl : Cl} {K : PySem.W.Frag} {xs : List Str} {ps : List (Str × Addr)} (hcl : ∀ c ∈ xs, ∀ C, cl c = some C → (c, C) ∈ ps) (he : (ps.all fun p => excB K p.2) = true) (hk : kitB K ps = true) {D : Str} {A : Addr} (hD : (D, A) ∈ ps) : IsX cl K (tbx xs D) (.ref A) := fun c b h C hc => by
  unfold tbx at h
  split at h
  · rename_i hx
    cases h
    have hm := hcl c hx C hc
    refine ⟨excB_ok (List.all_eq_true.mp he _ hm), ?_⟩
    have := List.all_eq_true.mp (List.all_eq_true.mp hk _ hm) _ hD
    exact of_decide_eq_true this
  · cases h
theorem isXV_of {cl : Cl} {K : PySem.W.Frag} {xs : List Str} {ps : List (Str × Addr)} (hcl : ∀ c ∈ xs, ∀ C, cl c = some C → (c, C) ∈ ps) (he : (ps.all fun p => excB K p.2) = true) (hk : kivB K ps = true) : IsX cl K (tbv xs) (.type "ValueError") := fun c b h C hc => by
  unfold tbv at h
  split at h
  · rename_i hx
    cases h
    have hm := hcl c hx C hc
    exact ⟨excB_ok (List.all_eq_true.mp he _ hm), of_decide_eq_true (List.all_eq_true.mp hk _ hm)⟩
  · cases h
section
variable {cl : Cl} {X : Cx} {k : Nat} {f : Addr} {fd : FuncData} {F : DFun} {x : Str} {p pos : Pos}
/-- a def without parameters called -/
theorem gCall0 (G : FnOk X.prog X.w X.K X.mg X.base (L2.CX X.prog X.w) k f fd [] (spD cl X.K 0 F)) (hr : Room k X.A) (hm : X.mg x = some (.ref f)) (hk : PySem.W.keepIn X.K (.ref f) = true) (hb : Binds X.K fd [] []) (hg : Gl X x := by rfl) (hdb : (x == ("__debug__" : Str)) = false := by decide) :
    DE cl X (.Call (.Name x p) [] [] pos) (dCallV F (ret [])) := fun W cw w st σ H Q ou st' r h pp => by
  obtain ⟨o1, st1, h1, pp1⟩ := ret_end h pp
  intro pins s I
  refine wpAny_Call_Name_kw (ld_glob I hg hm ?_ hdb)
  rcases bnd_some h1 with ⟨c, fs, h2, rfl⟩ | ⟨vs, st2, h2, h3⟩
  · cases h2
  · cases h2
    exact PySem.W.callWith_K0 I.kIn hk (call_we cw G hr hb r .nil h3 rfl pp1 I .nil)
end
end Lf
namespace G01
open PySem PySem.Spec L2 Lf
def top (i : Nat) : Stmt := PySem.Challenge.pw_lotmarks_k01_errors_made.main.body.getD i (.Pass ⟨0, 0, 0, 0⟩)
def xs01 : List Str := ["BadWeb", "UnknownCell", "BadProgram", "BadNumber", "BadRules", "BadWorth", "BadName", "Held", "NotHeld", "BadDeed", "Taken", "Used", "NoDeed", "BadTable", "Ringed", "TooFew", "NotSweep", "BadMarks", "MarkRing", "NoSuch", "Unlike", "BadCells", "BadActs", "NoLot", "BadPiece", "BadArrow", "BadWave", "BadText", "LotError"]
abbrev st__law_pool : Stmt := top 32
abbrev st__law_cell : Stmt := top 31
abbrev st__law_take : Stmt := top 33
abbrev st__law_thing : Stmt := top 34
abbrev st__law_by_name : Stmt := top 36
abbrev st__law_by_place : Stmt := top 35
abbrev st__law_held : Stmt := top 37
abbrev st__law_is_same : Stmt := top 40
abbrev st__law_others : Stmt := top 38
abbrev st__law_classes : Stmt := top 39
abbrev st_law : Stmt := top 41
abbrev st_BadWeb_init : Stmt := inClass (top 2) 0
abbrev st_UnknownCell_init : Stmt := inClass (top 3) 0
abbrev st_BadProgram_init : Stmt := inClass (top 4) 0
abbrev st_BadNumber_init : Stmt := inClass (top 5) 0
abbrev st_BadRules_init : Stmt := inClass (top 6) 0
abbrev st_BadWorth_init : Stmt := inClass (top 7) 0
abbrev st_BadName_init : Stmt := inClass (top 8) 0
abbrev st_Held_init : Stmt := inClass (top 9) 0
abbrev st_NotHeld_init : Stmt := inClass (top 10) 0
abbrev st_BadDeed_init : Stmt := inClass (top 11) 0
abbrev st_Taken_init : Stmt := inClass (top 12) 0
abbrev st_Used_init : Stmt := inClass (top 13) 0
abbrev st_NoDeed_init : Stmt := inClass (top 14) 0
abbrev st_BadTable_init : Stmt := inClass (top 15) 0
abbrev st_Ringed_init : Stmt := inClass (top 16) 0
abbrev st_TooFew_init : Stmt := inClass (top 17) 0
abbrev st_NotSweep_init : Stmt := inClass (top 18) 0
abbrev st_BadMarks_init : Stmt := inClass (top 19) 0
abbrev st_MarkRing_init : Stmt := inClass (top 20) 0
abbrev st_NoSuch_init : Stmt := inClass (top 21) 0
abbrev st_Unlike_init : Stmt := inClass (top 22) 0
abbrev st_BadCells_init : Stmt := inClass (top 23) 0
abbrev st_BadActs_init : Stmt := inClass (top 24) 0
abbrev st_NoLot_init : Stmt := inClass (top 25) 0
abbrev st_BadPiece_init : Stmt := inClass (top 26) 0
abbrev st_BadArrow_init : Stmt := inClass (top 27) 0
abbrev st_BadWave_init : Stmt := inClass (top 28) 0
abbrev st_BadText_init : Stmt := inClass (top 29) 0
def s__law_pool : M Fl :=
  (dSeq (dSet 1 (dBin dMul (cInt 2) (dVar 0)))
  (dSeq (dIf (dTC oLt (dVar 0) (cInt 0))
    (dSeq (dSet 1 (dBin oSub (dBin oSub (cInt 0) (dBin dMul (cInt 2) (dVar 0))) (cInt 1)))
    (ret .nx))
    (ret .nx))
  (dSeq (dIf (dTC oGe (dVar 1) (dBin oPow (cInt 10) (cInt 18)))
    (dSeq (dRetF (dLst (dCons (dVar 1) (dCons (dBin oMod (bnd (dCons (dVar 1) (ret [])) dInt1) (cInt 1000000007)) (dCons (cInt 0) (ret []))))))
    (ret .nx))
    (ret .nx))
  (dSeq (dRetF (dLst (dCons (cInt 0) (dCons (dBin oMod (bnd (dCons (dVar 1) (ret [])) dInt1) (cInt 1000000007)) (dCons (cInt 0) (ret []))))))
  (ret .nx)))))
def F__law_pool : DFun := runD 2 s__law_pool
def s__law_cell : M Fl :=
  (dSeq (dIf (dTC oLt (dVar 1) (bnd (dCons (dVar 0) (ret [])) dLen))
    (dSeq (dRet (dBin dIx (dVar 0) (dVar 1)))
    (ret .nx))
    (ret .nx))
  (dSeq (dRet (cInt 0))
  (ret .nx)))
def F__law_cell : DFun := runD 2 s__law_cell
def s__law_take : M Fl :=
  (dSeq (dIf (dTC oGt (dBin dIx (dVar 0) (cInt 0)) (cInt 0))
    (dSeq (dSet 3 (dBin oMod (bnd (dCons (dBin dIx (dVar 0) (cInt 0)) (ret [])) dInt1) (dVar 1)))
    (dSeq (dSetIx (dVar 0) (cInt 0) (dBin oDiv (dBin dIx (dVar 0) (cInt 0)) (dVar 1)))
    (dSeq (dRet (dVar 3))
    (ret .nx))))
    (ret .nx))
  (dSeq (dSetIx (dVar 0) (cInt 2) (dBin dAdd (dBin dIx (dVar 0) (cInt 2)) (cInt 1)))
  (dSeq (dSet 2 (dBin oMod (bnd (dCons (dBin oPow (dBin dAdd (dBin dAdd (dBin dIx (dVar 0) (cInt 1)) (dBin dMul (cInt 7919) (dBin dIx (dVar 0) (cInt 2)))) (cInt 104729)) (cInt 5)) (ret [])) dInt1) (cInt 2147483647)))
  (dSeq (dRet (dBin oMod (dBin oMod (bnd (dCons (dBin dMul (dBin dAdd (dVar 2) (dBin dIx (dVar 0) (cInt 2))) (cInt 40692)) (ret [])) dInt1) (cInt 2147483629)) (dVar 1)))
  (ret .nx)))))
def F__law_take : DFun := runD 4 s__law_take
def s__law_thing : M Fl :=
  (dSeq (dRet (dBin dIx (dKeep (dLst (dCons cNon (dCons (cBl true) (dCons (cBl false) (dCons (cInt 0) (dCons (bnd (cInt 7) dNeg) (dCons (dBin oPow (cInt 10) (cInt 30)) (dCons (cStr "") (dCons (cStr "a") (dCons (dTup (dCons (cStr "a") (dCons (cInt 1) (ret [])))) (dCons (dKeep (dLst (dCons (cStr "b") (dCons (dKeep (dLst (dCons (cInt 2) (ret [])))) (ret []))))) (dCons (dKeep (dDict1 (cStr "a") (dKeep (dLst (ret []))))) (dCons (cInt 1) (ret []))))))))))))))) (dCallV F__law_take (dCons (dVar 0) (dCons (cInt 12) (ret []))))))
  (ret .nx))
def F__law_thing : DFun := runD 1 s__law_thing
def s__law_by_name : M Fl :=
  (dSeq (dSet 1 (dKeep (dLst (dCons (dMkX "BadWeb" "index" (dVar 0)) (dCons (dMkX "UnknownCell" "cell" (dVar 0)) (dCons (dMkX "BadProgram" "index" (dVar 0)) (dCons (dMkX "BadNumber" "number" (dVar 0)) (ret []))))))))
  (dSeq (dSet 1 (dBin dAdd (dVar 1) (dKeep (dLst (dCons (dMkX "BadRules" "cell" (dVar 0)) (dCons (dMkX "BadWorth" "cell" (dVar 0)) (dCons (dMkX "BadName" "name" (dVar 0)) (dCons (dMkX "Held" "name" (dVar 0)) (dCons (dMkX "NotHeld" "name" (dVar 0)) (ret []))))))))))
  (dSeq (dSet 1 (dBin dAdd (dVar 1) (dKeep (dLst (dCons (dMkX "BadDeed" "deed" (dVar 0)) (dCons (dMkX "Taken" "name" (dVar 0)) (dCons (dMkX "Used" "cell" (dVar 0)) (dCons (dMkX "Ringed" "ring" (dVar 0)) (dCons (dMkX "TooFew" "number" (dVar 0)) (ret []))))))))))
  (dSeq (dSet 1 (dBin dAdd (dVar 1) (dKeep (dLst (dCons (dMkX "MarkRing" "arrows" (dVar 0)) (dCons (dMkX "NoSuch" "number" (dVar 0)) (dCons (dMkX "BadActs" "index" (dVar 0)) (dCons (dMkX "NoLot" "index" (dVar 0)) (dCons (dMkX "BadArrow" "index" (dVar 0)) (ret []))))))))))
  (dSeq (dSet 1 (dBin dAdd (dVar 1) (dKeep (dLst (dCons (dMkX "BadText" "line" (dVar 0)) (ret []))))))
  (dSeq (dRet (dVar 1))
  (ret .nx)))))))
def F__law_by_name : DFun := runD 2 s__law_by_name
def s__law_by_place : M Fl :=
  (dSeq (dSet 1 (dKeep (dLst (dCons (dMkX "BadWeb" "index" (dVar 0)) (dCons (dMkX "UnknownCell" "cell" (dVar 0)) (dCons (dMkX "BadProgram" "index" (dVar 0)) (dCons (dMkX "BadNumber" "number" (dVar 0)) (dCons (dMkX "BadRules" "cell" (dVar 0)) (dCons (dMkX "BadWorth" "cell" (dVar 0)) (dCons (dMkX "BadName" "name" (dVar 0)) (ret [])))))))))))
  (dSeq (dSet 1 (dBin dAdd (dVar 1) (dKeep (dLst (dCons (dMkX "Held" "name" (dVar 0)) (dCons (dMkX "NotHeld" "name" (dVar 0)) (dCons (dMkX "BadDeed" "deed" (dVar 0)) (dCons (dMkX "Taken" "name" (dVar 0)) (dCons (dMkX "Used" "cell" (dVar 0)) (dCons (dMkX "Ringed" "ring" (dVar 0)) (dCons (dMkX "TooFew" "number" (dVar 0)) (dCons (dMkX "MarkRing" "arrows" (dVar 0)) (ret [])))))))))))))
  (dSeq (dSet 1 (dBin dAdd (dVar 1) (dKeep (dLst (dCons (dMkX "NoSuch" "number" (dVar 0)) (dCons (dMkX "BadActs" "index" (dVar 0)) (dCons (dMkX "NoLot" "index" (dVar 0)) (dCons (dMkX "BadArrow" "index" (dVar 0)) (dCons (dMkX "BadText" "line" (dVar 0)) (ret []))))))))))
  (dSeq (dRet (dVar 1))
  (ret .nx)))))
def F__law_by_place : DFun := runD 2 s__law_by_place
def s__law_held : M Fl :=
  (dSeq (dSet 1 (dKeep (dLst (dCons (dXv ["BadWeb", "BadProgram", "BadActs", "NoLot", "BadArrow"] "index" (dBin dIx (dVar 0) (cInt 0))) (dCons (dXv ["UnknownCell", "BadRules", "BadWorth", "Used"] "cell" (dBin dIx (dVar 0) (cInt 1))) (dCons (dXv ["BadWeb", "BadProgram", "BadActs", "NoLot", "BadArrow"] "index" (dBin dIx (dVar 0) (cInt 2))) (dCons (dXv ["BadNumber", "TooFew", "NoSuch"] "number" (dBin dIx (dVar 0) (cInt 3))) (dCons (dXv ["UnknownCell", "BadRules", "BadWorth", "Used"] "cell" (dBin dIx (dVar 0) (cInt 4))) (dCons (dXv ["UnknownCell", "BadRules", "BadWorth", "Used"] "cell" (dBin dIx (dVar 0) (cInt 5))) (dCons (dXv ["BadName", "Held", "NotHeld", "Taken"] "name" (dBin dIx (dVar 0) (cInt 6))) (dCons (dXv ["BadName", "Held", "NotHeld", "Taken"] "name" (dBin dIx (dVar 0) (cInt 7))) (ret []))))))))))))
  (dSeq (dSet 1 (dBin dAdd (dVar 1) (dKeep (dLst (dCons (dXv ["BadName", "Held", "NotHeld", "Taken"] "name" (dBin dIx (dVar 0) (cInt 8))) (dCons (dXv ["BadDeed"] "deed" (dBin dIx (dVar 0) (cInt 9))) (dCons (dXv ["BadName", "Held", "NotHeld", "Taken"] "name" (dBin dIx (dVar 0) (cInt 10))) (dCons (dXv ["UnknownCell", "BadRules", "BadWorth", "Used"] "cell" (dBin dIx (dVar 0) (cInt 11))) (dCons (dXv ["Ringed"] "ring" (dBin dIx (dVar 0) (cInt 12))) (dCons (dXv ["BadNumber", "TooFew", "NoSuch"] "number" (dBin dIx (dVar 0) (cInt 13))) (dCons (dXv ["MarkRing"] "arrows" (dBin dIx (dVar 0) (cInt 14))) (ret []))))))))))))
  (dSeq (dSet 1 (dBin dAdd (dVar 1) (dKeep (dLst (dCons (dXv ["BadNumber", "TooFew", "NoSuch"] "number" (dBin dIx (dVar 0) (cInt 15))) (dCons (dXv ["BadWeb", "BadProgram", "BadActs", "NoLot", "BadArrow"] "index" (dBin dIx (dVar 0) (cInt 16))) (dCons (dXv ["BadWeb", "BadProgram", "BadActs", "NoLot", "BadArrow"] "index" (dBin dIx (dVar 0) (cInt 17))) (dCons (dXv ["BadWeb", "BadProgram", "BadActs", "NoLot", "BadArrow"] "index" (dBin dIx (dVar 0) (cInt 18))) (dCons (dXv ["BadText"] "line" (dBin dIx (dVar 0) (cInt 19))) (ret []))))))))))
  (dSeq (dRet (dVar 1))
  (ret .nx)))))
def F__law_held : DFun := runD 2 s__law_held
def s__law_is_same : M Fl :=
  (dSeq (dRet (vAnd (dBin (dEqN false) (dVar 0) (dVar 1)) (dBin (dEq false) (bnd (dVar 0) (dIsi ["bool"])) (bnd (dVar 1) (dIsi ["bool"])))))
  (ret .nx))
def F__law_is_same : DFun := runD 2 s__law_is_same
def s__law_others : M Fl :=
  (dSeq (dSet 0 (dKeep (dLst (dCons (dMkX0 "NoDeed") (dCons (dMkX0 "BadTable") (dCons (dMkX0 "NotSweep") (dCons (dMkX0 "BadMarks") (dCons (dMkX0 "Unlike") (dCons (dMkX0 "BadCells") (dCons (dMkX0 "BadPiece") (dCons (dMkX0 "BadWave") (ret []))))))))))))
  (dSeq (dRet (dVar 0))
  (ret .nx)))
def F__law_others : DFun := runD 1 s__law_others
def s__law_classes : M Fl :=
  (dSeq (dSet 1 (dKeep (dLst (dCons (bnd (dVar 0) (dIsX (tbx xs01 "BadWeb"))) (dCons (bnd (dVar 0) (dIsX (tbx xs01 "UnknownCell"))) (dCons (bnd (dVar 0) (dIsX (tbx xs01 "BadProgram"))) (ret [])))))))
  (dSeq (dSet 1 (dBin dAdd (dVar 1) (dKeep (dLst (dCons (bnd (dVar 0) (dIsX (tbx xs01 "BadNumber"))) (dCons (bnd (dVar 0) (dIsX (tbx xs01 "BadRules"))) (dCons (bnd (dVar 0) (dIsX (tbx xs01 "BadWorth"))) (ret []))))))))
  (dSeq (dSet 1 (dBin dAdd (dVar 1) (dKeep (dLst (dCons (bnd (dVar 0) (dIsX (tbx xs01 "BadName"))) (dCons (bnd (dVar 0) (dIsX (tbx xs01 "Held"))) (dCons (bnd (dVar 0) (dIsX (tbx xs01 "NotHeld"))) (dCons (bnd (dVar 0) (dIsX (tbx xs01 "BadDeed"))) (ret [])))))))))
  (dSeq (dSet 1 (dBin dAdd (dVar 1) (dKeep (dLst (dCons (bnd (dVar 0) (dIsX (tbx xs01 "Taken"))) (dCons (bnd (dVar 0) (dIsX (tbx xs01 "Used"))) (dCons (bnd (dVar 0) (dIsX (tbx xs01 "Ringed"))) (dCons (bnd (dVar 0) (dIsX (tbx xs01 "TooFew"))) (ret [])))))))))
  (dSeq (dSet 1 (dBin dAdd (dVar 1) (dKeep (dLst (dCons (bnd (dVar 0) (dIsX (tbx xs01 "MarkRing"))) (dCons (bnd (dVar 0) (dIsX (tbx xs01 "NoSuch"))) (dCons (bnd (dVar 0) (dIsX (tbx xs01 "BadActs"))) (dCons (bnd (dVar 0) (dIsX (tbx xs01 "NoLot"))) (ret [])))))))))
  (dSeq (dSet 1 (dBin dAdd (dVar 1) (dKeep (dLst (dCons (bnd (dVar 0) (dIsX (tbx xs01 "BadArrow"))) (dCons (bnd (dVar 0) (dIsX (tbx xs01 "BadText"))) (dCons (bnd (dVar 0) (dIsX (tbx xs01 "NoDeed"))) (ret []))))))))
  (dSeq (dSet 1 (dBin dAdd (dVar 1) (dKeep (dLst (dCons (bnd (dVar 0) (dIsX (tbx xs01 "BadTable"))) (dCons (bnd (dVar 0) (dIsX (tbx xs01 "NotSweep"))) (dCons (bnd (dVar 0) (dIsX (tbx xs01 "BadMarks"))) (ret []))))))))
  (dSeq (dSet 1 (dBin dAdd (dVar 1) (dKeep (dLst (dCons (bnd (dVar 0) (dIsX (tbx xs01 "Unlike"))) (dCons (bnd (dVar 0) (dIsX (tbx xs01 "BadCells"))) (dCons (bnd (dVar 0) (dIsX (tbx xs01 "BadPiece"))) (ret []))))))))
  (dSeq (dSet 1 (dBin dAdd (dVar 1) (dKeep (dLst (dCons (bnd (dVar 0) (dIsX (tbx xs01 "BadWave"))) (ret []))))))
  (dSeq (dRet (dVar 1))
  (ret .nx)))))))))))
def F__law_classes : DFun := runD 2 s__law_classes
def s_law : M Fl :=
  (dSeq (dWp [1, 2, 3, 4, 5, 6, 7, 8, 9, 10, 11]) (dSeq (dFor (iRange1 (dCons (cInt 3) (ret []))) (put 1)
    (dSeq (dSeq (dCellS 2 (dCallO F__law_pool (dCons (dBin dAdd (dCallV F__law_cell (dCons (dVar 0) (dCons (dVar 1) (ret [])))) (dVar 1)) (ret []))))
    (dSeq (dPar [3, 4] (dCons (dCallV F__law_thing (dCons (dVar 2) (ret []))) (dCons (dCallV F__law_thing (dCons (dVar 2) (ret []))) (ret []))))
    (dSeq (dSet 5 (dKeep (dLst (dCons (dTup (dCons (dCallV F__law_by_place (dCons (dVar 3) (ret []))) (dCons (dVar 3) (ret [])))) (dCons (dTup (dCons (dCallV F__law_by_place (dCons (dVar 4) (ret []))) (dCons (dVar 4) (ret [])))) (dCons (dTup (dCons (dCallV F__law_by_name (dCons (dVar 3) (ret []))) (dCons (dVar 3) (ret [])))) (ret [])))))))
    (dSeq (dWp [1, 2, 3, 4, 6, 7, 8, 9, 10, 11]) (dSeq (dFor (iSeq (dVar 5)) (unpackA [6, 7])
      (dSeq (dSeq (dIf (dNot (dT (bnd (dCons (dKeep (dComp [10] (iSeq (dCallV F__law_held (dCons (dVar 6) (ret [])))) (put 10) (ret true) (dCallV F__law_is_same (dCons (dVar 10) (dCons (dVar 7) (ret [])))))) (ret [])) dAll)))
        (dSeq (dRet (cBl false))
        (ret .nx))
        (ret .nx))
      (dSeq (dSet 8 (dBin dAdd (dVar 6) (dCallV F__law_others (ret []))))
      (dSeq (dWp [1, 2, 3, 4, 6, 7, 9, 10, 11]) (dSeq (dFor (iRange1 (dCons (bnd (dCons (dVar 8) (ret [])) dLen) (ret []))) (put 9)
        (dSeq (dSeq (dIf (dOr (dNot (dT (bnd (dBin dIx (dVar 8) (dVar 9)) (dIsX (tbx xs01 "LotError"))))) (dNot (dT (bnd (dBin dIx (dVar 8) (dVar 9)) (dIsX (tbv xs01))))))
          (dSeq (dRet (cBl false))
          (ret .nx))
          (ret .nx))
        (dSeq (dIf (dTC (dEq true) (dCallV F__law_classes (dCons (dBin dIx (dVar 8) (dVar 9)) (ret []))) (dKeep (dComp [11] (iRange1 (dCons (cInt 28) (ret []))) (put 11) (ret true) (dBin (dEq false) (dVar 11) (dVar 9)))))
          (dSeq (dRet (cBl false))
          (ret .nx))
          (ret .nx))
        (ret .nx)))
        (dWp [1, 2, 3, 4, 6, 7, 9, 10, 11])))
      (ret .nx)))))
      (dWp [1, 2, 3, 4, 6, 7, 8, 9, 10, 11])))
    (ret .nx))))))
    (dWp [1, 2, 3, 4, 5, 6, 7, 8, 9, 10, 11])))
  (dSeq (dRet (vAnd (bnd (dMkX0 "LotError") (dIsX (tbv xs01))) (vNot (bnd (dCons (dCallV F__law_classes (dCons (dMkX0 "LotError") (ret []))) (ret [])) dAny))))
  (ret .nx))))
def F_law : DFun := runD 12 s_law
end G01
namespace G01
open PySem PySem.Spec L2 Lf
theorem take_spec {μ : List Cell} {n k m : Nat} {Q : Out Ret → List Cell → Prop} (h : PoolAt n k μ) (hk : k < 1073741824) (hm : 0 < m) (hm2 : m < 1073741824)
    (hQ : ∀ d : Nat, d < m → ∀ μ', Draw n μ (k + 1) μ' → Q (.ok (.val (.t (.int d)))) μ') : Fw F__law_take [.loc n, .t (.int m)] μ Q := by
  obtain ⟨a, b, c, h, ha, hb, hb2, hc, hc2⟩ := h
  have hn : n < μ.length := (List.getElem?_eq_some_iff.mp h).1
  have hmI : (0 : Int) < m := by omega
  have hmI2 : (m : Int) < 1073741824 := by omega
  have fin : ∀ z a' c' : Int, 0 ≤ a' → 0 ≤ c' → c' ≤ k + 1 → Q (.ok (.val (.t (.int (z % m))))) (μ.set n (poolC a' b c')) := fun z a' c' h1 h2 h3 => by
    have e := Int.emod_nonneg z (show (m : Int) ≠ 0 by omega)
    have e2 := Int.emod_lt_of_pos z hmI
    have e3 : z % m = ((z % m).toNat : Int) := by omega
    rw [e3]
    exact hQ _ (by omega) _ ⟨⟨_, rfl⟩, a', b, c', by simp [hn], h1, hb, hb2, h2, by omega⟩
  refine Fw_run ?_
  unfold s__law_take
  have h0 : ∀ a b c : Int, atI [Fv.t (.int a), .t (.int b), .t (.int c)] 0 = some (.t (.int a)) := fun _ _ _ => rfl
  have h1 : ∀ a b c : Int, atI [Fv.t (.int a), .t (.int b), .t (.int c)] 1 = some (.t (.int b)) := fun _ _ _ => rfl
  have h2 : ∀ a b c : Int, atI [Fv.t (.int a), .t (.int b), .t (.int c)] 2 = some (.t (.int c)) := fun _ _ _ => rfl
  simp [Wp_ixL h (h0 _ _ _), startD]
  split
  · rename_i hp
    simp [Wp_ixL h (h0 _ _ _), hm, hmI2, Wp_setIxL h (i := 0) (j := 0) rfl]
    exact fin a _ c (Int.ediv_nonneg ha (by omega)) hc (by omega)
  · rename_i hp
    have h' : (μ.set n (poolC a b (c + 1)))[n]? = some (poolC a b (c + 1)) := by simp [hn]
    simp [Wp_ixL h (h2 _ _ _), Wp_setIxL h (i := 2) (j := 2) rfl]
    have hcc : (c + 1 : Int) ≤ 1073741824 := by omega
    rw [Wp_ixL h' (h1 _ _ _)]
    simp [Wp_ixL h' (h2 _ _ _)]
    rw [Wp_dMulI (by simp)]
    simp
    refine ⟨by omega, ?_⟩
    simp [Wp_ixL h' (h2 _ _ _)]
    rw [Wp_dMulI (by simp)]
    simp
    exact ⟨hm, fin _ a (c + 1) ha (by omega) (by omega)⟩
theorem pool_spec {μ : List Cell} {Q : Out Ret → List Cell → Prop} (z : Int) (hQ : ∀ a b : Int, 0 ≤ a → 0 ≤ b → b < 1073741824 → Q (.ok (.own (.lst [.int a, .int b, .int 0]))) μ) : Fw F__law_pool [.t (.int z)] μ Q := by
  refine Fw_run ?_
  unfold s__law_pool
  have e : ∀ y : Int, 0 ≤ y % 1000000007 ∧ y % 1000000007 < 1073741824 := fun y => by
    have e := Int.emod_nonneg y (show (1000000007 : Int) ≠ 0 by decide)
    have e2 := Int.emod_lt_of_pos y (show (0 : Int) < 1000000007 by decide)
    omega
  simp [startD]
  rw [Wp_dMulI (by simp)]
  simp
  split
  · rw [Wp_dMulI (by simp)]
    simp
    split
    · simp [sizeLine_eq]
      exact hQ _ _ (by omega) (e _).1 (e _).2
    · simp [sizeLine_eq]
      exact hQ _ _ (by omega) (e _).1 (e _).2
  · split
    · simp [sizeLine_eq]
      exact hQ _ _ (by omega) (e _).1 (e _).2
    · simp [sizeLine_eq]
      exact hQ _ _ (by omega) (e _).1 (e _).2
theorem cell_spec {μ : List Cell} {Q : Out Ret → List Cell → Prop} (ns : List Int) (k : Nat) (hQ : ∀ z : Int, Q (.ok (.val (.t (.int z)))) μ) : Fw F__law_cell [.t (.fro (ns.map T.int)), .t (.int k)] μ Q := by
  refine Fw_run ?_
  unfold s__law_cell
  simp [startD]
  split
  · rename_i h
    have e : atI (ns.map T.int) (k : Int) = some (.int ns[k]) := Lf.atI_nat (by simp [h])
    simp [Wp_ixF e, hQ]
  · simp [hQ]
end G01
namespace G01
open PySem PySem.Spec L2 Lf
def things : List T := [.non, .bl true, .bl false, .int 0, .int (-7), .int 1000000000000000000000000000000, .str "", .str "a", .tup [.str "a", .int 1], .lst [.str "b", .lst [.int 2]], .dic [(Sum.inr "a", .lst [])], .int 1]
theorem thing_spec {μ : List Cell} {n k : Nat} {Q : Out Ret → List Cell → Prop} (h : PoolAt n k μ) (hk : k + 10 < 1073741824) (hQ : ∀ x ∈ things, ∀ m, PoolAt n (k + 1) m → Q (.ok (.val (.t x))) m) : Fw F__law_thing [.loc n] μ Q := by
  refine Fw_run ?_
  unfold s__law_thing
  simp [startD, sizeLine_eq]
  have hd : ∀ (s : DSt) (Q : Out Own → DSt → Prop), Wp (dDict1 (cStr "a") (dKeep (dLst (Lf.ret [])))) s Q = Q (.ok (.dic false [(Sum.inr "a", .lst [])])) s := fun s Q => Wp_some rfl
  rw [hd]
  simp [Own.tree]
  refine take_spec h (by omega) (m := 12) (by omega) (by omega) fun d hd m hD => ?_
  simp
  have hl : d < things.length := hd
  have hx : ∀ (s : DSt) (Q : Out Val → DSt → Prop), Wp (dIx (.t (.lst things)) (.t (.int (d : Int)))) s Q = Q (.ok (.t things[d])) s := fun s Q => Wp_ixT (x := things[d]) (Lf.atI_nat (i := d) (List.getElem?_eq_getElem hl)) s Q
  have hm : things[d] ∈ things := List.getElem_mem hl
  generalize things[d] = x at hx hm
  unfold things at hx
  rw [hx]
  simp
  exact ⟨m, trunc_len hD.len, hQ x hm m hD.2⟩
def errs (x : T) : List T := [.exo "BadWeb" [("index", x)], .exo "UnknownCell" [("cell", x)], .exo "BadProgram" [("index", x)], .exo "BadNumber" [("number", x)], .exo "BadRules" [("cell", x)], .exo "BadWorth" [("cell", x)], .exo "BadName" [("name", x)], .exo "Held" [("name", x)], .exo "NotHeld" [("name", x)], .exo "BadDeed" [("deed", x)], .exo "Taken" [("name", x)], .exo "Used" [("cell", x)], .exo "Ringed" [("ring", x)], .exo "TooFew" [("number", x)], .exo "MarkRing" [("arrows", x)], .exo "NoSuch" [("number", x)], .exo "BadActs" [("index", x)], .exo "NoLot" [("index", x)], .exo "BadArrow" [("index", x)], .exo "BadText" [("line", x)]]
theorem by_place_spec {μ : List Cell} {x : T} {Q : Out Ret → List Cell → Prop} (hQ : Q (.ok (.val (.t (.lst (errs x))))) μ) : Fw F__law_by_place [.t x] μ Q := by
  refine Fw_run ?_
  unfold s__law_by_place
  simp [startD, sizeLine_eq]
  exact hQ
theorem by_name_spec {μ : List Cell} {x : T} {Q : Out Ret → List Cell → Prop} (hQ : Q (.ok (.val (.t (.lst (errs x))))) μ) : Fw F__law_by_name [.t x] μ Q := by
  refine Fw_run ?_
  unfold s__law_by_name
  simp [startD, sizeLine_eq]
  exact hQ
theorem held_spec {μ : List Cell} {x : T} {Q : Out Ret → List Cell → Prop} (hQ : Q (.ok (.val (.t (.lst (List.replicate 20 x))))) μ) : Fw F__law_held [.t (.lst (errs x))] μ Q := by
  refine Fw_run ?_
  unfold s__law_held
  simp [startD, sizeLine_eq]
  rw [Wp_ixT (x := T.exo "BadWeb" [("index", x)]) rfl]
  simp
  rw [Wp_xvR (t := x) (by decide +kernel) rfl]
  simp
  rw [Wp_ixT (x := T.exo "UnknownCell" [("cell", x)]) rfl]
  simp
  rw [Wp_xvR (t := x) (by decide +kernel) rfl]
  simp
  rw [Wp_ixT (x := T.exo "BadProgram" [("index", x)]) rfl]
  simp
  rw [Wp_xvR (t := x) (by decide +kernel) rfl]
  simp
  rw [Wp_ixT (x := T.exo "BadNumber" [("number", x)]) rfl]
  simp
  rw [Wp_xvR (t := x) (by decide +kernel) rfl]
  simp
  rw [Wp_ixT (x := T.exo "BadRules" [("cell", x)]) rfl]
  simp
  rw [Wp_xvR (t := x) (by decide +kernel) rfl]
  simp
  rw [Wp_ixT (x := T.exo "BadWorth" [("cell", x)]) rfl]
  simp
  rw [Wp_xvR (t := x) (by decide +kernel) rfl]
  simp
  rw [Wp_ixT (x := T.exo "BadName" [("name", x)]) rfl]
  simp
  rw [Wp_xvR (t := x) (by decide +kernel) rfl]
  simp
  rw [Wp_ixT (x := T.exo "Held" [("name", x)]) rfl]
  simp
  rw [Wp_xvR (t := x) (by decide +kernel) rfl]
  simp
  rw [Wp_ixT (x := T.exo "NotHeld" [("name", x)]) rfl]
  simp
  rw [Wp_xvR (t := x) (by decide +kernel) rfl]
  simp
  rw [Wp_ixT (x := T.exo "BadDeed" [("deed", x)]) rfl]
  simp
  rw [Wp_xvR (t := x) (by decide +kernel) rfl]
  simp
  rw [Wp_ixT (x := T.exo "Taken" [("name", x)]) rfl]
  simp
  rw [Wp_xvR (t := x) (by decide +kernel) rfl]
  simp
  rw [Wp_ixT (x := T.exo "Used" [("cell", x)]) rfl]
  simp
  rw [Wp_xvR (t := x) (by decide +kernel) rfl]
  simp
  rw [Wp_ixT (x := T.exo "Ringed" [("ring", x)]) rfl]
  simp
  rw [Wp_xvR (t := x) (by decide +kernel) rfl]
  simp
  rw [Wp_ixT (x := T.exo "TooFew" [("number", x)]) rfl]
  simp
  rw [Wp_xvR (t := x) (by decide +kernel) rfl]
  simp
  rw [Wp_ixT (x := T.exo "MarkRing" [("arrows", x)]) rfl]
  simp
  rw [Wp_xvR (t := x) (by decide +kernel) rfl]
  simp
  rw [Wp_ixT (x := T.exo "NoSuch" [("number", x)]) rfl]
  simp
  rw [Wp_xvR (t := x) (by decide +kernel) rfl]
  simp
  rw [Wp_ixT (x := T.exo "BadActs" [("index", x)]) rfl]
  simp
  rw [Wp_xvR (t := x) (by decide +kernel) rfl]
  simp
  rw [Wp_ixT (x := T.exo "NoLot" [("index", x)]) rfl]
  simp
  rw [Wp_xvR (t := x) (by decide +kernel) rfl]
  simp
  rw [Wp_ixT (x := T.exo "BadArrow" [("index", x)]) rfl]
  simp
  rw [Wp_xvR (t := x) (by decide +kernel) rfl]
  simp
  rw [Wp_ixT (x := T.exo "BadText" [("line", x)]) rfl]
  simp
  rw [Wp_xvR (t := x) (by decide +kernel) rfl]
  simp
  simp [sizeLine_eq]
  exact hQ
def erro : List T := [.exo "NoDeed" [], .exo "BadTable" [], .exo "NotSweep" [], .exo "BadMarks" [], .exo "Unlike" [], .exo "BadCells" [], .exo "BadPiece" [], .exo "BadWave" []]
theorem others_spec {μ : List Cell} {Q : Out Ret → List Cell → Prop} (hQ : Q (.ok (.val (.t (.lst erro)))) μ) : Fw F__law_others [] μ Q := by
  refine Fw_run ?_
  unfold s__law_others
  simp [startD, sizeLine_eq]
  exact hQ
def nm28 : List Str := ["BadWeb", "UnknownCell", "BadProgram", "BadNumber", "BadRules", "BadWorth", "BadName", "Held", "NotHeld", "BadDeed", "Taken", "Used", "Ringed", "TooFew", "MarkRing", "NoSuch", "BadActs", "NoLot", "BadArrow", "BadText", "NoDeed", "BadTable", "NotSweep", "BadMarks", "Unlike", "BadCells", "BadPiece", "BadWave"]
def bx (c D : Str) : Bool := decide (c = D ∨ D = "LotError")
theorem tbx_bx {c : Str} (hc : c ∈ xs01) (D : Str) : tbx xs01 D c = some (bx c D) := by
  unfold tbx bx
  rw [if_pos hc]
theorem classes_spec {μ : List Cell} {c : Str} {fs : List (Str × T)} {Q : Out Ret → List Cell → Prop} (hc : c ∈ xs01) (hQ : Q (.ok (.val (.t (.lst (nm28.map fun D => T.bl (bx c D)))))) μ) : Fw F__law_classes [.t (.exo c fs)] μ Q := by
  have h := tbx_bx hc
  refine Fw_run ?_
  unfold s__law_classes
  simp [startD]
  rw [Wp_isX (h "BadWeb")]
  simp
  rw [Wp_isX (h "UnknownCell")]
  simp
  rw [Wp_isX (h "BadProgram")]
  simp
  rw [Wp_isX (h "BadNumber")]
  simp
  rw [Wp_isX (h "BadRules")]
  simp
  rw [Wp_isX (h "BadWorth")]
  simp
  rw [Wp_isX (h "BadName")]
  simp
  rw [Wp_isX (h "Held")]
  simp
  rw [Wp_isX (h "NotHeld")]
  simp
  rw [Wp_isX (h "BadDeed")]
  simp
  rw [Wp_isX (h "Taken")]
  simp
  rw [Wp_isX (h "Used")]
  simp
  rw [Wp_isX (h "Ringed")]
  simp
  rw [Wp_isX (h "TooFew")]
  simp
  rw [Wp_isX (h "MarkRing")]
  simp
  rw [Wp_isX (h "NoSuch")]
  simp
  rw [Wp_isX (h "BadActs")]
  simp
  rw [Wp_isX (h "NoLot")]
  simp
  rw [Wp_isX (h "BadArrow")]
  simp
  rw [Wp_isX (h "BadText")]
  simp
  rw [Wp_isX (h "NoDeed")]
  simp
  rw [Wp_isX (h "BadTable")]
  simp
  rw [Wp_isX (h "NotSweep")]
  simp
  rw [Wp_isX (h "BadMarks")]
  simp
  rw [Wp_isX (h "Unlike")]
  simp
  rw [Wp_isX (h "BadCells")]
  simp
  rw [Wp_isX (h "BadPiece")]
  simp
  rw [Wp_isX (h "BadWave")]
  simp
  simp [sizeLine_eq]
  exact hQ
theorem Wp_up {a b : Val} {s s' : DSt} {o : Out Val} (h : ∀ Q : Out Val → DSt → Prop, Wp (dEq false a b) s Q = Q o s') (Q : Out Val → DSt → Prop) : Wp (dEqN false a b) s Q = Q o s' := by
  have h1 : Wp (dEq false a b) s fun o2 s2 => o2 = o ∧ s2 = s' := by rw [h]; exact ⟨rfl, rfl⟩
  obtain ⟨o2, s2, e, rfl, rfl⟩ := h1
  exact Wp_some (by simp only [dEqN, e])
theorem eq_self {x : T} (hx : x ∈ things) (s : DSt) (Q : Out Val → DSt → Prop) : Wp (dEqN false (.t x) (.t x)) s Q = Q (.ok (.t (.bl true))) s := by
  unfold things at hx
  simp only [List.mem_cons, List.not_mem_nil, or_false] at hx
  rcases hx with rfl | rfl | rfl | rfl | rfl | rfl | rfl | rfl | rfl | rfl | rfl | rfl
  all_goals first
    | exact Wp_some rfl
    | (refine Wp_up (fun Q => ?_) Q
       rw [Wp_eqR false (k := 3) (by
         first
           | exact pk_str (by decide +kernel)
           | exact (pk_tup (k := 0) fun y hy => by
               simp only [List.mem_cons, List.not_mem_nil, or_false] at hy
               rcases hy with rfl | rfl
               · exact pk_str (by decide +kernel)
               · exact pk_int _).mono (by omega)
           | exact (pk_lst (k := 1) fun y hy => by
               simp only [List.mem_cons, List.not_mem_nil, or_false] at hy
               rcases hy with rfl | rfl
               · exact pk_str (by decide +kernel)
               · exact pk_lst (k := 0) fun z hz => by
                   rw [List.mem_singleton.mp hz]
                   exact pk_int _).mono (by omega)) (by omega)]
       simp)
theorem same_spec {μ : List Cell} {x : T} {Q : Out Ret → List Cell → Prop} (hx : x ∈ things) (hQ : Q (.ok (.val (.t (.bl true)))) μ) : Fw F__law_is_same [.t x, .t x] μ Q := by
  refine Fw_run ?_
  unfold s__law_is_same
  simp [startD]
  rw [eq_self hx]
  simp
  have hb : ∃ b : Bool, ∀ (s : DSt) (K : Out Val → DSt → Prop), Wp (dIsi ["bool"] (.t x)) s K = K (.ok (.t (.bl b))) s := by
    unfold things at hx
    simp only [List.mem_cons, List.not_mem_nil, or_false] at hx
    rcases hx with rfl | rfl | rfl | rfl | rfl | rfl | rfl | rfl | rfl | rfl | rfl | rfl
    all_goals exact ⟨_, fun s K => Wp_isi rfl K⟩
  obtain ⟨b, hb⟩ := hb
  rw [hb]
  simp
  rw [hb]
  simp
  exact hQ
end G01
namespace G01
open PySem PySem.Spec L2 Lf
def TrueQ : Out Ret → List Cell → Prop := fun o _ => o = .ok (.val (.t (.bl true)))
def all28 (x : T) : List T := errs x ++ erro
theorem all_at (x : T) (i : Nat) (h : i < 28) : ∃ c fs, (all28 x)[i]? = some (.exo c fs) ∧ nm28[i]? = some c ∧ c ∈ xs01 := by
  have hx : ∀ i, i < 28 → ∃ c, nm28[i]? = some c ∧ c ∈ xs01 := by decide +kernel
  obtain ⟨c, h1, h2⟩ := hx i h
  have e : (all28 x)[i]? = (all28 x)[i]? := rfl
  have h28 : (all28 x).map (fun t => match t with | .exo c _ => c | _ => "") = nm28 := rfl
  have hl : i < (all28 x).length := h
  have hex : ∀ t ∈ all28 x, ∃ c fs, t = T.exo c fs := by
    intro t ht
    simp only [all28, errs, erro, List.mem_append, List.mem_cons, List.not_mem_nil, or_false] at ht
    rcases ht with (rfl | rfl | rfl | rfl | rfl | rfl | rfl | rfl | rfl | rfl | rfl | rfl | rfl | rfl | rfl | rfl | rfl | rfl | rfl | rfl) | rfl | rfl | rfl | rfl | rfl | rfl | rfl | rfl
    all_goals exact ⟨_, _, rfl⟩
  obtain ⟨c', fs, e2⟩ := hex _ (List.getElem_mem hl)
  have e3 : (all28 x)[i]? = some (.exo c' fs) := by rw [List.getElem?_eq_getElem hl, e2]
  have e4 : nm28[i]? = some c' := by
    rw [← h28, List.getElem?_map, e3]
    rfl
  rw [h1] at e4
  cases e4
  exact ⟨_, fs, e3, h1, h2⟩
theorem bx_at : ∀ i, i < 28 → ∀ c, nm28[i]? = some c → (nm28.map fun D => bx c D) = (List.range 28).map fun j => decide (j = i) := by
  have h : ∀ i, i < 28 → (nm28[i]?).all (fun c => decide ((nm28.map fun D => bx c D) = (List.range 28).map fun j => decide (j = i))) = true := by decide +kernel
  intro i hi c hc
  have := h i hi
  rw [hc] at this
  simpa using this
def stX (ns : List Int) (x5 : Option Lf.Slot) (x6 x7 x8 x9 : Option Lf.Slot) (μ : List Cell) : DSt := ⟨[some (.t (.fro (ns.map T.int))), none, none, none, none, x5, x6, x7, x8, x9, none, none], μ⟩
theorem bls_pk (l : List Bool) : Pk 1 (.lst (l.map T.bl)) := pk_lst (k := 0) fun y hy => by
  obtain ⟨b, _, rfl⟩ := List.mem_map.mp hy
  exact pk_bl _
theorem law_fw (ns : List Int) : Fw F_law [.t (.fro (ns.map T.int))] [] TrueQ := by
  refine Fw_run ?_
  unfold s_law
  simp [startD]
  rw [show (3 : Int) = ((3 : Nat) : Int) from rfl, Wp_rngN (by omega)]
  simp only [Bk_ok]
  refine Wp_forM (List.range 3) (fun t : Nat => Val.t (.int (t : Int))) (fun _ _ s => ∃ μ, s = ⟨[some (.t (.fro (ns.map T.int))), none, none, none, none, none, none, none, none, none, none, none], μ⟩) ⟨[], rfl⟩ ?_ ?_ (fun _ _ _ _ => rfl) rfl
  · rintro pre t rest s el ⟨μ0, rfl⟩
    simp
    refine cell_spec ns t fun z => ?_
    simp
    refine pool_spec _ fun a b ha hb hb2 => ?_
    simp [Own.cell]
    have hP : PoolAt μ0.length 0 (μ0 ++ [poolC a b 0]) := ⟨a, b, 0, by simp, ha, hb, hb2, by decide, by decide⟩
    refine thing_spec hP (by omega) fun x hx μ1 h1 => ?_
    simp
    refine thing_spec h1 (by omega) fun y hy μ2 h2 => ?_
    simp
    refine by_place_spec ?_
    simp [sizeLine_eq]
    refine by_place_spec ?_
    simp [sizeLine_eq]
    refine by_name_spec ?_
    simp [sizeLine_eq]
    generalize h5 : (T.lst [T.tup [T.lst (errs x), x], T.tup [T.lst (errs y), y], T.tup [T.lst (errs x), x]]) = made
    refine Wp_forM [x, y, x] (fun u => Val.t (.tup [.lst (errs u), u])) (fun _ _ s => s = stX ns (some (.t made)) none none none none μ2) rfl ?_ ?_ (fun _ _ _ _ => rfl) rfl
    · rintro pr u rs s er rfl
      have hu : u ∈ things := by
        have : u ∈ [x, y, x] := by rw [er]; simp
        simp only [List.mem_cons, List.not_mem_nil, or_false] at this
        rcases this with rfl | rfl | rfl
        · exact hx
        · exact hy
        · exact hx
      simp [stX]
      refine held_spec ?_
      simp
      refine Wp_compA [u, u, u, u, u, u, u, u, u, u, u, u, u, u, u, u, u, u, u, u] Val.t (fun _ => T.bl true) rfl rfl rfl (by simp [sizeLine_eq]) rfl ?_ ?_
      · intro v hv acc hacc
        have hv : v = u := by simpa using hv
        subst hv
        simp [wipeD]
        refine same_spec hu ?_
        simp [wipeD]
        exact hacc
      · simp
        have h20 : ∀ (s : DSt) (Q : Out Val → DSt → Prop), Wp (dAll [.t (.lst [T.bl true, T.bl true, T.bl true, T.bl true, T.bl true, T.bl true, T.bl true, T.bl true, T.bl true, T.bl true, T.bl true, T.bl true, T.bl true, T.bl true, T.bl true, T.bl true, T.bl true, T.bl true, T.bl true, T.bl true])]) s Q = Q (.ok (.t (.bl true))) s := fun s Q => Wp_some rfl
        rw [h20]
        simp
        refine others_spec ?_
        simp [sizeLine_eq]
        have hlen : (errs u).length + erro.length = 28 := rfl
        refine ⟨by rw [hlen]; omega, ?_⟩
        have h28 : ((errs u).length : Int) + (erro.length : Int) = ((28 : Nat) : Int) := rfl
        rw [h28, Wp_rngN (by omega)]
        simp only [Bk_ok]
        refine Wp_forM (List.range 28) (fun t : Nat => Val.t (.int (t : Int))) (fun _ _ s => s = stX ns (some (.t made)) none none (some (.t (.lst (errs u ++ erro)))) none μ2) rfl ?_ ?_ (fun _ _ _ _ => rfl) rfl
        · rintro p2 i r2 s2 e2 rfl
          have hi : i < 28 := by
            have : i ∈ List.range 28 := by rw [e2]; simp
            simpa using this
          obtain ⟨c, fs, hg, hn, hc⟩ := all_at u i hi
          have hx9 : ∀ (s : DSt) (Q : Out Val → DSt → Prop), Wp (dIx (.t (.lst (errs u ++ erro))) (.t (.int (i : Int)))) s Q = Q (.ok (.t (.exo c fs))) s := fun s Q => Wp_ixT (Lf.atI_nat (i := i) hg) s Q
          have hv : tbv xs01 c = some true := by
            unfold tbv
            rw [if_pos hc]
          simp [stX]
          rw [hx9]
          simp
          rw [Wp_isX (tbx_bx hc "LotError")]
          simp [bx]
          rw [hx9]
          simp
          rw [Wp_isX hv]
          simp
          rw [hx9]
          simp
          refine classes_spec hc ?_
          simp
          rw [show (28 : Int) = ((28 : Nat) : Int) from rfl, Wp_rngN (by omega)]
          simp only [Bk_ok]
          refine Wp_compA (List.range 28) (fun t : Nat => Val.t (.int (t : Int))) (fun j => T.bl (decide (j = i))) rfl rfl rfl (by simp [sizeLine_eq]) rfl ?_ ?_
          · intro j hj acc hacc
            simp [wipeD]
            refine ⟨hacc, ?_⟩
            rw [Bool.eq_iff_iff]
            simp
            omega
          · simp
            have hb : (nm28.map fun D => T.bl (bx c D)) = ((List.range 28).map fun j => decide (j = i)).map T.bl := by
              rw [← bx_at i hi c hn, List.map_map]
              rfl
            have hb2 : ((List.range 28).map fun j => T.bl (decide (j = i))) = ((List.range 28).map fun j => decide (j = i)).map T.bl := by
              rw [List.map_map]
              rfl
            rw [hb, hb2, Wp_eqR true (bls_pk _) (by omega)]
            simp
        · rintro s rfl
          simp [stX]
    · rintro s rfl
      simp [stX]
  · rintro s ⟨μ, rfl⟩
    simp
    have hL : ("LotError" : Str) ∈ xs01 := by decide +kernel
    have hv : tbv xs01 "LotError" = some true := by
      unfold tbv
      rw [if_pos hL]
    rw [Wp_isX hv]
    simp
    refine classes_spec hL ?_
    have hn : ∀ (s : DSt) (Q : Out Val → DSt → Prop), Wp (dAny [.t (.lst (nm28.map fun D => T.bl (bx "LotError" D)))]) s Q = Q (.ok (.t (.bl false))) s := fun s Q => by
      rw [Wp_anyM, show (nm28.any fun D => bx "LotError" D) = false by decide +kernel]
    simp
    rw [hn]
    simp
    exact ⟨_, trunc_old rfl, rfl⟩
theorem law_true (ns : List Int) (_ : ns.length ≤ 63) : ∃ m, F_law [.t (.fro (ns.map T.int))] [] = some (.ok (.val (.t (.bl true))), m) := by
  obtain ⟨o, m, e, q⟩ := law_fw ns
  rw [show o = .ok (.val (.t (.bl true))) from q] at e
  exact ⟨m, e⟩
end G01
namespace G01
open PySem PySem.Spec L2 Lf
structure Tx (K : PySem.W.Frag) (mg : Str → Option Value) where
  a__law_pool : Addr
  d__law_pool : FuncData
  f__law_pool : Fun K "_law_pool" "_law_pool" st__law_pool a__law_pool d__law_pool
  b__law_pool : Binds K d__law_pool ["_law_grain"] []
  m__law_pool : mg "_law_pool" = some (.ref a__law_pool)
  a__law_cell : Addr
  d__law_cell : FuncData
  f__law_cell : Fun K "_law_cell" "_law_cell" st__law_cell a__law_cell d__law_cell
  b__law_cell : Binds K d__law_cell ["_law_script", "_law_k"] []
  m__law_cell : mg "_law_cell" = some (.ref a__law_cell)
  a__law_take : Addr
  d__law_take : FuncData
  f__law_take : Fun K "_law_take" "_law_take" st__law_take a__law_take d__law_take
  b__law_take : Binds K d__law_take ["_law_pool_here", "_law_many"] []
  m__law_take : mg "_law_take" = some (.ref a__law_take)
  a__law_thing : Addr
  d__law_thing : FuncData
  f__law_thing : Fun K "_law_thing" "_law_thing" st__law_thing a__law_thing d__law_thing
  b__law_thing : Binds K d__law_thing ["_law_pool_here"] []
  m__law_thing : mg "_law_thing" = some (.ref a__law_thing)
  a__law_by_name : Addr
  d__law_by_name : FuncData
  f__law_by_name : Fun K "_law_by_name" "_law_by_name" st__law_by_name a__law_by_name d__law_by_name
  b__law_by_name : Binds K d__law_by_name ["_law_x"] []
  m__law_by_name : mg "_law_by_name" = some (.ref a__law_by_name)
  a__law_by_place : Addr
  d__law_by_place : FuncData
  f__law_by_place : Fun K "_law_by_place" "_law_by_place" st__law_by_place a__law_by_place d__law_by_place
  b__law_by_place : Binds K d__law_by_place ["_law_x"] []
  m__law_by_place : mg "_law_by_place" = some (.ref a__law_by_place)
  a__law_held : Addr
  d__law_held : FuncData
  f__law_held : Fun K "_law_held" "_law_held" st__law_held a__law_held d__law_held
  b__law_held : Binds K d__law_held ["_law_e"] []
  m__law_held : mg "_law_held" = some (.ref a__law_held)
  a__law_is_same : Addr
  d__law_is_same : FuncData
  f__law_is_same : Fun K "_law_is_same" "_law_is_same" st__law_is_same a__law_is_same d__law_is_same
  b__law_is_same : Binds K d__law_is_same ["_law_one", "_law_other"] []
  m__law_is_same : mg "_law_is_same" = some (.ref a__law_is_same)
  a__law_others : Addr
  d__law_others : FuncData
  f__law_others : Fun K "_law_others" "_law_others" st__law_others a__law_others d__law_others
  b__law_others : Binds K d__law_others [] []
  m__law_others : mg "_law_others" = some (.ref a__law_others)
  a__law_classes : Addr
  d__law_classes : FuncData
  f__law_classes : Fun K "_law_classes" "_law_classes" st__law_classes a__law_classes d__law_classes
  b__law_classes : Binds K d__law_classes ["_law_e"] []
  m__law_classes : mg "_law_classes" = some (.ref a__law_classes)
  a_law : Addr
  d_law : FuncData
  f_law : Fun K "law" "law" st_law a_law d_law
  b_law : Binds K d_law ["_law_script"] []
  m_law : mg "law" = some (.ref a_law)
  a_LotError : Addr
  m_LotError : mg "LotError" = some (.ref a_LotError)
  B_LotError : baseB K a_LotError = true
  a_BadWeb : Addr
  m_BadWeb : mg "BadWeb" = some (.ref a_BadWeb)
  o_BadWeb : OexC K a_BadWeb
  n_BadWeb : PySem.W.findIn K (.ref a_BadWeb) "index" = some none
  w_BadWeb : XfC K a_BadWeb
  a_BadWeb_init : Addr
  d_BadWeb_init : FuncData
  f_BadWeb_init : Fun K "__init__" "BadWeb.__init__" st_BadWeb_init a_BadWeb_init d_BadWeb_init
  b_BadWeb_init : Binds K d_BadWeb_init ["self", "index"] []
  i_BadWeb : PySem.W.findIn K (.ref a_BadWeb) "__init__" = some (some (.ref a_BadWeb_init))
  y_BadWeb : PySem.W.typeIn K (.ref a_BadWeb_init) = some (.type "function")
  a_UnknownCell : Addr
  m_UnknownCell : mg "UnknownCell" = some (.ref a_UnknownCell)
  o_UnknownCell : OexC K a_UnknownCell
  n_UnknownCell : PySem.W.findIn K (.ref a_UnknownCell) "cell" = some none
  w_UnknownCell : XfC K a_UnknownCell
  a_UnknownCell_init : Addr
  d_UnknownCell_init : FuncData
  f_UnknownCell_init : Fun K "__init__" "UnknownCell.__init__" st_UnknownCell_init a_UnknownCell_init d_UnknownCell_init
  b_UnknownCell_init : Binds K d_UnknownCell_init ["self", "cell"] []
  i_UnknownCell : PySem.W.findIn K (.ref a_UnknownCell) "__init__" = some (some (.ref a_UnknownCell_init))
  y_UnknownCell : PySem.W.typeIn K (.ref a_UnknownCell_init) = some (.type "function")
  a_BadProgram : Addr
  m_BadProgram : mg "BadProgram" = some (.ref a_BadProgram)
  o_BadProgram : OexC K a_BadProgram
  n_BadProgram : PySem.W.findIn K (.ref a_BadProgram) "index" = some none
  w_BadProgram : XfC K a_BadProgram
  a_BadProgram_init : Addr
  d_BadProgram_init : FuncData
  f_BadProgram_init : Fun K "__init__" "BadProgram.__init__" st_BadProgram_init a_BadProgram_init d_BadProgram_init
  b_BadProgram_init : Binds K d_BadProgram_init ["self", "index"] []
  i_BadProgram : PySem.W.findIn K (.ref a_BadProgram) "__init__" = some (some (.ref a_BadProgram_init))
  y_BadProgram : PySem.W.typeIn K (.ref a_BadProgram_init) = some (.type "function")
  a_BadNumber : Addr
  m_BadNumber : mg "BadNumber" = some (.ref a_BadNumber)
  o_BadNumber : OexC K a_BadNumber
  n_BadNumber : PySem.W.findIn K (.ref a_BadNumber) "number" = some none
  w_BadNumber : XfC K a_BadNumber
  a_BadNumber_init : Addr
  d_BadNumber_init : FuncData
  f_BadNumber_init : Fun K "__init__" "BadNumber.__init__" st_BadNumber_init a_BadNumber_init d_BadNumber_init
  b_BadNumber_init : Binds K d_BadNumber_init ["self", "number"] []
  i_BadNumber : PySem.W.findIn K (.ref a_BadNumber) "__init__" = some (some (.ref a_BadNumber_init))
  y_BadNumber : PySem.W.typeIn K (.ref a_BadNumber_init) = some (.type "function")
  a_BadRules : Addr
  m_BadRules : mg "BadRules" = some (.ref a_BadRules)
  o_BadRules : OexC K a_BadRules
  n_BadRules : PySem.W.findIn K (.ref a_BadRules) "cell" = some none
  w_BadRules : XfC K a_BadRules
  a_BadRules_init : Addr
  d_BadRules_init : FuncData
  f_BadRules_init : Fun K "__init__" "BadRules.__init__" st_BadRules_init a_BadRules_init d_BadRules_init
  b_BadRules_init : Binds K d_BadRules_init ["self", "cell"] []
  i_BadRules : PySem.W.findIn K (.ref a_BadRules) "__init__" = some (some (.ref a_BadRules_init))
  y_BadRules : PySem.W.typeIn K (.ref a_BadRules_init) = some (.type "function")
  a_BadWorth : Addr
  m_BadWorth : mg "BadWorth" = some (.ref a_BadWorth)
  o_BadWorth : OexC K a_BadWorth
  n_BadWorth : PySem.W.findIn K (.ref a_BadWorth) "cell" = some none
  w_BadWorth : XfC K a_BadWorth
  a_BadWorth_init : Addr
  d_BadWorth_init : FuncData
  f_BadWorth_init : Fun K "__init__" "BadWorth.__init__" st_BadWorth_init a_BadWorth_init d_BadWorth_init
  b_BadWorth_init : Binds K d_BadWorth_init ["self", "cell"] []
  i_BadWorth : PySem.W.findIn K (.ref a_BadWorth) "__init__" = some (some (.ref a_BadWorth_init))
  y_BadWorth : PySem.W.typeIn K (.ref a_BadWorth_init) = some (.type "function")
  a_BadName : Addr
  m_BadName : mg "BadName" = some (.ref a_BadName)
  o_BadName : OexC K a_BadName
  n_BadName : PySem.W.findIn K (.ref a_BadName) "name" = some none
  w_BadName : XfC K a_BadName
  a_BadName_init : Addr
  d_BadName_init : FuncData
  f_BadName_init : Fun K "__init__" "BadName.__init__" st_BadName_init a_BadName_init d_BadName_init
  b_BadName_init : Binds K d_BadName_init ["self", "name"] []
  i_BadName : PySem.W.findIn K (.ref a_BadName) "__init__" = some (some (.ref a_BadName_init))
  y_BadName : PySem.W.typeIn K (.ref a_BadName_init) = some (.type "function")
  a_Held : Addr
  m_Held : mg "Held" = some (.ref a_Held)
  o_Held : OexC K a_Held
  n_Held : PySem.W.findIn K (.ref a_Held) "name" = some none
  w_Held : XfC K a_Held
  a_Held_init : Addr
  d_Held_init : FuncData
  f_Held_init : Fun K "__init__" "Held.__init__" st_Held_init a_Held_init d_Held_init
  b_Held_init : Binds K d_Held_init ["self", "name"] []
  i_Held : PySem.W.findIn K (.ref a_Held) "__init__" = some (some (.ref a_Held_init))
  y_Held : PySem.W.typeIn K (.ref a_Held_init) = some (.type "function")
  a_NotHeld : Addr
  m_NotHeld : mg "NotHeld" = some (.ref a_NotHeld)
  o_NotHeld : OexC K a_NotHeld
  n_NotHeld : PySem.W.findIn K (.ref a_NotHeld) "name" = some none
  w_NotHeld : XfC K a_NotHeld
  a_NotHeld_init : Addr
  d_NotHeld_init : FuncData
  f_NotHeld_init : Fun K "__init__" "NotHeld.__init__" st_NotHeld_init a_NotHeld_init d_NotHeld_init
  b_NotHeld_init : Binds K d_NotHeld_init ["self", "name"] []
  i_NotHeld : PySem.W.findIn K (.ref a_NotHeld) "__init__" = some (some (.ref a_NotHeld_init))
  y_NotHeld : PySem.W.typeIn K (.ref a_NotHeld_init) = some (.type "function")
  a_BadDeed : Addr
  m_BadDeed : mg "BadDeed" = some (.ref a_BadDeed)
  o_BadDeed : OexC K a_BadDeed
  n_BadDeed : PySem.W.findIn K (.ref a_BadDeed) "deed" = some none
  w_BadDeed : XfC K a_BadDeed
  a_BadDeed_init : Addr
  d_BadDeed_init : FuncData
  f_BadDeed_init : Fun K "__init__" "BadDeed.__init__" st_BadDeed_init a_BadDeed_init d_BadDeed_init
  b_BadDeed_init : Binds K d_BadDeed_init ["self", "deed"] []
  i_BadDeed : PySem.W.findIn K (.ref a_BadDeed) "__init__" = some (some (.ref a_BadDeed_init))
  y_BadDeed : PySem.W.typeIn K (.ref a_BadDeed_init) = some (.type "function")
  a_Taken : Addr
  m_Taken : mg "Taken" = some (.ref a_Taken)
  o_Taken : OexC K a_Taken
  n_Taken : PySem.W.findIn K (.ref a_Taken) "name" = some none
  w_Taken : XfC K a_Taken
  a_Taken_init : Addr
  d_Taken_init : FuncData
  f_Taken_init : Fun K "__init__" "Taken.__init__" st_Taken_init a_Taken_init d_Taken_init
  b_Taken_init : Binds K d_Taken_init ["self", "name"] []
  i_Taken : PySem.W.findIn K (.ref a_Taken) "__init__" = some (some (.ref a_Taken_init))
  y_Taken : PySem.W.typeIn K (.ref a_Taken_init) = some (.type "function")
  a_Used : Addr
  m_Used : mg "Used" = some (.ref a_Used)
  o_Used : OexC K a_Used
  n_Used : PySem.W.findIn K (.ref a_Used) "cell" = some none
  w_Used : XfC K a_Used
  a_Used_init : Addr
  d_Used_init : FuncData
  f_Used_init : Fun K "__init__" "Used.__init__" st_Used_init a_Used_init d_Used_init
  b_Used_init : Binds K d_Used_init ["self", "cell"] []
  i_Used : PySem.W.findIn K (.ref a_Used) "__init__" = some (some (.ref a_Used_init))
  y_Used : PySem.W.typeIn K (.ref a_Used_init) = some (.type "function")
  a_NoDeed : Addr
  m_NoDeed : mg "NoDeed" = some (.ref a_NoDeed)
  o_NoDeed : OexC K a_NoDeed
  a_NoDeed_init : Addr
  d_NoDeed_init : FuncData
  f_NoDeed_init : Fun K "__init__" "NoDeed.__init__" st_NoDeed_init a_NoDeed_init d_NoDeed_init
  b_NoDeed_init : Binds K d_NoDeed_init ["self"] []
  i_NoDeed : PySem.W.findIn K (.ref a_NoDeed) "__init__" = some (some (.ref a_NoDeed_init))
  y_NoDeed : PySem.W.typeIn K (.ref a_NoDeed_init) = some (.type "function")
  a_BadTable : Addr
  m_BadTable : mg "BadTable" = some (.ref a_BadTable)
  o_BadTable : OexC K a_BadTable
  a_BadTable_init : Addr
  d_BadTable_init : FuncData
  f_BadTable_init : Fun K "__init__" "BadTable.__init__" st_BadTable_init a_BadTable_init d_BadTable_init
  b_BadTable_init : Binds K d_BadTable_init ["self"] []
  i_BadTable : PySem.W.findIn K (.ref a_BadTable) "__init__" = some (some (.ref a_BadTable_init))
  y_BadTable : PySem.W.typeIn K (.ref a_BadTable_init) = some (.type "function")
  a_Ringed : Addr
  m_Ringed : mg "Ringed" = some (.ref a_Ringed)
  o_Ringed : OexC K a_Ringed
  n_Ringed : PySem.W.findIn K (.ref a_Ringed) "ring" = some none
  w_Ringed : XfC K a_Ringed
  a_Ringed_init : Addr
  d_Ringed_init : FuncData
  f_Ringed_init : Fun K "__init__" "Ringed.__init__" st_Ringed_init a_Ringed_init d_Ringed_init
  b_Ringed_init : Binds K d_Ringed_init ["self", "ring"] []
  i_Ringed : PySem.W.findIn K (.ref a_Ringed) "__init__" = some (some (.ref a_Ringed_init))
  y_Ringed : PySem.W.typeIn K (.ref a_Ringed_init) = some (.type "function")
  a_TooFew : Addr
  m_TooFew : mg "TooFew" = some (.ref a_TooFew)
  o_TooFew : OexC K a_TooFew
  n_TooFew : PySem.W.findIn K (.ref a_TooFew) "number" = some none
  w_TooFew : XfC K a_TooFew
  a_TooFew_init : Addr
  d_TooFew_init : FuncData
  f_TooFew_init : Fun K "__init__" "TooFew.__init__" st_TooFew_init a_TooFew_init d_TooFew_init
  b_TooFew_init : Binds K d_TooFew_init ["self", "number"] []
  i_TooFew : PySem.W.findIn K (.ref a_TooFew) "__init__" = some (some (.ref a_TooFew_init))
  y_TooFew : PySem.W.typeIn K (.ref a_TooFew_init) = some (.type "function")
  a_NotSweep : Addr
  m_NotSweep : mg "NotSweep" = some (.ref a_NotSweep)
  o_NotSweep : OexC K a_NotSweep
  a_NotSweep_init : Addr
  d_NotSweep_init : FuncData
  f_NotSweep_init : Fun K "__init__" "NotSweep.__init__" st_NotSweep_init a_NotSweep_init d_NotSweep_init
  b_NotSweep_init : Binds K d_NotSweep_init ["self"] []
  i_NotSweep : PySem.W.findIn K (.ref a_NotSweep) "__init__" = some (some (.ref a_NotSweep_init))
  y_NotSweep : PySem.W.typeIn K (.ref a_NotSweep_init) = some (.type "function")
  a_BadMarks : Addr
  m_BadMarks : mg "BadMarks" = some (.ref a_BadMarks)
  o_BadMarks : OexC K a_BadMarks
  a_BadMarks_init : Addr
  d_BadMarks_init : FuncData
  f_BadMarks_init : Fun K "__init__" "BadMarks.__init__" st_BadMarks_init a_BadMarks_init d_BadMarks_init
  b_BadMarks_init : Binds K d_BadMarks_init ["self"] []
  i_BadMarks : PySem.W.findIn K (.ref a_BadMarks) "__init__" = some (some (.ref a_BadMarks_init))
  y_BadMarks : PySem.W.typeIn K (.ref a_BadMarks_init) = some (.type "function")
  a_MarkRing : Addr
  m_MarkRing : mg "MarkRing" = some (.ref a_MarkRing)
  o_MarkRing : OexC K a_MarkRing
  n_MarkRing : PySem.W.findIn K (.ref a_MarkRing) "arrows" = some none
  w_MarkRing : XfC K a_MarkRing
  a_MarkRing_init : Addr
  d_MarkRing_init : FuncData
  f_MarkRing_init : Fun K "__init__" "MarkRing.__init__" st_MarkRing_init a_MarkRing_init d_MarkRing_init
  b_MarkRing_init : Binds K d_MarkRing_init ["self", "arrows"] []
  i_MarkRing : PySem.W.findIn K (.ref a_MarkRing) "__init__" = some (some (.ref a_MarkRing_init))
  y_MarkRing : PySem.W.typeIn K (.ref a_MarkRing_init) = some (.type "function")
  a_NoSuch : Addr
  m_NoSuch : mg "NoSuch" = some (.ref a_NoSuch)
  o_NoSuch : OexC K a_NoSuch
  n_NoSuch : PySem.W.findIn K (.ref a_NoSuch) "number" = some none
  w_NoSuch : XfC K a_NoSuch
  a_NoSuch_init : Addr
  d_NoSuch_init : FuncData
  f_NoSuch_init : Fun K "__init__" "NoSuch.__init__" st_NoSuch_init a_NoSuch_init d_NoSuch_init
  b_NoSuch_init : Binds K d_NoSuch_init ["self", "number"] []
  i_NoSuch : PySem.W.findIn K (.ref a_NoSuch) "__init__" = some (some (.ref a_NoSuch_init))
  y_NoSuch : PySem.W.typeIn K (.ref a_NoSuch_init) = some (.type "function")
  a_Unlike : Addr
  m_Unlike : mg "Unlike" = some (.ref a_Unlike)
  o_Unlike : OexC K a_Unlike
  a_Unlike_init : Addr
  d_Unlike_init : FuncData
  f_Unlike_init : Fun K "__init__" "Unlike.__init__" st_Unlike_init a_Unlike_init d_Unlike_init
  b_Unlike_init : Binds K d_Unlike_init ["self"] []
  i_Unlike : PySem.W.findIn K (.ref a_Unlike) "__init__" = some (some (.ref a_Unlike_init))
  y_Unlike : PySem.W.typeIn K (.ref a_Unlike_init) = some (.type "function")
  a_BadCells : Addr
  m_BadCells : mg "BadCells" = some (.ref a_BadCells)
  o_BadCells : OexC K a_BadCells
  a_BadCells_init : Addr
  d_BadCells_init : FuncData
  f_BadCells_init : Fun K "__init__" "BadCells.__init__" st_BadCells_init a_BadCells_init d_BadCells_init
  b_BadCells_init : Binds K d_BadCells_init ["self"] []
  i_BadCells : PySem.W.findIn K (.ref a_BadCells) "__init__" = some (some (.ref a_BadCells_init))
  y_BadCells : PySem.W.typeIn K (.ref a_BadCells_init) = some (.type "function")
  a_BadActs : Addr
  m_BadActs : mg "BadActs" = some (.ref a_BadActs)
  o_BadActs : OexC K a_BadActs
  n_BadActs : PySem.W.findIn K (.ref a_BadActs) "index" = some none
  w_BadActs : XfC K a_BadActs
  a_BadActs_init : Addr
  d_BadActs_init : FuncData
  f_BadActs_init : Fun K "__init__" "BadActs.__init__" st_BadActs_init a_BadActs_init d_BadActs_init
  b_BadActs_init : Binds K d_BadActs_init ["self", "index"] []
  i_BadActs : PySem.W.findIn K (.ref a_BadActs) "__init__" = some (some (.ref a_BadActs_init))
  y_BadActs : PySem.W.typeIn K (.ref a_BadActs_init) = some (.type "function")
  a_NoLot : Addr
  m_NoLot : mg "NoLot" = some (.ref a_NoLot)
  o_NoLot : OexC K a_NoLot
  n_NoLot : PySem.W.findIn K (.ref a_NoLot) "index" = some none
  w_NoLot : XfC K a_NoLot
  a_NoLot_init : Addr
  d_NoLot_init : FuncData
  f_NoLot_init : Fun K "__init__" "NoLot.__init__" st_NoLot_init a_NoLot_init d_NoLot_init
  b_NoLot_init : Binds K d_NoLot_init ["self", "index"] []
  i_NoLot : PySem.W.findIn K (.ref a_NoLot) "__init__" = some (some (.ref a_NoLot_init))
  y_NoLot : PySem.W.typeIn K (.ref a_NoLot_init) = some (.type "function")
  a_BadPiece : Addr
  m_BadPiece : mg "BadPiece" = some (.ref a_BadPiece)
  o_BadPiece : OexC K a_BadPiece
  a_BadPiece_init : Addr
  d_BadPiece_init : FuncData
  f_BadPiece_init : Fun K "__init__" "BadPiece.__init__" st_BadPiece_init a_BadPiece_init d_BadPiece_init
  b_BadPiece_init : Binds K d_BadPiece_init ["self"] []
  i_BadPiece : PySem.W.findIn K (.ref a_BadPiece) "__init__" = some (some (.ref a_BadPiece_init))
  y_BadPiece : PySem.W.typeIn K (.ref a_BadPiece_init) = some (.type "function")
  a_BadArrow : Addr
  m_BadArrow : mg "BadArrow" = some (.ref a_BadArrow)
  o_BadArrow : OexC K a_BadArrow
  n_BadArrow : PySem.W.findIn K (.ref a_BadArrow) "index" = some none
  w_BadArrow : XfC K a_BadArrow
  a_BadArrow_init : Addr
  d_BadArrow_init : FuncData
  f_BadArrow_init : Fun K "__init__" "BadArrow.__init__" st_BadArrow_init a_BadArrow_init d_BadArrow_init
  b_BadArrow_init : Binds K d_BadArrow_init ["self", "index"] []
  i_BadArrow : PySem.W.findIn K (.ref a_BadArrow) "__init__" = some (some (.ref a_BadArrow_init))
  y_BadArrow : PySem.W.typeIn K (.ref a_BadArrow_init) = some (.type "function")
  a_BadWave : Addr
  m_BadWave : mg "BadWave" = some (.ref a_BadWave)
  o_BadWave : OexC K a_BadWave
  a_BadWave_init : Addr
  d_BadWave_init : FuncData
  f_BadWave_init : Fun K "__init__" "BadWave.__init__" st_BadWave_init a_BadWave_init d_BadWave_init
  b_BadWave_init : Binds K d_BadWave_init ["self"] []
  i_BadWave : PySem.W.findIn K (.ref a_BadWave) "__init__" = some (some (.ref a_BadWave_init))
  y_BadWave : PySem.W.typeIn K (.ref a_BadWave_init) = some (.type "function")
  a_BadText : Addr
  m_BadText : mg "BadText" = some (.ref a_BadText)
  o_BadText : OexC K a_BadText
  n_BadText : PySem.W.findIn K (.ref a_BadText) "line" = some none
  w_BadText : XfC K a_BadText
  a_BadText_init : Addr
  d_BadText_init : FuncData
  f_BadText_init : Fun K "__init__" "BadText.__init__" st_BadText_init a_BadText_init d_BadText_init
  b_BadText_init : Binds K d_BadText_init ["self", "line"] []
  i_BadText : PySem.W.findIn K (.ref a_BadText) "__init__" = some (some (.ref a_BadText_init))
  y_BadText : PySem.W.typeIn K (.ref a_BadText_init) = some (.type "function")
  x_LotError : PySem.W.excIn K a_LotError [.type "ValueError", .type "Exception", .type "BaseException", .type "object"] "ValueError.__new__" = true
  k_LotError : PySem.W.keepIn K (.ref a_LotError) = true
  ezb : (([("BadWeb", a_BadWeb), ("UnknownCell", a_UnknownCell), ("BadProgram", a_BadProgram), ("BadNumber", a_BadNumber), ("BadRules", a_BadRules), ("BadWorth", a_BadWorth), ("BadName", a_BadName), ("Held", a_Held), ("NotHeld", a_NotHeld), ("BadDeed", a_BadDeed), ("Taken", a_Taken), ("Used", a_Used), ("NoDeed", a_NoDeed), ("BadTable", a_BadTable), ("Ringed", a_Ringed), ("TooFew", a_TooFew), ("NotSweep", a_NotSweep), ("BadMarks", a_BadMarks), ("MarkRing", a_MarkRing), ("NoSuch", a_NoSuch), ("Unlike", a_Unlike), ("BadCells", a_BadCells), ("BadActs", a_BadActs), ("NoLot", a_NoLot), ("BadPiece", a_BadPiece), ("BadArrow", a_BadArrow), ("BadWave", a_BadWave), ("BadText", a_BadText), ("LotError", a_LotError)] : List (Str × Addr)).all fun p => excB K p.2) = true
  ixb : kitB K [("BadWeb", a_BadWeb), ("UnknownCell", a_UnknownCell), ("BadProgram", a_BadProgram), ("BadNumber", a_BadNumber), ("BadRules", a_BadRules), ("BadWorth", a_BadWorth), ("BadName", a_BadName), ("Held", a_Held), ("NotHeld", a_NotHeld), ("BadDeed", a_BadDeed), ("Taken", a_Taken), ("Used", a_Used), ("NoDeed", a_NoDeed), ("BadTable", a_BadTable), ("Ringed", a_Ringed), ("TooFew", a_TooFew), ("NotSweep", a_NotSweep), ("BadMarks", a_BadMarks), ("MarkRing", a_MarkRing), ("NoSuch", a_NoSuch), ("Unlike", a_Unlike), ("BadCells", a_BadCells), ("BadActs", a_BadActs), ("NoLot", a_NoLot), ("BadPiece", a_BadPiece), ("BadArrow", a_BadArrow), ("BadWave", a_BadWave), ("BadText", a_BadText), ("LotError", a_LotError)] = true
  ivb : kivB K [("BadWeb", a_BadWeb), ("UnknownCell", a_UnknownCell), ("BadProgram", a_BadProgram), ("BadNumber", a_BadNumber), ("BadRules", a_BadRules), ("BadWorth", a_BadWorth), ("BadName", a_BadName), ("Held", a_Held), ("NotHeld", a_NotHeld), ("BadDeed", a_BadDeed), ("Taken", a_Taken), ("Used", a_Used), ("NoDeed", a_NoDeed), ("BadTable", a_BadTable), ("Ringed", a_Ringed), ("TooFew", a_TooFew), ("NotSweep", a_NotSweep), ("BadMarks", a_BadMarks), ("MarkRing", a_MarkRing), ("NoSuch", a_NoSuch), ("Unlike", a_Unlike), ("BadCells", a_BadCells), ("BadActs", a_BadActs), ("NoLot", a_NoLot), ("BadPiece", a_BadPiece), ("BadArrow", a_BadArrow), ("BadWave", a_BadWave), ("BadText", a_BadText), ("LotError", a_LotError)] = true
  kx_BadWeb : KBn K d_BadWeb_init ["self", "index"] 1 ["index"] (fun us ws => us ++ ws) (fun vs zs => vs ++ zs)
  kx_UnknownCell : KBn K d_UnknownCell_init ["self", "cell"] 1 ["cell"] (fun us ws => us ++ ws) (fun vs zs => vs ++ zs)
  kx_BadProgram : KBn K d_BadProgram_init ["self", "index"] 1 ["index"] (fun us ws => us ++ ws) (fun vs zs => vs ++ zs)
  kx_BadNumber : KBn K d_BadNumber_init ["self", "number"] 1 ["number"] (fun us ws => us ++ ws) (fun vs zs => vs ++ zs)
  kx_BadRules : KBn K d_BadRules_init ["self", "cell"] 1 ["cell"] (fun us ws => us ++ ws) (fun vs zs => vs ++ zs)
  kx_BadWorth : KBn K d_BadWorth_init ["self", "cell"] 1 ["cell"] (fun us ws => us ++ ws) (fun vs zs => vs ++ zs)
  kx_BadName : KBn K d_BadName_init ["self", "name"] 1 ["name"] (fun us ws => us ++ ws) (fun vs zs => vs ++ zs)
  kx_Held : KBn K d_Held_init ["self", "name"] 1 ["name"] (fun us ws => us ++ ws) (fun vs zs => vs ++ zs)
  kx_NotHeld : KBn K d_NotHeld_init ["self", "name"] 1 ["name"] (fun us ws => us ++ ws) (fun vs zs => vs ++ zs)
  kx_BadDeed : KBn K d_BadDeed_init ["self", "deed"] 1 ["deed"] (fun us ws => us ++ ws) (fun vs zs => vs ++ zs)
  kx_Taken : KBn K d_Taken_init ["self", "name"] 1 ["name"] (fun us ws => us ++ ws) (fun vs zs => vs ++ zs)
  kx_Used : KBn K d_Used_init ["self", "cell"] 1 ["cell"] (fun us ws => us ++ ws) (fun vs zs => vs ++ zs)
  kx_Ringed : KBn K d_Ringed_init ["self", "ring"] 1 ["ring"] (fun us ws => us ++ ws) (fun vs zs => vs ++ zs)
  kx_TooFew : KBn K d_TooFew_init ["self", "number"] 1 ["number"] (fun us ws => us ++ ws) (fun vs zs => vs ++ zs)
  kx_MarkRing : KBn K d_MarkRing_init ["self", "arrows"] 1 ["arrows"] (fun us ws => us ++ ws) (fun vs zs => vs ++ zs)
  kx_NoSuch : KBn K d_NoSuch_init ["self", "number"] 1 ["number"] (fun us ws => us ++ ws) (fun vs zs => vs ++ zs)
  kx_BadActs : KBn K d_BadActs_init ["self", "index"] 1 ["index"] (fun us ws => us ++ ws) (fun vs zs => vs ++ zs)
  kx_NoLot : KBn K d_NoLot_init ["self", "index"] 1 ["index"] (fun us ws => us ++ ws) (fun vs zs => vs ++ zs)
  kx_BadArrow : KBn K d_BadArrow_init ["self", "index"] 1 ["index"] (fun us ws => us ++ ws) (fun vs zs => vs ++ zs)
  kx_BadText : KBn K d_BadText_init ["self", "line"] 1 ["line"] (fun us ws => us ++ ws) (fun vs zs => vs ++ zs)
  z_ValueError : mg "ValueError" = none
  z_all : mg "all" = none
  z_any : mg "any" = none
  z_bool : mg "bool" = none
  z_int : mg "int" = none
  z_isinstance : mg "isinstance" = none
  z_len : mg "len" = none
  z_range : mg "range" = none
def Tx.cl {K : PySem.W.Frag} {mg : Str → Option Value} (T : Tx K mg) (w : World) : Cl := ⟨fun c => if c = "BadWeb" then some T.a_BadWeb else if c = "UnknownCell" then some T.a_UnknownCell else if c = "BadProgram" then some T.a_BadProgram else if c = "BadNumber" then some T.a_BadNumber else if c = "BadRules" then some T.a_BadRules else if c = "BadWorth" then some T.a_BadWorth else if c = "BadName" then some T.a_BadName else if c = "Held" then some T.a_Held else if c = "NotHeld" then some T.a_NotHeld else if c = "BadDeed" then some T.a_BadDeed else if c = "Taken" then some T.a_Taken else if c = "Used" then some T.a_Used else if c = "NoDeed" then some T.a_NoDeed else if c = "BadTable" then some T.a_BadTable else if c = "Ringed" then some T.a_Ringed else if c = "TooFew" then some T.a_TooFew else if c = "NotSweep" then some T.a_NotSweep else if c = "BadMarks" then some T.a_BadMarks else if c = "MarkRing" then some T.a_MarkRing else if c = "NoSuch" then some T.a_NoSuch else if c = "Unlike" then some T.a_Unlike else if c = "BadCells" then some T.a_BadCells else if c = "BadActs" then some T.a_BadActs else if c = "NoLot" then some T.a_NoLot else if c = "BadPiece" then some T.a_BadPiece else if c = "BadArrow" then some T.a_BadArrow else if c = "BadWave" then some T.a_BadWave else if c = "BadText" then some T.a_BadText else if c = "LotError" then some T.a_LotError else none, w, fun _ => lamNil⟩
section
variable {P : Program} {w : World} {K : PySem.W.Frag} {mg : Str → Option Value} {base : Heap}
def ps01 {K : PySem.W.Frag} {mg : Str → Option Value} (T : Tx K mg) : List (Str × Addr) := [("BadWeb", T.a_BadWeb), ("UnknownCell", T.a_UnknownCell), ("BadProgram", T.a_BadProgram), ("BadNumber", T.a_BadNumber), ("BadRules", T.a_BadRules), ("BadWorth", T.a_BadWorth), ("BadName", T.a_BadName), ("Held", T.a_Held), ("NotHeld", T.a_NotHeld), ("BadDeed", T.a_BadDeed), ("Taken", T.a_Taken), ("Used", T.a_Used), ("NoDeed", T.a_NoDeed), ("BadTable", T.a_BadTable), ("Ringed", T.a_Ringed), ("TooFew", T.a_TooFew), ("NotSweep", T.a_NotSweep), ("BadMarks", T.a_BadMarks), ("MarkRing", T.a_MarkRing), ("NoSuch", T.a_NoSuch), ("Unlike", T.a_Unlike), ("BadCells", T.a_BadCells), ("BadActs", T.a_BadActs), ("NoLot", T.a_NoLot), ("BadPiece", T.a_BadPiece), ("BadArrow", T.a_BadArrow), ("BadWave", T.a_BadWave), ("BadText", T.a_BadText), ("LotError", T.a_LotError)]
theorem clx01 (w : World) (T : Tx K mg) : ∀ c ∈ xs01, ∀ C, (T.cl w) c = some C → (c, C) ∈ ps01 T := by
  intro c hc C h
  simp only [xs01, List.mem_cons, List.mem_nil_iff, or_false] at hc
  rcases hc with rfl | rfl | rfl | rfl | rfl | rfl | rfl | rfl | rfl | rfl | rfl | rfl | rfl | rfl | rfl | rfl | rfl | rfl | rfl | rfl | rfl | rfl | rfl | rfl | rfl | rfl | rfl | rfl | rfl
  · obtain rfl : T.a_BadWeb = C := Option.some.inj h
    exact .head _
  · obtain rfl : T.a_UnknownCell = C := Option.some.inj h
    exact .tail _ (.head _)
  · obtain rfl : T.a_BadProgram = C := Option.some.inj h
    exact .tail _ (.tail _ (.head _))
  · obtain rfl : T.a_BadNumber = C := Option.some.inj h
    exact .tail _ (.tail _ (.tail _ (.head _)))
  · obtain rfl : T.a_BadRules = C := Option.some.inj h
    exact .tail _ (.tail _ (.tail _ (.tail _ (.head _))))
  · obtain rfl : T.a_BadWorth = C := Option.some.inj h
    exact .tail _ (.tail _ (.tail _ (.tail _ (.tail _ (.head _)))))
  · obtain rfl : T.a_BadName = C := Option.some.inj h
    exact .tail _ (.tail _ (.tail _ (.tail _ (.tail _ (.tail _ (.head _))))))
  · obtain rfl : T.a_Held = C := Option.some.inj h
    exact .tail _ (.tail _ (.tail _ (.tail _ (.tail _ (.tail _ (.tail _ (.head _)))))))
  · obtain rfl : T.a_NotHeld = C := Option.some.inj h
    exact .tail _ (.tail _ (.tail _ (.tail _ (.tail _ (.tail _ (.tail _ (.tail _ (.head _))))))))
  · obtain rfl : T.a_BadDeed = C := Option.some.inj h
    exact .tail _ (.tail _ (.tail _ (.tail _ (.tail _ (.tail _ (.tail _ (.tail _ (.tail _ (.head _)))))))))
  · obtain rfl : T.a_Taken = C := Option.some.inj h
    exact .tail _ (.tail _ (.tail _ (.tail _ (.tail _ (.tail _ (.tail _ (.tail _ (.tail _ (.tail _ (.head _))))))))))
  · obtain rfl : T.a_Used = C := Option.some.inj h
    exact .tail _ (.tail _ (.tail _ (.tail _ (.tail _ (.tail _ (.tail _ (.tail _ (.tail _ (.tail _ (.tail _ (.head _)))))))))))
  · obtain rfl : T.a_NoDeed = C := Option.some.inj h
    exact .tail _ (.tail _ (.tail _ (.tail _ (.tail _ (.tail _ (.tail _ (.tail _ (.tail _ (.tail _ (.tail _ (.tail _ (.head _))))))))))))
  · obtain rfl : T.a_BadTable = C := Option.some.inj h
    exact .tail _ (.tail _ (.tail _ (.tail _ (.tail _ (.tail _ (.tail _ (.tail _ (.tail _ (.tail _ (.tail _ (.tail _ (.tail _ (.head _)))))))))))))
  · obtain rfl : T.a_Ringed = C := Option.some.inj h
    exact .tail _ (.tail _ (.tail _ (.tail _ (.tail _ (.tail _ (.tail _ (.tail _ (.tail _ (.tail _ (.tail _ (.tail _ (.tail _ (.tail _ (.head _))))))))))))))
  · obtain rfl : T.a_TooFew = C := Option.some.inj h
    exact .tail _ (.tail _ (.tail _ (.tail _ (.tail _ (.tail _ (.tail _ (.tail _ (.tail _ (.tail _ (.tail _ (.tail _ (.tail _ (.tail _ (.tail _ (.head _)))))))))))))))
  · obtain rfl : T.a_NotSweep = C := Option.some.inj h
    exact .tail _ (.tail _ (.tail _ (.tail _ (.tail _ (.tail _ (.tail _ (.tail _ (.tail _ (.tail _ (.tail _ (.tail _ (.tail _ (.tail _ (.tail _ (.tail _ (.head _))))))))))))))))
  · obtain rfl : T.a_BadMarks = C := Option.some.inj h
    exact .tail _ (.tail _ (.tail _ (.tail _ (.tail _ (.tail _ (.tail _ (.tail _ (.tail _ (.tail _ (.tail _ (.tail _ (.tail _ (.tail _ (.tail _ (.tail _ (.tail _ (.head _)))))))))))))))))
  · obtain rfl : T.a_MarkRing = C := Option.some.inj h
    exact .tail _ (.tail _ (.tail _ (.tail _ (.tail _ (.tail _ (.tail _ (.tail _ (.tail _ (.tail _ (.tail _ (.tail _ (.tail _ (.tail _ (.tail _ (.tail _ (.tail _ (.tail _ (.head _))))))))))))))))))
  · obtain rfl : T.a_NoSuch = C := Option.some.inj h
    exact .tail _ (.tail _ (.tail _ (.tail _ (.tail _ (.tail _ (.tail _ (.tail _ (.tail _ (.tail _ (.tail _ (.tail _ (.tail _ (.tail _ (.tail _ (.tail _ (.tail _ (.tail _ (.tail _ (.head _)))))))))))))))))))
  · obtain rfl : T.a_Unlike = C := Option.some.inj h
    exact .tail _ (.tail _ (.tail _ (.tail _ (.tail _ (.tail _ (.tail _ (.tail _ (.tail _ (.tail _ (.tail _ (.tail _ (.tail _ (.tail _ (.tail _ (.tail _ (.tail _ (.tail _ (.tail _ (.tail _ (.head _))))))))))))))))))))
  · obtain rfl : T.a_BadCells = C := Option.some.inj h
    exact .tail _ (.tail _ (.tail _ (.tail _ (.tail _ (.tail _ (.tail _ (.tail _ (.tail _ (.tail _ (.tail _ (.tail _ (.tail _ (.tail _ (.tail _ (.tail _ (.tail _ (.tail _ (.tail _ (.tail _ (.tail _ (.head _)))))))))))))))))))))
  · obtain rfl : T.a_BadActs = C := Option.some.inj h
    exact .tail _ (.tail _ (.tail _ (.tail _ (.tail _ (.tail _ (.tail _ (.tail _ (.tail _ (.tail _ (.tail _ (.tail _ (.tail _ (.tail _ (.tail _ (.tail _ (.tail _ (.tail _ (.tail _ (.tail _ (.tail _ (.tail _ (.head _))))))))))))))))))))))
  · obtain rfl : T.a_NoLot = C := Option.some.inj h
    exact .tail _ (.tail _ (.tail _ (.tail _ (.tail _ (.tail _ (.tail _ (.tail _ (.tail _ (.tail _ (.tail _ (.tail _ (.tail _ (.tail _ (.tail _ (.tail _ (.tail _ (.tail _ (.tail _ (.tail _ (.tail _ (.tail _ (.tail _ (.head _)))))))))))))))))))))))
  · obtain rfl : T.a_BadPiece = C := Option.some.inj h
    exact .tail _ (.tail _ (.tail _ (.tail _ (.tail _ (.tail _ (.tail _ (.tail _ (.tail _ (.tail _ (.tail _ (.tail _ (.tail _ (.tail _ (.tail _ (.tail _ (.tail _ (.tail _ (.tail _ (.tail _ (.tail _ (.tail _ (.tail _ (.tail _ (.head _))))))))))))))))))))))))
  · obtain rfl : T.a_BadArrow = C := Option.some.inj h
    exact .tail _ (.tail _ (.tail _ (.tail _ (.tail _ (.tail _ (.tail _ (.tail _ (.tail _ (.tail _ (.tail _ (.tail _ (.tail _ (.tail _ (.tail _ (.tail _ (.tail _ (.tail _ (.tail _ (.tail _ (.tail _ (.tail _ (.tail _ (.tail _ (.tail _ (.head _)))))))))))))))))))))))))
  · obtain rfl : T.a_BadWave = C := Option.some.inj h
    exact .tail _ (.tail _ (.tail _ (.tail _ (.tail _ (.tail _ (.tail _ (.tail _ (.tail _ (.tail _ (.tail _ (.tail _ (.tail _ (.tail _ (.tail _ (.tail _ (.tail _ (.tail _ (.tail _ (.tail _ (.tail _ (.tail _ (.tail _ (.tail _ (.tail _ (.tail _ (.head _))))))))))))))))))))))))))
  · obtain rfl : T.a_BadText = C := Option.some.inj h
    exact .tail _ (.tail _ (.tail _ (.tail _ (.tail _ (.tail _ (.tail _ (.tail _ (.tail _ (.tail _ (.tail _ (.tail _ (.tail _ (.tail _ (.tail _ (.tail _ (.tail _ (.tail _ (.tail _ (.tail _ (.tail _ (.tail _ (.tail _ (.tail _ (.tail _ (.tail _ (.tail _ (.head _)))))))))))))))))))))))))))
  · obtain rfl : T.a_LotError = C := Option.some.inj h
    exact .tail _ (.tail _ (.tail _ (.tail _ (.tail _ (.tail _ (.tail _ (.tail _ (.tail _ (.tail _ (.tail _ (.tail _ (.tail _ (.tail _ (.tail _ (.tail _ (.tail _ (.tail _ (.tail _ (.tail _ (.tail _ (.tail _ (.tail _ (.tail _ (.tail _ (.tail _ (.tail _ (.tail _ (.head _))))))))))))))))))))))))))))
theorem pm01_BadWeb (T : Tx K mg) : (("BadWeb" : Str), T.a_BadWeb) ∈ ps01 T := .head _
theorem pm01_UnknownCell (T : Tx K mg) : (("UnknownCell" : Str), T.a_UnknownCell) ∈ ps01 T := .tail _ (.head _)
theorem pm01_BadProgram (T : Tx K mg) : (("BadProgram" : Str), T.a_BadProgram) ∈ ps01 T := .tail _ (.tail _ (.head _))
theorem pm01_BadNumber (T : Tx K mg) : (("BadNumber" : Str), T.a_BadNumber) ∈ ps01 T := .tail _ (.tail _ (.tail _ (.head _)))
theorem pm01_BadRules (T : Tx K mg) : (("BadRules" : Str), T.a_BadRules) ∈ ps01 T := .tail _ (.tail _ (.tail _ (.tail _ (.head _))))
theorem pm01_BadWorth (T : Tx K mg) : (("BadWorth" : Str), T.a_BadWorth) ∈ ps01 T := .tail _ (.tail _ (.tail _ (.tail _ (.tail _ (.head _)))))
theorem pm01_BadName (T : Tx K mg) : (("BadName" : Str), T.a_BadName) ∈ ps01 T := .tail _ (.tail _ (.tail _ (.tail _ (.tail _ (.tail _ (.head _))))))
theorem pm01_Held (T : Tx K mg) : (("Held" : Str), T.a_Held) ∈ ps01 T := .tail _ (.tail _ (.tail _ (.tail _ (.tail _ (.tail _ (.tail _ (.head _)))))))
theorem pm01_NotHeld (T : Tx K mg) : (("NotHeld" : Str), T.a_NotHeld) ∈ ps01 T := .tail _ (.tail _ (.tail _ (.tail _ (.tail _ (.tail _ (.tail _ (.tail _ (.head _))))))))
theorem pm01_BadDeed (T : Tx K mg) : (("BadDeed" : Str), T.a_BadDeed) ∈ ps01 T := .tail _ (.tail _ (.tail _ (.tail _ (.tail _ (.tail _ (.tail _ (.tail _ (.tail _ (.head _)))))))))
theorem pm01_Taken (T : Tx K mg) : (("Taken" : Str), T.a_Taken) ∈ ps01 T := .tail _ (.tail _ (.tail _ (.tail _ (.tail _ (.tail _ (.tail _ (.tail _ (.tail _ (.tail _ (.head _))))))))))
theorem pm01_Used (T : Tx K mg) : (("Used" : Str), T.a_Used) ∈ ps01 T := .tail _ (.tail _ (.tail _ (.tail _ (.tail _ (.tail _ (.tail _ (.tail _ (.tail _ (.tail _ (.tail _ (.head _)))))))))))
theorem pm01_NoDeed (T : Tx K mg) : (("NoDeed" : Str), T.a_NoDeed) ∈ ps01 T := .tail _ (.tail _ (.tail _ (.tail _ (.tail _ (.tail _ (.tail _ (.tail _ (.tail _ (.tail _ (.tail _ (.tail _ (.head _))))))))))))
theorem pm01_BadTable (T : Tx K mg) : (("BadTable" : Str), T.a_BadTable) ∈ ps01 T := .tail _ (.tail _ (.tail _ (.tail _ (.tail _ (.tail _ (.tail _ (.tail _ (.tail _ (.tail _ (.tail _ (.tail _ (.tail _ (.head _)))))))))))))
theorem pm01_Ringed (T : Tx K mg) : (("Ringed" : Str), T.a_Ringed) ∈ ps01 T := .tail _ (.tail _ (.tail _ (.tail _ (.tail _ (.tail _ (.tail _ (.tail _ (.tail _ (.tail _ (.tail _ (.tail _ (.tail _ (.tail _ (.head _))))))))))))))
theorem pm01_TooFew (T : Tx K mg) : (("TooFew" : Str), T.a_TooFew) ∈ ps01 T := .tail _ (.tail _ (.tail _ (.tail _ (.tail _ (.tail _ (.tail _ (.tail _ (.tail _ (.tail _ (.tail _ (.tail _ (.tail _ (.tail _ (.tail _ (.head _)))))))))))))))
theorem pm01_NotSweep (T : Tx K mg) : (("NotSweep" : Str), T.a_NotSweep) ∈ ps01 T := .tail _ (.tail _ (.tail _ (.tail _ (.tail _ (.tail _ (.tail _ (.tail _ (.tail _ (.tail _ (.tail _ (.tail _ (.tail _ (.tail _ (.tail _ (.tail _ (.head _))))))))))))))))
theorem pm01_BadMarks (T : Tx K mg) : (("BadMarks" : Str), T.a_BadMarks) ∈ ps01 T := .tail _ (.tail _ (.tail _ (.tail _ (.tail _ (.tail _ (.tail _ (.tail _ (.tail _ (.tail _ (.tail _ (.tail _ (.tail _ (.tail _ (.tail _ (.tail _ (.tail _ (.head _)))))))))))))))))
theorem pm01_MarkRing (T : Tx K mg) : (("MarkRing" : Str), T.a_MarkRing) ∈ ps01 T := .tail _ (.tail _ (.tail _ (.tail _ (.tail _ (.tail _ (.tail _ (.tail _ (.tail _ (.tail _ (.tail _ (.tail _ (.tail _ (.tail _ (.tail _ (.tail _ (.tail _ (.tail _ (.head _))))))))))))))))))
theorem pm01_NoSuch (T : Tx K mg) : (("NoSuch" : Str), T.a_NoSuch) ∈ ps01 T := .tail _ (.tail _ (.tail _ (.tail _ (.tail _ (.tail _ (.tail _ (.tail _ (.tail _ (.tail _ (.tail _ (.tail _ (.tail _ (.tail _ (.tail _ (.tail _ (.tail _ (.tail _ (.tail _ (.head _)))))))))))))))))))
theorem pm01_Unlike (T : Tx K mg) : (("Unlike" : Str), T.a_Unlike) ∈ ps01 T := .tail _ (.tail _ (.tail _ (.tail _ (.tail _ (.tail _ (.tail _ (.tail _ (.tail _ (.tail _ (.tail _ (.tail _ (.tail _ (.tail _ (.tail _ (.tail _ (.tail _ (.tail _ (.tail _ (.tail _ (.head _))))))))))))))))))))
theorem pm01_BadCells (T : Tx K mg) : (("BadCells" : Str), T.a_BadCells) ∈ ps01 T := .tail _ (.tail _ (.tail _ (.tail _ (.tail _ (.tail _ (.tail _ (.tail _ (.tail _ (.tail _ (.tail _ (.tail _ (.tail _ (.tail _ (.tail _ (.tail _ (.tail _ (.tail _ (.tail _ (.tail _ (.tail _ (.head _)))))))))))))))))))))
theorem pm01_BadActs (T : Tx K mg) : (("BadActs" : Str), T.a_BadActs) ∈ ps01 T := .tail _ (.tail _ (.tail _ (.tail _ (.tail _ (.tail _ (.tail _ (.tail _ (.tail _ (.tail _ (.tail _ (.tail _ (.tail _ (.tail _ (.tail _ (.tail _ (.tail _ (.tail _ (.tail _ (.tail _ (.tail _ (.tail _ (.head _))))))))))))))))))))))
theorem pm01_NoLot (T : Tx K mg) : (("NoLot" : Str), T.a_NoLot) ∈ ps01 T := .tail _ (.tail _ (.tail _ (.tail _ (.tail _ (.tail _ (.tail _ (.tail _ (.tail _ (.tail _ (.tail _ (.tail _ (.tail _ (.tail _ (.tail _ (.tail _ (.tail _ (.tail _ (.tail _ (.tail _ (.tail _ (.tail _ (.tail _ (.head _)))))))))))))))))))))))
theorem pm01_BadPiece (T : Tx K mg) : (("BadPiece" : Str), T.a_BadPiece) ∈ ps01 T := .tail _ (.tail _ (.tail _ (.tail _ (.tail _ (.tail _ (.tail _ (.tail _ (.tail _ (.tail _ (.tail _ (.tail _ (.tail _ (.tail _ (.tail _ (.tail _ (.tail _ (.tail _ (.tail _ (.tail _ (.tail _ (.tail _ (.tail _ (.tail _ (.head _))))))))))))))))))))))))
theorem pm01_BadArrow (T : Tx K mg) : (("BadArrow" : Str), T.a_BadArrow) ∈ ps01 T := .tail _ (.tail _ (.tail _ (.tail _ (.tail _ (.tail _ (.tail _ (.tail _ (.tail _ (.tail _ (.tail _ (.tail _ (.tail _ (.tail _ (.tail _ (.tail _ (.tail _ (.tail _ (.tail _ (.tail _ (.tail _ (.tail _ (.tail _ (.tail _ (.tail _ (.head _)))))))))))))))))))))))))
theorem pm01_BadWave (T : Tx K mg) : (("BadWave" : Str), T.a_BadWave) ∈ ps01 T := .tail _ (.tail _ (.tail _ (.tail _ (.tail _ (.tail _ (.tail _ (.tail _ (.tail _ (.tail _ (.tail _ (.tail _ (.tail _ (.tail _ (.tail _ (.tail _ (.tail _ (.tail _ (.tail _ (.tail _ (.tail _ (.tail _ (.tail _ (.tail _ (.tail _ (.tail _ (.head _))))))))))))))))))))))))))
theorem pm01_BadText (T : Tx K mg) : (("BadText" : Str), T.a_BadText) ∈ ps01 T := .tail _ (.tail _ (.tail _ (.tail _ (.tail _ (.tail _ (.tail _ (.tail _ (.tail _ (.tail _ (.tail _ (.tail _ (.tail _ (.tail _ (.tail _ (.tail _ (.tail _ (.tail _ (.tail _ (.tail _ (.tail _ (.tail _ (.tail _ (.tail _ (.tail _ (.tail _ (.tail _ (.head _)))))))))))))))))))))))))))
theorem pm01_LotError (T : Tx K mg) : (("LotError" : Str), T.a_LotError) ∈ ps01 T := .tail _ (.tail _ (.tail _ (.tail _ (.tail _ (.tail _ (.tail _ (.tail _ (.tail _ (.tail _ (.tail _ (.tail _ (.tail _ (.tail _ (.tail _ (.tail _ (.tail _ (.tail _ (.tail _ (.tail _ (.tail _ (.tail _ (.tail _ (.tail _ (.tail _ (.tail _ (.tail _ (.tail _ (.head _))))))))))))))))))))))))))))
theorem isXV01 (w : World) (T : Tx K mg) : IsX (T.cl w) K (tbv xs01) (.type "ValueError") := isXV_of (clx01 w T) T.ezb T.ivb
theorem xv_arrows (w : World) (T : Tx K mg) : ∀ c ∈ (["MarkRing"] : List Str), ∀ C, (T.cl w) c = some C → XfC K C ∧ PySem.W.findIn K (.ref C) "arrows" = some none := by
  intro c hc C h
  simp only [List.mem_cons, List.mem_nil_iff, or_false] at hc
  subst hc
  · obtain rfl : T.a_MarkRing = C := Option.some.inj h
    exact ⟨T.w_MarkRing, T.n_MarkRing⟩
theorem xv_cell (w : World) (T : Tx K mg) : ∀ c ∈ (["UnknownCell", "BadRules", "BadWorth", "Used"] : List Str), ∀ C, (T.cl w) c = some C → XfC K C ∧ PySem.W.findIn K (.ref C) "cell" = some none := by
  intro c hc C h
  simp only [List.mem_cons, List.mem_nil_iff, or_false] at hc
  rcases hc with rfl | rfl | rfl | rfl
  · obtain rfl : T.a_UnknownCell = C := Option.some.inj h
    exact ⟨T.w_UnknownCell, T.n_UnknownCell⟩
  · obtain rfl : T.a_BadRules = C := Option.some.inj h
    exact ⟨T.w_BadRules, T.n_BadRules⟩
  · obtain rfl : T.a_BadWorth = C := Option.some.inj h
    exact ⟨T.w_BadWorth, T.n_BadWorth⟩
  · obtain rfl : T.a_Used = C := Option.some.inj h
    exact ⟨T.w_Used, T.n_Used⟩
theorem xv_deed (w : World) (T : Tx K mg) : ∀ c ∈ (["BadDeed"] : List Str), ∀ C, (T.cl w) c = some C → XfC K C ∧ PySem.W.findIn K (.ref C) "deed" = some none := by
  intro c hc C h
  simp only [List.mem_cons, List.mem_nil_iff, or_false] at hc
  subst hc
  · obtain rfl : T.a_BadDeed = C := Option.some.inj h
    exact ⟨T.w_BadDeed, T.n_BadDeed⟩
theorem xv_index (w : World) (T : Tx K mg) : ∀ c ∈ (["BadWeb", "BadProgram", "BadActs", "NoLot", "BadArrow"] : List Str), ∀ C, (T.cl w) c = some C → XfC K C ∧ PySem.W.findIn K (.ref C) "index" = some none := by
  intro c hc C h
  simp only [List.mem_cons, List.mem_nil_iff, or_false] at hc
  rcases hc with rfl | rfl | rfl | rfl | rfl
  · obtain rfl : T.a_BadWeb = C := Option.some.inj h
    exact ⟨T.w_BadWeb, T.n_BadWeb⟩
  · obtain rfl : T.a_BadProgram = C := Option.some.inj h
    exact ⟨T.w_BadProgram, T.n_BadProgram⟩
  · obtain rfl : T.a_BadActs = C := Option.some.inj h
    exact ⟨T.w_BadActs, T.n_BadActs⟩
  · obtain rfl : T.a_NoLot = C := Option.some.inj h
    exact ⟨T.w_NoLot, T.n_NoLot⟩
  · obtain rfl : T.a_BadArrow = C := Option.some.inj h
    exact ⟨T.w_BadArrow, T.n_BadArrow⟩
theorem xv_line (w : World) (T : Tx K mg) : ∀ c ∈ (["BadText"] : List Str), ∀ C, (T.cl w) c = some C → XfC K C ∧ PySem.W.findIn K (.ref C) "line" = some none := by
  intro c hc C h
  simp only [List.mem_cons, List.mem_nil_iff, or_false] at hc
  subst hc
  · obtain rfl : T.a_BadText = C := Option.some.inj h
    exact ⟨T.w_BadText, T.n_BadText⟩
theorem xv_name (w : World) (T : Tx K mg) : ∀ c ∈ (["BadName", "Held", "NotHeld", "Taken"] : List Str), ∀ C, (T.cl w) c = some C → XfC K C ∧ PySem.W.findIn K (.ref C) "name" = some none := by
  intro c hc C h
  simp only [List.mem_cons, List.mem_nil_iff, or_false] at hc
  rcases hc with rfl | rfl | rfl | rfl
  · obtain rfl : T.a_BadName = C := Option.some.inj h
    exact ⟨T.w_BadName, T.n_BadName⟩
  · obtain rfl : T.a_Held = C := Option.some.inj h
    exact ⟨T.w_Held, T.n_Held⟩
  · obtain rfl : T.a_NotHeld = C := Option.some.inj h
    exact ⟨T.w_NotHeld, T.n_NotHeld⟩
  · obtain rfl : T.a_Taken = C := Option.some.inj h
    exact ⟨T.w_Taken, T.n_Taken⟩
theorem xv_number (w : World) (T : Tx K mg) : ∀ c ∈ (["BadNumber", "TooFew", "NoSuch"] : List Str), ∀ C, (T.cl w) c = some C → XfC K C ∧ PySem.W.findIn K (.ref C) "number" = some none := by
  intro c hc C h
  simp only [List.mem_cons, List.mem_nil_iff, or_false] at hc
  rcases hc with rfl | rfl | rfl
  · obtain rfl : T.a_BadNumber = C := Option.some.inj h
    exact ⟨T.w_BadNumber, T.n_BadNumber⟩
  · obtain rfl : T.a_TooFew = C := Option.some.inj h
    exact ⟨T.w_TooFew, T.n_TooFew⟩
  · obtain rfl : T.a_NoSuch = C := Option.some.inj h
    exact ⟨T.w_NoSuch, T.n_NoSuch⟩
theorem xv_ring (w : World) (T : Tx K mg) : ∀ c ∈ (["Ringed"] : List Str), ∀ C, (T.cl w) c = some C → XfC K C ∧ PySem.W.findIn K (.ref C) "ring" = some none := by
  intro c hc C h
  simp only [List.mem_cons, List.mem_nil_iff, or_false] at hc
  subst hc
  · obtain rfl : T.a_Ringed = C := Option.some.inj h
    exact ⟨T.w_Ringed, T.n_Ringed⟩
theorem sc_BadWeb_init : FnScope ["self", "index"] ["self", "index"] (defScope st_BadWeb_init) := ⟨rfl, rfl, rfl, by decide +kernel, rfl, by decide +kernel, by decide +kernel⟩
theorem ok_BadWeb_init (T : Tx K mg) : FnOk P w K mg base (L2.CX P w) 1 T.a_BadWeb_init T.d_BadWeb_init ["self", "index"] (spErr K "index") :=
  err_ok T.f_BadWeb_init sc_BadWeb_init rfl T.m_LotError T.B_LotError (by decide) (by decide) (by decide) (Or.inl rfl) (Or.inl rfl) (fun _ _ _ _ _ _ => ⟨rfl, ⟨_, rfl⟩, rfl, rfl, rfl, rfl⟩)
theorem sc_UnknownCell_init : FnScope ["self", "cell"] ["self", "cell"] (defScope st_UnknownCell_init) := ⟨rfl, rfl, rfl, by decide +kernel, rfl, by decide +kernel, by decide +kernel⟩
theorem ok_UnknownCell_init (T : Tx K mg) : FnOk P w K mg base (L2.CX P w) 1 T.a_UnknownCell_init T.d_UnknownCell_init ["self", "cell"] (spErr K "cell") :=
  err_ok T.f_UnknownCell_init sc_UnknownCell_init rfl T.m_LotError T.B_LotError (by decide) (by decide) (by decide) (Or.inl rfl) (Or.inl rfl) (fun _ _ _ _ _ _ => ⟨rfl, ⟨_, rfl⟩, rfl, rfl, rfl, rfl⟩)
theorem sc_BadProgram_init : FnScope ["self", "index"] ["self", "index"] (defScope st_BadProgram_init) := ⟨rfl, rfl, rfl, by decide +kernel, rfl, by decide +kernel, by decide +kernel⟩
theorem ok_BadProgram_init (T : Tx K mg) : FnOk P w K mg base (L2.CX P w) 1 T.a_BadProgram_init T.d_BadProgram_init ["self", "index"] (spErr K "index") :=
  err_ok T.f_BadProgram_init sc_BadProgram_init rfl T.m_LotError T.B_LotError (by decide) (by decide) (by decide) (Or.inl rfl) (Or.inl rfl) (fun _ _ _ _ _ _ => ⟨rfl, ⟨_, rfl⟩, rfl, rfl, rfl, rfl⟩)
theorem sc_BadNumber_init : FnScope ["self", "number"] ["self", "number"] (defScope st_BadNumber_init) := ⟨rfl, rfl, rfl, by decide +kernel, rfl, by decide +kernel, by decide +kernel⟩
theorem ok_BadNumber_init (T : Tx K mg) : FnOk P w K mg base (L2.CX P w) 1 T.a_BadNumber_init T.d_BadNumber_init ["self", "number"] (spErr K "number") :=
  err_ok T.f_BadNumber_init sc_BadNumber_init rfl T.m_LotError T.B_LotError (by decide) (by decide) (by decide) (Or.inl rfl) (Or.inl rfl) (fun _ _ _ _ _ _ => ⟨rfl, ⟨_, rfl⟩, rfl, rfl, rfl, rfl⟩)
theorem sc_BadRules_init : FnScope ["self", "cell"] ["self", "cell"] (defScope st_BadRules_init) := ⟨rfl, rfl, rfl, by decide +kernel, rfl, by decide +kernel, by decide +kernel⟩
theorem ok_BadRules_init (T : Tx K mg) : FnOk P w K mg base (L2.CX P w) 1 T.a_BadRules_init T.d_BadRules_init ["self", "cell"] (spErr K "cell") :=
  err_ok T.f_BadRules_init sc_BadRules_init rfl T.m_LotError T.B_LotError (by decide) (by decide) (by decide) (Or.inl rfl) (Or.inl rfl) (fun _ _ _ _ _ _ => ⟨rfl, ⟨_, rfl⟩, rfl, rfl, rfl, rfl⟩)
theorem sc_BadWorth_init : FnScope ["self", "cell"] ["self", "cell"] (defScope st_BadWorth_init) := ⟨rfl, rfl, rfl, by decide +kernel, rfl, by decide +kernel, by decide +kernel⟩
theorem ok_BadWorth_init (T : Tx K mg) : FnOk P w K mg base (L2.CX P w) 1 T.a_BadWorth_init T.d_BadWorth_init ["self", "cell"] (spErr K "cell") :=
  err_ok T.f_BadWorth_init sc_BadWorth_init rfl T.m_LotError T.B_LotError (by decide) (by decide) (by decide) (Or.inl rfl) (Or.inl rfl) (fun _ _ _ _ _ _ => ⟨rfl, ⟨_, rfl⟩, rfl, rfl, rfl, rfl⟩)
theorem sc_BadName_init : FnScope ["self", "name"] ["self", "name"] (defScope st_BadName_init) := ⟨rfl, rfl, rfl, by decide +kernel, rfl, by decide +kernel, by decide +kernel⟩
theorem ok_BadName_init (T : Tx K mg) : FnOk P w K mg base (L2.CX P w) 1 T.a_BadName_init T.d_BadName_init ["self", "name"] (spErr K "name") :=
  err_ok T.f_BadName_init sc_BadName_init rfl T.m_LotError T.B_LotError (by decide) (by decide) (by decide) (Or.inl rfl) (Or.inl rfl) (fun _ _ _ _ _ _ => ⟨rfl, ⟨_, rfl⟩, rfl, rfl, rfl, rfl⟩)
theorem sc_Held_init : FnScope ["self", "name"] ["self", "name"] (defScope st_Held_init) := ⟨rfl, rfl, rfl, by decide +kernel, rfl, by decide +kernel, by decide +kernel⟩
theorem ok_Held_init (T : Tx K mg) : FnOk P w K mg base (L2.CX P w) 1 T.a_Held_init T.d_Held_init ["self", "name"] (spErr K "name") :=
  err_ok T.f_Held_init sc_Held_init rfl T.m_LotError T.B_LotError (by decide) (by decide) (by decide) (Or.inl rfl) (Or.inl rfl) (fun _ _ _ _ _ _ => ⟨rfl, ⟨_, rfl⟩, rfl, rfl, rfl, rfl⟩)
theorem sc_NotHeld_init : FnScope ["self", "name"] ["self", "name"] (defScope st_NotHeld_init) := ⟨rfl, rfl, rfl, by decide +kernel, rfl, by decide +kernel, by decide +kernel⟩
theorem ok_NotHeld_init (T : Tx K mg) : FnOk P w K mg base (L2.CX P w) 1 T.a_NotHeld_init T.d_NotHeld_init ["self", "name"] (spErr K "name") :=
  err_ok T.f_NotHeld_init sc_NotHeld_init rfl T.m_LotError T.B_LotError (by decide) (by decide) (by decide) (Or.inl rfl) (Or.inl rfl) (fun _ _ _ _ _ _ => ⟨rfl, ⟨_, rfl⟩, rfl, rfl, rfl, rfl⟩)
theorem sc_BadDeed_init : FnScope ["self", "deed"] ["self", "deed"] (defScope st_BadDeed_init) := ⟨rfl, rfl, rfl, by decide +kernel, rfl, by decide +kernel, by decide +kernel⟩
theorem ok_BadDeed_init (T : Tx K mg) : FnOk P w K mg base (L2.CX P w) 1 T.a_BadDeed_init T.d_BadDeed_init ["self", "deed"] (spErr K "deed") :=
  err_ok T.f_BadDeed_init sc_BadDeed_init rfl T.m_LotError T.B_LotError (by decide) (by decide) (by decide) (Or.inl rfl) (Or.inl rfl) (fun _ _ _ _ _ _ => ⟨rfl, ⟨_, rfl⟩, rfl, rfl, rfl, rfl⟩)
theorem sc_Taken_init : FnScope ["self", "name"] ["self", "name"] (defScope st_Taken_init) := ⟨rfl, rfl, rfl, by decide +kernel, rfl, by decide +kernel, by decide +kernel⟩
theorem ok_Taken_init (T : Tx K mg) : FnOk P w K mg base (L2.CX P w) 1 T.a_Taken_init T.d_Taken_init ["self", "name"] (spErr K "name") :=
  err_ok T.f_Taken_init sc_Taken_init rfl T.m_LotError T.B_LotError (by decide) (by decide) (by decide) (Or.inl rfl) (Or.inl rfl) (fun _ _ _ _ _ _ => ⟨rfl, ⟨_, rfl⟩, rfl, rfl, rfl, rfl⟩)
theorem sc_Used_init : FnScope ["self", "cell"] ["self", "cell"] (defScope st_Used_init) := ⟨rfl, rfl, rfl, by decide +kernel, rfl, by decide +kernel, by decide +kernel⟩
theorem ok_Used_init (T : Tx K mg) : FnOk P w K mg base (L2.CX P w) 1 T.a_Used_init T.d_Used_init ["self", "cell"] (spErr K "cell") :=
  err_ok T.f_Used_init sc_Used_init rfl T.m_LotError T.B_LotError (by decide) (by decide) (by decide) (Or.inl rfl) (Or.inl rfl) (fun _ _ _ _ _ _ => ⟨rfl, ⟨_, rfl⟩, rfl, rfl, rfl, rfl⟩)
theorem sc_NoDeed_init : FnScope ["self"] ["self"] (defScope st_NoDeed_init) := ⟨rfl, rfl, rfl, by decide +kernel, rfl, by decide +kernel, by decide +kernel⟩
theorem ok_NoDeed_init (T : Tx K mg) : FnOk P w K mg base (L2.CX P w) 1 T.a_NoDeed_init T.d_NoDeed_init ["self"] (spErr0 K) :=
  err0_ok T.f_NoDeed_init sc_NoDeed_init rfl T.m_LotError T.B_LotError (by decide) (Or.inl rfl) (fun _ _ _ _ _ _ => ⟨rfl, ⟨_, rfl⟩, rfl, rfl, rfl⟩)
theorem sc_BadTable_init : FnScope ["self"] ["self"] (defScope st_BadTable_init) := ⟨rfl, rfl, rfl, by decide +kernel, rfl, by decide +kernel, by decide +kernel⟩
theorem ok_BadTable_init (T : Tx K mg) : FnOk P w K mg base (L2.CX P w) 1 T.a_BadTable_init T.d_BadTable_init ["self"] (spErr0 K) :=
  err0_ok T.f_BadTable_init sc_BadTable_init rfl T.m_LotError T.B_LotError (by decide) (Or.inl rfl) (fun _ _ _ _ _ _ => ⟨rfl, ⟨_, rfl⟩, rfl, rfl, rfl⟩)
theorem sc_Ringed_init : FnScope ["self", "ring"] ["self", "ring"] (defScope st_Ringed_init) := ⟨rfl, rfl, rfl, by decide +kernel, rfl, by decide +kernel, by decide +kernel⟩
theorem ok_Ringed_init (T : Tx K mg) : FnOk P w K mg base (L2.CX P w) 1 T.a_Ringed_init T.d_Ringed_init ["self", "ring"] (spErr K "ring") :=
  err_ok T.f_Ringed_init sc_Ringed_init rfl T.m_LotError T.B_LotError (by decide) (by decide) (by decide) (Or.inl rfl) (Or.inl rfl) (fun _ _ _ _ _ _ => ⟨rfl, ⟨_, rfl⟩, rfl, rfl, rfl, rfl⟩)
theorem sc_TooFew_init : FnScope ["self", "number"] ["self", "number"] (defScope st_TooFew_init) := ⟨rfl, rfl, rfl, by decide +kernel, rfl, by decide +kernel, by decide +kernel⟩
theorem ok_TooFew_init (T : Tx K mg) : FnOk P w K mg base (L2.CX P w) 1 T.a_TooFew_init T.d_TooFew_init ["self", "number"] (spErr K "number") :=
  err_ok T.f_TooFew_init sc_TooFew_init rfl T.m_LotError T.B_LotError (by decide) (by decide) (by decide) (Or.inl rfl) (Or.inl rfl) (fun _ _ _ _ _ _ => ⟨rfl, ⟨_, rfl⟩, rfl, rfl, rfl, rfl⟩)
theorem sc_NotSweep_init : FnScope ["self"] ["self"] (defScope st_NotSweep_init) := ⟨rfl, rfl, rfl, by decide +kernel, rfl, by decide +kernel, by decide +kernel⟩
theorem ok_NotSweep_init (T : Tx K mg) : FnOk P w K mg base (L2.CX P w) 1 T.a_NotSweep_init T.d_NotSweep_init ["self"] (spErr0 K) :=
  err0_ok T.f_NotSweep_init sc_NotSweep_init rfl T.m_LotError T.B_LotError (by decide) (Or.inl rfl) (fun _ _ _ _ _ _ => ⟨rfl, ⟨_, rfl⟩, rfl, rfl, rfl⟩)
theorem sc_BadMarks_init : FnScope ["self"] ["self"] (defScope st_BadMarks_init) := ⟨rfl, rfl, rfl, by decide +kernel, rfl, by decide +kernel, by decide +kernel⟩
theorem ok_BadMarks_init (T : Tx K mg) : FnOk P w K mg base (L2.CX P w) 1 T.a_BadMarks_init T.d_BadMarks_init ["self"] (spErr0 K) :=
  err0_ok T.f_BadMarks_init sc_BadMarks_init rfl T.m_LotError T.B_LotError (by decide) (Or.inl rfl) (fun _ _ _ _ _ _ => ⟨rfl, ⟨_, rfl⟩, rfl, rfl, rfl⟩)
theorem sc_MarkRing_init : FnScope ["self", "arrows"] ["self", "arrows"] (defScope st_MarkRing_init) := ⟨rfl, rfl, rfl, by decide +kernel, rfl, by decide +kernel, by decide +kernel⟩
theorem ok_MarkRing_init (T : Tx K mg) : FnOk P w K mg base (L2.CX P w) 1 T.a_MarkRing_init T.d_MarkRing_init ["self", "arrows"] (spErr K "arrows") :=
  err_ok T.f_MarkRing_init sc_MarkRing_init rfl T.m_LotError T.B_LotError (by decide) (by decide) (by decide) (Or.inl rfl) (Or.inl rfl) (fun _ _ _ _ _ _ => ⟨rfl, ⟨_, rfl⟩, rfl, rfl, rfl, rfl⟩)
theorem sc_NoSuch_init : FnScope ["self", "number"] ["self", "number"] (defScope st_NoSuch_init) := ⟨rfl, rfl, rfl, by decide +kernel, rfl, by decide +kernel, by decide +kernel⟩
theorem ok_NoSuch_init (T : Tx K mg) : FnOk P w K mg base (L2.CX P w) 1 T.a_NoSuch_init T.d_NoSuch_init ["self", "number"] (spErr K "number") :=
  err_ok T.f_NoSuch_init sc_NoSuch_init rfl T.m_LotError T.B_LotError (by decide) (by decide) (by decide) (Or.inl rfl) (Or.inl rfl) (fun _ _ _ _ _ _ => ⟨rfl, ⟨_, rfl⟩, rfl, rfl, rfl, rfl⟩)
theorem sc_Unlike_init : FnScope ["self"] ["self"] (defScope st_Unlike_init) := ⟨rfl, rfl, rfl, by decide +kernel, rfl, by decide +kernel, by decide +kernel⟩
theorem ok_Unlike_init (T : Tx K mg) : FnOk P w K mg base (L2.CX P w) 1 T.a_Unlike_init T.d_Unlike_init ["self"] (spErr0 K) :=
  err0_ok T.f_Unlike_init sc_Unlike_init rfl T.m_LotError T.B_LotError (by decide) (Or.inl rfl) (fun _ _ _ _ _ _ => ⟨rfl, ⟨_, rfl⟩, rfl, rfl, rfl⟩)
theorem sc_BadCells_init : FnScope ["self"] ["self"] (defScope st_BadCells_init) := ⟨rfl, rfl, rfl, by decide +kernel, rfl, by decide +kernel, by decide +kernel⟩
theorem ok_BadCells_init (T : Tx K mg) : FnOk P w K mg base (L2.CX P w) 1 T.a_BadCells_init T.d_BadCells_init ["self"] (spErr0 K) :=
  err0_ok T.f_BadCells_init sc_BadCells_init rfl T.m_LotError T.B_LotError (by decide) (Or.inl rfl) (fun _ _ _ _ _ _ => ⟨rfl, ⟨_, rfl⟩, rfl, rfl, rfl⟩)
theorem sc_BadActs_init : FnScope ["self", "index"] ["self", "index"] (defScope st_BadActs_init) := ⟨rfl, rfl, rfl, by decide +kernel, rfl, by decide +kernel, by decide +kernel⟩
theorem ok_BadActs_init (T : Tx K mg) : FnOk P w K mg base (L2.CX P w) 1 T.a_BadActs_init T.d_BadActs_init ["self", "index"] (spErr K "index") :=
  err_ok T.f_BadActs_init sc_BadActs_init rfl T.m_LotError T.B_LotError (by decide) (by decide) (by decide) (Or.inl rfl) (Or.inl rfl) (fun _ _ _ _ _ _ => ⟨rfl, ⟨_, rfl⟩, rfl, rfl, rfl, rfl⟩)
theorem sc_NoLot_init : FnScope ["self", "index"] ["self", "index"] (defScope st_NoLot_init) := ⟨rfl, rfl, rfl, by decide +kernel, rfl, by decide +kernel, by decide +kernel⟩
theorem ok_NoLot_init (T : Tx K mg) : FnOk P w K mg base (L2.CX P w) 1 T.a_NoLot_init T.d_NoLot_init ["self", "index"] (spErr K "index") :=
  err_ok T.f_NoLot_init sc_NoLot_init rfl T.m_LotError T.B_LotError (by decide) (by decide) (by decide) (Or.inl rfl) (Or.inl rfl) (fun _ _ _ _ _ _ => ⟨rfl, ⟨_, rfl⟩, rfl, rfl, rfl, rfl⟩)
theorem sc_BadPiece_init : FnScope ["self"] ["self"] (defScope st_BadPiece_init) := ⟨rfl, rfl, rfl, by decide +kernel, rfl, by decide +kernel, by decide +kernel⟩
theorem ok_BadPiece_init (T : Tx K mg) : FnOk P w K mg base (L2.CX P w) 1 T.a_BadPiece_init T.d_BadPiece_init ["self"] (spErr0 K) :=
  err0_ok T.f_BadPiece_init sc_BadPiece_init rfl T.m_LotError T.B_LotError (by decide) (Or.inl rfl) (fun _ _ _ _ _ _ => ⟨rfl, ⟨_, rfl⟩, rfl, rfl, rfl⟩)
theorem sc_BadArrow_init : FnScope ["self", "index"] ["self", "index"] (defScope st_BadArrow_init) := ⟨rfl, rfl, rfl, by decide +kernel, rfl, by decide +kernel, by decide +kernel⟩
theorem ok_BadArrow_init (T : Tx K mg) : FnOk P w K mg base (L2.CX P w) 1 T.a_BadArrow_init T.d_BadArrow_init ["self", "index"] (spErr K "index") :=
  err_ok T.f_BadArrow_init sc_BadArrow_init rfl T.m_LotError T.B_LotError (by decide) (by decide) (by decide) (Or.inl rfl) (Or.inl rfl) (fun _ _ _ _ _ _ => ⟨rfl, ⟨_, rfl⟩, rfl, rfl, rfl, rfl⟩)
theorem sc_BadWave_init : FnScope ["self"] ["self"] (defScope st_BadWave_init) := ⟨rfl, rfl, rfl, by decide +kernel, rfl, by decide +kernel, by decide +kernel⟩
theorem ok_BadWave_init (T : Tx K mg) : FnOk P w K mg base (L2.CX P w) 1 T.a_BadWave_init T.d_BadWave_init ["self"] (spErr0 K) :=
  err0_ok T.f_BadWave_init sc_BadWave_init rfl T.m_LotError T.B_LotError (by decide) (Or.inl rfl) (fun _ _ _ _ _ _ => ⟨rfl, ⟨_, rfl⟩, rfl, rfl, rfl⟩)
theorem sc_BadText_init : FnScope ["self", "line"] ["self", "line"] (defScope st_BadText_init) := ⟨rfl, rfl, rfl, by decide +kernel, rfl, by decide +kernel, by decide +kernel⟩
theorem ok_BadText_init (T : Tx K mg) : FnOk P w K mg base (L2.CX P w) 1 T.a_BadText_init T.d_BadText_init ["self", "line"] (spErr K "line") :=
  err_ok T.f_BadText_init sc_BadText_init rfl T.m_LotError T.B_LotError (by decide) (by decide) (by decide) (Or.inl rfl) (Or.inl rfl) (fun _ _ _ _ _ _ => ⟨rfl, ⟨_, rfl⟩, rfl, rfl, rfl, rfl⟩)
theorem nd__law_pool : (["_law_grain", "_law_folded"] : List Str).Nodup := by decide +kernel
theorem sc__law_pool : FnScope ["_law_grain", "_law_folded"] ["_law_grain"] (defScope st__law_pool) := ⟨rfl, rfl, rfl, nd__law_pool, rfl, by decide +kernel, by decide +kernel⟩
theorem ok__law_pool (T : Tx K mg) : FnOk P w K mg base (L2.CX P w) 1 T.a__law_pool T.d__law_pool ["_law_grain"] (spD (T.cl w) K 1 F__law_pool) :=
  fn_ok (k := 0) T.f__law_pool sc__law_pool (fun cdv A outer s H E hr => by
    refine dss_cons ?_ ?_
    · refine sSet 1 ?_ ?_
      · exact nd__law_pool
      refine de_op op2_mul ?_ ?_
      · exact de_int
      exact gv 0
    refine dss_cons ?_ ?_
    · refine ds_if ?_ ?_ ?_
      · refine tCmp op2_lt ?_ ?_
        · exact gv 0
        exact de_int
      · refine dss_cons ?_ ?_
        · refine sSet 1 ?_ ?_
          · exact nd__law_pool
          refine de_op op2_sub ?_ ?_
          · refine de_op op2_sub ?_ ?_
            · exact de_int
            refine de_op op2_mul ?_ ?_
            · exact de_int
            exact gv 0
          exact de_int
        exact dss_nil
      exact dss_nil
    refine dss_cons ?_ ?_
    · refine ds_if ?_ ?_ ?_
      · refine tCmp op2_ge ?_ ?_
        · exact gv 1
        refine de_op op2_pow ?_ ?_
        · exact de_int
        exact de_int
      · refine dss_cons ?_ ?_
        · refine sRetF ?_
          refine gLst ?_
          refine gA ?_ ?_
          · exact gv 1
          refine gA ?_ ?_
          · refine de_op op2_mod ?_ ?_
            · refine gTy dc_int T.z_int (by decide +kernel) ?_
              refine gA ?_ ?_
              · exact gv 1
              exact da_nil
            exact de_int
          refine gA ?_ ?_
          · exact de_int
          exact da_nil
        exact dss_nil
      exact dss_nil
    refine dss_cons ?_ ?_
    · refine sRetF ?_
      refine gLst ?_
      refine gA ?_ ?_
      · exact de_int
      refine gA ?_ ?_
      · refine de_op op2_mod ?_ ?_
        · refine gTy dc_int T.z_int (by decide +kernel) ?_
          refine gA ?_ ?_
          · exact gv 1
          exact da_nil
        exact de_int
      refine gA ?_ ?_
      · exact de_int
      exact da_nil
    exact dss_nil)
theorem nd__law_cell : (["_law_script", "_law_k"] : List Str).Nodup := by decide +kernel
theorem sc__law_cell : FnScope ["_law_script", "_law_k"] ["_law_script", "_law_k"] (defScope st__law_cell) := ⟨rfl, rfl, rfl, nd__law_cell, rfl, by decide +kernel, by decide +kernel⟩
theorem ok__law_cell (T : Tx K mg) : FnOk P w K mg base (L2.CX P w) 1 T.a__law_cell T.d__law_cell ["_law_script", "_law_k"] (spD (T.cl w) K 2 F__law_cell) :=
  fn_ok (k := 0) T.f__law_cell sc__law_cell (fun cdv A outer s H E hr => by
    refine dss_cons ?_ ?_
    · refine ds_if ?_ ?_ ?_
      · refine tCmp op2_lt ?_ ?_
        · exact gv 1
        refine gB dc_len T.z_len (by decide +kernel) ?_
        refine gA ?_ ?_
        · exact gv 0
        exact da_nil
      · refine dss_cons ?_ ?_
        · refine sRet ?_
          with_reducible refine de_ix hr ?_ ?_ ?_
          · exact fun _ _ => rfl
          · exact gv 0
          exact gv 1
        exact dss_nil
      exact dss_nil
    refine dss_cons ?_ ?_
    · refine sRet ?_
      exact de_int
    exact dss_nil)
theorem nd__law_take : (["_law_pool_here", "_law_many", "_law_mixed", "_law_draw"] : List Str).Nodup := by decide +kernel
theorem sc__law_take : FnScope ["_law_pool_here", "_law_many", "_law_mixed", "_law_draw"] ["_law_pool_here", "_law_many"] (defScope st__law_take) := ⟨rfl, rfl, rfl, nd__law_take, rfl, by decide +kernel, by decide +kernel⟩
theorem ok__law_take (T : Tx K mg) : FnOk P w K mg base (L2.CX P w) 1 T.a__law_take T.d__law_take ["_law_pool_here", "_law_many"] (spD (T.cl w) K 2 F__law_take) :=
  fn_ok (k := 0) T.f__law_take sc__law_take (fun cdv A outer s H E hr => by
    refine dss_cons ?_ ?_
    · refine ds_if ?_ ?_ ?_
      · refine tCmp op2_gt ?_ ?_
        · with_reducible refine de_ix hr ?_ ?_ ?_
          · exact fun _ _ => rfl
          · exact gv 0
          exact de_int
        exact de_int
      · refine dss_cons ?_ ?_
        · refine sSet 3 ?_ ?_
          · exact nd__law_take
          refine de_op op2_mod ?_ ?_
          · refine gTy dc_int T.z_int (by decide +kernel) ?_
            refine gA ?_ ?_
            · with_reducible refine de_ix hr ?_ ?_ ?_
              · exact fun _ _ => rfl
              · exact gv 0
              exact de_int
            exact da_nil
          exact gv 1
        refine dss_cons ?_ ?_
        · refine sIx hr ?_ ?_ ?_
          · exact gv 0
          · exact de_int
          refine de_op op2_fdiv ?_ ?_
          · with_reducible refine de_ix hr ?_ ?_ ?_
            · exact fun _ _ => rfl
            · exact gv 0
            exact de_int
          exact gv 1
        refine dss_cons ?_ ?_
        · refine sRet ?_
          exact gv 3
        exact dss_nil
      exact dss_nil
    refine dss_cons ?_ ?_
    · refine sIx hr ?_ ?_ ?_
      · exact gv 0
      · exact de_int
      refine de_op op2_add ?_ ?_
      · with_reducible refine de_ix hr ?_ ?_ ?_
        · exact fun _ _ => rfl
        · exact gv 0
        exact de_int
      exact de_int
    refine dss_cons ?_ ?_
    · refine sSet 2 ?_ ?_
      · exact nd__law_take
      refine de_op op2_mod ?_ ?_
      · refine gTy dc_int T.z_int (by decide +kernel) ?_
        refine gA ?_ ?_
        · refine de_op op2_pow ?_ ?_
          · refine de_op op2_add ?_ ?_
            · refine de_op op2_add ?_ ?_
              · with_reducible refine de_ix hr ?_ ?_ ?_
                · exact fun _ _ => rfl
                · exact gv 0
                exact de_int
              refine de_op op2_mul ?_ ?_
              · exact de_int
              with_reducible refine de_ix hr ?_ ?_ ?_
              · exact fun _ _ => rfl
              · exact gv 0
              exact de_int
            exact de_int
          exact de_int
        exact da_nil
      exact de_int
    refine dss_cons ?_ ?_
    · refine sRet ?_
      refine de_op op2_mod ?_ ?_
      · refine de_op op2_mod ?_ ?_
        · refine gTy dc_int T.z_int (by decide +kernel) ?_
          refine gA ?_ ?_
          · refine de_op op2_mul ?_ ?_
            · refine de_op op2_add ?_ ?_
              · exact gv 2
              with_reducible refine de_ix hr ?_ ?_ ?_
              · exact fun _ _ => rfl
              · exact gv 0
              exact de_int
            exact de_int
          exact da_nil
        exact de_int
      exact gv 1
    exact dss_nil)
theorem nd__law_thing : (["_law_pool_here"] : List Str).Nodup := by decide +kernel
theorem sc__law_thing : FnScope ["_law_pool_here"] ["_law_pool_here"] (defScope st__law_thing) := ⟨rfl, rfl, rfl, nd__law_thing, rfl, by decide +kernel, by decide +kernel⟩
theorem ok__law_thing (T : Tx K mg) : FnOk P w K mg base (L2.CX P w) 2 T.a__law_thing T.d__law_thing ["_law_pool_here"] (spD (T.cl w) K 1 F__law_thing) :=
  fn_ok (k := 1) T.f__law_thing sc__law_thing (fun cdv A outer s H E hr => by
    refine dss_cons ?_ ?_
    · refine sRet ?_
      with_reducible refine de_ix hr ?_ ?_ ?_
      · exact fun _ _ => rfl
      · refine gFr ?_
        refine gLst ?_
        refine gA ?_ ?_
        · exact de_non
        refine gA ?_ ?_
        · exact de_bl
        refine gA ?_ ?_
        · exact de_bl
        refine gA ?_ ?_
        · exact de_int
        refine gA ?_ ?_
        · refine de_neg ?_
          exact de_int
        refine gA ?_ ?_
        · refine de_op op2_pow ?_ ?_
          · exact de_int
          exact de_int
        refine gA ?_ ?_
        · exact de_str
        refine gA ?_ ?_
        · exact de_str
        refine gA ?_ ?_
        · refine gTup ?_
          refine gA ?_ ?_
          · exact de_str
          refine gA ?_ ?_
          · exact de_int
          exact da_nil
        refine gA ?_ ?_
        · refine gFr ?_
          refine gLst ?_
          refine gA ?_ ?_
          · exact de_str
          refine gA ?_ ?_
          · refine gFr ?_
            refine gLst ?_
            refine gA ?_ ?_
            · exact de_int
            exact da_nil
          exact da_nil
        refine gA ?_ ?_
        · refine gFr ?_
          refine gDict1 ?_ ?_
          · exact de_str
          refine gFr ?_
          refine gLst ?_
          exact da_nil
        refine gA ?_ ?_
        · exact de_int
        exact da_nil
      refine gCall (ok__law_take T) (hr.mono (by decide)) T.m__law_take T.f__law_take.kp T.b__law_take (len_cons (len_cons len_nil)) ?_
      refine gA ?_ ?_
      · exact gv 0
      refine gA ?_ ?_
      · exact de_int
      exact da_nil
    exact dss_nil)
theorem nd__law_by_name : (["_law_x", "_law_found"] : List Str).Nodup := by decide +kernel
theorem sc__law_by_name : FnScope ["_law_x", "_law_found"] ["_law_x"] (defScope st__law_by_name) := ⟨rfl, rfl, rfl, nd__law_by_name, rfl, by decide +kernel, by decide +kernel⟩
theorem ok__law_by_name (T : Tx K mg) : FnOk P w K mg base (L2.CX P w) 3 T.a__law_by_name T.d__law_by_name ["_law_x"] (spD (T.cl w) K 1 F__law_by_name) :=
  fn_ok (k := 2) T.f__law_by_name sc__law_by_name (fun cdv A outer s H E hr => by
    refine dss_cons ?_ ?_
    · refine sSet 1 ?_ ?_
      · exact nd__law_by_name
      refine gFr ?_
      refine gLst ?_
      refine gA ?_ ?_
      · refine gMkXk rfl T.o_BadWeb T.n_BadWeb T.i_BadWeb T.y_BadWeb (ok_BadWeb_init T) (hr.mono (by decide)) T.kx_BadWeb T.m_BadWeb ?_
        exact gv 0
      refine gA ?_ ?_
      · refine gMkXk rfl T.o_UnknownCell T.n_UnknownCell T.i_UnknownCell T.y_UnknownCell (ok_UnknownCell_init T) (hr.mono (by decide)) T.kx_UnknownCell T.m_UnknownCell ?_
        exact gv 0
      refine gA ?_ ?_
      · refine gMkXk rfl T.o_BadProgram T.n_BadProgram T.i_BadProgram T.y_BadProgram (ok_BadProgram_init T) (hr.mono (by decide)) T.kx_BadProgram T.m_BadProgram ?_
        exact gv 0
      refine gA ?_ ?_
      · refine gMkXk rfl T.o_BadNumber T.n_BadNumber T.i_BadNumber T.y_BadNumber (ok_BadNumber_init T) (hr.mono (by decide)) T.kx_BadNumber T.m_BadNumber ?_
        exact gv 0
      exact da_nil
    refine dss_cons ?_ ?_
    · refine sSet 1 ?_ ?_
      · exact nd__law_by_name
      refine de_op op2_add ?_ ?_
      · exact gv 1
      refine gFr ?_
      refine gLst ?_
      refine gA ?_ ?_
      · refine gMkXk rfl T.o_BadRules T.n_BadRules T.i_BadRules T.y_BadRules (ok_BadRules_init T) (hr.mono (by decide)) T.kx_BadRules T.m_BadRules ?_
        exact gv 0
      refine gA ?_ ?_
      · refine gMkXk rfl T.o_BadWorth T.n_BadWorth T.i_BadWorth T.y_BadWorth (ok_BadWorth_init T) (hr.mono (by decide)) T.kx_BadWorth T.m_BadWorth ?_
        exact gv 0
      refine gA ?_ ?_
      · refine gMkXk rfl T.o_BadName T.n_BadName T.i_BadName T.y_BadName (ok_BadName_init T) (hr.mono (by decide)) T.kx_BadName T.m_BadName ?_
        exact gv 0
      refine gA ?_ ?_
      · refine gMkXk rfl T.o_Held T.n_Held T.i_Held T.y_Held (ok_Held_init T) (hr.mono (by decide)) T.kx_Held T.m_Held ?_
        exact gv 0
      refine gA ?_ ?_
      · refine gMkXk rfl T.o_NotHeld T.n_NotHeld T.i_NotHeld T.y_NotHeld (ok_NotHeld_init T) (hr.mono (by decide)) T.kx_NotHeld T.m_NotHeld ?_
        exact gv 0
      exact da_nil
    refine dss_cons ?_ ?_
    · refine sSet 1 ?_ ?_
      · exact nd__law_by_name
      refine de_op op2_add ?_ ?_
      · exact gv 1
      refine gFr ?_
      refine gLst ?_
      refine gA ?_ ?_
      · refine gMkXk rfl T.o_BadDeed T.n_BadDeed T.i_BadDeed T.y_BadDeed (ok_BadDeed_init T) (hr.mono (by decide)) T.kx_BadDeed T.m_BadDeed ?_
        exact gv 0
      refine gA ?_ ?_
      · refine gMkXk rfl T.o_Taken T.n_Taken T.i_Taken T.y_Taken (ok_Taken_init T) (hr.mono (by decide)) T.kx_Taken T.m_Taken ?_
        exact gv 0
      refine gA ?_ ?_
      · refine gMkXk rfl T.o_Used T.n_Used T.i_Used T.y_Used (ok_Used_init T) (hr.mono (by decide)) T.kx_Used T.m_Used ?_
        exact gv 0
      refine gA ?_ ?_
      · refine gMkXk rfl T.o_Ringed T.n_Ringed T.i_Ringed T.y_Ringed (ok_Ringed_init T) (hr.mono (by decide)) T.kx_Ringed T.m_Ringed ?_
        exact gv 0
      refine gA ?_ ?_
      · refine gMkXk rfl T.o_TooFew T.n_TooFew T.i_TooFew T.y_TooFew (ok_TooFew_init T) (hr.mono (by decide)) T.kx_TooFew T.m_TooFew ?_
        exact gv 0
      exact da_nil
    refine dss_cons ?_ ?_
    · refine sSet 1 ?_ ?_
      · exact nd__law_by_name
      refine de_op op2_add ?_ ?_
      · exact gv 1
      refine gFr ?_
      refine gLst ?_
      refine gA ?_ ?_
      · refine gMkXk rfl T.o_MarkRing T.n_MarkRing T.i_MarkRing T.y_MarkRing (ok_MarkRing_init T) (hr.mono (by decide)) T.kx_MarkRing T.m_MarkRing ?_
        exact gv 0
      refine gA ?_ ?_
      · refine gMkXk rfl T.o_NoSuch T.n_NoSuch T.i_NoSuch T.y_NoSuch (ok_NoSuch_init T) (hr.mono (by decide)) T.kx_NoSuch T.m_NoSuch ?_
        exact gv 0
      refine gA ?_ ?_
      · refine gMkXk rfl T.o_BadActs T.n_BadActs T.i_BadActs T.y_BadActs (ok_BadActs_init T) (hr.mono (by decide)) T.kx_BadActs T.m_BadActs ?_
        exact gv 0
      refine gA ?_ ?_
      · refine gMkXk rfl T.o_NoLot T.n_NoLot T.i_NoLot T.y_NoLot (ok_NoLot_init T) (hr.mono (by decide)) T.kx_NoLot T.m_NoLot ?_
        exact gv 0
      refine gA ?_ ?_
      · refine gMkXk rfl T.o_BadArrow T.n_BadArrow T.i_BadArrow T.y_BadArrow (ok_BadArrow_init T) (hr.mono (by decide)) T.kx_BadArrow T.m_BadArrow ?_
        exact gv 0
      exact da_nil
    refine dss_cons ?_ ?_
    · refine sSet 1 ?_ ?_
      · exact nd__law_by_name
      refine de_op op2_add ?_ ?_
      · exact gv 1
      refine gFr ?_
      refine gLst ?_
      refine gA ?_ ?_
      · refine gMkXk rfl T.o_BadText T.n_BadText T.i_BadText T.y_BadText (ok_BadText_init T) (hr.mono (by decide)) T.kx_BadText T.m_BadText ?_
        exact gv 0
      exact da_nil
    refine dss_cons ?_ ?_
    · refine sRet ?_
      exact gv 1
    exact dss_nil)
theorem nd__law_by_place : (["_law_x", "_law_found"] : List Str).Nodup := by decide +kernel
theorem sc__law_by_place : FnScope ["_law_x", "_law_found"] ["_law_x"] (defScope st__law_by_place) := ⟨rfl, rfl, rfl, nd__law_by_place, rfl, by decide +kernel, by decide +kernel⟩
theorem ok__law_by_place (T : Tx K mg) : FnOk P w K mg base (L2.CX P w) 3 T.a__law_by_place T.d__law_by_place ["_law_x"] (spD (T.cl w) K 1 F__law_by_place) :=
  fn_ok (k := 2) T.f__law_by_place sc__law_by_place (fun cdv A outer s H E hr => by
    refine dss_cons ?_ ?_
    · refine sSet 1 ?_ ?_
      · exact nd__law_by_place
      refine gFr ?_
      refine gLst ?_
      refine gA ?_ ?_
      · refine gMkX rfl T.o_BadWeb T.n_BadWeb T.i_BadWeb T.y_BadWeb (ok_BadWeb_init T) (hr.mono (by decide)) T.b_BadWeb_init T.m_BadWeb ?_
        exact gv 0
      refine gA ?_ ?_
      · refine gMkX rfl T.o_UnknownCell T.n_UnknownCell T.i_UnknownCell T.y_UnknownCell (ok_UnknownCell_init T) (hr.mono (by decide)) T.b_UnknownCell_init T.m_UnknownCell ?_
        exact gv 0
      refine gA ?_ ?_
      · refine gMkX rfl T.o_BadProgram T.n_BadProgram T.i_BadProgram T.y_BadProgram (ok_BadProgram_init T) (hr.mono (by decide)) T.b_BadProgram_init T.m_BadProgram ?_
        exact gv 0
      refine gA ?_ ?_
      · refine gMkX rfl T.o_BadNumber T.n_BadNumber T.i_BadNumber T.y_BadNumber (ok_BadNumber_init T) (hr.mono (by decide)) T.b_BadNumber_init T.m_BadNumber ?_
        exact gv 0
      refine gA ?_ ?_
      · refine gMkX rfl T.o_BadRules T.n_BadRules T.i_BadRules T.y_BadRules (ok_BadRules_init T) (hr.mono (by decide)) T.b_BadRules_init T.m_BadRules ?_
        exact gv 0
      refine gA ?_ ?_
      · refine gMkX rfl T.o_BadWorth T.n_BadWorth T.i_BadWorth T.y_BadWorth (ok_BadWorth_init T) (hr.mono (by decide)) T.b_BadWorth_init T.m_BadWorth ?_
        exact gv 0
      refine gA ?_ ?_
      · refine gMkX rfl T.o_BadName T.n_BadName T.i_BadName T.y_BadName (ok_BadName_init T) (hr.mono (by decide)) T.b_BadName_init T.m_BadName ?_
        exact gv 0
      exact da_nil
    refine dss_cons ?_ ?_
    · refine sSet 1 ?_ ?_
      · exact nd__law_by_place
      refine de_op op2_add ?_ ?_
      · exact gv 1
      refine gFr ?_
      refine gLst ?_
      refine gA ?_ ?_
      · refine gMkX rfl T.o_Held T.n_Held T.i_Held T.y_Held (ok_Held_init T) (hr.mono (by decide)) T.b_Held_init T.m_Held ?_
        exact gv 0
      refine gA ?_ ?_
      · refine gMkX rfl T.o_NotHeld T.n_NotHeld T.i_NotHeld T.y_NotHeld (ok_NotHeld_init T) (hr.mono (by decide)) T.b_NotHeld_init T.m_NotHeld ?_
        exact gv 0
      refine gA ?_ ?_
      · refine gMkX rfl T.o_BadDeed T.n_BadDeed T.i_BadDeed T.y_BadDeed (ok_BadDeed_init T) (hr.mono (by decide)) T.b_BadDeed_init T.m_BadDeed ?_
        exact gv 0
      refine gA ?_ ?_
      · refine gMkX rfl T.o_Taken T.n_Taken T.i_Taken T.y_Taken (ok_Taken_init T) (hr.mono (by decide)) T.b_Taken_init T.m_Taken ?_
        exact gv 0
      refine gA ?_ ?_
      · refine gMkX rfl T.o_Used T.n_Used T.i_Used T.y_Used (ok_Used_init T) (hr.mono (by decide)) T.b_Used_init T.m_Used ?_
        exact gv 0
      refine gA ?_ ?_
      · refine gMkX rfl T.o_Ringed T.n_Ringed T.i_Ringed T.y_Ringed (ok_Ringed_init T) (hr.mono (by decide)) T.b_Ringed_init T.m_Ringed ?_
        exact gv 0
      refine gA ?_ ?_
      · refine gMkX rfl T.o_TooFew T.n_TooFew T.i_TooFew T.y_TooFew (ok_TooFew_init T) (hr.mono (by decide)) T.b_TooFew_init T.m_TooFew ?_
        exact gv 0
      refine gA ?_ ?_
      · refine gMkX rfl T.o_MarkRing T.n_MarkRing T.i_MarkRing T.y_MarkRing (ok_MarkRing_init T) (hr.mono (by decide)) T.b_MarkRing_init T.m_MarkRing ?_
        exact gv 0
      exact da_nil
    refine dss_cons ?_ ?_
    · refine sSet 1 ?_ ?_
      · exact nd__law_by_place
      refine de_op op2_add ?_ ?_
      · exact gv 1
      refine gFr ?_
      refine gLst ?_
      refine gA ?_ ?_
      · refine gMkX rfl T.o_NoSuch T.n_NoSuch T.i_NoSuch T.y_NoSuch (ok_NoSuch_init T) (hr.mono (by decide)) T.b_NoSuch_init T.m_NoSuch ?_
        exact gv 0
      refine gA ?_ ?_
      · refine gMkX rfl T.o_BadActs T.n_BadActs T.i_BadActs T.y_BadActs (ok_BadActs_init T) (hr.mono (by decide)) T.b_BadActs_init T.m_BadActs ?_
        exact gv 0
      refine gA ?_ ?_
      · refine gMkX rfl T.o_NoLot T.n_NoLot T.i_NoLot T.y_NoLot (ok_NoLot_init T) (hr.mono (by decide)) T.b_NoLot_init T.m_NoLot ?_
        exact gv 0
      refine gA ?_ ?_
      · refine gMkX rfl T.o_BadArrow T.n_BadArrow T.i_BadArrow T.y_BadArrow (ok_BadArrow_init T) (hr.mono (by decide)) T.b_BadArrow_init T.m_BadArrow ?_
        exact gv 0
      refine gA ?_ ?_
      · refine gMkX rfl T.o_BadText T.n_BadText T.i_BadText T.y_BadText (ok_BadText_init T) (hr.mono (by decide)) T.b_BadText_init T.m_BadText ?_
        exact gv 0
      exact da_nil
    refine dss_cons ?_ ?_
    · refine sRet ?_
      exact gv 1
    exact dss_nil)
theorem nd__law_held : (["_law_e", "_law_found"] : List Str).Nodup := by decide +kernel
theorem sc__law_held : FnScope ["_law_e", "_law_found"] ["_law_e"] (defScope st__law_held) := ⟨rfl, rfl, rfl, nd__law_held, rfl, by decide +kernel, by decide +kernel⟩
theorem ok__law_held (T : Tx K mg) : FnOk P w K mg base (L2.CX P w) 1 T.a__law_held T.d__law_held ["_law_e"] (spD (T.cl w) K 1 F__law_held) :=
  fn_ok (k := 0) T.f__law_held sc__law_held (fun cdv A outer s H E hr => by
    refine dss_cons ?_ ?_
    · refine sSet 1 ?_ ?_
      · exact nd__law_held
      refine gFr ?_
      refine gLst ?_
      refine gA ?_ ?_
      · refine gXv (xv_index _ T) ?_
        with_reducible refine de_ix hr ?_ ?_ ?_
        · exact fun _ _ => rfl
        · exact gv 0
        exact de_int
      refine gA ?_ ?_
      · refine gXv (xv_cell _ T) ?_
        with_reducible refine de_ix hr ?_ ?_ ?_
        · exact fun _ _ => rfl
        · exact gv 0
        exact de_int
      refine gA ?_ ?_
      · refine gXv (xv_index _ T) ?_
        with_reducible refine de_ix hr ?_ ?_ ?_
        · exact fun _ _ => rfl
        · exact gv 0
        exact de_int
      refine gA ?_ ?_
      · refine gXv (xv_number _ T) ?_
        with_reducible refine de_ix hr ?_ ?_ ?_
        · exact fun _ _ => rfl
        · exact gv 0
        exact de_int
      refine gA ?_ ?_
      · refine gXv (xv_cell _ T) ?_
        with_reducible refine de_ix hr ?_ ?_ ?_
        · exact fun _ _ => rfl
        · exact gv 0
        exact de_int
      refine gA ?_ ?_
      · refine gXv (xv_cell _ T) ?_
        with_reducible refine de_ix hr ?_ ?_ ?_
        · exact fun _ _ => rfl
        · exact gv 0
        exact de_int
      refine gA ?_ ?_
      · refine gXv (xv_name _ T) ?_
        with_reducible refine de_ix hr ?_ ?_ ?_
        · exact fun _ _ => rfl
        · exact gv 0
        exact de_int
      refine gA ?_ ?_
      · refine gXv (xv_name _ T) ?_
        with_reducible refine de_ix hr ?_ ?_ ?_
        · exact fun _ _ => rfl
        · exact gv 0
        exact de_int
      exact da_nil
    refine dss_cons ?_ ?_
    · refine sSet 1 ?_ ?_
      · exact nd__law_held
      refine de_op op2_add ?_ ?_
      · exact gv 1
      refine gFr ?_
      refine gLst ?_
      refine gA ?_ ?_
      · refine gXv (xv_name _ T) ?_
        with_reducible refine de_ix hr ?_ ?_ ?_
        · exact fun _ _ => rfl
        · exact gv 0
        exact de_int
      refine gA ?_ ?_
      · refine gXv (xv_deed _ T) ?_
        with_reducible refine de_ix hr ?_ ?_ ?_
        · exact fun _ _ => rfl
        · exact gv 0
        exact de_int
      refine gA ?_ ?_
      · refine gXv (xv_name _ T) ?_
        with_reducible refine de_ix hr ?_ ?_ ?_
        · exact fun _ _ => rfl
        · exact gv 0
        exact de_int
      refine gA ?_ ?_
      · refine gXv (xv_cell _ T) ?_
        with_reducible refine de_ix hr ?_ ?_ ?_
        · exact fun _ _ => rfl
        · exact gv 0
        exact de_int
      refine gA ?_ ?_
      · refine gXv (xv_ring _ T) ?_
        with_reducible refine de_ix hr ?_ ?_ ?_
        · exact fun _ _ => rfl
        · exact gv 0
        exact de_int
      refine gA ?_ ?_
      · refine gXv (xv_number _ T) ?_
        with_reducible refine de_ix hr ?_ ?_ ?_
        · exact fun _ _ => rfl
        · exact gv 0
        exact de_int
      refine gA ?_ ?_
      · refine gXv (xv_arrows _ T) ?_
        with_reducible refine de_ix hr ?_ ?_ ?_
        · exact fun _ _ => rfl
        · exact gv 0
        exact de_int
      exact da_nil
    refine dss_cons ?_ ?_
    · refine sSet 1 ?_ ?_
      · exact nd__law_held
      refine de_op op2_add ?_ ?_
      · exact gv 1
      refine gFr ?_
      refine gLst ?_
      refine gA ?_ ?_
      · refine gXv (xv_number _ T) ?_
        with_reducible refine de_ix hr ?_ ?_ ?_
        · exact fun _ _ => rfl
        · exact gv 0
        exact de_int
      refine gA ?_ ?_
      · refine gXv (xv_index _ T) ?_
        with_reducible refine de_ix hr ?_ ?_ ?_
        · exact fun _ _ => rfl
        · exact gv 0
        exact de_int
      refine gA ?_ ?_
      · refine gXv (xv_index _ T) ?_
        with_reducible refine de_ix hr ?_ ?_ ?_
        · exact fun _ _ => rfl
        · exact gv 0
        exact de_int
      refine gA ?_ ?_
      · refine gXv (xv_index _ T) ?_
        with_reducible refine de_ix hr ?_ ?_ ?_
        · exact fun _ _ => rfl
        · exact gv 0
        exact de_int
      refine gA ?_ ?_
      · refine gXv (xv_line _ T) ?_
        with_reducible refine de_ix hr ?_ ?_ ?_
        · exact fun _ _ => rfl
        · exact gv 0
        exact de_int
      exact da_nil
    refine dss_cons ?_ ?_
    · refine sRet ?_
      exact gv 1
    exact dss_nil)
theorem nd__law_is_same : (["_law_one", "_law_other"] : List Str).Nodup := by decide +kernel
theorem sc__law_is_same : FnScope ["_law_one", "_law_other"] ["_law_one", "_law_other"] (defScope st__law_is_same) := ⟨rfl, rfl, rfl, nd__law_is_same, rfl, by decide +kernel, by decide +kernel⟩
theorem ok__law_is_same (T : Tx K mg) : FnOk P w K mg base (L2.CX P w) 1 T.a__law_is_same T.d__law_is_same ["_law_one", "_law_other"] (spD (T.cl w) K 2 F__law_is_same) :=
  fn_ok (k := 0) T.f__law_is_same sc__law_is_same (fun cdv A outer s H E hr => by
    refine dss_cons ?_ ?_
    · refine sRet ?_
      refine de_and ?_ ?_
      · refine gCmp (op5_eq hr) ?_ ?_
        · exact gv 0
        exact gv 1
      refine de_one ?_
      refine gCmp (op2_eq hr) ?_ ?_
      · refine gIsi1 T.z_isinstance T.z_bool (kit_ok (by decide +kernel)) (by decide +kernel) ?_
        exact gv 0
      refine gIsi1 T.z_isinstance T.z_bool (kit_ok (by decide +kernel)) (by decide +kernel) ?_
      exact gv 1
    exact dss_nil)
theorem nd__law_others : (["_law_found"] : List Str).Nodup := by decide +kernel
theorem sc__law_others : FnScope ["_law_found"] [] (defScope st__law_others) := ⟨rfl, rfl, rfl, nd__law_others, rfl, by decide +kernel, by decide +kernel⟩
theorem ok__law_others (T : Tx K mg) : FnOk P w K mg base (L2.CX P w) 3 T.a__law_others T.d__law_others [] (spD (T.cl w) K 0 F__law_others) :=
  by
  have z := fn_ok (k := 2) (P := P) (w := w) (mg := mg) (base := base) (cl := T.cl w) (body := s__law_others) T.f__law_others sc__law_others (fun cdv A outer s H E hr => by
    refine dss_cons ?_ ?_
    · refine sSet 0 ?_ ?_
      · exact nd__law_others
      refine gFr ?_
      refine gLst ?_
      refine gA ?_ ?_
      · exact gMkX0 rfl T.o_NoDeed T.i_NoDeed T.y_NoDeed (ok_NoDeed_init T) (hr.mono (by decide)) T.b_NoDeed_init T.m_NoDeed
      refine gA ?_ ?_
      · exact gMkX0 rfl T.o_BadTable T.i_BadTable T.y_BadTable (ok_BadTable_init T) (hr.mono (by decide)) T.b_BadTable_init T.m_BadTable
      refine gA ?_ ?_
      · exact gMkX0 rfl T.o_NotSweep T.i_NotSweep T.y_NotSweep (ok_NotSweep_init T) (hr.mono (by decide)) T.b_NotSweep_init T.m_NotSweep
      refine gA ?_ ?_
      · exact gMkX0 rfl T.o_BadMarks T.i_BadMarks T.y_BadMarks (ok_BadMarks_init T) (hr.mono (by decide)) T.b_BadMarks_init T.m_BadMarks
      refine gA ?_ ?_
      · exact gMkX0 rfl T.o_Unlike T.i_Unlike T.y_Unlike (ok_Unlike_init T) (hr.mono (by decide)) T.b_Unlike_init T.m_Unlike
      refine gA ?_ ?_
      · exact gMkX0 rfl T.o_BadCells T.i_BadCells T.y_BadCells (ok_BadCells_init T) (hr.mono (by decide)) T.b_BadCells_init T.m_BadCells
      refine gA ?_ ?_
      · exact gMkX0 rfl T.o_BadPiece T.i_BadPiece T.y_BadPiece (ok_BadPiece_init T) (hr.mono (by decide)) T.b_BadPiece_init T.m_BadPiece
      refine gA ?_ ?_
      · exact gMkX0 rfl T.o_BadWave T.i_BadWave T.y_BadWave (ok_BadWave_init T) (hr.mono (by decide)) T.b_BadWave_init T.m_BadWave
      exact da_nil
    refine dss_cons ?_ ?_
    · refine sRet ?_
      exact gv 0
    exact dss_nil)
  unfold F__law_others
  exact z
theorem nd__law_classes : (["_law_e", "_law_found"] : List Str).Nodup := by decide +kernel
theorem sc__law_classes : FnScope ["_law_e", "_law_found"] ["_law_e"] (defScope st__law_classes) := ⟨rfl, rfl, rfl, nd__law_classes, rfl, by decide +kernel, by decide +kernel⟩
theorem ok__law_classes (T : Tx K mg) : FnOk P w K mg base (L2.CX P w) 1 T.a__law_classes T.d__law_classes ["_law_e"] (spD (T.cl w) K 1 F__law_classes) :=
  fn_ok (k := 0) T.f__law_classes sc__law_classes (fun cdv A outer s H E hr => by
    refine dss_cons ?_ ?_
    · refine sSet 1 ?_ ?_
      · exact nd__law_classes
      refine gFr ?_
      refine gLst ?_
      refine gA ?_ ?_
      · refine de_isX T.z_isinstance T.m_BadWeb (isX_of (clx01 _ T) T.ezb T.ixb (pm01_BadWeb T)) ?_
        exact gv 0
      refine gA ?_ ?_
      · refine de_isX T.z_isinstance T.m_UnknownCell (isX_of (clx01 _ T) T.ezb T.ixb (pm01_UnknownCell T)) ?_
        exact gv 0
      refine gA ?_ ?_
      · refine de_isX T.z_isinstance T.m_BadProgram (isX_of (clx01 _ T) T.ezb T.ixb (pm01_BadProgram T)) ?_
        exact gv 0
      exact da_nil
    refine dss_cons ?_ ?_
    · refine sSet 1 ?_ ?_
      · exact nd__law_classes
      refine de_op op2_add ?_ ?_
      · exact gv 1
      refine gFr ?_
      refine gLst ?_
      refine gA ?_ ?_
      · refine de_isX T.z_isinstance T.m_BadNumber (isX_of (clx01 _ T) T.ezb T.ixb (pm01_BadNumber T)) ?_
        exact gv 0
      refine gA ?_ ?_
      · refine de_isX T.z_isinstance T.m_BadRules (isX_of (clx01 _ T) T.ezb T.ixb (pm01_BadRules T)) ?_
        exact gv 0
      refine gA ?_ ?_
      · refine de_isX T.z_isinstance T.m_BadWorth (isX_of (clx01 _ T) T.ezb T.ixb (pm01_BadWorth T)) ?_
        exact gv 0
      exact da_nil
    refine dss_cons ?_ ?_
    · refine sSet 1 ?_ ?_
      · exact nd__law_classes
      refine de_op op2_add ?_ ?_
      · exact gv 1
      refine gFr ?_
      refine gLst ?_
      refine gA ?_ ?_
      · refine de_isX T.z_isinstance T.m_BadName (isX_of (clx01 _ T) T.ezb T.ixb (pm01_BadName T)) ?_
        exact gv 0
      refine gA ?_ ?_
      · refine de_isX T.z_isinstance T.m_Held (isX_of (clx01 _ T) T.ezb T.ixb (pm01_Held T)) ?_
        exact gv 0
      refine gA ?_ ?_
      · refine de_isX T.z_isinstance T.m_NotHeld (isX_of (clx01 _ T) T.ezb T.ixb (pm01_NotHeld T)) ?_
        exact gv 0
      refine gA ?_ ?_
      · refine de_isX T.z_isinstance T.m_BadDeed (isX_of (clx01 _ T) T.ezb T.ixb (pm01_BadDeed T)) ?_
        exact gv 0
      exact da_nil
    refine dss_cons ?_ ?_
    · refine sSet 1 ?_ ?_
      · exact nd__law_classes
      refine de_op op2_add ?_ ?_
      · exact gv 1
      refine gFr ?_
      refine gLst ?_
      refine gA ?_ ?_
      · refine de_isX T.z_isinstance T.m_Taken (isX_of (clx01 _ T) T.ezb T.ixb (pm01_Taken T)) ?_
        exact gv 0
      refine gA ?_ ?_
      · refine de_isX T.z_isinstance T.m_Used (isX_of (clx01 _ T) T.ezb T.ixb (pm01_Used T)) ?_
        exact gv 0
      refine gA ?_ ?_
      · refine de_isX T.z_isinstance T.m_Ringed (isX_of (clx01 _ T) T.ezb T.ixb (pm01_Ringed T)) ?_
        exact gv 0
      refine gA ?_ ?_
      · refine de_isX T.z_isinstance T.m_TooFew (isX_of (clx01 _ T) T.ezb T.ixb (pm01_TooFew T)) ?_
        exact gv 0
      exact da_nil
    refine dss_cons ?_ ?_
    · refine sSet 1 ?_ ?_
      · exact nd__law_classes
      refine de_op op2_add ?_ ?_
      · exact gv 1
      refine gFr ?_
      refine gLst ?_
      refine gA ?_ ?_
      · refine de_isX T.z_isinstance T.m_MarkRing (isX_of (clx01 _ T) T.ezb T.ixb (pm01_MarkRing T)) ?_
        exact gv 0
      refine gA ?_ ?_
      · refine de_isX T.z_isinstance T.m_NoSuch (isX_of (clx01 _ T) T.ezb T.ixb (pm01_NoSuch T)) ?_
        exact gv 0
      refine gA ?_ ?_
      · refine de_isX T.z_isinstance T.m_BadActs (isX_of (clx01 _ T) T.ezb T.ixb (pm01_BadActs T)) ?_
        exact gv 0
      refine gA ?_ ?_
      · refine de_isX T.z_isinstance T.m_NoLot (isX_of (clx01 _ T) T.ezb T.ixb (pm01_NoLot T)) ?_
        exact gv 0
      exact da_nil
    refine dss_cons ?_ ?_
    · refine sSet 1 ?_ ?_
      · exact nd__law_classes
      refine de_op op2_add ?_ ?_
      · exact gv 1
      refine gFr ?_
      refine gLst ?_
      refine gA ?_ ?_
      · refine de_isX T.z_isinstance T.m_BadArrow (isX_of (clx01 _ T) T.ezb T.ixb (pm01_BadArrow T)) ?_
        exact gv 0
      refine gA ?_ ?_
      · refine de_isX T.z_isinstance T.m_BadText (isX_of (clx01 _ T) T.ezb T.ixb (pm01_BadText T)) ?_
        exact gv 0
      refine gA ?_ ?_
      · refine de_isX T.z_isinstance T.m_NoDeed (isX_of (clx01 _ T) T.ezb T.ixb (pm01_NoDeed T)) ?_
        exact gv 0
      exact da_nil
    refine dss_cons ?_ ?_
    · refine sSet 1 ?_ ?_
      · exact nd__law_classes
      refine de_op op2_add ?_ ?_
      · exact gv 1
      refine gFr ?_
      refine gLst ?_
      refine gA ?_ ?_
      · refine de_isX T.z_isinstance T.m_BadTable (isX_of (clx01 _ T) T.ezb T.ixb (pm01_BadTable T)) ?_
        exact gv 0
      refine gA ?_ ?_
      · refine de_isX T.z_isinstance T.m_NotSweep (isX_of (clx01 _ T) T.ezb T.ixb (pm01_NotSweep T)) ?_
        exact gv 0
      refine gA ?_ ?_
      · refine de_isX T.z_isinstance T.m_BadMarks (isX_of (clx01 _ T) T.ezb T.ixb (pm01_BadMarks T)) ?_
        exact gv 0
      exact da_nil
    refine dss_cons ?_ ?_
    · refine sSet 1 ?_ ?_
      · exact nd__law_classes
      refine de_op op2_add ?_ ?_
      · exact gv 1
      refine gFr ?_
      refine gLst ?_
      refine gA ?_ ?_
      · refine de_isX T.z_isinstance T.m_Unlike (isX_of (clx01 _ T) T.ezb T.ixb (pm01_Unlike T)) ?_
        exact gv 0
      refine gA ?_ ?_
      · refine de_isX T.z_isinstance T.m_BadCells (isX_of (clx01 _ T) T.ezb T.ixb (pm01_BadCells T)) ?_
        exact gv 0
      refine gA ?_ ?_
      · refine de_isX T.z_isinstance T.m_BadPiece (isX_of (clx01 _ T) T.ezb T.ixb (pm01_BadPiece T)) ?_
        exact gv 0
      exact da_nil
    refine dss_cons ?_ ?_
    · refine sSet 1 ?_ ?_
      · exact nd__law_classes
      refine de_op op2_add ?_ ?_
      · exact gv 1
      refine gFr ?_
      refine gLst ?_
      refine gA ?_ ?_
      · refine de_isX T.z_isinstance T.m_BadWave (isX_of (clx01 _ T) T.ezb T.ixb (pm01_BadWave T)) ?_
        exact gv 0
      exact da_nil
    refine dss_cons ?_ ?_
    · refine sRet ?_
      exact gv 1
    exact dss_nil)
theorem nd_law : (["_law_script", "_law_k", "_law_pool_here", "_law_x", "_law_y", "_law_made", "_law_found", "_law_due", "_law_errors", "_law_at", "_law_kept", "_law_j"] : List Str).Nodup := by decide +kernel
theorem sc_law : FnScope ["_law_script", "_law_k", "_law_pool_here", "_law_x", "_law_y", "_law_made", "_law_found", "_law_due", "_law_errors", "_law_at", "_law_kept", "_law_j"] ["_law_script"] (defScope st_law) := ⟨rfl, rfl, rfl, nd_law, rfl, by decide +kernel, by decide +kernel⟩
theorem ok_law (T : Tx K mg) : FnOk P w K mg base (L2.CX P w) 4 T.a_law T.d_law ["_law_script"] (spD (T.cl w) K 1 F_law) :=
  fn_ok (k := 3) T.f_law sc_law (fun cdv A outer s H E hr => by
    refine dss_wp ?_
    refine dss_cons ?_ ?_
    · refine sFor (vs := [1]) rfl put_quiet ?_ ?_ ?_
      · refine iR1 T.z_range ?_
        refine gA ?_ ?_
        · exact de_int
        exact da_nil
      · refine gN 1 ?_
        exact nd_law
      refine dss_wpE ?_
      refine dss_cons ?_ ?_
      · refine sCell 2 ?_ ?_
        · exact nd_law
        refine gCallF (ok__law_pool T) (hr.mono (by decide)) T.m__law_pool T.f__law_pool.kp T.b__law_pool (len_cons len_nil) ?_
        refine gA ?_ ?_
        · refine de_op op2_add ?_ ?_
          · refine gCall (ok__law_cell T) (hr.mono (by decide)) T.m__law_cell T.f__law_cell.kp T.b__law_cell (len_cons (len_cons len_nil)) ?_
            refine gA ?_ ?_
            · exact gv 0
            refine gA ?_ ?_
            · exact gv 1
            exact da_nil
          exact gv 1
        exact da_nil
      refine dss_cons ?_ ?_
      · refine sPar2 3 4 rfl ?_ ?_
        · exact nd_law
        refine gA ?_ ?_
        · refine gCall (ok__law_thing T) (hr.mono (by decide)) T.m__law_thing T.f__law_thing.kp T.b__law_thing (len_cons len_nil) ?_
          refine gA ?_ ?_
          · exact gv 2
          exact da_nil
        refine gA ?_ ?_
        · refine gCall (ok__law_thing T) (hr.mono (by decide)) T.m__law_thing T.f__law_thing.kp T.b__law_thing (len_cons len_nil) ?_
          refine gA ?_ ?_
          · exact gv 2
          exact da_nil
        exact da_nil
      refine dss_cons ?_ ?_
      · refine sSet 5 ?_ ?_
        · exact nd_law
        refine gFr ?_
        refine gLst ?_
        refine gA ?_ ?_
        · refine gTup ?_
          refine gA ?_ ?_
          · refine gCall (ok__law_by_place T) (hr.mono (by decide)) T.m__law_by_place T.f__law_by_place.kp T.b__law_by_place (len_cons len_nil) ?_
            refine gA ?_ ?_
            · exact gv 3
            exact da_nil
          refine gA ?_ ?_
          · exact gv 3
          exact da_nil
        refine gA ?_ ?_
        · refine gTup ?_
          refine gA ?_ ?_
          · refine gCall (ok__law_by_place T) (hr.mono (by decide)) T.m__law_by_place T.f__law_by_place.kp T.b__law_by_place (len_cons len_nil) ?_
            refine gA ?_ ?_
            · exact gv 4
            exact da_nil
          refine gA ?_ ?_
          · exact gv 4
          exact da_nil
        refine gA ?_ ?_
        · refine gTup ?_
          refine gA ?_ ?_
          · refine gCall (ok__law_by_name T) (hr.mono (by decide)) T.m__law_by_name T.f__law_by_name.kp T.b__law_by_name (len_cons len_nil) ?_
            refine gA ?_ ?_
            · exact gv 3
            exact da_nil
          refine gA ?_ ?_
          · exact gv 3
          exact da_nil
        exact da_nil
      refine dss_wp ?_
      refine dss_cons ?_ ?_
      · refine sFor (vs := [6, 7]) rfl unpackA_quiet ?_ ?_ ?_
        · refine iS ?_
          exact gv 5
        · refine dg_tupA rfl ?_ (nmC 6 (nmC 7 .nil))
          exact nd_law
        refine dss_wpE ?_
        refine dss_cons ?_ ?_
        · refine ds_if ?_ ?_ ?_
          · refine dt_not ?_
            refine tV ?_
            refine gB (dc_all rfl) T.z_all (by decide +kernel) ?_
            refine gA ?_ ?_
            · refine gFr ?_
              refine gComp ?_ (own := [("_law_kept", 10)]) (blkOk_by rfl) ?_ ?_ (fun _ _ _ _ _ => .nil) ?_
              · exact nd_law
              · refine iS ?_
                refine gCall (ok__law_held T) (hr.mono (by decide)) T.m__law_held T.f__law_held.kp T.b__law_held (len_cons len_nil) ?_
                refine gA ?_ ?_
                · exact gv 6
                exact da_nil
              · exact fun _ _ _ _ _ => by
                  refine gN 10 ?_
                  exact nd_law
              exact fun _ _ _ _ _ => by
                refine gCall (ok__law_is_same T) (hr.mono (by decide)) T.m__law_is_same T.f__law_is_same.kp T.b__law_is_same (len_cons (len_cons len_nil)) ?_
                refine gA ?_ ?_
                · exact gv 10
                refine gA ?_ ?_
                · exact gv 7
                exact da_nil
            exact da_nil
          · refine dss_cons ?_ ?_
            · refine sRet ?_
              exact de_bl
            exact dss_nil
          exact dss_nil
        refine dss_cons ?_ ?_
        · refine sSet 8 ?_ ?_
          · exact nd_law
          refine de_op op2_add ?_ ?_
          · exact gv 6
          exact gCall0 (ok__law_others T) (hr.mono (by decide)) T.m__law_others T.f__law_others.kp T.b__law_others
        refine dss_wp ?_
        refine dss_cons ?_ ?_
        · refine sFor (vs := [9]) rfl put_quiet ?_ ?_ ?_
          · refine iR1 T.z_range ?_
            refine gA ?_ ?_
            · refine gB dc_len T.z_len (by decide +kernel) ?_
              refine gA ?_ ?_
              · exact gv 8
              exact da_nil
            exact da_nil
          · refine gN 9 ?_
            exact nd_law
          refine dss_wpE ?_
          refine dss_cons ?_ ?_
          · refine ds_if ?_ ?_ ?_
            · refine dt_w ?_
              refine dw_or ?_ ?_
              · refine dt_not ?_
                refine tV ?_
                refine de_isX T.z_isinstance T.m_LotError (isX_of (clx01 _ T) T.ezb T.ixb (pm01_LotError T)) ?_
                with_reducible refine de_ix hr ?_ ?_ ?_
                · exact fun _ _ => rfl
                · exact gv 8
                exact gv 9
              refine dw_or1 ?_
              refine dt_not ?_
              refine tV ?_
              refine de_isXV T.z_isinstance T.z_ValueError (by decide +kernel) (isXV01 _ T) ?_
              with_reducible refine de_ix hr ?_ ?_ ?_
              · exact fun _ _ => rfl
              · exact gv 8
              exact gv 9
            · refine dss_cons ?_ ?_
              · refine sRet ?_
                exact de_bl
              exact dss_nil
            exact dss_nil
          refine dss_cons ?_ ?_
          · refine ds_if ?_ ?_ ?_
            · refine tCmp (op2_ne hr) ?_ ?_
              · refine gCall (ok__law_classes T) (hr.mono (by decide)) T.m__law_classes T.f__law_classes.kp T.b__law_classes (len_cons len_nil) ?_
                refine gA ?_ ?_
                · with_reducible refine de_ix hr ?_ ?_ ?_
                  · exact fun _ _ => rfl
                  · exact gv 8
                  exact gv 9
                exact da_nil
              refine gFr ?_
              refine gComp ?_ (own := [("_law_j", 11)]) (blkOk_by rfl) ?_ ?_ (fun _ _ _ _ _ => .nil) ?_
              · exact nd_law
              · refine iR1 T.z_range ?_
                refine gA ?_ ?_
                · exact de_int
                exact da_nil
              · exact fun _ _ _ _ _ => by
                  refine gN 11 ?_
                  exact nd_law
              exact fun _ _ _ _ _ => by
                refine gCmp (op2_eq hr) ?_ ?_
                · exact gv 11
                exact gv 9
            · refine dss_cons ?_ ?_
              · refine sRet ?_
                exact de_bl
              exact dss_nil
            exact dss_nil
          exact dss_nil
        exact dss_nil
      exact dss_nil
    refine dss_cons ?_ ?_
    · refine sRet ?_
      refine de_and ?_ ?_
      · refine de_isXV T.z_isinstance T.z_ValueError (by decide +kernel) (isXV01 _ T) ?_
        exact gMkXB F.excBase_ValueError rfl T.x_LotError T.m_LotError T.k_LotError
      refine de_one ?_
      refine de_not ?_
      refine gB (dc_any rfl) T.z_any (by decide +kernel) ?_
      refine gA ?_ ?_
      · refine gCall (ok__law_classes T) (hr.mono (by decide)) T.m__law_classes T.f__law_classes.kp T.b__law_classes (len_cons len_nil) ?_
        refine gA ?_ ?_
        · exact gMkXB F.excBase_ValueError rfl T.x_LotError T.m_LotError T.k_LotError
        exact da_nil
      exact da_nil
    exact dss_nil)
end
end G01
namespace G01
open PySem PySem.Spec L2 Lf
theorem base_mk {K : PySem.W.Frag} {L : Addr} (h1 : PySem.W.readsIn K L (.type "type") = true) (h2 : PySem.W.findCls K (.ref L) (.type "type") "__init__" = some (.val (.builtin "ValueError.__init__"))) (h3 : PySem.W.specialIn K (.ref L) "__getattribute__" = some (some (.builtin "type.__getattribute__"))) : baseB K L = true := by
  unfold baseB
  rw [h1, h2, h3]
  simp
theorem tx_mk {K : PySem.W.Frag} {h : Heap} {mg : Str → Option Value} (X : K.In h) (G : h.Ns mainGlobals mg) {a__law_pool a__law_cell a__law_take a__law_thing a__law_by_name a__law_by_place a__law_held a__law_is_same a__law_others a__law_classes a_law a_LotError a_BadWeb a_BadWeb_init a_UnknownCell a_UnknownCell_init a_BadProgram a_BadProgram_init a_BadNumber a_BadNumber_init a_BadRules a_BadRules_init a_BadWorth a_BadWorth_init a_BadName a_BadName_init a_Held a_Held_init a_NotHeld a_NotHeld_init a_BadDeed a_BadDeed_init a_Taken a_Taken_init a_Used a_Used_init a_NoDeed a_NoDeed_init a_BadTable a_BadTable_init a_Ringed a_Ringed_init a_TooFew a_TooFew_init a_NotSweep a_NotSweep_init a_BadMarks a_BadMarks_init a_MarkRing a_MarkRing_init a_NoSuch a_NoSuch_init a_Unlike a_Unlike_init a_BadCells a_BadCells_init a_BadActs a_BadActs_init a_NoLot a_NoLot_init a_BadPiece a_BadPiece_init a_BadArrow a_BadArrow_init a_BadWave a_BadWave_init a_BadText a_BadText_init : Addr} {od__law_pool an__law_pool od__law_cell an__law_cell od__law_take an__law_take od__law_thing an__law_thing od__law_by_name an__law_by_name od__law_by_place an__law_by_place od__law_held an__law_held od__law_is_same an__law_is_same od__law_others an__law_others od__law_classes an__law_classes od_law an_law od_BadWeb_init an_BadWeb_init od_UnknownCell_init an_UnknownCell_init od_BadProgram_init an_BadProgram_init od_BadNumber_init an_BadNumber_init od_BadRules_init an_BadRules_init od_BadWorth_init an_BadWorth_init od_BadName_init an_BadName_init od_Held_init an_Held_init od_NotHeld_init an_NotHeld_init od_BadDeed_init an_BadDeed_init od_Taken_init an_Taken_init od_Used_init an_Used_init od_NoDeed_init an_NoDeed_init od_BadTable_init an_BadTable_init od_Ringed_init an_Ringed_init od_TooFew_init an_TooFew_init od_NotSweep_init an_NotSweep_init od_BadMarks_init an_BadMarks_init od_MarkRing_init an_MarkRing_init od_NoSuch_init an_NoSuch_init od_Unlike_init an_Unlike_init od_BadCells_init an_BadCells_init od_BadActs_init an_BadActs_init od_NoLot_init an_NoLot_init od_BadPiece_init an_BadPiece_init od_BadArrow_init an_BadArrow_init od_BadWave_init an_BadWave_init od_BadText_init an_BadText_init : Option Addr} {sl__law_pool sl__law_cell sl__law_take sl__law_thing sl__law_by_name sl__law_by_place sl__law_held sl__law_is_same sl__law_others sl__law_classes sl_law sl_BadWeb_init sl_UnknownCell_init sl_BadProgram_init sl_BadNumber_init sl_BadRules_init sl_BadWorth_init sl_BadName_init sl_Held_init sl_NotHeld_init sl_BadDeed_init sl_Taken_init sl_Used_init sl_NoDeed_init sl_BadTable_init sl_Ringed_init sl_TooFew_init sl_NotSweep_init sl_BadMarks_init sl_MarkRing_init sl_NoSuch_init sl_Unlike_init sl_BadCells_init sl_BadActs_init sl_NoLot_init sl_BadPiece_init sl_BadArrow_init sl_BadWave_init sl_BadText_init : Array (Option Value)} {oc__law_pool kV__law_pool dc__law_pool pm__law_pool ct__law_pool cd__law_pool oc__law_cell kV__law_cell dc__law_cell pm__law_cell ct__law_cell cd__law_cell oc__law_take kV__law_take dc__law_take pm__law_take ct__law_take cd__law_take oc__law_thing kV__law_thing dc__law_thing pm__law_thing ct__law_thing cd__law_thing oc__law_by_name kV__law_by_name dc__law_by_name pm__law_by_name ct__law_by_name cd__law_by_name oc__law_by_place kV__law_by_place dc__law_by_place pm__law_by_place ct__law_by_place cd__law_by_place oc__law_held kV__law_held dc__law_held pm__law_held ct__law_held cd__law_held oc__law_is_same kV__law_is_same dc__law_is_same pm__law_is_same ct__law_is_same cd__law_is_same oc__law_others kV__law_others dc__law_others pm__law_others ct__law_others cd__law_others oc__law_classes kV__law_classes dc__law_classes pm__law_classes ct__law_classes cd__law_classes oc_law kV_law dc_law pm_law ct_law cd_law oc_BadWeb_init kV_BadWeb_init dc_BadWeb_init pm_BadWeb_init ct_BadWeb_init cd_BadWeb_init oc_UnknownCell_init kV_UnknownCell_init dc_UnknownCell_init pm_UnknownCell_init ct_UnknownCell_init cd_UnknownCell_init oc_BadProgram_init kV_BadProgram_init dc_BadProgram_init pm_BadProgram_init ct_BadProgram_init cd_BadProgram_init oc_BadNumber_init kV_BadNumber_init dc_BadNumber_init pm_BadNumber_init ct_BadNumber_init cd_BadNumber_init oc_BadRules_init kV_BadRules_init dc_BadRules_init pm_BadRules_init ct_BadRules_init cd_BadRules_init oc_BadWorth_init kV_BadWorth_init dc_BadWorth_init pm_BadWorth_init ct_BadWorth_init cd_BadWorth_init oc_BadName_init kV_BadName_init dc_BadName_init pm_BadName_init ct_BadName_init cd_BadName_init oc_Held_init kV_Held_init dc_Held_init pm_Held_init ct_Held_init cd_Held_init oc_NotHeld_init kV_NotHeld_init dc_NotHeld_init pm_NotHeld_init ct_NotHeld_init cd_NotHeld_init oc_BadDeed_init kV_BadDeed_init dc_BadDeed_init pm_BadDeed_init ct_BadDeed_init cd_BadDeed_init oc_Taken_init kV_Taken_init dc_Taken_init pm_Taken_init ct_Taken_init cd_Taken_init oc_Used_init kV_Used_init dc_Used_init pm_Used_init ct_Used_init cd_Used_init oc_NoDeed_init kV_NoDeed_init dc_NoDeed_init pm_NoDeed_init ct_NoDeed_init cd_NoDeed_init oc_BadTable_init kV_BadTable_init dc_BadTable_init pm_BadTable_init ct_BadTable_init cd_BadTable_init oc_Ringed_init kV_Ringed_init dc_Ringed_init pm_Ringed_init ct_Ringed_init cd_Ringed_init oc_TooFew_init kV_TooFew_init dc_TooFew_init pm_TooFew_init ct_TooFew_init cd_TooFew_init oc_NotSweep_init kV_NotSweep_init dc_NotSweep_init pm_NotSweep_init ct_NotSweep_init cd_NotSweep_init oc_BadMarks_init kV_BadMarks_init dc_BadMarks_init pm_BadMarks_init ct_BadMarks_init cd_BadMarks_init oc_MarkRing_init kV_MarkRing_init dc_MarkRing_init pm_MarkRing_init ct_MarkRing_init cd_MarkRing_init oc_NoSuch_init kV_NoSuch_init dc_NoSuch_init pm_NoSuch_init ct_NoSuch_init cd_NoSuch_init oc_Unlike_init kV_Unlike_init dc_Unlike_init pm_Unlike_init ct_Unlike_init cd_Unlike_init oc_BadCells_init kV_BadCells_init dc_BadCells_init pm_BadCells_init ct_BadCells_init cd_BadCells_init oc_BadActs_init kV_BadActs_init dc_BadActs_init pm_BadActs_init ct_BadActs_init cd_BadActs_init oc_NoLot_init kV_NoLot_init dc_NoLot_init pm_NoLot_init ct_NoLot_init cd_NoLot_init oc_BadPiece_init kV_BadPiece_init dc_BadPiece_init pm_BadPiece_init ct_BadPiece_init cd_BadPiece_init oc_BadArrow_init kV_BadArrow_init dc_BadArrow_init pm_BadArrow_init ct_BadArrow_init cd_BadArrow_init oc_BadWave_init kV_BadWave_init dc_BadWave_init pm_BadWave_init ct_BadWave_init cd_BadWave_init oc_BadText_init kV_BadText_init dc_BadText_init pm_BadText_init ct_BadText_init cd_BadText_init : Value}  {nm_BadWeb q_BadWeb : Str} {N_BadWeb : Addr} {bs_BadWeb sub_BadWeb : List Value} {sn_BadWeb : List Str} {ab_BadWeb : Bool} {col_BadWeb : Option Bool} {dd_BadWeb : Option Addr} {m0_BadWeb m1_BadWeb m2_BadWeb m3_BadWeb m5_BadWeb : Option Value} {nm_UnknownCell q_UnknownCell : Str} {N_UnknownCell : Addr} {bs_UnknownCell sub_UnknownCell : List Value} {sn_UnknownCell : List Str} {ab_UnknownCell : Bool} {col_UnknownCell : Option Bool} {dd_UnknownCell : Option Addr} {m0_UnknownCell m1_UnknownCell m2_UnknownCell m3_UnknownCell m5_UnknownCell : Option Value} {nm_BadProgram q_BadProgram : Str} {N_BadProgram : Addr} {bs_BadProgram sub_BadProgram : List Value} {sn_BadProgram : List Str} {ab_BadProgram : Bool} {col_BadProgram : Option Bool} {dd_BadProgram : Option Addr} {m0_BadProgram m1_BadProgram m2_BadProgram m3_BadProgram m5_BadProgram : Option Value} {nm_BadNumber q_BadNumber : Str} {N_BadNumber : Addr} {bs_BadNumber sub_BadNumber : List Value} {sn_BadNumber : List Str} {ab_BadNumber : Bool} {col_BadNumber : Option Bool} {dd_BadNumber : Option Addr} {m0_BadNumber m1_BadNumber m2_BadNumber m3_BadNumber m5_BadNumber : Option Value} {nm_BadRules q_BadRules : Str} {N_BadRules : Addr} {bs_BadRules sub_BadRules : List Value} {sn_BadRules : List Str} {ab_BadRules : Bool} {col_BadRules : Option Bool} {dd_BadRules : Option Addr} {m0_BadRules m1_BadRules m2_BadRules m3_BadRules m5_BadRules : Option Value} {nm_BadWorth q_BadWorth : Str} {N_BadWorth : Addr} {bs_BadWorth sub_BadWorth : List Value} {sn_BadWorth : List Str} {ab_BadWorth : Bool} {col_BadWorth : Option Bool} {dd_BadWorth : Option Addr} {m0_BadWorth m1_BadWorth m2_BadWorth m3_BadWorth m5_BadWorth : Option Value} {nm_BadName q_BadName : Str} {N_BadName : Addr} {bs_BadName sub_BadName : List Value} {sn_BadName : List Str} {ab_BadName : Bool} {col_BadName : Option Bool} {dd_BadName : Option Addr} {m0_BadName m1_BadName m2_BadName m3_BadName m5_BadName : Option Value} {nm_Held q_Held : Str} {N_Held : Addr} {bs_Held sub_Held : List Value} {sn_Held : List Str} {ab_Held : Bool} {col_Held : Option Bool} {dd_Held : Option Addr} {m0_Held m1_Held m2_Held m3_Held m5_Held : Option Value} {nm_NotHeld q_NotHeld : Str} {N_NotHeld : Addr} {bs_NotHeld sub_NotHeld : List Value} {sn_NotHeld : List Str} {ab_NotHeld : Bool} {col_NotHeld : Option Bool} {dd_NotHeld : Option Addr} {m0_NotHeld m1_NotHeld m2_NotHeld m3_NotHeld m5_NotHeld : Option Value} {nm_BadDeed q_BadDeed : Str} {N_BadDeed : Addr} {bs_BadDeed sub_BadDeed : List Value} {sn_BadDeed : List Str} {ab_BadDeed : Bool} {col_BadDeed : Option Bool} {dd_BadDeed : Option Addr} {m0_BadDeed m1_BadDeed m2_BadDeed m3_BadDeed m5_BadDeed : Option Value} {nm_Taken q_Taken : Str} {N_Taken : Addr} {bs_Taken sub_Taken : List Value} {sn_Taken : List Str} {ab_Taken : Bool} {col_Taken : Option Bool} {dd_Taken : Option Addr} {m0_Taken m1_Taken m2_Taken m3_Taken m5_Taken : Option Value} {nm_Used q_Used : Str} {N_Used : Addr} {bs_Used sub_Used : List Value} {sn_Used : List Str} {ab_Used : Bool} {col_Used : Option Bool} {dd_Used : Option Addr} {m0_Used m1_Used m2_Used m3_Used m5_Used : Option Value} {nm_NoDeed q_NoDeed : Str} {N_NoDeed : Addr} {bs_NoDeed sub_NoDeed : List Value} {sn_NoDeed : List Str} {ab_NoDeed : Bool} {col_NoDeed : Option Bool} {dd_NoDeed : Option Addr} {m0_NoDeed m1_NoDeed m2_NoDeed m3_NoDeed m5_NoDeed : Option Value} {nm_BadTable q_BadTable : Str} {N_BadTable : Addr} {bs_BadTable sub_BadTable : List Value} {sn_BadTable : List Str} {ab_BadTable : Bool} {col_BadTable : Option Bool} {dd_BadTable : Option Addr} {m0_BadTable m1_BadTable m2_BadTable m3_BadTable m5_BadTable : Option Value} {nm_Ringed q_Ringed : Str} {N_Ringed : Addr} {bs_Ringed sub_Ringed : List Value} {sn_Ringed : List Str} {ab_Ringed : Bool} {col_Ringed : Option Bool} {dd_Ringed : Option Addr} {m0_Ringed m1_Ringed m2_Ringed m3_Ringed m5_Ringed : Option Value} {nm_TooFew q_TooFew : Str} {N_TooFew : Addr} {bs_TooFew sub_TooFew : List Value} {sn_TooFew : List Str} {ab_TooFew : Bool} {col_TooFew : Option Bool} {dd_TooFew : Option Addr} {m0_TooFew m1_TooFew m2_TooFew m3_TooFew m5_TooFew : Option Value} {nm_NotSweep q_NotSweep : Str} {N_NotSweep : Addr} {bs_NotSweep sub_NotSweep : List Value} {sn_NotSweep : List Str} {ab_NotSweep : Bool} {col_NotSweep : Option Bool} {dd_NotSweep : Option Addr} {m0_NotSweep m1_NotSweep m2_NotSweep m3_NotSweep m5_NotSweep : Option Value} {nm_BadMarks q_BadMarks : Str} {N_BadMarks : Addr} {bs_BadMarks sub_BadMarks : List Value} {sn_BadMarks : List Str} {ab_BadMarks : Bool} {col_BadMarks : Option Bool} {dd_BadMarks : Option Addr} {m0_BadMarks m1_BadMarks m2_BadMarks m3_BadMarks m5_BadMarks : Option Value} {nm_MarkRing q_MarkRing : Str} {N_MarkRing : Addr} {bs_MarkRing sub_MarkRing : List Value} {sn_MarkRing : List Str} {ab_MarkRing : Bool} {col_MarkRing : Option Bool} {dd_MarkRing : Option Addr} {m0_MarkRing m1_MarkRing m2_MarkRing m3_MarkRing m5_MarkRing : Option Value} {nm_NoSuch q_NoSuch : Str} {N_NoSuch : Addr} {bs_NoSuch sub_NoSuch : List Value} {sn_NoSuch : List Str} {ab_NoSuch : Bool} {col_NoSuch : Option Bool} {dd_NoSuch : Option Addr} {m0_NoSuch m1_NoSuch m2_NoSuch m3_NoSuch m5_NoSuch : Option Value} {nm_Unlike q_Unlike : Str} {N_Unlike : Addr} {bs_Unlike sub_Unlike : List Value} {sn_Unlike : List Str} {ab_Unlike : Bool} {col_Unlike : Option Bool} {dd_Unlike : Option Addr} {m0_Unlike m1_Unlike m2_Unlike m3_Unlike m5_Unlike : Option Value} {nm_BadCells q_BadCells : Str} {N_BadCells : Addr} {bs_BadCells sub_BadCells : List Value} {sn_BadCells : List Str} {ab_BadCells : Bool} {col_BadCells : Option Bool} {dd_BadCells : Option Addr} {m0_BadCells m1_BadCells m2_BadCells m3_BadCells m5_BadCells : Option Value} {nm_BadActs q_BadActs : Str} {N_BadActs : Addr} {bs_BadActs sub_BadActs : List Value} {sn_BadActs : List Str} {ab_BadActs : Bool} {col_BadActs : Option Bool} {dd_BadActs : Option Addr} {m0_BadActs m1_BadActs m2_BadActs m3_BadActs m5_BadActs : Option Value} {nm_NoLot q_NoLot : Str} {N_NoLot : Addr} {bs_NoLot sub_NoLot : List Value} {sn_NoLot : List Str} {ab_NoLot : Bool} {col_NoLot : Option Bool} {dd_NoLot : Option Addr} {m0_NoLot m1_NoLot m2_NoLot m3_NoLot m5_NoLot : Option Value} {nm_BadPiece q_BadPiece : Str} {N_BadPiece : Addr} {bs_BadPiece sub_BadPiece : List Value} {sn_BadPiece : List Str} {ab_BadPiece : Bool} {col_BadPiece : Option Bool} {dd_BadPiece : Option Addr} {m0_BadPiece m1_BadPiece m2_BadPiece m3_BadPiece m5_BadPiece : Option Value} {nm_BadArrow q_BadArrow : Str} {N_BadArrow : Addr} {bs_BadArrow sub_BadArrow : List Value} {sn_BadArrow : List Str} {ab_BadArrow : Bool} {col_BadArrow : Option Bool} {dd_BadArrow : Option Addr} {m0_BadArrow m1_BadArrow m2_BadArrow m3_BadArrow m5_BadArrow : Option Value} {nm_BadWave q_BadWave : Str} {N_BadWave : Addr} {bs_BadWave sub_BadWave : List Value} {sn_BadWave : List Str} {ab_BadWave : Bool} {col_BadWave : Option Bool} {dd_BadWave : Option Addr} {m0_BadWave m1_BadWave m2_BadWave m3_BadWave m5_BadWave : Option Value} {nm_BadText q_BadText : Str} {N_BadText : Addr} {bs_BadText sub_BadText : List Value} {sn_BadText : List Str} {ab_BadText : Bool} {col_BadText : Option Bool} {dd_BadText : Option Addr} {m0_BadText m1_BadText m2_BadText m3_BadText m5_BadText : Option Value}
    (g__law_pool : PySem.W.nsIn K mainGlobals "_law_pool" = some (some (.ref a__law_pool)))
    (l__law_pool : K.lookup a__law_pool = some ⟨oc__law_pool, od__law_pool, .func (PySem.W.fnOf "_law_pool" "_law_pool" (defArgs st__law_pool) (defBody st__law_pool) (defScope st__law_pool) .none kV__law_pool dc__law_pool pm__law_pool an__law_pool cd__law_pool ct__law_pool), sl__law_pool⟩)
    (c__law_pool : PySem.W.codeIn K cd__law_pool "_law_pool" = true)
    (k__law_pool : PySem.W.keepIn K (.ref a__law_pool) = true)
    (g__law_cell : PySem.W.nsIn K mainGlobals "_law_cell" = some (some (.ref a__law_cell)))
    (l__law_cell : K.lookup a__law_cell = some ⟨oc__law_cell, od__law_cell, .func (PySem.W.fnOf "_law_cell" "_law_cell" (defArgs st__law_cell) (defBody st__law_cell) (defScope st__law_cell) .none kV__law_cell dc__law_cell pm__law_cell an__law_cell cd__law_cell ct__law_cell), sl__law_cell⟩)
    (c__law_cell : PySem.W.codeIn K cd__law_cell "_law_cell" = true)
    (k__law_cell : PySem.W.keepIn K (.ref a__law_cell) = true)
    (g__law_take : PySem.W.nsIn K mainGlobals "_law_take" = some (some (.ref a__law_take)))
    (l__law_take : K.lookup a__law_take = some ⟨oc__law_take, od__law_take, .func (PySem.W.fnOf "_law_take" "_law_take" (defArgs st__law_take) (defBody st__law_take) (defScope st__law_take) .none kV__law_take dc__law_take pm__law_take an__law_take cd__law_take ct__law_take), sl__law_take⟩)
    (c__law_take : PySem.W.codeIn K cd__law_take "_law_take" = true)
    (k__law_take : PySem.W.keepIn K (.ref a__law_take) = true)
    (g__law_thing : PySem.W.nsIn K mainGlobals "_law_thing" = some (some (.ref a__law_thing)))
    (l__law_thing : K.lookup a__law_thing = some ⟨oc__law_thing, od__law_thing, .func (PySem.W.fnOf "_law_thing" "_law_thing" (defArgs st__law_thing) (defBody st__law_thing) (defScope st__law_thing) .none kV__law_thing dc__law_thing pm__law_thing an__law_thing cd__law_thing ct__law_thing), sl__law_thing⟩)
    (c__law_thing : PySem.W.codeIn K cd__law_thing "_law_thing" = true)
    (k__law_thing : PySem.W.keepIn K (.ref a__law_thing) = true)
    (g__law_by_name : PySem.W.nsIn K mainGlobals "_law_by_name" = some (some (.ref a__law_by_name)))
    (l__law_by_name : K.lookup a__law_by_name = some ⟨oc__law_by_name, od__law_by_name, .func (PySem.W.fnOf "_law_by_name" "_law_by_name" (defArgs st__law_by_name) (defBody st__law_by_name) (defScope st__law_by_name) .none kV__law_by_name dc__law_by_name pm__law_by_name an__law_by_name cd__law_by_name ct__law_by_name), sl__law_by_name⟩)
    (c__law_by_name : PySem.W.codeIn K cd__law_by_name "_law_by_name" = true)
    (k__law_by_name : PySem.W.keepIn K (.ref a__law_by_name) = true)
    (g__law_by_place : PySem.W.nsIn K mainGlobals "_law_by_place" = some (some (.ref a__law_by_place)))
    (l__law_by_place : K.lookup a__law_by_place = some ⟨oc__law_by_place, od__law_by_place, .func (PySem.W.fnOf "_law_by_place" "_law_by_place" (defArgs st__law_by_place) (defBody st__law_by_place) (defScope st__law_by_place) .none kV__law_by_place dc__law_by_place pm__law_by_place an__law_by_place cd__law_by_place ct__law_by_place), sl__law_by_place⟩)
    (c__law_by_place : PySem.W.codeIn K cd__law_by_place "_law_by_place" = true)
    (k__law_by_place : PySem.W.keepIn K (.ref a__law_by_place) = true)
    (g__law_held : PySem.W.nsIn K mainGlobals "_law_held" = some (some (.ref a__law_held)))
    (l__law_held : K.lookup a__law_held = some ⟨oc__law_held, od__law_held, .func (PySem.W.fnOf "_law_held" "_law_held" (defArgs st__law_held) (defBody st__law_held) (defScope st__law_held) .none kV__law_held dc__law_held pm__law_held an__law_held cd__law_held ct__law_held), sl__law_held⟩)
    (c__law_held : PySem.W.codeIn K cd__law_held "_law_held" = true)
    (k__law_held : PySem.W.keepIn K (.ref a__law_held) = true)
    (g__law_is_same : PySem.W.nsIn K mainGlobals "_law_is_same" = some (some (.ref a__law_is_same)))
    (l__law_is_same : K.lookup a__law_is_same = some ⟨oc__law_is_same, od__law_is_same, .func (PySem.W.fnOf "_law_is_same" "_law_is_same" (defArgs st__law_is_same) (defBody st__law_is_same) (defScope st__law_is_same) .none kV__law_is_same dc__law_is_same pm__law_is_same an__law_is_same cd__law_is_same ct__law_is_same), sl__law_is_same⟩)
    (c__law_is_same : PySem.W.codeIn K cd__law_is_same "_law_is_same" = true)
    (k__law_is_same : PySem.W.keepIn K (.ref a__law_is_same) = true)
    (g__law_others : PySem.W.nsIn K mainGlobals "_law_others" = some (some (.ref a__law_others)))
    (l__law_others : K.lookup a__law_others = some ⟨oc__law_others, od__law_others, .func (PySem.W.fnOf "_law_others" "_law_others" (defArgs st__law_others) (defBody st__law_others) (defScope st__law_others) .none kV__law_others dc__law_others pm__law_others an__law_others cd__law_others ct__law_others), sl__law_others⟩)
    (c__law_others : PySem.W.codeIn K cd__law_others "_law_others" = true)
    (k__law_others : PySem.W.keepIn K (.ref a__law_others) = true)
    (g__law_classes : PySem.W.nsIn K mainGlobals "_law_classes" = some (some (.ref a__law_classes)))
    (l__law_classes : K.lookup a__law_classes = some ⟨oc__law_classes, od__law_classes, .func (PySem.W.fnOf "_law_classes" "_law_classes" (defArgs st__law_classes) (defBody st__law_classes) (defScope st__law_classes) .none kV__law_classes dc__law_classes pm__law_classes an__law_classes cd__law_classes ct__law_classes), sl__law_classes⟩)
    (c__law_classes : PySem.W.codeIn K cd__law_classes "_law_classes" = true)
    (k__law_classes : PySem.W.keepIn K (.ref a__law_classes) = true)
    (g_law : PySem.W.nsIn K mainGlobals "law" = some (some (.ref a_law)))
    (l_law : K.lookup a_law = some ⟨oc_law, od_law, .func (PySem.W.fnOf "law" "law" (defArgs st_law) (defBody st_law) (defScope st_law) .none kV_law dc_law pm_law an_law cd_law ct_law), sl_law⟩)
    (c_law : PySem.W.codeIn K cd_law "law" = true)
    (k_law : PySem.W.keepIn K (.ref a_law) = true)
    (g_LotError : PySem.W.nsIn K mainGlobals "LotError" = some (some (.ref a_LotError)))
    (rd_LotError : PySem.W.readsIn K a_LotError (.type "type") = true)
    (fc_LotError : PySem.W.findCls K (.ref a_LotError) (.type "type") "__init__" = some (.val (.builtin "ValueError.__init__")))
    (sp_LotError : PySem.W.specialIn K (.ref a_LotError) "__getattribute__" = some (some (.builtin "type.__getattribute__")))
    (g_BadWeb : PySem.W.nsIn K mainGlobals "BadWeb" = some (some (.ref a_BadWeb)))
    (xL_BadWeb : K.lookup a_BadWeb = some (excClassObj nm_BadWeb q_BadWeb a_BadWeb N_BadWeb bs_BadWeb [.ref a_LotError, .type "ValueError", .type "Exception", .type "BaseException", .type "object"] true sn_BadWeb sub_BadWeb ab_BadWeb col_BadWeb dd_BadWeb m0_BadWeb m1_BadWeb m2_BadWeb m3_BadWeb m5_BadWeb "ValueError.__new__"))
    (sa_BadWeb : PySem.W.findIn K (.ref a_BadWeb) "__setattr__" = some (some (.builtin "object.__setattr__")))
    (ga_BadWeb : PySem.W.findIn K (.ref a_BadWeb) "__getattribute__" = some (some (.builtin "BaseException.__getattribute__")))
    (gg_BadWeb : PySem.W.findIn K (.ref a_BadWeb) "__getattr__" = some none)
    (nf_BadWeb : PySem.W.findIn K (.ref a_BadWeb) "index" = some none)
    (gi_BadWeb : PySem.W.findIn K (.ref a_BadWeb) "__init__" = some (some (.ref a_BadWeb_init)))
    (ti_BadWeb : PySem.W.typeIn K (.ref a_BadWeb_init) = some (.type "function"))
    (l_BadWeb_init : K.lookup a_BadWeb_init = some ⟨oc_BadWeb_init, od_BadWeb_init, .func (PySem.W.fnOf "__init__" "BadWeb.__init__" (defArgs st_BadWeb_init) (defBody st_BadWeb_init) (defScope st_BadWeb_init) .none kV_BadWeb_init dc_BadWeb_init pm_BadWeb_init an_BadWeb_init cd_BadWeb_init ct_BadWeb_init), sl_BadWeb_init⟩)
    (c_BadWeb_init : PySem.W.codeIn K cd_BadWeb_init "BadWeb.__init__" = true)
    (k_BadWeb_init : PySem.W.keepIn K (.ref a_BadWeb_init) = true)
    (kC_BadWeb : PySem.W.keepIn K (.ref a_BadWeb) = true)
    (eC_BadWeb : PySem.W.subIn K (.ref a_BadWeb) (.type "BaseException") = some true)
    (tC_BadWeb : PySem.W.typeIn K (.ref a_BadWeb) = some (.type "type"))
    (hC_BadWeb : PySem.W.hasDictIn K a_BadWeb = true)
    (g_UnknownCell : PySem.W.nsIn K mainGlobals "UnknownCell" = some (some (.ref a_UnknownCell)))
    (xL_UnknownCell : K.lookup a_UnknownCell = some (excClassObj nm_UnknownCell q_UnknownCell a_UnknownCell N_UnknownCell bs_UnknownCell [.ref a_LotError, .type "ValueError", .type "Exception", .type "BaseException", .type "object"] true sn_UnknownCell sub_UnknownCell ab_UnknownCell col_UnknownCell dd_UnknownCell m0_UnknownCell m1_UnknownCell m2_UnknownCell m3_UnknownCell m5_UnknownCell "ValueError.__new__"))
    (sa_UnknownCell : PySem.W.findIn K (.ref a_UnknownCell) "__setattr__" = some (some (.builtin "object.__setattr__")))
    (ga_UnknownCell : PySem.W.findIn K (.ref a_UnknownCell) "__getattribute__" = some (some (.builtin "BaseException.__getattribute__")))
    (gg_UnknownCell : PySem.W.findIn K (.ref a_UnknownCell) "__getattr__" = some none)
    (nf_UnknownCell : PySem.W.findIn K (.ref a_UnknownCell) "cell" = some none)
    (gi_UnknownCell : PySem.W.findIn K (.ref a_UnknownCell) "__init__" = some (some (.ref a_UnknownCell_init)))
    (ti_UnknownCell : PySem.W.typeIn K (.ref a_UnknownCell_init) = some (.type "function"))
    (l_UnknownCell_init : K.lookup a_UnknownCell_init = some ⟨oc_UnknownCell_init, od_UnknownCell_init, .func (PySem.W.fnOf "__init__" "UnknownCell.__init__" (defArgs st_UnknownCell_init) (defBody st_UnknownCell_init) (defScope st_UnknownCell_init) .none kV_UnknownCell_init dc_UnknownCell_init pm_UnknownCell_init an_UnknownCell_init cd_UnknownCell_init ct_UnknownCell_init), sl_UnknownCell_init⟩)
    (c_UnknownCell_init : PySem.W.codeIn K cd_UnknownCell_init "UnknownCell.__init__" = true)
    (k_UnknownCell_init : PySem.W.keepIn K (.ref a_UnknownCell_init) = true)
    (kC_UnknownCell : PySem.W.keepIn K (.ref a_UnknownCell) = true)
    (eC_UnknownCell : PySem.W.subIn K (.ref a_UnknownCell) (.type "BaseException") = some true)
    (tC_UnknownCell : PySem.W.typeIn K (.ref a_UnknownCell) = some (.type "type"))
    (hC_UnknownCell : PySem.W.hasDictIn K a_UnknownCell = true)
    (g_BadProgram : PySem.W.nsIn K mainGlobals "BadProgram" = some (some (.ref a_BadProgram)))
    (xL_BadProgram : K.lookup a_BadProgram = some (excClassObj nm_BadProgram q_BadProgram a_BadProgram N_BadProgram bs_BadProgram [.ref a_LotError, .type "ValueError", .type "Exception", .type "BaseException", .type "object"] true sn_BadProgram sub_BadProgram ab_BadProgram col_BadProgram dd_BadProgram m0_BadProgram m1_BadProgram m2_BadProgram m3_BadProgram m5_BadProgram "ValueError.__new__"))
    (sa_BadProgram : PySem.W.findIn K (.ref a_BadProgram) "__setattr__" = some (some (.builtin "object.__setattr__")))
    (ga_BadProgram : PySem.W.findIn K (.ref a_BadProgram) "__getattribute__" = some (some (.builtin "BaseException.__getattribute__")))
    (gg_BadProgram : PySem.W.findIn K (.ref a_BadProgram) "__getattr__" = some none)
    (nf_BadProgram : PySem.W.findIn K (.ref a_BadProgram) "index" = some none)
    (gi_BadProgram : PySem.W.findIn K (.ref a_BadProgram) "__init__" = some (some (.ref a_BadProgram_init)))
    (ti_BadProgram : PySem.W.typeIn K (.ref a_BadProgram_init) = some (.type "function"))
    (l_BadProgram_init : K.lookup a_BadProgram_init = some ⟨oc_BadProgram_init, od_BadProgram_init, .func (PySem.W.fnOf "__init__" "BadProgram.__init__" (defArgs st_BadProgram_init) (defBody st_BadProgram_init) (defScope st_BadProgram_init) .none kV_BadProgram_init dc_BadProgram_init pm_BadProgram_init an_BadProgram_init cd_BadProgram_init ct_BadProgram_init), sl_BadProgram_init⟩)
    (c_BadProgram_init : PySem.W.codeIn K cd_BadProgram_init "BadProgram.__init__" = true)
    (k_BadProgram_init : PySem.W.keepIn K (.ref a_BadProgram_init) = true)
    (kC_BadProgram : PySem.W.keepIn K (.ref a_BadProgram) = true)
    (eC_BadProgram : PySem.W.subIn K (.ref a_BadProgram) (.type "BaseException") = some true)
    (tC_BadProgram : PySem.W.typeIn K (.ref a_BadProgram) = some (.type "type"))
    (hC_BadProgram : PySem.W.hasDictIn K a_BadProgram = true)
    (g_BadNumber : PySem.W.nsIn K mainGlobals "BadNumber" = some (some (.ref a_BadNumber)))
    (xL_BadNumber : K.lookup a_BadNumber = some (excClassObj nm_BadNumber q_BadNumber a_BadNumber N_BadNumber bs_BadNumber [.ref a_LotError, .type "ValueError", .type "Exception", .type "BaseException", .type "object"] true sn_BadNumber sub_BadNumber ab_BadNumber col_BadNumber dd_BadNumber m0_BadNumber m1_BadNumber m2_BadNumber m3_BadNumber m5_BadNumber "ValueError.__new__"))
    (sa_BadNumber : PySem.W.findIn K (.ref a_BadNumber) "__setattr__" = some (some (.builtin "object.__setattr__")))
    (ga_BadNumber : PySem.W.findIn K (.ref a_BadNumber) "__getattribute__" = some (some (.builtin "BaseException.__getattribute__")))
    (gg_BadNumber : PySem.W.findIn K (.ref a_BadNumber) "__getattr__" = some none)
    (nf_BadNumber : PySem.W.findIn K (.ref a_BadNumber) "number" = some none)
    (gi_BadNumber : PySem.W.findIn K (.ref a_BadNumber) "__init__" = some (some (.ref a_BadNumber_init)))
    (ti_BadNumber : PySem.W.typeIn K (.ref a_BadNumber_init) = some (.type "function"))
    (l_BadNumber_init : K.lookup a_BadNumber_init = some ⟨oc_BadNumber_init, od_BadNumber_init, .func (PySem.W.fnOf "__init__" "BadNumber.__init__" (defArgs st_BadNumber_init) (defBody st_BadNumber_init) (defScope st_BadNumber_init) .none kV_BadNumber_init dc_BadNumber_init pm_BadNumber_init an_BadNumber_init cd_BadNumber_init ct_BadNumber_init), sl_BadNumber_init⟩)
    (c_BadNumber_init : PySem.W.codeIn K cd_BadNumber_init "BadNumber.__init__" = true)
    (k_BadNumber_init : PySem.W.keepIn K (.ref a_BadNumber_init) = true)
    (kC_BadNumber : PySem.W.keepIn K (.ref a_BadNumber) = true)
    (eC_BadNumber : PySem.W.subIn K (.ref a_BadNumber) (.type "BaseException") = some true)
    (tC_BadNumber : PySem.W.typeIn K (.ref a_BadNumber) = some (.type "type"))
    (hC_BadNumber : PySem.W.hasDictIn K a_BadNumber = true)
    (g_BadRules : PySem.W.nsIn K mainGlobals "BadRules" = some (some (.ref a_BadRules)))
    (xL_BadRules : K.lookup a_BadRules = some (excClassObj nm_BadRules q_BadRules a_BadRules N_BadRules bs_BadRules [.ref a_LotError, .type "ValueError", .type "Exception", .type "BaseException", .type "object"] true sn_BadRules sub_BadRules ab_BadRules col_BadRules dd_BadRules m0_BadRules m1_BadRules m2_BadRules m3_BadRules m5_BadRules "ValueError.__new__"))
    (sa_BadRules : PySem.W.findIn K (.ref a_BadRules) "__setattr__" = some (some (.builtin "object.__setattr__")))
    (ga_BadRules : PySem.W.findIn K (.ref a_BadRules) "__getattribute__" = some (some (.builtin "BaseException.__getattribute__")))
    (gg_BadRules : PySem.W.findIn K (.ref a_BadRules) "__getattr__" = some none)
    (nf_BadRules : PySem.W.findIn K (.ref a_BadRules) "cell" = some none)
    (gi_BadRules : PySem.W.findIn K (.ref a_BadRules) "__init__" = some (some (.ref a_BadRules_init)))
    (ti_BadRules : PySem.W.typeIn K (.ref a_BadRules_init) = some (.type "function"))
    (l_BadRules_init : K.lookup a_BadRules_init = some ⟨oc_BadRules_init, od_BadRules_init, .func (PySem.W.fnOf "__init__" "BadRules.__init__" (defArgs st_BadRules_init) (defBody st_BadRules_init) (defScope st_BadRules_init) .none kV_BadRules_init dc_BadRules_init pm_BadRules_init an_BadRules_init cd_BadRules_init ct_BadRules_init), sl_BadRules_init⟩)
    (c_BadRules_init : PySem.W.codeIn K cd_BadRules_init "BadRules.__init__" = true)
    (k_BadRules_init : PySem.W.keepIn K (.ref a_BadRules_init) = true)
    (kC_BadRules : PySem.W.keepIn K (.ref a_BadRules) = true)
    (eC_BadRules : PySem.W.subIn K (.ref a_BadRules) (.type "BaseException") = some true)
    (tC_BadRules : PySem.W.typeIn K (.ref a_BadRules) = some (.type "type"))
    (hC_BadRules : PySem.W.hasDictIn K a_BadRules = true)
    (g_BadWorth : PySem.W.nsIn K mainGlobals "BadWorth" = some (some (.ref a_BadWorth)))
    (xL_BadWorth : K.lookup a_BadWorth = some (excClassObj nm_BadWorth q_BadWorth a_BadWorth N_BadWorth bs_BadWorth [.ref a_LotError, .type "ValueError", .type "Exception", .type "BaseException", .type "object"] true sn_BadWorth sub_BadWorth ab_BadWorth col_BadWorth dd_BadWorth m0_BadWorth m1_BadWorth m2_BadWorth m3_BadWorth m5_BadWorth "ValueError.__new__"))
    (sa_BadWorth : PySem.W.findIn K (.ref a_BadWorth) "__setattr__" = some (some (.builtin "object.__setattr__")))
    (ga_BadWorth : PySem.W.findIn K (.ref a_BadWorth) "__getattribute__" = some (some (.builtin "BaseException.__getattribute__")))
    (gg_BadWorth : PySem.W.findIn K (.ref a_BadWorth) "__getattr__" = some none)
    (nf_BadWorth : PySem.W.findIn K (.ref a_BadWorth) "cell" = some none)
    (gi_BadWorth : PySem.W.findIn K (.ref a_BadWorth) "__init__" = some (some (.ref a_BadWorth_init)))
    (ti_BadWorth : PySem.W.typeIn K (.ref a_BadWorth_init) = some (.type "function"))
    (l_BadWorth_init : K.lookup a_BadWorth_init = some ⟨oc_BadWorth_init, od_BadWorth_init, .func (PySem.W.fnOf "__init__" "BadWorth.__init__" (defArgs st_BadWorth_init) (defBody st_BadWorth_init) (defScope st_BadWorth_init) .none kV_BadWorth_init dc_BadWorth_init pm_BadWorth_init an_BadWorth_init cd_BadWorth_init ct_BadWorth_init), sl_BadWorth_init⟩)
    (c_BadWorth_init : PySem.W.codeIn K cd_BadWorth_init "BadWorth.__init__" = true)
    (k_BadWorth_init : PySem.W.keepIn K (.ref a_BadWorth_init) = true)
    (kC_BadWorth : PySem.W.keepIn K (.ref a_BadWorth) = true)
    (eC_BadWorth : PySem.W.subIn K (.ref a_BadWorth) (.type "BaseException") = some true)
    (tC_BadWorth : PySem.W.typeIn K (.ref a_BadWorth) = some (.type "type"))
    (hC_BadWorth : PySem.W.hasDictIn K a_BadWorth = true)
    (g_BadName : PySem.W.nsIn K mainGlobals "BadName" = some (some (.ref a_BadName)))
    (xL_BadName : K.lookup a_BadName = some (excClassObj nm_BadName q_BadName a_BadName N_BadName bs_BadName [.ref a_LotError, .type "ValueError", .type "Exception", .type "BaseException", .type "object"] true sn_BadName sub_BadName ab_BadName col_BadName dd_BadName m0_BadName m1_BadName m2_BadName m3_BadName m5_BadName "ValueError.__new__"))
    (sa_BadName : PySem.W.findIn K (.ref a_BadName) "__setattr__" = some (some (.builtin "object.__setattr__")))
    (ga_BadName : PySem.W.findIn K (.ref a_BadName) "__getattribute__" = some (some (.builtin "BaseException.__getattribute__")))
    (gg_BadName : PySem.W.findIn K (.ref a_BadName) "__getattr__" = some none)
    (nf_BadName : PySem.W.findIn K (.ref a_BadName) "name" = some none)
    (gi_BadName : PySem.W.findIn K (.ref a_BadName) "__init__" = some (some (.ref a_BadName_init)))
    (ti_BadName : PySem.W.typeIn K (.ref a_BadName_init) = some (.type "function"))
    (l_BadName_init : K.lookup a_BadName_init = some ⟨oc_BadName_init, od_BadName_init, .func (PySem.W.fnOf "__init__" "BadName.__init__" (defArgs st_BadName_init) (defBody st_BadName_init) (defScope st_BadName_init) .none kV_BadName_init dc_BadName_init pm_BadName_init an_BadName_init cd_BadName_init ct_BadName_init), sl_BadName_init⟩)
    (c_BadName_init : PySem.W.codeIn K cd_BadName_init "BadName.__init__" = true)
    (k_BadName_init : PySem.W.keepIn K (.ref a_BadName_init) = true)
    (kC_BadName : PySem.W.keepIn K (.ref a_BadName) = true)
    (eC_BadName : PySem.W.subIn K (.ref a_BadName) (.type "BaseException") = some true)
    (tC_BadName : PySem.W.typeIn K (.ref a_BadName) = some (.type "type"))
    (hC_BadName : PySem.W.hasDictIn K a_BadName = true)
    (g_Held : PySem.W.nsIn K mainGlobals "Held" = some (some (.ref a_Held)))
    (xL_Held : K.lookup a_Held = some (excClassObj nm_Held q_Held a_Held N_Held bs_Held [.ref a_LotError, .type "ValueError", .type "Exception", .type "BaseException", .type "object"] true sn_Held sub_Held ab_Held col_Held dd_Held m0_Held m1_Held m2_Held m3_Held m5_Held "ValueError.__new__"))
    (sa_Held : PySem.W.findIn K (.ref a_Held) "__setattr__" = some (some (.builtin "object.__setattr__")))
    (ga_Held : PySem.W.findIn K (.ref a_Held) "__getattribute__" = some (some (.builtin "BaseException.__getattribute__")))
    (gg_Held : PySem.W.findIn K (.ref a_Held) "__getattr__" = some none)
    (nf_Held : PySem.W.findIn K (.ref a_Held) "name" = some none)
    (gi_Held : PySem.W.findIn K (.ref a_Held) "__init__" = some (some (.ref a_Held_init)))
    (ti_Held : PySem.W.typeIn K (.ref a_Held_init) = some (.type "function"))
    (l_Held_init : K.lookup a_Held_init = some ⟨oc_Held_init, od_Held_init, .func (PySem.W.fnOf "__init__" "Held.__init__" (defArgs st_Held_init) (defBody st_Held_init) (defScope st_Held_init) .none kV_Held_init dc_Held_init pm_Held_init an_Held_init cd_Held_init ct_Held_init), sl_Held_init⟩)
    (c_Held_init : PySem.W.codeIn K cd_Held_init "Held.__init__" = true)
    (k_Held_init : PySem.W.keepIn K (.ref a_Held_init) = true)
    (kC_Held : PySem.W.keepIn K (.ref a_Held) = true)
    (eC_Held : PySem.W.subIn K (.ref a_Held) (.type "BaseException") = some true)
    (tC_Held : PySem.W.typeIn K (.ref a_Held) = some (.type "type"))
    (hC_Held : PySem.W.hasDictIn K a_Held = true)
    (g_NotHeld : PySem.W.nsIn K mainGlobals "NotHeld" = some (some (.ref a_NotHeld)))
    (xL_NotHeld : K.lookup a_NotHeld = some (excClassObj nm_NotHeld q_NotHeld a_NotHeld N_NotHeld bs_NotHeld [.ref a_LotError, .type "ValueError", .type "Exception", .type "BaseException", .type "object"] true sn_NotHeld sub_NotHeld ab_NotHeld col_NotHeld dd_NotHeld m0_NotHeld m1_NotHeld m2_NotHeld m3_NotHeld m5_NotHeld "ValueError.__new__"))
    (sa_NotHeld : PySem.W.findIn K (.ref a_NotHeld) "__setattr__" = some (some (.builtin "object.__setattr__")))
    (ga_NotHeld : PySem.W.findIn K (.ref a_NotHeld) "__getattribute__" = some (some (.builtin "BaseException.__getattribute__")))
    (gg_NotHeld : PySem.W.findIn K (.ref a_NotHeld) "__getattr__" = some none)
    (nf_NotHeld : PySem.W.findIn K (.ref a_NotHeld) "name" = some none)
    (gi_NotHeld : PySem.W.findIn K (.ref a_NotHeld) "__init__" = some (some (.ref a_NotHeld_init)))
    (ti_NotHeld : PySem.W.typeIn K (.ref a_NotHeld_init) = some (.type "function"))
    (l_NotHeld_init : K.lookup a_NotHeld_init = some ⟨oc_NotHeld_init, od_NotHeld_init, .func (PySem.W.fnOf "__init__" "NotHeld.__init__" (defArgs st_NotHeld_init) (defBody st_NotHeld_init) (defScope st_NotHeld_init) .none kV_NotHeld_init dc_NotHeld_init pm_NotHeld_init an_NotHeld_init cd_NotHeld_init ct_NotHeld_init), sl_NotHeld_init⟩)
    (c_NotHeld_init : PySem.W.codeIn K cd_NotHeld_init "NotHeld.__init__" = true)
    (k_NotHeld_init : PySem.W.keepIn K (.ref a_NotHeld_init) = true)
    (kC_NotHeld : PySem.W.keepIn K (.ref a_NotHeld) = true)
    (eC_NotHeld : PySem.W.subIn K (.ref a_NotHeld) (.type "BaseException") = some true)
    (tC_NotHeld : PySem.W.typeIn K (.ref a_NotHeld) = some (.type "type"))
    (hC_NotHeld : PySem.W.hasDictIn K a_NotHeld = true)
    (g_BadDeed : PySem.W.nsIn K mainGlobals "BadDeed" = some (some (.ref a_BadDeed)))
    (xL_BadDeed : K.lookup a_BadDeed = some (excClassObj nm_BadDeed q_BadDeed a_BadDeed N_BadDeed bs_BadDeed [.ref a_LotError, .type "ValueError", .type "Exception", .type "BaseException", .type "object"] true sn_BadDeed sub_BadDeed ab_BadDeed col_BadDeed dd_BadDeed m0_BadDeed m1_BadDeed m2_BadDeed m3_BadDeed m5_BadDeed "ValueError.__new__"))
    (sa_BadDeed : PySem.W.findIn K (.ref a_BadDeed) "__setattr__" = some (some (.builtin "object.__setattr__")))
    (ga_BadDeed : PySem.W.findIn K (.ref a_BadDeed) "__getattribute__" = some (some (.builtin "BaseException.__getattribute__")))
    (gg_BadDeed : PySem.W.findIn K (.ref a_BadDeed) "__getattr__" = some none)
    (nf_BadDeed : PySem.W.findIn K (.ref a_BadDeed) "deed" = some none)
    (gi_BadDeed : PySem.W.findIn K (.ref a_BadDeed) "__init__" = some (some (.ref a_BadDeed_init)))
    (ti_BadDeed : PySem.W.typeIn K (.ref a_BadDeed_init) = some (.type "function"))
    (l_BadDeed_init : K.lookup a_BadDeed_init = some ⟨oc_BadDeed_init, od_BadDeed_init, .func (PySem.W.fnOf "__init__" "BadDeed.__init__" (defArgs st_BadDeed_init) (defBody st_BadDeed_init) (defScope st_BadDeed_init) .none kV_BadDeed_init dc_BadDeed_init pm_BadDeed_init an_BadDeed_init cd_BadDeed_init ct_BadDeed_init), sl_BadDeed_init⟩)
    (c_BadDeed_init : PySem.W.codeIn K cd_BadDeed_init "BadDeed.__init__" = true)
    (k_BadDeed_init : PySem.W.keepIn K (.ref a_BadDeed_init) = true)
    (kC_BadDeed : PySem.W.keepIn K (.ref a_BadDeed) = true)
    (eC_BadDeed : PySem.W.subIn K (.ref a_BadDeed) (.type "BaseException") = some true)
    (tC_BadDeed : PySem.W.typeIn K (.ref a_BadDeed) = some (.type "type"))
    (hC_BadDeed : PySem.W.hasDictIn K a_BadDeed = true)
    (g_Taken : PySem.W.nsIn K mainGlobals "Taken" = some (some (.ref a_Taken)))
    (xL_Taken : K.lookup a_Taken = some (excClassObj nm_Taken q_Taken a_Taken N_Taken bs_Taken [.ref a_LotError, .type "ValueError", .type "Exception", .type "BaseException", .type "object"] true sn_Taken sub_Taken ab_Taken col_Taken dd_Taken m0_Taken m1_Taken m2_Taken m3_Taken m5_Taken "ValueError.__new__"))
    (sa_Taken : PySem.W.findIn K (.ref a_Taken) "__setattr__" = some (some (.builtin "object.__setattr__")))
    (ga_Taken : PySem.W.findIn K (.ref a_Taken) "__getattribute__" = some (some (.builtin "BaseException.__getattribute__")))
    (gg_Taken : PySem.W.findIn K (.ref a_Taken) "__getattr__" = some none)
    (nf_Taken : PySem.W.findIn K (.ref a_Taken) "name" = some none)
    (gi_Taken : PySem.W.findIn K (.ref a_Taken) "__init__" = some (some (.ref a_Taken_init)))
    (ti_Taken : PySem.W.typeIn K (.ref a_Taken_init) = some (.type "function"))
    (l_Taken_init : K.lookup a_Taken_init = some ⟨oc_Taken_init, od_Taken_init, .func (PySem.W.fnOf "__init__" "Taken.__init__" (defArgs st_Taken_init) (defBody st_Taken_init) (defScope st_Taken_init) .none kV_Taken_init dc_Taken_init pm_Taken_init an_Taken_init cd_Taken_init ct_Taken_init), sl_Taken_init⟩)
    (c_Taken_init : PySem.W.codeIn K cd_Taken_init "Taken.__init__" = true)
    (k_Taken_init : PySem.W.keepIn K (.ref a_Taken_init) = true)
    (kC_Taken : PySem.W.keepIn K (.ref a_Taken) = true)
    (eC_Taken : PySem.W.subIn K (.ref a_Taken) (.type "BaseException") = some true)
    (tC_Taken : PySem.W.typeIn K (.ref a_Taken) = some (.type "type"))
    (hC_Taken : PySem.W.hasDictIn K a_Taken = true)
    (g_Used : PySem.W.nsIn K mainGlobals "Used" = some (some (.ref a_Used)))
    (xL_Used : K.lookup a_Used = some (excClassObj nm_Used q_Used a_Used N_Used bs_Used [.ref a_LotError, .type "ValueError", .type "Exception", .type "BaseException", .type "object"] true sn_Used sub_Used ab_Used col_Used dd_Used m0_Used m1_Used m2_Used m3_Used m5_Used "ValueError.__new__"))
    (sa_Used : PySem.W.findIn K (.ref a_Used) "__setattr__" = some (some (.builtin "object.__setattr__")))
    (ga_Used : PySem.W.findIn K (.ref a_Used) "__getattribute__" = some (some (.builtin "BaseException.__getattribute__")))
    (gg_Used : PySem.W.findIn K (.ref a_Used) "__getattr__" = some none)
    (nf_Used : PySem.W.findIn K (.ref a_Used) "cell" = some none)
    (gi_Used : PySem.W.findIn K (.ref a_Used) "__init__" = some (some (.ref a_Used_init)))
    (ti_Used : PySem.W.typeIn K (.ref a_Used_init) = some (.type "function"))
    (l_Used_init : K.lookup a_Used_init = some ⟨oc_Used_init, od_Used_init, .func (PySem.W.fnOf "__init__" "Used.__init__" (defArgs st_Used_init) (defBody st_Used_init) (defScope st_Used_init) .none kV_Used_init dc_Used_init pm_Used_init an_Used_init cd_Used_init ct_Used_init), sl_Used_init⟩)
    (c_Used_init : PySem.W.codeIn K cd_Used_init "Used.__init__" = true)
    (k_Used_init : PySem.W.keepIn K (.ref a_Used_init) = true)
    (kC_Used : PySem.W.keepIn K (.ref a_Used) = true)
    (eC_Used : PySem.W.subIn K (.ref a_Used) (.type "BaseException") = some true)
    (tC_Used : PySem.W.typeIn K (.ref a_Used) = some (.type "type"))
    (hC_Used : PySem.W.hasDictIn K a_Used = true)
    (g_NoDeed : PySem.W.nsIn K mainGlobals "NoDeed" = some (some (.ref a_NoDeed)))
    (xL_NoDeed : K.lookup a_NoDeed = some (excClassObj nm_NoDeed q_NoDeed a_NoDeed N_NoDeed bs_NoDeed [.ref a_LotError, .type "ValueError", .type "Exception", .type "BaseException", .type "object"] true sn_NoDeed sub_NoDeed ab_NoDeed col_NoDeed dd_NoDeed m0_NoDeed m1_NoDeed m2_NoDeed m3_NoDeed m5_NoDeed "ValueError.__new__"))
    (sa_NoDeed : PySem.W.findIn K (.ref a_NoDeed) "__setattr__" = some (some (.builtin "object.__setattr__")))
    (ga_NoDeed : PySem.W.findIn K (.ref a_NoDeed) "__getattribute__" = some (some (.builtin "BaseException.__getattribute__")))
    (gg_NoDeed : PySem.W.findIn K (.ref a_NoDeed) "__getattr__" = some none)
    (gi_NoDeed : PySem.W.findIn K (.ref a_NoDeed) "__init__" = some (some (.ref a_NoDeed_init)))
    (ti_NoDeed : PySem.W.typeIn K (.ref a_NoDeed_init) = some (.type "function"))
    (l_NoDeed_init : K.lookup a_NoDeed_init = some ⟨oc_NoDeed_init, od_NoDeed_init, .func (PySem.W.fnOf "__init__" "NoDeed.__init__" (defArgs st_NoDeed_init) (defBody st_NoDeed_init) (defScope st_NoDeed_init) .none kV_NoDeed_init dc_NoDeed_init pm_NoDeed_init an_NoDeed_init cd_NoDeed_init ct_NoDeed_init), sl_NoDeed_init⟩)
    (c_NoDeed_init : PySem.W.codeIn K cd_NoDeed_init "NoDeed.__init__" = true)
    (k_NoDeed_init : PySem.W.keepIn K (.ref a_NoDeed_init) = true)
    (kC_NoDeed : PySem.W.keepIn K (.ref a_NoDeed) = true)
    (eC_NoDeed : PySem.W.subIn K (.ref a_NoDeed) (.type "BaseException") = some true)
    (tC_NoDeed : PySem.W.typeIn K (.ref a_NoDeed) = some (.type "type"))
    (hC_NoDeed : PySem.W.hasDictIn K a_NoDeed = true)
    (g_BadTable : PySem.W.nsIn K mainGlobals "BadTable" = some (some (.ref a_BadTable)))
    (xL_BadTable : K.lookup a_BadTable = some (excClassObj nm_BadTable q_BadTable a_BadTable N_BadTable bs_BadTable [.ref a_LotError, .type "ValueError", .type "Exception", .type "BaseException", .type "object"] true sn_BadTable sub_BadTable ab_BadTable col_BadTable dd_BadTable m0_BadTable m1_BadTable m2_BadTable m3_BadTable m5_BadTable "ValueError.__new__"))
    (sa_BadTable : PySem.W.findIn K (.ref a_BadTable) "__setattr__" = some (some (.builtin "object.__setattr__")))
    (ga_BadTable : PySem.W.findIn K (.ref a_BadTable) "__getattribute__" = some (some (.builtin "BaseException.__getattribute__")))
    (gg_BadTable : PySem.W.findIn K (.ref a_BadTable) "__getattr__" = some none)
    (gi_BadTable : PySem.W.findIn K (.ref a_BadTable) "__init__" = some (some (.ref a_BadTable_init)))
    (ti_BadTable : PySem.W.typeIn K (.ref a_BadTable_init) = some (.type "function"))
    (l_BadTable_init : K.lookup a_BadTable_init = some ⟨oc_BadTable_init, od_BadTable_init, .func (PySem.W.fnOf "__init__" "BadTable.__init__" (defArgs st_BadTable_init) (defBody st_BadTable_init) (defScope st_BadTable_init) .none kV_BadTable_init dc_BadTable_init pm_BadTable_init an_BadTable_init cd_BadTable_init ct_BadTable_init), sl_BadTable_init⟩)
    (c_BadTable_init : PySem.W.codeIn K cd_BadTable_init "BadTable.__init__" = true)
    (k_BadTable_init : PySem.W.keepIn K (.ref a_BadTable_init) = true)
    (kC_BadTable : PySem.W.keepIn K (.ref a_BadTable) = true)
    (eC_BadTable : PySem.W.subIn K (.ref a_BadTable) (.type "BaseException") = some true)
    (tC_BadTable : PySem.W.typeIn K (.ref a_BadTable) = some (.type "type"))
    (hC_BadTable : PySem.W.hasDictIn K a_BadTable = true)
    (g_Ringed : PySem.W.nsIn K mainGlobals "Ringed" = some (some (.ref a_Ringed)))
    (xL_Ringed : K.lookup a_Ringed = some (excClassObj nm_Ringed q_Ringed a_Ringed N_Ringed bs_Ringed [.ref a_LotError, .type "ValueError", .type "Exception", .type "BaseException", .type "object"] true sn_Ringed sub_Ringed ab_Ringed col_Ringed dd_Ringed m0_Ringed m1_Ringed m2_Ringed m3_Ringed m5_Ringed "ValueError.__new__"))
    (sa_Ringed : PySem.W.findIn K (.ref a_Ringed) "__setattr__" = some (some (.builtin "object.__setattr__")))
    (ga_Ringed : PySem.W.findIn K (.ref a_Ringed) "__getattribute__" = some (some (.builtin "BaseException.__getattribute__")))
    (gg_Ringed : PySem.W.findIn K (.ref a_Ringed) "__getattr__" = some none)
    (nf_Ringed : PySem.W.findIn K (.ref a_Ringed) "ring" = some none)
    (gi_Ringed : PySem.W.findIn K (.ref a_Ringed) "__init__" = some (some (.ref a_Ringed_init)))
    (ti_Ringed : PySem.W.typeIn K (.ref a_Ringed_init) = some (.type "function"))
    (l_Ringed_init : K.lookup a_Ringed_init = some ⟨oc_Ringed_init, od_Ringed_init, .func (PySem.W.fnOf "__init__" "Ringed.__init__" (defArgs st_Ringed_init) (defBody st_Ringed_init) (defScope st_Ringed_init) .none kV_Ringed_init dc_Ringed_init pm_Ringed_init an_Ringed_init cd_Ringed_init ct_Ringed_init), sl_Ringed_init⟩)
    (c_Ringed_init : PySem.W.codeIn K cd_Ringed_init "Ringed.__init__" = true)
    (k_Ringed_init : PySem.W.keepIn K (.ref a_Ringed_init) = true)
    (kC_Ringed : PySem.W.keepIn K (.ref a_Ringed) = true)
    (eC_Ringed : PySem.W.subIn K (.ref a_Ringed) (.type "BaseException") = some true)
    (tC_Ringed : PySem.W.typeIn K (.ref a_Ringed) = some (.type "type"))
    (hC_Ringed : PySem.W.hasDictIn K a_Ringed = true)
    (g_TooFew : PySem.W.nsIn K mainGlobals "TooFew" = some (some (.ref a_TooFew)))
    (xL_TooFew : K.lookup a_TooFew = some (excClassObj nm_TooFew q_TooFew a_TooFew N_TooFew bs_TooFew [.ref a_LotError, .type "ValueError", .type "Exception", .type "BaseException", .type "object"] true sn_TooFew sub_TooFew ab_TooFew col_TooFew dd_TooFew m0_TooFew m1_TooFew m2_TooFew m3_TooFew m5_TooFew "ValueError.__new__"))
    (sa_TooFew : PySem.W.findIn K (.ref a_TooFew) "__setattr__" = some (some (.builtin "object.__setattr__")))
    (ga_TooFew : PySem.W.findIn K (.ref a_TooFew) "__getattribute__" = some (some (.builtin "BaseException.__getattribute__")))
    (gg_TooFew : PySem.W.findIn K (.ref a_TooFew) "__getattr__" = some none)
    (nf_TooFew : PySem.W.findIn K (.ref a_TooFew) "number" = some none)
    (gi_TooFew : PySem.W.findIn K (.ref a_TooFew) "__init__" = some (some (.ref a_TooFew_init)))
    (ti_TooFew : PySem.W.typeIn K (.ref a_TooFew_init) = some (.type "function"))
    (l_TooFew_init : K.lookup a_TooFew_init = some ⟨oc_TooFew_init, od_TooFew_init, .func (PySem.W.fnOf "__init__" "TooFew.__init__" (defArgs st_TooFew_init) (defBody st_TooFew_init) (defScope st_TooFew_init) .none kV_TooFew_init dc_TooFew_init pm_TooFew_init an_TooFew_init cd_TooFew_init ct_TooFew_init), sl_TooFew_init⟩)
    (c_TooFew_init : PySem.W.codeIn K cd_TooFew_init "TooFew.__init__" = true)
    (k_TooFew_init : PySem.W.keepIn K (.ref a_TooFew_init) = true)
    (kC_TooFew : PySem.W.keepIn K (.ref a_TooFew) = true)
    (eC_TooFew : PySem.W.subIn K (.ref a_TooFew) (.type "BaseException") = some true)
    (tC_TooFew : PySem.W.typeIn K (.ref a_TooFew) = some (.type "type"))
    (hC_TooFew : PySem.W.hasDictIn K a_TooFew = true)
    (g_NotSweep : PySem.W.nsIn K mainGlobals "NotSweep" = some (some (.ref a_NotSweep)))
    (xL_NotSweep : K.lookup a_NotSweep = some (excClassObj nm_NotSweep q_NotSweep a_NotSweep N_NotSweep bs_NotSweep [.ref a_LotError, .type "ValueError", .type "Exception", .type "BaseException", .type "object"] true sn_NotSweep sub_NotSweep ab_NotSweep col_NotSweep dd_NotSweep m0_NotSweep m1_NotSweep m2_NotSweep m3_NotSweep m5_NotSweep "ValueError.__new__"))
    (sa_NotSweep : PySem.W.findIn K (.ref a_NotSweep) "__setattr__" = some (some (.builtin "object.__setattr__")))
    (ga_NotSweep : PySem.W.findIn K (.ref a_NotSweep) "__getattribute__" = some (some (.builtin "BaseException.__getattribute__")))
    (gg_NotSweep : PySem.W.findIn K (.ref a_NotSweep) "__getattr__" = some none)
    (gi_NotSweep : PySem.W.findIn K (.ref a_NotSweep) "__init__" = some (some (.ref a_NotSweep_init)))
    (ti_NotSweep : PySem.W.typeIn K (.ref a_NotSweep_init) = some (.type "function"))
    (l_NotSweep_init : K.lookup a_NotSweep_init = some ⟨oc_NotSweep_init, od_NotSweep_init, .func (PySem.W.fnOf "__init__" "NotSweep.__init__" (defArgs st_NotSweep_init) (defBody st_NotSweep_init) (defScope st_NotSweep_init) .none kV_NotSweep_init dc_NotSweep_init pm_NotSweep_init an_NotSweep_init cd_NotSweep_init ct_NotSweep_init), sl_NotSweep_init⟩)
    (c_NotSweep_init : PySem.W.codeIn K cd_NotSweep_init "NotSweep.__init__" = true)
    (k_NotSweep_init : PySem.W.keepIn K (.ref a_NotSweep_init) = true)
    (kC_NotSweep : PySem.W.keepIn K (.ref a_NotSweep) = true)
    (eC_NotSweep : PySem.W.subIn K (.ref a_NotSweep) (.type "BaseException") = some true)
    (tC_NotSweep : PySem.W.typeIn K (.ref a_NotSweep) = some (.type "type"))
    (hC_NotSweep : PySem.W.hasDictIn K a_NotSweep = true)
    (g_BadMarks : PySem.W.nsIn K mainGlobals "BadMarks" = some (some (.ref a_BadMarks)))
    (xL_BadMarks : K.lookup a_BadMarks = some (excClassObj nm_BadMarks q_BadMarks a_BadMarks N_BadMarks bs_BadMarks [.ref a_LotError, .type "ValueError", .type "Exception", .type "BaseException", .type "object"] true sn_BadMarks sub_BadMarks ab_BadMarks col_BadMarks dd_BadMarks m0_BadMarks m1_BadMarks m2_BadMarks m3_BadMarks m5_BadMarks "ValueError.__new__"))
    (sa_BadMarks : PySem.W.findIn K (.ref a_BadMarks) "__setattr__" = some (some (.builtin "object.__setattr__")))
    (ga_BadMarks : PySem.W.findIn K (.ref a_BadMarks) "__getattribute__" = some (some (.builtin "BaseException.__getattribute__")))
    (gg_BadMarks : PySem.W.findIn K (.ref a_BadMarks) "__getattr__" = some none)
    (gi_BadMarks : PySem.W.findIn K (.ref a_BadMarks) "__init__" = some (some (.ref a_BadMarks_init)))
    (ti_BadMarks : PySem.W.typeIn K (.ref a_BadMarks_init) = some (.type "function"))
    (l_BadMarks_init : K.lookup a_BadMarks_init = some ⟨oc_BadMarks_init, od_BadMarks_init, .func (PySem.W.fnOf "__init__" "BadMarks.__init__" (defArgs st_BadMarks_init) (defBody st_BadMarks_init) (defScope st_BadMarks_init) .none kV_BadMarks_init dc_BadMarks_init pm_BadMarks_init an_BadMarks_init cd_BadMarks_init ct_BadMarks_init), sl_BadMarks_init⟩)
    (c_BadMarks_init : PySem.W.codeIn K cd_BadMarks_init "BadMarks.__init__" = true)
    (k_BadMarks_init : PySem.W.keepIn K (.ref a_BadMarks_init) = true)
    (kC_BadMarks : PySem.W.keepIn K (.ref a_BadMarks) = true)
    (eC_BadMarks : PySem.W.subIn K (.ref a_BadMarks) (.type "BaseException") = some true)
    (tC_BadMarks : PySem.W.typeIn K (.ref a_BadMarks) = some (.type "type"))
    (hC_BadMarks : PySem.W.hasDictIn K a_BadMarks = true)
    (g_MarkRing : PySem.W.nsIn K mainGlobals "MarkRing" = some (some (.ref a_MarkRing)))
    (xL_MarkRing : K.lookup a_MarkRing = some (excClassObj nm_MarkRing q_MarkRing a_MarkRing N_MarkRing bs_MarkRing [.ref a_LotError, .type "ValueError", .type "Exception", .type "BaseException", .type "object"] true sn_MarkRing sub_MarkRing ab_MarkRing col_MarkRing dd_MarkRing m0_MarkRing m1_MarkRing m2_MarkRing m3_MarkRing m5_MarkRing "ValueError.__new__"))
    (sa_MarkRing : PySem.W.findIn K (.ref a_MarkRing) "__setattr__" = some (some (.builtin "object.__setattr__")))
    (ga_MarkRing : PySem.W.findIn K (.ref a_MarkRing) "__getattribute__" = some (some (.builtin "BaseException.__getattribute__")))
    (gg_MarkRing : PySem.W.findIn K (.ref a_MarkRing) "__getattr__" = some none)
    (nf_MarkRing : PySem.W.findIn K (.ref a_MarkRing) "arrows" = some none)
    (gi_MarkRing : PySem.W.findIn K (.ref a_MarkRing) "__init__" = some (some (.ref a_MarkRing_init)))
    (ti_MarkRing : PySem.W.typeIn K (.ref a_MarkRing_init) = some (.type "function"))
    (l_MarkRing_init : K.lookup a_MarkRing_init = some ⟨oc_MarkRing_init, od_MarkRing_init, .func (PySem.W.fnOf "__init__" "MarkRing.__init__" (defArgs st_MarkRing_init) (defBody st_MarkRing_init) (defScope st_MarkRing_init) .none kV_MarkRing_init dc_MarkRing_init pm_MarkRing_init an_MarkRing_init cd_MarkRing_init ct_MarkRing_init), sl_MarkRing_init⟩)
    (c_MarkRing_init : PySem.W.codeIn K cd_MarkRing_init "MarkRing.__init__" = true)
    (k_MarkRing_init : PySem.W.keepIn K (.ref a_MarkRing_init) = true)
    (kC_MarkRing : PySem.W.keepIn K (.ref a_MarkRing) = true)
    (eC_MarkRing : PySem.W.subIn K (.ref a_MarkRing) (.type "BaseException") = some true)
    (tC_MarkRing : PySem.W.typeIn K (.ref a_MarkRing) = some (.type "type"))
    (hC_MarkRing : PySem.W.hasDictIn K a_MarkRing = true)
    (g_NoSuch : PySem.W.nsIn K mainGlobals "NoSuch" = some (some (.ref a_NoSuch)))
    (xL_NoSuch : K.lookup a_NoSuch = some (excClassObj nm_NoSuch q_NoSuch a_NoSuch N_NoSuch bs_NoSuch [.ref a_LotError, .type "ValueError", .type "Exception", .type "BaseException", .type "object"] true sn_NoSuch sub_NoSuch ab_NoSuch col_NoSuch dd_NoSuch m0_NoSuch m1_NoSuch m2_NoSuch m3_NoSuch m5_NoSuch "ValueError.__new__"))
    (sa_NoSuch : PySem.W.findIn K (.ref a_NoSuch) "__setattr__" = some (some (.builtin "object.__setattr__")))
    (ga_NoSuch : PySem.W.findIn K (.ref a_NoSuch) "__getattribute__" = some (some (.builtin "BaseException.__getattribute__")))
    (gg_NoSuch : PySem.W.findIn K (.ref a_NoSuch) "__getattr__" = some none)
    (nf_NoSuch : PySem.W.findIn K (.ref a_NoSuch) "number" = some none)
    (gi_NoSuch : PySem.W.findIn K (.ref a_NoSuch) "__init__" = some (some (.ref a_NoSuch_init)))
    (ti_NoSuch : PySem.W.typeIn K (.ref a_NoSuch_init) = some (.type "function"))
    (l_NoSuch_init : K.lookup a_NoSuch_init = some ⟨oc_NoSuch_init, od_NoSuch_init, .func (PySem.W.fnOf "__init__" "NoSuch.__init__" (defArgs st_NoSuch_init) (defBody st_NoSuch_init) (defScope st_NoSuch_init) .none kV_NoSuch_init dc_NoSuch_init pm_NoSuch_init an_NoSuch_init cd_NoSuch_init ct_NoSuch_init), sl_NoSuch_init⟩)
    (c_NoSuch_init : PySem.W.codeIn K cd_NoSuch_init "NoSuch.__init__" = true)
    (k_NoSuch_init : PySem.W.keepIn K (.ref a_NoSuch_init) = true)
    (kC_NoSuch : PySem.W.keepIn K (.ref a_NoSuch) = true)
    (eC_NoSuch : PySem.W.subIn K (.ref a_NoSuch) (.type "BaseException") = some true)
    (tC_NoSuch : PySem.W.typeIn K (.ref a_NoSuch) = some (.type "type"))
    (hC_NoSuch : PySem.W.hasDictIn K a_NoSuch = true)
    (g_Unlike : PySem.W.nsIn K mainGlobals "Unlike" = some (some (.ref a_Unlike)))
    (xL_Unlike : K.lookup a_Unlike = some (excClassObj nm_Unlike q_Unlike a_Unlike N_Unlike bs_Unlike [.ref a_LotError, .type "ValueError", .type "Exception", .type "BaseException", .type "object"] true sn_Unlike sub_Unlike ab_Unlike col_Unlike dd_Unlike m0_Unlike m1_Unlike m2_Unlike m3_Unlike m5_Unlike "ValueError.__new__"))
    (sa_Unlike : PySem.W.findIn K (.ref a_Unlike) "__setattr__" = some (some (.builtin "object.__setattr__")))
    (ga_Unlike : PySem.W.findIn K (.ref a_Unlike) "__getattribute__" = some (some (.builtin "BaseException.__getattribute__")))
    (gg_Unlike : PySem.W.findIn K (.ref a_Unlike) "__getattr__" = some none)
    (gi_Unlike : PySem.W.findIn K (.ref a_Unlike) "__init__" = some (some (.ref a_Unlike_init)))
    (ti_Unlike : PySem.W.typeIn K (.ref a_Unlike_init) = some (.type "function"))
    (l_Unlike_init : K.lookup a_Unlike_init = some ⟨oc_Unlike_init, od_Unlike_init, .func (PySem.W.fnOf "__init__" "Unlike.__init__" (defArgs st_Unlike_init) (defBody st_Unlike_init) (defScope st_Unlike_init) .none kV_Unlike_init dc_Unlike_init pm_Unlike_init an_Unlike_init cd_Unlike_init ct_Unlike_init), sl_Unlike_init⟩)
    (c_Unlike_init : PySem.W.codeIn K cd_Unlike_init "Unlike.__init__" = true)
    (k_Unlike_init : PySem.W.keepIn K (.ref a_Unlike_init) = true)
    (kC_Unlike : PySem.W.keepIn K (.ref a_Unlike) = true)
    (eC_Unlike : PySem.W.subIn K (.ref a_Unlike) (.type "BaseException") = some true)
    (tC_Unlike : PySem.W.typeIn K (.ref a_Unlike) = some (.type "type"))
    (hC_Unlike : PySem.W.hasDictIn K a_Unlike = true)
    (g_BadCells : PySem.W.nsIn K mainGlobals "BadCells" = some (some (.ref a_BadCells)))
    (xL_BadCells : K.lookup a_BadCells = some (excClassObj nm_BadCells q_BadCells a_BadCells N_BadCells bs_BadCells [.ref a_LotError, .type "ValueError", .type "Exception", .type "BaseException", .type "object"] true sn_BadCells sub_BadCells ab_BadCells col_BadCells dd_BadCells m0_BadCells m1_BadCells m2_BadCells m3_BadCells m5_BadCells "ValueError.__new__"))
    (sa_BadCells : PySem.W.findIn K (.ref a_BadCells) "__setattr__" = some (some (.builtin "object.__setattr__")))
    (ga_BadCells : PySem.W.findIn K (.ref a_BadCells) "__getattribute__" = some (some (.builtin "BaseException.__getattribute__")))
    (gg_BadCells : PySem.W.findIn K (.ref a_BadCells) "__getattr__" = some none)
    (gi_BadCells : PySem.W.findIn K (.ref a_BadCells) "__init__" = some (some (.ref a_BadCells_init)))
    (ti_BadCells : PySem.W.typeIn K (.ref a_BadCells_init) = some (.type "function"))
    (l_BadCells_init : K.lookup a_BadCells_init = some ⟨oc_BadCells_init, od_BadCells_init, .func (PySem.W.fnOf "__init__" "BadCells.__init__" (defArgs st_BadCells_init) (defBody st_BadCells_init) (defScope st_BadCells_init) .none kV_BadCells_init dc_BadCells_init pm_BadCells_init an_BadCells_init cd_BadCells_init ct_BadCells_init), sl_BadCells_init⟩)
    (c_BadCells_init : PySem.W.codeIn K cd_BadCells_init "BadCells.__init__" = true)
    (k_BadCells_init : PySem.W.keepIn K (.ref a_BadCells_init) = true)
    (kC_BadCells : PySem.W.keepIn K (.ref a_BadCells) = true)
    (eC_BadCells : PySem.W.subIn K (.ref a_BadCells) (.type "BaseException") = some true)
    (tC_BadCells : PySem.W.typeIn K (.ref a_BadCells) = some (.type "type"))
    (hC_BadCells : PySem.W.hasDictIn K a_BadCells = true)
    (g_BadActs : PySem.W.nsIn K mainGlobals "BadActs" = some (some (.ref a_BadActs)))
    (xL_BadActs : K.lookup a_BadActs = some (excClassObj nm_BadActs q_BadActs a_BadActs N_BadActs bs_BadActs [.ref a_LotError, .type "ValueError", .type "Exception", .type "BaseException", .type "object"] true sn_BadActs sub_BadActs ab_BadActs col_BadActs dd_BadActs m0_BadActs m1_BadActs m2_BadActs m3_BadActs m5_BadActs "ValueError.__new__"))
    (sa_BadActs : PySem.W.findIn K (.ref a_BadActs) "__setattr__" = some (some (.builtin "object.__setattr__")))
    (ga_BadActs : PySem.W.findIn K (.ref a_BadActs) "__getattribute__" = some (some (.builtin "BaseException.__getattribute__")))
    (gg_BadActs : PySem.W.findIn K (.ref a_BadActs) "__getattr__" = some none)
    (nf_BadActs : PySem.W.findIn K (.ref a_BadActs) "index" = some none)
    (gi_BadActs : PySem.W.findIn K (.ref a_BadActs) "__init__" = some (some (.ref a_BadActs_init)))
    (ti_BadActs : PySem.W.typeIn K (.ref a_BadActs_init) = some (.type "function"))
    (l_BadActs_init : K.lookup a_BadActs_init = some ⟨oc_BadActs_init, od_BadActs_init, .func (PySem.W.fnOf "__init__" "BadActs.__init__" (defArgs st_BadActs_init) (defBody st_BadActs_init) (defScope st_BadActs_init) .none kV_BadActs_init dc_BadActs_init pm_BadActs_init an_BadActs_init cd_BadActs_init ct_BadActs_init), sl_BadActs_init⟩)
    (c_BadActs_init : PySem.W.codeIn K cd_BadActs_init "BadActs.__init__" = true)
    (k_BadActs_init : PySem.W.keepIn K (.ref a_BadActs_init) = true)
    (kC_BadActs : PySem.W.keepIn K (.ref a_BadActs) = true)
    (eC_BadActs : PySem.W.subIn K (.ref a_BadActs) (.type "BaseException") = some true)
    (tC_BadActs : PySem.W.typeIn K (.ref a_BadActs) = some (.type "type"))
    (hC_BadActs : PySem.W.hasDictIn K a_BadActs = true)
    (g_NoLot : PySem.W.nsIn K mainGlobals "NoLot" = some (some (.ref a_NoLot)))
    (xL_NoLot : K.lookup a_NoLot = some (excClassObj nm_NoLot q_NoLot a_NoLot N_NoLot bs_NoLot [.ref a_LotError, .type "ValueError", .type "Exception", .type "BaseException", .type "object"] true sn_NoLot sub_NoLot ab_NoLot col_NoLot dd_NoLot m0_NoLot m1_NoLot m2_NoLot m3_NoLot m5_NoLot "ValueError.__new__"))
    (sa_NoLot : PySem.W.findIn K (.ref a_NoLot) "__setattr__" = some (some (.builtin "object.__setattr__")))
    (ga_NoLot : PySem.W.findIn K (.ref a_NoLot) "__getattribute__" = some (some (.builtin "BaseException.__getattribute__")))
    (gg_NoLot : PySem.W.findIn K (.ref a_NoLot) "__getattr__" = some none)
    (nf_NoLot : PySem.W.findIn K (.ref a_NoLot) "index" = some none)
    (gi_NoLot : PySem.W.findIn K (.ref a_NoLot) "__init__" = some (some (.ref a_NoLot_init)))
    (ti_NoLot : PySem.W.typeIn K (.ref a_NoLot_init) = some (.type "function"))
    (l_NoLot_init : K.lookup a_NoLot_init = some ⟨oc_NoLot_init, od_NoLot_init, .func (PySem.W.fnOf "__init__" "NoLot.__init__" (defArgs st_NoLot_init) (defBody st_NoLot_init) (defScope st_NoLot_init) .none kV_NoLot_init dc_NoLot_init pm_NoLot_init an_NoLot_init cd_NoLot_init ct_NoLot_init), sl_NoLot_init⟩)
    (c_NoLot_init : PySem.W.codeIn K cd_NoLot_init "NoLot.__init__" = true)
    (k_NoLot_init : PySem.W.keepIn K (.ref a_NoLot_init) = true)
    (kC_NoLot : PySem.W.keepIn K (.ref a_NoLot) = true)
    (eC_NoLot : PySem.W.subIn K (.ref a_NoLot) (.type "BaseException") = some true)
    (tC_NoLot : PySem.W.typeIn K (.ref a_NoLot) = some (.type "type"))
    (hC_NoLot : PySem.W.hasDictIn K a_NoLot = true)
    (g_BadPiece : PySem.W.nsIn K mainGlobals "BadPiece" = some (some (.ref a_BadPiece)))
    (xL_BadPiece : K.lookup a_BadPiece = some (excClassObj nm_BadPiece q_BadPiece a_BadPiece N_BadPiece bs_BadPiece [.ref a_LotError, .type "ValueError", .type "Exception", .type "BaseException", .type "object"] true sn_BadPiece sub_BadPiece ab_BadPiece col_BadPiece dd_BadPiece m0_BadPiece m1_BadPiece m2_BadPiece m3_BadPiece m5_BadPiece "ValueError.__new__"))
    (sa_BadPiece : PySem.W.findIn K (.ref a_BadPiece) "__setattr__" = some (some (.builtin "object.__setattr__")))
    (ga_BadPiece : PySem.W.findIn K (.ref a_BadPiece) "__getattribute__" = some (some (.builtin "BaseException.__getattribute__")))
    (gg_BadPiece : PySem.W.findIn K (.ref a_BadPiece) "__getattr__" = some none)
    (gi_BadPiece : PySem.W.findIn K (.ref a_BadPiece) "__init__" = some (some (.ref a_BadPiece_init)))
    (ti_BadPiece : PySem.W.typeIn K (.ref a_BadPiece_init) = some (.type "function"))
    (l_BadPiece_init : K.lookup a_BadPiece_init = some ⟨oc_BadPiece_init, od_BadPiece_init, .func (PySem.W.fnOf "__init__" "BadPiece.__init__" (defArgs st_BadPiece_init) (defBody st_BadPiece_init) (defScope st_BadPiece_init) .none kV_BadPiece_init dc_BadPiece_init pm_BadPiece_init an_BadPiece_init cd_BadPiece_init ct_BadPiece_init), sl_BadPiece_init⟩)
    (c_BadPiece_init : PySem.W.codeIn K cd_BadPiece_init "BadPiece.__init__" = true)
    (k_BadPiece_init : PySem.W.keepIn K (.ref a_BadPiece_init) = true)
    (kC_BadPiece : PySem.W.keepIn K (.ref a_BadPiece) = true)
    (eC_BadPiece : PySem.W.subIn K (.ref a_BadPiece) (.type "BaseException") = some true)
    (tC_BadPiece : PySem.W.typeIn K (.ref a_BadPiece) = some (.type "type"))
    (hC_BadPiece : PySem.W.hasDictIn K a_BadPiece = true)
    (g_BadArrow : PySem.W.nsIn K mainGlobals "BadArrow" = some (some (.ref a_BadArrow)))
    (xL_BadArrow : K.lookup a_BadArrow = some (excClassObj nm_BadArrow q_BadArrow a_BadArrow N_BadArrow bs_BadArrow [.ref a_LotError, .type "ValueError", .type "Exception", .type "BaseException", .type "object"] true sn_BadArrow sub_BadArrow ab_BadArrow col_BadArrow dd_BadArrow m0_BadArrow m1_BadArrow m2_BadArrow m3_BadArrow m5_BadArrow "ValueError.__new__"))
    (sa_BadArrow : PySem.W.findIn K (.ref a_BadArrow) "__setattr__" = some (some (.builtin "object.__setattr__")))
    (ga_BadArrow : PySem.W.findIn K (.ref a_BadArrow) "__getattribute__" = some (some (.builtin "BaseException.__getattribute__")))
    (gg_BadArrow : PySem.W.findIn K (.ref a_BadArrow) "__getattr__" = some none)
    (nf_BadArrow : PySem.W.findIn K (.ref a_BadArrow) "index" = some none)
    (gi_BadArrow : PySem.W.findIn K (.ref a_BadArrow) "__init__" = some (some (.ref a_BadArrow_init)))
    (ti_BadArrow : PySem.W.typeIn K (.ref a_BadArrow_init) = some (.type "function"))
    (l_BadArrow_init : K.lookup a_BadArrow_init = some ⟨oc_BadArrow_init, od_BadArrow_init, .func (PySem.W.fnOf "__init__" "BadArrow.__init__" (defArgs st_BadArrow_init) (defBody st_BadArrow_init) (defScope st_BadArrow_init) .none kV_BadArrow_init dc_BadArrow_init pm_BadArrow_init an_BadArrow_init cd_BadArrow_init ct_BadArrow_init), sl_BadArrow_init⟩)
    (c_BadArrow_init : PySem.W.codeIn K cd_BadArrow_init "BadArrow.__init__" = true)
    (k_BadArrow_init : PySem.W.keepIn K (.ref a_BadArrow_init) = true)
    (kC_BadArrow : PySem.W.keepIn K (.ref a_BadArrow) = true)
    (eC_BadArrow : PySem.W.subIn K (.ref a_BadArrow) (.type "BaseException") = some true)
    (tC_BadArrow : PySem.W.typeIn K (.ref a_BadArrow) = some (.type "type"))
    (hC_BadArrow : PySem.W.hasDictIn K a_BadArrow = true)
    (g_BadWave : PySem.W.nsIn K mainGlobals "BadWave" = some (some (.ref a_BadWave)))
    (xL_BadWave : K.lookup a_BadWave = some (excClassObj nm_BadWave q_BadWave a_BadWave N_BadWave bs_BadWave [.ref a_LotError, .type "ValueError", .type "Exception", .type "BaseException", .type "object"] true sn_BadWave sub_BadWave ab_BadWave col_BadWave dd_BadWave m0_BadWave m1_BadWave m2_BadWave m3_BadWave m5_BadWave "ValueError.__new__"))
    (sa_BadWave : PySem.W.findIn K (.ref a_BadWave) "__setattr__" = some (some (.builtin "object.__setattr__")))
    (ga_BadWave : PySem.W.findIn K (.ref a_BadWave) "__getattribute__" = some (some (.builtin "BaseException.__getattribute__")))
    (gg_BadWave : PySem.W.findIn K (.ref a_BadWave) "__getattr__" = some none)
    (gi_BadWave : PySem.W.findIn K (.ref a_BadWave) "__init__" = some (some (.ref a_BadWave_init)))
    (ti_BadWave : PySem.W.typeIn K (.ref a_BadWave_init) = some (.type "function"))
    (l_BadWave_init : K.lookup a_BadWave_init = some ⟨oc_BadWave_init, od_BadWave_init, .func (PySem.W.fnOf "__init__" "BadWave.__init__" (defArgs st_BadWave_init) (defBody st_BadWave_init) (defScope st_BadWave_init) .none kV_BadWave_init dc_BadWave_init pm_BadWave_init an_BadWave_init cd_BadWave_init ct_BadWave_init), sl_BadWave_init⟩)
    (c_BadWave_init : PySem.W.codeIn K cd_BadWave_init "BadWave.__init__" = true)
    (k_BadWave_init : PySem.W.keepIn K (.ref a_BadWave_init) = true)
    (kC_BadWave : PySem.W.keepIn K (.ref a_BadWave) = true)
    (eC_BadWave : PySem.W.subIn K (.ref a_BadWave) (.type "BaseException") = some true)
    (tC_BadWave : PySem.W.typeIn K (.ref a_BadWave) = some (.type "type"))
    (hC_BadWave : PySem.W.hasDictIn K a_BadWave = true)
    (g_BadText : PySem.W.nsIn K mainGlobals "BadText" = some (some (.ref a_BadText)))
    (xL_BadText : K.lookup a_BadText = some (excClassObj nm_BadText q_BadText a_BadText N_BadText bs_BadText [.ref a_LotError, .type "ValueError", .type "Exception", .type "BaseException", .type "object"] true sn_BadText sub_BadText ab_BadText col_BadText dd_BadText m0_BadText m1_BadText m2_BadText m3_BadText m5_BadText "ValueError.__new__"))
    (sa_BadText : PySem.W.findIn K (.ref a_BadText) "__setattr__" = some (some (.builtin "object.__setattr__")))
    (ga_BadText : PySem.W.findIn K (.ref a_BadText) "__getattribute__" = some (some (.builtin "BaseException.__getattribute__")))
    (gg_BadText : PySem.W.findIn K (.ref a_BadText) "__getattr__" = some none)
    (nf_BadText : PySem.W.findIn K (.ref a_BadText) "line" = some none)
    (gi_BadText : PySem.W.findIn K (.ref a_BadText) "__init__" = some (some (.ref a_BadText_init)))
    (ti_BadText : PySem.W.typeIn K (.ref a_BadText_init) = some (.type "function"))
    (l_BadText_init : K.lookup a_BadText_init = some ⟨oc_BadText_init, od_BadText_init, .func (PySem.W.fnOf "__init__" "BadText.__init__" (defArgs st_BadText_init) (defBody st_BadText_init) (defScope st_BadText_init) .none kV_BadText_init dc_BadText_init pm_BadText_init an_BadText_init cd_BadText_init ct_BadText_init), sl_BadText_init⟩)
    (c_BadText_init : PySem.W.codeIn K cd_BadText_init "BadText.__init__" = true)
    (k_BadText_init : PySem.W.keepIn K (.ref a_BadText_init) = true)
    (kC_BadText : PySem.W.keepIn K (.ref a_BadText) = true)
    (eC_BadText : PySem.W.subIn K (.ref a_BadText) (.type "BaseException") = some true)
    (tC_BadText : PySem.W.typeIn K (.ref a_BadText) = some (.type "type"))
    (hC_BadText : PySem.W.hasDictIn K a_BadText = true)
    (x_LotError : PySem.W.excIn K a_LotError [.type "ValueError", .type "Exception", .type "BaseException", .type "object"] "ValueError.__new__" = true)
    (k_LotError : PySem.W.keepIn K (.ref a_LotError) = true)
    (ezb : (([("BadWeb", a_BadWeb), ("UnknownCell", a_UnknownCell), ("BadProgram", a_BadProgram), ("BadNumber", a_BadNumber), ("BadRules", a_BadRules), ("BadWorth", a_BadWorth), ("BadName", a_BadName), ("Held", a_Held), ("NotHeld", a_NotHeld), ("BadDeed", a_BadDeed), ("Taken", a_Taken), ("Used", a_Used), ("NoDeed", a_NoDeed), ("BadTable", a_BadTable), ("Ringed", a_Ringed), ("TooFew", a_TooFew), ("NotSweep", a_NotSweep), ("BadMarks", a_BadMarks), ("MarkRing", a_MarkRing), ("NoSuch", a_NoSuch), ("Unlike", a_Unlike), ("BadCells", a_BadCells), ("BadActs", a_BadActs), ("NoLot", a_NoLot), ("BadPiece", a_BadPiece), ("BadArrow", a_BadArrow), ("BadWave", a_BadWave), ("BadText", a_BadText), ("LotError", a_LotError)] : List (Str × Addr)).all fun p => excB K p.2) = true)
    (ixb : kitB K [("BadWeb", a_BadWeb), ("UnknownCell", a_UnknownCell), ("BadProgram", a_BadProgram), ("BadNumber", a_BadNumber), ("BadRules", a_BadRules), ("BadWorth", a_BadWorth), ("BadName", a_BadName), ("Held", a_Held), ("NotHeld", a_NotHeld), ("BadDeed", a_BadDeed), ("Taken", a_Taken), ("Used", a_Used), ("NoDeed", a_NoDeed), ("BadTable", a_BadTable), ("Ringed", a_Ringed), ("TooFew", a_TooFew), ("NotSweep", a_NotSweep), ("BadMarks", a_BadMarks), ("MarkRing", a_MarkRing), ("NoSuch", a_NoSuch), ("Unlike", a_Unlike), ("BadCells", a_BadCells), ("BadActs", a_BadActs), ("NoLot", a_NoLot), ("BadPiece", a_BadPiece), ("BadArrow", a_BadArrow), ("BadWave", a_BadWave), ("BadText", a_BadText), ("LotError", a_LotError)] = true)
    (ivb : kivB K [("BadWeb", a_BadWeb), ("UnknownCell", a_UnknownCell), ("BadProgram", a_BadProgram), ("BadNumber", a_BadNumber), ("BadRules", a_BadRules), ("BadWorth", a_BadWorth), ("BadName", a_BadName), ("Held", a_Held), ("NotHeld", a_NotHeld), ("BadDeed", a_BadDeed), ("Taken", a_Taken), ("Used", a_Used), ("NoDeed", a_NoDeed), ("BadTable", a_BadTable), ("Ringed", a_Ringed), ("TooFew", a_TooFew), ("NotSweep", a_NotSweep), ("BadMarks", a_BadMarks), ("MarkRing", a_MarkRing), ("NoSuch", a_NoSuch), ("Unlike", a_Unlike), ("BadCells", a_BadCells), ("BadActs", a_BadActs), ("NoLot", a_NoLot), ("BadPiece", a_BadPiece), ("BadArrow", a_BadArrow), ("BadWave", a_BadWave), ("BadText", a_BadText), ("LotError", a_LotError)] = true)
    (z_ValueError : PySem.W.nsIn K mainGlobals "ValueError" = some none)
    (z_all : PySem.W.nsIn K mainGlobals "all" = some none)
    (z_any : PySem.W.nsIn K mainGlobals "any" = some none)
    (z_bool : PySem.W.nsIn K mainGlobals "bool" = some none)
    (z_int : PySem.W.nsIn K mainGlobals "int" = some none)
    (z_isinstance : PySem.W.nsIn K mainGlobals "isinstance" = some none)
    (z_len : PySem.W.nsIn K mainGlobals "len" = some none)
    (z_range : PySem.W.nsIn K mainGlobals "range" = some none)
    : ∃ T : Tx K mg, T.a_law = a_law ∧ ∃ kV dc pm an cd ct, T.d_law = PySem.W.fnOf "law" "law" (defArgs st_law) (defBody st_law) (defScope st_law) .none kV dc pm an cd ct := by
  have F__law_pool := fun_mk (st := st__law_pool) l__law_pool c__law_pool k__law_pool
  have B__law_pool := F__law_pool.binds (ps := ["_law_grain"]) fun _ _ _ _ _ _ us hl => match us, hl with | [_], _ => rfl
  have F__law_cell := fun_mk (st := st__law_cell) l__law_cell c__law_cell k__law_cell
  have B__law_cell := F__law_cell.binds (ps := ["_law_script", "_law_k"]) fun _ _ _ _ _ _ us hl => match us, hl with | [_, _], _ => rfl
  have F__law_take := fun_mk (st := st__law_take) l__law_take c__law_take k__law_take
  have B__law_take := F__law_take.binds (ps := ["_law_pool_here", "_law_many"]) fun _ _ _ _ _ _ us hl => match us, hl with | [_, _], _ => rfl
  have F__law_thing := fun_mk (st := st__law_thing) l__law_thing c__law_thing k__law_thing
  have B__law_thing := F__law_thing.binds (ps := ["_law_pool_here"]) fun _ _ _ _ _ _ us hl => match us, hl with | [_], _ => rfl
  have F__law_by_name := fun_mk (st := st__law_by_name) l__law_by_name c__law_by_name k__law_by_name
  have B__law_by_name := F__law_by_name.binds (ps := ["_law_x"]) fun _ _ _ _ _ _ us hl => match us, hl with | [_], _ => rfl
  have F__law_by_place := fun_mk (st := st__law_by_place) l__law_by_place c__law_by_place k__law_by_place
  have B__law_by_place := F__law_by_place.binds (ps := ["_law_x"]) fun _ _ _ _ _ _ us hl => match us, hl with | [_], _ => rfl
  have F__law_held := fun_mk (st := st__law_held) l__law_held c__law_held k__law_held
  have B__law_held := F__law_held.binds (ps := ["_law_e"]) fun _ _ _ _ _ _ us hl => match us, hl with | [_], _ => rfl
  have F__law_is_same := fun_mk (st := st__law_is_same) l__law_is_same c__law_is_same k__law_is_same
  have B__law_is_same := F__law_is_same.binds (ps := ["_law_one", "_law_other"]) fun _ _ _ _ _ _ us hl => match us, hl with | [_, _], _ => rfl
  have F__law_others := fun_mk (st := st__law_others) l__law_others c__law_others k__law_others
  have B__law_others := F__law_others.binds (ps := []) fun _ _ _ _ _ _ us hl => match us, hl with | [], _ => rfl
  have F__law_classes := fun_mk (st := st__law_classes) l__law_classes c__law_classes k__law_classes
  have B__law_classes := F__law_classes.binds (ps := ["_law_e"]) fun _ _ _ _ _ _ us hl => match us, hl with | [_], _ => rfl
  have F_law := fun_mk (st := st_law) l_law c_law k_law
  have B_law := F_law.binds (ps := ["_law_script"]) fun _ _ _ _ _ _ us hl => match us, hl with | [_], _ => rfl
  have F_BadWeb_init := fun_mk (st := st_BadWeb_init) l_BadWeb_init c_BadWeb_init k_BadWeb_init
  have B_BadWeb_init := F_BadWeb_init.binds (ps := ["self", "index"]) fun _ _ _ _ _ _ us hl => match us, hl with | [_, _], _ => rfl
  have F_UnknownCell_init := fun_mk (st := st_UnknownCell_init) l_UnknownCell_init c_UnknownCell_init k_UnknownCell_init
  have B_UnknownCell_init := F_UnknownCell_init.binds (ps := ["self", "cell"]) fun _ _ _ _ _ _ us hl => match us, hl with | [_, _], _ => rfl
  have F_BadProgram_init := fun_mk (st := st_BadProgram_init) l_BadProgram_init c_BadProgram_init k_BadProgram_init
  have B_BadProgram_init := F_BadProgram_init.binds (ps := ["self", "index"]) fun _ _ _ _ _ _ us hl => match us, hl with | [_, _], _ => rfl
  have F_BadNumber_init := fun_mk (st := st_BadNumber_init) l_BadNumber_init c_BadNumber_init k_BadNumber_init
  have B_BadNumber_init := F_BadNumber_init.binds (ps := ["self", "number"]) fun _ _ _ _ _ _ us hl => match us, hl with | [_, _], _ => rfl
  have F_BadRules_init := fun_mk (st := st_BadRules_init) l_BadRules_init c_BadRules_init k_BadRules_init
  have B_BadRules_init := F_BadRules_init.binds (ps := ["self", "cell"]) fun _ _ _ _ _ _ us hl => match us, hl with | [_, _], _ => rfl
  have F_BadWorth_init := fun_mk (st := st_BadWorth_init) l_BadWorth_init c_BadWorth_init k_BadWorth_init
  have B_BadWorth_init := F_BadWorth_init.binds (ps := ["self", "cell"]) fun _ _ _ _ _ _ us hl => match us, hl with | [_, _], _ => rfl
  have F_BadName_init := fun_mk (st := st_BadName_init) l_BadName_init c_BadName_init k_BadName_init
  have B_BadName_init := F_BadName_init.binds (ps := ["self", "name"]) fun _ _ _ _ _ _ us hl => match us, hl with | [_, _], _ => rfl
  have F_Held_init := fun_mk (st := st_Held_init) l_Held_init c_Held_init k_Held_init
  have B_Held_init := F_Held_init.binds (ps := ["self", "name"]) fun _ _ _ _ _ _ us hl => match us, hl with | [_, _], _ => rfl
  have F_NotHeld_init := fun_mk (st := st_NotHeld_init) l_NotHeld_init c_NotHeld_init k_NotHeld_init
  have B_NotHeld_init := F_NotHeld_init.binds (ps := ["self", "name"]) fun _ _ _ _ _ _ us hl => match us, hl with | [_, _], _ => rfl
  have F_BadDeed_init := fun_mk (st := st_BadDeed_init) l_BadDeed_init c_BadDeed_init k_BadDeed_init
  have B_BadDeed_init := F_BadDeed_init.binds (ps := ["self", "deed"]) fun _ _ _ _ _ _ us hl => match us, hl with | [_, _], _ => rfl
  have F_Taken_init := fun_mk (st := st_Taken_init) l_Taken_init c_Taken_init k_Taken_init
  have B_Taken_init := F_Taken_init.binds (ps := ["self", "name"]) fun _ _ _ _ _ _ us hl => match us, hl with | [_, _], _ => rfl
  have F_Used_init := fun_mk (st := st_Used_init) l_Used_init c_Used_init k_Used_init
  have B_Used_init := F_Used_init.binds (ps := ["self", "cell"]) fun _ _ _ _ _ _ us hl => match us, hl with | [_, _], _ => rfl
  have F_NoDeed_init := fun_mk (st := st_NoDeed_init) l_NoDeed_init c_NoDeed_init k_NoDeed_init
  have B_NoDeed_init := F_NoDeed_init.binds (ps := ["self"]) fun _ _ _ _ _ _ us hl => match us, hl with | [_], _ => rfl
  have F_BadTable_init := fun_mk (st := st_BadTable_init) l_BadTable_init c_BadTable_init k_BadTable_init
  have B_BadTable_init := F_BadTable_init.binds (ps := ["self"]) fun _ _ _ _ _ _ us hl => match us, hl with | [_], _ => rfl
  have F_Ringed_init := fun_mk (st := st_Ringed_init) l_Ringed_init c_Ringed_init k_Ringed_init
  have B_Ringed_init := F_Ringed_init.binds (ps := ["self", "ring"]) fun _ _ _ _ _ _ us hl => match us, hl with | [_, _], _ => rfl
  have F_TooFew_init := fun_mk (st := st_TooFew_init) l_TooFew_init c_TooFew_init k_TooFew_init
  have B_TooFew_init := F_TooFew_init.binds (ps := ["self", "number"]) fun _ _ _ _ _ _ us hl => match us, hl with | [_, _], _ => rfl
  have F_NotSweep_init := fun_mk (st := st_NotSweep_init) l_NotSweep_init c_NotSweep_init k_NotSweep_init
  have B_NotSweep_init := F_NotSweep_init.binds (ps := ["self"]) fun _ _ _ _ _ _ us hl => match us, hl with | [_], _ => rfl
  have F_BadMarks_init := fun_mk (st := st_BadMarks_init) l_BadMarks_init c_BadMarks_init k_BadMarks_init
  have B_BadMarks_init := F_BadMarks_init.binds (ps := ["self"]) fun _ _ _ _ _ _ us hl => match us, hl with | [_], _ => rfl
  have F_MarkRing_init := fun_mk (st := st_MarkRing_init) l_MarkRing_init c_MarkRing_init k_MarkRing_init
  have B_MarkRing_init := F_MarkRing_init.binds (ps := ["self", "arrows"]) fun _ _ _ _ _ _ us hl => match us, hl with | [_, _], _ => rfl
  have F_NoSuch_init := fun_mk (st := st_NoSuch_init) l_NoSuch_init c_NoSuch_init k_NoSuch_init
  have B_NoSuch_init := F_NoSuch_init.binds (ps := ["self", "number"]) fun _ _ _ _ _ _ us hl => match us, hl with | [_, _], _ => rfl
  have F_Unlike_init := fun_mk (st := st_Unlike_init) l_Unlike_init c_Unlike_init k_Unlike_init
  have B_Unlike_init := F_Unlike_init.binds (ps := ["self"]) fun _ _ _ _ _ _ us hl => match us, hl with | [_], _ => rfl
  have F_BadCells_init := fun_mk (st := st_BadCells_init) l_BadCells_init c_BadCells_init k_BadCells_init
  have B_BadCells_init := F_BadCells_init.binds (ps := ["self"]) fun _ _ _ _ _ _ us hl => match us, hl with | [_], _ => rfl
  have F_BadActs_init := fun_mk (st := st_BadActs_init) l_BadActs_init c_BadActs_init k_BadActs_init
  have B_BadActs_init := F_BadActs_init.binds (ps := ["self", "index"]) fun _ _ _ _ _ _ us hl => match us, hl with | [_, _], _ => rfl
  have F_NoLot_init := fun_mk (st := st_NoLot_init) l_NoLot_init c_NoLot_init k_NoLot_init
  have B_NoLot_init := F_NoLot_init.binds (ps := ["self", "index"]) fun _ _ _ _ _ _ us hl => match us, hl with | [_, _], _ => rfl
  have F_BadPiece_init := fun_mk (st := st_BadPiece_init) l_BadPiece_init c_BadPiece_init k_BadPiece_init
  have B_BadPiece_init := F_BadPiece_init.binds (ps := ["self"]) fun _ _ _ _ _ _ us hl => match us, hl with | [_], _ => rfl
  have F_BadArrow_init := fun_mk (st := st_BadArrow_init) l_BadArrow_init c_BadArrow_init k_BadArrow_init
  have B_BadArrow_init := F_BadArrow_init.binds (ps := ["self", "index"]) fun _ _ _ _ _ _ us hl => match us, hl with | [_, _], _ => rfl
  have F_BadWave_init := fun_mk (st := st_BadWave_init) l_BadWave_init c_BadWave_init k_BadWave_init
  have B_BadWave_init := F_BadWave_init.binds (ps := ["self"]) fun _ _ _ _ _ _ us hl => match us, hl with | [_], _ => rfl
  have F_BadText_init := fun_mk (st := st_BadText_init) l_BadText_init c_BadText_init k_BadText_init
  have B_BadText_init := F_BadText_init.binds (ps := ["self", "line"]) fun _ _ _ _ _ _ us hl => match us, hl with | [_, _], _ => rfl
  have KX_BadWeb := kbinds_one (n := 1) (ks := ["index"]) (ps := ["self", "index"]) F_BadWeb_init fun _ _ _ _ _ _ us ws hl hw => match us, ws, hl, hw with | [_], [_], _, _ => rfl
  have KX_UnknownCell := kbinds_one (n := 1) (ks := ["cell"]) (ps := ["self", "cell"]) F_UnknownCell_init fun _ _ _ _ _ _ us ws hl hw => match us, ws, hl, hw with | [_], [_], _, _ => rfl
  have KX_BadProgram := kbinds_one (n := 1) (ks := ["index"]) (ps := ["self", "index"]) F_BadProgram_init fun _ _ _ _ _ _ us ws hl hw => match us, ws, hl, hw with | [_], [_], _, _ => rfl
  have KX_BadNumber := kbinds_one (n := 1) (ks := ["number"]) (ps := ["self", "number"]) F_BadNumber_init fun _ _ _ _ _ _ us ws hl hw => match us, ws, hl, hw with | [_], [_], _, _ => rfl
  have KX_BadRules := kbinds_one (n := 1) (ks := ["cell"]) (ps := ["self", "cell"]) F_BadRules_init fun _ _ _ _ _ _ us ws hl hw => match us, ws, hl, hw with | [_], [_], _, _ => rfl
  have KX_BadWorth := kbinds_one (n := 1) (ks := ["cell"]) (ps := ["self", "cell"]) F_BadWorth_init fun _ _ _ _ _ _ us ws hl hw => match us, ws, hl, hw with | [_], [_], _, _ => rfl
  have KX_BadName := kbinds_one (n := 1) (ks := ["name"]) (ps := ["self", "name"]) F_BadName_init fun _ _ _ _ _ _ us ws hl hw => match us, ws, hl, hw with | [_], [_], _, _ => rfl
  have KX_Held := kbinds_one (n := 1) (ks := ["name"]) (ps := ["self", "name"]) F_Held_init fun _ _ _ _ _ _ us ws hl hw => match us, ws, hl, hw with | [_], [_], _, _ => rfl
  have KX_NotHeld := kbinds_one (n := 1) (ks := ["name"]) (ps := ["self", "name"]) F_NotHeld_init fun _ _ _ _ _ _ us ws hl hw => match us, ws, hl, hw with | [_], [_], _, _ => rfl
  have KX_BadDeed := kbinds_one (n := 1) (ks := ["deed"]) (ps := ["self", "deed"]) F_BadDeed_init fun _ _ _ _ _ _ us ws hl hw => match us, ws, hl, hw with | [_], [_], _, _ => rfl
  have KX_Taken := kbinds_one (n := 1) (ks := ["name"]) (ps := ["self", "name"]) F_Taken_init fun _ _ _ _ _ _ us ws hl hw => match us, ws, hl, hw with | [_], [_], _, _ => rfl
  have KX_Used := kbinds_one (n := 1) (ks := ["cell"]) (ps := ["self", "cell"]) F_Used_init fun _ _ _ _ _ _ us ws hl hw => match us, ws, hl, hw with | [_], [_], _, _ => rfl
  have KX_Ringed := kbinds_one (n := 1) (ks := ["ring"]) (ps := ["self", "ring"]) F_Ringed_init fun _ _ _ _ _ _ us ws hl hw => match us, ws, hl, hw with | [_], [_], _, _ => rfl
  have KX_TooFew := kbinds_one (n := 1) (ks := ["number"]) (ps := ["self", "number"]) F_TooFew_init fun _ _ _ _ _ _ us ws hl hw => match us, ws, hl, hw with | [_], [_], _, _ => rfl
  have KX_MarkRing := kbinds_one (n := 1) (ks := ["arrows"]) (ps := ["self", "arrows"]) F_MarkRing_init fun _ _ _ _ _ _ us ws hl hw => match us, ws, hl, hw with | [_], [_], _, _ => rfl
  have KX_NoSuch := kbinds_one (n := 1) (ks := ["number"]) (ps := ["self", "number"]) F_NoSuch_init fun _ _ _ _ _ _ us ws hl hw => match us, ws, hl, hw with | [_], [_], _, _ => rfl
  have KX_BadActs := kbinds_one (n := 1) (ks := ["index"]) (ps := ["self", "index"]) F_BadActs_init fun _ _ _ _ _ _ us ws hl hw => match us, ws, hl, hw with | [_], [_], _, _ => rfl
  have KX_NoLot := kbinds_one (n := 1) (ks := ["index"]) (ps := ["self", "index"]) F_NoLot_init fun _ _ _ _ _ _ us ws hl hw => match us, ws, hl, hw with | [_], [_], _, _ => rfl
  have KX_BadArrow := kbinds_one (n := 1) (ks := ["index"]) (ps := ["self", "index"]) F_BadArrow_init fun _ _ _ _ _ _ us ws hl hw => match us, ws, hl, hw with | [_], [_], _, _ => rfl
  have KX_BadText := kbinds_one (n := 1) (ks := ["line"]) (ps := ["self", "line"]) F_BadText_init fun _ _ _ _ _ _ us ws hl hw => match us, ws, hl, hw with | [_], [_], _, _ => rfl
  exact ⟨{ a__law_pool := a__law_pool, d__law_pool := _, f__law_pool := F__law_pool, b__law_pool := B__law_pool, m__law_pool := PySem.W.mg_of X G g__law_pool, a__law_cell := a__law_cell, d__law_cell := _, f__law_cell := F__law_cell, b__law_cell := B__law_cell, m__law_cell := PySem.W.mg_of X G g__law_cell, a__law_take := a__law_take, d__law_take := _, f__law_take := F__law_take, b__law_take := B__law_take, m__law_take := PySem.W.mg_of X G g__law_take, a__law_thing := a__law_thing, d__law_thing := _, f__law_thing := F__law_thing, b__law_thing := B__law_thing, m__law_thing := PySem.W.mg_of X G g__law_thing, a__law_by_name := a__law_by_name, d__law_by_name := _, f__law_by_name := F__law_by_name, b__law_by_name := B__law_by_name, m__law_by_name := PySem.W.mg_of X G g__law_by_name, a__law_by_place := a__law_by_place, d__law_by_place := _, f__law_by_place := F__law_by_place, b__law_by_place := B__law_by_place, m__law_by_place := PySem.W.mg_of X G g__law_by_place, a__law_held := a__law_held, d__law_held := _, f__law_held := F__law_held, b__law_held := B__law_held, m__law_held := PySem.W.mg_of X G g__law_held, a__law_is_same := a__law_is_same, d__law_is_same := _, f__law_is_same := F__law_is_same, b__law_is_same := B__law_is_same, m__law_is_same := PySem.W.mg_of X G g__law_is_same, a__law_others := a__law_others, d__law_others := _, f__law_others := F__law_others, b__law_others := B__law_others, m__law_others := PySem.W.mg_of X G g__law_others, a__law_classes := a__law_classes, d__law_classes := _, f__law_classes := F__law_classes, b__law_classes := B__law_classes, m__law_classes := PySem.W.mg_of X G g__law_classes, a_law := a_law, d_law := _, f_law := F_law, b_law := B_law, m_law := PySem.W.mg_of X G g_law, a_LotError := a_LotError, m_LotError := PySem.W.mg_of X G g_LotError, B_LotError := (base_mk rd_LotError fc_LotError sp_LotError), a_BadWeb := a_BadWeb, m_BadWeb := PySem.W.mg_of X G g_BadWeb, o_BadWeb := ⟨⟨_, _, _, _, _, _, _, _, _, _, _, _, _, _, _, xL_BadWeb, (show HandSPX.refsVE [.type "ValueError", .type "Exception", .type "BaseException", .type "object"] = true by decide +kernel)⟩, sa_BadWeb, eC_BadWeb, tC_BadWeb, kC_BadWeb⟩, n_BadWeb := nf_BadWeb, w_BadWeb := ⟨ga_BadWeb, gg_BadWeb, eC_BadWeb, hC_BadWeb⟩, a_BadWeb_init := a_BadWeb_init, d_BadWeb_init := _, f_BadWeb_init := F_BadWeb_init, b_BadWeb_init := B_BadWeb_init, i_BadWeb := gi_BadWeb, y_BadWeb := ti_BadWeb, a_UnknownCell := a_UnknownCell, m_UnknownCell := PySem.W.mg_of X G g_UnknownCell, o_UnknownCell := ⟨⟨_, _, _, _, _, _, _, _, _, _, _, _, _, _, _, xL_UnknownCell, (show HandSPX.refsVE [.type "ValueError", .type "Exception", .type "BaseException", .type "object"] = true by decide +kernel)⟩, sa_UnknownCell, eC_UnknownCell, tC_UnknownCell, kC_UnknownCell⟩, n_UnknownCell := nf_UnknownCell, w_UnknownCell := ⟨ga_UnknownCell, gg_UnknownCell, eC_UnknownCell, hC_UnknownCell⟩, a_UnknownCell_init := a_UnknownCell_init, d_UnknownCell_init := _, f_UnknownCell_init := F_UnknownCell_init, b_UnknownCell_init := B_UnknownCell_init, i_UnknownCell := gi_UnknownCell, y_UnknownCell := ti_UnknownCell, a_BadProgram := a_BadProgram, m_BadProgram := PySem.W.mg_of X G g_BadProgram, o_BadProgram := ⟨⟨_, _, _, _, _, _, _, _, _, _, _, _, _, _, _, xL_BadProgram, (show HandSPX.refsVE [.type "ValueError", .type "Exception", .type "BaseException", .type "object"] = true by decide +kernel)⟩, sa_BadProgram, eC_BadProgram, tC_BadProgram, kC_BadProgram⟩, n_BadProgram := nf_BadProgram, w_BadProgram := ⟨ga_BadProgram, gg_BadProgram, eC_BadProgram, hC_BadProgram⟩, a_BadProgram_init := a_BadProgram_init, d_BadProgram_init := _, f_BadProgram_init := F_BadProgram_init, b_BadProgram_init := B_BadProgram_init, i_BadProgram := gi_BadProgram, y_BadProgram := ti_BadProgram, a_BadNumber := a_BadNumber, m_BadNumber := PySem.W.mg_of X G g_BadNumber, o_BadNumber := ⟨⟨_, _, _, _, _, _, _, _, _, _, _, _, _, _, _, xL_BadNumber, (show HandSPX.refsVE [.type "ValueError", .type "Exception", .type "BaseException", .type "object"] = true by decide +kernel)⟩, sa_BadNumber, eC_BadNumber, tC_BadNumber, kC_BadNumber⟩, n_BadNumber := nf_BadNumber, w_BadNumber := ⟨ga_BadNumber, gg_BadNumber, eC_BadNumber, hC_BadNumber⟩, a_BadNumber_init := a_BadNumber_init, d_BadNumber_init := _, f_BadNumber_init := F_BadNumber_init, b_BadNumber_init := B_BadNumber_init, i_BadNumber := gi_BadNumber, y_BadNumber := ti_BadNumber, a_BadRules := a_BadRules, m_BadRules := PySem.W.mg_of X G g_BadRules, o_BadRules := ⟨⟨_, _, _, _, _, _, _, _, _, _, _, _, _, _, _, xL_BadRules, (show HandSPX.refsVE [.type "ValueError", .type "Exception", .type "BaseException", .type "object"] = true by decide +kernel)⟩, sa_BadRules, eC_BadRules, tC_BadRules, kC_BadRules⟩, n_BadRules := nf_BadRules, w_BadRules := ⟨ga_BadRules, gg_BadRules, eC_BadRules, hC_BadRules⟩, a_BadRules_init := a_BadRules_init, d_BadRules_init := _, f_BadRules_init := F_BadRules_init, b_BadRules_init := B_BadRules_init, i_BadRules := gi_BadRules, y_BadRules := ti_BadRules, a_BadWorth := a_BadWorth, m_BadWorth := PySem.W.mg_of X G g_BadWorth, o_BadWorth := ⟨⟨_, _, _, _, _, _, _, _, _, _, _, _, _, _, _, xL_BadWorth, (show HandSPX.refsVE [.type "ValueError", .type "Exception", .type "BaseException", .type "object"] = true by decide +kernel)⟩, sa_BadWorth, eC_BadWorth, tC_BadWorth, kC_BadWorth⟩, n_BadWorth := nf_BadWorth, w_BadWorth := ⟨ga_BadWorth, gg_BadWorth, eC_BadWorth, hC_BadWorth⟩, a_BadWorth_init := a_BadWorth_init, d_BadWorth_init := _, f_BadWorth_init := F_BadWorth_init, b_BadWorth_init := B_BadWorth_init, i_BadWorth := gi_BadWorth, y_BadWorth := ti_BadWorth, a_BadName := a_BadName, m_BadName := PySem.W.mg_of X G g_BadName, o_BadName := ⟨⟨_, _, _, _, _, _, _, _, _, _, _, _, _, _, _, xL_BadName, (show HandSPX.refsVE [.type "ValueError", .type "Exception", .type "BaseException", .type "object"] = true by decide +kernel)⟩, sa_BadName, eC_BadName, tC_BadName, kC_BadName⟩, n_BadName := nf_BadName, w_BadName := ⟨ga_BadName, gg_BadName, eC_BadName, hC_BadName⟩, a_BadName_init := a_BadName_init, d_BadName_init := _, f_BadName_init := F_BadName_init, b_BadName_init := B_BadName_init, i_BadName := gi_BadName, y_BadName := ti_BadName, a_Held := a_Held, m_Held := PySem.W.mg_of X G g_Held, o_Held := ⟨⟨_, _, _, _, _, _, _, _, _, _, _, _, _, _, _, xL_Held, (show HandSPX.refsVE [.type "ValueError", .type "Exception", .type "BaseException", .type "object"] = true by decide +kernel)⟩, sa_Held, eC_Held, tC_Held, kC_Held⟩, n_Held := nf_Held, w_Held := ⟨ga_Held, gg_Held, eC_Held, hC_Held⟩, a_Held_init := a_Held_init, d_Held_init := _, f_Held_init := F_Held_init, b_Held_init := B_Held_init, i_Held := gi_Held, y_Held := ti_Held, a_NotHeld := a_NotHeld, m_NotHeld := PySem.W.mg_of X G g_NotHeld, o_NotHeld := ⟨⟨_, _, _, _, _, _, _, _, _, _, _, _, _, _, _, xL_NotHeld, (show HandSPX.refsVE [.type "ValueError", .type "Exception", .type "BaseException", .type "object"] = true by decide +kernel)⟩, sa_NotHeld, eC_NotHeld, tC_NotHeld, kC_NotHeld⟩, n_NotHeld := nf_NotHeld, w_NotHeld := ⟨ga_NotHeld, gg_NotHeld, eC_NotHeld, hC_NotHeld⟩, a_NotHeld_init := a_NotHeld_init, d_NotHeld_init := _, f_NotHeld_init := F_NotHeld_init, b_NotHeld_init := B_NotHeld_init, i_NotHeld := gi_NotHeld, y_NotHeld := ti_NotHeld, a_BadDeed := a_BadDeed, m_BadDeed := PySem.W.mg_of X G g_BadDeed, o_BadDeed := ⟨⟨_, _, _, _, _, _, _, _, _, _, _, _, _, _, _, xL_BadDeed, (show HandSPX.refsVE [.type "ValueError", .type "Exception", .type "BaseException", .type "object"] = true by decide +kernel)⟩, sa_BadDeed, eC_BadDeed, tC_BadDeed, kC_BadDeed⟩, n_BadDeed := nf_BadDeed, w_BadDeed := ⟨ga_BadDeed, gg_BadDeed, eC_BadDeed, hC_BadDeed⟩, a_BadDeed_init := a_BadDeed_init, d_BadDeed_init := _, f_BadDeed_init := F_BadDeed_init, b_BadDeed_init := B_BadDeed_init, i_BadDeed := gi_BadDeed, y_BadDeed := ti_BadDeed, a_Taken := a_Taken, m_Taken := PySem.W.mg_of X G g_Taken, o_Taken := ⟨⟨_, _, _, _, _, _, _, _, _, _, _, _, _, _, _, xL_Taken, (show HandSPX.refsVE [.type "ValueError", .type "Exception", .type "BaseException", .type "object"] = true by decide +kernel)⟩, sa_Taken, eC_Taken, tC_Taken, kC_Taken⟩, n_Taken := nf_Taken, w_Taken := ⟨ga_Taken, gg_Taken, eC_Taken, hC_Taken⟩, a_Taken_init := a_Taken_init, d_Taken_init := _, f_Taken_init := F_Taken_init, b_Taken_init := B_Taken_init, i_Taken := gi_Taken, y_Taken := ti_Taken, a_Used := a_Used, m_Used := PySem.W.mg_of X G g_Used, o_Used := ⟨⟨_, _, _, _, _, _, _, _, _, _, _, _, _, _, _, xL_Used, (show HandSPX.refsVE [.type "ValueError", .type "Exception", .type "BaseException", .type "object"] = true by decide +kernel)⟩, sa_Used, eC_Used, tC_Used, kC_Used⟩, n_Used := nf_Used, w_Used := ⟨ga_Used, gg_Used, eC_Used, hC_Used⟩, a_Used_init := a_Used_init, d_Used_init := _, f_Used_init := F_Used_init, b_Used_init := B_Used_init, i_Used := gi_Used, y_Used := ti_Used, a_NoDeed := a_NoDeed, m_NoDeed := PySem.W.mg_of X G g_NoDeed, o_NoDeed := ⟨⟨_, _, _, _, _, _, _, _, _, _, _, _, _, _, _, xL_NoDeed, (show HandSPX.refsVE [.type "ValueError", .type "Exception", .type "BaseException", .type "object"] = true by decide +kernel)⟩, sa_NoDeed, eC_NoDeed, tC_NoDeed, kC_NoDeed⟩, a_NoDeed_init := a_NoDeed_init, d_NoDeed_init := _, f_NoDeed_init := F_NoDeed_init, b_NoDeed_init := B_NoDeed_init, i_NoDeed := gi_NoDeed, y_NoDeed := ti_NoDeed, a_BadTable := a_BadTable, m_BadTable := PySem.W.mg_of X G g_BadTable, o_BadTable := ⟨⟨_, _, _, _, _, _, _, _, _, _, _, _, _, _, _, xL_BadTable, (show HandSPX.refsVE [.type "ValueError", .type "Exception", .type "BaseException", .type "object"] = true by decide +kernel)⟩, sa_BadTable, eC_BadTable, tC_BadTable, kC_BadTable⟩, a_BadTable_init := a_BadTable_init, d_BadTable_init := _, f_BadTable_init := F_BadTable_init, b_BadTable_init := B_BadTable_init, i_BadTable := gi_BadTable, y_BadTable := ti_BadTable, a_Ringed := a_Ringed, m_Ringed := PySem.W.mg_of X G g_Ringed, o_Ringed := ⟨⟨_, _, _, _, _, _, _, _, _, _, _, _, _, _, _, xL_Ringed, (show HandSPX.refsVE [.type "ValueError", .type "Exception", .type "BaseException", .type "object"] = true by decide +kernel)⟩, sa_Ringed, eC_Ringed, tC_Ringed, kC_Ringed⟩, n_Ringed := nf_Ringed, w_Ringed := ⟨ga_Ringed, gg_Ringed, eC_Ringed, hC_Ringed⟩, a_Ringed_init := a_Ringed_init, d_Ringed_init := _, f_Ringed_init := F_Ringed_init, b_Ringed_init := B_Ringed_init, i_Ringed := gi_Ringed, y_Ringed := ti_Ringed, a_TooFew := a_TooFew, m_TooFew := PySem.W.mg_of X G g_TooFew, o_TooFew := ⟨⟨_, _, _, _, _, _, _, _, _, _, _, _, _, _, _, xL_TooFew, (show HandSPX.refsVE [.type "ValueError", .type "Exception", .type "BaseException", .type "object"] = true by decide +kernel)⟩, sa_TooFew, eC_TooFew, tC_TooFew, kC_TooFew⟩, n_TooFew := nf_TooFew, w_TooFew := ⟨ga_TooFew, gg_TooFew, eC_TooFew, hC_TooFew⟩, a_TooFew_init := a_TooFew_init, d_TooFew_init := _, f_TooFew_init := F_TooFew_init, b_TooFew_init := B_TooFew_init, i_TooFew := gi_TooFew, y_TooFew := ti_TooFew, a_NotSweep := a_NotSweep, m_NotSweep := PySem.W.mg_of X G g_NotSweep, o_NotSweep := ⟨⟨_, _, _, _, _, _, _, _, _, _, _, _, _, _, _, xL_NotSweep, (show HandSPX.refsVE [.type "ValueError", .type "Exception", .type "BaseException", .type "object"] = true by decide +kernel)⟩, sa_NotSweep, eC_NotSweep, tC_NotSweep, kC_NotSweep⟩, a_NotSweep_init := a_NotSweep_init, d_NotSweep_init := _, f_NotSweep_init := F_NotSweep_init, b_NotSweep_init := B_NotSweep_init, i_NotSweep := gi_NotSweep, y_NotSweep := ti_NotSweep, a_BadMarks := a_BadMarks, m_BadMarks := PySem.W.mg_of X G g_BadMarks, o_BadMarks := ⟨⟨_, _, _, _, _, _, _, _, _, _, _, _, _, _, _, xL_BadMarks, (show HandSPX.refsVE [.type "ValueError", .type "Exception", .type "BaseException", .type "object"] = true by decide +kernel)⟩, sa_BadMarks, eC_BadMarks, tC_BadMarks, kC_BadMarks⟩, a_BadMarks_init := a_BadMarks_init, d_BadMarks_init := _, f_BadMarks_init := F_BadMarks_init, b_BadMarks_init := B_BadMarks_init, i_BadMarks := gi_BadMarks, y_BadMarks := ti_BadMarks, a_MarkRing := a_MarkRing, m_MarkRing := PySem.W.mg_of X G g_MarkRing, o_MarkRing := ⟨⟨_, _, _, _, _, _, _, _, _, _, _, _, _, _, _, xL_MarkRing, (show HandSPX.refsVE [.type "ValueError", .type "Exception", .type "BaseException", .type "object"] = true by decide +kernel)⟩, sa_MarkRing, eC_MarkRing, tC_MarkRing, kC_MarkRing⟩, n_MarkRing := nf_MarkRing, w_MarkRing := ⟨ga_MarkRing, gg_MarkRing, eC_MarkRing, hC_MarkRing⟩, a_MarkRing_init := a_MarkRing_init, d_MarkRing_init := _, f_MarkRing_init := F_MarkRing_init, b_MarkRing_init := B_MarkRing_init, i_MarkRing := gi_MarkRing, y_MarkRing := ti_MarkRing, a_NoSuch := a_NoSuch, m_NoSuch := PySem.W.mg_of X G g_NoSuch, o_NoSuch := ⟨⟨_, _, _, _, _, _, _, _, _, _, _, _, _, _, _, xL_NoSuch, (show HandSPX.refsVE [.type "ValueError", .type "Exception", .type "BaseException", .type "object"] = true by decide +kernel)⟩, sa_NoSuch, eC_NoSuch, tC_NoSuch, kC_NoSuch⟩, n_NoSuch := nf_NoSuch, w_NoSuch := ⟨ga_NoSuch, gg_NoSuch, eC_NoSuch, hC_NoSuch⟩, a_NoSuch_init := a_NoSuch_init, d_NoSuch_init := _, f_NoSuch_init := F_NoSuch_init, b_NoSuch_init := B_NoSuch_init, i_NoSuch := gi_NoSuch, y_NoSuch := ti_NoSuch, a_Unlike := a_Unlike, m_Unlike := PySem.W.mg_of X G g_Unlike, o_Unlike := ⟨⟨_, _, _, _, _, _, _, _, _, _, _, _, _, _, _, xL_Unlike, (show HandSPX.refsVE [.type "ValueError", .type "Exception", .type "BaseException", .type "object"] = true by decide +kernel)⟩, sa_Unlike, eC_Unlike, tC_Unlike, kC_Unlike⟩, a_Unlike_init := a_Unlike_init, d_Unlike_init := _, f_Unlike_init := F_Unlike_init, b_Unlike_init := B_Unlike_init, i_Unlike := gi_Unlike, y_Unlike := ti_Unlike, a_BadCells := a_BadCells, m_BadCells := PySem.W.mg_of X G g_BadCells, o_BadCells := ⟨⟨_, _, _, _, _, _, _, _, _, _, _, _, _, _, _, xL_BadCells, (show HandSPX.refsVE [.type "ValueError", .type "Exception", .type "BaseException", .type "object"] = true by decide +kernel)⟩, sa_BadCells, eC_BadCells, tC_BadCells, kC_BadCells⟩, a_BadCells_init := a_BadCells_init, d_BadCells_init := _, f_BadCells_init := F_BadCells_init, b_BadCells_init := B_BadCells_init, i_BadCells := gi_BadCells, y_BadCells := ti_BadCells, a_BadActs := a_BadActs, m_BadActs := PySem.W.mg_of X G g_BadActs, o_BadActs := ⟨⟨_, _, _, _, _, _, _, _, _, _, _, _, _, _, _, xL_BadActs, (show HandSPX.refsVE [.type "ValueError", .type "Exception", .type "BaseException", .type "object"] = true by decide +kernel)⟩, sa_BadActs, eC_BadActs, tC_BadActs, kC_BadActs⟩, n_BadActs := nf_BadActs, w_BadActs := ⟨ga_BadActs, gg_BadActs, eC_BadActs, hC_BadActs⟩, a_BadActs_init := a_BadActs_init, d_BadActs_init := _, f_BadActs_init := F_BadActs_init, b_BadActs_init := B_BadActs_init, i_BadActs := gi_BadActs, y_BadActs := ti_BadActs, a_NoLot := a_NoLot, m_NoLot := PySem.W.mg_of X G g_NoLot, o_NoLot := ⟨⟨_, _, _, _, _, _, _, _, _, _, _, _, _, _, _, xL_NoLot, (show HandSPX.refsVE [.type "ValueError", .type "Exception", .type "BaseException", .type "object"] = true by decide +kernel)⟩, sa_NoLot, eC_NoLot, tC_NoLot, kC_NoLot⟩, n_NoLot := nf_NoLot, w_NoLot := ⟨ga_NoLot, gg_NoLot, eC_NoLot, hC_NoLot⟩, a_NoLot_init := a_NoLot_init, d_NoLot_init := _, f_NoLot_init := F_NoLot_init, b_NoLot_init := B_NoLot_init, i_NoLot := gi_NoLot, y_NoLot := ti_NoLot, a_BadPiece := a_BadPiece, m_BadPiece := PySem.W.mg_of X G g_BadPiece, o_BadPiece := ⟨⟨_, _, _, _, _, _, _, _, _, _, _, _, _, _, _, xL_BadPiece, (show HandSPX.refsVE [.type "ValueError", .type "Exception", .type "BaseException", .type "object"] = true by decide +kernel)⟩, sa_BadPiece, eC_BadPiece, tC_BadPiece, kC_BadPiece⟩, a_BadPiece_init := a_BadPiece_init, d_BadPiece_init := _, f_BadPiece_init := F_BadPiece_init, b_BadPiece_init := B_BadPiece_init, i_BadPiece := gi_BadPiece, y_BadPiece := ti_BadPiece, a_BadArrow := a_BadArrow, m_BadArrow := PySem.W.mg_of X G g_BadArrow, o_BadArrow := ⟨⟨_, _, _, _, _, _, _, _, _, _, _, _, _, _, _, xL_BadArrow, (show HandSPX.refsVE [.type "ValueError", .type "Exception", .type "BaseException", .type "object"] = true by decide +kernel)⟩, sa_BadArrow, eC_BadArrow, tC_BadArrow, kC_BadArrow⟩, n_BadArrow := nf_BadArrow, w_BadArrow := ⟨ga_BadArrow, gg_BadArrow, eC_BadArrow, hC_BadArrow⟩, a_BadArrow_init := a_BadArrow_init, d_BadArrow_init := _, f_BadArrow_init := F_BadArrow_init, b_BadArrow_init := B_BadArrow_init, i_BadArrow := gi_BadArrow, y_BadArrow := ti_BadArrow, a_BadWave := a_BadWave, m_BadWave := PySem.W.mg_of X G g_BadWave, o_BadWave := ⟨⟨_, _, _, _, _, _, _, _, _, _, _, _, _, _, _, xL_BadWave, (show HandSPX.refsVE [.type "ValueError", .type "Exception", .type "BaseException", .type "object"] = true by decide +kernel)⟩, sa_BadWave, eC_BadWave, tC_BadWave, kC_BadWave⟩, a_BadWave_init := a_BadWave_init, d_BadWave_init := _, f_BadWave_init := F_BadWave_init, b_BadWave_init := B_BadWave_init, i_BadWave := gi_BadWave, y_BadWave := ti_BadWave, a_BadText := a_BadText, m_BadText := PySem.W.mg_of X G g_BadText, o_BadText := ⟨⟨_, _, _, _, _, _, _, _, _, _, _, _, _, _, _, xL_BadText, (show HandSPX.refsVE [.type "ValueError", .type "Exception", .type "BaseException", .type "object"] = true by decide +kernel)⟩, sa_BadText, eC_BadText, tC_BadText, kC_BadText⟩, n_BadText := nf_BadText, w_BadText := ⟨ga_BadText, gg_BadText, eC_BadText, hC_BadText⟩, a_BadText_init := a_BadText_init, d_BadText_init := _, f_BadText_init := F_BadText_init, b_BadText_init := B_BadText_init, i_BadText := gi_BadText, y_BadText := ti_BadText, x_LotError := x_LotError, k_LotError := k_LotError, ezb := ezb, ixb := ixb, ivb := ivb, kx_BadWeb := KX_BadWeb, kx_UnknownCell := KX_UnknownCell, kx_BadProgram := KX_BadProgram, kx_BadNumber := KX_BadNumber, kx_BadRules := KX_BadRules, kx_BadWorth := KX_BadWorth, kx_BadName := KX_BadName, kx_Held := KX_Held, kx_NotHeld := KX_NotHeld, kx_BadDeed := KX_BadDeed, kx_Taken := KX_Taken, kx_Used := KX_Used, kx_Ringed := KX_Ringed, kx_TooFew := KX_TooFew, kx_MarkRing := KX_MarkRing, kx_NoSuch := KX_NoSuch, kx_BadActs := KX_BadActs, kx_NoLot := KX_NoLot, kx_BadArrow := KX_BadArrow, kx_BadText := KX_BadText, z_ValueError := PySem.W.mg_none_of X G z_ValueError, z_all := PySem.W.mg_none_of X G z_all, z_any := PySem.W.mg_none_of X G z_any, z_bool := PySem.W.mg_none_of X G z_bool, z_int := PySem.W.mg_none_of X G z_int, z_isinstance := PySem.W.mg_none_of X G z_isinstance, z_len := PySem.W.mg_none_of X G z_len, z_range := PySem.W.mg_none_of X G z_range }, rfl, _, _, _, _, _, _, rfl⟩
/-- law's: a list of at most 63 ints is handed in, True comes out -/
def spLaw (K : PySem.W.Frag) : Sp := fun vs H Q _ => ∃ (a : Addr) (ns : List Int), vs = [.ref a] ∧ SqL K H a (ns.map V.int) ∧ ns.length ≤ 63 ∧ ∀ H', Q (.bl true) H'
theorem reps_ints {K : PySem.W.Frag} {cl : Cl} {G : Hp} : ∀ ns : List Int, Reps K cl G (ns.map T.int) (ns.map V.int)
  | [] => .nil
  | n :: r => .cons (.int n) (reps_ints r)
theorem fin_law {l : PySem.W.OpenLaw} {w : World} {K : PySem.W.Frag} {mg : Str → Option Value} {fa : Addr} (hT : ∃ T : Tx K mg, T.a_law = fa ∧ ∃ kV dc pm an cd ct, T.d_law = PySem.W.fnOf "law" "law" (defArgs st_law) (defBody st_law) (defScope st_law) .none kV dc pm an cd ct) :
    ∃ fd : FuncData, (∀ (s : Shared) (v : Value), BindsTo s fd ⟨[v], []⟩ [("_law_script", v)]) ∧ ∀ base : Heap, K.In base → base.Ns mainGlobals mg → FnOk l.prog w K mg base (L2.CX l.prog w) 4 fa fd ["_law_script"] (spLaw K) := by
  obtain ⟨T, rfl, kV, dc, pm, an, cd, ct, e⟩ := hT
  refine ⟨T.d_law, fun s v => ?_, fun base _ _ => (ok_law T).imp fun vs H Q E ⟨a, ns, e1, e2, e3, e4⟩ => ?_⟩
  · rw [e]
    exact .of_eq rfl
  · subst e1
    obtain ⟨μ', hF⟩ := law_true ns e3
    let wd : Wd := { as := [], G := H, ω := fun _ => none }
    refine ⟨wd, [], [.t (.fro (ns.map Lf.T.int))], _, μ', rfl, (fun _ _ z => by cases z), ⟨fun a o z => .inl z, rfl, (fun n c a z => by simp at z), (fun a o z => by cases z), (fun n x a z => by simp at z), (fun a xs z => z)⟩, .cons (.fro e2 (reps_ints ns)) .nil, hF, ?_⟩
    intro w' H' x _ _ _ hx
    cases hx
    exact e4 H'
theorem walk {l : PySem.W.OpenLaw} {q : Program} {loose : List Str} {XP : (Str → Option Value) → Heap → Prop} {YP : World → Heap → Prop} {d : DefRec} {K : Params → PySem.W.Frag} (hn : l.most = some 63) (hdf : d.params.defaults = [])
    (hY : ∀ (w : World) (h : Heap), YP w h → (K w.params).In h)
    (F : ∀ (w : World) (mg : Str → Option Value) (fa : Addr) (h : Heap), (K w.params).In h → h.Ns mainGlobals mg → mg d.name = some (.ref fa) →
      ∃ fd : FuncData, (∀ (s : Shared) (u : Value), BindsTo s fd ⟨[u], []⟩ [("_law_script", u)]) ∧ ∀ base : Heap, (K w.params).In base → base.Ns mainGlobals mg → FnOk l.prog w (K w.params) mg base (L2.CX l.prog w) 4 fa fd ["_law_script"] (spLaw (K w.params))) :
    PySem.W.WalkO q loose XP YP l.row.toRowW d [] (fun f vs => PySem.call f vs) :=
  L2.walk_of (n := 63) (k := 4) (x := "_law_script") (CX := fun w => L2.CX l.prog w) (sp := fun w => spLaw (K w.params)) hn (by decide) hdf ⟨rfl, by decide, by decide⟩ hY F (fun _ _ a ns hl _ hS => ⟨a, ns, rfl, hS, hl, fun _ => rfl⟩) fun _ _ _ _ _ z => by
    obtain ⟨_, _, _, _, _, _, _, _, _, _, _, _, hE⟩ := z
    exact hE
theorem mg_same {K : PySem.W.Frag} {h : Heap} {mg : Str → Option Value} {fa fb : Addr} (X : K.In h) (G : h.Ns mainGlobals mg) (hfa : mg "law" = some (.ref fa)) (g : PySem.W.nsIn K mainGlobals "law" = some (some (.ref fb))) : fb = fa := by
  have e := (PySem.W.mg_of X G g).symm.trans hfa
  cases e
  rfl
theorem all_mk {l : PySem.W.OpenLaw} {w : World} {K : PySem.W.Frag} {h : Heap} {mg : Str → Option Value} {fa : Addr} (X : K.In h) (G : h.Ns mainGlobals mg) (hfa : mg "law" = some (.ref fa)) {a__law_pool a__law_cell a__law_take a__law_thing a__law_by_name a__law_by_place a__law_held a__law_is_same a__law_others a__law_classes a_law a_LotError a_BadWeb a_BadWeb_init a_UnknownCell a_UnknownCell_init a_BadProgram a_BadProgram_init a_BadNumber a_BadNumber_init a_BadRules a_BadRules_init a_BadWorth a_BadWorth_init a_BadName a_BadName_init a_Held a_Held_init a_NotHeld a_NotHeld_init a_BadDeed a_BadDeed_init a_Taken a_Taken_init a_Used a_Used_init a_NoDeed a_NoDeed_init a_BadTable a_BadTable_init a_Ringed a_Ringed_init a_TooFew a_TooFew_init a_NotSweep a_NotSweep_init a_BadMarks a_BadMarks_init a_MarkRing a_MarkRing_init a_NoSuch a_NoSuch_init a_Unlike a_Unlike_init a_BadCells a_BadCells_init a_BadActs a_BadActs_init a_NoLot a_NoLot_init a_BadPiece a_BadPiece_init a_BadArrow a_BadArrow_init a_BadWave a_BadWave_init a_BadText a_BadText_init : Addr} {od__law_pool an__law_pool od__law_cell an__law_cell od__law_take an__law_take od__law_thing an__law_thing od__law_by_name an__law_by_name od__law_by_place an__law_by_place od__law_held an__law_held od__law_is_same an__law_is_same od__law_others an__law_others od__law_classes an__law_classes od_law an_law od_BadWeb_init an_BadWeb_init od_UnknownCell_init an_UnknownCell_init od_BadProgram_init an_BadProgram_init od_BadNumber_init an_BadNumber_init od_BadRules_init an_BadRules_init od_BadWorth_init an_BadWorth_init od_BadName_init an_BadName_init od_Held_init an_Held_init od_NotHeld_init an_NotHeld_init od_BadDeed_init an_BadDeed_init od_Taken_init an_Taken_init od_Used_init an_Used_init od_NoDeed_init an_NoDeed_init od_BadTable_init an_BadTable_init od_Ringed_init an_Ringed_init od_TooFew_init an_TooFew_init od_NotSweep_init an_NotSweep_init od_BadMarks_init an_BadMarks_init od_MarkRing_init an_MarkRing_init od_NoSuch_init an_NoSuch_init od_Unlike_init an_Unlike_init od_BadCells_init an_BadCells_init od_BadActs_init an_BadActs_init od_NoLot_init an_NoLot_init od_BadPiece_init an_BadPiece_init od_BadArrow_init an_BadArrow_init od_BadWave_init an_BadWave_init od_BadText_init an_BadText_init : Option Addr} {sl__law_pool sl__law_cell sl__law_take sl__law_thing sl__law_by_name sl__law_by_place sl__law_held sl__law_is_same sl__law_others sl__law_classes sl_law sl_BadWeb_init sl_UnknownCell_init sl_BadProgram_init sl_BadNumber_init sl_BadRules_init sl_BadWorth_init sl_BadName_init sl_Held_init sl_NotHeld_init sl_BadDeed_init sl_Taken_init sl_Used_init sl_NoDeed_init sl_BadTable_init sl_Ringed_init sl_TooFew_init sl_NotSweep_init sl_BadMarks_init sl_MarkRing_init sl_NoSuch_init sl_Unlike_init sl_BadCells_init sl_BadActs_init sl_NoLot_init sl_BadPiece_init sl_BadArrow_init sl_BadWave_init sl_BadText_init : Array (Option Value)} {oc__law_pool kV__law_pool dc__law_pool pm__law_pool ct__law_pool cd__law_pool oc__law_cell kV__law_cell dc__law_cell pm__law_cell ct__law_cell cd__law_cell oc__law_take kV__law_take dc__law_take pm__law_take ct__law_take cd__law_take oc__law_thing kV__law_thing dc__law_thing pm__law_thing ct__law_thing cd__law_thing oc__law_by_name kV__law_by_name dc__law_by_name pm__law_by_name ct__law_by_name cd__law_by_name oc__law_by_place kV__law_by_place dc__law_by_place pm__law_by_place ct__law_by_place cd__law_by_place oc__law_held kV__law_held dc__law_held pm__law_held ct__law_held cd__law_held oc__law_is_same kV__law_is_same dc__law_is_same pm__law_is_same ct__law_is_same cd__law_is_same oc__law_others kV__law_others dc__law_others pm__law_others ct__law_others cd__law_others oc__law_classes kV__law_classes dc__law_classes pm__law_classes ct__law_classes cd__law_classes oc_law kV_law dc_law pm_law ct_law cd_law oc_BadWeb_init kV_BadWeb_init dc_BadWeb_init pm_BadWeb_init ct_BadWeb_init cd_BadWeb_init oc_UnknownCell_init kV_UnknownCell_init dc_UnknownCell_init pm_UnknownCell_init ct_UnknownCell_init cd_UnknownCell_init oc_BadProgram_init kV_BadProgram_init dc_BadProgram_init pm_BadProgram_init ct_BadProgram_init cd_BadProgram_init oc_BadNumber_init kV_BadNumber_init dc_BadNumber_init pm_BadNumber_init ct_BadNumber_init cd_BadNumber_init oc_BadRules_init kV_BadRules_init dc_BadRules_init pm_BadRules_init ct_BadRules_init cd_BadRules_init oc_BadWorth_init kV_BadWorth_init dc_BadWorth_init pm_BadWorth_init ct_BadWorth_init cd_BadWorth_init oc_BadName_init kV_BadName_init dc_BadName_init pm_BadName_init ct_BadName_init cd_BadName_init oc_Held_init kV_Held_init dc_Held_init pm_Held_init ct_Held_init cd_Held_init oc_NotHeld_init kV_NotHeld_init dc_NotHeld_init pm_NotHeld_init ct_NotHeld_init cd_NotHeld_init oc_BadDeed_init kV_BadDeed_init dc_BadDeed_init pm_BadDeed_init ct_BadDeed_init cd_BadDeed_init oc_Taken_init kV_Taken_init dc_Taken_init pm_Taken_init ct_Taken_init cd_Taken_init oc_Used_init kV_Used_init dc_Used_init pm_Used_init ct_Used_init cd_Used_init oc_NoDeed_init kV_NoDeed_init dc_NoDeed_init pm_NoDeed_init ct_NoDeed_init cd_NoDeed_init oc_BadTable_init kV_BadTable_init dc_BadTable_init pm_BadTable_init ct_BadTable_init cd_BadTable_init oc_Ringed_init kV_Ringed_init dc_Ringed_init pm_Ringed_init ct_Ringed_init cd_Ringed_init oc_TooFew_init kV_TooFew_init dc_TooFew_init pm_TooFew_init ct_TooFew_init cd_TooFew_init oc_NotSweep_init kV_NotSweep_init dc_NotSweep_init pm_NotSweep_init ct_NotSweep_init cd_NotSweep_init oc_BadMarks_init kV_BadMarks_init dc_BadMarks_init pm_BadMarks_init ct_BadMarks_init cd_BadMarks_init oc_MarkRing_init kV_MarkRing_init dc_MarkRing_init pm_MarkRing_init ct_MarkRing_init cd_MarkRing_init oc_NoSuch_init kV_NoSuch_init dc_NoSuch_init pm_NoSuch_init ct_NoSuch_init cd_NoSuch_init oc_Unlike_init kV_Unlike_init dc_Unlike_init pm_Unlike_init ct_Unlike_init cd_Unlike_init oc_BadCells_init kV_BadCells_init dc_BadCells_init pm_BadCells_init ct_BadCells_init cd_BadCells_init oc_BadActs_init kV_BadActs_init dc_BadActs_init pm_BadActs_init ct_BadActs_init cd_BadActs_init oc_NoLot_init kV_NoLot_init dc_NoLot_init pm_NoLot_init ct_NoLot_init cd_NoLot_init oc_BadPiece_init kV_BadPiece_init dc_BadPiece_init pm_BadPiece_init ct_BadPiece_init cd_BadPiece_init oc_BadArrow_init kV_BadArrow_init dc_BadArrow_init pm_BadArrow_init ct_BadArrow_init cd_BadArrow_init oc_BadWave_init kV_BadWave_init dc_BadWave_init pm_BadWave_init ct_BadWave_init cd_BadWave_init oc_BadText_init kV_BadText_init dc_BadText_init pm_BadText_init ct_BadText_init cd_BadText_init : Value}  {nm_BadWeb q_BadWeb : Str} {N_BadWeb : Addr} {bs_BadWeb sub_BadWeb : List Value} {sn_BadWeb : List Str} {ab_BadWeb : Bool} {col_BadWeb : Option Bool} {dd_BadWeb : Option Addr} {m0_BadWeb m1_BadWeb m2_BadWeb m3_BadWeb m5_BadWeb : Option Value} {nm_UnknownCell q_UnknownCell : Str} {N_UnknownCell : Addr} {bs_UnknownCell sub_UnknownCell : List Value} {sn_UnknownCell : List Str} {ab_UnknownCell : Bool} {col_UnknownCell : Option Bool} {dd_UnknownCell : Option Addr} {m0_UnknownCell m1_UnknownCell m2_UnknownCell m3_UnknownCell m5_UnknownCell : Option Value} {nm_BadProgram q_BadProgram : Str} {N_BadProgram : Addr} {bs_BadProgram sub_BadProgram : List Value} {sn_BadProgram : List Str} {ab_BadProgram : Bool} {col_BadProgram : Option Bool} {dd_BadProgram : Option Addr} {m0_BadProgram m1_BadProgram m2_BadProgram m3_BadProgram m5_BadProgram : Option Value} {nm_BadNumber q_BadNumber : Str} {N_BadNumber : Addr} {bs_BadNumber sub_BadNumber : List Value} {sn_BadNumber : List Str} {ab_BadNumber : Bool} {col_BadNumber : Option Bool} {dd_BadNumber : Option Addr} {m0_BadNumber m1_BadNumber m2_BadNumber m3_BadNumber m5_BadNumber : Option Value} {nm_BadRules q_BadRules : Str} {N_BadRules : Addr} {bs_BadRules sub_BadRules : List Value} {sn_BadRules : List Str} {ab_BadRules : Bool} {col_BadRules : Option Bool} {dd_BadRules : Option Addr} {m0_BadRules m1_BadRules m2_BadRules m3_BadRules m5_BadRules : Option Value} {nm_BadWorth q_BadWorth : Str} {N_BadWorth : Addr} {bs_BadWorth sub_BadWorth : List Value} {sn_BadWorth : List Str} {ab_BadWorth : Bool} {col_BadWorth : Option Bool} {dd_BadWorth : Option Addr} {m0_BadWorth m1_BadWorth m2_BadWorth m3_BadWorth m5_BadWorth : Option Value} {nm_BadName q_BadName : Str} {N_BadName : Addr} {bs_BadName sub_BadName : List Value} {sn_BadName : List Str} {ab_BadName : Bool} {col_BadName : Option Bool} {dd_BadName : Option Addr} {m0_BadName m1_BadName m2_BadName m3_BadName m5_BadName : Option Value} {nm_Held q_Held : Str} {N_Held : Addr} {bs_Held sub_Held : List Value} {sn_Held : List Str} {ab_Held : Bool} {col_Held : Option Bool} {dd_Held : Option Addr} {m0_Held m1_Held m2_Held m3_Held m5_Held : Option Value} {nm_NotHeld q_NotHeld : Str} {N_NotHeld : Addr} {bs_NotHeld sub_NotHeld : List Value} {sn_NotHeld : List Str} {ab_NotHeld : Bool} {col_NotHeld : Option Bool} {dd_NotHeld : Option Addr} {m0_NotHeld m1_NotHeld m2_NotHeld m3_NotHeld m5_NotHeld : Option Value} {nm_BadDeed q_BadDeed : Str} {N_BadDeed : Addr} {bs_BadDeed sub_BadDeed : List Value} {sn_BadDeed : List Str} {ab_BadDeed : Bool} {col_BadDeed : Option Bool} {dd_BadDeed : Option Addr} {m0_BadDeed m1_BadDeed m2_BadDeed m3_BadDeed m5_BadDeed : Option Value} {nm_Taken q_Taken : Str} {N_Taken : Addr} {bs_Taken sub_Taken : List Value} {sn_Taken : List Str} {ab_Taken : Bool} {col_Taken : Option Bool} {dd_Taken : Option Addr} {m0_Taken m1_Taken m2_Taken m3_Taken m5_Taken : Option Value} {nm_Used q_Used : Str} {N_Used : Addr} {bs_Used sub_Used : List Value} {sn_Used : List Str} {ab_Used : Bool} {col_Used : Option Bool} {dd_Used : Option Addr} {m0_Used m1_Used m2_Used m3_Used m5_Used : Option Value} {nm_NoDeed q_NoDeed : Str} {N_NoDeed : Addr} {bs_NoDeed sub_NoDeed : List Value} {sn_NoDeed : List Str} {ab_NoDeed : Bool} {col_NoDeed : Option Bool} {dd_NoDeed : Option Addr} {m0_NoDeed m1_NoDeed m2_NoDeed m3_NoDeed m5_NoDeed : Option Value} {nm_BadTable q_BadTable : Str} {N_BadTable : Addr} {bs_BadTable sub_BadTable : List Value} {sn_BadTable : List Str} {ab_BadTable : Bool} {col_BadTable : Option Bool} {dd_BadTable : Option Addr} {m0_BadTable m1_BadTable m2_BadTable m3_BadTable m5_BadTable : Option Value} {nm_Ringed q_Ringed : Str} {N_Ringed : Addr} {bs_Ringed sub_Ringed : List Value} {sn_Ringed : List Str} {ab_Ringed : Bool} {col_Ringed : Option Bool} {dd_Ringed : Option Addr} {m0_Ringed m1_Ringed m2_Ringed m3_Ringed m5_Ringed : Option Value} {nm_TooFew q_TooFew : Str} {N_TooFew : Addr} {bs_TooFew sub_TooFew : List Value} {sn_TooFew : List Str} {ab_TooFew : Bool} {col_TooFew : Option Bool} {dd_TooFew : Option Addr} {m0_TooFew m1_TooFew m2_TooFew m3_TooFew m5_TooFew : Option Value} {nm_NotSweep q_NotSweep : Str} {N_NotSweep : Addr} {bs_NotSweep sub_NotSweep : List Value} {sn_NotSweep : List Str} {ab_NotSweep : Bool} {col_NotSweep : Option Bool} {dd_NotSweep : Option Addr} {m0_NotSweep m1_NotSweep m2_NotSweep m3_NotSweep m5_NotSweep : Option Value} {nm_BadMarks q_BadMarks : Str} {N_BadMarks : Addr} {bs_BadMarks sub_BadMarks : List Value} {sn_BadMarks : List Str} {ab_BadMarks : Bool} {col_BadMarks : Option Bool} {dd_BadMarks : Option Addr} {m0_BadMarks m1_BadMarks m2_BadMarks m3_BadMarks m5_BadMarks : Option Value} {nm_MarkRing q_MarkRing : Str} {N_MarkRing : Addr} {bs_MarkRing sub_MarkRing : List Value} {sn_MarkRing : List Str} {ab_MarkRing : Bool} {col_MarkRing : Option Bool} {dd_MarkRing : Option Addr} {m0_MarkRing m1_MarkRing m2_MarkRing m3_MarkRing m5_MarkRing : Option Value} {nm_NoSuch q_NoSuch : Str} {N_NoSuch : Addr} {bs_NoSuch sub_NoSuch : List Value} {sn_NoSuch : List Str} {ab_NoSuch : Bool} {col_NoSuch : Option Bool} {dd_NoSuch : Option Addr} {m0_NoSuch m1_NoSuch m2_NoSuch m3_NoSuch m5_NoSuch : Option Value} {nm_Unlike q_Unlike : Str} {N_Unlike : Addr} {bs_Unlike sub_Unlike : List Value} {sn_Unlike : List Str} {ab_Unlike : Bool} {col_Unlike : Option Bool} {dd_Unlike : Option Addr} {m0_Unlike m1_Unlike m2_Unlike m3_Unlike m5_Unlike : Option Value} {nm_BadCells q_BadCells : Str} {N_BadCells : Addr} {bs_BadCells sub_BadCells : List Value} {sn_BadCells : List Str} {ab_BadCells : Bool} {col_BadCells : Option Bool} {dd_BadCells : Option Addr} {m0_BadCells m1_BadCells m2_BadCells m3_BadCells m5_BadCells : Option Value} {nm_BadActs q_BadActs : Str} {N_BadActs : Addr} {bs_BadActs sub_BadActs : List Value} {sn_BadActs : List Str} {ab_BadActs : Bool} {col_BadActs : Option Bool} {dd_BadActs : Option Addr} {m0_BadActs m1_BadActs m2_BadActs m3_BadActs m5_BadActs : Option Value} {nm_NoLot q_NoLot : Str} {N_NoLot : Addr} {bs_NoLot sub_NoLot : List Value} {sn_NoLot : List Str} {ab_NoLot : Bool} {col_NoLot : Option Bool} {dd_NoLot : Option Addr} {m0_NoLot m1_NoLot m2_NoLot m3_NoLot m5_NoLot : Option Value} {nm_BadPiece q_BadPiece : Str} {N_BadPiece : Addr} {bs_BadPiece sub_BadPiece : List Value} {sn_BadPiece : List Str} {ab_BadPiece : Bool} {col_BadPiece : Option Bool} {dd_BadPiece : Option Addr} {m0_BadPiece m1_BadPiece m2_BadPiece m3_BadPiece m5_BadPiece : Option Value} {nm_BadArrow q_BadArrow : Str} {N_BadArrow : Addr} {bs_BadArrow sub_BadArrow : List Value} {sn_BadArrow : List Str} {ab_BadArrow : Bool} {col_BadArrow : Option Bool} {dd_BadArrow : Option Addr} {m0_BadArrow m1_BadArrow m2_BadArrow m3_BadArrow m5_BadArrow : Option Value} {nm_BadWave q_BadWave : Str} {N_BadWave : Addr} {bs_BadWave sub_BadWave : List Value} {sn_BadWave : List Str} {ab_BadWave : Bool} {col_BadWave : Option Bool} {dd_BadWave : Option Addr} {m0_BadWave m1_BadWave m2_BadWave m3_BadWave m5_BadWave : Option Value} {nm_BadText q_BadText : Str} {N_BadText : Addr} {bs_BadText sub_BadText : List Value} {sn_BadText : List Str} {ab_BadText : Bool} {col_BadText : Option Bool} {dd_BadText : Option Addr} {m0_BadText m1_BadText m2_BadText m3_BadText m5_BadText : Option Value}
    (g__law_pool : PySem.W.nsIn K mainGlobals "_law_pool" = some (some (.ref a__law_pool)))
    (l__law_pool : K.lookup a__law_pool = some ⟨oc__law_pool, od__law_pool, .func (PySem.W.fnOf "_law_pool" "_law_pool" (defArgs st__law_pool) (defBody st__law_pool) (defScope st__law_pool) .none kV__law_pool dc__law_pool pm__law_pool an__law_pool cd__law_pool ct__law_pool), sl__law_pool⟩)
    (c__law_pool : PySem.W.codeIn K cd__law_pool "_law_pool" = true)
    (k__law_pool : PySem.W.keepIn K (.ref a__law_pool) = true)
    (g__law_cell : PySem.W.nsIn K mainGlobals "_law_cell" = some (some (.ref a__law_cell)))
    (l__law_cell : K.lookup a__law_cell = some ⟨oc__law_cell, od__law_cell, .func (PySem.W.fnOf "_law_cell" "_law_cell" (defArgs st__law_cell) (defBody st__law_cell) (defScope st__law_cell) .none kV__law_cell dc__law_cell pm__law_cell an__law_cell cd__law_cell ct__law_cell), sl__law_cell⟩)
    (c__law_cell : PySem.W.codeIn K cd__law_cell "_law_cell" = true)
    (k__law_cell : PySem.W.keepIn K (.ref a__law_cell) = true)
    (g__law_take : PySem.W.nsIn K mainGlobals "_law_take" = some (some (.ref a__law_take)))
    (l__law_take : K.lookup a__law_take = some ⟨oc__law_take, od__law_take, .func (PySem.W.fnOf "_law_take" "_law_take" (defArgs st__law_take) (defBody st__law_take) (defScope st__law_take) .none kV__law_take dc__law_take pm__law_take an__law_take cd__law_take ct__law_take), sl__law_take⟩)
    (c__law_take : PySem.W.codeIn K cd__law_take "_law_take" = true)
    (k__law_take : PySem.W.keepIn K (.ref a__law_take) = true)
    (g__law_thing : PySem.W.nsIn K mainGlobals "_law_thing" = some (some (.ref a__law_thing)))
    (l__law_thing : K.lookup a__law_thing = some ⟨oc__law_thing, od__law_thing, .func (PySem.W.fnOf "_law_thing" "_law_thing" (defArgs st__law_thing) (defBody st__law_thing) (defScope st__law_thing) .none kV__law_thing dc__law_thing pm__law_thing an__law_thing cd__law_thing ct__law_thing), sl__law_thing⟩)
    (c__law_thing : PySem.W.codeIn K cd__law_thing "_law_thing" = true)
    (k__law_thing : PySem.W.keepIn K (.ref a__law_thing) = true)
    (g__law_by_name : PySem.W.nsIn K mainGlobals "_law_by_name" = some (some (.ref a__law_by_name)))
    (l__law_by_name : K.lookup a__law_by_name = some ⟨oc__law_by_name, od__law_by_name, .func (PySem.W.fnOf "_law_by_name" "_law_by_name" (defArgs st__law_by_name) (defBody st__law_by_name) (defScope st__law_by_name) .none kV__law_by_name dc__law_by_name pm__law_by_name an__law_by_name cd__law_by_name ct__law_by_name), sl__law_by_name⟩)
    (c__law_by_name : PySem.W.codeIn K cd__law_by_name "_law_by_name" = true)
    (k__law_by_name : PySem.W.keepIn K (.ref a__law_by_name) = true)
    (g__law_by_place : PySem.W.nsIn K mainGlobals "_law_by_place" = some (some (.ref a__law_by_place)))
    (l__law_by_place : K.lookup a__law_by_place = some ⟨oc__law_by_place, od__law_by_place, .func (PySem.W.fnOf "_law_by_place" "_law_by_place" (defArgs st__law_by_place) (defBody st__law_by_place) (defScope st__law_by_place) .none kV__law_by_place dc__law_by_place pm__law_by_place an__law_by_place cd__law_by_place ct__law_by_place), sl__law_by_place⟩)
    (c__law_by_place : PySem.W.codeIn K cd__law_by_place "_law_by_place" = true)
    (k__law_by_place : PySem.W.keepIn K (.ref a__law_by_place) = true)
    (g__law_held : PySem.W.nsIn K mainGlobals "_law_held" = some (some (.ref a__law_held)))
    (l__law_held : K.lookup a__law_held = some ⟨oc__law_held, od__law_held, .func (PySem.W.fnOf "_law_held" "_law_held" (defArgs st__law_held) (defBody st__law_held) (defScope st__law_held) .none kV__law_held dc__law_held pm__law_held an__law_held cd__law_held ct__law_held), sl__law_held⟩)
    (c__law_held : PySem.W.codeIn K cd__law_held "_law_held" = true)
    (k__law_held : PySem.W.keepIn K (.ref a__law_held) = true)
    (g__law_is_same : PySem.W.nsIn K mainGlobals "_law_is_same" = some (some (.ref a__law_is_same)))
    (l__law_is_same : K.lookup a__law_is_same = some ⟨oc__law_is_same, od__law_is_same, .func (PySem.W.fnOf "_law_is_same" "_law_is_same" (defArgs st__law_is_same) (defBody st__law_is_same) (defScope st__law_is_same) .none kV__law_is_same dc__law_is_same pm__law_is_same an__law_is_same cd__law_is_same ct__law_is_same), sl__law_is_same⟩)
    (c__law_is_same : PySem.W.codeIn K cd__law_is_same "_law_is_same" = true)
    (k__law_is_same : PySem.W.keepIn K (.ref a__law_is_same) = true)
    (g__law_others : PySem.W.nsIn K mainGlobals "_law_others" = some (some (.ref a__law_others)))
    (l__law_others : K.lookup a__law_others = some ⟨oc__law_others, od__law_others, .func (PySem.W.fnOf "_law_others" "_law_others" (defArgs st__law_others) (defBody st__law_others) (defScope st__law_others) .none kV__law_others dc__law_others pm__law_others an__law_others cd__law_others ct__law_others), sl__law_others⟩)
    (c__law_others : PySem.W.codeIn K cd__law_others "_law_others" = true)
    (k__law_others : PySem.W.keepIn K (.ref a__law_others) = true)
    (g__law_classes : PySem.W.nsIn K mainGlobals "_law_classes" = some (some (.ref a__law_classes)))
    (l__law_classes : K.lookup a__law_classes = some ⟨oc__law_classes, od__law_classes, .func (PySem.W.fnOf "_law_classes" "_law_classes" (defArgs st__law_classes) (defBody st__law_classes) (defScope st__law_classes) .none kV__law_classes dc__law_classes pm__law_classes an__law_classes cd__law_classes ct__law_classes), sl__law_classes⟩)
    (c__law_classes : PySem.W.codeIn K cd__law_classes "_law_classes" = true)
    (k__law_classes : PySem.W.keepIn K (.ref a__law_classes) = true)
    (g_law : PySem.W.nsIn K mainGlobals "law" = some (some (.ref a_law)))
    (l_law : K.lookup a_law = some ⟨oc_law, od_law, .func (PySem.W.fnOf "law" "law" (defArgs st_law) (defBody st_law) (defScope st_law) .none kV_law dc_law pm_law an_law cd_law ct_law), sl_law⟩)
    (c_law : PySem.W.codeIn K cd_law "law" = true)
    (k_law : PySem.W.keepIn K (.ref a_law) = true)
    (g_LotError : PySem.W.nsIn K mainGlobals "LotError" = some (some (.ref a_LotError)))
    (rd_LotError : PySem.W.readsIn K a_LotError (.type "type") = true)
    (fc_LotError : PySem.W.findCls K (.ref a_LotError) (.type "type") "__init__" = some (.val (.builtin "ValueError.__init__")))
    (sp_LotError : PySem.W.specialIn K (.ref a_LotError) "__getattribute__" = some (some (.builtin "type.__getattribute__")))
    (g_BadWeb : PySem.W.nsIn K mainGlobals "BadWeb" = some (some (.ref a_BadWeb)))
    (xL_BadWeb : K.lookup a_BadWeb = some (excClassObj nm_BadWeb q_BadWeb a_BadWeb N_BadWeb bs_BadWeb [.ref a_LotError, .type "ValueError", .type "Exception", .type "BaseException", .type "object"] true sn_BadWeb sub_BadWeb ab_BadWeb col_BadWeb dd_BadWeb m0_BadWeb m1_BadWeb m2_BadWeb m3_BadWeb m5_BadWeb "ValueError.__new__"))
    (sa_BadWeb : PySem.W.findIn K (.ref a_BadWeb) "__setattr__" = some (some (.builtin "object.__setattr__")))
    (ga_BadWeb : PySem.W.findIn K (.ref a_BadWeb) "__getattribute__" = some (some (.builtin "BaseException.__getattribute__")))
    (gg_BadWeb : PySem.W.findIn K (.ref a_BadWeb) "__getattr__" = some none)
    (nf_BadWeb : PySem.W.findIn K (.ref a_BadWeb) "index" = some none)
    (gi_BadWeb : PySem.W.findIn K (.ref a_BadWeb) "__init__" = some (some (.ref a_BadWeb_init)))
    (ti_BadWeb : PySem.W.typeIn K (.ref a_BadWeb_init) = some (.type "function"))
    (l_BadWeb_init : K.lookup a_BadWeb_init = some ⟨oc_BadWeb_init, od_BadWeb_init, .func (PySem.W.fnOf "__init__" "BadWeb.__init__" (defArgs st_BadWeb_init) (defBody st_BadWeb_init) (defScope st_BadWeb_init) .none kV_BadWeb_init dc_BadWeb_init pm_BadWeb_init an_BadWeb_init cd_BadWeb_init ct_BadWeb_init), sl_BadWeb_init⟩)
    (c_BadWeb_init : PySem.W.codeIn K cd_BadWeb_init "BadWeb.__init__" = true)
    (k_BadWeb_init : PySem.W.keepIn K (.ref a_BadWeb_init) = true)
    (kC_BadWeb : PySem.W.keepIn K (.ref a_BadWeb) = true)
    (eC_BadWeb : PySem.W.subIn K (.ref a_BadWeb) (.type "BaseException") = some true)
    (tC_BadWeb : PySem.W.typeIn K (.ref a_BadWeb) = some (.type "type"))
    (hC_BadWeb : PySem.W.hasDictIn K a_BadWeb = true)
    (g_UnknownCell : PySem.W.nsIn K mainGlobals "UnknownCell" = some (some (.ref a_UnknownCell)))
    (xL_UnknownCell : K.lookup a_UnknownCell = some (excClassObj nm_UnknownCell q_UnknownCell a_UnknownCell N_UnknownCell bs_UnknownCell [.ref a_LotError, .type "ValueError", .type "Exception", .type "BaseException", .type "object"] true sn_UnknownCell sub_UnknownCell ab_UnknownCell col_UnknownCell dd_UnknownCell m0_UnknownCell m1_UnknownCell m2_UnknownCell m3_UnknownCell m5_UnknownCell "ValueError.__new__"))
    (sa_UnknownCell : PySem.W.findIn K (.ref a_UnknownCell) "__setattr__" = some (some (.builtin "object.__setattr__")))
    (ga_UnknownCell : PySem.W.findIn K (.ref a_UnknownCell) "__getattribute__" = some (some (.builtin "BaseException.__getattribute__")))
    (gg_UnknownCell : PySem.W.findIn K (.ref a_UnknownCell) "__getattr__" = some none)
    (nf_UnknownCell : PySem.W.findIn K (.ref a_UnknownCell) "cell" = some none)
    (gi_UnknownCell : PySem.W.findIn K (.ref a_UnknownCell) "__init__" = some (some (.ref a_UnknownCell_init)))
    (ti_UnknownCell : PySem.W.typeIn K (.ref a_UnknownCell_init) = some (.type "function"))
    (l_UnknownCell_init : K.lookup a_UnknownCell_init = some ⟨oc_UnknownCell_init, od_UnknownCell_init, .func (PySem.W.fnOf "__init__" "UnknownCell.__init__" (defArgs st_UnknownCell_init) (defBody st_UnknownCell_init) (defScope st_UnknownCell_init) .none kV_UnknownCell_init dc_UnknownCell_init pm_UnknownCell_init an_UnknownCell_init cd_UnknownCell_init ct_UnknownCell_init), sl_UnknownCell_init⟩)
    (c_UnknownCell_init : PySem.W.codeIn K cd_UnknownCell_init "UnknownCell.__init__" = true)
    (k_UnknownCell_init : PySem.W.keepIn K (.ref a_UnknownCell_init) = true)
    (kC_UnknownCell : PySem.W.keepIn K (.ref a_UnknownCell) = true)
    (eC_UnknownCell : PySem.W.subIn K (.ref a_UnknownCell) (.type "BaseException") = some true)
    (tC_UnknownCell : PySem.W.typeIn K (.ref a_UnknownCell) = some (.type "type"))
    (hC_UnknownCell : PySem.W.hasDictIn K a_UnknownCell = true)
    (g_BadProgram : PySem.W.nsIn K mainGlobals "BadProgram" = some (some (.ref a_BadProgram)))
    (xL_BadProgram : K.lookup a_BadProgram = some (excClassObj nm_BadProgram q_BadProgram a_BadProgram N_BadProgram bs_BadProgram [.ref a_LotError, .type "ValueError", .type "Exception", .type "BaseException", .type "object"] true sn_BadProgram sub_BadProgram ab_BadProgram col_BadProgram dd_BadProgram m0_BadProgram m1_BadProgram m2_BadProgram m3_BadProgram m5_BadProgram "ValueError.__new__"))
    (sa_BadProgram : PySem.W.findIn K (.ref a_BadProgram) "__setattr__" = some (some (.builtin "object.__setattr__")))
    (ga_BadProgram : PySem.W.findIn K (.ref a_BadProgram) "__getattribute__" = some (some (.builtin "BaseException.__getattribute__")))
    (gg_BadProgram : PySem.W.findIn K (.ref a_BadProgram) "__getattr__" = some none)
    (nf_BadProgram : PySem.W.findIn K (.ref a_BadProgram) "index" = some none)
    (gi_BadProgram : PySem.W.findIn K (.ref a_BadProgram) "__init__" = some (some (.ref a_BadProgram_init)))
    (ti_BadProgram : PySem.W.typeIn K (.ref a_BadProgram_init) = some (.type "function"))
    (l_BadProgram_init : K.lookup a_BadProgram_init = some ⟨oc_BadProgram_init, od_BadProgram_init, .func (PySem.W.fnOf "__init__" "BadProgram.__init__" (defArgs st_BadProgram_init) (defBody st_BadProgram_init) (defScope st_BadProgram_init) .none kV_BadProgram_init dc_BadProgram_init pm_BadProgram_init an_BadProgram_init cd_BadProgram_init ct_BadProgram_init), sl_BadProgram_init⟩)
    (c_BadProgram_init : PySem.W.codeIn K cd_BadProgram_init "BadProgram.__init__" = true)
    (k_BadProgram_init : PySem.W.keepIn K (.ref a_BadProgram_init) = true)
    (kC_BadProgram : PySem.W.keepIn K (.ref a_BadProgram) = true)
    (eC_BadProgram : PySem.W.subIn K (.ref a_BadProgram) (.type "BaseException") = some true)
    (tC_BadProgram : PySem.W.typeIn K (.ref a_BadProgram) = some (.type "type"))
    (hC_BadProgram : PySem.W.hasDictIn K a_BadProgram = true)
    (g_BadNumber : PySem.W.nsIn K mainGlobals "BadNumber" = some (some (.ref a_BadNumber)))
    (xL_BadNumber : K.lookup a_BadNumber = some (excClassObj nm_BadNumber q_BadNumber a_BadNumber N_BadNumber bs_BadNumber [.ref a_LotError, .type "ValueError", .type "Exception", .type "BaseException", .type "object"] true sn_BadNumber sub_BadNumber ab_BadNumber col_BadNumber dd_BadNumber m0_BadNumber m1_BadNumber m2_BadNumber m3_BadNumber m5_BadNumber "ValueError.__new__"))
    (sa_BadNumber : PySem.W.findIn K (.ref a_BadNumber) "__setattr__" = some (some (.builtin "object.__setattr__")))
    (ga_BadNumber : PySem.W.findIn K (.ref a_BadNumber) "__getattribute__" = some (some (.builtin "BaseException.__getattribute__")))
    (gg_BadNumber : PySem.W.findIn K (.ref a_BadNumber) "__getattr__" = some none)
    (nf_BadNumber : PySem.W.findIn K (.ref a_BadNumber) "number" = some none)
    (gi_BadNumber : PySem.W.findIn K (.ref a_BadNumber) "__init__" = some (some (.ref a_BadNumber_init)))
    (ti_BadNumber : PySem.W.typeIn K (.ref a_BadNumber_init) = some (.type "function"))
    (l_BadNumber_init : K.lookup a_BadNumber_init = some ⟨oc_BadNumber_init, od_BadNumber_init, .func (PySem.W.fnOf "__init__" "BadNumber.__init__" (defArgs st_BadNumber_init) (defBody st_BadNumber_init) (defScope st_BadNumber_init) .none kV_BadNumber_init dc_BadNumber_init pm_BadNumber_init an_BadNumber_init cd_BadNumber_init ct_BadNumber_init), sl_BadNumber_init⟩)
    (c_BadNumber_init : PySem.W.codeIn K cd_BadNumber_init "BadNumber.__init__" = true)
    (k_BadNumber_init : PySem.W.keepIn K (.ref a_BadNumber_init) = true)
    (kC_BadNumber : PySem.W.keepIn K (.ref a_BadNumber) = true)
    (eC_BadNumber : PySem.W.subIn K (.ref a_BadNumber) (.type "BaseException") = some true)
    (tC_BadNumber : PySem.W.typeIn K (.ref a_BadNumber) = some (.type "type"))
    (hC_BadNumber : PySem.W.hasDictIn K a_BadNumber = true)
    (g_BadRules : PySem.W.nsIn K mainGlobals "BadRules" = some (some (.ref a_BadRules)))
    (xL_BadRules : K.lookup a_BadRules = some (excClassObj nm_BadRules q_BadRules a_BadRules N_BadRules bs_BadRules [.ref a_LotError, .type "ValueError", .type "Exception", .type "BaseException", .type "object"] true sn_BadRules sub_BadRules ab_BadRules col_BadRules dd_BadRules m0_BadRules m1_BadRules m2_BadRules m3_BadRules m5_BadRules "ValueError.__new__"))
    (sa_BadRules : PySem.W.findIn K (.ref a_BadRules) "__setattr__" = some (some (.builtin "object.__setattr__")))
    (ga_BadRules : PySem.W.findIn K (.ref a_BadRules) "__getattribute__" = some (some (.builtin "BaseException.__getattribute__")))
    (gg_BadRules : PySem.W.findIn K (.ref a_BadRules) "__getattr__" = some none)
    (nf_BadRules : PySem.W.findIn K (.ref a_BadRules) "cell" = some none)
    (gi_BadRules : PySem.W.findIn K (.ref a_BadRules) "__init__" = some (some (.ref a_BadRules_init)))
    (ti_BadRules : PySem.W.typeIn K (.ref a_BadRules_init) = some (.type "function"))
    (l_BadRules_init : K.lookup a_BadRules_init = some ⟨oc_BadRules_init, od_BadRules_init, .func (PySem.W.fnOf "__init__" "BadRules.__init__" (defArgs st_BadRules_init) (defBody st_BadRules_init) (defScope st_BadRules_init) .none kV_BadRules_init dc_BadRules_init pm_BadRules_init an_BadRules_init cd_BadRules_init ct_BadRules_init), sl_BadRules_init⟩)
    (c_BadRules_init : PySem.W.codeIn K cd_BadRules_init "BadRules.__init__" = true)
    (k_BadRules_init : PySem.W.keepIn K (.ref a_BadRules_init) = true)
    (kC_BadRules : PySem.W.keepIn K (.ref a_BadRules) = true)
    (eC_BadRules : PySem.W.subIn K (.ref a_BadRules) (.type "BaseException") = some true)
    (tC_BadRules : PySem.W.typeIn K (.ref a_BadRules) = some (.type "type"))
    (hC_BadRules : PySem.W.hasDictIn K a_BadRules = true)
    (g_BadWorth : PySem.W.nsIn K mainGlobals "BadWorth" = some (some (.ref a_BadWorth)))
    (xL_BadWorth : K.lookup a_BadWorth = some (excClassObj nm_BadWorth q_BadWorth a_BadWorth N_BadWorth bs_BadWorth [.ref a_LotError, .type "ValueError", .type "Exception", .type "BaseException", .type "object"] true sn_BadWorth sub_BadWorth ab_BadWorth col_BadWorth dd_BadWorth m0_BadWorth m1_BadWorth m2_BadWorth m3_BadWorth m5_BadWorth "ValueError.__new__"))
    (sa_BadWorth : PySem.W.findIn K (.ref a_BadWorth) "__setattr__" = some (some (.builtin "object.__setattr__")))
    (ga_BadWorth : PySem.W.findIn K (.ref a_BadWorth) "__getattribute__" = some (some (.builtin "BaseException.__getattribute__")))
    (gg_BadWorth : PySem.W.findIn K (.ref a_BadWorth) "__getattr__" = some none)
    (nf_BadWorth : PySem.W.findIn K (.ref a_BadWorth) "cell" = some none)
    (gi_BadWorth : PySem.W.findIn K (.ref a_BadWorth) "__init__" = some (some (.ref a_BadWorth_init)))
    (ti_BadWorth : PySem.W.typeIn K (.ref a_BadWorth_init) = some (.type "function"))
    (l_BadWorth_init : K.lookup a_BadWorth_init = some ⟨oc_BadWorth_init, od_BadWorth_init, .func (PySem.W.fnOf "__init__" "BadWorth.__init__" (defArgs st_BadWorth_init) (defBody st_BadWorth_init) (defScope st_BadWorth_init) .none kV_BadWorth_init dc_BadWorth_init pm_BadWorth_init an_BadWorth_init cd_BadWorth_init ct_BadWorth_init), sl_BadWorth_init⟩)
    (c_BadWorth_init : PySem.W.codeIn K cd_BadWorth_init "BadWorth.__init__" = true)
    (k_BadWorth_init : PySem.W.keepIn K (.ref a_BadWorth_init) = true)
    (kC_BadWorth : PySem.W.keepIn K (.ref a_BadWorth) = true)
    (eC_BadWorth : PySem.W.subIn K (.ref a_BadWorth) (.type "BaseException") = some true)
    (tC_BadWorth : PySem.W.typeIn K (.ref a_BadWorth) = some (.type "type"))
    (hC_BadWorth : PySem.W.hasDictIn K a_BadWorth = true)
    (g_BadName : PySem.W.nsIn K mainGlobals "BadName" = some (some (.ref a_BadName)))
    (xL_BadName : K.lookup a_BadName = some (excClassObj nm_BadName q_BadName a_BadName N_BadName bs_BadName [.ref a_LotError, .type "ValueError", .type "Exception", .type "BaseException", .type "object"] true sn_BadName sub_BadName ab_BadName col_BadName dd_BadName m0_BadName m1_BadName m2_BadName m3_BadName m5_BadName "ValueError.__new__"))
    (sa_BadName : PySem.W.findIn K (.ref a_BadName) "__setattr__" = some (some (.builtin "object.__setattr__")))
    (ga_BadName : PySem.W.findIn K (.ref a_BadName) "__getattribute__" = some (some (.builtin "BaseException.__getattribute__")))
    (gg_BadName : PySem.W.findIn K (.ref a_BadName) "__getattr__" = some none)
    (nf_BadName : PySem.W.findIn K (.ref a_BadName) "name" = some none)
    (gi_BadName : PySem.W.findIn K (.ref a_BadName) "__init__" = some (some (.ref a_BadName_init)))
    (ti_BadName : PySem.W.typeIn K (.ref a_BadName_init) = some (.type "function"))
    (l_BadName_init : K.lookup a_BadName_init = some ⟨oc_BadName_init, od_BadName_init, .func (PySem.W.fnOf "__init__" "BadName.__init__" (defArgs st_BadName_init) (defBody st_BadName_init) (defScope st_BadName_init) .none kV_BadName_init dc_BadName_init pm_BadName_init an_BadName_init cd_BadName_init ct_BadName_init), sl_BadName_init⟩)
    (c_BadName_init : PySem.W.codeIn K cd_BadName_init "BadName.__init__" = true)
    (k_BadName_init : PySem.W.keepIn K (.ref a_BadName_init) = true)
    (kC_BadName : PySem.W.keepIn K (.ref a_BadName) = true)
    (eC_BadName : PySem.W.subIn K (.ref a_BadName) (.type "BaseException") = some true)
    (tC_BadName : PySem.W.typeIn K (.ref a_BadName) = some (.type "type"))
    (hC_BadName : PySem.W.hasDictIn K a_BadName = true)
    (g_Held : PySem.W.nsIn K mainGlobals "Held" = some (some (.ref a_Held)))
    (xL_Held : K.lookup a_Held = some (excClassObj nm_Held q_Held a_Held N_Held bs_Held [.ref a_LotError, .type "ValueError", .type "Exception", .type "BaseException", .type "object"] true sn_Held sub_Held ab_Held col_Held dd_Held m0_Held m1_Held m2_Held m3_Held m5_Held "ValueError.__new__"))
    (sa_Held : PySem.W.findIn K (.ref a_Held) "__setattr__" = some (some (.builtin "object.__setattr__")))
    (ga_Held : PySem.W.findIn K (.ref a_Held) "__getattribute__" = some (some (.builtin "BaseException.__getattribute__")))
    (gg_Held : PySem.W.findIn K (.ref a_Held) "__getattr__" = some none)
    (nf_Held : PySem.W.findIn K (.ref a_Held) "name" = some none)
    (gi_Held : PySem.W.findIn K (.ref a_Held) "__init__" = some (some (.ref a_Held_init)))
    (ti_Held : PySem.W.typeIn K (.ref a_Held_init) = some (.type "function"))
    (l_Held_init : K.lookup a_Held_init = some ⟨oc_Held_init, od_Held_init, .func (PySem.W.fnOf "__init__" "Held.__init__" (defArgs st_Held_init) (defBody st_Held_init) (defScope st_Held_init) .none kV_Held_init dc_Held_init pm_Held_init an_Held_init cd_Held_init ct_Held_init), sl_Held_init⟩)
    (c_Held_init : PySem.W.codeIn K cd_Held_init "Held.__init__" = true)
    (k_Held_init : PySem.W.keepIn K (.ref a_Held_init) = true)
    (kC_Held : PySem.W.keepIn K (.ref a_Held) = true)
    (eC_Held : PySem.W.subIn K (.ref a_Held) (.type "BaseException") = some true)
    (tC_Held : PySem.W.typeIn K (.ref a_Held) = some (.type "type"))
    (hC_Held : PySem.W.hasDictIn K a_Held = true)
    (g_NotHeld : PySem.W.nsIn K mainGlobals "NotHeld" = some (some (.ref a_NotHeld)))
    (xL_NotHeld : K.lookup a_NotHeld = some (excClassObj nm_NotHeld q_NotHeld a_NotHeld N_NotHeld bs_NotHeld [.ref a_LotError, .type "ValueError", .type "Exception", .type "BaseException", .type "object"] true sn_NotHeld sub_NotHeld ab_NotHeld col_NotHeld dd_NotHeld m0_NotHeld m1_NotHeld m2_NotHeld m3_NotHeld m5_NotHeld "ValueError.__new__"))
    (sa_NotHeld : PySem.W.findIn K (.ref a_NotHeld) "__setattr__" = some (some (.builtin "object.__setattr__")))
    (ga_NotHeld : PySem.W.findIn K (.ref a_NotHeld) "__getattribute__" = some (some (.builtin "BaseException.__getattribute__")))
    (gg_NotHeld : PySem.W.findIn K (.ref a_NotHeld) "__getattr__" = some none)
    (nf_NotHeld : PySem.W.findIn K (.ref a_NotHeld) "name" = some none)
    (gi_NotHeld : PySem.W.findIn K (.ref a_NotHeld) "__init__" = some (some (.ref a_NotHeld_init)))
    (ti_NotHeld : PySem.W.typeIn K (.ref a_NotHeld_init) = some (.type "function"))
    (l_NotHeld_init : K.lookup a_NotHeld_init = some ⟨oc_NotHeld_init, od_NotHeld_init, .func (PySem.W.fnOf "__init__" "NotHeld.__init__" (defArgs st_NotHeld_init) (defBody st_NotHeld_init) (defScope st_NotHeld_init) .none kV_NotHeld_init dc_NotHeld_init pm_NotHeld_init an_NotHeld_init cd_NotHeld_init ct_NotHeld_init), sl_NotHeld_init⟩)
    (c_NotHeld_init : PySem.W.codeIn K cd_NotHeld_init "NotHeld.__init__" = true)
    (k_NotHeld_init : PySem.W.keepIn K (.ref a_NotHeld_init) = true)
    (kC_NotHeld : PySem.W.keepIn K (.ref a_NotHeld) = true)
    (eC_NotHeld : PySem.W.subIn K (.ref a_NotHeld) (.type "BaseException") = some true)
    (tC_NotHeld : PySem.W.typeIn K (.ref a_NotHeld) = some (.type "type"))
    (hC_NotHeld : PySem.W.hasDictIn K a_NotHeld = true)
    (g_BadDeed : PySem.W.nsIn K mainGlobals "BadDeed" = some (some (.ref a_BadDeed)))
    (xL_BadDeed : K.lookup a_BadDeed = some (excClassObj nm_BadDeed q_BadDeed a_BadDeed N_BadDeed bs_BadDeed [.ref a_LotError, .type "ValueError", .type "Exception", .type "BaseException", .type "object"] true sn_BadDeed sub_BadDeed ab_BadDeed col_BadDeed dd_BadDeed m0_BadDeed m1_BadDeed m2_BadDeed m3_BadDeed m5_BadDeed "ValueError.__new__"))
    (sa_BadDeed : PySem.W.findIn K (.ref a_BadDeed) "__setattr__" = some (some (.builtin "object.__setattr__")))
    (ga_BadDeed : PySem.W.findIn K (.ref a_BadDeed) "__getattribute__" = some (some (.builtin "BaseException.__getattribute__")))
    (gg_BadDeed : PySem.W.findIn K (.ref a_BadDeed) "__getattr__" = some none)
    (nf_BadDeed : PySem.W.findIn K (.ref a_BadDeed) "deed" = some none)
    (gi_BadDeed : PySem.W.findIn K (.ref a_BadDeed) "__init__" = some (some (.ref a_BadDeed_init)))
    (ti_BadDeed : PySem.W.typeIn K (.ref a_BadDeed_init) = some (.type "function"))
    (l_BadDeed_init : K.lookup a_BadDeed_init = some ⟨oc_BadDeed_init, od_BadDeed_init, .func (PySem.W.fnOf "__init__" "BadDeed.__init__" (defArgs st_BadDeed_init) (defBody st_BadDeed_init) (defScope st_BadDeed_init) .none kV_BadDeed_init dc_BadDeed_init pm_BadDeed_init an_BadDeed_init cd_BadDeed_init ct_BadDeed_init), sl_BadDeed_init⟩)
    (c_BadDeed_init : PySem.W.codeIn K cd_BadDeed_init "BadDeed.__init__" = true)
    (k_BadDeed_init : PySem.W.keepIn K (.ref a_BadDeed_init) = true)
    (kC_BadDeed : PySem.W.keepIn K (.ref a_BadDeed) = true)
    (eC_BadDeed : PySem.W.subIn K (.ref a_BadDeed) (.type "BaseException") = some true)
    (tC_BadDeed : PySem.W.typeIn K (.ref a_BadDeed) = some (.type "type"))
    (hC_BadDeed : PySem.W.hasDictIn K a_BadDeed = true)
    (g_Taken : PySem.W.nsIn K mainGlobals "Taken" = some (some (.ref a_Taken)))
    (xL_Taken : K.lookup a_Taken = some (excClassObj nm_Taken q_Taken a_Taken N_Taken bs_Taken [.ref a_LotError, .type "ValueError", .type "Exception", .type "BaseException", .type "object"] true sn_Taken sub_Taken ab_Taken col_Taken dd_Taken m0_Taken m1_Taken m2_Taken m3_Taken m5_Taken "ValueError.__new__"))
    (sa_Taken : PySem.W.findIn K (.ref a_Taken) "__setattr__" = some (some (.builtin "object.__setattr__")))
    (ga_Taken : PySem.W.findIn K (.ref a_Taken) "__getattribute__" = some (some (.builtin "BaseException.__getattribute__")))
    (gg_Taken : PySem.W.findIn K (.ref a_Taken) "__getattr__" = some none)
    (nf_Taken : PySem.W.findIn K (.ref a_Taken) "name" = some none)
    (gi_Taken : PySem.W.findIn K (.ref a_Taken) "__init__" = some (some (.ref a_Taken_init)))
    (ti_Taken : PySem.W.typeIn K (.ref a_Taken_init) = some (.type "function"))
    (l_Taken_init : K.lookup a_Taken_init = some ⟨oc_Taken_init, od_Taken_init, .func (PySem.W.fnOf "__init__" "Taken.__init__" (defArgs st_Taken_init) (defBody st_Taken_init) (defScope st_Taken_init) .none kV_Taken_init dc_Taken_init pm_Taken_init an_Taken_init cd_Taken_init ct_Taken_init), sl_Taken_init⟩)
    (c_Taken_init : PySem.W.codeIn K cd_Taken_init "Taken.__init__" = true)
    (k_Taken_init : PySem.W.keepIn K (.ref a_Taken_init) = true)
    (kC_Taken : PySem.W.keepIn K (.ref a_Taken) = true)
    (eC_Taken : PySem.W.subIn K (.ref a_Taken) (.type "BaseException") = some true)
    (tC_Taken : PySem.W.typeIn K (.ref a_Taken) = some (.type "type"))
    (hC_Taken : PySem.W.hasDictIn K a_Taken = true)
    (g_Used : PySem.W.nsIn K mainGlobals "Used" = some (some (.ref a_Used)))
    (xL_Used : K.lookup a_Used = some (excClassObj nm_Used q_Used a_Used N_Used bs_Used [.ref a_LotError, .type "ValueError", .type "Exception", .type "BaseException", .type "object"] true sn_Used sub_Used ab_Used col_Used dd_Used m0_Used m1_Used m2_Used m3_Used m5_Used "ValueError.__new__"))
    (sa_Used : PySem.W.findIn K (.ref a_Used) "__setattr__" = some (some (.builtin "object.__setattr__")))
    (ga_Used : PySem.W.findIn K (.ref a_Used) "__getattribute__" = some (some (.builtin "BaseException.__getattribute__")))
    (gg_Used : PySem.W.findIn K (.ref a_Used) "__getattr__" = some none)
    (nf_Used : PySem.W.findIn K (.ref a_Used) "cell" = some none)
    (gi_Used : PySem.W.findIn K (.ref a_Used) "__init__" = some (some (.ref a_Used_init)))
    (ti_Used : PySem.W.typeIn K (.ref a_Used_init) = some (.type "function"))
    (l_Used_init : K.lookup a_Used_init = some ⟨oc_Used_init, od_Used_init, .func (PySem.W.fnOf "__init__" "Used.__init__" (defArgs st_Used_init) (defBody st_Used_init) (defScope st_Used_init) .none kV_Used_init dc_Used_init pm_Used_init an_Used_init cd_Used_init ct_Used_init), sl_Used_init⟩)
    (c_Used_init : PySem.W.codeIn K cd_Used_init "Used.__init__" = true)
    (k_Used_init : PySem.W.keepIn K (.ref a_Used_init) = true)
    (kC_Used : PySem.W.keepIn K (.ref a_Used) = true)
    (eC_Used : PySem.W.subIn K (.ref a_Used) (.type "BaseException") = some true)
    (tC_Used : PySem.W.typeIn K (.ref a_Used) = some (.type "type"))
    (hC_Used : PySem.W.hasDictIn K a_Used = true)
    (g_NoDeed : PySem.W.nsIn K mainGlobals "NoDeed" = some (some (.ref a_NoDeed)))
    (xL_NoDeed : K.lookup a_NoDeed = some (excClassObj nm_NoDeed q_NoDeed a_NoDeed N_NoDeed bs_NoDeed [.ref a_LotError, .type "ValueError", .type "Exception", .type "BaseException", .type "object"] true sn_NoDeed sub_NoDeed ab_NoDeed col_NoDeed dd_NoDeed m0_NoDeed m1_NoDeed m2_NoDeed m3_NoDeed m5_NoDeed "ValueError.__new__"))
    (sa_NoDeed : PySem.W.findIn K (.ref a_NoDeed) "__setattr__" = some (some (.builtin "object.__setattr__")))
    (ga_NoDeed : PySem.W.findIn K (.ref a_NoDeed) "__getattribute__" = some (some (.builtin "BaseException.__getattribute__")))
    (gg_NoDeed : PySem.W.findIn K (.ref a_NoDeed) "__getattr__" = some none)
    (gi_NoDeed : PySem.W.findIn K (.ref a_NoDeed) "__init__" = some (some (.ref a_NoDeed_init)))
    (ti_NoDeed : PySem.W.typeIn K (.ref a_NoDeed_init) = some (.type "function"))
    (l_NoDeed_init : K.lookup a_NoDeed_init = some ⟨oc_NoDeed_init, od_NoDeed_init, .func (PySem.W.fnOf "__init__" "NoDeed.__init__" (defArgs st_NoDeed_init) (defBody st_NoDeed_init) (defScope st_NoDeed_init) .none kV_NoDeed_init dc_NoDeed_init pm_NoDeed_init an_NoDeed_init cd_NoDeed_init ct_NoDeed_init), sl_NoDeed_init⟩)
    (c_NoDeed_init : PySem.W.codeIn K cd_NoDeed_init "NoDeed.__init__" = true)
    (k_NoDeed_init : PySem.W.keepIn K (.ref a_NoDeed_init) = true)
    (kC_NoDeed : PySem.W.keepIn K (.ref a_NoDeed) = true)
    (eC_NoDeed : PySem.W.subIn K (.ref a_NoDeed) (.type "BaseException") = some true)
    (tC_NoDeed : PySem.W.typeIn K (.ref a_NoDeed) = some (.type "type"))
    (hC_NoDeed : PySem.W.hasDictIn K a_NoDeed = true)
    (g_BadTable : PySem.W.nsIn K mainGlobals "BadTable" = some (some (.ref a_BadTable)))
    (xL_BadTable : K.lookup a_BadTable = some (excClassObj nm_BadTable q_BadTable a_BadTable N_BadTable bs_BadTable [.ref a_LotError, .type "ValueError", .type "Exception", .type "BaseException", .type "object"] true sn_BadTable sub_BadTable ab_BadTable col_BadTable dd_BadTable m0_BadTable m1_BadTable m2_BadTable m3_BadTable m5_BadTable "ValueError.__new__"))
    (sa_BadTable : PySem.W.findIn K (.ref a_BadTable) "__setattr__" = some (some (.builtin "object.__setattr__")))
    (ga_BadTable : PySem.W.findIn K (.ref a_BadTable) "__getattribute__" = some (some (.builtin "BaseException.__getattribute__")))
    (gg_BadTable : PySem.W.findIn K (.ref a_BadTable) "__getattr__" = some none)
    (gi_BadTable : PySem.W.findIn K (.ref a_BadTable) "__init__" = some (some (.ref a_BadTable_init)))
    (ti_BadTable : PySem.W.typeIn K (.ref a_BadTable_init) = some (.type "function"))
    (l_BadTable_init : K.lookup a_BadTable_init = some ⟨oc_BadTable_init, od_BadTable_init, .func (PySem.W.fnOf "__init__" "BadTable.__init__" (defArgs st_BadTable_init) (defBody st_BadTable_init) (defScope st_BadTable_init) .none kV_BadTable_init dc_BadTable_init pm_BadTable_init an_BadTable_init cd_BadTable_init ct_BadTable_init), sl_BadTable_init⟩)
    (c_BadTable_init : PySem.W.codeIn K cd_BadTable_init "BadTable.__init__" = true)
    (k_BadTable_init : PySem.W.keepIn K (.ref a_BadTable_init) = true)
    (kC_BadTable : PySem.W.keepIn K (.ref a_BadTable) = true)
    (eC_BadTable : PySem.W.subIn K (.ref a_BadTable) (.type "BaseException") = some true)
    (tC_BadTable : PySem.W.typeIn K (.ref a_BadTable) = some (.type "type"))
    (hC_BadTable : PySem.W.hasDictIn K a_BadTable = true)
    (g_Ringed : PySem.W.nsIn K mainGlobals "Ringed" = some (some (.ref a_Ringed)))
    (xL_Ringed : K.lookup a_Ringed = some (excClassObj nm_Ringed q_Ringed a_Ringed N_Ringed bs_Ringed [.ref a_LotError, .type "ValueError", .type "Exception", .type "BaseException", .type "object"] true sn_Ringed sub_Ringed ab_Ringed col_Ringed dd_Ringed m0_Ringed m1_Ringed m2_Ringed m3_Ringed m5_Ringed "ValueError.__new__"))
    (sa_Ringed : PySem.W.findIn K (.ref a_Ringed) "__setattr__" = some (some (.builtin "object.__setattr__")))
    (ga_Ringed : PySem.W.findIn K (.ref a_Ringed) "__getattribute__" = some (some (.builtin "BaseException.__getattribute__")))
    (gg_Ringed : PySem.W.findIn K (.ref a_Ringed) "__getattr__" = some none)
    (nf_Ringed : PySem.W.findIn K (.ref a_Ringed) "ring" = some none)
    (gi_Ringed : PySem.W.findIn K (.ref a_Ringed) "__init__" = some (some (.ref a_Ringed_init)))
    (ti_Ringed : PySem.W.typeIn K (.ref a_Ringed_init) = some (.type "function"))
    (l_Ringed_init : K.lookup a_Ringed_init = some ⟨oc_Ringed_init, od_Ringed_init, .func (PySem.W.fnOf "__init__" "Ringed.__init__" (defArgs st_Ringed_init) (defBody st_Ringed_init) (defScope st_Ringed_init) .none kV_Ringed_init dc_Ringed_init pm_Ringed_init an_Ringed_init cd_Ringed_init ct_Ringed_init), sl_Ringed_init⟩)
    (c_Ringed_init : PySem.W.codeIn K cd_Ringed_init "Ringed.__init__" = true)
    (k_Ringed_init : PySem.W.keepIn K (.ref a_Ringed_init) = true)
    (kC_Ringed : PySem.W.keepIn K (.ref a_Ringed) = true)
    (eC_Ringed : PySem.W.subIn K (.ref a_Ringed) (.type "BaseException") = some true)
    (tC_Ringed : PySem.W.typeIn K (.ref a_Ringed) = some (.type "type"))
    (hC_Ringed : PySem.W.hasDictIn K a_Ringed = true)
    (g_TooFew : PySem.W.nsIn K mainGlobals "TooFew" = some (some (.ref a_TooFew)))
    (xL_TooFew : K.lookup a_TooFew = some (excClassObj nm_TooFew q_TooFew a_TooFew N_TooFew bs_TooFew [.ref a_LotError, .type "ValueError", .type "Exception", .type "BaseException", .type "object"] true sn_TooFew sub_TooFew ab_TooFew col_TooFew dd_TooFew m0_TooFew m1_TooFew m2_TooFew m3_TooFew m5_TooFew "ValueError.__new__"))
    (sa_TooFew : PySem.W.findIn K (.ref a_TooFew) "__setattr__" = some (some (.builtin "object.__setattr__")))
    (ga_TooFew : PySem.W.findIn K (.ref a_TooFew) "__getattribute__" = some (some (.builtin "BaseException.__getattribute__")))
    (gg_TooFew : PySem.W.findIn K (.ref a_TooFew) "__getattr__" = some none)
    (nf_TooFew : PySem.W.findIn K (.ref a_TooFew) "number" = some none)
    (gi_TooFew : PySem.W.findIn K (.ref a_TooFew) "__init__" = some (some (.ref a_TooFew_init)))
    (ti_TooFew : PySem.W.typeIn K (.ref a_TooFew_init) = some (.type "function"))
    (l_TooFew_init : K.lookup a_TooFew_init = some ⟨oc_TooFew_init, od_TooFew_init, .func (PySem.W.fnOf "__init__" "TooFew.__init__" (defArgs st_TooFew_init) (defBody st_TooFew_init) (defScope st_TooFew_init) .none kV_TooFew_init dc_TooFew_init pm_TooFew_init an_TooFew_init cd_TooFew_init ct_TooFew_init), sl_TooFew_init⟩)
    (c_TooFew_init : PySem.W.codeIn K cd_TooFew_init "TooFew.__init__" = true)
    (k_TooFew_init : PySem.W.keepIn K (.ref a_TooFew_init) = true)
    (kC_TooFew : PySem.W.keepIn K (.ref a_TooFew) = true)
    (eC_TooFew : PySem.W.subIn K (.ref a_TooFew) (.type "BaseException") = some true)
    (tC_TooFew : PySem.W.typeIn K (.ref a_TooFew) = some (.type "type"))
    (hC_TooFew : PySem.W.hasDictIn K a_TooFew = true)
    (g_NotSweep : PySem.W.nsIn K mainGlobals "NotSweep" = some (some (.ref a_NotSweep)))
    (xL_NotSweep : K.lookup a_NotSweep = some (excClassObj nm_NotSweep q_NotSweep a_NotSweep N_NotSweep bs_NotSweep [.ref a_LotError, .type "ValueError", .type "Exception", .type "BaseException", .type "object"] true sn_NotSweep sub_NotSweep ab_NotSweep col_NotSweep dd_NotSweep m0_NotSweep m1_NotSweep m2_NotSweep m3_NotSweep m5_NotSweep "ValueError.__new__"))
    (sa_NotSweep : PySem.W.findIn K (.ref a_NotSweep) "__setattr__" = some (some (.builtin "object.__setattr__")))
    (ga_NotSweep : PySem.W.findIn K (.ref a_NotSweep) "__getattribute__" = some (some (.builtin "BaseException.__getattribute__")))
    (gg_NotSweep : PySem.W.findIn K (.ref a_NotSweep) "__getattr__" = some none)
    (gi_NotSweep : PySem.W.findIn K (.ref a_NotSweep) "__init__" = some (some (.ref a_NotSweep_init)))
    (ti_NotSweep : PySem.W.typeIn K (.ref a_NotSweep_init) = some (.type "function"))
    (l_NotSweep_init : K.lookup a_NotSweep_init = some ⟨oc_NotSweep_init, od_NotSweep_init, .func (PySem.W.fnOf "__init__" "NotSweep.__init__" (defArgs st_NotSweep_init) (defBody st_NotSweep_init) (defScope st_NotSweep_init) .none kV_NotSweep_init dc_NotSweep_init pm_NotSweep_init an_NotSweep_init cd_NotSweep_init ct_NotSweep_init), sl_NotSweep_init⟩)
    (c_NotSweep_init : PySem.W.codeIn K cd_NotSweep_init "NotSweep.__init__" = true)
    (k_NotSweep_init : PySem.W.keepIn K (.ref a_NotSweep_init) = true)
    (kC_NotSweep : PySem.W.keepIn K (.ref a_NotSweep) = true)
    (eC_NotSweep : PySem.W.subIn K (.ref a_NotSweep) (.type "BaseException") = some true)
    (tC_NotSweep : PySem.W.typeIn K (.ref a_NotSweep) = some (.type "type"))
    (hC_NotSweep : PySem.W.hasDictIn K a_NotSweep = true)
    (g_BadMarks : PySem.W.nsIn K mainGlobals "BadMarks" = some (some (.ref a_BadMarks)))
    (xL_BadMarks : K.lookup a_BadMarks = some (excClassObj nm_BadMarks q_BadMarks a_BadMarks N_BadMarks bs_BadMarks [.ref a_LotError, .type "ValueError", .type "Exception", .type "BaseException", .type "object"] true sn_BadMarks sub_BadMarks ab_BadMarks col_BadMarks dd_BadMarks m0_BadMarks m1_BadMarks m2_BadMarks m3_BadMarks m5_BadMarks "ValueError.__new__"))
    (sa_BadMarks : PySem.W.findIn K (.ref a_BadMarks) "__setattr__" = some (some (.builtin "object.__setattr__")))
    (ga_BadMarks : PySem.W.findIn K (.ref a_BadMarks) "__getattribute__" = some (some (.builtin "BaseException.__getattribute__")))
    (gg_BadMarks : PySem.W.findIn K (.ref a_BadMarks) "__getattr__" = some none)
    (gi_BadMarks : PySem.W.findIn K (.ref a_BadMarks) "__init__" = some (some (.ref a_BadMarks_init)))
    (ti_BadMarks : PySem.W.typeIn K (.ref a_BadMarks_init) = some (.type "function"))
    (l_BadMarks_init : K.lookup a_BadMarks_init = some ⟨oc_BadMarks_init, od_BadMarks_init, .func (PySem.W.fnOf "__init__" "BadMarks.__init__" (defArgs st_BadMarks_init) (defBody st_BadMarks_init) (defScope st_BadMarks_init) .none kV_BadMarks_init dc_BadMarks_init pm_BadMarks_init an_BadMarks_init cd_BadMarks_init ct_BadMarks_init), sl_BadMarks_init⟩)
    (c_BadMarks_init : PySem.W.codeIn K cd_BadMarks_init "BadMarks.__init__" = true)
    (k_BadMarks_init : PySem.W.keepIn K (.ref a_BadMarks_init) = true)
    (kC_BadMarks : PySem.W.keepIn K (.ref a_BadMarks) = true)
    (eC_BadMarks : PySem.W.subIn K (.ref a_BadMarks) (.type "BaseException") = some true)
    (tC_BadMarks : PySem.W.typeIn K (.ref a_BadMarks) = some (.type "type"))
    (hC_BadMarks : PySem.W.hasDictIn K a_BadMarks = true)
    (g_MarkRing : PySem.W.nsIn K mainGlobals "MarkRing" = some (some (.ref a_MarkRing)))
    (xL_MarkRing : K.lookup a_MarkRing = some (excClassObj nm_MarkRing q_MarkRing a_MarkRing N_MarkRing bs_MarkRing [.ref a_LotError, .type "ValueError", .type "Exception", .type "BaseException", .type "object"] true sn_MarkRing sub_MarkRing ab_MarkRing col_MarkRing dd_MarkRing m0_MarkRing m1_MarkRing m2_MarkRing m3_MarkRing m5_MarkRing "ValueError.__new__"))
    (sa_MarkRing : PySem.W.findIn K (.ref a_MarkRing) "__setattr__" = some (some (.builtin "object.__setattr__")))
    (ga_MarkRing : PySem.W.findIn K (.ref a_MarkRing) "__getattribute__" = some (some (.builtin "BaseException.__getattribute__")))
    (gg_MarkRing : PySem.W.findIn K (.ref a_MarkRing) "__getattr__" = some none)
    (nf_MarkRing : PySem.W.findIn K (.ref a_MarkRing) "arrows" = some none)
    (gi_MarkRing : PySem.W.findIn K (.ref a_MarkRing) "__init__" = some (some (.ref a_MarkRing_init)))
    (ti_MarkRing : PySem.W.typeIn K (.ref a_MarkRing_init) = some (.type "function"))
    (l_MarkRing_init : K.lookup a_MarkRing_init = some ⟨oc_MarkRing_init, od_MarkRing_init, .func (PySem.W.fnOf "__init__" "MarkRing.__init__" (defArgs st_MarkRing_init) (defBody st_MarkRing_init) (defScope st_MarkRing_init) .none kV_MarkRing_init dc_MarkRing_init pm_MarkRing_init an_MarkRing_init cd_MarkRing_init ct_MarkRing_init), sl_MarkRing_init⟩)
    (c_MarkRing_init : PySem.W.codeIn K cd_MarkRing_init "MarkRing.__init__" = true)
    (k_MarkRing_init : PySem.W.keepIn K (.ref a_MarkRing_init) = true)
    (kC_MarkRing : PySem.W.keepIn K (.ref a_MarkRing) = true)
    (eC_MarkRing : PySem.W.subIn K (.ref a_MarkRing) (.type "BaseException") = some true)
    (tC_MarkRing : PySem.W.typeIn K (.ref a_MarkRing) = some (.type "type"))
    (hC_MarkRing : PySem.W.hasDictIn K a_MarkRing = true)
    (g_NoSuch : PySem.W.nsIn K mainGlobals "NoSuch" = some (some (.ref a_NoSuch)))
    (xL_NoSuch : K.lookup a_NoSuch = some (excClassObj nm_NoSuch q_NoSuch a_NoSuch N_NoSuch bs_NoSuch [.ref a_LotError, .type "ValueError", .type "Exception", .type "BaseException", .type "object"] true sn_NoSuch sub_NoSuch ab_NoSuch col_NoSuch dd_NoSuch m0_NoSuch m1_NoSuch m2_NoSuch m3_NoSuch m5_NoSuch "ValueError.__new__"))
    (sa_NoSuch : PySem.W.findIn K (.ref a_NoSuch) "__setattr__" = some (some (.builtin "object.__setattr__")))
    (ga_NoSuch : PySem.W.findIn K (.ref a_NoSuch) "__getattribute__" = some (some (.builtin "BaseException.__getattribute__")))
    (gg_NoSuch : PySem.W.findIn K (.ref a_NoSuch) "__getattr__" = some none)
    (nf_NoSuch : PySem.W.findIn K (.ref a_NoSuch) "number" = some none)
    (gi_NoSuch : PySem.W.findIn K (.ref a_NoSuch) "__init__" = some (some (.ref a_NoSuch_init)))
    (ti_NoSuch : PySem.W.typeIn K (.ref a_NoSuch_init) = some (.type "function"))
    (l_NoSuch_init : K.lookup a_NoSuch_init = some ⟨oc_NoSuch_init, od_NoSuch_init, .func (PySem.W.fnOf "__init__" "NoSuch.__init__" (defArgs st_NoSuch_init) (defBody st_NoSuch_init) (defScope st_NoSuch_init) .none kV_NoSuch_init dc_NoSuch_init pm_NoSuch_init an_NoSuch_init cd_NoSuch_init ct_NoSuch_init), sl_NoSuch_init⟩)
    (c_NoSuch_init : PySem.W.codeIn K cd_NoSuch_init "NoSuch.__init__" = true)
    (k_NoSuch_init : PySem.W.keepIn K (.ref a_NoSuch_init) = true)
    (kC_NoSuch : PySem.W.keepIn K (.ref a_NoSuch) = true)
    (eC_NoSuch : PySem.W.subIn K (.ref a_NoSuch) (.type "BaseException") = some true)
    (tC_NoSuch : PySem.W.typeIn K (.ref a_NoSuch) = some (.type "type"))
    (hC_NoSuch : PySem.W.hasDictIn K a_NoSuch = true)
    (g_Unlike : PySem.W.nsIn K mainGlobals "Unlike" = some (some (.ref a_Unlike)))
    (xL_Unlike : K.lookup a_Unlike = some (excClassObj nm_Unlike q_Unlike a_Unlike N_Unlike bs_Unlike [.ref a_LotError, .type "ValueError", .type "Exception", .type "BaseException", .type "object"] true sn_Unlike sub_Unlike ab_Unlike col_Unlike dd_Unlike m0_Unlike m1_Unlike m2_Unlike m3_Unlike m5_Unlike "ValueError.__new__"))
    (sa_Unlike : PySem.W.findIn K (.ref a_Unlike) "__setattr__" = some (some (.builtin "object.__setattr__")))
    (ga_Unlike : PySem.W.findIn K (.ref a_Unlike) "__getattribute__" = some (some (.builtin "BaseException.__getattribute__")))
    (gg_Unlike : PySem.W.findIn K (.ref a_Unlike) "__getattr__" = some none)
    (gi_Unlike : PySem.W.findIn K (.ref a_Unlike) "__init__" = some (some (.ref a_Unlike_init)))
    (ti_Unlike : PySem.W.typeIn K (.ref a_Unlike_init) = some (.type "function"))
    (l_Unlike_init : K.lookup a_Unlike_init = some ⟨oc_Unlike_init, od_Unlike_init, .func (PySem.W.fnOf "__init__" "Unlike.__init__" (defArgs st_Unlike_init) (defBody st_Unlike_init) (defScope st_Unlike_init) .none kV_Unlike_init dc_Unlike_init pm_Unlike_init an_Unlike_init cd_Unlike_init ct_Unlike_init), sl_Unlike_init⟩)
    (c_Unlike_init : PySem.W.codeIn K cd_Unlike_init "Unlike.__init__" = true)
    (k_Unlike_init : PySem.W.keepIn K (.ref a_Unlike_init) = true)
    (kC_Unlike : PySem.W.keepIn K (.ref a_Unlike) = true)
    (eC_Unlike : PySem.W.subIn K (.ref a_Unlike) (.type "BaseException") = some true)
    (tC_Unlike : PySem.W.typeIn K (.ref a_Unlike) = some (.type "type"))
    (hC_Unlike : PySem.W.hasDictIn K a_Unlike = true)
    (g_BadCells : PySem.W.nsIn K mainGlobals "BadCells" = some (some (.ref a_BadCells)))
    (xL_BadCells : K.lookup a_BadCells = some (excClassObj nm_BadCells q_BadCells a_BadCells N_BadCells bs_BadCells [.ref a_LotError, .type "ValueError", .type "Exception", .type "BaseException", .type "object"] true sn_BadCells sub_BadCells ab_BadCells col_BadCells dd_BadCells m0_BadCells m1_BadCells m2_BadCells m3_BadCells m5_BadCells "ValueError.__new__"))
    (sa_BadCells : PySem.W.findIn K (.ref a_BadCells) "__setattr__" = some (some (.builtin "object.__setattr__")))
    (ga_BadCells : PySem.W.findIn K (.ref a_BadCells) "__getattribute__" = some (some (.builtin "BaseException.__getattribute__")))
    (gg_BadCells : PySem.W.findIn K (.ref a_BadCells) "__getattr__" = some none)
    (gi_BadCells : PySem.W.findIn K (.ref a_BadCells) "__init__" = some (some (.ref a_BadCells_init)))
    (ti_BadCells : PySem.W.typeIn K (.ref a_BadCells_init) = some (.type "function"))
    (l_BadCells_init : K.lookup a_BadCells_init = some ⟨oc_BadCells_init, od_BadCells_init, .func (PySem.W.fnOf "__init__" "BadCells.__init__" (defArgs st_BadCells_init) (defBody st_BadCells_init) (defScope st_BadCells_init) .none kV_BadCells_init dc_BadCells_init pm_BadCells_init an_BadCells_init cd_BadCells_init ct_BadCells_init), sl_BadCells_init⟩)
    (c_BadCells_init : PySem.W.codeIn K cd_BadCells_init "BadCells.__init__" = true)
    (k_BadCells_init : PySem.W.keepIn K (.ref a_BadCells_init) = true)
    (kC_BadCells : PySem.W.keepIn K (.ref a_BadCells) = true)
    (eC_BadCells : PySem.W.subIn K (.ref a_BadCells) (.type "BaseException") = some true)
    (tC_BadCells : PySem.W.typeIn K (.ref a_BadCells) = some (.type "type"))
    (hC_BadCells : PySem.W.hasDictIn K a_BadCells = true)
    (g_BadActs : PySem.W.nsIn K mainGlobals "BadActs" = some (some (.ref a_BadActs)))
    (xL_BadActs : K.lookup a_BadActs = some (excClassObj nm_BadActs q_BadActs a_BadActs N_BadActs bs_BadActs [.ref a_LotError, .type "ValueError", .type "Exception", .type "BaseException", .type "object"] true sn_BadActs sub_BadActs ab_BadActs col_BadActs dd_BadActs m0_BadActs m1_BadActs m2_BadActs m3_BadActs m5_BadActs "ValueError.__new__"))
    (sa_BadActs : PySem.W.findIn K (.ref a_BadActs) "__setattr__" = some (some (.builtin "object.__setattr__")))
    (ga_BadActs : PySem.W.findIn K (.ref a_BadActs) "__getattribute__" = some (some (.builtin "BaseException.__getattribute__")))
    (gg_BadActs : PySem.W.findIn K (.ref a_BadActs) "__getattr__" = some none)
    (nf_BadActs : PySem.W.findIn K (.ref a_BadActs) "index" = some none)
    (gi_BadActs : PySem.W.findIn K (.ref a_BadActs) "__init__" = some (some (.ref a_BadActs_init)))
    (ti_BadActs : PySem.W.typeIn K (.ref a_BadActs_init) = some (.type "function"))
    (l_BadActs_init : K.lookup a_BadActs_init = some ⟨oc_BadActs_init, od_BadActs_init, .func (PySem.W.fnOf "__init__" "BadActs.__init__" (defArgs st_BadActs_init) (defBody st_BadActs_init) (defScope st_BadActs_init) .none kV_BadActs_init dc_BadActs_init pm_BadActs_init an_BadActs_init cd_BadActs_init ct_BadActs_init), sl_BadActs_init⟩)
    (c_BadActs_init : PySem.W.codeIn K cd_BadActs_init "BadActs.__init__" = true)
    (k_BadActs_init : PySem.W.keepIn K (.ref a_BadActs_init) = true)
    (kC_BadActs : PySem.W.keepIn K (.ref a_BadActs) = true)
    (eC_BadActs : PySem.W.subIn K (.ref a_BadActs) (.type "BaseException") = some true)
    (tC_BadActs : PySem.W.typeIn K (.ref a_BadActs) = some (.type "type"))
    (hC_BadActs : PySem.W.hasDictIn K a_BadActs = true)
    (g_NoLot : PySem.W.nsIn K mainGlobals "NoLot" = some (some (.ref a_NoLot)))
    (xL_NoLot : K.lookup a_NoLot = some (excClassObj nm_NoLot q_NoLot a_NoLot N_NoLot bs_NoLot [.ref a_LotError, .type "ValueError", .type "Exception", .type "BaseException", .type "object"] true sn_NoLot sub_NoLot ab_NoLot col_NoLot dd_NoLot m0_NoLot m1_NoLot m2_NoLot m3_NoLot m5_NoLot "ValueError.__new__"))
    (sa_NoLot : PySem.W.findIn K (.ref a_NoLot) "__setattr__" = some (some (.builtin "object.__setattr__")))
    (ga_NoLot : PySem.W.findIn K (.ref a_NoLot) "__getattribute__" = some (some (.builtin "BaseException.__getattribute__")))
    (gg_NoLot : PySem.W.findIn K (.ref a_NoLot) "__getattr__" = some none)
    (nf_NoLot : PySem.W.findIn K (.ref a_NoLot) "index" = some none)
    (gi_NoLot : PySem.W.findIn K (.ref a_NoLot) "__init__" = some (some (.ref a_NoLot_init)))
    (ti_NoLot : PySem.W.typeIn K (.ref a_NoLot_init) = some (.type "function"))
    (l_NoLot_init : K.lookup a_NoLot_init = some ⟨oc_NoLot_init, od_NoLot_init, .func (PySem.W.fnOf "__init__" "NoLot.__init__" (defArgs st_NoLot_init) (defBody st_NoLot_init) (defScope st_NoLot_init) .none kV_NoLot_init dc_NoLot_init pm_NoLot_init an_NoLot_init cd_NoLot_init ct_NoLot_init), sl_NoLot_init⟩)
    (c_NoLot_init : PySem.W.codeIn K cd_NoLot_init "NoLot.__init__" = true)
    (k_NoLot_init : PySem.W.keepIn K (.ref a_NoLot_init) = true)
    (kC_NoLot : PySem.W.keepIn K (.ref a_NoLot) = true)
    (eC_NoLot : PySem.W.subIn K (.ref a_NoLot) (.type "BaseException") = some true)
    (tC_NoLot : PySem.W.typeIn K (.ref a_NoLot) = some (.type "type"))
    (hC_NoLot : PySem.W.hasDictIn K a_NoLot = true)
    (g_BadPiece : PySem.W.nsIn K mainGlobals "BadPiece" = some (some (.ref a_BadPiece)))
    (xL_BadPiece : K.lookup a_BadPiece = some (excClassObj nm_BadPiece q_BadPiece a_BadPiece N_BadPiece bs_BadPiece [.ref a_LotError, .type "ValueError", .type "Exception", .type "BaseException", .type "object"] true sn_BadPiece sub_BadPiece ab_BadPiece col_BadPiece dd_BadPiece m0_BadPiece m1_BadPiece m2_BadPiece m3_BadPiece m5_BadPiece "ValueError.__new__"))
    (sa_BadPiece : PySem.W.findIn K (.ref a_BadPiece) "__setattr__" = some (some (.builtin "object.__setattr__")))
    (ga_BadPiece : PySem.W.findIn K (.ref a_BadPiece) "__getattribute__" = some (some (.builtin "BaseException.__getattribute__")))
    (gg_BadPiece : PySem.W.findIn K (.ref a_BadPiece) "__getattr__" = some none)
    (gi_BadPiece : PySem.W.findIn K (.ref a_BadPiece) "__init__" = some (some (.ref a_BadPiece_init)))
    (ti_BadPiece : PySem.W.typeIn K (.ref a_BadPiece_init) = some (.type "function"))
    (l_BadPiece_init : K.lookup a_BadPiece_init = some ⟨oc_BadPiece_init, od_BadPiece_init, .func (PySem.W.fnOf "__init__" "BadPiece.__init__" (defArgs st_BadPiece_init) (defBody st_BadPiece_init) (defScope st_BadPiece_init) .none kV_BadPiece_init dc_BadPiece_init pm_BadPiece_init an_BadPiece_init cd_BadPiece_init ct_BadPiece_init), sl_BadPiece_init⟩)
    (c_BadPiece_init : PySem.W.codeIn K cd_BadPiece_init "BadPiece.__init__" = true)
    (k_BadPiece_init : PySem.W.keepIn K (.ref a_BadPiece_init) = true)
    (kC_BadPiece : PySem.W.keepIn K (.ref a_BadPiece) = true)
    (eC_BadPiece : PySem.W.subIn K (.ref a_BadPiece) (.type "BaseException") = some true)
    (tC_BadPiece : PySem.W.typeIn K (.ref a_BadPiece) = some (.type "type"))
    (hC_BadPiece : PySem.W.hasDictIn K a_BadPiece = true)
    (g_BadArrow : PySem.W.nsIn K mainGlobals "BadArrow" = some (some (.ref a_BadArrow)))
    (xL_BadArrow : K.lookup a_BadArrow = some (excClassObj nm_BadArrow q_BadArrow a_BadArrow N_BadArrow bs_BadArrow [.ref a_LotError, .type "ValueError", .type "Exception", .type "BaseException", .type "object"] true sn_BadArrow sub_BadArrow ab_BadArrow col_BadArrow dd_BadArrow m0_BadArrow m1_BadArrow m2_BadArrow m3_BadArrow m5_BadArrow "ValueError.__new__"))
    (sa_BadArrow : PySem.W.findIn K (.ref a_BadArrow) "__setattr__" = some (some (.builtin "object.__setattr__")))
    (ga_BadArrow : PySem.W.findIn K (.ref a_BadArrow) "__getattribute__" = some (some (.builtin "BaseException.__getattribute__")))
    (gg_BadArrow : PySem.W.findIn K (.ref a_BadArrow) "__getattr__" = some none)
    (nf_BadArrow : PySem.W.findIn K (.ref a_BadArrow) "index" = some none)
    (gi_BadArrow : PySem.W.findIn K (.ref a_BadArrow) "__init__" = some (some (.ref a_BadArrow_init)))
    (ti_BadArrow : PySem.W.typeIn K (.ref a_BadArrow_init) = some (.type "function"))
    (l_BadArrow_init : K.lookup a_BadArrow_init = some ⟨oc_BadArrow_init, od_BadArrow_init, .func (PySem.W.fnOf "__init__" "BadArrow.__init__" (defArgs st_BadArrow_init) (defBody st_BadArrow_init) (defScope st_BadArrow_init) .none kV_BadArrow_init dc_BadArrow_init pm_BadArrow_init an_BadArrow_init cd_BadArrow_init ct_BadArrow_init), sl_BadArrow_init⟩)
    (c_BadArrow_init : PySem.W.codeIn K cd_BadArrow_init "BadArrow.__init__" = true)
    (k_BadArrow_init : PySem.W.keepIn K (.ref a_BadArrow_init) = true)
    (kC_BadArrow : PySem.W.keepIn K (.ref a_BadArrow) = true)
    (eC_BadArrow : PySem.W.subIn K (.ref a_BadArrow) (.type "BaseException") = some true)
    (tC_BadArrow : PySem.W.typeIn K (.ref a_BadArrow) = some (.type "type"))
    (hC_BadArrow : PySem.W.hasDictIn K a_BadArrow = true)
    (g_BadWave : PySem.W.nsIn K mainGlobals "BadWave" = some (some (.ref a_BadWave)))
    (xL_BadWave : K.lookup a_BadWave = some (excClassObj nm_BadWave q_BadWave a_BadWave N_BadWave bs_BadWave [.ref a_LotError, .type "ValueError", .type "Exception", .type "BaseException", .type "object"] true sn_BadWave sub_BadWave ab_BadWave col_BadWave dd_BadWave m0_BadWave m1_BadWave m2_BadWave m3_BadWave m5_BadWave "ValueError.__new__"))
    (sa_BadWave : PySem.W.findIn K (.ref a_BadWave) "__setattr__" = some (some (.builtin "object.__setattr__")))
    (ga_BadWave : PySem.W.findIn K (.ref a_BadWave) "__getattribute__" = some (some (.builtin "BaseException.__getattribute__")))
    (gg_BadWave : PySem.W.findIn K (.ref a_BadWave) "__getattr__" = some none)
    (gi_BadWave : PySem.W.findIn K (.ref a_BadWave) "__init__" = some (some (.ref a_BadWave_init)))
    (ti_BadWave : PySem.W.typeIn K (.ref a_BadWave_init) = some (.type "function"))
    (l_BadWave_init : K.lookup a_BadWave_init = some ⟨oc_BadWave_init, od_BadWave_init, .func (PySem.W.fnOf "__init__" "BadWave.__init__" (defArgs st_BadWave_init) (defBody st_BadWave_init) (defScope st_BadWave_init) .none kV_BadWave_init dc_BadWave_init pm_BadWave_init an_BadWave_init cd_BadWave_init ct_BadWave_init), sl_BadWave_init⟩)
    (c_BadWave_init : PySem.W.codeIn K cd_BadWave_init "BadWave.__init__" = true)
    (k_BadWave_init : PySem.W.keepIn K (.ref a_BadWave_init) = true)
    (kC_BadWave : PySem.W.keepIn K (.ref a_BadWave) = true)
    (eC_BadWave : PySem.W.subIn K (.ref a_BadWave) (.type "BaseException") = some true)
    (tC_BadWave : PySem.W.typeIn K (.ref a_BadWave) = some (.type "type"))
    (hC_BadWave : PySem.W.hasDictIn K a_BadWave = true)
    (g_BadText : PySem.W.nsIn K mainGlobals "BadText" = some (some (.ref a_BadText)))
    (xL_BadText : K.lookup a_BadText = some (excClassObj nm_BadText q_BadText a_BadText N_BadText bs_BadText [.ref a_LotError, .type "ValueError", .type "Exception", .type "BaseException", .type "object"] true sn_BadText sub_BadText ab_BadText col_BadText dd_BadText m0_BadText m1_BadText m2_BadText m3_BadText m5_BadText "ValueError.__new__"))
    (sa_BadText : PySem.W.findIn K (.ref a_BadText) "__setattr__" = some (some (.builtin "object.__setattr__")))
    (ga_BadText : PySem.W.findIn K (.ref a_BadText) "__getattribute__" = some (some (.builtin "BaseException.__getattribute__")))
    (gg_BadText : PySem.W.findIn K (.ref a_BadText) "__getattr__" = some none)
    (nf_BadText : PySem.W.findIn K (.ref a_BadText) "line" = some none)
    (gi_BadText : PySem.W.findIn K (.ref a_BadText) "__init__" = some (some (.ref a_BadText_init)))
    (ti_BadText : PySem.W.typeIn K (.ref a_BadText_init) = some (.type "function"))
    (l_BadText_init : K.lookup a_BadText_init = some ⟨oc_BadText_init, od_BadText_init, .func (PySem.W.fnOf "__init__" "BadText.__init__" (defArgs st_BadText_init) (defBody st_BadText_init) (defScope st_BadText_init) .none kV_BadText_init dc_BadText_init pm_BadText_init an_BadText_init cd_BadText_init ct_BadText_init), sl_BadText_init⟩)
    (c_BadText_init : PySem.W.codeIn K cd_BadText_init "BadText.__init__" = true)
    (k_BadText_init : PySem.W.keepIn K (.ref a_BadText_init) = true)
    (kC_BadText : PySem.W.keepIn K (.ref a_BadText) = true)
    (eC_BadText : PySem.W.subIn K (.ref a_BadText) (.type "BaseException") = some true)
    (tC_BadText : PySem.W.typeIn K (.ref a_BadText) = some (.type "type"))
    (hC_BadText : PySem.W.hasDictIn K a_BadText = true)
    (x_LotError : PySem.W.excIn K a_LotError [.type "ValueError", .type "Exception", .type "BaseException", .type "object"] "ValueError.__new__" = true)
    (k_LotError : PySem.W.keepIn K (.ref a_LotError) = true)
    (ezb : (([("BadWeb", a_BadWeb), ("UnknownCell", a_UnknownCell), ("BadProgram", a_BadProgram), ("BadNumber", a_BadNumber), ("BadRules", a_BadRules), ("BadWorth", a_BadWorth), ("BadName", a_BadName), ("Held", a_Held), ("NotHeld", a_NotHeld), ("BadDeed", a_BadDeed), ("Taken", a_Taken), ("Used", a_Used), ("NoDeed", a_NoDeed), ("BadTable", a_BadTable), ("Ringed", a_Ringed), ("TooFew", a_TooFew), ("NotSweep", a_NotSweep), ("BadMarks", a_BadMarks), ("MarkRing", a_MarkRing), ("NoSuch", a_NoSuch), ("Unlike", a_Unlike), ("BadCells", a_BadCells), ("BadActs", a_BadActs), ("NoLot", a_NoLot), ("BadPiece", a_BadPiece), ("BadArrow", a_BadArrow), ("BadWave", a_BadWave), ("BadText", a_BadText), ("LotError", a_LotError)] : List (Str × Addr)).all fun p => excB K p.2) = true)
    (ixb : kitB K [("BadWeb", a_BadWeb), ("UnknownCell", a_UnknownCell), ("BadProgram", a_BadProgram), ("BadNumber", a_BadNumber), ("BadRules", a_BadRules), ("BadWorth", a_BadWorth), ("BadName", a_BadName), ("Held", a_Held), ("NotHeld", a_NotHeld), ("BadDeed", a_BadDeed), ("Taken", a_Taken), ("Used", a_Used), ("NoDeed", a_NoDeed), ("BadTable", a_BadTable), ("Ringed", a_Ringed), ("TooFew", a_TooFew), ("NotSweep", a_NotSweep), ("BadMarks", a_BadMarks), ("MarkRing", a_MarkRing), ("NoSuch", a_NoSuch), ("Unlike", a_Unlike), ("BadCells", a_BadCells), ("BadActs", a_BadActs), ("NoLot", a_NoLot), ("BadPiece", a_BadPiece), ("BadArrow", a_BadArrow), ("BadWave", a_BadWave), ("BadText", a_BadText), ("LotError", a_LotError)] = true)
    (ivb : kivB K [("BadWeb", a_BadWeb), ("UnknownCell", a_UnknownCell), ("BadProgram", a_BadProgram), ("BadNumber", a_BadNumber), ("BadRules", a_BadRules), ("BadWorth", a_BadWorth), ("BadName", a_BadName), ("Held", a_Held), ("NotHeld", a_NotHeld), ("BadDeed", a_BadDeed), ("Taken", a_Taken), ("Used", a_Used), ("NoDeed", a_NoDeed), ("BadTable", a_BadTable), ("Ringed", a_Ringed), ("TooFew", a_TooFew), ("NotSweep", a_NotSweep), ("BadMarks", a_BadMarks), ("MarkRing", a_MarkRing), ("NoSuch", a_NoSuch), ("Unlike", a_Unlike), ("BadCells", a_BadCells), ("BadActs", a_BadActs), ("NoLot", a_NoLot), ("BadPiece", a_BadPiece), ("BadArrow", a_BadArrow), ("BadWave", a_BadWave), ("BadText", a_BadText), ("LotError", a_LotError)] = true)
    (z_ValueError : PySem.W.nsIn K mainGlobals "ValueError" = some none)
    (z_all : PySem.W.nsIn K mainGlobals "all" = some none)
    (z_any : PySem.W.nsIn K mainGlobals "any" = some none)
    (z_bool : PySem.W.nsIn K mainGlobals "bool" = some none)
    (z_int : PySem.W.nsIn K mainGlobals "int" = some none)
    (z_isinstance : PySem.W.nsIn K mainGlobals "isinstance" = some none)
    (z_len : PySem.W.nsIn K mainGlobals "len" = some none)
    (z_range : PySem.W.nsIn K mainGlobals "range" = some none)
    : ∃ fd : FuncData, (∀ (s : Shared) (v : Value), BindsTo s fd ⟨[v], []⟩ [("_law_script", v)]) ∧ ∀ base : Heap, K.In base → base.Ns mainGlobals mg → FnOk l.prog w K mg base (L2.CX l.prog w) 4 fa fd ["_law_script"] (spLaw K) := by
  obtain ⟨T, e1, e2⟩ := tx_mk X G g__law_pool l__law_pool c__law_pool k__law_pool g__law_cell l__law_cell c__law_cell k__law_cell g__law_take l__law_take c__law_take k__law_take g__law_thing l__law_thing c__law_thing k__law_thing g__law_by_name l__law_by_name c__law_by_name k__law_by_name g__law_by_place l__law_by_place c__law_by_place k__law_by_place g__law_held l__law_held c__law_held k__law_held g__law_is_same l__law_is_same c__law_is_same k__law_is_same g__law_others l__law_others c__law_others k__law_others g__law_classes l__law_classes c__law_classes k__law_classes g_law l_law c_law k_law g_LotError rd_LotError fc_LotError sp_LotError g_BadWeb xL_BadWeb sa_BadWeb ga_BadWeb gg_BadWeb nf_BadWeb gi_BadWeb ti_BadWeb l_BadWeb_init c_BadWeb_init k_BadWeb_init kC_BadWeb eC_BadWeb tC_BadWeb hC_BadWeb g_UnknownCell xL_UnknownCell sa_UnknownCell ga_UnknownCell gg_UnknownCell nf_UnknownCell gi_UnknownCell ti_UnknownCell l_UnknownCell_init c_UnknownCell_init k_UnknownCell_init kC_UnknownCell eC_UnknownCell tC_UnknownCell hC_UnknownCell g_BadProgram xL_BadProgram sa_BadProgram ga_BadProgram gg_BadProgram nf_BadProgram gi_BadProgram ti_BadProgram l_BadProgram_init c_BadProgram_init k_BadProgram_init kC_BadProgram eC_BadProgram tC_BadProgram hC_BadProgram g_BadNumber xL_BadNumber sa_BadNumber ga_BadNumber gg_BadNumber nf_BadNumber gi_BadNumber ti_BadNumber l_BadNumber_init c_BadNumber_init k_BadNumber_init kC_BadNumber eC_BadNumber tC_BadNumber hC_BadNumber g_BadRules xL_BadRules sa_BadRules ga_BadRules gg_BadRules nf_BadRules gi_BadRules ti_BadRules l_BadRules_init c_BadRules_init k_BadRules_init kC_BadRules eC_BadRules tC_BadRules hC_BadRules g_BadWorth xL_BadWorth sa_BadWorth ga_BadWorth gg_BadWorth nf_BadWorth gi_BadWorth ti_BadWorth l_BadWorth_init c_BadWorth_init k_BadWorth_init kC_BadWorth eC_BadWorth tC_BadWorth hC_BadWorth g_BadName xL_BadName sa_BadName ga_BadName gg_BadName nf_BadName gi_BadName ti_BadName l_BadName_init c_BadName_init k_BadName_init kC_BadName eC_BadName tC_BadName hC_BadName g_Held xL_Held sa_Held ga_Held gg_Held nf_Held gi_Held ti_Held l_Held_init c_Held_init k_Held_init kC_Held eC_Held tC_Held hC_Held g_NotHeld xL_NotHeld sa_NotHeld ga_NotHeld gg_NotHeld nf_NotHeld gi_NotHeld ti_NotHeld l_NotHeld_init c_NotHeld_init k_NotHeld_init kC_NotHeld eC_NotHeld tC_NotHeld hC_NotHeld g_BadDeed xL_BadDeed sa_BadDeed ga_BadDeed gg_BadDeed nf_BadDeed gi_BadDeed ti_BadDeed l_BadDeed_init c_BadDeed_init k_BadDeed_init kC_BadDeed eC_BadDeed tC_BadDeed hC_BadDeed g_Taken xL_Taken sa_Taken ga_Taken gg_Taken nf_Taken gi_Taken ti_Taken l_Taken_init c_Taken_init k_Taken_init kC_Taken eC_Taken tC_Taken hC_Taken g_Used xL_Used sa_Used ga_Used gg_Used nf_Used gi_Used ti_Used l_Used_init c_Used_init k_Used_init kC_Used eC_Used tC_Used hC_Used g_NoDeed xL_NoDeed sa_NoDeed ga_NoDeed gg_NoDeed gi_NoDeed ti_NoDeed l_NoDeed_init c_NoDeed_init k_NoDeed_init kC_NoDeed eC_NoDeed tC_NoDeed hC_NoDeed g_BadTable xL_BadTable sa_BadTable ga_BadTable gg_BadTable gi_BadTable ti_BadTable l_BadTable_init c_BadTable_init k_BadTable_init kC_BadTable eC_BadTable tC_BadTable hC_BadTable g_Ringed xL_Ringed sa_Ringed ga_Ringed gg_Ringed nf_Ringed gi_Ringed ti_Ringed l_Ringed_init c_Ringed_init k_Ringed_init kC_Ringed eC_Ringed tC_Ringed hC_Ringed g_TooFew xL_TooFew sa_TooFew ga_TooFew gg_TooFew nf_TooFew gi_TooFew ti_TooFew l_TooFew_init c_TooFew_init k_TooFew_init kC_TooFew eC_TooFew tC_TooFew hC_TooFew g_NotSweep xL_NotSweep sa_NotSweep ga_NotSweep gg_NotSweep gi_NotSweep ti_NotSweep l_NotSweep_init c_NotSweep_init k_NotSweep_init kC_NotSweep eC_NotSweep tC_NotSweep hC_NotSweep g_BadMarks xL_BadMarks sa_BadMarks ga_BadMarks gg_BadMarks gi_BadMarks ti_BadMarks l_BadMarks_init c_BadMarks_init k_BadMarks_init kC_BadMarks eC_BadMarks tC_BadMarks hC_BadMarks g_MarkRing xL_MarkRing sa_MarkRing ga_MarkRing gg_MarkRing nf_MarkRing gi_MarkRing ti_MarkRing l_MarkRing_init c_MarkRing_init k_MarkRing_init kC_MarkRing eC_MarkRing tC_MarkRing hC_MarkRing g_NoSuch xL_NoSuch sa_NoSuch ga_NoSuch gg_NoSuch nf_NoSuch gi_NoSuch ti_NoSuch l_NoSuch_init c_NoSuch_init k_NoSuch_init kC_NoSuch eC_NoSuch tC_NoSuch hC_NoSuch g_Unlike xL_Unlike sa_Unlike ga_Unlike gg_Unlike gi_Unlike ti_Unlike l_Unlike_init c_Unlike_init k_Unlike_init kC_Unlike eC_Unlike tC_Unlike hC_Unlike g_BadCells xL_BadCells sa_BadCells ga_BadCells gg_BadCells gi_BadCells ti_BadCells l_BadCells_init c_BadCells_init k_BadCells_init kC_BadCells eC_BadCells tC_BadCells hC_BadCells g_BadActs xL_BadActs sa_BadActs ga_BadActs gg_BadActs nf_BadActs gi_BadActs ti_BadActs l_BadActs_init c_BadActs_init k_BadActs_init kC_BadActs eC_BadActs tC_BadActs hC_BadActs g_NoLot xL_NoLot sa_NoLot ga_NoLot gg_NoLot nf_NoLot gi_NoLot ti_NoLot l_NoLot_init c_NoLot_init k_NoLot_init kC_NoLot eC_NoLot tC_NoLot hC_NoLot g_BadPiece xL_BadPiece sa_BadPiece ga_BadPiece gg_BadPiece gi_BadPiece ti_BadPiece l_BadPiece_init c_BadPiece_init k_BadPiece_init kC_BadPiece eC_BadPiece tC_BadPiece hC_BadPiece g_BadArrow xL_BadArrow sa_BadArrow ga_BadArrow gg_BadArrow nf_BadArrow gi_BadArrow ti_BadArrow l_BadArrow_init c_BadArrow_init k_BadArrow_init kC_BadArrow eC_BadArrow tC_BadArrow hC_BadArrow g_BadWave xL_BadWave sa_BadWave ga_BadWave gg_BadWave gi_BadWave ti_BadWave l_BadWave_init c_BadWave_init k_BadWave_init kC_BadWave eC_BadWave tC_BadWave hC_BadWave g_BadText xL_BadText sa_BadText ga_BadText gg_BadText nf_BadText gi_BadText ti_BadText l_BadText_init c_BadText_init k_BadText_init kC_BadText eC_BadText tC_BadText hC_BadText x_LotError k_LotError ezb ixb ivb z_ValueError z_all z_any z_bool z_int z_isinstance z_len z_range
  exact fin_law ⟨T, e1.trans (mg_same X G hfa g_law), e2⟩
end G01
open PySem PySem.W PyProof.Rows
set_option maxRecDepth 100000 in
set_option maxHeartbeats 0 in
theorem PySem.Challenge.cw_lotmarks_k01_errors_made_holds : PySem.Challenge.rw_lotmarks_k01_errors_made.Holds := by
  w_on; o_law; k_head; (case hw => w_witness2)
  k_fill
  refine G01.walk (l := PySem.Challenge.rw_lotmarks_k01_errors_made) rfl rfl (fun w h Y => PySem.W.kIn_of Y) ?F
  case F =>
    intro w mg fa h KX G hmg
    refine' G01.all_mk KX G hmg ?g__law_pool ?l__law_pool ?c__law_pool ?k__law_pool ?g__law_cell ?l__law_cell ?c__law_cell ?k__law_cell ?g__law_take ?l__law_take ?c__law_take ?k__law_take ?g__law_thing ?l__law_thing ?c__law_thing ?k__law_thing ?g__law_by_name ?l__law_by_name ?c__law_by_name ?k__law_by_name ?g__law_by_place ?l__law_by_place ?c__law_by_place ?k__law_by_place ?g__law_held ?l__law_held ?c__law_held ?k__law_held ?g__law_is_same ?l__law_is_same ?c__law_is_same ?k__law_is_same ?g__law_others ?l__law_others ?c__law_others ?k__law_others ?g__law_classes ?l__law_classes ?c__law_classes ?k__law_classes ?g_law ?l_law ?c_law ?k_law ?g_LotError ?rd_LotError ?fc_LotError ?sp_LotError ?g_BadWeb ?xL_BadWeb ?sa_BadWeb ?ga_BadWeb ?gg_BadWeb ?nf_BadWeb ?gi_BadWeb ?ti_BadWeb ?l_BadWeb_init ?c_BadWeb_init ?k_BadWeb_init ?kC_BadWeb ?eC_BadWeb ?tC_BadWeb ?hC_BadWeb ?g_UnknownCell ?xL_UnknownCell ?sa_UnknownCell ?ga_UnknownCell ?gg_UnknownCell ?nf_UnknownCell ?gi_UnknownCell ?ti_UnknownCell ?l_UnknownCell_init ?c_UnknownCell_init ?k_UnknownCell_init ?kC_UnknownCell ?eC_UnknownCell ?tC_UnknownCell ?hC_UnknownCell ?g_BadProgram ?xL_BadProgram ?sa_BadProgram ?ga_BadProgram ?gg_BadProgram ?nf_BadProgram ?gi_BadProgram ?ti_BadProgram ?l_BadProgram_init ?c_BadProgram_init ?k_BadProgram_init ?kC_BadProgram ?eC_BadProgram ?tC_BadProgram ?hC_BadProgram ?g_BadNumber ?xL_BadNumber ?sa_BadNumber ?ga_BadNumber ?gg_BadNumber ?nf_BadNumber ?gi_BadNumber ?ti_BadNumber ?l_BadNumber_init ?c_BadNumber_init ?k_BadNumber_init ?kC_BadNumber ?eC_BadNumber ?tC_BadNumber ?hC_BadNumber ?g_BadRules ?xL_BadRules ?sa_BadRules ?ga_BadRules ?gg_BadRules ?nf_BadRules ?gi_BadRules ?ti_BadRules ?l_BadRules_init ?c_BadRules_init ?k_BadRules_init ?kC_BadRules ?eC_BadRules ?tC_BadRules ?hC_BadRules ?g_BadWorth ?xL_BadWorth ?sa_BadWorth ?ga_BadWorth ?gg_BadWorth ?nf_BadWorth ?gi_BadWorth ?ti_BadWorth ?l_BadWorth_init ?c_BadWorth_init ?k_BadWorth_init ?kC_BadWorth ?eC_BadWorth ?tC_BadWorth ?hC_BadWorth ?g_BadName ?xL_BadName ?sa_BadName ?ga_BadName ?gg_BadName ?nf_BadName ?gi_BadName ?ti_BadName ?l_BadName_init ?c_BadName_init ?k_BadName_init ?kC_BadName ?eC_BadName ?tC_BadName ?hC_BadName ?g_Held ?xL_Held ?sa_Held ?ga_Held ?gg_Held ?nf_Held ?gi_Held ?ti_Held ?l_Held_init ?c_Held_init ?k_Held_init ?kC_Held ?eC_Held ?tC_Held ?hC_Held ?g_NotHeld ?xL_NotHeld ?sa_NotHeld ?ga_NotHeld ?gg_NotHeld ?nf_NotHeld ?gi_NotHeld ?ti_NotHeld ?l_NotHeld_init ?c_NotHeld_init ?k_NotHeld_init ?kC_NotHeld ?eC_NotHeld ?tC_NotHeld ?hC_NotHeld ?g_BadDeed ?xL_BadDeed ?sa_BadDeed ?ga_BadDeed ?gg_BadDeed ?nf_BadDeed ?gi_BadDeed ?ti_BadDeed ?l_BadDeed_init ?c_BadDeed_init ?k_BadDeed_init ?kC_BadDeed ?eC_BadDeed ?tC_BadDeed ?hC_BadDeed ?g_Taken ?xL_Taken ?sa_Taken ?ga_Taken ?gg_Taken ?nf_Taken ?gi_Taken ?ti_Taken ?l_Taken_init ?c_Taken_init ?k_Taken_init ?kC_Taken ?eC_Taken ?tC_Taken ?hC_Taken ?g_Used ?xL_Used ?sa_Used ?ga_Used ?gg_Used ?nf_Used ?gi_Used ?ti_Used ?l_Used_init ?c_Used_init ?k_Used_init ?kC_Used ?eC_Used ?tC_Used ?hC_Used ?g_NoDeed ?xL_NoDeed ?sa_NoDeed ?ga_NoDeed ?gg_NoDeed ?gi_NoDeed ?ti_NoDeed ?l_NoDeed_init ?c_NoDeed_init ?k_NoDeed_init ?kC_NoDeed ?eC_NoDeed ?tC_NoDeed ?hC_NoDeed ?g_BadTable ?xL_BadTable ?sa_BadTable ?ga_BadTable ?gg_BadTable ?gi_BadTable ?ti_BadTable ?l_BadTable_init ?c_BadTable_init ?k_BadTable_init ?kC_BadTable ?eC_BadTable ?tC_BadTable ?hC_BadTable ?g_Ringed ?xL_Ringed ?sa_Ringed ?ga_Ringed ?gg_Ringed ?nf_Ringed ?gi_Ringed ?ti_Ringed ?l_Ringed_init ?c_Ringed_init ?k_Ringed_init ?kC_Ringed ?eC_Ringed ?tC_Ringed ?hC_Ringed ?g_TooFew ?xL_TooFew ?sa_TooFew ?ga_TooFew ?gg_TooFew ?nf_TooFew ?gi_TooFew ?ti_TooFew ?l_TooFew_init ?c_TooFew_init ?k_TooFew_init ?kC_TooFew ?eC_TooFew ?tC_TooFew ?hC_TooFew ?g_NotSweep ?xL_NotSweep ?sa_NotSweep ?ga_NotSweep ?gg_NotSweep ?gi_NotSweep ?ti_NotSweep ?l_NotSweep_init ?c_NotSweep_init ?k_NotSweep_init ?kC_NotSweep ?eC_NotSweep ?tC_NotSweep ?hC_NotSweep ?g_BadMarks ?xL_BadMarks ?sa_BadMarks ?ga_BadMarks ?gg_BadMarks ?gi_BadMarks ?ti_BadMarks ?l_BadMarks_init ?c_BadMarks_init ?k_BadMarks_init ?kC_BadMarks ?eC_BadMarks ?tC_BadMarks ?hC_BadMarks ?g_MarkRing ?xL_MarkRing ?sa_MarkRing ?ga_MarkRing ?gg_MarkRing ?nf_MarkRing ?gi_MarkRing ?ti_MarkRing ?l_MarkRing_init ?c_MarkRing_init ?k_MarkRing_init ?kC_MarkRing ?eC_MarkRing ?tC_MarkRing ?hC_MarkRing ?g_NoSuch ?xL_NoSuch ?sa_NoSuch ?ga_NoSuch ?gg_NoSuch ?nf_NoSuch ?gi_NoSuch ?ti_NoSuch ?l_NoSuch_init ?c_NoSuch_init ?k_NoSuch_init ?kC_NoSuch ?eC_NoSuch ?tC_NoSuch ?hC_NoSuch ?g_Unlike ?xL_Unlike ?sa_Unlike ?ga_Unlike ?gg_Unlike ?gi_Unlike ?ti_Unlike ?l_Unlike_init ?c_Unlike_init ?k_Unlike_init ?kC_Unlike ?eC_Unlike ?tC_Unlike ?hC_Unlike ?g_BadCells ?xL_BadCells ?sa_BadCells ?ga_BadCells ?gg_BadCells ?gi_BadCells ?ti_BadCells ?l_BadCells_init ?c_BadCells_init ?k_BadCells_init ?kC_BadCells ?eC_BadCells ?tC_BadCells ?hC_BadCells ?g_BadActs ?xL_BadActs ?sa_BadActs ?ga_BadActs ?gg_BadActs ?nf_BadActs ?gi_BadActs ?ti_BadActs ?l_BadActs_init ?c_BadActs_init ?k_BadActs_init ?kC_BadActs ?eC_BadActs ?tC_BadActs ?hC_BadActs ?g_NoLot ?xL_NoLot ?sa_NoLot ?ga_NoLot ?gg_NoLot ?nf_NoLot ?gi_NoLot ?ti_NoLot ?l_NoLot_init ?c_NoLot_init ?k_NoLot_init ?kC_NoLot ?eC_NoLot ?tC_NoLot ?hC_NoLot ?g_BadPiece ?xL_BadPiece ?sa_BadPiece ?ga_BadPiece ?gg_BadPiece ?gi_BadPiece ?ti_BadPiece ?l_BadPiece_init ?c_BadPiece_init ?k_BadPiece_init ?kC_BadPiece ?eC_BadPiece ?tC_BadPiece ?hC_BadPiece ?g_BadArrow ?xL_BadArrow ?sa_BadArrow ?ga_BadArrow ?gg_BadArrow ?nf_BadArrow ?gi_BadArrow ?ti_BadArrow ?l_BadArrow_init ?c_BadArrow_init ?k_BadArrow_init ?kC_BadArrow ?eC_BadArrow ?tC_BadArrow ?hC_BadArrow ?g_BadWave ?xL_BadWave ?sa_BadWave ?ga_BadWave ?gg_BadWave ?gi_BadWave ?ti_BadWave ?l_BadWave_init ?c_BadWave_init ?k_BadWave_init ?kC_BadWave ?eC_BadWave ?tC_BadWave ?hC_BadWave ?g_BadText ?xL_BadText ?sa_BadText ?ga_BadText ?gg_BadText ?nf_BadText ?gi_BadText ?ti_BadText ?l_BadText_init ?c_BadText_init ?k_BadText_init ?kC_BadText ?eC_BadText ?tC_BadText ?hC_BadText ?x_LotError ?k_LotError ?ezb ?ixb ?ivb ?z_ValueError ?z_all ?z_any ?z_bool ?z_int ?z_isinstance ?z_len ?z_range
    (case g__law_pool => k_is)
    (case l__law_pool => k_is)
    (case c__law_pool => k_is)
    (case k__law_pool => k_is)
    (case g__law_cell => k_is)
    (case l__law_cell => k_is)
    (case c__law_cell => k_is)
    (case k__law_cell => k_is)
    (case g__law_take => k_is)
    (case l__law_take => k_is)
    (case c__law_take => k_is)
    (case k__law_take => k_is)
    (case g__law_thing => k_is)
    (case l__law_thing => k_is)
    (case c__law_thing => k_is)
    (case k__law_thing => k_is)
    (case g__law_by_name => k_is)
    (case l__law_by_name => k_is)
    (case c__law_by_name => k_is)
    (case k__law_by_name => k_is)
    (case g__law_by_place => k_is)
    (case l__law_by_place => k_is)
    (case c__law_by_place => k_is)
    (case k__law_by_place => k_is)
    (case g__law_held => k_is)
    (case l__law_held => k_is)
    (case c__law_held => k_is)
    (case k__law_held => k_is)
    (case g__law_is_same => k_is)
    (case l__law_is_same => k_is)
    (case c__law_is_same => k_is)
    (case k__law_is_same => k_is)
    (case g__law_others => k_is)
    (case l__law_others => k_is)
    (case c__law_others => k_is)
    (case k__law_others => k_is)
    (case g__law_classes => k_is)
    (case l__law_classes => k_is)
    (case c__law_classes => k_is)
    (case k__law_classes => k_is)
    (case g_law => k_is)
    (case l_law => k_is)
    (case c_law => k_is)
    (case k_law => k_is)
    (case g_LotError => k_is)
    (case rd_LotError => k_is)
    (case fc_LotError => k_is)
    (case sp_LotError => k_is)
    (case g_BadWeb => k_is)
    (case xL_BadWeb => k_is)
    (case sa_BadWeb => k_is)
    (case ga_BadWeb => k_is)
    (case gg_BadWeb => k_is)
    (case nf_BadWeb => k_is)
    (case gi_BadWeb => k_is)
    (case ti_BadWeb => k_is)
    (case l_BadWeb_init => k_is)
    (case c_BadWeb_init => k_is)
    (case k_BadWeb_init => k_is)
    (case kC_BadWeb => k_is)
    (case eC_BadWeb => k_is)
    (case tC_BadWeb => k_is)
    (case hC_BadWeb => k_is)
    (case g_UnknownCell => k_is)
    (case xL_UnknownCell => k_is)
    (case sa_UnknownCell => k_is)
    (case ga_UnknownCell => k_is)
    (case gg_UnknownCell => k_is)
    (case nf_UnknownCell => k_is)
    (case gi_UnknownCell => k_is)
    (case ti_UnknownCell => k_is)
    (case l_UnknownCell_init => k_is)
    (case c_UnknownCell_init => k_is)
    (case k_UnknownCell_init => k_is)
    (case kC_UnknownCell => k_is)
    (case eC_UnknownCell => k_is)
    (case tC_UnknownCell => k_is)
    (case hC_UnknownCell => k_is)
    (case g_BadProgram => k_is)
    (case xL_BadProgram => k_is)
    (case sa_BadProgram => k_is)
    (case ga_BadProgram => k_is)
    (case gg_BadProgram => k_is)
    (case nf_BadProgram => k_is)
    (case gi_BadProgram => k_is)
    (case ti_BadProgram => k_is)
    (case l_BadProgram_init => k_is)
    (case c_BadProgram_init => k_is)
    (case k_BadProgram_init => k_is)
    (case kC_BadProgram => k_is)
    (case eC_BadProgram => k_is)
    (case tC_BadProgram => k_is)
    (case hC_BadProgram => k_is)
    (case g_BadNumber => k_is)
    (case xL_BadNumber => k_is)
    (case sa_BadNumber => k_is)
    (case ga_BadNumber => k_is)
    (case gg_BadNumber => k_is)
    (case nf_BadNumber => k_is)
    (case gi_BadNumber => k_is)
    (case ti_BadNumber => k_is)
    (case l_BadNumber_init => k_is)
    (case c_BadNumber_init => k_is)
    (case k_BadNumber_init => k_is)
    (case kC_BadNumber => k_is)
    (case eC_BadNumber => k_is)
    (case tC_BadNumber => k_is)
    (case hC_BadNumber => k_is)
    (case g_BadRules => k_is)
    (case xL_BadRules => k_is)
    (case sa_BadRules => k_is)
    (case ga_BadRules => k_is)
    (case gg_BadRules => k_is)
    (case nf_BadRules => k_is)
    (case gi_BadRules => k_is)
    (case ti_BadRules => k_is)
    (case l_BadRules_init => k_is)
    (case c_BadRules_init => k_is)
    (case k_BadRules_init => k_is)
    (case kC_BadRules => k_is)
    (case eC_BadRules => k_is)
    (case tC_BadRules => k_is)
    (case hC_BadRules => k_is)
    (case g_BadWorth => k_is)
    (case xL_BadWorth => k_is)
    (case sa_BadWorth => k_is)
    (case ga_BadWorth => k_is)
    (case gg_BadWorth => k_is)
    (case nf_BadWorth => k_is)
    (case gi_BadWorth => k_is)
    (case ti_BadWorth => k_is)
    (case l_BadWorth_init => k_is)
    (case c_BadWorth_init => k_is)
    (case k_BadWorth_init => k_is)
    (case kC_BadWorth => k_is)
    (case eC_BadWorth => k_is)
    (case tC_BadWorth => k_is)
    (case hC_BadWorth => k_is)
    (case g_BadName => k_is)
    (case xL_BadName => k_is)
    (case sa_BadName => k_is)
    (case ga_BadName => k_is)
    (case gg_BadName => k_is)
    (case nf_BadName => k_is)
    (case gi_BadName => k_is)
    (case ti_BadName => k_is)
    (case l_BadName_init => k_is)
    (case c_BadName_init => k_is)
    (case k_BadName_init => k_is)
    (case kC_BadName => k_is)
    (case eC_BadName => k_is)
    (case tC_BadName => k_is)
    (case hC_BadName => k_is)
    (case g_Held => k_is)
    (case xL_Held => k_is)
    (case sa_Held => k_is)
    (case ga_Held => k_is)
    (case gg_Held => k_is)
    (case nf_Held => k_is)
    (case gi_Held => k_is)
    (case ti_Held => k_is)
    (case l_Held_init => k_is)
    (case c_Held_init => k_is)
    (case k_Held_init => k_is)
    (case kC_Held => k_is)
    (case eC_Held => k_is)
    (case tC_Held => k_is)
    (case hC_Held => k_is)
    (case g_NotHeld => k_is)
    (case xL_NotHeld => k_is)
    (case sa_NotHeld => k_is)
    (case ga_NotHeld => k_is)
    (case gg_NotHeld => k_is)
    (case nf_NotHeld => k_is)
    (case gi_NotHeld => k_is)
    (case ti_NotHeld => k_is)
    (case l_NotHeld_init => k_is)
    (case c_NotHeld_init => k_is)
    (case k_NotHeld_init => k_is)
    (case kC_NotHeld => k_is)
    (case eC_NotHeld => k_is)
    (case tC_NotHeld => k_is)
    (case hC_NotHeld => k_is)
    (case g_BadDeed => k_is)
    (case xL_BadDeed => k_is)
    (case sa_BadDeed => k_is)
    (case ga_BadDeed => k_is)
    (case gg_BadDeed => k_is)
    (case nf_BadDeed => k_is)
    (case gi_BadDeed => k_is)
    (case ti_BadDeed => k_is)
    (case l_BadDeed_init => k_is)
    (case c_BadDeed_init => k_is)
    (case k_BadDeed_init => k_is)
    (case kC_BadDeed => k_is)
    (case eC_BadDeed => k_is)
    (case tC_BadDeed => k_is)
    (case hC_BadDeed => k_is)
    (case g_Taken => k_is)
    (case xL_Taken => k_is)
    (case sa_Taken => k_is)
    (case ga_Taken => k_is)
    (case gg_Taken => k_is)
    (case nf_Taken => k_is)
    (case gi_Taken => k_is)
    (case ti_Taken => k_is)
    (case l_Taken_init => k_is)
    (case c_Taken_init => k_is)
    (case k_Taken_init => k_is)
    (case kC_Taken => k_is)
    (case eC_Taken => k_is)
    (case tC_Taken => k_is)
    (case hC_Taken => k_is)
    (case g_Used => k_is)
    (case xL_Used => k_is)
    (case sa_Used => k_is)
    (case ga_Used => k_is)
    (case gg_Used => k_is)
    (case nf_Used => k_is)
    (case gi_Used => k_is)
    (case ti_Used => k_is)
    (case l_Used_init => k_is)
    (case c_Used_init => k_is)
    (case k_Used_init => k_is)
    (case kC_Used => k_is)
    (case eC_Used => k_is)
    (case tC_Used => k_is)
    (case hC_Used => k_is)
    (case g_NoDeed => k_is)
    (case xL_NoDeed => k_is)
    (case sa_NoDeed => k_is)
    (case ga_NoDeed => k_is)
    (case gg_NoDeed => k_is)
    (case gi_NoDeed => k_is)
    (case ti_NoDeed => k_is)
    (case l_NoDeed_init => k_is)
    (case c_NoDeed_init => k_is)
    (case k_NoDeed_init => k_is)
    (case kC_NoDeed => k_is)
    (case eC_NoDeed => k_is)
    (case tC_NoDeed => k_is)
    (case hC_NoDeed => k_is)
    (case g_BadTable => k_is)
    (case xL_BadTable => k_is)
    (case sa_BadTable => k_is)
    (case ga_BadTable => k_is)
    (case gg_BadTable => k_is)
    (case gi_BadTable => k_is)
    (case ti_BadTable => k_is)
    (case l_BadTable_init => k_is)
    (case c_BadTable_init => k_is)
    (case k_BadTable_init => k_is)
    (case kC_BadTable => k_is)
    (case eC_BadTable => k_is)
    (case tC_BadTable => k_is)
    (case hC_BadTable => k_is)
    (case g_Ringed => k_is)
    (case xL_Ringed => k_is)
    (case sa_Ringed => k_is)
    (case ga_Ringed => k_is)
    (case gg_Ringed => k_is)
    (case nf_Ringed => k_is)
    (case gi_Ringed => k_is)
    (case ti_Ringed => k_is)
    (case l_Ringed_init => k_is)
    (case c_Ringed_init => k_is)
    (case k_Ringed_init => k_is)
    (case kC_Ringed => k_is)
    (case eC_Ringed => k_is)
    (case tC_Ringed => k_is)
    (case hC_Ringed => k_is)
    (case g_TooFew => k_is)
    (case xL_TooFew => k_is)
    (case sa_TooFew => k_is)
    (case ga_TooFew => k_is)
    (case gg_TooFew => k_is)
    (case nf_TooFew => k_is)
    (case gi_TooFew => k_is)
    (case ti_TooFew => k_is)
    (case l_TooFew_init => k_is)
    (case c_TooFew_init => k_is)
    (case k_TooFew_init => k_is)
    (case kC_TooFew => k_is)
    (case eC_TooFew => k_is)
    (case tC_TooFew => k_is)
    (case hC_TooFew => k_is)
    (case g_NotSweep => k_is)
    (case xL_NotSweep => k_is)
    (case sa_NotSweep => k_is)
    (case ga_NotSweep => k_is)
    (case gg_NotSweep => k_is)
    (case gi_NotSweep => k_is)
    (case ti_NotSweep => k_is)
    (case l_NotSweep_init => k_is)
    (case c_NotSweep_init => k_is)
    (case k_NotSweep_init => k_is)
    (case kC_NotSweep => k_is)
    (case eC_NotSweep => k_is)
    (case tC_NotSweep => k_is)
    (case hC_NotSweep => k_is)
    (case g_BadMarks => k_is)
    (case xL_BadMarks => k_is)
    (case sa_BadMarks => k_is)
    (case ga_BadMarks => k_is)
    (case gg_BadMarks => k_is)
    (case gi_BadMarks => k_is)
    (case ti_BadMarks => k_is)
    (case l_BadMarks_init => k_is)
    (case c_BadMarks_init => k_is)
    (case k_BadMarks_init => k_is)
    (case kC_BadMarks => k_is)
    (case eC_BadMarks => k_is)
    (case tC_BadMarks => k_is)
    (case hC_BadMarks => k_is)
    (case g_MarkRing => k_is)
    (case xL_MarkRing => k_is)
    (case sa_MarkRing => k_is)
    (case ga_MarkRing => k_is)
    (case gg_MarkRing => k_is)
    (case nf_MarkRing => k_is)
    (case gi_MarkRing => k_is)
    (case ti_MarkRing => k_is)
    (case l_MarkRing_init => k_is)
    (case c_MarkRing_init => k_is)
    (case k_MarkRing_init => k_is)
    (case kC_MarkRing => k_is)
    (case eC_MarkRing => k_is)
    (case tC_MarkRing => k_is)
    (case hC_MarkRing => k_is)
    (case g_NoSuch => k_is)
    (case xL_NoSuch => k_is)
    (case sa_NoSuch => k_is)
    (case ga_NoSuch => k_is)
    (case gg_NoSuch => k_is)
    (case nf_NoSuch => k_is)
    (case gi_NoSuch => k_is)
    (case ti_NoSuch => k_is)
    (case l_NoSuch_init => k_is)
    (case c_NoSuch_init => k_is)
    (case k_NoSuch_init => k_is)
    (case kC_NoSuch => k_is)
    (case eC_NoSuch => k_is)
    (case tC_NoSuch => k_is)
    (case hC_NoSuch => k_is)
    (case g_Unlike => k_is)
    (case xL_Unlike => k_is)
    (case sa_Unlike => k_is)
    (case ga_Unlike => k_is)
    (case gg_Unlike => k_is)
    (case gi_Unlike => k_is)
    (case ti_Unlike => k_is)
    (case l_Unlike_init => k_is)
    (case c_Unlike_init => k_is)
    (case k_Unlike_init => k_is)
    (case kC_Unlike => k_is)
    (case eC_Unlike => k_is)
    (case tC_Unlike => k_is)
    (case hC_Unlike => k_is)
    (case g_BadCells => k_is)
    (case xL_BadCells => k_is)
    (case sa_BadCells => k_is)
    (case ga_BadCells => k_is)
    (case gg_BadCells => k_is)
    (case gi_BadCells => k_is)
    (case ti_BadCells => k_is)
    (case l_BadCells_init => k_is)
    (case c_BadCells_init => k_is)
    (case k_BadCells_init => k_is)
    (case kC_BadCells => k_is)
    (case eC_BadCells => k_is)
    (case tC_BadCells => k_is)
    (case hC_BadCells => k_is)
    (case g_BadActs => k_is)
    (case xL_BadActs => k_is)
    (case sa_BadActs => k_is)
    (case ga_BadActs => k_is)
    (case gg_BadActs => k_is)
    (case nf_BadActs => k_is)
    (case gi_BadActs => k_is)
    (case ti_BadActs => k_is)
    (case l_BadActs_init => k_is)
    (case c_BadActs_init => k_is)
    (case k_BadActs_init => k_is)
    (case kC_BadActs => k_is)
    (case eC_BadActs => k_is)
    (case tC_BadActs => k_is)
    (case hC_BadActs => k_is)
    (case g_NoLot => k_is)
    (case xL_NoLot => k_is)
    (case sa_NoLot => k_is)
    (case ga_NoLot => k_is)
    (case gg_NoLot => k_is)
    (case nf_NoLot => k_is)
    (case gi_NoLot => k_is)
    (case ti_NoLot => k_is)
    (case l_NoLot_init => k_is)
    (case c_NoLot_init => k_is)
    (case k_NoLot_init => k_is)
    (case kC_NoLot => k_is)
    (case eC_NoLot => k_is)
    (case tC_NoLot => k_is)
    (case hC_NoLot => k_is)
    (case g_BadPiece => k_is)
    (case xL_BadPiece => k_is)
    (case sa_BadPiece => k_is)
    (case ga_BadPiece => k_is)
    (case gg_BadPiece => k_is)
    (case gi_BadPiece => k_is)
    (case ti_BadPiece => k_is)
    (case l_BadPiece_init => k_is)
    (case c_BadPiece_init => k_is)
    (case k_BadPiece_init => k_is)
    (case kC_BadPiece => k_is)
    (case eC_BadPiece => k_is)
    (case tC_BadPiece => k_is)
    (case hC_BadPiece => k_is)
    (case g_BadArrow => k_is)
    (case xL_BadArrow => k_is)
    (case sa_BadArrow => k_is)
    (case ga_BadArrow => k_is)
    (case gg_BadArrow => k_is)
    (case nf_BadArrow => k_is)
    (case gi_BadArrow => k_is)
    (case ti_BadArrow => k_is)
    (case l_BadArrow_init => k_is)
    (case c_BadArrow_init => k_is)
    (case k_BadArrow_init => k_is)
    (case kC_BadArrow => k_is)
    (case eC_BadArrow => k_is)
    (case tC_BadArrow => k_is)
    (case hC_BadArrow => k_is)
    (case g_BadWave => k_is)
    (case xL_BadWave => k_is)
    (case sa_BadWave => k_is)
    (case ga_BadWave => k_is)
    (case gg_BadWave => k_is)
    (case gi_BadWave => k_is)
    (case ti_BadWave => k_is)
    (case l_BadWave_init => k_is)
    (case c_BadWave_init => k_is)
    (case k_BadWave_init => k_is)
    (case kC_BadWave => k_is)
    (case eC_BadWave => k_is)
    (case tC_BadWave => k_is)
    (case hC_BadWave => k_is)
    (case g_BadText => k_is)
    (case xL_BadText => k_is)
    (case sa_BadText => k_is)
    (case ga_BadText => k_is)
    (case gg_BadText => k_is)
    (case nf_BadText => k_is)
    (case gi_BadText => k_is)
    (case ti_BadText => k_is)
    (case l_BadText_init => k_is)
    (case c_BadText_init => k_is)
    (case k_BadText_init => k_is)
    (case kC_BadText => k_is)
    (case eC_BadText => k_is)
    (case tC_BadText => k_is)
    (case hC_BadText => k_is)
    (case x_LotError => k_exc)
    (case k_LotError => k_is)
    (case ezb => kernel_rfl)
    (case ixb => kernel_rfl)
    (case ivb => kernel_rfl)
    (case z_ValueError => k_is)
    (case z_all => k_is)
    (case z_any => k_is)
    (case z_bool => k_is)
    (case z_int => k_is)
    (case z_isinstance => k_is)
    (case z_len => k_is)
    (case z_range => k_is)
