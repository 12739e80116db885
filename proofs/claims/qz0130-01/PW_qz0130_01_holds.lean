import PyProof.Rows.All
import Wide.All
import OpenK.AllK
import Wide.FinOn
import PyProof.NeKinds
import PyProof.ExcBaseAll.Exception
import PyProof.ExcArgsOwn
import PyProof.ExcAttrAll.Exception
import PyProof.InstStoreFacts
import PySem.Challenge.RW_qz0130_01
open PySem PySem.W PySem.Calls PyProof.Rows PySem.Spec
set_option Elab.async false
set_option linter.all false
set_option compiler.extract_closed false
set_option maxRecDepth 100000
set_option maxHeartbeats 0
set_option rowWalk.seconds 0
namespace Mine
section
theorem ph0 {l : OpenLaw} (t : l.Holds) (_ : l.row.Holds) : l.Holds := t
theorem ph1 {l : OpenLaw} (t : l.Holds) : l.row.Holds := t.2
local macro_rules | `(tactic| w_on) => `(tactic| skip)
local macro_rules | `(tactic| o_law) => `(tactic| refine (fun (t : OpenLaw.Holds _) => Mine.ph0 t ?_) ?hc9)
local macro_rules | `(tactic| o_head $_) => `(tactic| refine (fun (_ : True) => Mine.ph1 (by assumption)) ?hw)
local macro_rules | `(tactic| w_witness2) => `(tactic| exact True.intro)
open_top hd for PySem.Challenge.rw_qz0130_01
end
end Mine
section
namespace Mine
section
section
variable {a b c d e f g h p : Addr × Obj} {r l k : List (Addr × Obj)}
theorem mem0 : List.Mem p (p :: r) := .head _
theorem mem1 : List.Mem p (a :: p :: r) := .tail _ mem0
theorem mem2 : List.Mem p (a :: b :: p :: r) := .tail _ mem1
theorem mem3 : List.Mem p (a :: b :: c :: p :: r) := .tail _ mem2
theorem mem4 : List.Mem p (a :: b :: c :: d :: p :: r) := .tail _ mem3
theorem mem5 : List.Mem p (a :: b :: c :: d :: e :: p :: r) := .tail _ mem4
theorem mem6 : List.Mem p (a :: b :: c :: d :: e :: f :: p :: r) := .tail _ mem5
theorem mem7 : List.Mem p (a :: b :: c :: d :: e :: f :: g :: p :: r) := .tail _ mem6
theorem memt8 (m : List.Mem p r) : List.Mem p (a :: b :: c :: d :: e :: f :: g :: h :: r) := .tail _ (.tail _ (.tail _ (.tail _ (.tail _ (.tail _ (.tail _ (.tail _ m)))))))
theorem in0 : ∀ p ∈ ([] : List (Addr × Obj)), p ∈ k := fun _ h => (List.not_mem_nil h).elim
theorem in1 (h : a ∈ k) (q : ∀ p ∈ l, p ∈ k) : ∀ p ∈ a :: l, p ∈ k := fun p hp => by
  rcases List.mem_cons.mp hp with rfl | hp
  · exact h
  · exact q p hp
theorem in4 (ha : a ∈ k) (hb : b ∈ k) (hc : c ∈ k) (hd : d ∈ k) (q : ∀ p ∈ l, p ∈ k) : ∀ p ∈ a :: b :: c :: d :: l, p ∈ k := in1 ha (in1 hb (in1 hc (in1 hd q)))
theorem in_refl : ∀ p ∈ l, p ∈ l := fun _ h => h
theorem in_drop (q : ∀ p ∈ l, p ∈ k) : ∀ p ∈ l, p ∈ a :: k := fun p h => .tail _ (q p h)
theorem ne1 {x : Addr} (h : a.1 ≠ x) (q : ∀ p ∈ l, p.1 ≠ x) : ∀ p ∈ a :: l, p.1 ≠ x := fun p hp => by
  rcases List.mem_cons.mp hp with rfl | hp
  · exact h
  · exact q p hp
theorem ne0 {x : Addr} : ∀ p ∈ ([] : List (Addr × Obj)), p.1 ≠ x := fun _ h => (List.not_mem_nil h).elim
theorem le1 {x : Addr} (h : @LE.le Nat _ a.1 x) (q : ∀ p ∈ l, @LE.le Nat _ p.1 x) : ∀ p ∈ a :: l, @LE.le Nat _ p.1 x := fun p hp => by
  rcases List.mem_cons.mp hp with rfl | hp
  · exact h
  · exact q p hp
theorem le0 {x : Addr} : ∀ p ∈ ([] : List (Addr × Obj)), @LE.le Nat _ p.1 x := fun _ h => (List.not_mem_nil h).elim
end
end
section
section
variable {prog : Program} {w : World} {K : Type} [DecidableEq K] {knd : KeyKind prog w K} {A : Around} {E : Value → Shared → Prop} {s : Shared}

def PairKey (knd : KeyKind prog w K) (h : Heap) (k : K × List K) (a : Addr) : Prop :=
  ∃ o items n v b, h.get? a = some o ∧ o.cls = .type "tuple" ∧ o.data = .seq items n ∧ items.toList = [v, .ref b] ∧ knd.is k.1 v = true ∧ IsTupleKey knd h k.2 b

theorem PairKey.typeIs {k : K × List K} {a : Addr} (x : PairKey knd s.heap k a) : s.TypeIs (.ref a) "tuple" := let ⟨o, _, _, _, _, ho, hc, _⟩ := x; ⟨o, ho, hc⟩

theorem PairKey.inj {h : Heap} {a : Addr} {x y : K × List K} (hx : PairKey knd h x a) (hy : PairKey knd h y a) : x = y := by
  obtain ⟨o, items, n, v, b, ho, _, hd, hi, hv, hb⟩ := hx
  obtain ⟨o', items', n', v', b', ho', _, hd', hi', hv', hb'⟩ := hy
  rw [ho] at ho'; cases ho'
  rw [hd] at hd'; cases hd'
  rw [hi] at hi'; cases hi'
  exact Prod.ext (knd.inj _ _ _ hv hv') (hb.inj hb')

theorem PairKey.keeps {h h' : Heap} {k : K × List K} {a d : Addr} {o : Obj} {es ep} (x : PairKey knd h k a) (ho : h.get? d = some o) (hd : o.data = .dict es ep) (hs : Heap.SameBut d h h') : PairKey knd h' k a := by
  obtain ⟨o', items, n, v, b, ho', hc, hd', hi, hv, hb⟩ := x
  have hne : a ≠ d := by
    intro e
    rw [e, ho] at ho'; cases ho'
    rw [hd] at hd'; cases hd'
  exact ⟨o', items, n, v, b, (hs.2 a hne).trans ho', hc, hd', hi, hv, hb.keeps ho hd hs⟩

def pairKeyHash (knd : KeyKind prog w K) (k : K × List K) : Int := reduceHash (Builtin.Tuple.tupleHashOf [knd.hash k.1, tupleKeyHash knd k.2])

theorem pair_pyHash {k : K × List K} {a : Addr} {Q : Int → Shared → Prop} (hu : A.units + 1 < cLine) (hk : PairKey knd s.heap k a) (h : Q (pairKeyHash knd k) { s with toks := s.toks + (k.2.length + 3) }) :
    wpAny (model prog w) A (pyHash (.ref a)) Q E s := by
  have hT := hk.typeIs
  obtain ⟨o, items, n, v, b, ho, _, hd, hi, hv, hb⟩ := hk
  unfold pyHash
  first | unfold pyHashByItsType | skip
  first | refine wpAny_bind (wpAny_cRoomFor_or (.inr (Nat.lt_of_succ_lt hu)) ?_) | skip
  refine wpAny_bind (wpAny_specialOf hT PySem.F.slot_tuple_hash.lookup ?_)
  show wpAny _ _ (if (some (Value.builtin "tuple.__hash__") == some Value.none) = true then _ else _) Q E s
  rw [if_neg (by rw [beq_builtin_none]; exact Bool.false_ne_true)]
  refine wpAny_bind (wpAny_specialOf hT PySem.F.slot_tuple_hash.lookup ?_)
  show wpAny _ _ (callSpecialIfBoundUnlessNone? (.ref a) "__hash__" _ >>= _) Q E s
  refine wpAny_bind (wpAny_callSpecialIfBoundUnlessNone?_slot hT PySem.F.slot_tuple_hash (wpAny_call_entry PySem.F.slot_tuple_hash hT PySem.F.entry_tuple_hash ?_ (PySem.F.args_tuple_hash_1 _)))
  show wpAny _ _ (Builtin.Tuple.tupleItemsOf (.ref a) >>= _) _ _ s
  refine wpAny_bind (wpAny_tupleItemsOf ho hd ?_)
  refine wpAny_bind ?_
  rw [← Array.forIn_toList, hi]
  refine wpAny_forIn_list _
    (fun rest (x : Array Int) s' => (rest = [v, .ref b] ∧ x.toList = [] ∧ s' = s) ∨ (rest = [.ref b] ∧ x.toList = [knd.hash k.1] ∧ s' = { s with toks := s.toks + 1 }) ∨
      (rest = [] ∧ x.toList = [knd.hash k.1, tupleKeyHash knd k.2] ∧ s' = { s with toks := s.toks + (k.2.length + 2) }))
    _ ?_ ?_ _ _ (.inl ⟨rfl, rfl, rfl⟩)
  · rintro y rest x s' (⟨e, hx, rfl⟩ | ⟨e, hx, rfl⟩ | ⟨e, _⟩)
    · cases e
      refine wpAny_bind (knd.pyHash hv ?_)
      first
        | exact wpAny_pure (.inr (.inl ⟨rfl, by simp [hx], rfl⟩))
        | exact wpAny_bind (wpAny_pure (wpAny_pure (.inr (.inl ⟨rfl, by simp [hx], rfl⟩))))
    · cases e
      refine wpAny_bind (wpAny_pyHash_tuple (ks := k.2) (by first | exact hu | (show A.units + 1 < cLine; exact hu) | exact Nat.lt_of_succ_lt hu) (by exact hb) ?_)
      have e2 : (({ s with toks := s.toks + 1 } : Shared).toks + (k.2.length + 1)) = s.toks + (k.2.length + 2) := by show s.toks + 1 + (k.2.length + 1) = _; omega
      first
        | exact wpAny_pure (.inr (.inr ⟨rfl, by simp [hx], by rw [e2]⟩))
        | exact wpAny_bind (wpAny_pure (wpAny_pure (.inr (.inr ⟨rfl, by simp [hx], by rw [e2]⟩))))
    · cases e
  · rintro x s' (⟨e, _⟩ | ⟨e, _⟩ | ⟨_, hx, rfl⟩)
    · cases e
    · cases e
    · show wpAny _ _ (retInt (Builtin.Tuple.tupleHashOf x.toList)) _ _ _
      rw [hx]
      refine wpAny_ret_mkInt ?_
      have e3 : ({ s with toks := s.toks + (k.2.length + 2) + 1 } : Shared) = { s with toks := s.toks + (k.2.length + 3) } := by rw [Nat.add_assoc]
      unfold pairKeyHash at h
      generalize Builtin.Tuple.tupleHashOf [knd.hash k.1, tupleKeyHash knd k.2] = z at h ⊢
      show wpAny _ _ (if (decide (-(2 : Int) ^ 63 ≤ z) && decide (z < 2 ^ 63)) = true then _ else _) Q E _
      unfold reduceHash at h
      by_cases hr : (decide (-(2 : Int) ^ 63 ≤ z) && decide (z < 2 ^ 63)) = true
      · rw [if_pos hr]; rw [if_pos hr] at h
        exact wpAny_pure (by rw [← e3] at h; exact h)
      · rw [if_neg hr]; rw [if_neg hr] at h
        exact wpAny_bind (wpAny_rule (wpAny_pure (by rw [← e3] at h; exact h)))

theorem pair_eq_tree {x y : K × List K} {a b : Addr} {P : Fin → Shared → Prop} (hu : A.units < cLine) (hx : PairKey knd s.heap x a) (hy : PairKey knd s.heap y b) (h : P (.done (.ret (.bool (decide (x = y))))) s) :
    wpAny (model prog w) A (Builtin.«tuple.__eq__» ⟨[.ref a, .ref b], []⟩) P E s := by
  have hTb := hy.typeIs
  obtain ⟨oa, xs, na, va, ba, hoa, _, hda, hia, hva, hba⟩ := hx
  obtain ⟨ob, ys, nb, vb, bb, hob, _, hdb, hib, hvb, hbb⟩ := hy
  show wpAny _ _ (isInstance (.ref b) (.type "tuple") >>= _) _ _ s
  refine wpAny_bind (wpAny_isInstance hTb isSubtype_tuple_tuple ?_)
  simp only [Bool.not_true, Bool.false_eq_true, if_false]
  refine wpAny_bind (wpAny_tupleItemsOf hoa hda ?_)
  refine wpAny_bind (wpAny_tupleItemsOf hob hdb ?_)
  refine wpAny_bind ?_
  have hz : xs.toList.zip ys.toList = [(va, vb), (.ref ba, .ref bb)] := by rw [hia, hib]; rfl
  have hsz : (xs.size == ys.size) = true := by
    have e1 : xs.size = 2 := by rw [← Array.length_toList, hia]; rfl
    have e2 : ys.size = 2 := by rw [← Array.length_toList, hib]; rfl
    rw [e1, e2]; rfl
  rw [hz]
  refine wpAny_forIn_list _
    (fun rest r s' => r.1 = none ∧ s' = s ∧ (rest = [(va, vb), (.ref ba, .ref bb)] ∨ (rest = [(.ref ba, .ref bb)] ∧ x.1 = y.1) ∨ (rest = [] ∧ x = y)))
    _ ?_ ?_ _ _ ⟨rfl, rfl, .inl rfl⟩
  · rintro ⟨u, v⟩ rest r s' ⟨hr, rfl, (e | ⟨e, e1⟩ | ⟨e, _⟩)⟩
    · cases e
      refine wpAny_bind (knd.eqBool (a := x.1) (b := y.1) hva hvb ?_)
      by_cases hk : x.1 = y.1
      · rw [decide_eq_true hk]
        simp only [Bool.not_true, Bool.false_eq_true, if_false]
        exact wpAny_pure ⟨rfl, rfl, by first | exact .inr (.inl ⟨rfl, hk⟩) | exact .inr (.inl ⟨trivial, hk⟩)⟩
      · rw [decide_eq_false hk]
        simp only [Bool.not_false, if_true]
        have hf : decide (x = y) = false := decide_eq_false fun e => hk (by rw [e])
        rw [hf] at h
        exact wpAny_bind (wpAny_pure (wpAny_pure (wpAny_pure h)))
    · cases e
      refine wpAny_bind (wpAny_eqBool_tuple hu hba hbb ?_)
      by_cases hk : x.2 = y.2
      · rw [decide_eq_true hk]
        simp only [Bool.not_true, Bool.false_eq_true, if_false]
        exact wpAny_pure ⟨rfl, rfl, by first | exact .inr (.inr ⟨rfl, Prod.ext e1 hk⟩) | exact .inr (.inr ⟨trivial, Prod.ext e1 hk⟩)⟩
      · rw [decide_eq_false hk]
        simp only [Bool.not_false, if_true]
        have hf : decide (x = y) = false := decide_eq_false fun e => hk (by rw [e])
        rw [hf] at h
        exact wpAny_bind (wpAny_pure (wpAny_pure (wpAny_pure h)))
    · cases e
  · rintro ⟨r1, r2⟩ s' ⟨hr, rfl, (e | ⟨e, _⟩ | ⟨_, exy⟩)⟩
    · cases e
    · cases e
    · simp only at hr
      subst hr
      refine wpAny_pure ?_
      show P (.done (.ret (.bool (xs.size == ys.size)))) s'
      rw [hsz]
      rw [decide_eq_true exy] at h
      exact h

theorem pair_eqBool {x y : K × List K} {a b : Addr} {Q : Bool → Shared → Prop} (hu : A.units + 1 < cLine) (hx : PairKey knd s.heap x a) (hy : PairKey knd s.heap y b) (h : Q (decide (x = y)) s) :
    wpAny (model prog w) A (eqBool (.ref a) (.ref b)) Q E s := by
  unfold eqBool
  try with_reducible refine wpAny_holding ?_
  show wpAny _ _ (if (Value.ref a == Value.ref b) = true then _ else _) Q E s
  by_cases hab : (Value.ref a == Value.ref b) = true
  · rw [if_pos hab]
    have e : a = b := by have := eq_of_beq hab; injection this
    subst e
    obtain rfl := hx.inj hy
    exact wpAny_bind (wpAny_rule (wpAny_pure (by simpa using h)))
  · rw [if_neg hab]
    exact wpAny_bind (wpAny_richCompare_same_room (op := .Eq) hx.typeIs hy.typeIs PySem.F.slot_tuple_eq
      (wpAny_call_entry PySem.F.slot_tuple_eq hx.typeIs PySem.F.entry_tuple_eq (pair_eq_tree hu hx hy ⟨_, rfl, (fun e => nomatch e), wpAny_truthy_bool h⟩) (PySem.F.args_tuple_eq_2 _ _)) (Nat.lt_of_succ_lt hu))

theorem quiet_tuple (n : Nat) {ks : List K} {a : Addr} {Q : Bool → Shared → Prop} (hk : IsTupleKey knd s.heap ks a) (h : Q true s) : wpAny (model prog w) A (eqIsQuiet (n + 1) (.ref a)) Q E s := by
  have hT := hk.typeIs
  obtain ⟨o, items, m, ho, _, hd, hi⟩ := hk
  unfold eqIsQuiet
  refine wpAny_bind (wpAny_specialOf hT PySem.F.slot_tuple_eq.lookup ?_)
  show wpAny _ _ (isInstance (.ref a) (.type "tuple") >>= _) _ _ s
  refine wpAny_bind (wpAny_isInstance hT isSubtype_tuple_tuple ?_)
  simp only [Bool.not_true, Bool.false_eq_true, if_false]
  refine wpAny_bind (wpAny_seqItems ho hd ?_)
  refine wpAny_bind ?_
  show wpAny _ _ (forIn items _ _) _ _ s
  rw [← Array.forIn_toList]
  refine wpAny_forIn_list _ (fun rest r s' => r.1 = none ∧ s' = s ∧ ∀ v ∈ rest, carriedByValue v = true) _ ?_ ?_ _ _ ⟨rfl, rfl, hi.byValue⟩
  · rintro v rest r s' ⟨hr, rfl, hall⟩
    rw [eqIsQuiet_byValue _ (hall v List.mem_cons_self)]
    refine wpAny_bind (wpAny_pure ?_)
    simp only [Bool.not_true, Bool.false_eq_true, if_false]
    exact wpAny_pure ⟨rfl, rfl, fun u hu' => hall u (List.mem_cons_of_mem _ hu')⟩
  · rintro ⟨r1, r2⟩ s' ⟨hr, rfl, _⟩
    simp only at hr
    subst hr
    exact wpAny_pure h

theorem pair_quiet {k : K × List K} {a : Addr} {Q : Bool → Shared → Prop} (hk : PairKey knd s.heap k a) (h : Q true s) : wpAny (model prog w) A (eqIsQuiet 8 (.ref a)) Q E s := by
  have hT := hk.typeIs
  obtain ⟨o, items, m, v, b, ho, _, hd, hi, hv, hb⟩ := hk
  unfold eqIsQuiet
  refine wpAny_bind (wpAny_specialOf hT PySem.F.slot_tuple_eq.lookup ?_)
  show wpAny _ _ (isInstance (.ref a) (.type "tuple") >>= _) _ _ s
  refine wpAny_bind (wpAny_isInstance hT isSubtype_tuple_tuple ?_)
  simp only [Bool.not_true, Bool.false_eq_true, if_false]
  refine wpAny_bind (wpAny_seqItems ho hd ?_)
  refine wpAny_bind ?_
  show wpAny _ _ (forIn items _ _) _ _ s
  rw [← Array.forIn_toList, hi]
  refine wpAny_forIn_list _ (fun rest r s' => r.1 = none ∧ s' = s ∧ (rest = [v, .ref b] ∨ rest = [.ref b] ∨ rest = [])) _ ?_ ?_ _ _ ⟨rfl, rfl, .inl rfl⟩
  · rintro y rest r s' ⟨hr, rfl, (e | e | e)⟩
    · cases e
      rw [eqIsQuiet_byValue _ (knd.byValue _ _ hv)]
      refine wpAny_bind (wpAny_pure ?_)
      simp only [Bool.not_true, Bool.false_eq_true, if_false]
      exact wpAny_pure ⟨rfl, rfl, by first | exact .inr (.inl rfl) | exact .inr (.inl trivial)⟩
    · cases e
      refine wpAny_bind (quiet_tuple 6 hb ?_)
      simp only [Bool.not_true, Bool.false_eq_true, if_false]
      exact wpAny_pure ⟨rfl, rfl, by first | exact .inr (.inr rfl) | exact .inr (.inr trivial)⟩
    · cases e
  · rintro ⟨r1, r2⟩ s' ⟨hr, rfl, _⟩
    simp only at hr
    subst hr
    exact wpAny_pure h

def pairKind {prog : Program} {w : World} {K : Type} [DecidableEq K] (knd : KeyKind prog w K) : HeapKind prog w (K × List K) where
  is := PairKey knd
  hash := pairKeyHash knd
  draws := fun k => k.2.length + 3
  room := fun A => A.units + 1 < cLine
  inj := fun hx hy => hx.inj hy
  keeps := fun x ho hd hs => x.keeps ho hd hs
  pyHash := fun hu hk h => pair_pyHash hu hk h
  eqBool := fun hu hx hy h => pair_eqBool hu hx hy h
  quiet := fun hk h => pair_quiet hk h
end
end
section
abbrev tup2 (v1 v2 : Value) : Obj := { cls := .type "tuple", data := .seq #[v1, v2] }
def MT (prog : Program) (w : World) (o : Obj) (k : Str × List Str) (a : Addr) (v : Value) : Prop :=
  o.ExactDict ∧ ∃ es ep, o.data = .dict es ep ∧ es.toList = [entryOfKey (pairKind (strKind prog w)) (k, a, v)]
section
variable {prog : Program} {w : World} {A : Around} {E : Value → Shared → Prop} {s : Shared} {h₀ : Heap} {L : Addr} {m : Str → Option Value} {news : List (Addr × Obj)} {d a b : Addr} {n p q : Str} {t t1 t2 : Tok}
theorem strItems (prog : Program) (w : World) (p q : Str) (t1 t2 : Tok) : ItemsAre (strKind prog w) [p, q] [.str p t1, .str q t2] := .cons (strKind_is prog w p t1) (.cons (strKind_is prog w q t2) .nil)
theorem pair_key {h : Heap} (ha : h.get? a = some (tup2 (.str n t) (.ref b))) (hb : h.get? b = some (tup2 (.str p t1) (.str q t2))) : PairKey (strKind prog w) h (n, [p, q]) a :=
  ⟨_, _, _, .str n t, b, ha, rfl, rfl, rfl, strKind_is prog w n t, ⟨_, _, _, hb, rfl, rfl, strItems prog w p q t1 t2⟩⟩
theorem room2 {A : Around} (hu : A.units + 2 < cLine) : (pairKind (strKind prog w)).room A.in1 := hu
theorem dict0 {od : Obj} {h : Heap} (hd : h.get? d = some od) (he : od.IsDictOf (strKind prog w) []) : h.DictOfH (pairKind (strKind prog w)) d [] := by
  obtain ⟨es, ep, hc, hdat, _, hp, _⟩ := he
  exact ⟨od, es, ep, hd, hc, hdat, List.length_eq_zero_iff.mp hp.length, (fun _ hx => by simp at hx), List.nodup_nil⟩
theorem dict1 {od : Obj} {h : Heap} {k : Str × List Str} {a' : Addr} {v : Value} (hd : h.get? d = some od) (he : MT prog w od k a' v) (hk : PairKey (strKind prog w) h k a') : h.DictOfH (pairKind (strKind prog w)) d [(k, a', v)] := by
  obtain ⟨hc, es, ep, hdat, hes⟩ := he
  refine ⟨od, es, ep, hd, hc, hdat, hes, fun x hx => ?_, by simp⟩
  rw [List.mem_singleton.mp hx]; exact hk

theorem mt_notin0 {od : Obj} {Q : Value → Shared → Prop} (N : News h₀ L s.heap news) (hd : (d, od) ∈ news) (lo : (d == sysModules) = false) (he : od.IsDictOf (strKind prog w) []) (ha : (a, tup2 (.str n t) (.ref b)) ∈ news)
    (hb : (b, tup2 (.str p t1) (.str q t2)) ∈ news) (hu : A.units + 2 < cLine) (h : Q (.bool true) { s with toks := s.toks + 5 }) : wpAny (model prog w) A (compareOp .NotIn (.ref a) (.ref d)) Q E s :=
  wpAny_notIn_heap (knd := pairKind (strKind prog w)) (k := (n, [p, q])) (room2 hu) (pair_key (N _ ha).1 (N _ hb).1) lo (dict0 (N _ hd).1 he) h
theorem mt_notin1 {od : Obj} {a' b' : Addr} {t' t1' t2' : Tok} {v : Value} {Q : Value → Shared → Prop} (N : News h₀ L s.heap news) (hd : (d, od) ∈ news) (lo : (d == sysModules) = false) (he : MT prog w od (n, [p, q]) a' v) (ha : (a, tup2 (.str n t) (.ref b)) ∈ news)
    (hb : (b, tup2 (.str p t1) (.str q t2)) ∈ news) (ha' : (a', tup2 (.str n t') (.ref b')) ∈ news) (hb' : (b', tup2 (.str p t1') (.str q t2')) ∈ news) (hu : A.units + 2 < cLine) (h : Q (.bool false) { s with toks := s.toks + 5 }) :
    wpAny (model prog w) A (compareOp .NotIn (.ref a) (.ref d)) Q E s :=
  wpAny_notIn_heap (knd := pairKind (strKind prog w)) (k := (n, [p, q])) (room2 hu) (pair_key (N _ ha).1 (N _ hb).1) lo (dict1 (N _ hd).1 he (pair_key (N _ ha').1 (N _ hb').1)) (by
    have e : atKey [((n, [p, q]), a', v)] (n, [p, q]) = some (a', v) := by simp [atKey]
    rw [e]; exact h)
theorem mt_get {od : Obj} {a' b' : Addr} {t' t1' t2' : Tok} {v : Value} {value slice : Expr} {Q : Value → Shared → Prop} (N : News h₀ L s.heap news) (hd : (d, od) ∈ news) (he : MT prog w od (n, [p, q]) a' v) (ha : (a, tup2 (.str n t) (.ref b)) ∈ news)
    (hb : (b, tup2 (.str p t1) (.str q t2)) ∈ news) (ha' : (a', tup2 (.str n t') (.ref b')) ∈ news) (hb' : (b', tup2 (.str p t1') (.str q t2')) ∈ news) (hu : A.units + 2 < cLine) (h : Q v { s with toks := s.toks + 5 })
    (hs : subscripted slice false (.ref d) (.ref a) = operate [.ref d, .ref a] (getItem (.ref d) (.ref a)) := by with_unfolding_all rfl) :
    wpAny (model prog w) A (subscriptTail value slice (.ref d) (.ref a)) Q E s :=
  have hD := dict1 (N _ hd).1 he (pair_key (prog := prog) (w := w) (N _ ha').1 (N _ hb').1)
  tail_any hD.typeIs PySem.F.slot_dict_getitem.lookup (wpAny_getItem_heap (knd := pairKind (strKind prog w)) (k := (n, [p, q])) (room2 hu) (pair_key (N _ ha).1 (N _ hb).1) hD (p := (a', v)) (by simp [atKey]) h) hs
theorem mt_set {od : Obj} {g : Obj → List (Addr × Obj)} {v : Value} {Q : Unit → Shared → Prop} (F : Fr h₀ L s.heap m) (N : News h₀ L s.heap news) (U : UpdF d od news g) (he : od.IsDictOf (strKind prog w) []) (ha : (a, tup2 (.str n t) (.ref b)) ∈ news)
    (hb : (b, tup2 (.str p t1) (.str q t2)) ∈ news) (hu : A.units + 2 < cLine) (h : ∀ h' o', Fr h₀ L h' m → News h₀ L h' (g o') → MT prog w o' (n, [p, q]) a v → Q () { s with heap := h', toks := s.toks + 5 }) :
    wpAny (model prog w) A (setItem (.ref d) (.ref a) v) Q E s := by
  obtain ⟨pre, post, rfl, hg, h1, h2⟩ := U.split
  have hm : (d, od) ∈ pre ++ (d, od) :: post := List.mem_append_right _ (.head _)
  refine wpAny_setItem_heap (knd := pairKind (strKind prog w)) (k := (n, [p, q])) (hsz := by simp) (room2 hu) (pair_key (N _ ha).1 (N _ hb).1) (dict0 (N _ hm).1 he) fun h' hm' hs => ?_
  obtain ⟨o', es', ep', ho', hc', hd', he', _, _⟩ := hm'
  refine h h' o' (F.change hs (N _ hm).2.1 (N _ hm).2.2) ?_ ⟨hc', es', ep', hd', he'⟩
  rw [hg]
  exact news_set N h1 h2 hs ho'
end
end
section
@[irreducible] def gOf (s : Shared) (news : List (Addr × Obj)) : Heap := hideAll s.heap (news.map (·.1))
@[irreducible] def LOf (s : Shared) : Addr := s.heap.objs.size
theorem gOf_eq (s : Shared) (news : List (Addr × Obj)) : gOf s news = hideAll s.heap (news.map (·.1)) := by unfold gOf; rfl
theorem LOf_eq (s : Shared) : LOf s = s.heap.objs.size := by unfold LOf; rfl
theorem code_keepF {prog : Program} {w : World} {A₀ A : Around} {s : Shared} {base h₀ : Heap} {outer : List Env} {L : Addr} {m mg mb : Str → Option Value} {mean : ExcName → Option Value} {p : Program} {loose : List Str}
    {env : Env} {news : List (Addr × Obj)} {K : Frag} {R : Result → Shared → Prop} {name qual : Str} {params : Arguments} {body : List Stmt} {scope : Scope} {dV kV doc pm cdv ct oc : Value}
    {an od : Option Addr} {osl : Array (Option Value)} {f : Addr} {args : Args} {binds : List (Str × Value)} {nb : Nat}
    (B : Below A₀ base outer h₀) (F : Fr h₀ L s.heap m) (X₀ : K.In h₀) (N : News h₀ L s.heap news) (T : Top p loose mean mg mb h₀) (hA : A.frames = some (env :: outer)) (hfr : env.frame = some L) (hke : env.scope.kind = .function)
    (ho : K.lookup f = some ⟨oc, od, .func (fnOf name qual params body scope dV kV doc pm an cdv ct), osl⟩) (hcd : codeIn K cdv qual = true) (hroom : A.depth < recursionLimit)
    (hnb : binds.length = nb) (hbind : BindsTo s (fnOf name qual params body scope dV kV doc pm an cdv ct) args binds) (hloc : ∀ y ∈ binds, scope.names.lookup y.1 = some .local)
    (h : ∀ h₁, Fr h₀ L (gOf s news) m → Fr (gOf s news) (LOf s) h₁ (fun y => binds.reverse.lookup y) → News (gOf s news) (LOf s) h₁ news → Below A base (env :: outer) (gOf s news) → K.In (gOf s news) → Top p loose mean mg mb (gOf s news) →
      (∀ b o, s.heap.get? b = some o → b ∉ news.map (·.1) → (gOf s news).get? b = some o) →
      wpAny (model prog w) (A.deeper (envOf qual scope (LOf s) f cdv)) (execs body (envOf qual scope (LOf s) f cdv))
        (fun fl s' => LeaveK h₀ L m (gOf s news) R (match fl with | .ret v => v | _ => .none) s')
        (fun e s' => wpAny (model prog w) (A.deeper (envOf qual scope (LOf s) f cdv)) (leaving (envOf qual scope (LOf s) f cdv) e) (fun _ s'' => R (.error e) s'') (fun e' s'' => R (.error e') s'') s')
        { s with heap := h₁, toks := s.toks + nb })
    (hco : scope.isCoroutine = false) (hgen : scope.isGenerator = false) (hk : scope.kind = .function)
    (hcell : ∀ x ∈ scope.names, x.2 ≠ .cell) : codeAny (model prog w) A (.call (.ref f) args) R s := by
  subst hnb
  have XK : K.In s.heap := X₀.keeps F.keep
  refine codeAny_call_def (fd := fnOf name qual params body scope dV kV doc pm an cdv ct) (body := body) (binds := binds) hroom (XK _ _ ho) rfl (T.nolimit.keeps F.keep) (codeRec_of XK hcd) rfl hbind hcell hloc (fun h₁ hns hk₁ => ?_) hco hgen hk
  rw [gOf_eq, LOf_eq] at h
  generalize hg : hideAll s.heap (news.map (·.1)) = g at h
  have other : ∀ b o, s.heap.get? b = some o → b ∉ news.map (·.1) → g.get? b = some o := fun b o e q => hg ▸ hideAll_get _ e q
  have back : ∀ b o, g.get? b = some o → s.heap.get? b = some o := fun b o e => of_hideAll (news.map (·.1)) (hg ▸ e)
  have offBase : ∀ b o, h₀.get? b = some o → b ∉ news.map (·.1) := by
    intro b o e q
    obtain ⟨x, hx, rfl⟩ := List.mem_map.mp q
    have := (N x hx).2.2
    rw [e] at this; cases this
  have offL : L ∉ news.map (·.1) := by
    intro q
    obtain ⟨x, hx, e⟩ := List.mem_map.mp q
    exact (N x hx).2.1 e
  have stays : h₀.StaysIn g := fun b o e => other b o (F.keep b o e) (offBase b o e)
  obtain ⟨oL, es, ep, hL, hLd, hLk, hLf⟩ := F.ns
  have hLg : g.get? L = some oL := other L oL hL offL
  have FG : Fr h₀ L g m := ⟨⟨oL, es, ep, hLg, hLd, hLk, hLf⟩, stays, F.above⟩
  have size : g.objs.size = s.heap.objs.size := hg ▸ hideAll_size _ _
  have F' : Fr g s.heap.objs.size h₁ (fun y => binds.reverse.lookup y) := ⟨hns, fun b o e => hk₁ b o (back b o e), Nat.le_of_eq size⟩
  have N' : News g s.heap.objs.size h₁ news := fun x hx => ⟨hk₁ _ _ (N x hx).1, Nat.ne_of_lt (Heap.lt_size (N x hx).1), by rw [← hg]; exact hideAll_none _ (List.mem_map_of_mem hx)⟩
  have B' : Below A base (env :: outer) g := by
    refine ⟨hA, fun b o e => stays b o (B.stays b o e), ?_⟩
    have hnew : base.get? L = none := by
      cases hq : base.get? L with
      | none => rfl
      | some o => exact absurd (Nat.lt_of_lt_of_le (Heap.lt_size (B.stays L o hq)) F.above) (Nat.lt_irrefl _)
    have Bs : Below A base (env :: outer) s.heap := ⟨hA, fun b o e => F.keep b o (B.stays b o e), .cons (by rw [hke]; decide) hfr F.ns hnew (B.frames.of_keeps fun b o e _ => ⟨o, F.keep b o e, rfl⟩)⟩
    have B₁ := Bs.frames
    rw [← hg]
    refine funFrames_hideAll B₁ fun env' he b hb hf => ?_
    cases he with
    | head => exact offL ((Option.some.inj (hfr.symm.trans hf) : L = b) ▸ hb)
    | tail _ he =>
      obtain ⟨L₁, o₁, hf₁, ho₁⟩ := funFrames_in B.frames env' he
      rw [hf₁] at hf
      exact offBase L₁ o₁ ho₁ ((Option.some.inj hf : L₁ = b) ▸ hb)
  refine wpAny_mono (h h₁ FG F' N' B' (X₀.keeps stays) (T.keeps stays) other) (fun fl s' hl => ?_) fun _ _ y => y
  obtain ⟨L', m', news', Fe, Ne, k⟩ := hl
  refine k ⟨⟨oL, es, ep, Fe.keep L oL hLg, hLd, hLk, hLf⟩, fun b o e => Fe.keep b o (stays b o e), F.above⟩ fun x hx => ⟨(Ne x hx).1, fun q => ?_, ?_⟩
  · have z := (Ne x hx).2.2
    rw [q, hLg] at z; cases z
  · cases q : h₀.get? x.1 with
    | none => rfl
    | some o => have z := (Ne x hx).2.2; rw [stays _ _ q] at z; cases z
theorem code_keepG {prog : Program} {w : World} {A₀ A : Around} {s : Shared} {base h₀ : Heap} {outer : List Env} {L : Addr} {m mg mb : Str → Option Value} {mean : ExcName → Option Value} {p : Program} {loose : List Str}
    {cn : Str} {cs : Scope} {ca : Addr} {ccd : Value} {news : List (Addr × Obj)} {K : Frag} {R : Result → Shared → Prop} {name qual : Str} {params : Arguments} {body : List Stmt} {scope : Scope} {dV kV doc pm cdv ct oc : Value}
    {an od : Option Addr} {osl : Array (Option Value)} {f : Addr} {args : Args} {binds : List (Str × Value)} {nb : Nat}
    (B : Below A₀ base outer h₀) (F : Fr h₀ L s.heap m) (X₀ : K.In h₀) (N : News h₀ L s.heap news) (T : Top p loose mean mg mb h₀) (hA : A.frames = some (envOf cn cs L ca ccd :: outer)) (hke : cs.kind = .function)
    (ho : K.lookup f = some ⟨oc, od, .func (fnOf name qual params body scope dV kV doc pm an cdv ct), osl⟩) (hcd : codeIn K cdv qual = true) (hroom : A.depth < recursionLimit)
    (hnb : binds.length = nb) (hbind : BindsTo s (fnOf name qual params body scope dV kV doc pm an cdv ct) args binds) (hloc : ∀ y ∈ binds, scope.names.lookup y.1 = some .local)
    (h : ∀ h₁, Fr h₀ L (gOf s news) m → Fr (gOf s news) (LOf s) h₁ (fun y => binds.reverse.lookup y) → News (gOf s news) (LOf s) h₁ news → Below A base (envOf cn cs L ca ccd :: outer) (gOf s news) → K.In (gOf s news) → Top p loose mean mg mb (gOf s news) →
      (∀ b o, s.heap.get? b = some o → b ∉ news.map (·.1) → (gOf s news).get? b = some o) →
      wpAny (model prog w) (A.deeper (envOf qual scope (LOf s) f cdv)) (execs body (envOf qual scope (LOf s) f cdv))
        (fun fl s' => LeaveK h₀ L m (gOf s news) R (match fl with | .ret v => v | _ => .none) s')
        (fun e s' => wpAny (model prog w) (A.deeper (envOf qual scope (LOf s) f cdv)) (leaving (envOf qual scope (LOf s) f cdv) e) (fun _ s'' => R (.error e) s'') (fun e' s'' => R (.error e') s'') s')
        { s with heap := h₁, toks := s.toks + nb })
    (hco : scope.isCoroutine = false) (hgen : scope.isGenerator = false) (hk : scope.kind = .function)
    (hcell : ∀ x ∈ scope.names, x.2 ≠ .cell) : codeAny (model prog w) A (.call (.ref f) args) R s :=
  code_keepF (env := envOf cn cs L ca ccd) B F X₀ N T hA rfl hke ho hcd hroom hnb hbind hloc h hco hgen hk hcell
section
variable {prog : Program} {w : World} {A A₀ : Around} {E : Value → Shared → Prop} {hp : Heap} {gg : Array GenState} {dr : Drawn} {tk : Tok} {os : OsState} {K : Frag} {x C dx L : Addr} {h₀ : Heap} {m : Str → Option Value} {news news' : List (Addr × Obj)} {ox od : Obj} {es es' : List DictEntry} {n n' : Nat} {name : Str} {v : Value}
theorem set_dictT {Q : Unit → Shared → Prop} (F : Fr h₀ L hp m) (X₀ : K.In h₀) (N : News h₀ L hp news) (I : InstAt hp x ox C (some (dictOf es n))) (hd : ox.dict = some dx)
    (hs : findIn K (.ref C) "__setattr__" = some (some (.builtin "object.__setattr__"))) (hpl : plainOver K C = true) (ht : takerIn K C name = some none) (hh : hasDictIn K C = true) (hl : (getL name es).isSome = true)
    (e : (putL name (PyData.keyHash w.params name) (.str name (tk + 1)) v es, putN name es n) = (es', n')) (U : Upd dx (dictOf es n) (dictOf es' n') news news') (hz : es'.length ≤ 1000)
    (h : ∀ h', Fr h₀ L h' m → News h₀ L h' news' → Q () ⟨h', gg, dr, tk + 2, os⟩) :
    wpAny (model prog w) A (setAttr (.ref x) name v) Q E ⟨hp, gg, dr, tk, os⟩ := set_dict F X₀ N I hd hs hpl ht hh hl e U hz h
end
end
section
theorem keep_all {h₀ h h' : Heap} {L : Addr} {led : List (Addr × Obj)} (N : News h₀ L h led) (N' : News h₀ L h' led)
    (K : ∀ b o, h.get? b = some o → b ∉ led.map (·.1) → h'.get? b = some o) : ∀ b o, h.get? b = some o → h'.get? b = some o := by
  intro b o e
  by_cases hb : b ∈ led.map (·.1)
  · obtain ⟨p, hp, rfl⟩ := List.mem_map.mp hb
    have e1 := (N p hp).1
    rw [e1] at e
    cases e
    exact (N' p hp).1
  · exact K b o e hb
theorem news_all {h₀ h h' : Heap} {L : Addr} {full : List (Addr × Obj)} (N : News h₀ L h full) (K : ∀ b o, h.get? b = some o → h'.get? b = some o) : News h₀ L h' full :=
  fun p hp => ⟨K _ _ (N p hp).1, (N p hp).2⟩
theorem news_two {h₀ h' : Heap} {L : Addr} {a b : List (Addr × Obj)} (A : News h₀ L h' a) (B : News h₀ L h' b) : News h₀ L h' (a ++ b) :=
  fun p hp => (List.mem_append.mp hp).elim (A p) (B p)
theorem news_upd {h₀ h h' : Heap} {L d : Addr} {o o' : Obj} {full : List (Addr × Obj)} {g : Obj → List (Addr × Obj)} (N : News h₀ L h full) (U : UpdF d o full g)
    (hd : h'.get? d = some o') (K : ∀ b x, h.get? b = some x → b ≠ d → h'.get? b = some x) : News h₀ L h' (g o') := by
  obtain ⟨pre, post, rfl, hg, h1, h2⟩ := U.split
  rw [hg]
  intro p hp
  rcases List.mem_append.mp hp with e | e
  · have y := N p (List.mem_append_left _ e)
    exact ⟨K _ _ y.1 (h1 p e), y.2⟩
  · rcases List.mem_cons.mp e with rfl | e
    · have y := N (d, o) (List.mem_append_right _ (.head _))
      exact ⟨hd, y.2⟩
    · have y := N p (List.mem_append_right _ (.tail _ e))
      exact ⟨K _ _ y.1 (h2 p e), y.2⟩
theorem keep_but {h₀ h h' : Heap} {L d : Addr} {o o' : Obj} {led : List (Addr × Obj)} {g : Obj → List (Addr × Obj)} (N : News h₀ L h led) (U : UpdF d o led g) (N' : News h₀ L h' (g o'))
    (K : ∀ b x, h.get? b = some x → b ∉ led.map (·.1) → h'.get? b = some x) : h'.get? d = some o' ∧ ∀ b x, h.get? b = some x → b ≠ d → h'.get? b = some x := by
  obtain ⟨pre, post, rfl, hg, h1, h2⟩ := U.split
  rw [hg] at N'
  refine ⟨(N' (d, o') (List.mem_append_right _ (.head _))).1, fun b x e hb => ?_⟩
  by_cases hm : b ∈ (pre ++ (d, o) :: post).map (·.1)
  · obtain ⟨p, hp, rfl⟩ := List.mem_map.mp hm
    have e1 := (N p hp).1
    rw [e1] at e
    cases e
    rcases List.mem_append.mp hp with q | q
    · exact (N' p (List.mem_append_left _ q)).1
    · rcases List.mem_cons.mp q with rfl | q
      · exact absurd rfl hb
      · exact (N' p (List.mem_append_right _ (.tail _ q))).1
  · exact K b x e hm
end
section
theorem rm0 {d a b : Nat} (h : d < a) (e : Nat.ble a b = true) : d < b := Nat.lt_of_lt_of_le h (Nat.le_of_ble_eq_true e)
theorem rmk {d a k b : Nat} (h : d < a) (e : Nat.ble (a + k) b = true) : d + k < b := Nat.lt_of_lt_of_le (Nat.add_lt_add_right h k) (Nat.le_of_ble_eq_true e)
theorem rmk2 {d a j k b : Nat} (h : d < a) (e : Nat.ble (a + j + k) b = true) : d + j + k < b := Nat.lt_of_lt_of_le (Nat.add_lt_add_right (Nat.add_lt_add_right h j) k) (Nat.le_of_ble_eq_true e)
theorem rmk3 {d a i j k b : Nat} (h : d < a) (e : Nat.ble (a + i + j + k) b = true) : d + i + j + k < b := Nat.lt_of_lt_of_le (Nat.add_lt_add_right (Nat.add_lt_add_right (Nat.add_lt_add_right h i) j) k) (Nat.le_of_ble_eq_true e)
theorem news_sub {h₀ h : Heap} {L : Addr} {l l' : List (Addr × Obj)} (N : News h₀ L h l) (hs : ∀ p ∈ l', p ∈ l) : News h₀ L h l' := fun p hp => N p (hs p hp)
theorem len_sym {prog : Program} {w : World} {A : Around} {E : Value → Shared → Prop} {s : Shared} {h₀ : Heap} {L l : Addr} {news : List (Addr × Obj)} {vs : List Value} {n : Nat} {Q : Value → Shared → Prop} (N : News h₀ L s.heap news) (hm : (l, listOf vs.toArray n) ∈ news) (hs : vs.length ≤ 16384)
    (h : Q (.int (vs.length : Int) (s.toks + 1)) { s with toks := s.toks + 1 + 1 }) : wpAny (model prog w) A (call (.builtin "len") [.ref l]) Q E s := by
  have hl : s.heap.IsList l vs.toArray := ⟨_, (N _ hm).1, rfl, n, rfl⟩
  have e : vs.toArray.size = vs.length := by simp
  exact len_list hl (by rw [e]; omega) (by rw [e]; exact h)

theorem ne_lens {prog : Program} {w : World} {A : Around} {E : Value → Shared → Prop} {s : Shared} {h₀ : Heap} {L a b : Addr} {news : List (Addr × Obj)} {xs ys : Array Value} {n1 n2 : Nat} {Q : Value → Shared → Prop} (N : News h₀ L s.heap news) (ha : (a, listOf xs n1) ∈ news) (hb : (b, listOf ys n2) ∈ news)
    (hsz : (xs.size != ys.size) = true) (hu : A.units < cLine) (h : Q (.bool true) s) : wpAny (model prog w) A (compareOp .NotEq (.ref a) (.ref b)) Q E s :=
  SeqAt.RcNeAt.lists_lengths (News.isList N ha) (News.isList N hb) hsz hu prog w E Q h
theorem ne_nils {prog : Program} {w : World} {A : Around} {E : Value → Shared → Prop} {s : Shared} {h₀ : Heap} {L a b : Addr} {news : List (Addr × Obj)} {n1 n2 : Nat} {Q : Value → Shared → Prop} (N : News h₀ L s.heap news) (ha : (a, listOf #[] n1) ∈ news) (hb : (b, listOf #[] n2) ∈ news)
    (hu : A.units < cLine) (h : Q (.bool false) s) : wpAny (model prog w) A (compareOp .NotEq (.ref a) (.ref b)) Q E s :=
  SeqAt.RcNeAt.lists (e := fun _ => true) (News.isList N ha) (News.isList N hb) rfl hu (fun j h1 _ => absurd h1 (Nat.not_lt_zero j)) prog w E Q h

theorem newTuple_lt {M : Model} {A : Around} {E : Value → Shared → Prop} {s : Shared} {h₀ : Heap} {L : Addr} {m : Str → Option Value} {news : List (Addr × Obj)} {vs : List Value} {Q : Value → Shared → Prop} (F : Fr h₀ L s.heap m) (N : News h₀ L s.heap news)
    (h : ∀ l h', Fr h₀ L h' m → News h₀ L h' ((l, { cls := .type "tuple", data := .seq vs.toArray }) :: news) → (∀ p ∈ news, p.1 < l) → Q (.ref l) { s with heap := h' }) (hsz : vs.length ≤ sizeLine := by size_fits) : wpAny M A (newTuple vs) Q E s :=
  newTuple_N F N (fun h' F' N' => h _ h' F' N' fun p hp => Heap.lt_size (N p hp).1) hsz
theorem add_lt {prog : Program} {w : World} {A : Around} {E : Value → Shared → Prop} {s : Shared} {h₀ : Heap} {L l b : Addr} {m : Str → Option Value} {news : List (Addr × Obj)} {vs ws : List Value} {n1 n2 : Nat} {Q : Value → Shared → Prop} (F : Fr h₀ L s.heap m) (N : News h₀ L s.heap news) (ha : (l, listOf vs.toArray n1) ∈ news) (hb : (b, listOf ws.toArray n2) ∈ news)
    (hsz : vs.length + ws.length ≤ sizeLine) (h : ∀ D h', Fr h₀ L h' m → News h₀ L h' ((D, listOf (vs ++ ws).toArray 0) :: news) → (∀ p ∈ news, p.1 < D) → Q (.ref D) { s with heap := h' }) : wpAny (model prog w) A (binaryOp .Add (.ref l) (.ref b)) Q E s :=
  add_lists (hsz := hsz) F N (News.isList N ha) (News.isList N hb) fun h' F' N' => h _ h' F' N' fun p hp => Heap.lt_size (N p hp).1
theorem keep_but2 {h₀ h h' : Heap} {L d1 d2 : Addr} {led : List (Addr × Obj)} (N : News h₀ L h led) (S : ∀ p ∈ led, p.1 = d1 ∨ p.1 = d2 ∨ h'.get? p.1 = some p.2)
    (K : ∀ b x, h.get? b = some x → b ∉ led.map (·.1) → h'.get? b = some x) : ∀ b x, h.get? b = some x → b ≠ d1 → b ≠ d2 → h'.get? b = some x := by
  intro b x e n1 n2
  by_cases hm : b ∈ led.map (·.1)
  · obtain ⟨p, hp, rfl⟩ := List.mem_map.mp hm
    have e1 := (N p hp).1
    rw [e1] at e
    cases e
    rcases S p hp with q | q | q
    · exact absurd q n1
    · exact absurd q n2
    · exact q
  · exact K b x e hm
theorem news_upd2 {h₀ h h' : Heap} {L d1 d2 : Addr} {o1 o2 o1' o2' : Obj} {full : List (Addr × Obj)} {g1 : Obj → List (Addr × Obj)} {g2 : Obj → Obj → List (Addr × Obj)} (N : News h₀ L h full) (U1 : UpdF d1 o1 full g1) (U2 : ∀ o, UpdF d2 o2 (g1 o) (g2 o))
    (e1 : h'.get? d1 = some o1') (e2 : h'.get? d2 = some o2') (K : ∀ b x, h.get? b = some x → b ≠ d1 → b ≠ d2 → h'.get? b = some x) : News h₀ L h' (g2 o1' o2') := by
  obtain ⟨pre, post, hf, hg, a1, a2⟩ := U1.split
  obtain ⟨pre2, post2, hf2, hg2, b1, b2⟩ := (U2 o1').split
  have inFull : ∀ p ∈ g1 o1', p = (d1, o1') ∨ (p ∈ full ∧ p.1 ≠ d1) := by
    intro p hp
    rw [hg] at hp
    rcases List.mem_append.mp hp with q | q
    · exact .inr ⟨by rw [hf]; exact List.mem_append_left _ q, a1 p q⟩
    · rcases List.mem_cons.mp q with q | q
      · exact .inl q
      · exact .inr ⟨by rw [hf]; exact List.mem_append_right _ (.tail _ q), a2 p q⟩
  have d1In : (d1, o1) ∈ full := by rw [hf]; exact List.mem_append_right _ (.head _)
  have other : ∀ p ∈ g1 o1', p.1 ≠ d2 → h'.get? p.1 = some p.2 ∧ p.1 ≠ L ∧ h₀.get? p.1 = none := by
    intro p hp n2
    rcases inFull p hp with rfl | ⟨q, n1⟩
    · exact ⟨e1, (N _ d1In).2⟩
    · exact ⟨K _ _ (N p q).1 n1 n2, (N p q).2⟩
  intro p hp
  rw [hg2] at hp
  rcases List.mem_append.mp hp with q | q
  · exact other p (by rw [hf2]; exact List.mem_append_left _ q) (b1 p q)
  · rcases List.mem_cons.mp q with rfl | q
    · refine ⟨e2, ?_⟩
      rcases inFull (d2, o2) (by rw [hf2]; exact List.mem_append_right _ (.head _)) with z | ⟨z, _⟩
      · have z1 : d2 = d1 := congrArg Prod.fst z
        rw [z1]
        exact (N _ d1In).2
      · exact (N _ z).2
    · exact other p (by rw [hf2]; exact List.mem_append_right _ (.tail _ q)) (b2 p q)
theorem lt_head {d : Addr} {p : Addr × Obj} {r : List (Addr × Obj)} (h : ∀ q ∈ p :: r, q.1 < d) : @LT.lt Nat _ p.1 d := h p (.head _)
def SD (l : List Addr) : Prop := List.Pairwise (fun a b => @LT.lt Nat _ b a) l
theorem sd_one (a : Addr) : SD [a] := List.pairwise_singleton _ _
theorem sd_cons {a x : Addr} {r : List Addr} (S : SD (a :: r)) (h : @LT.lt Nat _ a x) : SD (x :: a :: r) :=
  List.Pairwise.cons (fun b hb => by
    rcases List.mem_cons.mp hb with rfl | hb
    · exact h
    · exact Nat.lt_trans ((List.pairwise_cons.mp S).1 b hb) h) S
inductive AddrsOf : List (Addr × Obj) → List Addr → Prop
  | nil : AddrsOf [] []
  | cons {a o r ar} : AddrsOf r ar → AddrsOf ((a, o) :: r) (a :: ar)
theorem AddrsOf.eq {l : List (Addr × Obj)} {as : List Addr} (A : AddrsOf l as) : l.map (·.1) = as := by
  induction A with
  | nil => rfl
  | cons _ ih => simp [ih]
inductive UpdW (d : Addr) (o o' : Obj) : List (Addr × Obj) → List (Addr × Obj) → List Addr → Prop
  | head {r ar} : AddrsOf r ar → UpdW d o o' ((d, o) :: r) ((d, o') :: r) (d :: ar)
  | tail {a ob r r' ar} : UpdW d o o' r r' ar → UpdW d o o' ((a, ob) :: r) ((a, ob) :: r') (a :: ar)
theorem UpdW.both {d : Addr} {o o' : Obj} {l l' : List (Addr × Obj)} {as : List Addr} (W : UpdW d o o' l l' as) (S : SD as) : d ∈ as ∧ Upd d o o' l l' := by
  induction W with
  | head A => exact ⟨.head _, .head fun p hp => Nat.ne_of_lt ((List.pairwise_cons.mp S).1 _ (A.eq ▸ List.mem_map_of_mem hp))⟩
  | tail W ih =>
    obtain ⟨m, u⟩ := ih (List.pairwise_cons.mp S).2
    exact ⟨.tail _ m, .tail (Nat.ne_of_gt ((List.pairwise_cons.mp S).1 _ m)) u⟩
theorem upd_of_W {d : Addr} {o o' : Obj} {l l' : List (Addr × Obj)} {as : List Addr} (W : UpdW d o o' l l' as) (S : SD as) : Upd d o o' l l' := (W.both S).2
inductive UpdFW (d : Addr) (o : Obj) : List (Addr × Obj) → (Obj → List (Addr × Obj)) → List Addr → Prop
  | head {r ar} : AddrsOf r ar → UpdFW d o ((d, o) :: r) (fun o' => (d, o') :: r) (d :: ar)
  | tail {a ob r g ar} : UpdFW d o r g ar → UpdFW d o ((a, ob) :: r) (fun o' => (a, ob) :: g o') (a :: ar)
theorem UpdFW.both {d : Addr} {o : Obj} {l : List (Addr × Obj)} {g : Obj → List (Addr × Obj)} {as : List Addr} (W : UpdFW d o l g as) (S : SD as) : d ∈ as ∧ UpdF d o l g := by
  induction W with
  | head A => exact ⟨.head _, .head fun p hp => Nat.ne_of_lt ((List.pairwise_cons.mp S).1 _ (A.eq ▸ List.mem_map_of_mem hp))⟩
  | tail W ih =>
    obtain ⟨m, u⟩ := ih (List.pairwise_cons.mp S).2
    exact ⟨.tail _ m, .tail (Nat.ne_of_gt ((List.pairwise_cons.mp S).1 _ m)) u⟩
theorem updF_of_W {d : Addr} {o : Obj} {l : List (Addr × Obj)} {g : Obj → List (Addr × Obj)} {as : List Addr} (W : UpdFW d o l g as) (S : SD as) : UpdF d o l g := (W.both S).2
def AllNe (d : Addr) (l : List (Addr × Obj)) : Prop := ∀ p ∈ l, p.1 ≠ d
end
section
structure EC where
  wo : Nat → World
  ar : Nat → Around
  hp : Nat → Heap
  le : Nat → List Env
  ad : Nat → Addr
  mp : Nat → (Str → Option Value)
  en : Nat → ExcName → Option Value
  pg : Nat → Program
  ls : Nat → List Str
  sh : Nat → Shared
  rs : Nat → Result → Shared → Prop
  sr : Nat → Str
  sc : Nat → Scope
  va : Nat → Value
  nt : Nat → Nat
  oc : Nat → Option (List Code)
  tk : Nat → Tok
  ob : Nat → Obj
  iz : Nat → Int
  lv : Nat → List Value
  ll : Nat → List (Addr × Obj)
  oa : Nat → Option Addr
  fd : Nat → FuncData
  av : Nat → Array (Option Value)
  li : Nat → List Int
  aw : Nat → Array Value
  ev : Nat → Env
theorem EC.ne : Nonempty EC := ⟨{ wo := fun _ => (aWorld 1), ar := fun _ => (callerA), hp := fun _ => (default), le := fun _ => ([]), ad := fun _ => (0), mp := fun _ => (fun _ => none), en := fun _ => (fun _ => none), pg := fun _ => (default), ls := fun _ => ([]), sh := fun _ => ⟨default, #[], {}, 0, {}⟩, rs := fun _ => (fun _ _ => True), sr := fun _ => (default), sc := fun _ => (default), va := fun _ => (.none), nt := fun _ => (0), oc := fun _ => (none), tk := fun _ => (0), ob := fun _ => (default), iz := fun _ => (0), lv := fun _ => ([]), ll := fun _ => ([]), oa := fun _ => (none), fd := fun _ => (default), av := fun _ => (#[]), li := fun _ => ([]), aw := fun _ => (#[]), ev := fun _ => (default) }⟩
theorem ec_all {P : EC → Prop} (h : P (@Classical.epsilon EC EC.ne fun c => ¬ P c)) (c : EC) : P c :=
  Classical.byContradiction fun n => (@Classical.epsilon_spec EC (fun c => ¬ P c) ⟨c, n⟩) h
end
section
theorem wt_make (C : Addr) (vals : List Value) : (Code.builtin "type.__call__" { pos := Value.ref C :: vals }).weight = 1 := (Nat.zero_add _).symm.trans (depth_under_make (Around.mk none 0 none none 0) C vals)
theorem cu_make (a : Args) : (Code.builtin "type.__call__" a).cUnits = 1 := rfl
inductive Bef : List Addr → Addr → Addr → Prop
  | here {a b r} : b ∈ r → Bef (a :: r) a b
  | there {x a b r} : Bef r a b → Bef (x :: r) a b
theorem SD.bef {l : List Addr} {a b : Addr} (S : SD l) (h : Bef l a b) : @LT.lt Nat _ b a := by
  induction h with
  | here m => exact (List.pairwise_cons.mp S).1 _ m
  | there _ ih => exact ih (List.pairwise_cons.mp S).2
theorem hz_sd {l : List (Addr × Obj)} {x : Addr} {as : List Addr} (A : AddrsOf l (x :: as)) (S : SD (x :: as)) : ∀ p ∈ l, @LE.le Nat _ p.1 x := fun p hp => by
  have m : p.1 ∈ x :: as := A.eq ▸ List.mem_map_of_mem hp
  rcases List.mem_cons.mp m with e | m
  · exact Nat.le_of_eq e
  · exact Nat.le_of_lt ((List.pairwise_cons.mp S).1 _ m)
theorem eq_le {a : Addr} : @LE.le Nat _ a a := Nat.le_refl _
theorem hz_head {x : Addr} {o : Obj} {l : List (Addr × Obj)} (h : ∀ p ∈ l, p.1 < x) : ∀ p ∈ (x, o) :: l, @LE.le Nat _ p.1 x := fun p m => by
  rcases List.mem_cons.mp m with rfl | m
  · exact Nat.le_refl _
  · exact Nat.le_of_lt (h p m)
theorem lt_all {x : Addr} {l : List (Addr × Obj)} (h : ∀ p ∈ l, p.1 < x) {d : Addr} {o : Obj} (m : (d, o) ∈ l) : @LT.lt Nat _ d x := h _ m
theorem ne_all {x : Addr} {l : List (Addr × Obj)} (h : ∀ p ∈ l, p.1 < x) : ∀ p ∈ l, p.1 ≠ x := fun p m => Nat.ne_of_lt (h p m)
theorem tok3 {M : Model} {A : Around} {α : Type} {t : Sem α} {Q : α → Shared → Prop} {E : Value → Shared → Prop} {hp : Heap} {g : Array GenState} {dr : Drawn} {n : Tok} {os : OsState} (h : ∀ k, wpAny M A t Q E ⟨hp, g, dr, k, os⟩) : wpAny M A t Q E ⟨hp, g, dr, n + 1 + 1 + 1, os⟩ := h _
end
section
theorem code_keepC {prog : Program} {w : World} {A₀ A : Around} {s : Shared} {base h₀ : Heap} {outer : List Env} {L : Addr} {m mg mb : Str → Option Value} {mean : ExcName → Option Value} {p : Program} {loose : List Str}
    {cn : Str} {cs : Scope} {ca : Addr} {ccd : Value} {news : List (Addr × Obj)} {K : Frag} {R : Result → Shared → Prop} {name qual : Str} {params : Arguments} {body : List Stmt} {scope : Scope} {dV kV doc pm cdv ct oc : Value}
    {an od : Option Addr} {osl : Array (Option Value)} {f : Addr} {args : Args} {binds : List (Str × Value)}
    (B : Below A₀ base outer h₀) (F : Fr h₀ L s.heap m) (X₀ : K.In h₀) (N : News h₀ L s.heap news) (T : Top p loose mean mg mb h₀) (hA : A.frames = some (envOf cn cs L ca ccd :: outer)) (hke : cs.kind = .function)
    (ho : K.lookup f = some ⟨oc, od, .func (fnOf name qual params body scope dV kV doc pm an cdv ct), osl⟩) (hcd : codeIn K cdv qual = true) (hroom : A.depth < recursionLimit)
    (hbind : BindsTo s (fnOf name qual params body scope dV kV doc pm an cdv ct) args binds) (hkind : (binds.all fun y => scope.names.lookup y.1 == some .local || scope.names.lookup y.1 == some .cell) = true)
    (hnd : ((cellsFrom 0 scope.names []).map (·.1)).Nodup)
    (h : ∀ g L' h₁ tk cells, Fr h₀ L g m → Fr g L' h₁ (bindL (envOfC qual scope L' f cdv).kindOf binds fun _ => none) → News g L' h₁ (cells ++ news) →
      CellsAre (bindC (envOfC qual scope L' f cdv).kindOf binds fun _ => none) (cellsFrom (L' + 1) scope.names []) cells → Below A base (envOf cn cs L ca ccd :: outer) g → K.In g → Top p loose mean mg mb g →
      (∀ b o, s.heap.get? b = some o → @LT.lt Nat _ b L') → (∀ b o, s.heap.get? b = some o → b ∉ news.map (·.1) → g.get? b = some o) →
      wpAny (model prog w) (A.deeper (envOfC qual scope L' f cdv)) (execs body (envOfC qual scope L' f cdv))
        (fun fl s' => LeaveK h₀ L m g R (match fl with | .ret v => v | _ => .none) s')
        (fun e s' => wpAny (model prog w) (A.deeper (envOfC qual scope L' f cdv)) (leaving (envOfC qual scope L' f cdv) e) (fun _ s'' => R (.error e) s'') (fun e' s'' => R (.error e') s'') s')
        { s with heap := h₁, toks := tk })
    (hco : scope.isCoroutine = false) (hgen : scope.isGenerator = false) (hk : scope.kind = .function) : codeAny (model prog w) A (.call (.ref f) args) R s := by
  have XK := X₀.keeps F.keep
  obtain ⟨FG, BG, st, lv⟩ := groundX (R := R) B F N hA rfl hke
  refine codeAny_call_function hroom (XK _ _ ho) rfl hco hgen rfl (codeRec_of XK hcd) (hbind _ _ _ _ ?_)
  refine wpAny_newFunctionEnv_cells hk (kindsX hkind _) fun env' he s' x => ?_
  subst he
  have keeps := x.toInCall.keep
  refine ⟨(T.nolimit.keeps F.keep).keeps keeps, codeAny_func ?_⟩
  obtain ⟨h₁, tk, rfl, _⟩ := x.done
  have nodup := cellsFrom_names scope.names 0 (s.heap.objs.size + 1) [] [] rfl ▸ hnd
  obtain ⟨cells, NC, Y⟩ := Cl.news (h₀ := s.heap) (Nat.le_refl _) fun n c hm => ⟨x.cell n c (lookup_of_mem_nodup nodup hm), x.above n c hm⟩
  have hid : ∀ b o, (hideAll s.heap (news.map (·.1))).get? b = some o → h₁.get? b = some o := fun b o e => keeps b o (of_hideAll _ e)
  have N' : News (hideAll s.heap (news.map (·.1))) s.heap.objs.size h₁ (cells ++ news) := fun q hq => by
    rcases List.mem_append.mp hq with hq | hq
    · refine ⟨(NC q hq).1, (NC q hq).2.1, ?_⟩
      cases z : (hideAll s.heap (news.map (·.1))).get? q.1 with
      | none => rfl
      | some o => exact absurd ((of_hideAll _ z).symm.trans (NC q hq).2.2) (by simp)
    · exact ⟨keeps _ _ (N q hq).1, Nat.ne_of_lt (Heap.lt_size (N q hq).1), hideAll_none _ (List.mem_map_of_mem hq)⟩
  exact wpAny_mono (h _ s.heap.objs.size h₁ tk cells FG ⟨x.toInCall.ns, hid, Nat.le_of_eq (hideAll_size _ _)⟩ N' Y BG (X₀.keeps st) (T.keeps st) (fun b o e => Heap.lt_size e) fun b o e q => hideAll_get _ e q)
    (fun fl s' hl => lv _ _ hl) fun _ _ y => y
end
section
end
section
def xmIn (K : Frag) (C : Addr) : Bool := match K.lookup C with
  | some ⟨_, _, .cls cd, sl⟩ => !cd.abstract && !cd.hasDel && (sl.toList[4]?).join == some (.builtin "Exception.__new__") && !cd.mro.isEmpty && cd.mro.contains (.ref C) && cd.mro.contains (.type "Exception") &&
      !cd.mro.contains (.type "AttributeError") && !cd.mro.contains (.type "NameError") && specialIn K (.ref C) "__call__" == some (some (.builtin "type.__call__")) && instIn K (.ref C) (.type "type") == some true
  | _ => false
structure XMakes (M : Model) (h : Heap) (C : Addr) : Prop where
  obj : ∃ oc od cd sl, h.get? C = some ⟨oc, od, .cls cd, sl⟩ ∧ cd.abstract = false ∧ cd.hasDel = false ∧ cd.mro.isEmpty = false
  made : Looks M h (Bind.madeBy (.ref C)) (some "Exception.__new__")
  base : Looks M h (Bind.staticBase (.ref C)) (.ref C)
  self : Looks M h (isSubtype (.ref C) (.ref C)) true
  top : Looks M h (isSubtype (.ref C) (.type "Exception")) true
  noA : Looks M h (isSubtype (.ref C) (.type "AttributeError")) false
  noN : Looks M h (isSubtype (.ref C) (.type "NameError")) false
  call : Looks M h (specialOf (.ref C) "__call__") (some (.builtin "type.__call__"))
  typ : Looks M h (isInstance (.ref C) (.type "type")) true
theorem xmakes_of {K : Frag} {M : Model} {h : Heap} (X : K.In h) {C : Addr} (e : xmIn K C = true) : XMakes M h C := by
  unfold xmIn at e
  split at e
  · rename_i oc od cd sl ho
    simp only [Bool.and_eq_true, Bool.not_eq_true', beq_iff_eq] at e
    obtain ⟨⟨⟨⟨⟨⟨⟨⟨⟨e1, e2⟩, e3⟩, e4⟩, e5⟩, e6⟩, e7⟩, e8⟩, e9⟩, e10⟩ := e
    have hc : clsIn K C = some cd := by unfold clsIn; rw [ho]
    have hm : Looks M h (mroOf (.ref C)) cd.mro := (looks_clsIn X hc).andThen .now
    obtain ⟨c, l, hl⟩ : ∃ c l, cd.mro = c :: l := by cases q : cd.mro with | nil => rw [q] at e4; cases e4 | cons c l => exact ⟨c, l, rfl⟩
    have made : Looks M h (Bind.madeBy (.ref C)) (some "Exception.__new__") := by
      intro A Q E s k q
      unfold Bind.madeBy
      refine wpAny_bind (hm A _ E s k ?_)
      rw [hl, List.forIn_cons]
      refine wpAny_bind (wpAny_bind (wpAny_bind (wpAny_bind (wpAny_loadPart (k _ _ (X _ _ ho)) (wpAny_pure ?_)))))
      dsimp only
      rw [← Array.getElem?_toList, e3]
      exact wpAny_pure (wpAny_pure (wpAny_pure q))
    have sub (T : Value) (b : Bool) (hb : cd.mro.contains T = b) : Looks M h (isSubtype (.ref C) T) b := looks_mroIn X (by unfold mroIn; rw [hc, Option.bind_some, if_neg (by rw [e4]; decide), hb])
    refine ⟨⟨oc, od, cd, sl, X _ _ ho, e1, e2, e4⟩, made, ?_, sub _ _ e5, sub _ _ e6, sub _ _ e7, sub _ _ e8, looks_specialIn X e9, looks_instIn X e10⟩
    intro A Q E s k q
    unfold Bind.staticBase
    refine wpAny_bind (hm A _ E s k ?_)
    rw [hl, List.forIn_cons]
    exact wpAny_bind (wpAny_bind (wpAny_bind (made A _ E s k (wpAny_pure (wpAny_pure (wpAny_pure q))))))
  · cases e
abbrev excObj (C t : Addr) : Obj := { cls := .ref C, data := .fields #[.ref t, .none, .none, .none, .bool false, .none] }
abbrev tupObj (vs : List Value) : Obj := { cls := .type "tuple", data := .seq vs.toArray }
section
variable {prog : Program} {w : World} {A : Around} {K : Frag} {C : Addr} {R : Result → Shared → Prop} {h : Heap} {g : Array GenState} {d : Drawn} {t : Nat} {os : OsState}
theorem new_X {rest : List Value} (Y : XMakes (model prog w) h C) (hrest : rest.length ≤ sizeLine)
    (hq : R (.ok (.ret (.ref (h.objs.size + 1)))) ⟨(h.push (tupObj rest)).push (excObj C h.objs.size), g, d, t, os⟩) :
    codeAny (model prog w) A (.call (.builtin "Exception.__new__") ⟨.ref C :: rest, []⟩) R ⟨h, g, d, t, os⟩ := by
  obtain ⟨⟨oc, od, cd, sl, hC, e1, e2, e4⟩, made, base, self, top, noA, noN, call, typ⟩ := Y
  have F := PySem.F.excBase_Exception
  have hends := F.ends
  have hstar := F.noStar
  have here : Looks (model prog w) h (Bind.madeHere "BaseException.__new__" (.ref C)) () := base.andThen (made.andThen (Looks.of_pure (by simp only [Option.map_some, F.canon, bne_self_eq_false, Bool.false_eq_true, if_false])))
  refine codeAny_call_builtin_code (Code.quiet_builtin _ F.quiet) ?_
  simp only [checkBuiltinCall, F.newKind, F.newSplit, F.newRow]
  repeat (first | simp only [bne_self_eq_false, Bool.false_eq_true, if_false] | lk)
  refine codeAny_builtinAt F.entry ?_
  unfold Builtin.«BaseException.__new__»
  refine PyProof.Rows.wpAt_bind (wpAt_owner rfl F.ends (wpAt_of_any ?_))
  rw [F.owner]
  dsimp only
  repeat (first | simp only [bne_self_eq_false, Bool.false_eq_true, if_false, Bool.not_true] | lk)
  rw [if_neg (by simpa using hrest)]
  have hC1 := Heap.get?_push_of_some (tupObj rest) hC
  have hC2 := Heap.get?_push_of_some (excObj C h.objs.size) hC1
  repeat (first | simp only [e2, if_false, Bool.not_true] | lk)
  rw [Heap.size_push]
  exact hq
theorem makeX_core {rest : List Value} {init : Value} (Y : XMakes (model prog w) h C) (hi : Looks (model prog w) h (typeLookup (.ref C) "__init__") (some init))
    (hb : ∀ self, Looks (model prog w) h (bindSpecial init self) (init, [self])) (hrest : rest.length ≤ sizeLine)
    (hq : codeAny (model prog w) (A.under (.builtin "type.__call__" ⟨.ref C :: rest, []⟩)) (.call init ⟨.ref (h.objs.size + 1) :: rest, []⟩) (InitBack (h.objs.size + 1) R) ⟨(h.push (tupObj rest)).push (excObj C h.objs.size), g, d, t, os⟩) :
    codeAny (model prog w) A (.call (.ref C) ⟨rest, []⟩) R ⟨h, g, d, t, os⟩ := by
  have Y' := Y
  obtain ⟨⟨oc, od, cd, sl, hC, e1, e2, e4⟩, made, base, self, top, noA, noN, call, typ⟩ := Y
  refine codeAny_of_tree ?_
  show wpAny _ _ (callAny (.ref C) _) _ _ _
  refine nd_load hC ?_
  show wpAny _ _ (callAny.viaDunder (.ref C) _) _ _ _
  unfold callAny.viaDunder
  refine wpAny_bind (call.at ?_)
  dsimp only
  rw [tc_bind]
  refine wpAny_bind (wpAny_pure (wpAny_bind (wpAny_pure ?_)))
  refine wpAny_pure (a := Fin.again (.call (.builtin "type.__call__") ⟨.ref C :: rest, []⟩)) (And.intro rfl ?_)
  refine codeAny_call_builtin_at (Code.quiet_builtin _ (by decide +kernel)) entry_typeCall (check_slot tc_kind tc_split typ (tc_args _ _ _) ?_)
  unfold Builtin.«type.__call__»
  have hm : Looks (model prog w) h (mroOf (.ref C)) cd.mro := ((Looks.ld (part := none) hC).andThen .now).andThen .now
  repeat (first | simp only [e4, Bool.false_eq_true, if_false] | with_reducible refine wpAny_call ?_ | lk)
  refine new_X Y' hrest ?_
  have k : ∀ b o, h.get? b = some o → ((h.push (tupObj rest)).push (excObj C h.objs.size)).get? b = some o := fun b o e => Heap.get?_push_of_some _ (Heap.get?_push_of_some _ e)
  have hx : ((h.push (tupObj rest)).push (excObj C h.objs.size)).get? (h.objs.size + 1) = some (excObj C h.objs.size) := by heap_get
  have t1 : Looks (model prog w) ((h.push (tupObj rest)).push (excObj C h.objs.size)) (typeOf (.ref (h.objs.size + 1))) (.ref C) := (Looks.ld hx).andThen .now
  have s1 := self.keeps k
  have i1 := hi.keeps k
  have b1 := (hb (.ref (h.objs.size + 1))).keeps k
  unfold isInstance callSpecial? specialOf
  repeat (first | with_reducible refine wpAny_call ?_ | lk)
  refine codeAny_mono hq fun r s' z => ?_
  rcases r with e | (v | _ | _ | _) <;> first | exact z | exact z.elim | skip
  obtain ⟨rfl, z⟩ := z
  exact wpAny_pure (wpAny_pure z)
end
section
variable {prog : Program} {w : World} {A : Around} {K : Frag} {C x : Addr} {s : Shared} {h₀ : Heap} {L : Addr} {m : Str → Option Value} {news : List (Addr × Obj)} {R : Result → Shared → Prop}
theorem makeX_K {rest : List Value} {fI : Addr} (F : Fr h₀ L s.heap m) (N : News h₀ L s.heap news) (X : K.In s.heap) (hm : xmIn K C = true)
    (hi : findIn K (.ref C) "__init__" = some (some (.ref fI))) (hf : typeIn K (.ref fI) = some (.type "function")) (hrest : rest.length ≤ sizeLine)
    (h : ∀ x t h', Fr h₀ L h' m → News h₀ L h' ((x, excObj C t) :: (t, tupObj rest) :: news) → (∀ p ∈ news, p.1 < t) → t < x →
      codeAny (model prog w) (A.under (.builtin "type.__call__" ⟨.ref C :: rest, []⟩)) (.call (.ref fI) ⟨.ref x :: rest, []⟩) (InitBack x R) { s with heap := h' }) :
    codeAny (model prog w) A (.call (.ref C) ⟨rest, []⟩) R s := by
  obtain ⟨hh, g, d, t, os⟩ := s
  refine makeX_core (xmakes_of X hm) (looks_findIn X hi) (fun self => bind_fn X self hf) hrest (h _ hh.objs.size _ ((F.push _).push _) ?_ (fun p hp => Heap.lt_size (N p hp).1) (Nat.lt_succ_self _))
  have := (N.push F (tupObj rest)).push (F.push _) (excObj C hh.objs.size)
  rwa [Heap.size_push] at this
theorem call_clsX {E : Value → Shared → Prop} {Q : Value → Shared → Prop} {pos : List Value} {fI : Addr} (F : Fr h₀ L s.heap m) (X₀ : K.In h₀) (N : News h₀ L s.heap news) (hm : xmIn K C = true) (hi : findIn K (.ref C) "__init__" = some (some (.ref fI))) (hf : isFn K (.ref fI) = true) (hrest : pos.length ≤ sizeLine)
    (h : ∀ x t h', Fr h₀ L h' m → News h₀ L h' ((x, excObj C t) :: (t, tupObj pos) :: news) → (∀ p ∈ news, p.1 < t) → t < x →
      codeAny (model prog w) (A.under (.builtin "type.__call__" ⟨.ref C :: pos, []⟩)) (.call (.ref fI) ⟨.ref x :: pos, []⟩) (InitBack x fun r s' => match r with | .ok (.ret v) => Q v s' | .ok _ => False | .error e => E e s') { s with heap := h' }) :
    wpAny (model prog w) A (call (.ref C) pos []) Q E s := wpAny_call (makeX_K F N (X₀.keeps F.keep) hm hi (beq_iff_eq.mp hf) hrest h)
end
end
section
open PySem PySem.W PySem.Calls PyProof.Rows PySem.Spec Builtin Builtin.ObjectAttr
section
variable {prog : Program} {w : World} {A : Around} {K : Frag} {C e : Addr} {s : Shared} {h₀ : Heap} {L : Addr} {m : Str → Option Value} {news : List (Addr × Obj)} {E : Value → Shared → Prop} {g : Obj → List (Addr × Obj)}
theorem initX {rest : List Value} {t : Addr} {Q : Value → Shared → Prop} (F : Fr h₀ L s.heap m) (N : News h₀ L s.heap news) (X₀ : K.In h₀) (hm : xmIn K C = true) (U : UpdF e (excObj C t) news g) (hrest : rest.length ≤ sizeLine)
    (h : ∀ t' h', Fr h₀ L h' m → News h₀ L h' ((t', tupObj rest) :: g (excObj C t')) → (∀ p ∈ news, p.1 < t') → Q .none { s with heap := h' }) :
    wpAny (model prog w) A (call (.builtin "Exception.__init__") (.ref e :: rest)) Q E s := by
  obtain ⟨pre, post, rfl, hg, h1, h2⟩ := U.split
  have X : K.In s.heap := X₀.keeps F.keep
  obtain ⟨⟨oc, od, cd, sl, hC, e1, e2, e4⟩, made, base, self, top, noA, noN, cal, typ⟩ := xmakes_of (M := model prog w) X hm
  have FE := PySem.F.excBase_Exception
  have hmE : (e, excObj C t) ∈ pre ++ (e, excObj C t) :: post := List.mem_append_right _ (.head _)
  have he := (N _ hmE).1
  have ty : Looks (model prog w) s.heap (typeOf (.ref e)) (.ref C) := (Looks.ld he).andThen .now
  have ins : Looks (model prog w) s.heap (isInstance (.ref e) (.type "Exception")) true := ty.andThen top
  obtain ⟨hh, gg, d, tk, os⟩ := s
  refine wpAny_call (codeAny_call_builtin FE.init.plain FE.initEntry ?_)
  simp only [checkBuiltinCall, FE.initKind, FE.initSplit, FE.initRow]
  refine wpAny_bind (ins.at ?_)
  simp only [Bool.not_true, Bool.false_eq_true, if_false]
  unfold Bind.checkArgs
  dsimp only
  have hne : ("*" != "*") = false := by decide
  have hnE : ("Exception" != "*") = true := by decide
  unfold Bind.printed Bind.receiverType
  repeat (first | simp only [hne, hnE, Bool.false_eq_true, if_false, if_true, check_star_args] | lk)
  rw [if_neg (by simp; intro _; first | rfl | decide)]
  repeat (first | simp only [Bool.false_eq_true, if_false, if_true] | lk)
  rw [if_neg (by simpa using hrest)]
  show wpAny _ _ (newObjAsIs (.type "tuple") (Data.seq rest.toArray)) _ _ _
  unfold newObjAsIs
  refine wpAny_bind (wpAny_alloc (wpAny_pure ?_))
  unfold Builtin.BaseException.bexcPut
  have he1 := Heap.get?_push_of_some (tupObj rest) he
  refine wpAny_bind (wpAny_bind (wpAny_field he1 rfl (by rfl) (wpAny_bind (wpAny_setField he1 rfl (by simp) ?_))))
  refine wpAny_letGo (wpAny_pure ?_)
  have N1 := N.push F (tupObj rest)
  obtain ⟨F2, N2⟩ := PySem.W.news_upd (pre := (hh.objs.size, tupObj rest) :: pre) (post := post) (d := e) (o := excObj C t) (o' := excObj C hh.objs.size) (f := Obj.mapFields (·.setIfInBounds 0 (.ref hh.objs.size))) (F.push (tupObj rest)) N1
    (by intro p hp; rcases List.mem_cons.mp hp with rfl | hp <;> first | exact h1 p hp | exact Nat.ne_of_gt (Heap.lt_size he)) h2 rfl rfl
  refine h hh.objs.size _ F2 ?_ (fun p hp => Heap.lt_size (N p hp).1)
  rw [hg]
  exact N2
end
def onlyExc : List Value → Bool
  | .ref _ :: r => onlyExc r
  | l => l == [.type "Exception", .type "BaseException", .type "object"]
theorem refuse_exc (self : Value) : ∀ {l : List Value}, onlyExc l = true → refuseLoop self "__setattr__" l = pure ()
  | [], e => by simp [onlyExc] at e
  | .ref c :: r, e => by rw [refuseLoop_ref]; exact refuse_exc self e
  | .type n :: r, e => by
    have h : Value.type n :: r = [.type "Exception", .type "BaseException", .type "object"] := beq_iff_eq.mp e
    rw [h]; exact PySem.F.store_Exception.passes self
  | .none :: r, e => by simp [onlyExc] at e
  | .bool _ :: r, e => by simp [onlyExc] at e
  | .int _ _ :: r, e => by simp [onlyExc] at e
  | .str _ _ :: r, e => by simp [onlyExc] at e
  | .builtin _ :: r, e => by simp [onlyExc] at e
  | .float _ _ :: r, e => by simp [onlyExc] at e
  | .bytes _ _ :: r, e => by simp [onlyExc] at e
theorem exc_has : ∀ {l : List Value}, onlyExc l = true → l.contains (.type "object") = true
  | [], e => by simp [onlyExc] at e
  | .ref c :: r, e => by rw [List.contains_cons, exc_has (l := r) e, Bool.or_true]
  | .type n :: r, e => by
    have h : Value.type n :: r = [.type "Exception", .type "BaseException", .type "object"] := beq_iff_eq.mp e
    rw [h]; decide
  | .none :: r, e => by simp [onlyExc] at e
  | .bool _ :: r, e => by simp [onlyExc] at e
  | .int _ _ :: r, e => by simp [onlyExc] at e
  | .str _ _ :: r, e => by simp [onlyExc] at e
  | .builtin _ :: r, e => by simp [onlyExc] at e
  | .float _ _ :: r, e => by simp [onlyExc] at e
  | .bytes _ _ :: r, e => by simp [onlyExc] at e
end
section
open PySem PySem.W PySem.Calls PyProof.Rows PySem.Spec Builtin Builtin.ObjectAttr
def xOver (K : Frag) (C : Addr) : Bool := (clsIn K C).any fun cd => onlyExc cd.mro
section
variable {prog : Program} {w : World} {A : Around} {K : Frag} {C x L : Addr} {s : Shared} {h₀ : Heap} {m : Str → Option Value} {news : List (Addr × Obj)} {E : Value → Shared → Prop} {R : Result → Shared → Prop} {g : Obj → List (Addr × Obj)}
theorem osaX_open {ox : Obj} {od : Option Obj} {name : Str} {tk : Tok} {v : Value} {r : Option Value} (X : K.In s.heap) (I : InstAt s.heap x ox C od) (hp : xOver K C = true) (ht : takerIn K C name = some r)
    (h : ∀ b, wpAny (model prog w) A.in1 (match r with | some a => setByDescriptor a (.ref x) v | none => storeInOwnDict (.ref x) (.ref C) (.str name tk) name v b)
      (fun fin s' => match fin with | .done f => R (.ok f) s' | .again c' => c'.quiet = true ∧ codeAny (model prog w) A c' R s') (fun e s' => R (.error e) s') s) :
    codeAny (model prog w) A (.call (.builtin "object.__setattr__") ⟨[.ref x, .str name tk, v], []⟩) R s := by
  have SF := PySem.F.store_object
  obtain ⟨cd, hc, ho⟩ := any_some hp
  have ne : cd.mro.isEmpty = false := by cases q : cd.mro with | nil => rw [q] at ho; cases ho | cons _ _ => rfl
  have sub : Looks (model prog w) s.heap (isInstance (.ref x) (.type "object")) true := I.type.andThen (looks_mroIn X (by unfold mroIn; rw [hc, Option.bind_some, if_neg (by rw [ne]; decide), exc_has ho]))
  refine codeAny_call_builtin SF.slot.plain SF.entry (@check_slot (model prog w) _ _ s "object.__setattr__" "object" "__setattr__" (.ref x) [.str name tk, v] [] _ SF.kind SF.split sub (SF.args (.ref x) (.str name tk) v) ?_)
  obtain ⟨attr, ha, hr⟩ := Option.bind_eq_some_iff.mp ht
  have hm : Looks (model prog w) s.heap (mroOf (.ref C)) cd.mro := (looks_clsIn X hc).andThen .now
  have L3 : Looks (model prog w) s.heap (storeTaker? attr) r := by
    cases attr with
    | none => cases hr; exact .now
    | some a =>
      obtain ⟨b, hb, rfl⟩ := Option.map_eq_some_iff.mp hr
      refine (looks_takesIn X hb).andThen ?_
      cases b <;> exact .now
  rw [osa_eq, refuse_eq]
  refine wpAny_bind (wpAny_bind (I.type.here (wpAny_bind (hm.here ?_))))
  rw [refuse_exc _ ho]
  refine wpAny_pure (wpAny_bind (I.type.here (wpAny_bind ((looks_findIn X ha).here (wpAny_bind (L3.here ?_))))))
  exact h _
theorem osaX_new {name : Str} {tk : Tok} {v : Value} {vs : Array Value} (F : Fr h₀ L s.heap m) (N : News h₀ L s.heap news) (X : K.In s.heap)
    (hp : xOver K C = true) (ht : takerIn K C name = some none) (hh : (clsIn K C).any (·.hasDict) = true) (U : UpdF x (⟨.ref C, none, .fields vs, #[]⟩ : Obj) news g)
    (h : ∀ h' d, Fr h₀ L h' m → News h₀ L h' ((d, dictOf [⟨PyData.keyHash w.params name, .str name s.toks, v⟩] 1) :: g (⟨.ref C, some d, .fields vs, #[]⟩ : Obj)) → (∀ p ∈ news, p.1 < d) → R (.ok (.ret .none)) { s with heap := h', toks := s.toks + 1 }) :
    codeAny (model prog w) A (.call (.builtin "object.__setattr__") ⟨[.ref x, .str name tk, v], []⟩) R s := by
  obtain ⟨pre, post, rfl, hg, h1, h2⟩ := U.split
  have hmE : (x, (⟨.ref C, none, .fields vs, #[]⟩ : Obj)) ∈ pre ++ (x, (⟨.ref C, none, .fields vs, #[]⟩ : Obj)) :: post := List.mem_append_right _ (.head _)
  have hx : s.heap.get? x = some (⟨.ref C, none, .fields vs, #[]⟩ : Obj) := (N _ hmE).1
  have I : InstAt s.heap x (⟨.ref C, none, .fields vs, #[]⟩ : Obj) C none := ⟨hx, rfl, rfl, trivial⟩
  refine osaX_open X I hp ht fun b => ?_
  obtain ⟨cd, hc, hd'⟩ := any_some hh
  have LC := looks_clsIn (M := model prog w) X hc
  obtain ⟨hp', gg, dd, tk', os⟩ := s
  refine wpAny_bind (wpAny_pure (wpAny_bind (wpAny_bind (wpAny_loadPart hx (wpAny_bind (LC.here ?_))))))
  rw [hd']
  repeat (first | lk)
  have hx1 := Heap.get?_push_of_some (emptyDict : Obj) hx
  refine wpAny_update hx1 ?_
  have N1 := N.push F (emptyDict : Obj)
  obtain ⟨F2, N2⟩ := PySem.W.news_upd (pre := (hp'.objs.size, (emptyDict : Obj)) :: pre) (post := post) (d := x) (o := (⟨.ref C, none, .fields vs, #[]⟩ : Obj)) (o' := (⟨.ref C, some hp'.objs.size, .fields vs, #[]⟩ : Obj)) (f := fun o => { o with dict := some hp'.objs.size }) (F.push (emptyDict : Obj)) N1
    (by intro p hp; rcases List.mem_cons.mp hp with rfl | hp <;> first | exact h1 p hp | exact Nat.ne_of_gt (Heap.lt_size hx)) h2 rfl rfl
  have hall : ∀ p ∈ pre ++ (x, (⟨.ref C, some hp'.objs.size, .fields vs, #[]⟩ : Obj)) :: post, p.1 ≠ hp'.objs.size := by
    intro p hp
    rcases List.mem_append.mp hp with q | q
    · exact Nat.ne_of_lt (Heap.lt_size (N p (List.mem_append_left _ q)).1)
    · rcases List.mem_cons.mp q with rfl | q
      · exact Nat.ne_of_lt (Heap.lt_size hx)
      · exact Nat.ne_of_lt (Heap.lt_size (N p (List.mem_append_right _ (.tail _ q))).1)
  obtain ⟨F3, N3⟩ := PySem.W.news_upd (pre := []) (post := pre ++ (x, (⟨.ref C, some hp'.objs.size, .fields vs, #[]⟩ : Obj)) :: post) (d := hp'.objs.size) (o := dictOf [] 0) (o' := dictOf [⟨PyData.keyHash w.params name, .str name tk', v⟩] 1) (f := Obj.putName name (PyData.keyHash w.params name) (.str name tk') v) F2 N2
    (fun _ h => nomatch h) hall (by rw [putName_dict]; rfl) rfl
  have D := (N2 (hp'.objs.size, dictOf [] 0) (.head _)).1
  have D' := (N3 (hp'.objs.size, dictOf [⟨PyData.keyHash w.params name, .str name tk', v⟩] 1) (.head _)).1
  refine wpAny_bind (wpAny_pure (wpAny_pure ?_))
  refine wpAny_bind (wpAny_pure (wpAny_bind ?_))
  unfold nsSet
  refine wpAny_bind (wpAny_bind (wpAny_askSetting (wpAny_pure (wpAny_bind (wpAny_mkText (wpAny_bind (wpAny_loadPart D ?_)))))))
  dsimp only
  rw [aRefKeyMayBeTheName_at]
  have c : (!(([] : List DictEntry).toArray.any (·.key.isStr name)) && ([] : List DictEntry).toArray.any (·.refKey)) = false := by simp
  rw [c]
  refine wpAny_updatePart D ?_
  refine wpAny_bind (wpAny_lookBehind D' (pastItsLine_dict (by rw [List.size_toArray, sizeLine_eq]; simp)) ?_)
  refine wpAny_pure (h _ hp'.objs.size F3 ?_ ?_)
  · rw [hg]; exact N3
  · exact fun p hp => Heap.lt_size (N p hp).1
theorem osaX_dict {ox od od' : Obj} {dx : Addr} {name : Str} {tk : Tok} {v : Value} {pre post : List (Addr × Obj)} {es : List DictEntry} {n : Nat} (F : Fr h₀ L s.heap m) (N : News h₀ L s.heap (pre ++ (dx, od) :: post)) (X : K.In s.heap)
    (I : InstAt s.heap x ox C (some od)) (hd : ox.dict = some dx) (hp : xOver K C = true) (ht : takerIn K C name = some none) (hh : (clsIn K C).any (·.hasDict) = true)
    (hl : (lookIn name od).isSome = true) (h1 : ∀ p ∈ pre, p.1 ≠ dx) (h2 : ∀ p ∈ post, p.1 ≠ dx)
    (e : Obj.putName name (PyData.keyHash w.params name) (.str name s.toks) v od = od') (e' : od'.data = .dict es.toArray n) (hz : es.length ≤ 1000)
    (h : ∀ h', Fr h₀ L h' m → News h₀ L h' (pre ++ (dx, od') :: post) → R (.ok (.ret .none)) { s with heap := h', toks := s.toks + 1 }) :
    codeAny (model prog w) A (.call (.builtin "object.__setattr__") ⟨[.ref x, .str name tk, v], []⟩) R s := by
  refine osaX_open X I hp ht fun b => ?_
  obtain ⟨cd, hc, hd'⟩ := any_some hh
  obtain ⟨U1, U2⟩ := PySem.W.news_upd (f := Obj.putName name (PyData.keyHash w.params name) (.str name s.toks) v) F N h1 h2 e (by obtain ⟨_, _, dd, _⟩ := od'; cases e'; rfl)
  have D := (N (dx, od) (by simp)).1
  have D' := (U2 (dx, od') (by simp)).1
  obtain ⟨hx, hcl, hn, -⟩ := I
  obtain ⟨oc, odi, oda, osl⟩ := ox
  dsimp only at hcl hd
  subst hcl hd
  refine wpAny_bind (wpAny_pure (wpAny_bind (wpAny_bind (wpAny_loadPart hx (wpAny_bind ((looks_clsIn X hc).here ?_))))))
  rw [hd']
  refine wpAny_pure (a := some dx) (wpAny_bind (wpAny_pure (wpAny_bind ?_)))
  unfold nsSet
  refine wpAny_bind (wpAny_bind (wpAny_askSetting (wpAny_pure (wpAny_bind (wpAny_mkText (wpAny_bind (wpAny_loadPart D ?_)))))))
  unfold lookIn at hl
  split at hl
  · rename_i es₀ n₀ q
    rw [q]
    dsimp only
    have c : (!es₀.any (·.key.isStr name) && es₀.any (·.refKey)) = false := by
      rw [← Array.any_toList, ← Array.any_toList]
      split at hl
      · rename_i en he
        rw [List.any_eq_true.mpr ⟨en, List.mem_of_find?_eq_some he, List.find?_some he⟩]; rfl
      · split at hl
        · cases hl
        · rename_i z; rw [Bool.not_eq_true] at z; rw [z, Bool.and_false]
    rw [aRefKeyMayBeTheName_at, c]
    refine wpAny_updatePart D ?_
    refine wpAny_bind (wpAny_lookBehind D' (by rw [e']; exact pastItsLine_dict (by rw [List.size_toArray, sizeLine_eq]; omega)) ?_)
    exact wpAny_pure (h _ U1 U2)
  · cases hl
theorem setX_new {name : Str} {v : Value} {vs : Array Value} {Q : Unit → Shared → Prop} (F : Fr h₀ L s.heap m) (X₀ : K.In h₀) (N : News h₀ L s.heap news) (hs : findIn K (.ref C) "__setattr__" = some (some (.builtin "object.__setattr__")))
    (hp : xOver K C = true) (ht : takerIn K C name = some none) (hh : hasDictIn K C = true) (U : UpdF x (⟨.ref C, none, .fields vs, #[]⟩ : Obj) news g)
    (h : ∀ h' d, Fr h₀ L h' m → News h₀ L h' ((d, dictOf [⟨PyData.keyHash w.params name, .str name (s.toks + 1), v⟩] 1) :: g (⟨.ref C, some d, .fields vs, #[]⟩ : Obj)) → (∀ p ∈ news, p.1 < d) → Q () { s with heap := h', toks := s.toks + 2 }) :
    wpAny (model prog w) A (setAttr (.ref x) name v) Q E s := by
  have hm : (x, (⟨.ref C, none, .fields vs, #[]⟩ : Obj)) ∈ news := by
    obtain ⟨pre, post, rfl, _⟩ := U.split
    exact List.mem_append_right _ (.head _)
  exact set_plain (X₀.keeps F.keep) (od := none) ⟨(N _ hm).1, rfl, rfl, trivial⟩ hs (osaX_new (s := { s with toks := s.toks + 1 }) F N (X₀.keeps F.keep) hp ht hh U h)
theorem setX_dict {name : Str} {v : Value} {vs : Array Value} {dx : Addr} {es es' : List DictEntry} {n n' : Nat} {news' : List (Addr × Obj)} {Q : Unit → Shared → Prop} (F : Fr h₀ L s.heap m) (X₀ : K.In h₀) (N : News h₀ L s.heap news) (hs : findIn K (.ref C) "__setattr__" = some (some (.builtin "object.__setattr__")))
    (hp : xOver K C = true) (ht : takerIn K C name = some none) (hh : hasDictIn K C = true) (hx : (x, (⟨.ref C, some dx, .fields vs, #[]⟩ : Obj)) ∈ news) (_hd : (dx, dictOf es n) ∈ news) (hl : (getL name es).isSome = true)
    (e : (putL name (PyData.keyHash w.params name) (.str name (s.toks + 1)) v es, putN name es n) = (es', n')) (U : Upd dx (dictOf es n) (dictOf es' n') news news') (hz : es'.length ≤ 1000)
    (h : ∀ h', Fr h₀ L h' m → News h₀ L h' news' → Q () { s with heap := h', toks := s.toks + 2 }) :
    wpAny (model prog w) A (setAttr (.ref x) name v) Q E s := by
  obtain ⟨pre, post, rfl, rfl, a, b⟩ := U.split
  obtain ⟨e1, e2⟩ := Prod.mk.inj e
  have I : InstAt s.heap x (⟨.ref C, some dx, .fields vs, #[]⟩ : Obj) C (some (dictOf es n)) := ⟨(N _ hx).1, rfl, rfl, (N (dx, dictOf es n) (List.mem_append_right _ (.head _))).1⟩
  exact set_plain (X₀.keeps F.keep) I hs (osaX_dict (s := { s with toks := s.toks + 1 }) F N (X₀.keeps F.keep) I rfl hp ht hh hl a b (by rw [putName_dict, e1, e2]) rfl hz fun h' F' N' => h h' F' N')
end
section
variable {prog : Program} {w : World} {A : Around} {E : Value → Shared → Prop} {s : Shared} {K : Frag} {x C : Addr} {ox : Obj} {od : Option Obj} {name : Str} {expr : Bool} {Q : Value → Shared → Prop}
theorem getX_value {v : Value} (X : K.In s.heap) (I : InstAt s.heap x ox C od) (hga : findIn K (.ref C) "__getattribute__" = some (some (.builtin "BaseException.__getattribute__")))
    (hgt : findIn K (.ref C) "__getattr__" = some none) (hb : subIn K (.ref C) (.type "BaseException") = some true)
    (hf : findObj K C od name = some (.value v)) (hh : handedIn v = true) (h : Q v { s with toks := s.toks + 1 }) : wpAny (model prog w) A (getAttr (.ref x) name expr) Q E s := by
  obtain ⟨hh', g, d, t, os⟩ := s
  have L0 := I.type (M := model prog w)
  have L1 := looks_findIn (M := model prog w) X hga
  have L2 := looks_findIn (M := model prog w) X hgt
  have L3 := looks_find (M := model prog w) X I hf
  have LB : Looks (model prog w) hh' (isInstance (.ref x) (.type "BaseException")) true := L0.andThen (looks_subIn X hb)
  have GA := PySem.F.attr_Exception.ga
  have f3 := GA.bind (.ref x)
  have hx0 : (expr && onTheHeap (Value.builtin "BaseException.__getattribute__")) = false := by cases expr <;> rfl
  unfold getAttr getAttrBy
  refine wpAny_bind (wpAny_mkText (wpAny_holding (wpAny_bind (L0.at (wpAny_bind (L1.at ?_))))))
  have no : (onTheHeap (Value.ref C) && Value.builtin "BaseException.__getattribute__" == Value.builtin "object.__getattribute__") = false := by
    rw [show (Value.builtin "BaseException.__getattribute__" == Value.builtin "object.__getattribute__") = false by decide +kernel, Bool.and_false]
  dsimp only
  rw [no, if_neg (by decide)]
  unfold getAttrByItsOwn
  have HB : Looks (model prog w) hh' (hookBefore (.ref C)) none := by
    show Looks (model prog w) hh' (typeLookup (.ref C) "__getattr__") none
    exact L2
  refine wpAny_bind (HB.at (wpAny_bind (wpAny_attempt (wpAny_holding ?_))))
  unfold callGetattribute
  rw [hx0, if_neg (by decide)]
  unfold boundAndCalled
  rw [f3]
  refine wpAny_bind (wpAny_pure ?_)
  show wpAny _ _ (call (.builtin "BaseException.__getattribute__") [.ref x, .str name t]) _ _ _
  refine wpAny_call (codeAny_call_builtin GA.plain PySem.F.entry_bexc_ga (@check_slot (model prog w) _ _ _ "BaseException.__getattribute__" "BaseException" "__getattribute__" (.ref x) [.str name t] [] _ (by decide +kernel) (by decide +kernel) LB (PySem.F.args_bexc_ga _ _) ?_))
  have eq : Builtin.«object.__getattribute__» ⟨[.ref x, .str name t], []⟩ = (typeOf (.ref x) >>= fun tp => find (.ref x) tp name >>= fun r => match r with
      | .value v => ret v
      | .bind g a => bindTo g a (.ref x) tp
      | .missing => do
        if tp == .type "module" then
          if ← isOpaqueModuleObj (.ref x) then
            let byTheModulesOwnEntry := match (← stack).drop 1 with
              | (.builtin "module.__getattribute__" ⟨m :: _, _⟩, _) :: _ => m == (.ref x)
              | _ => false
            if !byTheModulesOwnEntry then unsupported "thirdparty:object.__getattribute__:a-miss-on-an-opaque-module"
        if tp == .type "type" then
          if let some key ← opaqueClassAbove (.ref x) then unsupported s!"thirdparty:{key.toString}.{name.toString}:object.__getattribute__-misses-on-an-opaque-class"
        noSuchAttribute (.ref x) name) := by first | rfl | kernel_rfl
  rw [eq]
  refine wpAny_bind (L0.at (wpAny_bind (L3.at ?_)))
  refine wpAny_pure ?_
  dsimp only
  rw [handedOut_of hh]; exact wpAny_pure h
end
end
section
def TrD (h base : Heap) (e C dx : Addr) (fl : Value) : Prop :=
  ∃ oe vs T oT ts, h.get? e = some oe ∧ oe.cls = .ref C ∧ oe.dict = some dx ∧ oe.data = .fields vs ∧ vs[1]? = some (.ref T) ∧ base.get? T = none ∧ T ≠ e ∧ h.get? T = some oT ∧ oT.data = .fields ts ∧ ts[3]? = some fl
def FlD (base : Heap) (l : List Env) (e C dx : Addr) (fl : Value) (h : Heap) : Prop := base.StaysIn h ∧ base.get? e = none ∧ h.FunFrames base l ∧ TrD h base e C dx fl
theorem dict_mapFields (o : Obj) (f : Array Value → Array Value) : (Obj.mapFields f o).dict = o.dict := by
  obtain ⟨c, d, dt, sl⟩ := o
  cases dt <;> rfl
section
variable {M : Model} {A : Around} {E : Value → Shared → Prop} {s : Shared} {base : Heap} {env : Env} {outer l : List Env} {L e C dx : Addr} {Q : Unit → Shared → Prop}
theorem set_keeps {h : Heap} {T : Addr} {oT : Obj} {ts : Array Value} {i : Nat} {x : Value} (hT : h.get? T = some oT) (hd : oT.data = .fields ts) :
    (∀ b, b ≠ T → (h.update T (Obj.mapFields (·.setIfInBounds i x))).get? b = h.get? b) ∧ (∀ b o, h.get? b = some o → (∀ vs, o.data ≠ .fields vs) → (h.update T (Obj.mapFields (·.setIfInBounds i x))).get? b = some o) ∧
      (h.update T (Obj.mapFields (·.setIfInBounds i x))).get? T = some (Obj.mapFields (·.setIfInBounds i x) oT) := by
  have other : ∀ b, b ≠ T → (h.update T (Obj.mapFields (·.setIfInBounds i x))).get? b = h.get? b := fun b hb => Heap.get?_update_other _ _ (Ne.symm hb)
  refine ⟨other, fun b o hb hn => ?_, Heap.get?_update_self _ hT (Obj.isFreed_of_fields (Obj.data_mapFields hd _))⟩
  by_cases q : b = T
  · subst q; rw [hT] at hb; cases hb; exact absurd hd (hn ts)
  · exact (other b q).trans hb

theorem entryD {oe : Obj} {vs : Array Value} {head : Value} {hadNext : Bool} (hfr : A.frames = some (env :: outer)) (hl : s.heap.FunFrames base (env :: outer)) (hf : env.frame = some L)
    (he : s.heap.get? e = some oe) (hkb : base.StaysIn s.heap) (hen : base.get? e = none) (hc : oe.cls = .ref C) (hdx : oe.dict = some dx) (hd : oe.data = .fields vs) (hsz : 1 < vs.size)
    (h : ∀ h', FlD base (env :: outer) e C dx (rawInt L) h' → s.heap.UpToSlots h' → Q () { s with heap := h' }) :
    wpAny M A (do let a ← frameOf env; let pl ← entryPlaceOf L hadNext; let b ← EntryCells.newEntry head a .none (rawInt L) .none pl; setField (.ref e) 1 b) Q E s := by
  have notFrame : e ∉ (env :: outer).filterMap (·.frame) := fun hm => by
    obtain ⟨_, o, ho, hnf⟩ := hl.mem hm
    rw [he] at ho; cases ho; exact hnf vs hd
  refine wpAny_bind (wpAny_frameOf_fun hfr hl hf fun h₁ hs₁ => ?_)
  refine wpAny_bind (wpAny_entryPlaceOf fun pl hpl => ?_)
  unfold EntryCells.newEntry newFields
  refine wpAny_bind (wpAny_newObj_type ?_ (hpl.sizeOk5 _ _ _ _ _))
  have he₁ : h₁.get? e = some oe := (hs₁.2.1 e notFrame).trans he
  have kb₁ : base.StaysIn h₁ := fun b o hbo => (hs₁.2.1 b fun hm => by rw [(hl.mem hm).1] at hbo; cases hbo).trans (hkb b o hbo)
  generalize hN : ({ cls := .type "traceback", dict := none, data := .fields ([head, .ref L, .none, rawInt L, .none] ++ (if pl.isEmpty then List.replicate 6 Value.none else pl)).toArray } : Obj) = nw
  have he₂ : (h₁.push nw).get? e = some oe := Heap.get?_push_of_some nw he₁
  refine wpAny_setField he₂ hd hsz (h _ ?_ ?_)
  · obtain ⟨k1, k2, k3⟩ := set_keeps (i := 1) (x := Value.ref h₁.objs.size) he₂ hd
    have hTe : h₁.objs.size ≠ e := Nat.ne_of_gt (Heap.lt_size he₁)
    refine ⟨fun b o hb => ?_, hen, ?_, ?_⟩
    · rw [k1 b (fun q => by rw [q, hen] at hb; cases hb)]; exact Heap.get?_push_of_some _ (kb₁ b o hb)
    · refine hl.of_keeps fun b o hb hnf => ?_
      obtain ⟨sl, hs⟩ := hs₁.2.2 b o hb
      exact ⟨_, k2 b _ (Heap.get?_push_of_some _ hs) hnf, rfl⟩
    · refine ⟨_, _, h₁.objs.size, nw, _, k3, (Obj.cls_mapFields _ _).trans hc, (dict_mapFields _ _).trans hdx, Obj.data_mapFields hd _, by simp [hsz], kb₁.fresh, hTe, ?_, by rw [← hN], ?_⟩
      · rw [k1 _ hTe]; exact Heap.get?_push_size h₁ (by rw [← hN]; rfl)
      · first | (simp; done) | (rcases hpl with rfl | ⟨_, _, _, _, _, _, _, rfl⟩ <;> simp)
  · intro b o hb hnf
    obtain ⟨k1, k2, k3⟩ := set_keeps (i := 1) (x := Value.ref h₁.objs.size) he₂ hd
    obtain ⟨sl, hs⟩ := hs₁.2.2 b o hb
    exact ⟨sl, k2 b _ (Heap.get?_push_of_some _ hs) hnf⟩

theorem noteD_first {oe : Obj} {vs : Array Value} (hfr : A.frames = some (env :: outer)) (hl : s.heap.FunFrames base (env :: outer)) (hf : env.frame = some L)
    (he : s.heap.get? e = some oe) (hkb : base.StaysIn s.heap) (hen : base.get? e = none) (hc : oe.cls = .ref C) (hdx : oe.dict = some dx) (hd : oe.data = .fields vs) (h1 : vs[1]? = some .none)
    (h : ∀ h', FlD base (env :: outer) e C dx (rawInt L) h' → s.heap.UpToSlots h' → Q () { s with heap := h' }) : wpAny M A (noteFrame (.ref e) env) Q E s := by
  unfold noteFrame
  simp only [hf]
  refine wpAny_bind (wpAny_field he hd h1 ?_)
  rw [if_neg (by decide)]
  exact entryD hfr hl hf he hkb hen hc hdx hd (Array.getElem?_eq_some_iff.mp h1).1 h

theorem noteD_next (hfr : A.frames = some (env :: outer)) (hf : env.frame = some L) (hfl : FlD base (env :: outer) e C dx .none s.heap)
    (h : ∀ h', FlD base (env :: outer) e C dx (rawInt L) h' → s.heap.UpToSlots h' → Q () { s with heap := h' }) : wpAny M A (noteFrame (.ref e) env) Q E s := by
  obtain ⟨hkb, hen, hl, oe, vs, T, oT, ts, he, hc, hdx, hd, h1, hnT, hTe, hT, hdT, h3⟩ := hfl
  unfold noteFrame
  simp only [hf]
  refine wpAny_bind (wpAny_field he hd h1 ?_)
  rw [if_pos (show (Value.ref T != Value.none) = true from by simp)]
  refine wpAny_bind (wpAny_field hT hdT h3 ?_)
  rw [if_neg (show ¬ ((Value.none == rawInt L) = true) from by simp [rawInt])]
  refine wpAny_bind (wpAny_setField hT hdT (Array.getElem?_eq_some_iff.mp h3).1 ?_)
  obtain ⟨k1, k2, k3⟩ := set_keeps (i := 3) (x := Value.none) hT hdT
  refine entryD hfr (hl.of_keeps fun b o hb hnf => ⟨o, k2 b o hb hnf, rfl⟩) hf ((k1 e (Ne.symm hTe)).trans he) (fun b o hb => (k1 b fun q => by rw [q, hnT] at hb; cases hb).trans (hkb b o hb)) hen hc hdx hd (Array.getElem?_eq_some_iff.mp h1).1
    fun h' x1 x2 => h h' x1 fun b o hb hnf => x2 b o (k2 b o hb hnf) hnf

theorem landD {fl : Value} (hfl : FlD base l e C dx fl s.heap) (h : ∀ h', FlD base l e C dx .none h' → s.heap.UpToSlots h' → Q () { s with heap := h' }) : wpAny M A (setFlight (.ref e) none) Q E s := by
  obtain ⟨hkb, hen, hl, oe, vs, T, oT, ts, he, hc, hdx, hd, h1, hnT, hTe, hT, hdT, h3⟩ := hfl
  unfold setFlight
  refine wpAny_bind (wpAny_field he hd h1 ?_)
  rw [if_pos (show (Value.ref T != Value.none) = true from by simp)]
  have hsz3 := (Array.getElem?_eq_some_iff.mp h3).1
  obtain ⟨k1, k2, k3⟩ := set_keeps (i := 3) (x := (none : Option Addr).elim Value.none fun f => rawInt f) hT hdT
  refine wpAny_setField hT hdT hsz3 (h _ ⟨fun b o hb => (k1 b fun q => by rw [q, hnT] at hb; cases hb).trans (hkb b o hb), hen, hl.of_keeps fun b o hb hnf => ⟨o, k2 b o hb hnf, rfl⟩, ?_⟩ fun b o hb hnf => ⟨o.slots, k2 b o hb hnf⟩)
  exact ⟨oe, vs, T, _, _, (k1 e (Ne.symm hTe)).trans he, hc, hdx, hd, h1, hnT, hTe, k3, Obj.data_mapFields hdT _, by simp [hsz3]⟩

theorem flD_outer {fl : Value} {h : Heap} (x : FlD base (env :: outer) e C dx fl h) : FlD base outer e C dx fl h := let ⟨a, b, ⟨_, _, c⟩, d⟩ := x; ⟨a, b, c, d⟩
theorem leaveD_first {oe : Obj} {vs : Array Value} (hfr : A.frames = some (env :: outer)) (hl : s.heap.FunFrames base (env :: outer)) (hf : env.frame = some L)
    (he : s.heap.get? e = some oe) (hkb : base.StaysIn s.heap) (hen : base.get? e = none) (hc : oe.cls = .ref C) (hdx : oe.dict = some dx) (hd : oe.data = .fields vs) (h1 : vs[1]? = some .none)
    (h : ∀ h', FlD base outer e C dx .none h' → s.heap.UpToSlots h' → Q () { s with heap := h' }) : wpAny M A (leaving env (.ref e)) Q E s := by
  unfold leaving
  exact wpAny_bind (noteD_first hfr hl hf he hkb hen hc hdx hd h1 fun h₁ x1 x2 => landD x1 fun h₂ y1 y2 => h h₂ (flD_outer y1) (x2.trans y2))
theorem leaveD_next (hfr : A.frames = some (env :: outer)) (hf : env.frame = some L) (hfl : FlD base (env :: outer) e C dx .none s.heap)
    (h : ∀ h', FlD base outer e C dx .none h' → s.heap.UpToSlots h' → Q () { s with heap := h' }) : wpAny M A (leaving env (.ref e)) Q E s := by
  unfold leaving
  exact wpAny_bind (noteD_next hfr hf hfl fun h₁ x1 x2 => landD x1 fun h₂ y1 y2 => h h₂ (flD_outer y1) (x2.trans y2))
end
end
section
def DieAt (base : Heap) (l : List Env) (h₀ : Heap) (e : Addr) (h' : Heap) : Prop :=
  ∃ B dx es n tv, base.StaysIn B ∧ FlD B l e 429 dx .none h' ∧ B.get? dx = some (dictOf es n) ∧ getL (Str.ofString "value") es = some (some (.str (Str.ofString "Out of memory!") tv)) ∧
    (∀ b o, h₀.get? b = some o → b ∉ l.filterMap (·.frame) → B.get? b = some o) ∧ h₀.UpToSlots h' ∧ h₀.get? e = none ∧ h₀.get? dx = none
section
variable {M : Model} {A : Around} {E : Value → Shared → Prop} {s' : Shared} {base g g₂ s₀ : Heap} {outer : List Env} {L a e dx : Addr} {m : Str → Option Value} {name : Str} {scope : Scope} {cd : Value} {Q : Unit → Shared → Prop} {news : List (Addr × Obj)}
theorem leave_newD {vs : Array Value} {es : List DictEntry} {n : Nat} {tv : Tok} (K : Below A base outer g) (F : Fr g L s'.heap m) (N : News g L s'.heap news)
    (he : (e, (⟨.ref 429, some dx, .fields vs, #[]⟩ : Obj)) ∈ news) (h1 : vs[1]? = some .none) (hdx : (dx, dictOf es n) ∈ news) (hv : getL (Str.ofString "value") es = some (some (.str (Str.ofString "Out of memory!") tv)))
    (hkeep : ∀ b o, s₀.get? b = some o → s'.heap.get? b = some o) (hL : ∀ o, s₀.get? L = some o → False) (hse : s₀.get? e = none) (hsx : s₀.get? dx = none)
    (hQ : ∀ h', DieAt base outer s₀ e h' → Q () { s' with heap := h' }) (hk : scope.kind = .function := by rfl) :
    wpAny M (A.deeper (envOf name scope L a cd)) (leaving (envOf name scope L a cd) (.ref e)) Q E s' := by
  have K' := K.push (name := name) (a := a) (cd := cd) F hk
  generalize hl : (envOf name scope L a cd :: outer) = l at K'
  have he1 := N _ he
  have hd1 := N _ hdx
  have ned : dx ≠ e := by
    intro q
    have := hd1.1
    rw [show (dx, dictOf es n).1 = e from q, he1.1] at this
    cases this
  have frN : ∀ b ∈ l.filterMap (·.frame), b ≠ e ∧ b ≠ dx := by
    intro b hb
    rw [← hl] at hb
    obtain ⟨env, hm, hf⟩ := List.mem_filterMap.mp hb
    rcases List.mem_cons.mp hm with rfl | hm
    · have : L = b := Option.some.inj hf
      subst this
      exact ⟨Ne.symm he1.2.1, Ne.symm hd1.2.1⟩
    · obtain ⟨o, ho, _⟩ := (K.frames.mem (List.mem_filterMap.mpr ⟨env, hm, hf⟩)).2
      refine ⟨fun q => ?_, fun q => ?_⟩
      · rw [q, he1.2.2] at ho; cases ho
      · rw [q, hd1.2.2] at ho; cases ho
  generalize hB : hideAll s'.heap (e :: l.filterMap (·.frame)) = B
  have inB : ∀ b o, s'.heap.get? b = some o → b ≠ e → b ∉ l.filterMap (·.frame) → B.get? b = some o := fun b o q n1 n2 => by
    rw [← hB]; exact hideAll_get _ q fun hm => by rcases List.mem_cons.mp hm with z | z; exact n1 z; exact n2 z
  have back : ∀ b o, B.get? b = some o → s'.heap.get? b = some o := fun b o q => of_hideAll _ (hB ▸ q)
  have hBe : B.get? e = none := by rw [← hB]; exact hideAll_none _ (.head _)
  have st : base.StaysIn B := fun b o q => inB b o (K'.stays b o q) (fun z => by
      have := K.stays b o q; rw [z, he1.2.2] at this; cases this) fun hm => by rw [(K'.frames.mem hm).1] at q; cases q
  have hin : ∀ env ∈ l, ∀ b, env.frame = some b → b ∈ e :: l.filterMap (·.frame) := fun env he b hb => .tail _ (List.mem_filterMap.mpr ⟨env, he, hb⟩)
  have ff : s'.heap.FunFrames B l := by rw [← hB]; exact funFrames_hide K'.frames hin
  subst hl
  refine leaveD_first (base := B) K'.stack ff rfl he1.1 back hBe rfl rfl rfl h1 fun h' x1 x2 => hQ h' ⟨B, dx, es, n, tv, st, x1, inB _ _ hd1.1 ned (fun hm => (frN _ hm).2 rfl), hv, fun b o q nm => ?_, ?_, hse, hsx⟩
  · refine inB b o (hkeep b o q) (fun z => by rw [z, hse] at q; cases q) fun hm => ?_
    obtain ⟨env, hmm, hf⟩ := List.mem_filterMap.mp hm
    rcases List.mem_cons.mp hmm with rfl | hmm
    · have : L = b := Option.some.inj hf
      subst this
      exact hL o q
    · exact nm (List.mem_filterMap.mpr ⟨env, hmm, hf⟩)
  · exact (Heap.UpToSlots.of_keeps hkeep).trans x2
theorem leave_onD {s₁ : Heap} (K : Below A base outer g) (D : DieAt base (envOf name scope L a cd :: outer) s₁ e s'.heap)
    (hkeep : ∀ b o, s₀.get? b = some o → s₁.get? b = some o) (hL : ∀ o, s₀.get? L = some o → False)
    (hQ : ∀ h', DieAt base outer s₀ e h' → Q () { s' with heap := h' }) :
    wpAny M (A.deeper (envOf name scope L a cd)) (leaving (envOf name scope L a cd) (.ref e)) Q E s' := by
  obtain ⟨B, dx, es, n, tv, st, fl, hd, hv, hk, up, hse, hsx⟩ := D
  have none_of : ∀ b, s₁.get? b = none → s₀.get? b = none := fun b q => by
    cases z : s₀.get? b with
    | none => rfl
    | some o => have := hkeep b o z; rw [q] at this; cases this
  refine leaveD_next (Around.frames_deeper K.stack) rfl fl fun h' x1 x2 => hQ h' ⟨B, dx, es, n, tv, st, x1, hd, hv, fun b o q nm => ?_, ((Heap.UpToSlots.of_keeps hkeep).trans up).trans x2, none_of _ hse, none_of _ hsx⟩
  refine hk b o (hkeep b o q) fun hm => ?_
  obtain ⟨env, hmm, hf⟩ := List.mem_filterMap.mp hm
  rcases List.mem_cons.mp hmm with rfl | hmm
  · have : L = b := Option.some.inj hf
    subst this
    exact hL o q
  · exact nm (List.mem_filterMap.mpr ⟨env, hmm, hf⟩)
end
section
variable {M : Model} {A : Around} {env : Env} {s : Shared} {E : Value → Shared → Prop}
theorem raiseD {e : PySem.Expr} {pos : Pos} {Q : Flow → Shared → Prop} (hh : A.handled = none)
    (h : wpAny M A (eval e env) (fun v s₁ => ∃ a ob vs K C, v = .ref a ∧ K.In s₁.heap ∧ subIn K (.ref C) (.type "BaseException") = some true ∧ typeIn K (.ref C) = some (.type "type") ∧ s₁.heap.get? a = some ob ∧ ob.cls = .ref C ∧ ob.data = .fields vs ∧ vs[1]? = some .none ∧ E (.ref a) s₁) E s) :
    wpAny M A (exec (.Raise (some e) none pos) env) Q E s := by
  show wpAny M A (do standAt pos; raiseStmt env (some (do let v ← eval e env; standAt pos; pure v)) none) Q E s
  refine wpAny_bind (wpAny_standAt ?_)
  unfold raiseStmt
  dsimp only
  refine wpAny_bind (wpAny_bind (wpAny_mono h (fun v s₁ h₁ => wpAny_bind (wpAny_standAt (wpAny_pure ?_))) fun _ _ x => x))
  obtain ⟨a, ob, vs, K, C, rfl, X, hsub, htc, ha, hcls, hd, h1, hE⟩ := h₁
  obtain ⟨hp, gg, dd, tk, os⟩ := s₁
  have ty : Looks M hp (typeOf (.ref a)) (.ref C) := hcls ▸ (Looks.ld ha).andThen .now
  have ins : Looks M hp (isInstance (.ref a) (.type "BaseException")) true := ty.andThen (looks_subIn X hsub)
  have tyC : Looks M hp (typeOf (.ref C)) (.type "type") := looks_typeIn X htc
  have hnt : ∀ {Q' : Bool → Shared → Prop}, Q' false ⟨hp, gg, dd, tk, os⟩ → wpAny M A (isType (.ref a)) Q' E ⟨hp, gg, dd, tk, os⟩ := by
    intro Q' hq
    simp only [isType, loadHead]
    refine wpAny_bind (wpAny_loadPart ha ?_)
    rw [hd]; exact wpAny_pure hq
  refine wpAny_bind (wpAny_pure ?_)
  dsimp only
  refine wpAny_bind (wpAny_holding ?_)
  unfold excFromValue isExcClass
  refine wpAny_bind (wpAny_bind (hnt ?_))
  simp only [Bool.false_eq_true, if_false]
  refine wpAny_pure ?_
  simp only [Bool.false_eq_true, if_false]
  refine wpAny_bind (ins.at ?_)
  simp only [if_true]
  refine wpAny_pure ?_
  refine wpAny_bind (hnt ?_)
  simp only [Bool.false_eq_true, if_false]
  unfold raisedInstance
  refine wpAny_bind (wpAny_bind (ty.at (wpAny_bind (tyC.at ?_))))
  rw [if_pos (by decide)]
  refine wpAny_pure ?_
  unfold setFlight raiseNew
  refine wpAny_bind (wpAny_bind (wpAny_field ha hd h1 ?_))
  rw [if_neg (by decide)]
  refine wpAny_pure (wpAny_bind (wpAny_handled ?_))
  rw [hh]
  first
    | exact wpAny_throw hE
    | exact wpAny_bind (wpAny_pure (wpAny_throw hE))
end
section
variable {prog : Program} {w : World} {A₀ : Around} {E : Value → Shared → Prop} {s' : Shared} {h₀ h : Heap} {L a e : Addr} {m : Str → Option Value} {name : Str} {scope : Scope} {cd : Value}
  {n : Str} {b₀ : Stmt} {suite : List Stmt} {pos np : Pos} {rest : List ExceptHandler} {Q : Flow → Shared → Prop} {news : List (Addr × Obj)} {KF : Frag}
  {p : Program} {loose : List Str} {mg mb : Str → Option Value} {x : Str}
theorem caught_D (K : Below A₀ h₀ [] h₀) (F : Fr h₀ L h m) (N : News h₀ L h news) (D : DieAt h₀ [envOf name scope L a cd] h e s'.heap)
    (X : KF.In h₀) (T : TopRead p loose mg mb h₀) (ex : nsIn KF mainGlobals x = some (some (.ref 429))) (q : ktsIn KF 429 "Exception" = true)
    (k : ∀ h' tk oe dx es c tv, Fr h₀ L h' (fun y => if y = n then some (.ref e) else m y) → News h₀ L h' ((e, oe) :: (dx, dictOf es c) :: news) → (oe.cls = .ref 429 ∧ notCls oe = true ∧ oe.dict = some dx) → getL (Str.ofString "value") es = some (some (.str (Str.ofString "Out of memory!") tv)) → (∀ p ∈ news, p.1 ≠ e) → (∀ p ∈ news, p.1 ≠ dx) →
      wpAny (model prog w) ((A₀.deeper (envOf name scope L a cd)).mark (some (.ref e))) (execs (b₀ :: suite) (envOf name scope L a cd))
        (fun f s₄ => wpAny (model prog w) (A₀.deeper (envOf name scope L a cd)) (do bindName (envOf name scope L a cd) n .none; unbindBehindTheSuite (envOf name scope L a cd) n pos) (fun _ s₅ => Q f s₅) E s₄)
        (AsSuiteRaised (model prog w) ((A₀.deeper (envOf name scope L a cd)).mark (some (.ref e))) (envOf name scope L a cd) n pos (notedBy (model prog w) ((A₀.deeper (envOf name scope L a cd)).mark (some (.ref e))) (envOf name scope L a cd) (cameBackBy (model prog w) (A₀.deeper (envOf name scope L a cd)) (envOf name scope L a cd) E)))
        { s' with heap := h', toks := tk })
    (hk : scope.kind = .function := by rfl) (hlo : (envOf name scope L a cd).kindOf n = some .local := by rfl) (hx : (envOf name scope L a cd).kindOf x = some .globalImplicit := by rfl) (hd : (x == ("__debug__" : Str)) = false := by decide) :
    wpAny (model prog w) (A₀.deeper (envOf name scope L a cd)) (noteFrame (.ref e) (envOf name scope L a cd))
      (fun _ s₂ => wpAny (model prog w) (A₀.deeper (envOf name scope L a cd)) (setFlight (.ref e) none) (fun _ s₃ =>
        wpAny (model prog w) (A₀.deeper (envOf name scope L a cd)) (handleBy (.ref e) (envOf name scope L a cd) (.ExceptHandler (some (.Name x np)) (some n) (b₀ :: suite) pos :: rest)) Q E s₃) E s₂) E s' := by
  obtain ⟨B, dx, es, c, tv, hB, hfl, hdx, hv, hl, hsm, hse, hsx⟩ := D
  have hL : B.get? L = none := by
    obtain ⟨_, _, ⟨_, ⟨L', _, hf, hn', _⟩, _⟩, _⟩ := hfl
    obtain rfl : L = L' := Option.some.inj hf
    exact hn'
  have hlN : ∀ p ∈ news, B.get? p.1 = some p.2 := fun p hp => hl p.1 p.2 (N p hp).1 fun hm => by
    obtain ⟨env, hmm, hf⟩ := List.mem_filterMap.mp hm
    rw [List.mem_singleton.mp hmm] at hf
    exact (N p hp).2.1 (Option.some.inj hf).symm
  have nE : ∀ p ∈ news, p.1 ≠ e := fun p hp z => by have := (N p hp).1; rw [z, hse] at this; cases this
  have nX : ∀ p ∈ news, p.1 ≠ dx := fun p hp z => by have := (N p hp).1; rw [z, hsx] at this; cases this
  refine noteD_next (Around.frames_deeper K.stack) rfl hfl fun h₄ hheld₄ hsm₄ => ?_
  refine landD hheld₄ fun h₅ hheld hsm₅' => ?_
  have hsm₅ := hsm₄.trans hsm₅'
  have st5 : h₀.StaysIn h₅ := fun b o z => hheld.1 b o (hB b o z)
  have F₅ : Fr h₀ L h₅ m := F.of_stays st5 (hsm.trans hsm₅)
  obtain ⟨oe, vs, T', oT, ts, hoe, hoc, hod, hof, _⟩ := hheld.2.2.2
  refine wpAny_handleBy_cons (codeAny_handlers_test (name_K F₅ X T ex ?_ hk hx hd)) (by intro q; cases q)
  obtain ⟨nm, qn, Ns, bs, bm, hdct, sn, sub, ab, col, dd, k0, k1, k2, k3, k5, newId, hC, hbase, _⟩ := kts_cls (X.keeps F₅.keep) q
  refine wpAny_excMatches_sub_self hC hoe hoc hbase (codeAny_handlers_suite_as ?_)
  refine landD hheld fun h₆ hfl₆ hsm₆ => ?_
  have st6 : h₀.StaysIn h₆ := fun b o z => hfl₆.1 b o (hB b o z)
  have F₆ : Fr h₀ L h₆ m := F.of_stays st6 ((hsm.trans hsm₅).trans hsm₆)
  obtain ⟨B1, B2, B3, oe6, vs6, T6, oT6, ts6, hoe6, hoc6, hod6, hof6, _⟩ := hfl₆
  have nsL : ∃ o, h.get? L = some o := let ⟨o, _, _, ho, _⟩ := F.ns; ⟨o, ho⟩
  have h0a : ∀ b, h.get? b = none → h₀.get? b = none := fun b z => by
    cases r : h₀.get? b with
    | none => rfl
    | some o => have := F.keep b o r; rw [z] at this; cases this
  have h0n : ∀ b, h.get? b = none → h₀.get? b = none ∧ b ≠ L := fun b z => ⟨h0a b z, fun q => by obtain ⟨o, ho⟩ := nsL; rw [← q, z] at ho; cases ho⟩
  have N₆ : News h₀ L h₆ ((e, oe6) :: (dx, dictOf es c) :: news) := by
    intro p hp
    rcases List.mem_cons.mp hp with rfl | hp
    · exact ⟨hoe6, (h0n e hse).2, (h0n e hse).1⟩
    · rcases List.mem_cons.mp hp with rfl | hp
      · exact ⟨B1 _ _ hdx, (h0n dx hsx).2, (h0n dx hsx).1⟩
      · exact ⟨B1 _ _ (hlN p hp), (N p hp).2⟩
  refine stN F₆ N₆ (fun h₇ F₇ N₇ => ?_) hk hlo
  exact k h₇ _ oe6 dx es c tv F₇ N₇ ⟨hoc6, by unfold notCls; rw [hof6], hod6⟩ hv nE nX
end
def Box (p : Prop) : Prop := p
def RaisableD (E : Value → Shared → Prop) (v : Value) (s₁ : Shared) : Prop :=
  ∃ a ob vs K C, v = .ref a ∧ K.In s₁.heap ∧ subIn K (.ref C) (.type "BaseException") = some true ∧ typeIn K (.ref C) = some (.type "type") ∧ s₁.heap.get? a = some ob ∧ ob.cls = .ref C ∧ ob.data = .fields vs ∧ vs[1]? = some .none ∧ E (.ref a) s₁
theorem raiseD' {M : Model} {A : Around} {env : Env} {s : Shared} {E : Value → Shared → Prop} {e : PySem.Expr} {pos : Pos} {Q : Flow → Shared → Prop} (hh : A.handled = none)
    (h : wpAny M A (eval e env) (RaisableD E) E s) : wpAny M A (exec (.Raise (some e) none pos) env) Q E s := raiseD hh h
theorem keep_allD {h₀ g h h' : Heap} {L L' : Addr} {led : List (Addr × Obj)} (N : Box (News h₀ L h led)) (N' : News g L' h' led) (K : ∀ b o, h.get? b = some o → b ∉ led.map (·.1) → h'.get? b = some o) : ∀ b o, h.get? b = some o → h'.get? b = some o := by
  intro b o e
  by_cases hb : b ∈ led.map (·.1)
  · obtain ⟨p, hp, rfl⟩ := List.mem_map.mp hb
    have e1 := (N p hp).1
    rw [e1] at e
    cases e
    exact (N' p hp).1
  · exact K b o e hb
theorem fresh_in {h₀ g h : Heap} {L e : Addr} {led : List (Addr × Obj)} (N : Box (News h₀ L h led)) (K : ∀ b o, h.get? b = some o → b ∉ led.map (·.1) → g.get? b = some o) (he : g.get? e = none) (hne : ∀ p ∈ led, p.1 ≠ e) : h.get? e = none := by
  cases q : h.get? e with
  | none => rfl
  | some o =>
    have := K e o q fun hm => by
      obtain ⟨p, hp, z⟩ := List.mem_map.mp hm
      exact hne p hp z
    rw [he] at this; cases this
theorem no_L {g h h' : Heap} {L' : Addr} {m : Str → Option Value} {led : List (Addr × Obj)} (F : Fr g L' h' m) (N' : News g L' h' led) (K : ∀ b o, h.get? b = some o → b ∉ led.map (·.1) → g.get? b = some o) : ∀ o, h.get? L' = some o → False := by
  intro o q
  have := K L' o q fun hm => by
    obtain ⟨p, hp, z⟩ := List.mem_map.mp hm
    exact (N' p hp).2.1 z
  exact absurd (Nat.lt_of_lt_of_le (Heap.lt_size this) F.above) (Nat.lt_irrefl _)
theorem raisableD_intro {E : Value → Shared → Prop} {s₁ : Shared} {g : Heap} {L a dx : Addr} {vs : Array Value} {news : List (Addr × Obj)} {K : Frag} (N : News g L s₁.heap news) (hm : (a, (⟨.ref 429, some dx, .fields vs, #[]⟩ : Obj)) ∈ news) (X : K.In s₁.heap)
    (s1 : subIn K (.ref 429) (.type "BaseException") = some true) (s2 : typeIn K (.ref 429) = some (.type "type")) (h1 : vs[1]? = some .none) (hE : E (.ref a) s₁) : RaisableD E (.ref a) s₁ :=
  ⟨a, _, vs, K, 429, rfl, X, s1, s2, (N _ hm).1, rfl, rfl, h1, hE⟩
end
section
theorem findObj_own {K : Frag} {C : Addr} {o : Obj} {name : Str} {v : Value} (h1 : ((clsIn K C).any fun cd => cd.hasDict) = true) (h2 : findIn K (.ref C) name = some none) (h3 : lookIn name o = some (some v)) : findObj K C (some o) name = some (.value v) := by
  cases hc : clsIn K C with
  | none => rw [hc] at h1; cases h1
  | some cd =>
    rw [hc] at h1
    have hd : cd.hasDict = true := h1
    unfold findObj PySem.W.ownOf
    rw [hc, h2]
    simp [hd, h3]
theorem die_value (w : World) {es : List DictEntry} {c : Nat} {v : Value} (h : getL (Str.ofString "value") es = some (some v)) : findObj (hd.heap_1 w.params) 429 (some (dictOf es c)) (Str.ofString "value") = some (.value v) :=
  findObj_own (by kernel_rfl) (by kernel_rfl) h
theorem die_kts (w : World) : ktsIn (hd.heap_1 w.params) 429 "Exception" = true := by kernel_rfl
theorem inst_die {h₀ h : Heap} {L e dx : Addr} {oe : Obj} {es : List DictEntry} {c : Nat} {news : List (Addr × Obj)} (N : News h₀ L h ((e, oe) :: (dx, dictOf es c) :: news)) (x : oe.cls = .ref 429 ∧ notCls oe = true ∧ oe.dict = some dx) : InstAt h e oe 429 (some (dictOf es c)) :=
  ⟨(N _ (.head _)).1, x.1, x.2.1, by rw [x.2.2]; exact (N (dx, dictOf es c) (.tail _ (.head _))).1⟩
end
section
section
variable {prog : Program} {w : World} {A : Around} {E : Value → Shared → Prop} {s : Shared} {env : Env} {h₀ : Heap} {x : Str} {body : List Stmt} {Q : Flow → Shared → Prop}
def TurnEnd (h₀ : Heap) (L : Addr) (J : (Str → Option Value) → List (Addr × Obj) → Prop) (I : Addr) (it : Obj) (s₁ : Shared) (Q : Flow → Shared → Prop) (f : Flow) (s₂ : Shared) : Prop := match f with
  | .ret v => Q (.ret v) s₂
  | .brk => Q .next s₂
  | _ => ∃ h' tk m₂ news₂, s₂ = { s₁ with heap := h', toks := tk } ∧ Fr h₀ L h' m₂ ∧ News h₀ L h' ((I, it) :: news₂) ∧ (∀ p ∈ news₂, p.1 ≠ I) ∧ J m₂ news₂
theorem iter_rangeJ {r : Addr} {a₀ b₀ c : Int} {t₀ u₀ v₀ : Tok} {n : Nat} {m₀ : Str → Option Value} {news : List (Addr × Obj)} (J : Nat → (Str → Option Value) → List (Addr × Obj) → Prop)
    (hh : A.handled = none) (hr : IsRange s.heap r a₀ b₀ c t₀ u₀ v₀) (hsmall : Builtin.Range.small a₀ b₀ c = true) (hn : Builtin.Range.rangeSize a₀ b₀ c = (n : Int)) (F : Fr h₀ env.locals s.heap m₀) (N : News h₀ env.locals s.heap news) (hj : J 0 m₀ news)
    (turn : ∀ I it i t m₁ news₁ h tk, i < n → it.cls = .type "range_iterator" → (∀ p ∈ news₁, p.1 ≠ I) → J i m₁ news₁ → Fr h₀ env.locals h (fun y => if y = x then some (.int (a₀ + (i : Nat) * c) t) else m₁ y) → News h₀ env.locals h ((I, it) :: news₁) →
      wpAny (model prog w) A (execs body env) (TurnEnd h₀ env.locals (J (i + 1)) I it { s with heap := h, toks := tk } Q) E { s with heap := h, toks := tk })
    (done : ∀ m₁ news₁ h tk, J n m₁ news₁ → Fr h₀ env.locals h m₁ → News h₀ env.locals h news₁ → Q .next { s with heap := h, toks := tk }) :
    wpAny (model prog w) A (pyIter (.ref r)) (fun it s₂ => LoopAtV prog w A h₀ env x body Q E it s₂) E s := by
  refine wpAny_pyIter_range hr hsmall ?_
  have W : Walks prog w A s.heap.objs.size [s.heap.objs.size] [s.heap.objs.size] n (fun i v => i < n ∧ ∃ t, v = .int (a₀ + i * c) t)
      (fun i h => IsRangeIter h s.heap.objs.size (a₀ + (i : Nat) * c) ((n : Int) - (i : Nat)) c) := (Walks.range hh _ a₀ c n).bound
  have hnew := next_is_new F
  refine ⟨_, _, _, n, _, _, m₀, news, J, rfl, W, ?_, ?_, ?_, (by show IsRangeIter _ _ _ _ _; rw [hn]; simpa using Heap.get?_push_size _ rfl), F.push _, (fun p hp => ⟨Heap.get?_push_of_some _ (N p hp).1, (N p hp).2⟩), hj, ?_, ?_⟩
  · intro hm
    exact absurd F.ns.lt ((List.mem_singleton.mp hm) ▸ Nat.lt_irrefl _)
  · intro b hb
    rw [List.mem_singleton.mp hb]
    exact hnew
  · intro p hp hI
    exact absurd (Heap.lt_size (N p hp).1) ((List.mem_singleton.mp hI) ▸ Nat.lt_irrefl _)
  · rintro i v m₁ news₁ s₁ own ⟨hh', tk', rfl⟩ hin ⟨_, t, rfl⟩ hJ hoff hown hget hall hst F₁ N₁
    have hst' : ∃ o, hh'.get? s.heap.objs.size = some o ∧ o.cls = .type "range_iterator" := ⟨_, hst, rfl⟩
    obtain ⟨it, hit, hcls⟩ := hst'
    have hmem := hall s.heap.objs.size (List.mem_singleton.mpr rfl) hnew _ hit
    have N₂ : News h₀ env.locals hh' ((s.heap.objs.size, it) :: news₁) := fun p hp => by
      rcases List.mem_cons.mp hp with rfl | hp
      · exact N₁ _ (List.mem_append_left _ hmem)
      · exact N₁ _ (List.mem_append_right _ hp)
    have hne : ∀ p ∈ news₁, p.1 ≠ s.heap.objs.size := fun p hp e => hoff p hp (List.mem_singleton.mpr e)
    refine wpAny_mono (turn s.heap.objs.size it i t m₁ news₁ hh' tk' hin hcls hne hJ F₁ N₂) (fun f s₂ p => ?_) fun _ _ e => e
    have fin : (∃ h' tk m₂ news₂, s₂ = { { s with heap := hh', toks := tk' } with heap := h', toks := tk } ∧ Fr h₀ env.locals h' m₂ ∧ News h₀ env.locals h' ((s.heap.objs.size, it) :: news₂) ∧ (∀ p ∈ news₂, p.1 ≠ s.heap.objs.size) ∧ J (i + 1) m₂ news₂) →
        LoopStepU h₀ env.locals [s.heap.objs.size] own (J (i + 1)) { s with heap := hh', toks := tk' } .next s₂ := by
      rintro ⟨h', tk, m', nx, e, F', N', hn', hm⟩
      refine ⟨rfl, h', tk, m', nx, e, F', fun p hp => ?_, fun p hp hq => hn' p hp (List.mem_singleton.mp hq), hm⟩
      rcases List.mem_append.mp hp with q | q
      · have e1 : p.1 = s.heap.objs.size := List.mem_singleton.mp (hown p q)
        have e2 := hget p q
        obtain ⟨p1, p2⟩ := p
        dsimp only at e1 e2
        subst e1
        rw [hit] at e2
        cases e2
        exact N' _ (.head _)
      · exact N' _ (.tail _ q)
    cases f with
    | ret v => exact .ret p
    | brk => exact .brk p
    | next => exact .next (fin p)
    | cont => exact .cont (fin p)
  · rintro h' tk m' news' F' N' _ hJ
    exact done m' news' h' tk hJ F' N'
end
end
section
def PairsOk (news : List (Addr × Obj)) (hs ds : List Value) : Prop :=
  hs.length = ds.length ∧ ∀ j, j < hs.length → ∃ a b t1 t2 vs n1 n2, hs[j]? = some (.ref a) ∧ ds[j]? = some (.ref b) ∧ a ≠ b ∧ (a, listOf (Value.str (Str.ofString "P") t1 :: vs).toArray n1) ∈ news ∧ (b, listOf (Value.str (Str.ofString "P") t2 :: vs).toArray n2) ∈ news
theorem pairs_nil (news : List (Addr × Obj)) : PairsOk news [] [] := ⟨rfl, fun j h => absurd h (Nat.not_lt_zero j)⟩
theorem pairs_sub {news news' : List (Addr × Obj)} {hs ds : List Value} (P : PairsOk news hs ds) (h : ∀ p ∈ news, p ∈ news') : PairsOk news' hs ds :=
  ⟨P.1, fun j hj => let ⟨a, b, t1, t2, vs, n1, n2, e1, e2, e3, e4, e5⟩ := P.2 j hj; ⟨a, b, t1, t2, vs, n1, n2, e1, e2, e3, h _ e4, h _ e5⟩⟩
theorem pairs_snoc {news : List (Addr × Obj)} {hs ds : List Value} {a b : Addr} {t1 t2 : Tok} {vs : List Value} {n1 n2 : Nat} (P : PairsOk news hs ds) (hab : a ≠ b) (ha : (a, listOf (Value.str (Str.ofString "P") t1 :: vs).toArray n1) ∈ news) (hb : (b, listOf (Value.str (Str.ofString "P") t2 :: vs).toArray n2) ∈ news) :
    PairsOk news (hs ++ [.ref a]) (ds ++ [.ref b]) := by
  refine ⟨by simp [P.1], fun j hj => ?_⟩
  by_cases q : j < hs.length
  · obtain ⟨a, b, t1, t2, vs, n1, n2, e1, e2, e3⟩ := P.2 j q
    exact ⟨a, b, t1, t2, vs, n1, n2, by rw [List.getElem?_append_left q]; exact e1, by rw [List.getElem?_append_left (P.1 ▸ q)]; exact e2, e3⟩
  · have e : j = hs.length := by simp at hj; omega
    subst e
    exact ⟨a, b, t1, t2, vs, n1, n2, by simp, by rw [P.1]; simp, hab, ha, hb⟩
theorem ne_pairs {prog : Program} {w : World} {A : Around} {E : Value → Shared → Prop} {s : Shared} {h₀ : Heap} {L a b : Addr} {news : List (Addr × Obj)} {hs ds : List Value} {n1 n2 : Nat} {Q : Value → Shared → Prop} (N : News h₀ L s.heap news) (ha : (a, listOf hs.toArray n1) ∈ news) (hb : (b, listOf ds.toArray n2) ∈ news)
    (P : PairsOk news hs ds) (hu : A.in1.units < cLine) (hu0 : A.units < cLine) (h : Q (.bool false) s) : wpAny (model prog w) A (compareOp .NotEq (.ref a) (.ref b)) Q E s := by
  have key := SeqAt.RcNeAt.lists (A := A) (e := fun _ => true) (News.isList N ha) (News.isList N hb) (by simp [P.1]) hu0 (fun j h1 h2 => by
    obtain ⟨x, y, t1, t2, vs, m1, m2, e1, e2, e3, e4, e5⟩ := P.2 j (by simpa using h1)
    have g1 : hs.toArray[j] = .ref x := by
      have : hs.toArray[j]? = some (.ref x) := by simpa using e1
      rw [Array.getElem?_eq_getElem h1] at this; exact Option.some.inj this
    have g2 : ds.toArray[j] = .ref y := by
      have : ds.toArray[j]? = some (.ref y) := by simpa using e2
      rw [Array.getElem?_eq_getElem h2] at this; exact Option.some.inj this
    rw [g1, g2]
    have z := SeqAt.RcAt.lists (A := A.in1) (e := fun _ => true) (News.isList N e4) (News.isList N e5) (by simp) hu (fun i i1 i2 => by
      cases i with
      | zero =>
        have q := SeqAt.EqAt.str_str (A := A.in1.in1) (s := s) (Str.ofString "P") t1 (Str.ofString "P") t2
        rw [beq_self_eq_true] at q
        simpa using q
      | succ i =>
        have q := SeqAt.EqAt.same (A := A.in1.in1) (s := s) (vs[i]'(by simpa using i1))
        simpa using q)
    have al : (List.range (Value.str (Str.ofString "P") t1 :: vs).toArray.size).all (fun _ => true) = true := by simp
    rw [al] at z
    exact SeqAt.EqAt.of_refs e3 z)
  have al : (!(List.range hs.toArray.size).all (fun _ => true)) = false := by simp
  rw [al] at key
  exact key prog w E Q h
end
def CallsA (w : World) (fa ca : Addr) (oA oc : Obj) : Prop := ∀ {A₀ : Around} {base h₀ : Heap} {outer : List Env} {L : Addr} {m mg mb : Str → Option Value} {mean : ExcName → Option Value} {pT : Program} {looseT : List Str} {s : Shared} {R : Result → Shared → Prop}
    {cn : Str} {cs : Scope} {cx : Addr} {ccd : Value} {d u : Nat} {gs : Option (List Code)} {news : List (Addr × Obj)} {a b c : Value}
    (_ : Below A₀ base outer h₀) (_ : Fr h₀ L s.heap m) (_ : (hd.heap_1 w.params).In h₀) (_ : News h₀ L s.heap news) (_ : Top pT looseT mean mg mb h₀)
    (_ : cs.kind = .function) (_ : d < 990) (_ : u < 9900) (_ : (fa, oA) ∈ news) (_ : (ca, oc) ∈ news)
    (_ : ∀ h' tk t, Fr h₀ L h' m → News h₀ L h' news → R (.ok (.ret (.str (Str.ofString "P") t))) { s with heap := h', toks := tk }),
    codeAny (model PySem.Challenge.rw_qz0130_01.row.prog w) (Around.mk none d (some (envOf cn cs L cx ccd :: outer)) gs u) (.call (.ref fa) ⟨[a, b, c], []⟩) R s
def CallsS (w : World) (fs ca : Addr) (oS oc : Obj) : Prop := ∀ {A₀ : Around} {base h₀ : Heap} {outer : List Env} {L : Addr} {m mg mb : Str → Option Value} {mean : ExcName → Option Value} {pT : Program} {looseT : List Str} {s : Shared} {R : Result → Shared → Prop}
    {cn : Str} {cs : Scope} {cx : Addr} {ccd : Value} {d u n : Nat} {gs : Option (List Code)} {news : List (Addr × Obj)} {a c q : Value} {b vl : Addr} {vs : List Value}
    (_ : Below A₀ base outer h₀) (_ : Fr h₀ L s.heap m) (_ : (hd.heap_1 w.params).In h₀) (_ : News h₀ L s.heap news) (_ : Top pT looseT mean mg mb h₀)
    (_ : cs.kind = .function) (_ : d < 980) (_ : u < 9800) (_ : (fs, oS) ∈ news) (_ : (ca, oc) ∈ news) (_ : (b, (⟨.type "tuple", none, .seq #[q, .ref vl], #[]⟩ : Obj)) ∈ news) (_ : (vl, listOf vs.toArray n) ∈ news) (_ : vs.length ≤ 16)
    (_ : ∀ l h' tk n', Fr h₀ L h' m → News h₀ L h' ((l, listOf vs.toArray n') :: news) → (∀ p ∈ news, p.1 < l) → R (.ok (.ret (.ref l))) { s with heap := h', toks := tk }),
    codeAny (model PySem.Challenge.rw_qz0130_01.row.prog w) (Around.mk none d (some (envOf cn cs L cx ccd :: outer)) gs u) (.call (.ref fs) ⟨[a, .ref b, c], []⟩) R s
def CallsW (w : World) (fw ca ce he : Addr) (oW oc oce : Obj) : Prop := ∀ {A₀ : Around} {base h₀ : Heap} {outer : List Env} {L : Addr} {m mg mb : Str → Option Value} {mean : ExcName → Option Value} {pT : Program} {looseT : List Str} {s : Shared} {R : Result → Shared → Prop}
    {cn : Str} {cs : Scope} {cx : Addr} {ccd : Value} {d u n n1 : Nat} {gs : Option (List Code)} {news : List (Addr × Obj)} {g : Obj → List (Addr × Obj)} {a c : Value} {ml : Addr} {vs hs : List Value}
    (_ : Below A₀ base outer h₀) (_ : Fr h₀ L s.heap m) (_ : (hd.heap_1 w.params).In h₀) (_ : News h₀ L s.heap news) (_ : Top pT looseT mean mg mb h₀)
    (_ : cs.kind = .function) (_ : d < 980) (_ : u < 9800) (_ : (fw, oW) ∈ news) (_ : (ca, oc) ∈ news) (_ : (ce, oce) ∈ news) (_ : UpdF he (listOf hs.toArray n) news g) (_ : (ml, listOf vs.toArray n1) ∈ news) (_ : vs.length ≤ 16) (_ : hs.length ≤ 16) (_ : @Ne Nat ml he)
    (_ : ∀ h' tk t n', Fr h₀ L h' m → News h₀ L h' (g (listOf (hs ++ [Value.ref ml]).toArray n')) → R (.ok (.ret (.int (vs.length : Int) t))) { s with heap := h', toks := tk }),
    codeAny (model PySem.Challenge.rw_qz0130_01.row.prog w) (Around.mk none d (some (envOf cn cs L cx ccd :: outer)) gs u) (.call (.ref fw) ⟨[a, .ref ml, c], []⟩) R s
theorem sub_trans {a b c : List (Addr × Obj)} (h : ∀ p ∈ b, p ∈ c) (k : ∀ p ∈ a, p ∈ b) : ∀ p ∈ a, p ∈ c := fun p hp => h p (k p hp)
def CacheSt (w : World) (cd : Addr) (odmc : Obj) (c1 c2 c3 c4 : Addr) (o1 o2 o3 o4 : Obj) : Prop :=
  (c1 == sysModules) = false ∧ ((∃ va vb vc, odmc = dictOf [⟨PyData.keyHash w.params (Str.ofString "generation"), .str (Str.ofString "generation") va, .int (-1) vb⟩, ⟨PyData.keyHash w.params (Str.ofString "table"), .str (Str.ofString "table") vc, .ref c1⟩] 2 ∧ o1.IsDictOf (strKind PySem.Challenge.rw_qz0130_01.row.prog w) []) ∨
  (∃ va vb vc ktv ktt ktp ktu, odmc = dictOf [⟨PyData.keyHash w.params (Str.ofString "generation"), .str (Str.ofString "generation") va, .int 1 vb⟩, ⟨PyData.keyHash w.params (Str.ofString "table"), .str (Str.ofString "table") vc, .ref c1⟩] 2 ∧ MT PySem.Challenge.rw_qz0130_01.row.prog w o1 (Str.ofString "go", [Str.ofString "P", Str.ofString "UNIVERSAL"]) c3 (.ref c4) ∧
    o2 = (⟨.type "tuple", none, .seq #[.str (Str.ofString "P") ktp, .str (Str.ofString "UNIVERSAL") ktu], #[]⟩ : Obj) ∧ o3 = (⟨.type "tuple", none, .seq #[.str (Str.ofString "go") ktt, .ref c2], #[]⟩ : Obj) ∧ o4 = (⟨.type "tuple", none, .seq #[.ref cd, .str (Str.ofString "P") ktv], #[]⟩ : Obj)))
def Hold (p : Prop) : Prop := p
theorem hold {p : Prop} (h : Hold p) : p := h
section
inductive AddrsX (d : Addr) : List (Addr × Obj) → List Addr → Prop
  | cons {a o r ar} : AddrsX d r ar → AddrsX d ((a, o) :: r) (a :: ar)
  | tail {r} : AllNe d r → AddrsX d r []
theorem AddrsX.ne {d : Addr} {l : List (Addr × Obj)} {as : List Addr} (A : AddrsX d l as) : (∀ x ∈ as, x ≠ d) → ∀ p ∈ l, p.1 ≠ d := by
  induction A with
  | cons A ih =>
    intro h p hp
    rcases List.mem_cons.mp hp with rfl | hp
    · exact h _ (.head _)
    · exact ih (fun x hx => h x (.tail _ hx)) p hp
  | tail h => intro _; exact h
inductive UpdFX (d : Addr) (o : Obj) : List (Addr × Obj) → (Obj → List (Addr × Obj)) → List Addr → Prop
  | head {r ar} : AddrsX d r ar → UpdFX d o ((d, o) :: r) (fun o' => (d, o') :: r) (d :: ar)
  | tail {a ob r g ar} : UpdFX d o r g ar → UpdFX d o ((a, ob) :: r) (fun o' => (a, ob) :: g o') (a :: ar)
theorem UpdFX.both {d : Addr} {o : Obj} {l : List (Addr × Obj)} {g : Obj → List (Addr × Obj)} {as : List Addr} (W : UpdFX d o l g as) (S : SD as) : d ∈ as ∧ UpdF d o l g := by
  induction W with
  | head A => exact ⟨.head _, .head (A.ne fun x hx => Nat.ne_of_lt ((List.pairwise_cons.mp S).1 _ hx))⟩
  | tail W ih =>
    obtain ⟨m, u⟩ := ih (List.pairwise_cons.mp S).2
    exact ⟨.tail _ m, .tail (Nat.ne_of_gt ((List.pairwise_cons.mp S).1 _ m)) u⟩
theorem updF_of_X {d : Addr} {o : Obj} {l : List (Addr × Obj)} {g : Obj → List (Addr × Obj)} {as : List Addr} (W : UpdFX d o l g as) (S : SD as) : UpdF d o l g := (W.both S).2
inductive UpdX (d : Addr) (o o' : Obj) : List (Addr × Obj) → List (Addr × Obj) → List Addr → Prop
  | head {r ar} : AddrsX d r ar → UpdX d o o' ((d, o) :: r) ((d, o') :: r) (d :: ar)
  | tail {a ob r r' ar} : UpdX d o o' r r' ar → UpdX d o o' ((a, ob) :: r) ((a, ob) :: r') (a :: ar)
theorem UpdX.both {d : Addr} {o o' : Obj} {l l' : List (Addr × Obj)} {as : List Addr} (W : UpdX d o o' l l' as) (S : SD as) : d ∈ as ∧ Upd d o o' l l' := by
  induction W with
  | head A => exact ⟨.head _, .head (A.ne fun x hx => Nat.ne_of_lt ((List.pairwise_cons.mp S).1 _ hx))⟩
  | tail W ih =>
    obtain ⟨m, u⟩ := ih (List.pairwise_cons.mp S).2
    exact ⟨.tail _ m, .tail (Nat.ne_of_gt ((List.pairwise_cons.mp S).1 _ m)) u⟩
theorem upd_of_X {d : Addr} {o o' : Obj} {l l' : List (Addr × Obj)} {as : List Addr} (W : UpdX d o o' l l' as) (S : SD as) : Upd d o o' l l' := (W.both S).2
theorem c_off {h₀ h : Heap} {L c I : Addr} {o it : Obj} {led : List (Addr × Obj)} (N : News h₀ L h led) (hI : (I, it) ∈ led) (hc : (c, o) ∈ led) (n : o.cls ≠ it.cls) : c ≠ I := by
  rintro rfl
  have e := (N _ hI).1
  rw [(N _ hc).1] at e
  cases e
  exact n rfl
theorem allNe_cons {d a : Addr} {o : Obj} {r : List (Addr × Obj)} (h : a ≠ d) (k : AllNe d r) : AllNe d ((a, o) :: r) := fun p hp => by
  rcases List.mem_cons.mp hp with rfl | hp
  · exact h
  · exact k p hp
theorem cache_norm {w : World} {cd dmc : Addr} {odmc : Obj} {c1 c2 c3 c4 : Addr} {o1 o2 o3 o4 : Obj} (C : CacheSt w cd odmc c1 c2 c3 c4 o1 o2 o3 o4)
    (q1 : @LT.lt Nat _ dmc c1) (q2 : @LT.lt Nat _ dmc c2) (q3 : @LT.lt Nat _ dmc c3) (q4 : @LT.lt Nat _ dmc c4) :
    ∃ d2 d3 d4 p2 p3 p4, CacheSt w cd odmc c1 d2 d3 d4 o1 p2 p3 p4 ∧ @LT.lt Nat _ dmc d2 ∧ @LT.lt Nat _ dmc d3 ∧ @LT.lt Nat _ dmc d4 ∧
      (o1.cls = .type "dict" ∧ (p2.cls = .type "dict" ∨ p2.cls = .type "tuple") ∧ (p3.cls = .type "dict" ∨ p3.cls = .type "tuple") ∧ (p4.cls = .type "dict" ∨ p4.cls = .type "tuple")) ∧
      ∀ full : List (Addr × Obj), (c1, o1) ∈ full → (c2, o2) ∈ full → (c3, o3) ∈ full → (c4, o4) ∈ full → (d2, p2) ∈ full ∧ (d3, p3) ∈ full ∧ (d4, p4) ∈ full := by
  obtain ⟨lo, ⟨va, vb, vc, e, x⟩ | ⟨va, vb, vc, a1, a2, a3, a4, e, x, e2, e3, e4⟩⟩ := C
  · obtain ⟨es, ep, ed, _⟩ := x
    exact ⟨c1, c1, c1, o1, o1, o1, ⟨lo, .inl ⟨va, vb, vc, e, es, ep, ed, by assumption⟩⟩, q1, q1, q1, ⟨ed.1, .inl ed.1, .inl ed.1, .inl ed.1⟩, fun full m _ _ _ => ⟨m, m, m⟩⟩
  · refine ⟨c2, c3, c4, o2, o3, o4, ⟨lo, .inr ⟨va, vb, vc, a1, a2, a3, a4, e, x, e2, e3, e4⟩⟩, q2, q3, q4, ⟨x.1.1, ?_, ?_, ?_⟩, fun full _ m2 m3 m4 => ⟨m2, m3, m4⟩⟩
    · rw [e2]; exact .inr rfl
    · rw [e3]; exact .inr rfl
    · rw [e4]; exact .inr rfl
end
section
theorem updF_upd {d : Addr} {o : Obj} {l : List (Addr × Obj)} {g : Obj → List (Addr × Obj)} (U : UpdF d o l g) (o' : Obj) : Upd d o o' l (g o') := by
  induction U with
  | head h => exact .head h
  | tail h _ ih => exact .tail h ih
theorem updF_mem {d a : Addr} {o x : Obj} {l : List (Addr × Obj)} {g : Obj → List (Addr × Obj)} (U : UpdF d o l g) (o' : Obj) (n : a ≠ d) (h : (a, x) ∈ l) : (a, x) ∈ g o' := by
  induction U with
  | head _ =>
    rcases List.mem_cons.mp h with e | h
    · exact absurd (congrArg Prod.fst e) n
    · exact .tail _ h
  | tail _ _ ih =>
    rcases List.mem_cons.mp h with e | h
    · rw [e]; exact .head _
    · exact .tail _ (ih h)
theorem updF_self {d : Addr} {o : Obj} {l : List (Addr × Obj)} {g : Obj → List (Addr × Obj)} (U : UpdF d o l g) : (d, o) ∈ l := by
  induction U with
  | head _ => exact .head _
  | tail _ _ ih => exact .tail _ ih
theorem size_16 {hs : List Value} (h : hs.length ≤ 16) : hs.toArray.size ≤ sizeLine := Nat.le_trans (by simpa using h) (Nat.le_of_ble_eq_true rfl : 16 ≤ sizeLine)
end
section
inductive Chg (h' : Heap) : List Addr → List (Addr × Obj) → List (Addr × Obj) → Prop
  | nil {l} : Chg h' [] l l
  | step {d ds o o' l g l'} (U : UpdF d o l g) (e : h'.get? d = some o') (r : Chg h' ds (g o') l') : Chg h' (d :: ds) l l'
theorem updF_in {d : Addr} {o o' : Obj} {l : List (Addr × Obj)} {g : Obj → List (Addr × Obj)} (U : UpdF d o l g) : (d, o) ∈ l ∧ ∀ q ∈ g o', q = (d, o') ∨ (q ∈ l ∧ q.1 ≠ d) := by
  obtain ⟨pre, post, rfl, hg, a, b⟩ := U.split
  refine ⟨List.mem_append_right _ (.head _), fun q hq => ?_⟩
  rw [hg] at hq
  rcases List.mem_append.mp hq with m | m
  · exact .inr ⟨List.mem_append_left _ m, a q m⟩
  · rcases List.mem_cons.mp m with m | m
    · exact .inl m
    · exact .inr ⟨List.mem_append_right _ (.tail _ m), b q m⟩
theorem Chg.mem {h' : Heap} {ds : List Addr} {l l' : List (Addr × Obj)} (C : Chg h' ds l l') : ∀ p ∈ l', (p ∈ l ∧ p.1 ∉ ds) ∨ (h'.get? p.1 = some p.2 ∧ ∃ o, (p.1, o) ∈ l) := by
  induction C with
  | nil => exact fun p hp => .inl ⟨hp, List.not_mem_nil⟩
  | @step d ds o o' l g l' U e r ih =>
    intro p hp
    have y := updF_in (o' := o') U
    rcases ih p hp with ⟨m, n⟩ | ⟨m, o1, n⟩
    · rcases y.2 p m with q | ⟨q, q2⟩
      · subst q; exact .inr ⟨e, o, y.1⟩
      · exact .inl ⟨q, fun z => (List.mem_cons.mp z).elim q2 n⟩
    · refine .inr ⟨m, ?_⟩
      rcases y.2 _ n with q | ⟨q, _⟩
      · have q1 : p.1 = d := congrArg Prod.fst q
        exact ⟨o, q1 ▸ y.1⟩
      · exact ⟨o1, q⟩
theorem news_chg {h₀ h h' : Heap} {L : Addr} {ds : List Addr} {l l' : List (Addr × Obj)} (N : News h₀ L h l) (C : Chg h' ds l l') (K : ∀ b x, h.get? b = some x → b ∉ ds → h'.get? b = some x) : News h₀ L h' l' := by
  intro p hp
  rcases C.mem p hp with ⟨m, n⟩ | ⟨m, o, n⟩
  · exact ⟨K _ _ (N p m).1 n, (N p m).2⟩
  · exact ⟨m, (N _ n).2⟩
theorem keep_chg {h₀ h h' : Heap} {L : Addr} {ds : List Addr} {led : List (Addr × Obj)} (N : News h₀ L h led) (K : ∀ b x, h.get? b = some x → b ∉ led.map (·.1) → h'.get? b = some x)
    (S : ∀ p ∈ led, p.1 ∈ ds ∨ h'.get? p.1 = some p.2) : ∀ b x, h.get? b = some x → b ∉ ds → h'.get? b = some x := by
  intro b x e n
  by_cases m : b ∈ led.map (·.1)
  · obtain ⟨p, hp, rfl⟩ := List.mem_map.mp m
    have y := (N p hp).1
    rw [e] at y
    rcases S p hp with q | q
    · exact absurd q n
    · rw [q]; exact y.symm
  · exact K b x e m
end
section
theorem sub_succ {i q : Nat} (h : i + 1 ≤ q) : q - i = (q - (i + 1)) + 1 := by omega
noncomputable def sel (l : List Obj) : Nat → List Addr → List Obj :=
  @List.rec Obj (fun _ => Nat → List Addr → List Obj) (fun _ _ => []) (fun o _ ih i as => @List.rec Addr (fun _ => List Obj) [] (fun a as' _ => @Bool.rec (fun _ => List Obj) (ih (Nat.succ i) (List.cons a as')) (List.cons o (ih (Nat.succ i) as')) (Nat.beq i a)) as) l
theorem sel_get : ∀ (l : List Obj) (i : Nat) (K : Frag), sel l i (K.map (·.1)) = K.map (·.2) → ∀ p ∈ K, i ≤ p.1 ∧ l[p.1 - i]? = some p.2
  | [], _, K, h, p, m => by
    cases K with
    | nil => cases m
    | cons q r => exact absurd (show ([] : List Obj) = q.2 :: r.map (·.2) from h) (by simp)
  | o :: l, i, K, h, p, m => by
    cases K with
    | nil => cases m
    | cons q r =>
      obtain ⟨a, x⟩ := q
      have h' : @Bool.rec (fun _ => List Obj) (sel l (i + 1) (((a, x) :: r).map (·.1))) (o :: sel l (i + 1) (r.map (·.1))) (Nat.beq i a) = x :: r.map (·.2) := h
      cases hb : Nat.beq i a with
      | false =>
        rw [hb] at h'
        have ih := sel_get l (i + 1) ((a, x) :: r) h' p m
        have ih1 : i + 1 ≤ p.1 := ih.1
        refine ⟨by omega, ?_⟩
        have e1 : @Eq Nat (p.1 - i) ((p.1 - (i + 1)) + 1) := by exact sub_succ ih1
        rw [e1, List.getElem?_cons_succ]
        exact ih.2
      | true =>
        rw [hb] at h'
        have e : i = a := Nat.eq_of_beq_eq_true hb
        subst e
        obtain ⟨h1, h2⟩ := List.cons.inj (show o :: sel l (i + 1) (r.map (·.1)) = x :: r.map (·.2) from h')
        rcases List.mem_cons.mp m with rfl | m'
        · refine ⟨Nat.le_refl _, ?_⟩
          show (o :: l)[i - i]? = some x
          rw [Nat.sub_self, h1]; rfl
        · have ih := sel_get l (i + 1) r h2 p m'
          have ih1 : i + 1 ≤ p.1 := ih.1
          refine ⟨by omega, ?_⟩
          have e1 : @Eq Nat (p.1 - i) ((p.1 - (i + 1)) + 1) := by exact sub_succ ih1
          rw [e1, List.getElem?_cons_succ]
          exact ih.2
def fine (o : Obj) : Bool := match o.data with | .freed => false | _ => true
theorem get_fine {h : Heap} {a : Addr} {o : Obj} (x : h.objs[a]? = some o) (f : fine o = true) : h.get? a = some o := by
  unfold Heap.get?
  rw [x]
  obtain ⟨c, d, t, sl⟩ := o
  cases t <;> first | rfl | cases f
theorem in_sel {K : Frag} {as : List Addr} {h : Heap} (e : as = K.map (·.1)) (f : (K.all fun p => fine p.2) = true) (x : sel h.objs.toList 0 as = K.map (·.2)) : K.In h := by
  subst e
  refine Frag.in_of rfl ?_
  rw [List.map_map]
  refine List.map_congr_left fun p m => ?_
  have y := (sel_get _ _ _ x p m).2
  rw [Nat.sub_zero, Array.getElem?_toList] at y
  exact get_fine y (List.all_eq_true.mp f p m)
noncomputable def fastHook (K : Params → Frag) (as : List Addr) (e : ∀ P, as = (K P).map (·.1)) (f : ∀ P, ((K P).all fun p => fine p.2) = true) (ts : List Addr) : Hook where
  α := List Obj × List (Option Obj)
  obs := fun s => (sel s.heap.objs.toList 0 as, ts.map s.heap.get?)
  val := fun w => ((K w.params).map (·.2), ts.map fun _ => some (tabObj #[]))
  says := fun w h => InK K w h ∧ ∀ P ∈ ts, h.get? P = some (tabObj #[])
  of := fun _ _ x => ⟨in_sel (e _) (f _) (Prod.mk.inj x).1, List.map_inj_left.mp (Prod.mk.inj x).2⟩
  keeps := fun w h h' x k => ⟨InK.keeps w h h' x.1 k, fun P hP => k _ _ (x.2 P hP)⟩
theorem walk_km {q : Program} {loose : List Str} {XP : (Str → Option Value) → Heap → Prop} {K : Params → Frag} {as : List Addr} {e : ∀ P, as = (K P).map (·.1)} {f : ∀ P, ((K P).all fun p => fine p.2) = true} {ts : List Addr} {r : RowW} {d : DefRec} {kwd : List (Str × Expr)} {run : Value → List Value → Sem Value}
    (h : WalkO q loose XP (kmHook K as e ts).says r d kwd run) : WalkO q loose XP (fastHook K as e f ts).says r d kwd run := h
end
section
theorem updF_left {d : Addr} {o : Obj} {l r : List (Addr × Obj)} {g : Obj → List (Addr × Obj)} (U : UpdF d o l g) (h : AllNe d r) : UpdF d o (l ++ r) (fun o' => g o' ++ r) := by
  induction U with
  | @head q hq => exact UpdF.head fun p hp => (List.mem_append.mp hp).elim (hq p) (h p)
  | tail n _ ih => exact UpdF.tail n ih
theorem updF_right {d : Addr} {o : Obj} {l : List (Addr × Obj)} {g : Obj → List (Addr × Obj)} (U : UpdF d o l g) : ∀ {f : List (Addr × Obj)}, AllNe d f → UpdF d o (f ++ l) (fun o' => f ++ g o')
  | [], _ => U
  | (_, _) :: _, h => UpdF.tail (h _ (.head _)) (updF_right U fun p hp => h p (.tail _ hp))
inductive Split : List (Addr × Obj) → List (Addr × Obj) → List (Addr × Obj) → Prop
  | nil {r} : Split [] r r
  | cons {x f r l} : Split f r l → Split (x :: f) r (x :: l)
theorem Split.eq {f r l : List (Addr × Obj)} (S : Split f r l) : l = f ++ r := by
  induction S with
  | nil => rfl
  | cons _ ih => rw [ih]; rfl
theorem dis0 {rest : List (Addr × Obj)} : ∀ p ∈ ([] : List (Addr × Obj)), AllNe p.1 rest := fun _ h => (List.not_mem_nil h).elim
theorem dis1 {a : Addr} {o : Obj} {l rest : List (Addr × Obj)} (h : AllNe a rest) (q : ∀ p ∈ l, AllNe p.1 rest) : ∀ p ∈ (a, o) :: l, AllNe p.1 rest := fun p hp => by
  rcases List.mem_cons.mp hp with rfl | hp
  · exact h
  · exact q p hp
theorem allNe_lt {x : Addr} {l r : List (Addr × Obj)} (h : ∀ p ∈ l, p.1 < x) (s : ∀ p ∈ r, p ∈ l) : AllNe x r := fun p hp => Nat.ne_of_lt (h p (s p hp))
theorem lt_sub {x : Addr} {l r : List (Addr × Obj)} (h : ∀ p ∈ l, p.1 < x) (s : ∀ p ∈ r, p ∈ l) : ∀ p ∈ r, @LT.lt Nat _ p.1 x := fun p hp => h p (s p hp)
def lastOf : Addr → List Addr → Addr
  | a, [] => a
  | _, b :: r => lastOf b r
theorem sd_min : ∀ {a : Addr} {r : List Addr}, SD (a :: r) → ∀ x ∈ a :: r, @LE.le Nat _ (lastOf a r) x
  | a, [], _, x, h => by rcases List.mem_cons.mp h with rfl | h; exact Nat.le_refl _; cases h
  | a, b :: r, S, x, h => by
    have q := List.pairwise_cons.mp S
    rcases List.mem_cons.mp h with rfl | h
    · exact Nat.le_trans (sd_min q.2 b (.head _)) (Nat.le_of_lt (q.1 b (.head _)))
    · exact sd_min q.2 x h
theorem all_cons {x : Addr × Obj} {l f : List (Addr × Obj)} (h : x ∈ f) (r : ∀ p ∈ l, p ∈ f) : ∀ p ∈ x :: l, p ∈ f := fun p hp => by
  rcases List.mem_cons.mp hp with rfl | hp
  · exact h
  · exact r p hp
theorem low_all {b d : Addr} {a1 a2 a3 a4 : Addr × Obj} {oth pl : List (Addr × Obj)} {a : Addr} {r : List Addr} (hd : lastOf a r = d) (S : SD (a :: r)) (e : oth.map (·.1) = a :: r) (hb : @LT.lt Nat _ b d) {m : Addr} (hm : m ∈ a :: r)
    (h1 : @LT.lt Nat _ m a1.1) (h2 : @LT.lt Nat _ m a2.1) (h3 : @LT.lt Nat _ m a3.1) (h4 : @LT.lt Nat _ m a4.1) (hp : ∀ p ∈ pl, @LT.lt Nat _ a p.1) : ∀ p ∈ a1 :: a2 :: a3 :: a4 :: (oth ++ pl), @LT.lt Nat _ b p.1 := fun p h => by
  have k := sd_min S
  rw [hd] at k
  have km : @LT.lt Nat _ b m := Nat.lt_of_lt_of_le hb (k m hm)
  rcases List.mem_cons.mp h with rfl | h
  · exact Nat.lt_trans km h1
  rcases List.mem_cons.mp h with rfl | h
  · exact Nat.lt_trans km h2
  rcases List.mem_cons.mp h with rfl | h
  · exact Nat.lt_trans km h3
  rcases List.mem_cons.mp h with rfl | h
  · exact Nat.lt_trans km h4
  rcases List.mem_append.mp h with h | h
  · exact Nat.lt_of_lt_of_le hb (k _ (e ▸ List.mem_map_of_mem h))
  · exact Nat.lt_trans (Nat.lt_of_lt_of_le hb (k a (.head _))) (hp p h)
theorem in_oth {a1 a2 a3 a4 x : Addr × Obj} {oth pl : List (Addr × Obj)} (h : x ∈ oth) : x ∈ a1 :: a2 :: a3 :: a4 :: (oth ++ pl) := .tail _ (.tail _ (.tail _ (.tail _ (List.mem_append_left _ h))))
theorem ne_of_low {b : Addr} {l : List (Addr × Obj)} (h : ∀ p ∈ l, @LT.lt Nat _ b p.1) : AllNe b l := fun p hp => Nat.ne_of_gt (h p hp)
theorem dis_ne {front rest : List (Addr × Obj)} {d : Addr} {o : Obj} (h : ∀ p ∈ front, AllNe p.1 rest) (m : (d, o) ∈ rest) : AllNe d front := fun p hp e => h p hp _ m e.symm
theorem sub_left {a b : List (Addr × Obj)} : ∀ p ∈ a, p ∈ a ++ b := fun _ h => List.mem_append_left _ h
theorem news_5 {h₀ h : Heap} {L : Addr} {x a b c d a' b' c' d' : Addr × Obj} {f oth pl : List (Addr × Obj)} (N : News h₀ L h (x :: a :: b :: c :: d :: (f ++ (a' :: b' :: c' :: d' :: (oth ++ pl))))) {e2 e3 e4 : Addr × Obj}
    (hm : ∀ full : List (Addr × Obj), a ∈ full → b ∈ full → c ∈ full → d ∈ full → e2 ∈ full ∧ e3 ∈ full ∧ e4 ∈ full) : News h₀ L h (x :: (f ++ (a :: e2 :: e3 :: e4 :: (oth ++ pl)))) := fun p hp => by
  have m := hm (x :: a :: b :: c :: d :: (f ++ (a' :: b' :: c' :: d' :: (oth ++ pl)))) (by simp) (by simp) (by simp) (by simp)
  rcases List.mem_cons.mp hp with rfl | hp
  · exact N _ (.head _)
  rcases List.mem_append.mp hp with hp | hp
  · exact N _ (by simp [hp])
  rcases List.mem_cons.mp hp with rfl | hp
  · exact N _ (by simp)
  rcases List.mem_cons.mp hp with rfl | hp
  · exact N _ m.1
  rcases List.mem_cons.mp hp with rfl | hp
  · exact N _ m.2.1
  rcases List.mem_cons.mp hp with rfl | hp
  · exact N _ m.2.2
  · exact N _ (by simp [List.mem_append.mp hp])
theorem mid2 {P : Addr × Obj → Prop} {a1 a2 a3 a4 x y : Addr × Obj} {oth pl : List (Addr × Obj)} (h : ∀ p ∈ a1 :: a2 :: a3 :: a4 :: (oth ++ pl), P p) (hx : P x) (hy : P y) : ∀ p ∈ a1 :: a2 :: a3 :: a4 :: (oth ++ (x :: y :: pl)), P p := fun p hp => by
  rcases List.mem_cons.mp hp with rfl | hp
  · exact h _ (.head _)
  rcases List.mem_cons.mp hp with rfl | hp
  · exact h _ (.tail _ (.head _))
  rcases List.mem_cons.mp hp with rfl | hp
  · exact h _ (.tail _ (.tail _ (.head _)))
  rcases List.mem_cons.mp hp with rfl | hp
  · exact h _ (.tail _ (.tail _ (.tail _ (.head _))))
  rcases List.mem_append.mp hp with hp | hp
  · exact h _ (.tail _ (.tail _ (.tail _ (.tail _ (List.mem_append_left _ hp)))))
  rcases List.mem_cons.mp hp with rfl | hp
  · exact hx
  rcases List.mem_cons.mp hp with rfl | hp
  · exact hy
  · exact h _ (.tail _ (.tail _ (.tail _ (.tail _ (List.mem_append_right _ hp)))))
theorem cls_lr : (Value.type "list") ≠ (Value.type "range_iterator") := by decide
theorem ne_new {I : Addr} {a1 a2 a3 a4 b1 b2 b3 b4 : Addr × Obj} {oth oth' pl : List (Addr × Obj)} (e : oth'.map (·.1) = oth.map (·.1)) (h : AllNe I (a1 :: a2 :: a3 :: a4 :: (oth ++ pl))) (h1 : b1.1 ≠ I) (h2 : b2.1 ≠ I) (h3 : b3.1 ≠ I) (h4 : b4.1 ≠ I) : AllNe I (b1 :: b2 :: b3 :: b4 :: (oth' ++ pl)) := fun p hp => by
  rcases List.mem_cons.mp hp with rfl | hp
  · exact h1
  rcases List.mem_cons.mp hp with rfl | hp
  · exact h2
  rcases List.mem_cons.mp hp with rfl | hp
  · exact h3
  rcases List.mem_cons.mp hp with rfl | hp
  · exact h4
  rcases List.mem_append.mp hp with hp | hp
  · obtain ⟨x, hx, ex⟩ := List.mem_map.mp (e ▸ List.mem_map_of_mem hp : p.1 ∈ oth.map (·.1))
    rw [← ex]
    exact h x (.tail _ (.tail _ (.tail _ (.tail _ (List.mem_append_left _ hx)))))
  · exact h p (.tail _ (.tail _ (.tail _ (.tail _ (List.mem_append_right _ hp)))))
noncomputable def othR (w : World) (run g1 : Addr) (bd : Int) (ec : EC) (odmc : Obj) : List (Addr × Obj) := [(g1, (⟨.ref 142, some (ec.ad 11), .plain, #[]⟩ : Obj)), ((ec.ad 11), dictOf [⟨PyData.keyHash w.params (Str.ofString "number"), .str (Str.ofString "number") (ec.tk 37), .int (ec.iz 0) (ec.tk 24)⟩, ⟨PyData.keyHash w.params (Str.ofString "count"), .str (Str.ofString "count") (ec.tk 25), .int (ec.iz 1) (ec.tk 26)⟩, ⟨PyData.keyHash w.params (Str.ofString "blessed"), .str (Str.ofString "blessed") (ec.tk 27), .none⟩, ⟨PyData.keyHash w.params (Str.ofString "weak"), .str (Str.ofString "weak") (ec.tk 28), .ref (ec.ad 12)⟩, ⟨PyData.keyHash w.params (Str.ofString "is_destroyed"), .str (Str.ofString "is_destroyed") (ec.tk 29), .bool false⟩, ⟨PyData.keyHash w.params (Str.ofString "is_freed"), .str (Str.ofString "is_freed") (ec.tk 30), .bool false⟩, ⟨PyData.keyHash w.params (Str.ofString "name"), .str (Str.ofString "name") (ec.tk 31), .str (Str.ofString "P::go") (ec.tk 32)⟩, ⟨PyData.keyHash w.params (Str.ofString "scalar"), .str (Str.ofString "scalar") (ec.tk 33), .none⟩, ⟨PyData.keyHash w.params (Str.ofString "array"), .str (Str.ofString "array") (ec.tk 34), .none⟩, ⟨PyData.keyHash w.params (Str.ofString "hash"), .str (Str.ofString "hash") (ec.tk 35), .none⟩, ⟨PyData.keyHash w.params (Str.ofString "code"), .str (Str.ofString "code") (ec.tk 36), .ref (ec.ad 13)⟩] (ec.nt 2)), ((ec.ad 13), (⟨.ref 123, some (ec.ad 14), .plain, #[]⟩ : Obj)), ((ec.ad 14), dictOf [⟨PyData.keyHash w.params (Str.ofString "number"), .str (Str.ofString "number") (ec.tk 48), .int (ec.iz 3) (ec.tk 49)⟩, ⟨PyData.keyHash w.params (Str.ofString "count"), .str (Str.ofString "count") (ec.tk 50), .int (ec.iz 2) (ec.tk 51)⟩, ⟨PyData.keyHash w.params (Str.ofString "blessed"), .str (Str.ofString "blessed") (ec.tk 52), .none⟩, ⟨PyData.keyHash w.params (Str.ofString "weak"), .str (Str.ofString "weak") (ec.tk 53), .ref (ec.ad 16)⟩, ⟨PyData.keyHash w.params (Str.ofString "is_destroyed"), .str (Str.ofString "is_destroyed") (ec.tk 54), .bool false⟩, ⟨PyData.keyHash w.params (Str.ofString "is_freed"), .str (Str.ofString "is_freed") (ec.tk 55), .bool false⟩, ⟨PyData.keyHash w.params (Str.ofString "sub"), .str (Str.ofString "sub") (ec.tk 56), .none⟩, ⟨PyData.keyHash w.params (Str.ofString "captures"), .str (Str.ofString "captures") (ec.tk 57), .ref (ec.ad 15)⟩, ⟨PyData.keyHash w.params (Str.ofString "builtin"), .str (Str.ofString "builtin") (ec.tk 58), .ref (ec.ad 22)⟩, ⟨PyData.keyHash w.params (Str.ofString "package"), .str (Str.ofString "package") (ec.tk 59), .str (Str.ofString "main") (ec.tk 60)⟩] (ec.nt 3)), ((ec.ad 8), (ec.ob 1)), ((ec.ad 22), (⟨(ec.va 2), (ec.oa 2), .func (ec.fd 2), (ec.av 2)⟩ : Obj)), ((ec.ad 23), (ec.ob 4)), ((ec.ad 18), (⟨(ec.va 0), (ec.oa 0), .func (ec.fd 0), (ec.av 0)⟩ : Obj)), ((ec.ad 19), (ec.ob 2)), ((ec.ad 20), (⟨(ec.va 1), (ec.oa 1), .func (ec.fd 1), (ec.av 1)⟩ : Obj)), ((ec.ad 21), (ec.ob 3)), ((ec.ad 9), (⟨.ref 656, some (ec.ad 10), .plain, #[]⟩ : Obj)), ((ec.ad 10), odmc), (run, (⟨.ref 559, some (ec.ad 0), .plain, #[]⟩ : Obj)), ((ec.ad 0), dictOf [⟨PyData.keyHash w.params (Str.ofString "heap"), .str (Str.ofString "heap") (ec.tk 0), .ref (ec.ad 1)⟩, ⟨PyData.keyHash w.params (Str.ofString "counter"), .str (Str.ofString "counter") (ec.tk 1), .ref (ec.ad 2)⟩, ⟨PyData.keyHash w.params (Str.ofString "stash"), .str (Str.ofString "stash") (ec.tk 2), .ref (ec.ad 3)⟩, ⟨PyData.keyHash w.params (Str.ofString "limits"), .str (Str.ofString "limits") (ec.tk 3), .ref (ec.ad 6)⟩, ⟨PyData.keyHash w.params (Str.ofString "nodes"), .str (Str.ofString "nodes") (ec.tk 4), .ref (ec.ad 8)⟩, ⟨PyData.keyHash w.params (Str.ofString "lvs"), .str (Str.ofString "lvs") (ec.tk 5), .ref (ec.ad 25)⟩, ⟨PyData.keyHash w.params (Str.ofString "statements"), .str (Str.ofString "statements") (ec.tk 6), .ref (ec.ad 26)⟩, ⟨PyData.keyHash w.params (Str.ofString "funcs"), .str (Str.ofString "funcs") (ec.tk 7), .ref (ec.ad 27)⟩, ⟨PyData.keyHash w.params (Str.ofString "operators"), .str (Str.ofString "operators") (ec.tk 8), .ref (ec.ad 28)⟩, ⟨PyData.keyHash w.params (Str.ofString "out"), .str (Str.ofString "out") (ec.tk 9), .ref (ec.ad 29)⟩, ⟨PyData.keyHash w.params (Str.ofString "err"), .str (Str.ofString "err") (ec.tk 10), .ref (ec.ad 30)⟩, ⟨PyData.keyHash w.params (Str.ofString "saves"), .str (Str.ofString "saves") (ec.tk 11), .ref (ec.ad 31)⟩, ⟨PyData.keyHash w.params (Str.ofString "frames"), .str (Str.ofString "frames") (ec.tk 12), .ref (ec.ad 32)⟩, ⟨PyData.keyHash w.params (Str.ofString "match"), .str (Str.ofString "match") (ec.tk 13), .none⟩, ⟨PyData.keyHash w.params (Str.ofString "patterns"), .str (Str.ofString "patterns") (ec.tk 14), .ref (ec.ad 33)⟩, ⟨PyData.keyHash w.params (Str.ofString "steps"), .str (Str.ofString "steps") (ec.tk 15), .int 0 (ec.tk 19)⟩, ⟨PyData.keyHash w.params (Str.ofString "methods"), .str (Str.ofString "methods") (ec.tk 16), .ref (ec.ad 9)⟩, ⟨PyData.keyHash w.params (Str.ofString "call_code"), .str (Str.ofString "call_code") (ec.tk 17), .none⟩, ⟨PyData.keyHash w.params (Str.ofString "compile_text"), .str (Str.ofString "compile_text") (ec.tk 18), .none⟩] (ec.nt 0)), ((ec.ad 5), (ec.ob 0)), ((ec.ad 3), (⟨.ref 1139, some (ec.ad 4), .plain, #[]⟩ : Obj)), ((ec.ad 4), dictOf [⟨PyData.keyHash w.params (Str.ofString "heap"), .str (Str.ofString "heap") (ec.tk 20), .ref (ec.ad 1)⟩, ⟨PyData.keyHash w.params (Str.ofString "globs"), .str (Str.ofString "globs") (ec.tk 21), .ref (ec.ad 5)⟩, ⟨PyData.keyHash w.params (Str.ofString "generation"), .str (Str.ofString "generation") (ec.tk 22), .int 1 (ec.tk 23)⟩] (ec.nt 1)), ((ec.ad 24), (ec.ob 5)), ((ec.ad 6), (⟨.ref 1076, some (ec.ad 7), .plain, #[]⟩ : Obj)), ((ec.ad 7), dictOf [⟨PyData.keyHash w.params (Str.ofString "width"), .str (Str.ofString "width") (ec.tk 38), .int 64 (ec.tk 43)⟩, ⟨PyData.keyHash w.params (Str.ofString "depth"), .str (Str.ofString "depth") (ec.tk 39), .int 50 (ec.tk 44)⟩, ⟨PyData.keyHash w.params (Str.ofString "steps"), .str (Str.ofString "steps") (ec.tk 40), .int 1000000 (ec.tk 45)⟩, ⟨PyData.keyHash w.params (Str.ofString "text"), .str (Str.ofString "text") (ec.tk 41), .int 100000 (ec.tk 46)⟩, ⟨PyData.keyHash w.params (Str.ofString "items"), .str (Str.ofString "items") (ec.tk 42), .int bd (ec.tk 47)⟩] (ec.nt 4))]
noncomputable def oadR (run g1 : Addr) (ec : EC) : List Addr := [g1, (ec.ad 11), (ec.ad 13), (ec.ad 14), (ec.ad 8), (ec.ad 22), (ec.ad 23), (ec.ad 18), (ec.ad 19), (ec.ad 20), (ec.ad 21), (ec.ad 9), (ec.ad 10), run, (ec.ad 0), (ec.ad 5), (ec.ad 3), (ec.ad 4), (ec.ad 24), (ec.ad 6), (ec.ad 7)]
theorem oth_ad {w : World} {run g1 : Addr} {bd : Int} {ec : EC} {odmc : Obj} : (othR w run g1 bd ec odmc).map (·.1) = oadR run g1 ec := rfl
theorem sd_ix {l : List Addr} (S : SD l) (i j : Nat) {a b : Addr} (h : @LT.lt Nat _ i j) (ha : l[i]? = some a) (hb : l[j]? = some b) : @LT.lt Nat _ b a := by
  obtain ⟨h1, e1⟩ := List.getElem?_eq_some_iff.mp ha
  obtain ⟨h2, e2⟩ := List.getElem?_eq_some_iff.mp hb
  have q := List.pairwise_iff_getElem.mp S i j h1 h2 h
  rw [e1, e2] at q
  exact q
theorem oth_upd {w : World} {run g1 : Addr} {bd : Int} {ec : EC} {odmc : Obj} (S : SD (oadR run g1 ec)) : UpdF (ec.ad 10) odmc (othR w run g1 bd ec odmc) (fun o => othR w run g1 bd ec o) := by
  unfold othR
  unfold oadR at S
  exact updF_of_W (by with_reducible ((repeat (first | apply UpdFW.head | apply UpdFW.tail)); (repeat (first | apply AddrsOf.nil | apply AddrsOf.cons)))) S
inductive St (w : World) (run he : Addr) (bd : Int) (bo g1 : Addr) (hs ds : List Value) (rest : List (Addr × Obj)) : Prop
  | mk {ec : EC} {c1 c2 c3 c4 : Addr} {odmc o1 o2 o3 o4 : Obj} {pl : List (Addr × Obj)}
    (hrest : rest = (c1, o1) :: (c2, o2) :: (c3, o3) :: (c4, o4) :: (othR w run g1 bd ec odmc ++ pl))
    (lo : ((ec.ad 8) == sysModules) = false) (hnd : (ec.ob 1).IsDictOf (strKind PySem.Challenge.rw_qz0130_01.row.prog w) [(Str.ofString "some", .ref (ec.ad 20)), (Str.ofString "asked", .ref (ec.ad 18))]) (hA : CallsA w (ec.ad 18) (ec.ad 19) ⟨(ec.va 0), (ec.oa 0), .func (ec.fd 0), (ec.av 0)⟩ (ec.ob 2)) (logl : ((ec.ad 5) == sysModules) = false) (hog : (ec.ob 0).IsDictOf (strKind PySem.Challenge.rw_qz0130_01.row.prog w) [(Str.ofString "P::go", .ref g1), (Str.ofString "main::_", .ref (ec.ad 17))]) (hC : CacheSt w (ec.ad 13) odmc c1 c2 c3 c4 o1 o2 o3 o4) (oc1 : @LT.lt Nat _ (ec.ad 10) c1) (oc2 : @LT.lt Nat _ (ec.ad 10) c2) (oc3 : @LT.lt Nat _ (ec.ad 10) c3) (oc4 : @LT.lt Nat _ (ec.ad 10) c4)
    (hW : CallsW w (ec.ad 22) (ec.ad 23) (ec.ad 24) he ⟨(ec.va 2), (ec.oa 2), .func (ec.fd 2), (ec.av 2)⟩ (ec.ob 4) (ec.ob 5)) (hS : CallsS w (ec.ad 20) (ec.ad 21) ⟨(ec.va 1), (ec.oa 1), .func (ec.fd 1), (ec.av 1)⟩ (ec.ob 3))
    (hsd : SD (oadR run g1 ec)) (hlb : @LT.lt Nat _ bo (ec.ad 7)) (hhe : @LT.lt Nat _ he (ec.ad 7)) (hpl : ∀ p ∈ pl, @LT.lt Nat _ g1 p.1) (hP : PairsOk pl hs ds) : St w run he bd bo g1 hs ds rest
theorem St.low {w : World} {run he bo g1 : Addr} {bd : Int} {hs ds : List Value} {rest : List (Addr × Obj)} (stt : St w run he bd bo g1 hs ds rest) : ∀ p ∈ rest, @LT.lt Nat _ bo p.1 := by
  cases stt with | @mk ec c1 c2 c3 c4 odmc o1 o2 o3 o4 pl hrest lo hnd hA logl hog hC oc1 oc2 oc3 oc4 hW hS hsd hlb hhe hpl hP =>
  subst hrest
  exact low_all (d := (ec.ad 7)) (m := (ec.ad 10)) rfl hsd oth_ad hlb (List.Mem.tail _ (List.Mem.tail _ (List.Mem.tail _ (List.Mem.tail _ (List.Mem.tail _ (List.Mem.tail _ (List.Mem.tail _ (List.Mem.tail _ (List.Mem.tail _ (List.Mem.tail _ (List.Mem.tail _ (List.Mem.tail _ (List.Mem.head _))))))))))))) oc1 oc2 oc3 oc4 hpl
theorem St.pair {w : World} {run he bo g1 : Addr} {bd : Int} {hs ds : List Value} {rest : List (Addr × Obj)} (stt : St w run he bd bo g1 hs ds rest) {h₀ h : Heap} {L ml dl : Addr} {led : List (Addr × Obj)} {t1 t2 : Tok} {ys : List Value} {n1 n2 : Nat} (N : News h₀ L h led) (hr : ∀ p ∈ rest, p ∈ led)
    (hm : (ml, listOf (Value.str (Str.ofString "P") t1 :: ys).toArray n1) ∈ led) (hd : (dl, listOf (Value.str (Str.ofString "P") t2 :: ys).toArray n2) ∈ led) (lg : @LT.lt Nat _ g1 ml) (lmd : @LT.lt Nat _ ml dl) {I : Addr} (hI : AllNe I rest) (im : I ≠ ml) (idl : I ≠ dl) :
    ∃ rest', St w run he bd bo g1 (hs ++ [.ref ml]) (ds ++ [.ref dl]) rest' ∧ (∀ p ∈ rest', p ∈ led) ∧ AllNe I rest' := by
  cases stt with | @mk ec c1 c2 c3 c4 odmc o1 o2 o3 o4 pl hrest lo hnd hA logl hog hC oc1 oc2 oc3 oc4 hW hS hsd hlb hhe hpl hP =>
  subst hrest
  refine ⟨_, St.mk (pl := (ml, listOf (Value.str (Str.ofString "P") t1 :: ys).toArray n1) :: (dl, listOf (Value.str (Str.ofString "P") t2 :: ys).toArray n2) :: pl) rfl lo hnd hA logl hog hC oc1 oc2 oc3 oc4 hW hS hsd hlb hhe ?_ ?_, mid2 hr hm hd, mid2 (P := fun p => p.1 ≠ I) hI (Ne.symm im) (Ne.symm idl)⟩
  · intro p hp
    rcases List.mem_cons.mp hp with rfl | hp
    · exact lg
    rcases List.mem_cons.mp hp with rfl | hp
    · exact Nat.lt_trans lg lmd
    exact hpl p hp
  · exact pairs_snoc (pairs_sub hP fun p hp => .tail _ (.tail _ hp)) (Nat.ne_of_lt lmd) (.head _) (.tail _ (.head _))
theorem St.top {w : World} {run he bo g1 : Addr} {bd : Int} {hs ds : List Value} {rest : List (Addr × Obj)} (stt : St w run he bd bo g1 hs ds rest) : ∃ o, (g1, o) ∈ rest := by
  cases stt with | @mk ec c1 c2 c3 c4 odmc o1 o2 o3 o4 pl hrest lo hnd hA logl hog hC oc1 oc2 oc3 oc4 hW hS hsd hlb hhe hpl hP =>
  subst hrest
  exact ⟨_, in_oth mem0⟩
theorem St.pairs {w : World} {run he bo g1 : Addr} {bd : Int} {hs ds : List Value} {rest : List (Addr × Obj)} (stt : St w run he bd bo g1 hs ds rest) : PairsOk rest hs ds := by
  cases stt with | @mk ec c1 c2 c3 c4 odmc o1 o2 o3 o4 pl hrest lo hnd hA logl hog hC oc1 oc2 oc3 oc4 hW hS hsd hlb hhe hpl hP =>
  subst hrest
  exact pairs_sub hP fun p hp => .tail _ (.tail _ (.tail _ (.tail _ (List.mem_append_right _ hp))))
end
section
inductive JS (w : World) (i : Nat) (m : Str → Option Value) (news : List (Addr × Obj)) : Prop
  | mk {run he du ck rl g1 : Addr} {bd at_ : Int} {tb tat : Tok} {hs ds ws : List Value} {ns : List Int} {ps : Array Value} {nh nk nr : Nat} {ock : Obj} {rest : List (Addr × Obj)} {m0 : Str → Option Value}
    (hm : m = (fun y => if y = Str.ofString "cask" then some (.ref ck) else if y = Str.ofString "bound" then some (.int bd tb) else if y = Str.ofString "heard" then some (.ref he) else if y = Str.ofString "due" then some (.ref du) else if y = Str.ofString "run" then some (.ref run) else m0 y))
    (hnews : news = (du, listOf ds.toArray nk) :: (he, listOf hs.toArray nh) :: (rl, listOf ws.toArray nr) :: (ck, ock) :: (1166, tabObj ps) :: rest)
    (st : St w run he bd du g1 hs ds rest) (hsd : SD [du, he, rl, ck, 1166]) (hhs : hs.length ≤ i) (lock : (ck == sysModules) = false) (hck : ock.IsDictOf (strKind PySem.Challenge.rw_qz0130_01.row.prog w) [(Str.ofString "row", .ref rl), (Str.ofString "at", .int at_ tat)]) (hat : 0 ≤ at_) (hat2 : at_ ≤ 2 + (i : Int)) (hws : IntsAre ws ns) (hlw : ws.length ≤ 20) (hb1 : 1 ≤ bd) (hb2 : bd ≤ 6) : JS w i m news
theorem addrsX_nil {d : Addr} : AddrsX d [] [] := .tail fun _ h => (List.not_mem_nil h).elim
theorem low_ne {d b : Addr} {l : List (Addr × Obj)} (h : ∀ p ∈ l, @LT.lt Nat _ b p.1) (k : @LT.lt Nat _ d b) : AllNe d l := fun p hp => Nat.ne_of_gt (Nat.lt_trans k (h p hp))
theorem mj_of {m : Str → Option Value} {ck he du run : Addr} {bd : Int} {tb : Tok} (e1 : m (Str.ofString "cask") = some (.ref ck)) (e2 : m (Str.ofString "bound") = some (.int bd tb)) (e3 : m (Str.ofString "heard") = some (.ref he)) (e4 : m (Str.ofString "due") = some (.ref du)) (e5 : m (Str.ofString "run") = some (.ref run)) : m = (fun y => if y = Str.ofString "cask" then some (.ref ck) else if y = Str.ofString "bound" then some (.int bd tb) else if y = Str.ofString "heard" then some (.ref he) else if y = Str.ofString "due" then some (.ref du) else if y = Str.ofString "run" then some (.ref run) else m y) := by
  funext y
  by_cases h1 : y = Str.ofString "cask"
  · rw [if_pos h1, h1, e1]
  by_cases h2 : y = Str.ofString "bound"
  · rw [if_neg h1, if_pos h2, h2, e2]
  by_cases h3 : y = Str.ofString "heard"
  · rw [if_neg h1, if_neg h2, if_pos h3, h3, e3]
  by_cases h4 : y = Str.ofString "due"
  · rw [if_neg h1, if_neg h2, if_neg h3, if_pos h4, h4, e4]
  by_cases h5 : y = Str.ofString "run"
  · rw [if_neg h1, if_neg h2, if_neg h3, if_neg h4, if_pos h5, h5, e5]
  rw [if_neg h1, if_neg h2, if_neg h3, if_neg h4, if_neg h5]
theorem range_nat {x : Int} (h : 0 ≤ x) : Builtin.Range.rangeSize 0 x 1 = ((x.toNat : Nat) : Int) := by
  rw [rangeSize_one]
  split <;> omega
theorem name_ne {a d : Addr} {p : Prop} (h : a ≠ d ∧ p) : ∃ x, x = d ∧ (a ≠ d ∧ p) := ⟨d, rfl, h⟩
theorem toNat4 {v : Int} (h : v < 4) : (1 + v).toNat ≤ 4 := by omega
theorem lt_le3 {i n : Nat} (h : i < n) (k : n ≤ 4) : i ≤ 3 := by omega
theorem name_v {n : Nat} {v : Int} (h : n = (v - 1 - 0).toNat) : ∃ x, x = v ∧ n = (x - 1 - 0).toNat := ⟨v, rfl, h⟩
theorem size_one {a : Value} {ys : List Value} (h : ys.length ≤ 9) : [a].length + ys.length ≤ sizeLine := Nat.le_trans (Nat.add_le_add_left h 1) (Nat.le_of_ble_eq_true rfl)
theorem size_ds {ds : List Value} (h : ds.length ≤ 9) : ds.toArray.size ≤ sizeLine := Nat.le_trans (by simpa using h) (Nat.le_of_ble_eq_true rfl : 9 ≤ sizeLine)
theorem len9 {ys : List Value} {v : Int} (h : ys.length = (v - 1 - 0).toNat) (k : v < 10) : ys.length ≤ 9 := by omega
theorem ys_nil {ys : List Value} {x : Int} (h : ys.length = (x - 0).toNat) (n : x < 0) : ys = [] := List.eq_nil_of_length_eq_zero (by omega)
theorem bad_none {tp : Tok} {ys : List Value} (h : ys = []) : (([Value.str (Str.ofString "P") tp].length : Nat) : Int) = 1 + (ys.length : Int) := by subst h; rfl
theorem bad_list {a : Value} {ys : List Value} : (((a :: ys).length : Nat) : Int) = 1 + (ys.length : Int) := by rw [List.length_cons]; omega
theorem len_cv {ys : List Value} {v : Int} (h : ys.length = (v - 1 - 0).toNat) (k : ¬ v - 1 < 0) : (ys.length : Int) = v - 1 := by omega
theorem is_let {x b : Int} {n : Nat} (h : (n : Int) = x - 1) (k : 1 + (x - 1) ≤ b) : ¬ (b < 1 + (n : Int)) := by omega
theorem no_let {x b : Int} {n : Nat} (h : (n : Int) = x - 1) (k : ¬ 1 + (x - 1) ≤ b) : b < 1 + (n : Int) := by omega
theorem app_in {x : Addr × Obj} {r l : List (Addr × Obj)} (h : x ∈ r) (s : ∀ p ∈ r, p ∈ l) : x ∈ l := s x h
theorem off_ne {a : Addr} : ∀ {r : List (Addr × Obj)}, LCg.Off1 a r → AllNe a r
  | [], _ => fun _ h => (List.not_mem_nil h).elim
  | _ :: _, h => fun p hp => by
    rcases List.mem_cons.mp hp with rfl | hp
    · exact h.1
    · exact off_ne h.2 p hp
theorem ne_pairs3 {prog : Program} {w : World} {A : Around} {E : Value → Shared → Prop} {s : Shared} {h₀ : Heap} {L ml dl he du : Addr} {news sl : List (Addr × Obj)} {hs ds vs : List Value} {n1 n2 m1 m2 : Nat} {t1 t2 : Tok} {Q : Value → Shared → Prop} (N : News h₀ L s.heap news) (hP : PairsOk sl hs ds)
    (hm : (ml, listOf (Value.str (Str.ofString "P") t1 :: vs).toArray n1) ∈ news) (hd : (dl, listOf (Value.str (Str.ofString "P") t2 :: vs).toArray n2) ∈ news) (lt : @LT.lt Nat _ ml dl) (ha : (he, listOf (hs ++ [Value.ref ml]).toArray m1) ∈ news) (hb : (du, listOf (ds ++ [Value.ref dl]).toArray m2) ∈ news)
    (hsl : ∀ p ∈ sl, p ∈ news) (hu : A.in1.units < cLine) (hu0 : A.units < cLine) (h : Q (.bool false) s) :
    wpAny (model prog w) A (compareOp .NotEq (.ref he) (.ref du)) Q E s :=
  ne_pairs N ha hb (pairs_snoc (pairs_sub hP hsl) (Nat.ne_of_lt lt) hm hd) hu hu0 h
end
structure Cs : Prop where
  draw : ∀ {w : World} {A₀ : Around} {base h₀ : Heap} {outer : List Env} {L : Addr} {m mg mb : Str → Option Value} {mean : ExcName → Option Value} {pT : Program} {looseT : List Str} {s : Shared} {R : Result → Shared → Prop} {cn : Str} {cs : Scope} {ca : Addr} {ccd : Value} {d u : Nat} {gs : Option (List Code)} {ck rl : Addr} {ock : Obj} {ws : List Value} {ns : List Int} {nr : Nat} {at_ mv : Int} {tat tm : Tok} {g : Obj → List (Addr × Obj)} {full : List (Addr × Obj)} (B : Below A₀ base outer h₀) (F : Fr h₀ L s.heap m) (X₀ : (hd.heap_1 w.params).In h₀) (N : News h₀ L s.heap full) (T : Top pT looseT mean mg mb h₀) (hke : cs.kind = .function) (hroom : d < 600) (hun : u < 1000) (lock : (ck == sysModules) = false) (hck : ock.IsDictOf (strKind PySem.Challenge.rw_qz0130_01.row.prog w) [(Str.ofString "row", .ref rl), (Str.ofString "at", .int at_ tat)]) (hws : IntsAre ws ns) (hlw : ws.length ≤ 20) (hat : 0 ≤ at_) (hat2 : at_ ≤ 100) (hmv : 0 < mv) (hmv2 : mv ≤ 10) (o1 : @Ne Nat rl ck) (U : UpdF ck ock full g) (hsub : ∀ p ∈ ((ck, ock) :: (rl, listOf ws.toArray nr) :: []), p ∈ full) (k : ∀ h' tk t ock' tat' v, Fr h₀ L h' m → News h₀ L h' (g ock') → ock'.IsDictOf (strKind PySem.Challenge.rw_qz0130_01.row.prog w) [(Str.ofString "row", .ref rl), (Str.ofString "at", .int (at_ + 1) tat')] → 0 ≤ v → v < mv → R (.ok (.ret (.int v t))) { s with heap := h', toks := tk }), codeAny (model PySem.Challenge.rw_qz0130_01.row.prog w) (Around.mk none d (some (envOf cn cs L ca ccd :: outer)) gs u) (.call (.ref 1164) ⟨[.ref ck, .int mv tm], []⟩) R s
  run : ∀ {w : World} {A₀ : Around} {base h₀ : Heap} {outer : List Env} {L : Addr} {m mg mb : Str → Option Value} {mean : ExcName → Option Value} {pT : Program} {looseT : List Str} {s : Shared} {R : Result → Shared → Prop} {cn : Str} {cs : Scope} {ca : Addr} {ccd : Value} {d u : Nat} {gs : Option (List Code)} {lm dlm he z : Addr} {la lb lc ld le na1 nb nc nd1 ne : Tok} {bd : Int} {nlm nh : Nat} {oz : Obj} {gT : Obj → List (Addr × Obj)} {full : List (Addr × Obj)} {bo : Addr} (B : Below A₀ base outer h₀) (F : Fr h₀ L s.heap m) (X₀ : (hd.heap_1 w.params).In h₀) (N : News h₀ L s.heap full) (T : Top pT looseT mean mg mb h₀) (hke : cs.kind = .function) (hroom : d < 600) (hun : u < 1000) (codeHd : CodeHd base 1170 1166) (o66 : @LT.lt Nat _ 1166 he) (odl : @LT.lt Nat _ he dlm) (olm : @LT.lt Nat _ dlm lm) (hsub : ∀ p ∈ ((lm, (⟨.ref 1076, some dlm, .plain, #[]⟩ : Obj)) :: (dlm, dictOf [⟨PyData.keyHash w.params (Str.ofString "width"), .str (Str.ofString "width") la, .int 64 na1⟩, ⟨PyData.keyHash w.params (Str.ofString "depth"), .str (Str.ofString "depth") lb, .int 50 nb⟩, ⟨PyData.keyHash w.params (Str.ofString "steps"), .str (Str.ofString "steps") lc, .int 1000000 nc⟩, ⟨PyData.keyHash w.params (Str.ofString "text"), .str (Str.ofString "text") ld, .int 100000 nd1⟩, ⟨PyData.keyHash w.params (Str.ofString "items"), .str (Str.ofString "items") le, .int bd ne⟩] nlm) :: (he, listOf #[] nh) :: (1166, tabObj #[]) :: []), p ∈ full) (hz1 : (z, oz) ∈ full) (U : UpdF 1166 (tabObj #[]) full gT) (hz : ∀ p ∈ full, @LE.le Nat _ p.1 z) (hbo : @LT.lt Nat _ bo dlm) (k : ∀ h' tk ps run g1 rest, Fr h₀ L h' m → News h₀ L h' (gT (tabObj ps) ++ rest) → St w run he bd bo g1 [] [] rest → R (.ok (.ret (.ref run))) { s with heap := h', toks := tk }), codeAny (model PySem.Challenge.rw_qz0130_01.row.prog w) (Around.mk none d (some (envOf cn cs L ca ccd :: outer)) gs u) (.call (.ref 1171) ⟨[.ref lm, .ref he], []⟩) R s
  evn : ∀ {w : World} {A₀ : Around} {base h₀ : Heap} {outer : List Env} {L : Addr} {m mg mb : Str → Option Value} {mean : ExcName → Option Value} {pT : Program} {looseT : List Str} {s : Shared} {R : Result → Shared → Prop} {cn : Str} {cs : Scope} {ca : Addr} {ccd : Value} {d u : Nat} {gs : Option (List Code)} {na tn I run he bo g1 : Addr} {tq tm tg tw : Tok} {nh : Nat} {it : Obj} {hs ds : List Value} {bd : Int} {front rest full : List (Addr × Obj)} {gF : Obj → List (Addr × Obj)} (B : Below A₀ base outer h₀) (F : Fr h₀ L s.heap m) (X₀ : (hd.heap_1 w.params).In h₀) (N : News h₀ L s.heap full) (T : Top pT looseT mean mg mb h₀) (hke : cs.kind = .function) (hroom : d < 590) (hun : u < 900) (stt : St w run he bd bo g1 hs ds rest) (hsp : Split front rest full) (hhs : hs.length ≤ 10) (hna : (na, (⟨.type "tuple", none, .seq #[.str (Str.ofString "asked") tq], #[]⟩ : Obj)) ∈ front) (htn : (tn, (⟨.type "tuple", none, .seq #[.str (Str.ofString "method") tm, .ref na, .str (Str.ofString "go") tg, .none, .none], #[]⟩ : Obj)) ∈ front) (U : UpdF he (listOf hs.toArray nh) front gF) (hz : ∀ p ∈ full, @LE.le Nat _ p.1 tn) (hrn : ∀ p ∈ rest, @LT.lt Nat _ p.1 na) (hnt : @LT.lt Nat _ na tn) (hIf : (I, it) ∈ front) (hIc : it.cls = .type "range_iterator") (hdis : ∀ p ∈ front, AllNe p.1 rest) (k : ∀ h' tk t tp ml nm nn rest', Fr h₀ L h' m → News h₀ L h' ((ml, listOf #[Value.str (Str.ofString "P") tp] nm) :: (gF (listOf (hs ++ [Value.ref ml]).toArray nn) ++ rest')) → (∀ p ∈ full, @LT.lt Nat _ p.1 ml) → St w run he bd bo g1 hs ds rest' → AllNe I rest' → R (.ok (.ret (.int ([Value.str (Str.ofString "P") tp].length : Int) t))) { s with heap := h', toks := tk }), codeAny (model PySem.Challenge.rw_qz0130_01.row.prog w) (Around.mk none d (some (envOf cn cs L ca ccd :: outer)) gs u) (.call (.ref 917) ⟨[.ref run, .ref tn, .int 1 tw], []⟩) R s
  evl : ∀ {w : World} {A₀ : Around} {base h₀ : Heap} {outer : List Env} {L : Addr} {m mg mb : Str → Option Value} {mean : ExcName → Option Value} {pT : Program} {looseT : List Str} {s : Shared} {R : Result → Shared → Prop} {cn : Str} {cs : Scope} {ca : Addr} {ccd : Value} {d u : Nat} {gs : Option (List Code)} {na tn I ts vl run he bo g1 : Addr} {tq tm tg tw tso : Tok} {nh n0 : Nat} {it : Obj} {hs ds vs : List Value} {bd : Int} {front rest full : List (Addr × Obj)} {gF : Obj → List (Addr × Obj)} (B : Below A₀ base outer h₀) (F : Fr h₀ L s.heap m) (X₀ : (hd.heap_1 w.params).In h₀) (N : News h₀ L s.heap full) (T : Top pT looseT mean mg mb h₀) (hke : cs.kind = .function) (hroom : d < 590) (hun : u < 900) (stt : St w run he bd bo g1 hs ds rest) (hsp : Split front rest full) (hhs : hs.length ≤ 10) (hna : (na, (⟨.type "tuple", none, .seq #[.str (Str.ofString "asked") tq], #[]⟩ : Obj)) ∈ front) (htn : (tn, (⟨.type "tuple", none, .seq #[.str (Str.ofString "method") tm, .ref na, .str (Str.ofString "go") tg, .ref ts, .none], #[]⟩ : Obj)) ∈ front) (hts : (ts, (⟨.type "tuple", none, .seq #[.str (Str.ofString "some") tso, .ref vl], #[]⟩ : Obj)) ∈ front) (hvl : (vl, listOf vs.toArray n0) ∈ front) (U : UpdF he (listOf hs.toArray nh) front gF) (hz : ∀ p ∈ full, @LE.le Nat _ p.1 tn) (hrn : ∀ p ∈ rest, @LT.lt Nat _ p.1 ts) (htsn : @LT.lt Nat _ ts na) (hnt : @LT.lt Nat _ na tn) (hIf : (I, it) ∈ front) (hIc : it.cls = .type "range_iterator") (hdis : ∀ p ∈ front, AllNe p.1 rest) (hlen : vs.length ≤ 9) (hbd : ¬ (bd < 1 + (vs.length : Int))) (cv1 : @LT.lt Nat _ vl ts) (cv3 : @Ne Nat vl he) (k : ∀ h' tk t tp ml nm nn rest', Fr h₀ L h' m → News h₀ L h' ((ml, listOf (Value.str (Str.ofString "P") tp :: vs).toArray nm) :: (gF (listOf (hs ++ [Value.ref ml]).toArray nn) ++ rest')) → (∀ p ∈ full, @LT.lt Nat _ p.1 ml) → St w run he bd bo g1 hs ds rest' → AllNe I rest' → R (.ok (.ret (.int ((Value.str (Str.ofString "P") tp :: vs).length : Int) t))) { s with heap := h', toks := tk }), codeAny (model PySem.Challenge.rw_qz0130_01.row.prog w) (Around.mk none d (some (envOf cn cs L ca ccd :: outer)) gs u) (.call (.ref 917) ⟨[.ref run, .ref tn, .int 1 tw], []⟩) R s
  evd : ∀ {w : World} {A₀ : Around} {base h₀ : Heap} {outer : List Env} {L : Addr} {m mg mb : Str → Option Value} {mean : ExcName → Option Value} {pT : Program} {looseT : List Str} {s : Shared} {R : Result → Shared → Prop} {cn : Str} {cs : Scope} {ca : Addr} {ccd : Value} {d u : Nat} {gs : Option (List Code)} {na tn ts vl run he bo g1 : Addr} {tq tm tg tw tso : Tok} {n0 : Nat} {hs ds vs : List Value} {bd : Int} {full rest : List (Addr × Obj)} (B : Below A₀ base outer h₀) (F : Fr h₀ L s.heap m) (X₀ : (hd.heap_1 w.params).In h₀) (N : News h₀ L s.heap full) (T : Top pT looseT mean mg mb h₀) (hke : cs.kind = .function) (hroom : d < 590) (hun : u < 900) (stt : St w run he bd bo g1 hs ds rest) (hsubr : ∀ p ∈ rest, p ∈ full) (hna : (na, (⟨.type "tuple", none, .seq #[.str (Str.ofString "asked") tq], #[]⟩ : Obj)) ∈ full) (htn : (tn, (⟨.type "tuple", none, .seq #[.str (Str.ofString "method") tm, .ref na, .str (Str.ofString "go") tg, .ref ts, .none], #[]⟩ : Obj)) ∈ full) (hts : (ts, (⟨.type "tuple", none, .seq #[.str (Str.ofString "some") tso, .ref vl], #[]⟩ : Obj)) ∈ full) (hvl : (vl, listOf vs.toArray n0) ∈ full) (hrn : ∀ p ∈ rest, @LT.lt Nat _ p.1 ts) (htsn : @LT.lt Nat _ ts na) (hnt : @LT.lt Nat _ na tn) (hlen : vs.length ≤ 9) (hbd : bd < 1 + (vs.length : Int)) (cv1 : @LT.lt Nat _ vl ts) (k : ∀ h' tk e, DieAt base (envOf cn cs L ca ccd :: outer) s.heap e h' → R (.error (.ref e)) { s with heap := h', toks := tk }), codeAny (model PySem.Challenge.rw_qz0130_01.row.prog w) (Around.mk none d (some (envOf cn cs L ca ccd :: outer)) gs u) (.call (.ref 917) ⟨[.ref run, .ref tn, .int 1 tw], []⟩) R s
section
theorem abs_post {M : Model} {A : Around} {t : Sem Flow} {Q : Flow → Shared → Prop} {E : Value → Shared → Prop} {s : Shared} {h₀ : Heap} {L : Addr} {m : Str → Option Value} (_ : Fr h₀ L s.heap m)
    (hP : ∀ h' tk m' ps, Fr h₀ L h' m' → News h₀ L h' [(1166, tabObj ps)] → Q (.ret (.bool true)) { s with heap := h', toks := tk })
    (h : ∀ Q' : Flow → Shared → Prop, (∀ h' tk m' ps, Fr h₀ L h' m' → News h₀ L h' [(1166, tabObj ps)] → Q' (.ret (.bool true)) { s with heap := h', toks := tk }) → wpAny M A t Q' (fun _ _ => False) s) : wpAny M A t Q E s := wpAny_noRaise (h Q hP)
theorem range1_lt {prog : Program} {w : World} {A : Around} {E : Value → Shared → Prop} {s : Shared} {h₀ : Heap} {L : Addr} {m : Str → Option Value} {Q : Value → Shared → Prop} {n : Int} {t : Tok} {news : List (Addr × Obj)} (F : Fr h₀ L s.heap m) (N : News h₀ L s.heap news)
    (h : ∀ r h' tk t₁ u₁ v₁, Fr h₀ L h' m → News h₀ L h' ((r, (⟨.type "range", none, .fields #[.int 0 t₁, .int n u₁, .int 1 v₁], #[]⟩ : Obj)) :: news) → (∀ p ∈ news, p.1 < r) → Q (.ref r) { s with heap := h', toks := tk }) :
    wpAny (model prog w) A (call (.type "range") [.int n t]) Q E s :=
  call_range_1 (h _ _ _ _ _ _ (F.push _) (fun p hp => by
    rcases List.mem_cons.mp hp with rfl | hp
    · exact ⟨IsRange.new .., Nat.ne_of_gt F.ns.lt, next_is_new F⟩
    · exact ⟨Heap.get?_push_of_some _ (N p hp).1, (N p hp).2⟩) fun p hp => Heap.lt_size (N p hp).1)
end
theorem cut9 {p T : Prop} (hc : T) (main9 : p) : p := let _ := hc; main9
theorem top.tw7740461459972228597 : True := trivial
theorem top.tw8645369167282567922 : True := trivial
theorem top.tw16840627104734473223 : True := trivial
theorem top.tw2464713573024523455 : True := trivial
theorem top.tw7557910624720293991 : True := trivial
theorem top.tw16900427199656544559 : True := trivial
theorem top.tw10187264123177260123 : True := trivial
theorem top.tw14851680436948445374 : True := trivial
theorem top.tw16058212318047004132 : True := trivial
theorem top.tw16782997733028217545 : True := trivial
theorem top.tw11459358961799972967 : True := trivial
theorem top.tw11430207588045935325 : True := trivial
theorem top.tw15646934709686841381 : True := trivial
theorem top.tw9800703332001039478 : True := trivial
theorem top.tw17492772389151264855 : True := trivial
theorem top.tw5766051744304087583 : True := trivial
theorem top.tw4166218997396506358 : True := trivial
theorem top.tw10567129059001840431 : True := trivial
theorem top.tw8507776931139520737 : True := trivial
theorem top.tw10090393231696489298 : True := trivial
theorem top.tw10996937224433265937 : True := trivial
theorem top.tw16439428074185983240 : True := trivial
theorem top.tw1245559373397905713 : True := trivial
theorem top.tw14597223018079223185 : True := trivial
theorem top.tw2732273902793177162 : True := trivial
theorem top.tw5476889619067714990 : True := trivial
theorem top.tw13369591340354186047 : True := trivial
theorem top.tw11334415319851112604 : True := trivial
theorem top.tw15976228082101565994 : True := trivial
theorem top.tw352232786441526191 : True := trivial
theorem top.tw6906291655842520137 : True := trivial
theorem top.tw1736530178072539846 : True := trivial
theorem top.tw4571971715460732019 : True := trivial
theorem top.tw8813761850579938390 : True := trivial
theorem top.tw814325599930780420 : True := trivial
theorem top.tw14611434983143301774 : True := trivial
theorem top.tw2057334267981633021 : True := trivial
theorem top.tw2287823674025257028 : True := trivial
theorem top.tw10005945817407372193 : True := trivial
theorem top.tw8598144960395782539 : True := trivial
theorem top.tw4655869559712951663 : True := trivial
theorem top.tw17810072253543177317 : True := trivial
theorem top.tw1047907039808853306 : True := trivial
theorem top.tw956942650209027819 : True := trivial
theorem top.tw72247145696351765 : True := trivial
theorem top.tw6491118196486620199 : True := trivial
theorem top.tw11613256710310857696 : True := trivial
theorem top.tw9631074621892390191 : True := trivial
theorem top.tw14823308797102314842 : True := trivial
theorem top.tw5667650583090716360 : True := trivial
theorem top.tw1139600151236580504 : True := trivial
theorem top.tw2218668502564051296 : True := trivial
theorem top.tw2782073688633401757 : True := trivial
theorem top.tw9305691244287143441 : True := trivial
theorem top.tw6756868429301003459 : True := trivial
theorem top.tw908825868028484722 : True := trivial
theorem top.tw9378254376102152143 : True := trivial
theorem top.tw15169761463676818070 : True := trivial
theorem top.tw16204670001084760307 : True := trivial
theorem top.tw8143265674769528471 : True := trivial
theorem top.tw6812286434817487243 : True := trivial
theorem top.tw8640399195822439974 : True := trivial
theorem top.tw5303079699428457377 : True := trivial
theorem top.tw2835187731363253809 : True := trivial
theorem top.tw864819663365544661 : True := trivial
theorem top.tw8689318265317240412 : True := trivial
theorem top.tw14987219478266130788 : True := trivial
theorem top.tw14861896470697024400 : True := trivial
theorem top.tw13120753694373217308 : True := trivial
theorem top.tw13359135706311490777 : True := trivial
theorem top.tw17177869089781658578 : True := trivial
theorem top.tw9063741608606530840 : True := trivial
theorem top.tw14917401599646851644 : True := trivial
theorem top.tw15860264024139754761 : True := trivial
theorem top.tw10773188271377071773 : True := trivial
theorem top.tw5118827330378232414 : True := trivial
theorem top.tw788273225186049534 : True := trivial
theorem top.tw14349089067433371257 : True := trivial
theorem top.tw1732150942055357024 : True := trivial
theorem top.tw2731995056826638727 : True := trivial
theorem top.tw10404823597219466188 : True := trivial
theorem top.tw9229161468869434483 : True := trivial
theorem top.tw8810280945414196856 : True := trivial
theorem top.tw15240379268576122478 : True := trivial
theorem top.tw1886144042066472794 : True := trivial
theorem top.tw13303987763403120937 : True := trivial
theorem top.tw1149218181149386328 : True := trivial
theorem top.tw2985252069258134486 : True := trivial
theorem top.tw1814787853859245837 : True := trivial
theorem top.tw10617020205504526918 : True := trivial
theorem top.tw1492452104121835379 : True := trivial
theorem top.tw4551080515912023512 : True := trivial
theorem top.tw16420938139371093754 : True := trivial
theorem top.tw1869187583165140508 : True := trivial
theorem top.tw14608685727046917156 : True := trivial
theorem top.tw6898770573198911631 : True := trivial
theorem top.tw81815255157605957 : True := trivial
theorem top.tw7847650389618582240 : True := trivial
theorem top.tw11858546649754279707 : True := trivial
theorem top.tw6187478851450931391 : True := trivial
theorem top.tw15177526630643400193 : True := trivial
theorem top.tw7990429038631628895 : True := trivial
theorem top.tw2822501910515967889 : True := trivial
theorem top.tw5868845118606482295 : True := trivial
theorem top.tw16273406610938067001 : True := trivial
theorem top.tw15362295582089109014 : True := trivial
theorem top.tw6286779285267259847 : True := trivial
theorem top.tw7297446738713254254 : True := trivial
theorem top.tw14502225709538309166 : True := trivial
theorem top.tw16759092144687519636 : True := trivial
theorem top.tw4671429814451907529 : True := trivial
theorem top.tw8363718466572441477 : True := trivial
theorem top.tw5523086135645875356 : True := trivial
theorem top.tw17555251805378815213 : True := trivial
theorem top.tw18164388396756303480 : True := trivial
theorem top.tw427269002284569659 : True := trivial
theorem top.tw17486766287000646611 : True := trivial
theorem top.tw15878805988109762761 : True := trivial
theorem top.tw575894324575664597 : True := trivial
theorem top.tw4498253355057717688 : True := trivial
theorem top.tw705360758644809490 : True := trivial
theorem top.tw4186445540838780016 : True := trivial
theorem top.tw2249405535684624136 : True := trivial
theorem top.tw11279390925490393535 : True := trivial
theorem top.tw342308947776675178 : True := trivial
theorem top.tw2514443458684651071 : True := trivial
theorem top.tw12342655685612074800 : True := trivial
theorem top.tw2924597203103170677 : True := trivial
theorem top.tw2867133514656366558 : True := trivial
theorem top.tw3730354652608582461 : True := trivial
theorem top.tw9059672392935016618 : True := trivial
theorem top.tw3195968871104189447 : True := trivial
theorem top.tw14459580976405569124 : True := trivial
theorem top.tw7855079511596107753 : True := trivial
theorem top.tw18186074749648716422 : True := trivial
theorem top.tw9759319705405543751 : True := trivial
theorem top.tw8538268897159353584 : True := trivial
theorem top.tw18034075008235765660 : True := trivial
theorem top.tw1195175773429642966 : True := trivial
theorem top.tw1284575025550258836 : True := trivial
theorem top.tw13928562000808390012 : True := trivial
theorem top.tw105208000716104510 : True := trivial
theorem top.tw14826035006057030972 : True := trivial
theorem top.tw16155163154822807229 : True := trivial
theorem top.tw13264354339760550358 : True := trivial
theorem top.tw453181688931711583 : True := trivial
theorem top.tw11133666699803404755 : True := trivial
theorem top.tw2741389259953327712 : True := trivial
theorem top.tw5058314954733539658 : True := trivial
theorem top.tw775762912060472103 : True := trivial
theorem top.tw8345894832289464959 : True := trivial
theorem top.tw6749217079512962374 : True := trivial
theorem top.tw2812155379371279736 : True := trivial
theorem top.tw12643491718579748851 : True := trivial
theorem top.tw17470836177267949868 : True := trivial
theorem top.tw12012865196380796599 : True := trivial
theorem top.tw4656485037274611717 : True := trivial
theorem top.tw13272337422414781067 : True := trivial
theorem top.tw14796646475526232899 : True := trivial
theorem top.tw1275901062530889299 : True := trivial
theorem top.tw795583310449317561 : True := trivial
theorem top.tw12385144161495827662 : True := trivial
theorem top.tw6520327441239513222 : True := trivial
theorem top.tw16885616592811714743 : True := trivial
theorem top.tw6883741973766446791 : True := trivial
theorem top.tw5225153198818245361 : True := trivial
theorem top.tw16174758807025615021 : True := trivial
theorem top.tw987869383939708018 : True := trivial
theorem top.tw15299407806266782574 : True := trivial
theorem top.tw12622177474791663080 : True := trivial
theorem top.tw10648311167861321448 : True := trivial
theorem top.tw14372152842798730730 : True := trivial
theorem top.tw14402358008270493973 : True := trivial
theorem top.tw16123964013534891561 : True := trivial
theorem top.tw1516213087968936877 : True := trivial
theorem top.tw2462062305354472974 : True := trivial
theorem top.tw16196420915677631385 : True := trivial
theorem top.tw15569959144833144457 : True := trivial
theorem top.tw5244899138074338376 : True := trivial
theorem top.tw10936122117785486979 : True := trivial
theorem top.tw2617719716777270872 : True := trivial
theorem top.tw6333448901615975916 : True := trivial
theorem top.tw6859976401760118174 : True := trivial
theorem top.tw12318557346453588183 : True := trivial
theorem top.tw11423202765487971197 : True := trivial
theorem top.tw12392516345856041104 : True := trivial
theorem top.tw7414872774492366064 : True := trivial
theorem top.tw8265191368974092141 : True := trivial
theorem top.tw216529984938456764 : True := trivial
theorem top.tw11960245374511038805 : True := trivial
theorem top.tw6664487174759623829 : True := trivial
theorem top.tw4205137553216949640 : True := trivial
theorem top.tw7673058066778466091 : True := trivial
theorem top.tw2555065506035805374 : True := trivial
theorem top.tw12535971307161669396 : True := trivial
theorem top.tw10006222313960134694 : True := trivial
theorem top.tw1483126911874232274 : True := trivial
theorem top.tw370947364307004932 : True := trivial
theorem top.tw14390669486469195807 : True := trivial
theorem top.tw5581607755468803823 : True := trivial
theorem top.tw4321519831107876412 : True := trivial
theorem top.tw17315540178315561739 : True := trivial
theorem top.tw12425085872883035938 : True := trivial
theorem top.tw12094960947251128927 : True := trivial
theorem top.tw15058813355848621054 : True := trivial
theorem top.tw17323899518341599180 : True := trivial
theorem top.tw9059832203979395877 : True := trivial
theorem top.tw708234853630380328 : True := trivial
theorem top.tw4299629679881509495 : True := trivial
theorem top.tw2126296398998916975 : True := trivial
theorem top.tw6127594578889010139 : True := trivial
theorem top.tw10448899703829047738 : True := trivial
theorem top.tw7008692893051332821 : True := trivial
theorem top.tw8184561461823581802 : True := trivial
theorem top.tw8435561252592420358 : True := trivial
theorem top.tw6919701780365589675 : True := trivial
theorem top.tw9108098604805947806 : True := trivial
theorem top.tw3561193834555079511 : True := trivial
theorem top.tw13345470168829271861 : True := trivial
theorem top.tw390997316461189296 : True := trivial
theorem top.tw728428047077509346 : True := trivial
theorem top.tw12483720753089274532 : True := trivial
theorem top.tw4159251561096739476 : True := trivial
theorem top.tw15503665604740900718 : True := trivial
theorem top.tw11334350811105764591 : True := trivial
theorem top.tw12958502747184954254 : True := trivial
theorem top.tw1400011881503588481 : True := trivial
theorem top.tw5969682004907312646 : True := trivial
theorem top.tw1212798325632107971 : True := trivial
theorem top.tw1676862907878916244 : True := trivial
theorem top.tw15985961358823992270 : True := trivial
theorem top.tw16580785732701462914 : True := trivial
theorem top.tw16325430554902658873 : True := trivial
theorem top.tw6240723676877644813 : True := trivial
theorem top.tw14282377253939248939 : True := trivial
theorem top.tw4713442408853163898 : True := trivial
theorem top.tw9614876229902214918 : True := trivial
theorem top.tw11762496359356365647 : True := trivial
theorem top.tw16044733080236030384 : True := trivial
theorem top.tw9503340733035011235 : True := trivial
theorem top.tw9382581127745807760 : True := trivial
theorem top.tw5889316905344633881 : True := trivial
theorem top.tw16713831800681072344 : True := trivial
theorem top.tw16795567611416646642 : True := trivial
theorem top.tw7830913209206220567 : True := trivial
theorem top.tw8321918168302905379 : True := trivial
theorem top.tw2007660962349395123 : True := trivial
theorem top.tw620129878449983639 : True := trivial
theorem top.tw6438537300738474071 : True := trivial
theorem top.tw13501252493785611398 : True := trivial
theorem top.tw11922380849998532372 : True := trivial
theorem top.tw339143206060000330 : True := trivial
theorem top.tw4047667213573674445 : True := trivial
theorem top.tw6885214360128481674 : True := trivial
theorem top.tw12317137736924338119 : True := trivial
theorem top.tw14168018189251442112 : True := trivial
theorem top.tw6694047246710070196 : True := trivial
theorem top.tw13177472732611162249 : True := trivial
theorem top.tw2443449257678562572 : True := trivial
theorem top.tw7429413206186439793 : True := trivial
theorem top.tw9335426496214029073 : True := trivial
theorem top.tw4859757453598101857 : True := trivial
theorem top.tw13889484949932952446 : True := trivial
theorem top.tw14789260269991461300 : True := trivial
theorem top.tw2145171640123136144 : True := trivial
theorem top.tw14371913498598963198 : True := trivial
theorem top.tw15092371282622821202 : True := trivial
theorem top.tw12787338502077490372 : True := trivial
theorem top.tw13889309363888878346 : True := trivial
theorem top.tw10915162052029792233 : True := trivial
theorem top.tw860223938195835975 : True := trivial
theorem top.tw18085771088847121727 : True := trivial
theorem top.tw17428532607074087071 : True := trivial
theorem top.tw13822267516522204269 : True := trivial
theorem top.tw5278709424875269971 : True := trivial
theorem top.tw17565814175750979855 : True := trivial
theorem top.tw1088946173253831356 : True := trivial
theorem top.tw2369445192022557226 : True := trivial
theorem top.tw13896958669275611876 : True := trivial
theorem top.tw6761616313442571491 : True := trivial
theorem top.tw17355269125676882429 : True := trivial
theorem top.tw14263998999751124003 : True := trivial
theorem top.tw3855276242980373810 : True := trivial
theorem top.tw1585457916280141200 : True := trivial
theorem top.tw8139039716903228087 : True := trivial
theorem top.tw15361541807878343388 : True := trivial
theorem top.tw10956490626425055710 : True := trivial
theorem top.tw8523463495250067690 : True := trivial
theorem top.tw877433047237710547 : True := trivial
theorem top.tw8679839319945467846 : True := trivial
theorem top.tw1142415686869020238 : True := trivial
theorem top.tw2988451766255067171 : True := trivial
theorem top.tw17469865338272021226 : True := trivial
theorem top.tw9768079942903668216 : True := trivial
theorem top.tw8107780213005350392 : True := trivial
theorem top.tw14142502885225118848 : True := trivial
theorem top.tw9961057766049560675 : True := trivial
theorem top.tw12718909917080609646 : True := trivial
theorem top.tw2581206410525282061 : True := trivial
theorem top.tw1617357707322924660 : True := trivial
theorem top.tw8204474986945543665 : True := trivial
theorem top.tw5225916559131626549 : True := trivial
theorem top.tw649594095290182367 : True := trivial
theorem top.tw887695700811335699 : True := trivial
theorem top.tw7198060816514059695 : True := trivial
theorem top.tw17046948494117081484 : True := trivial
theorem top.tw3422688185749166683 : True := trivial
theorem top.tw12166907935582030026 : True := trivial
theorem top.tw8410488445778877200 : True := trivial
theorem top.tw3337584539547039419 : True := trivial
theorem top.tw8694864300669457046 : True := trivial
theorem top.tw3474246075231452896 : True := trivial
theorem top.tw7743179893348639699 : True := trivial
theorem top.tw7444641836354208208 : True := trivial
theorem top.tw18063644159110109576 : True := trivial
theorem top.tw18371284783138465269 : True := trivial
theorem top.tw11466170419677230873 : True := trivial
theorem top.tw6505410396798821541 : True := trivial
theorem top.tw2665807947273092163 : True := trivial
theorem top.tw11203750815551599093 : True := trivial
theorem top.tw12080426169559351053 : True := trivial
theorem top.tw4784893810139332661 : True := trivial
theorem top.tw2847958352784047137 : True := trivial
theorem top.tw17620759639134147866 : True := trivial
theorem top.tw18237780215024852062 : True := trivial
theorem top.tw5915399644114372684 : True := trivial
theorem top.tw13802547742096326172 : True := trivial
theorem top.tw8973803690348224638 : True := trivial
theorem top.tw7250933059871147345 : True := trivial
theorem top.tw8729362747519067210 : True := trivial
theorem top.tw4076138812419527698 : True := trivial
theorem top.tw501154541418245514 : True := trivial
theorem top.tw8622502720953521162 : True := trivial
theorem top.tw11845233108574324481 : True := trivial
theorem top.tw12105128591322288922 : True := trivial
theorem top.tw18245740138792012028 : True := trivial
theorem top.tw9951221954081769418 : True := trivial
theorem top.tw13090165191389475591 : True := trivial
theorem top.tw8140125068956082859 : True := trivial
theorem top.tw6930518751129746686 : True := trivial
theorem top.tw15877122091014420850 : True := trivial
theorem top.tw11141966352661209427 : True := trivial
theorem top.tw283044589724301 : True := trivial
theorem top.tw4940147422707163885 : True := trivial
theorem top.tw16821654228018055803 : True := trivial
theorem top.tw3584897518013459382 : True := trivial
theorem top.tw7715697345341360870 : True := trivial
theorem top.tw1706793611546318481 : True := trivial
theorem top.tw8237333600419904120 : True := trivial
theorem top.tw9962302188120564619 : True := trivial
theorem top.tw11199532085631943738 : True := trivial
theorem top.tw10548783162686979305 : True := trivial
theorem top.tw14632489290957082403 : True := trivial
theorem top.tw1638113669730673903 : True := trivial
theorem top.tw1040915598704419856 : True := trivial
theorem top.tw146815374380898660 : True := trivial
theorem top.tw16104615914030681952 : True := trivial
theorem top.tw6624316729101989866 : True := trivial
theorem top.tw15918733279669447828 : True := trivial
theorem top.tw6189502492464219833 : True := trivial
theorem top.tw14399976873020721970 : True := trivial
theorem top.tw9743097575036673082 : True := trivial
theorem top.tw9953747333497923681 : True := trivial
theorem top.tw16550210197400561554 : True := trivial
theorem top.tw5860347150701562758 : True := trivial
theorem top.tw6211089042160764376 : True := trivial
theorem top.tw13420762306968818387 : True := trivial
theorem top.tw11520865232209809239 : True := trivial
theorem top.tw6662652255960138227 : True := trivial
theorem top.tw13068111086705522682 : True := trivial
theorem top.tw10987319290404115282 : True := trivial
theorem top.tw8212240652046128837 : True := trivial
theorem top.tw14762295962024373759 : True := trivial
theorem top.tw14697636140705633519 : True := trivial
theorem top.tw12415523145999629524 : True := trivial
theorem top.tw4597200072644226624 : True := trivial
theorem top.tw6042063481754889096 : True := trivial
theorem top.tw6572447435987645144 : True := trivial
theorem top.tw10195997230039290492 : True := trivial
theorem top.tw10864713392326063847 : True := trivial
theorem top.tw15740088241188596515 : True := trivial
theorem top.tw7600245330811189008 : True := trivial
theorem top.tw3254097082911018636 : True := trivial
theorem top.tw13326734554550294991 : True := trivial
theorem top.tw16878204669230926818 : True := trivial
theorem top.tw10797620697341660853 : True := trivial
theorem top.tw53344730913325255 : True := trivial
theorem top.tw8657480035899644758 : True := trivial
theorem top.tw76412952228603488 : True := trivial
theorem top.tw9739860059890490050 : True := trivial
theorem top.tw16415559393655328363 : True := trivial
theorem top.tw7313339093194340965 : True := trivial
theorem top.tw12427389293880184781 : True := trivial
theorem top.tw6430265229019958763 : True := trivial
theorem top.tw13134186033006778460 : True := trivial
theorem top.tw16054190913257422852 : True := trivial
theorem top.tw8148004212497801138 : True := trivial
theorem top.tw10783980745131425670 : True := trivial
theorem top.tw594810645892935528 : True := trivial
theorem top.tw2758071753971750899 : True := trivial
theorem top.tw11582926029173025856 : True := trivial
theorem top.tw13706816188851595723 : True := trivial
theorem top.tw11199710921928265848 : True := trivial
theorem top.tw17089494485692210459 : True := trivial
theorem top.tw2907113945770861938 : True := trivial
theorem top.tw9851269098105209369 : True := trivial
theorem top.tw11240886729373846589 : True := trivial
theorem top.tw18289109515434150305 : True := trivial
theorem top.tw14747140909534839006 : True := trivial
theorem top.tw3195522803047326042 : True := trivial
theorem top.tw16719718919923625709 : True := trivial
theorem top.tw10801874191123338550 : True := trivial
theorem top.tw15095372191486117680 : True := trivial
theorem top.tw13307591127769906961 : True := trivial
theorem top.tw196536941598035525 : True := trivial
theorem top.tw1843344800811705456 : True := trivial
theorem top.tw18367679650794681301 : True := trivial
theorem top.tw9442318146202087700 : True := trivial
theorem top.tw9366391650621772374 : True := trivial
theorem top.tw2683898200743741643 : True := trivial
theorem top.tw1291508964198565346 : True := trivial
theorem top.tw9233335307524088747 : True := trivial
theorem top.tw17795014544551873601 : True := trivial
theorem top.tw10657950659306570408 : True := trivial
theorem top.tw3976154599441133093 : True := trivial
theorem top.tw1754339480302792767 : True := trivial
theorem top.tw8025738503920905074 : True := trivial
theorem top.tw17542608870123051758 : True := trivial
theorem top.tw17219337458794519322 : True := trivial
theorem top.tw3712731000106771831 : True := trivial
theorem top.tw16597617366809209970 : True := trivial
theorem top.tw16453443671601555132 : True := trivial
theorem top.tw4828031223510198475 : True := trivial
theorem top.tw4526881389914513428 : True := trivial
theorem top.tw1108800333578037850 : True := trivial
theorem top.tw1068965626710143233 : True := trivial
theorem top.tw18177719399980262173 : True := trivial
theorem top.tw3315250197877816394 : True := trivial
theorem top.tw6487610083215253720 : True := trivial
theorem top.tw1294077662247117797 : True := trivial
theorem top.tw14724332232928298890 : True := trivial
theorem top.tw13290321428070320777 : True := trivial
theorem top.tw13799840507378627052 : True := trivial
theorem top.tw9195894827357321740 : True := trivial
theorem top.tw8472579005086612782 : True := trivial
theorem top.tw2220570432770164149 : True := trivial
theorem top.tw11334203419191126389 : True := trivial
theorem top.tw7671549972530922468 : True := trivial
theorem top.tw13001836021917841797 : True := trivial
theorem top.tw9165953624949470791 : True := trivial
theorem top.tw9919435345466941130 : True := trivial
theorem top.tw11443710868159068359 : True := trivial
theorem top.tw1601500998369573665 : True := trivial
theorem top.tw9166809390415177425 : True := trivial
theorem top.tw15245507539482535896 : True := trivial
theorem top.tw13983857475226248213 : True := trivial
theorem top.tw9589608677651300831 : True := trivial
theorem top.tw4835499133494076262 : True := trivial
theorem top.tw2506305409684761478 : True := trivial
theorem top.tw8311017846404947139 : True := trivial
theorem top.tw427420600052151026 : True := trivial
theorem top.tw2312856594315299383 : True := trivial
theorem top.tw1833847959688406909 : True := trivial
theorem top.tw13710211086531791108 : True := trivial
theorem top.tw104434173382791472 : True := trivial
theorem top.tw7204493036743257322 : True := trivial
theorem top.tw297971269722091814 : True := trivial
theorem top.tw4555866861457887817 : True := trivial
theorem top.tw6196800358849779857 : True := trivial
theorem top.tw7847352863974893604 : True := trivial
theorem top.tw11760055953109336660 : True := trivial
theorem top.tw1971433849790844608 : True := trivial
theorem top.tw5398424786039705171 : True := trivial
theorem top.tw4840481374290595910 : True := trivial
theorem top.tw4699463449715708850 : True := trivial
theorem top.tw14615657086365298920 : True := trivial
theorem top.tw6124053682588569230 : True := trivial
theorem top.tw8369368087495890639 : True := trivial
theorem top.tw13994475860397038760 : True := trivial
theorem top.tw3378803678994701225 : True := trivial
theorem top.tw4383139521930768336 : True := trivial
theorem top.tw3995942328266245912 : True := trivial
theorem top.tw3739144386018749749 : True := trivial
theorem top.tw5245862010334584759 : True := trivial
theorem top.tw17030962893124633753 : True := trivial
theorem top.tw6973401727384321114 : True := trivial
theorem top.tw9361663168868926718 : True := trivial
theorem top.tw1655259298481077034 : True := trivial
theorem top.tw12256363837256957063 : True := trivial
theorem top.tw3767615275625035234 : True := trivial
theorem top.tw5983031951866500094 : True := trivial
theorem top.tw17022078359063049780 : True := trivial
theorem top.tw47109162367338493 : True := trivial
theorem top.tw2878843996050045342 : True := trivial
theorem top.tw12958664272152378060 : True := trivial
theorem top.tw12545222027267286695 : True := trivial
theorem top.tw4177254973167742082 : True := trivial
theorem top.tw4058662728301269685 : True := trivial
theorem top.tw8043003576528973991 : True := trivial
theorem top.tw3796891538752321733 : True := trivial
theorem top.tw1321871150748368714 : True := trivial
theorem top.tw4392038535549328194 : True := trivial
theorem top.tw1112988674713690477 : True := trivial
theorem top.tw10341860258655708415 : True := trivial
theorem top.tw3696473221133414273 : True := trivial
theorem top.tw8265311939077410998 : True := trivial
theorem top.tw4134505453457115739 : True := trivial
theorem top.tw10399464001100048223 : True := trivial
theorem top.tw2722852734226103192 : True := trivial
theorem top.tw3484022092364678248 : True := trivial
theorem top.tw3207569582813703071 : True := trivial
theorem top.tw681777741448182936 : True := trivial
theorem top.tw6674990990233134667 : True := trivial
theorem top.tw9233715247699887402 : True := trivial
theorem top.tw15722756333993289495 : True := trivial
theorem top.tw3217022616335106338 : True := trivial
theorem top.tw12764151676501842404 : True := trivial
theorem top.tw84136930442132756 : True := trivial
theorem top.tw13968125046926948103 : True := trivial
theorem top.tw14537839394382259888 : True := trivial
theorem top.tw10574840078274726829 : True := trivial
theorem top.tw4736427724481360342 : True := trivial
theorem top.tw16004416686337608138 : True := trivial
theorem top.tw9178861053002065721 : True := trivial
theorem top.tw2727672472851901052 : True := trivial
theorem top.tw7681529838311687354 : True := trivial
theorem top.tw13223034962123697568 : True := trivial
theorem top.tw9590735534726013551 : True := trivial
theorem top.tw672699306608606093 : True := trivial
theorem top.tw10774637447528242797 : True := trivial
theorem top.tw1988063486488863061 : True := trivial
theorem top.tw3669314199184481253 : True := trivial
theorem top.tw3871027444623705763 : True := trivial
theorem top.tw1697544655201012999 : True := trivial
theorem top.tw12209182163369298222 : True := trivial
theorem top.tw6292954644110606532 : True := trivial
theorem top.tw3002795768020413707 : True := trivial
theorem top.tw11542710104232473196 : True := trivial
theorem top.tw10187724287525710026 : True := trivial
theorem top.tw7381879191629600215 : True := trivial
theorem top.tw9227541089923242437 : True := trivial
theorem top.tw1123975283337734383 : True := trivial
theorem top.tw10001883323181062329 : True := trivial
theorem top.tw2405475915293451298 : True := trivial
theorem top.tw14657780768301432306 : True := trivial
theorem top.tw5609151216138764652 : True := trivial
theorem top.tw15349318334595610263 : True := trivial
theorem top.tw6265701101103706036 : True := trivial
theorem top.tw17781115878593249900 : True := trivial
theorem top.tw2417791160451022400 : True := trivial
theorem top.tw2686433634493928565 : True := trivial
theorem top.tw8560541052185303311 : True := trivial
theorem top.tw8968299171318014206 : True := trivial
theorem top.tw2267912224990424062 : True := trivial
theorem top.tw14145802354927516647 : True := trivial
theorem top.tw11116745826364501430 : True := trivial
theorem top.tw14453841093610474573 : True := trivial
theorem top.tw5839659824258004927 : True := trivial
theorem top.tw2544169868661182894 : True := trivial
theorem top.tw4331257952254489624 : True := trivial
theorem top.tw6746510453823603384 : True := trivial
theorem top.tw13318506193475082254 : True := trivial
theorem top.tw11457754044182789617 : True := trivial
theorem top.tw10579768621468169598 : True := trivial
theorem top.tw7160873610591055699 : True := trivial
theorem top.tw3479634599624807885 : True := trivial
theorem top.tw9152664641465651067 : True := trivial
theorem top.tw995497684801637723 : True := trivial
theorem top.tw7325726471975496349 : True := trivial
theorem top.tw5507162329139097715 : True := trivial
theorem top.tw5702910450625016506 : True := trivial
theorem top.tw4796303294375832693 : True := trivial
theorem top.tw10361075674979980167 : True := trivial
theorem top.tw10694878333477680388 : True := trivial
theorem top.tw17346259052997144950 : True := trivial
theorem top.tw4547018644641229820 : True := trivial
theorem top.tw10562855833978642645 : True := trivial
theorem top.tw15212760480394562756 : True := trivial
theorem top.tw3140898538269762758 : True := trivial
theorem top.tw6659320528611288953 : True := trivial
theorem top.tw13864677062968915208 : True := trivial
theorem top.tw17576949682797635024 : True := trivial
theorem top.tw7273676953221729872 : True := trivial
theorem top.tw13549259019975226677 : True := trivial
theorem top.tw350670483859837877 : True := trivial
theorem top.tw11982747722937265360 : True := trivial
theorem top.tw13305523845174962083 : True := trivial
theorem top.tw2596539476470345881 : True := trivial
theorem top.tw13500427573557490136 : True := trivial
theorem top.tw8327351992414209593 : True := trivial
theorem top.tw8054331753737935190 : True := trivial
theorem top.tw13987285891283452908 : True := trivial
theorem top.tw956089473029861405 : True := trivial
theorem top.tw12117888159696746259 : True := trivial
theorem top.tw14671331368771545958 : True := trivial
theorem top.tw1297684725254868899 : True := trivial
theorem top.tw16736118626332596326 : True := trivial
theorem top.tw9666326922614434849 : True := trivial
theorem top.tw5648408011753718230 : True := trivial
theorem top.tw10017263926548143515 : True := trivial
theorem top.tw7033079012710635876 : True := trivial
theorem top.tw17176029603704830031 : True := trivial
theorem top.tw9685713192446186341 : True := trivial
theorem top.tw602653604445443664 : True := trivial
theorem top.tw7657828476027519975 : True := trivial
theorem top.tw4951766788466123468 : True := trivial
theorem top.tw4773702212245658779 : True := trivial
theorem top.tw12904532413392791838 : True := trivial
theorem top.tw6908635100366463001 : True := trivial
theorem top.tw5513142621748847562 : True := trivial
theorem top.tw3874152929960365753 : True := trivial
theorem top.tw14450715343900746980 : True := trivial
theorem top.tw1486479319815781832 : True := trivial
theorem top.tw17981982808018919739 : True := trivial
theorem top.tw16034636559557993077 : True := trivial
theorem top.tw15542334942015070624 : True := trivial
theorem top.tw9149571693438533347 : True := trivial
theorem top.tw3820434133910038737 : True := trivial
theorem top.tw2770239361232196585 : True := trivial
theorem top.tw953821971998124167 : True := trivial
theorem top.tw3120133295221510679 : True := trivial
theorem top.tw2601905985415302144 : True := trivial
theorem top.tw17474498911051797155 : True := trivial
theorem top.tw12783364522390391256 : True := trivial
theorem top.tw1584292188352093569 : True := trivial
theorem top.tw7913636548009798097 : True := trivial
theorem top.tw661290744650703789 : True := trivial
theorem top.tw13975414291046593716 : True := trivial
theorem top.tw668136137496459709 : True := trivial
theorem top.tw9673933992889287130 : True := trivial
theorem top.tw2685012915969955173 : True := trivial
theorem top.tw13261893007816960818 : True := trivial
theorem top.tw1394568958698188020 : True := trivial
theorem top.tw5728218623943512802 : True := trivial
theorem top.tw10414433010598505635 : True := trivial
theorem top.tw15911569825323301435 : True := trivial
theorem top.tw4695670854781333657 : True := trivial
theorem top.tw4807692442873511580 : True := trivial
theorem top.tw83393220934416808 : True := trivial
theorem top.tw17050326753033342646 : True := trivial
theorem top.tw13370185576492129568 : True := trivial
theorem top.tw4791253341166991637 : True := trivial
theorem top.tw17582957951858275007 : True := trivial
theorem top.tw8999917154711486175 : True := trivial
theorem top.tw6381231289166406305 : True := trivial
theorem top.tw12638030207367898728 : True := trivial
theorem top.tw10577272966987657301 : True := trivial
theorem top.tw2809488002615124206 : True := trivial
theorem top.tw6786057226368545225 : True := trivial
theorem top.tw5596365628329696591 : True := trivial
theorem top.tw14466935161476858967 : True := trivial
theorem top.tw3486219094355674750 : True := trivial
theorem top.tw2103985501979894447 : True := trivial
theorem top.tw14042817526060737062 : True := trivial
theorem top.tw1147548669246485465 : True := trivial
theorem top.tw401921906979044612 : True := trivial
theorem top.tw13713866747541496747 : True := trivial
theorem top.tw8693662901424576113 : True := trivial
theorem top.tw11053662475850362967 : True := trivial
theorem top.tw9990226795618131978 : True := trivial
theorem top.tw16262243036561855896 : True := trivial
theorem top.tw93012567124736588 : True := trivial
theorem top.tw17594962761535629368 : True := trivial
theorem top.tw9016798869158615873 : True := trivial
theorem top.tw1803303928475200142 : True := trivial
theorem top.tw3548060758652744671 : True := trivial
theorem top.tw7213333562754528385 : True := trivial
theorem top.tw8297286125493194097 : True := trivial
theorem top.tw16866024460163772082 : True := trivial
theorem top.tw8823455108540655025 : True := trivial
theorem top.tw13432635357386499347 : True := trivial
theorem top.tw11383000496634168614 : True := trivial
theorem top.tw12894197372075662830 : True := trivial
theorem top.tw3909029901177050473 : True := trivial
theorem top.tw16068562728529669930 : True := trivial
theorem top.tw13187519465064655849 : True := trivial
theorem top.tw9516688046558066552 : True := trivial
theorem top.tw7587601194962177611 : True := trivial
theorem top.tw10296497611174029103 : True := trivial
theorem top.tw17788931634197215145 : True := trivial
theorem top.tw10467260515200827399 : True := trivial
theorem top.tw17545328352263074274 : True := trivial
theorem top.tw2365566498512967660 : True := trivial
theorem top.tw2580922434103091657 : True := trivial
theorem top.tw17085176360113175178 : True := trivial
theorem top.tw7845129631348957993 : True := trivial
theorem top.tw13985988839938425345 : True := trivial
theorem top.tw15125931889511115149 : True := trivial
theorem top.tw11072019736110318841 : True := trivial
theorem top.tw2972514686349903234 : True := trivial
theorem top.tw6503730183909636620 : True := trivial
theorem top.tw7059692629156357883 : True := trivial
theorem top.tw11159431927160009238 : True := trivial
theorem top.tw15638586536077026902 : True := trivial
theorem top.tw5176459694589498394 : True := trivial
theorem top.tw2619622883677149074 : True := trivial
theorem top.tw6383614241601562808 : True := trivial
theorem top.tw4468942710605802240 : True := trivial
theorem top.tw2926424126403749041 : True := trivial
theorem top.tw5552270689369575618 : True := trivial
theorem top.tw5240762971458559404 : True := trivial
theorem top.tw15525995667512963556 : True := trivial
theorem top.tw6912233166142098652 : True := trivial
theorem top.tw6203543418390704334 : True := trivial
theorem top.tw7717162694582976202 : True := trivial
theorem top.tw14317375437502057738 : True := trivial
theorem top.tw14526540143163920134 : True := trivial
theorem top.tw2446451932059125521 : True := trivial
theorem top.tw14771320824794740959 : True := trivial
theorem top.tw14235281626263879747 : True := trivial
theorem top.tw3664424711883983056 : True := trivial
theorem top.tw15744752440731449612 : True := trivial
theorem top.tw2770563814800254177 : True := trivial
theorem top.tw411662067469150650 : True := trivial
theorem top.tw1209819496270969543 : True := trivial
theorem top.tw14983691940233647259 : True := trivial
theorem top.tw15687709949711836451 : True := trivial
theorem top.tw1522322319653140107 : True := trivial
theorem top.tw16734371015571099844 : True := trivial
theorem top.tw6893477703608230032 : True := trivial
theorem top.tw9843949296442739443 : True := trivial
theorem top.tw6448850889433096767 : True := trivial
theorem top.tw8637452081102412489 : True := trivial
theorem top.tw3331421620988305804 : True := trivial
theorem top.tw4010397242664982755 : True := trivial
theorem top.tw11189890337720088615 : True := trivial
theorem top.tw2968346561183084112 : True := trivial
theorem top.tw13899568491130100285 : True := trivial
theorem top.tw2617181576586992344 : True := trivial
theorem top.tw18185382058313985135 : True := trivial
theorem top.tw17964300760807480141 : True := trivial
theorem top.tw16264823338695392855 : True := trivial
theorem top.tw46980244435833615 : True := trivial
theorem top.tw15271675978053873483 : True := trivial
theorem top.tw16414630628198896168 : True := trivial
theorem top.tw9326722878772556681 : True := trivial
theorem top.tw13890846271309207196 : True := trivial
theorem top.tw11584198869435930015 : True := trivial
theorem top.tw14248925298954806443 : True := trivial
theorem top.tw3831216023754155268 : True := trivial
theorem top.tw8817415213059835157 : True := trivial
theorem top.tw1717825165581474212 : True := trivial
theorem top.tw13852830345959847167 : True := trivial
theorem top.tw2707679213066786127 : True := trivial
theorem top.tw13922054642007902626 : True := trivial
theorem top.tw6583040956863952856 : True := trivial
theorem top.tw11145643937294416527 : True := trivial
theorem top.tw2502181453436431679 : True := trivial
theorem top.tw11620634932572840514 : True := trivial
theorem top.tw12379415707883124570 : True := trivial
theorem top.tw12609604535291364189 : True := trivial
theorem top.tw9854310039474760501 : True := trivial
theorem top.tw12287887523310495049 : True := trivial
theorem top.tw15508944514630427714 : True := trivial
theorem top.tw1186331607622873149 : True := trivial
theorem top.tw11593399256984752444 : True := trivial
theorem top.tw11045010717311733409 : True := trivial
theorem top.tw17135812771915316397 : True := trivial
theorem top.tw13167462122316868159 : True := trivial
theorem top.tw18121752080927795069 : True := trivial
theorem top.tw18326957874037197240 : True := trivial
theorem top.tw10362775142378211054 : True := trivial
theorem top.tw8800459187187324500 : True := trivial
theorem top.tw16240068400928781132 : True := trivial
theorem top.tw5647976800219259906 : True := trivial
theorem top.tw3465488137227279516 : True := trivial
theorem top.tw1353657120722975067 : True := trivial
theorem top.tw13191473780850816973 : True := trivial
theorem top.tw8547604310838440241 : True := trivial
theorem top.tw12559286593441436923 : True := trivial
theorem top.tw3453223234828964814 : True := trivial
theorem top.tw16982378080980825192 : True := trivial
theorem top.tw5196900775432865589 : True := trivial
theorem top.tw4250876409542091131 : True := trivial
theorem top.tw12564220515667953714 : True := trivial
theorem top.tw9576743257966636567 : True := trivial
theorem top.tw8912170899635468890 : True := trivial
theorem top.tw15383718091736126541 : True := trivial
theorem top.tw9407396174263392564 : True := trivial
theorem top.tw2165817408578904141 : True := trivial
theorem top.tw15823732540823425666 : True := trivial
theorem top.tw17783859843131274014 : True := trivial
theorem top.tw16896751376397280635 : True := trivial
theorem top.tw11577829705659331004 : True := trivial
theorem top.tw114735475811551136 : True := trivial
theorem top.tw10276331973627342096 : True := trivial
theorem top.tw18134043772397237400 : True := trivial
theorem top.tw2752453847809088016 : True := trivial
theorem top.tw10871174231137468428 : True := trivial
theorem top.tw9238823003894178615 : True := trivial
theorem top.tw15073315481182737699 : True := trivial
theorem top.tw1142465760834251562 : True := trivial
theorem top.tw3846862658102513837 : True := trivial
theorem top.tw12507017104952529904 : True := trivial
theorem top.tw10242591131026960117 : True := trivial
theorem top.tw8620165645458168473 : True := trivial
theorem top.tw2287362676942042354 : True := trivial
theorem top.tw16612331741718818515 : True := trivial
theorem top.tw17807222030613408314 : True := trivial
theorem top.tw729201693064108563 : True := trivial
theorem top.tw5970215366352900667 : True := trivial
theorem top.tw6075534854705499898 : True := trivial
theorem top.tw4856909995586565122 : True := trivial
theorem top.tw15799541711010589177 : True := trivial
theorem top.tw6623532728838073528 : True := trivial
theorem top.tw15696354942287192291 : True := trivial
theorem top.tw4691186174975459493 : True := trivial
theorem top.tw12879618353801967718 : True := trivial
theorem top.tw8170299122808406783 : True := trivial
theorem top.tw7744093853086628109 : True := trivial
theorem top.tw16809779246217341487 : True := trivial
theorem top.tw5738303106652476479 : True := trivial
theorem top.tw14214845130331304391 : True := trivial
theorem top.tw2047080938173012442 : True := trivial
theorem top.tw7761843605638006849 : True := trivial
theorem top.tw16674975167109581930 : True := trivial
theorem top.tw2675166985342186458 : True := trivial
theorem top.tw3715792687998586317 : True := trivial
theorem top.tw11779653239440661071 : True := trivial
theorem top.tw17009415399725018624 : True := trivial
theorem top.tw16509065781470453940 : True := trivial
theorem top.tw7215319984434753242 : True := trivial
theorem top.tw7538252964068480738 : True := trivial
theorem top.tw3581848524822189991 : True := trivial
theorem top.tw1169771345039838236 : True := trivial
theorem top.tw3143785405151724282 : True := trivial
theorem top.tw17735899436944072409 : True := trivial
theorem top.tw6459276657848829223 : True := trivial
theorem top.tw18062624165398249997 : True := trivial
theorem top.tw314455870634268127 : True := trivial
theorem top.tw17576975557295073227 : True := trivial
theorem top.tw3033006917804047512 : True := trivial
theorem top.tw5186518429493523239 : True := trivial
theorem top.tw17494340499879156831 : True := trivial
theorem top.tw10643057118474118344 : True := trivial
theorem top.tw3087888393795971977 : True := trivial
theorem top.tw11131206648525784891 : True := trivial
theorem top.tw2047500489365003465 : True := trivial
theorem top.tw5235370132326077648 : True := trivial
theorem top.tw2965125352208521119 : True := trivial
theorem top.tw462939625794472801 : True := trivial
theorem top.tw12182655422080760471 : True := trivial
theorem top.tw7522852383072776753 : True := trivial
theorem top.tw10328360990557673835 : True := trivial
theorem top.tw9332579688445097367 : True := trivial
theorem top.tw16007503158450755388 : True := trivial
theorem top.tw4250950275838387964 : True := trivial
theorem top.tw4052878762203253943 : True := trivial
theorem top.tw8672883130414831044 : True := trivial
theorem top.tw1559226430018442191 : True := trivial
theorem top.tw7737320934136571279 : True := trivial
theorem top.tw4158126171336067921 : True := trivial
theorem top.tw2630061898475652689 : True := trivial
theorem top.tw5341934141677670832 : True := trivial
theorem top.tw6287420888163001789 : True := trivial
theorem top.tw14301671488300290737 : True := trivial
theorem top.tw372964977893139469 : True := trivial
theorem top.tw16342770487823414484 : True := trivial
theorem top.tw6756851087969907010 : True := trivial
theorem top.tw12625694945159114441 : True := trivial
theorem top.tw4232285709927190386 : True := trivial
theorem top.tw11592465598724292549 : True := trivial
theorem top.tw9833397302626899308 : True := trivial
theorem top.tw15740948416001004644 : True := trivial
theorem top.tw6460121766331871944 : True := trivial
theorem top.tw1192657577511650299 : True := trivial
theorem top.tw13385996262653078937 : True := trivial
theorem top.tw12643520174271941249 : True := trivial
theorem top.tw5590232498371695878 : True := trivial
theorem top.tw99440450732166138 : True := trivial
theorem top.tw8069049012094873728 : True := trivial
theorem top.tw4292522238394942308 : True := trivial
theorem top.tw12520176845478516731 : True := trivial
theorem top.tw3704924817259034979 : True := trivial
theorem top.tw6733462575251390621 : True := trivial
theorem top.tw13820912127525551613 : True := trivial
theorem top.tw10367675484739944270 : True := trivial
theorem top.tw17395277212465857529 : True := trivial
theorem top.tw7475746777092488413 : True := trivial
theorem top.tw1592229195962567352 : True := trivial
theorem top.tw4002441696211005659 : True := trivial
theorem top.tw16120041803238788101 : True := trivial
theorem top.tw4258143625173308034 : True := trivial
theorem top.tw6916252892733821390 : True := trivial
theorem top.tw2009410202504348048 : True := trivial
theorem top.tw14705559076539443318 : True := trivial
theorem top.tw2670627174450433442 : True := trivial
theorem top.tw1670607248958778201 : True := trivial
theorem top.tw17683472795295644477 : True := trivial
theorem top.tw8374938949443298174 : True := trivial
theorem top.tw3570499242123996262 : True := trivial
theorem top.tw12340227926317113386 : True := trivial
theorem top.tw6468107147075657394 : True := trivial
theorem top.tw12210559395081530917 : True := trivial
theorem top.tw6143595290313323761 : True := trivial
theorem top.tw568400683779154973 : True := trivial
theorem top.tw7439886461454727182 : True := trivial
theorem top.tw8985709366574770022 : True := trivial
theorem top.tw859137505422859605 : True := trivial
theorem top.tw5240389563564037448 : True := trivial
theorem top.tw11468358511172941013 : True := trivial
theorem top.tw5483185372664623402 : True := trivial
theorem top.tw12488038555639769405 : True := trivial
theorem top.tw15008207993883188931 : True := trivial
theorem top.tw657111498738832265 : True := trivial
theorem top.tw16836452506482946331 : True := trivial
theorem top.tw8455645898260960030 : True := trivial
theorem top.tw1897025099450329940 : True := trivial
theorem top.tw2685745773621513544 : True := trivial
theorem top.tw5790966258338625528 : True := trivial
theorem top.tw11470690223818410786 : True := trivial
theorem top.tw9456006794991739263 : True := trivial
theorem top.tw17774833976778514315 : True := trivial
theorem top.tw9723989250521069032 : True := trivial
theorem top.tw2104741419117168686 : True := trivial
theorem top.tw17709558473723601244 : True := trivial
theorem top.tw14645912567700417926 : True := trivial
theorem top.tw10836530967397901330 : True := trivial
theorem top.tw9038659593494541401 : True := trivial
theorem top.tw12777601194060584777 : True := trivial
theorem top.tw7280543176740627685 : True := trivial
theorem top.tw3473093325804163894 : True := trivial
theorem top.tw1974259917200649262 : True := trivial
theorem top.tw1236304545764765349 : True := trivial
theorem top.tw1551491737661789689 : True := trivial
theorem top.tw9514800995652322822 : True := trivial
theorem top.tw16663787254893796032 : True := trivial
theorem top.tw14214649769353832295 : True := trivial
theorem top.tw4626048006780466326 : True := trivial
theorem top.tw304654302220672320 : True := trivial
theorem top.tw15735037969156040135 : True := trivial
theorem top.tw7108139096449030536 : True := trivial
theorem top.tw16281582537960229878 : True := trivial
theorem top.tw16659674399394625376 : True := trivial
theorem top.tw10317287140990440334 : True := trivial
theorem top.tw2105017259488925948 : True := trivial
theorem top.tw4131498621145694574 : True := trivial
theorem top.tw1304757597395314617 : True := trivial
theorem top.tw2910609919460849807 : True := trivial
theorem top.tw13902025155065610156 : True := trivial
theorem top.tw17160434163424456010 : True := trivial
theorem top.tw2896640688883821729 : True := trivial
theorem top.tw17366924284538989914 : True := trivial
theorem top.tw2446586112883488508 : True := trivial
theorem top.tw13901205277877782832 : True := trivial
theorem top.tw16258771989139608452 : True := trivial
theorem top.tw2975709217455756120 : True := trivial
theorem top.tw8628236747792435071 : True := trivial
theorem top.tw12865423146811077096 : True := trivial
theorem top.tw13759081321499198575 : True := trivial
theorem top.tw17785818512168800811 : True := trivial
theorem top.tw11917448952958348678 : True := trivial
theorem top.tw10768140376307724812 : True := trivial
theorem top.tw16542083797698202722 : True := trivial
theorem top.tw6754034310392073148 : True := trivial
theorem top.tw6345181382737326586 : True := trivial
theorem top.tw5379463472682653830 : True := trivial
theorem top.tw3603051052118289896 : True := trivial
theorem top.tw2565563351968343141 : True := trivial
theorem top.tw7702549930194098719 : True := trivial
theorem top.tw16525863338940772298 : True := trivial
theorem top.tw3347922821702440152 : True := trivial
theorem top.tw9854493187847425173 : True := trivial
theorem top.tw3764141193738528704 : True := trivial
theorem top.tw3901323768455840569 : True := trivial
theorem top.tw11765434788231831023 : True := trivial
theorem top.tw16793365374058956912 : True := trivial
theorem top.tw4885547446624616799 : True := trivial
theorem top.tw5571243529121415630 : True := trivial
theorem top.tw18330144715369815205 : True := trivial
theorem top.tw5072613934562372735 : True := trivial
theorem top.tw5444345374180229054 : True := trivial
theorem top.tw18229784292405043182 : True := trivial
theorem top.tw18016941796951652274 : True := trivial
theorem top.tw16526113553464788058 : True := trivial
theorem top.tw16357309143852133390 : True := trivial
theorem top.tw4977374598719398275 : True := trivial
theorem top.tw11842451847925006096 : True := trivial
theorem top.tw4807402645868434406 : True := trivial
theorem top.tw10180943152330463961 : True := trivial
theorem top.tw17434308400759680031 : True := trivial
theorem top.tw12329864456250741675 : True := trivial
theorem top.tw1293289543672728842 : True := trivial
theorem top.tw15262977503361262276 : True := trivial
theorem top.tw1312780250039628139 : True := trivial
theorem top.tw9694206877528517478 : True := trivial
theorem top.tw10350142207108426684 : True := trivial
theorem top.tw11263669390164206178 : True := trivial
theorem top.tw2424727229257130912 : True := trivial
theorem top.tw15234444972351076034 : True := trivial
theorem top.tw650146959520709813 : True := trivial
theorem top.tw4181406029030974548 : True := trivial
theorem top.tw17444329988762607307 : True := trivial
theorem top.tw1990408344712342385 : True := trivial
theorem top.tw16656781636731879198 : True := trivial
theorem top.tw13178059906610389163 : True := trivial
theorem top.tw5163715390036670947 : True := trivial
theorem top.tw9486757043174368735 : True := trivial
theorem top.tw11828478481110319688 : True := trivial
theorem top.tw4705723845826882120 : True := trivial
theorem top.tw682014064893787789 : True := trivial
theorem top.tw10885322118463539834 : True := trivial
theorem top.tw3423177367516475676 : True := trivial
theorem top.tw17921175469725437805 : True := trivial
theorem top.tw3389129807090800087 : True := trivial
theorem top.tw18236624570336363585 : True := trivial
theorem top.tw14029182922437419836 : True := trivial
theorem top.tw18386854893347148238 : True := trivial
theorem top.tw16844067456194695469 : True := trivial
theorem top.tw14309182039651084788 : True := trivial
theorem top.tw65929781887070819 : True := trivial
theorem top.tw1880918794155911695 : True := trivial
theorem top.tw15743347864482560488 : True := trivial
theorem top.tw7358114872323791358 : True := trivial
theorem top.tw4547113066930546574 : True := trivial
theorem top.tw13830271770371739309 : True := trivial
theorem top.tw10505224238033894595 : True := trivial
theorem top.tw11384800866962632227 : True := trivial
theorem top.tw15166127791298437107 : True := trivial
theorem top.tw12725264436868645240 : True := trivial
theorem top.tw14308104382005812605 : True := trivial
theorem top.tw9936536881743500907 : True := trivial
theorem top.tw479018264907363369 : True := trivial
theorem top.tw7675417749720738473 : True := trivial
theorem top.tw8372035913837991250 : True := trivial
theorem top.tw17431308487043992063 : True := trivial
theorem top.tw8500458220134822360 : True := trivial
theorem top.tw13844505572957833930 : True := trivial
theorem top.tw1950521091445644615 : True := trivial
theorem top.tw8150499350492408157 : True := trivial
theorem top.tw6699709698940308603 : True := trivial
theorem top.tw4586369020291528013 : True := trivial
theorem top.tw2167618695193717045 : True := trivial
theorem top.tw9684699057600944294 : True := trivial
theorem top.tw16739174306508632950 : True := trivial
theorem top.tw7191137982244381804 : True := trivial
theorem top.tw12554540806306477360 : True := trivial
theorem top.tw1054488965285714247 : True := trivial
theorem top.tw5251713544086459897 : True := trivial
theorem top.tw7892811243723596987 : True := trivial
theorem top.tw2063449620868658059 : True := trivial
theorem top.tw18137363274558907533 : True := trivial
theorem top.tw450566749975022562 : True := trivial
theorem top.tw15003358760713899574 : True := trivial
theorem top.tw1792224892710378537 : True := trivial
theorem top.tw15024216053386777475 : True := trivial
theorem top.tw1043701613660472097 : True := trivial
theorem top.tw14786789198576647004 : True := trivial
theorem top.tw3949973439248644570 : True := trivial
theorem top.tw14319750081657075607 : True := trivial
theorem top.tw13422432716488540661 : True := trivial
theorem top.tw9250549774821547598 : True := trivial
theorem top.tw9111341701214203307 : True := trivial
theorem top.tw3418912648064540324 : True := trivial
theorem top.tw3698484244233388692 : True := trivial
theorem top.tw1107088416671253978 : True := trivial
theorem top.tw4395346232132896567 : True := trivial
theorem top.tw302023382947574297 : True := trivial
theorem top.tw2422214840401454511 : True := trivial
theorem top.tw10512489437642701289 : True := trivial
theorem top.tw3843465024185675410 : True := trivial
theorem top.tw679676368844127653 : True := trivial
theorem top.tw7314081408670574914 : True := trivial
theorem top.tw5005317128667965579 : True := trivial
theorem top.tw17240160907184977327 : True := trivial
theorem top.tw1536312445118062077 : True := trivial
theorem top.tw11735923915801401282 : True := trivial
theorem top.tw12031303853943761323 : True := trivial
theorem top.tw1137235612907882162 : True := trivial
theorem top.tw7980593446034420393 : True := trivial
theorem top.tw4566856676736034171 : True := trivial
theorem top.tw15836908640704697380 : True := trivial
theorem top.tw11840804652615492782 : True := trivial
theorem top.tw12193372218175167114 : True := trivial
theorem top.tw8640417174963836015 : True := trivial
theorem top.tw2248615004971204189 : True := trivial
theorem top.tw5705847716771211507 : True := trivial
theorem top.tw5536038536531405202 : True := trivial
theorem top.tw17157282023139344501 : True := trivial
theorem top.tw16128028805679967097 : True := trivial
theorem top.tw9806617501295524395 : True := trivial
theorem top.tw14562072457839527476 : True := trivial
theorem top.tw16487795177693110071 : True := trivial
theorem top.tw17336350906216195740 : True := trivial
theorem top.tw16721989186581611170 : True := trivial
theorem top.tw11561827921928013385 : True := trivial
theorem top.tw7158002623345892728 : True := trivial
theorem top.tw13474863142627684814 : True := trivial
theorem top.tw17794366733547915435 : True := trivial
theorem top.tw11153979150802330146 : True := trivial
theorem top.tw15151295755643613229 : True := trivial
theorem top.tw8541664164027344294 : True := trivial
theorem top.tw8779778587388263019 : True := trivial
theorem top.tw13546161746385187788 : True := trivial
theorem top.tw2564807258711394888 : True := trivial
theorem top.tw4111001743050654279 : True := trivial
theorem top.tw9908339238214195531 : True := trivial
theorem top.tw16615598289260009181 : True := trivial
theorem top.tw14277827659066580250 : True := trivial
theorem top.tw14120148312427719287 : True := trivial
theorem top.tw10101883924317870271 : True := trivial
theorem top.tw6185767955086497853 : True := trivial
theorem top.tw16533540343700365917 : True := trivial
theorem top.tw5535988348211436712 : True := trivial
theorem top.tw5290597957214086601 : True := trivial
theorem top.tw18444284757076569719 : True := trivial
theorem top.tw1595350964381101642 : True := trivial
theorem top.tw1805163160381243805 : True := trivial
theorem top.tw16307090917165222298 : True := trivial
theorem top.tw15690355392615275366 : True := trivial
theorem top.tw9287724387753133302 : True := trivial
theorem top.tw5380135791562185454 : True := trivial
theorem top.tw10239475785048107997 : True := trivial
theorem top.tw11889597043561437815 : True := trivial
theorem top.tw2712389131950775728 : True := trivial
theorem top.tw1970226141267450039 : True := trivial
theorem top.tw3695669965767098725 : True := trivial
theorem top.tw8746941081350896204 : True := trivial
theorem top.tw5077617475879078156 : True := trivial
theorem top.tw12043218685254973450 : True := trivial
theorem top.tw8716659796364181309 : True := trivial
theorem top.tw12756434147638494346 : True := trivial
theorem top.tw439095664309466517 : True := trivial
theorem top.tw9908739903337578654 : True := trivial
theorem top.tw15873491276070852124 : True := trivial
theorem top.tw9777375502002234229 : True := trivial
theorem top.tw2511388062720753356 : True := trivial
theorem top.tw17586783052614405119 : True := trivial
theorem top.tw4154345032738424160 : True := trivial
theorem top.tw6933892841690572062 : True := trivial
theorem top.tw16753658254399821694 : True := trivial
theorem top.tw9590619109379692515 : True := trivial
theorem top.tw9831455883205970180 : True := trivial
theorem top.tw11503242561204267055 : True := trivial
theorem top.tw9835852885743449411 : True := trivial
theorem top.tw6057728870046649322 : True := trivial
theorem top.tw15506382734810221985 : True := trivial
theorem top.tw4501217679856968648 : True := trivial
theorem top.tw14510474431719978317 : True := trivial
theorem top.tw5151264090131730833 : True := trivial
theorem top.tw8347795973495727564 : True := trivial
theorem top.tw8529706226740600733 : True := trivial
theorem top.tw14707807475535933493 : True := trivial
theorem top.tw3512812017678644602 : True := trivial
theorem top.tw5922324665105752571 : True := trivial
theorem top.tw9682687983338836895 : True := trivial
theorem top.tw5365650347091420665 : True := trivial
theorem top.tw13525443076416275642 : True := trivial
theorem top.tw9930815651645962114 : True := trivial
theorem top.tw16759193500350966715 : True := trivial
theorem top.tw378458367893578143 : True := trivial
theorem top.tw2479311146797828861 : True := trivial
theorem top.tw3392894077380570524 : True := trivial
theorem top.tw5071412327939943321 : True := trivial
theorem top.tw16326585352142918636 : True := trivial
theorem top.tw11093206078495630212 : True := trivial
theorem top.tw11961350612320602522 : True := trivial
theorem top.tw12960919825447276754 : True := trivial
theorem top.tw5764397981948056254 : True := trivial
theorem top.tw8722410040271553984 : True := trivial
theorem top.tw13007260833023717011 : True := trivial
theorem top.tw5184316447030610940 : True := trivial
theorem top.tw7230903212357928904 : True := trivial
theorem top.tw9429129263215473398 : True := trivial
theorem top.tw7387763944681370771 : True := trivial
theorem top.tw7781603739153083191 : True := trivial
theorem top.tw9622763587122877835 : True := trivial
theorem top.tw5691087667936548404 : True := trivial
theorem top.tw16770000883354449096 : True := trivial
theorem top.tw17566744294597663674 : True := trivial
theorem top.tw13571448547899197161 : True := trivial
theorem top.tw5078243831526850631 : True := trivial
theorem top.tw10353446712322349686 : True := trivial
theorem top.tw13915387964903991752 : True := trivial
theorem top.tw4758991174889311326 : True := trivial
theorem top.tw12218787953657430602 : True := trivial
theorem top.tw10892192912376451201 : True := trivial
theorem top.tw7360070258638436176 : True := trivial
theorem top.tw15985680467844229196 : True := trivial
theorem top.tw16085473023203611486 : True := trivial
theorem top.tw8975108423156789194 : True := trivial
theorem top.tw12443789822770055382 : True := trivial
theorem top.tw17916939684832112104 : True := trivial
theorem top.tw13762209637798829341 : True := trivial
theorem top.tw6276886402236213621 : True := trivial
theorem top.tw6220391956798857122 : True := trivial
theorem top.tw12734148187753135964 : True := trivial
theorem top.tw6594526768476950845 : True := trivial
theorem top.tw12033610942823940228 : True := trivial
theorem top.tw15029563650323070435 : True := trivial
theorem top.tw6432616177841060128 : True := trivial
theorem top.tw14065501367340364311 : True := trivial
theorem top.tw18201758440048473509 : True := trivial
theorem top.tw17226846203573267761 : True := trivial
theorem top.tw5472114250418208992 : True := trivial
theorem top.tw2529601377429677153 : True := trivial
theorem top.tw913810622518204374 : True := trivial
theorem top.tw7188692134583612594 : True := trivial
theorem top.tw6480638250107114081 : True := trivial
theorem top.tw16166457384891526456 : True := trivial
theorem top.tw4345882819342510227 : True := trivial
theorem top.tw4730768163679209282 : True := trivial
theorem top.tw10248073240650190340 : True := trivial
theorem top.tw9822532417609929294 : True := trivial
theorem top.tw8243169916365450940 : True := trivial
theorem top.tw7926136590108786892 : True := trivial
theorem top.tw15966430410579761919 : True := trivial
theorem top.tw1867163669062818997 : True := trivial
theorem top.tw5850499497852442878 : True := trivial
theorem top.tw7438316178485321408 : True := trivial
theorem top.tw405421117753717134 : True := trivial
theorem top.tw17104280840954017025 : True := trivial
theorem top.tw4778504736273101941 : True := trivial
theorem top.tw17138679496734019247 : True := trivial
theorem top.tw1007256952997204316 : True := trivial
theorem top.tw32865551896584297 : True := trivial
theorem top.tw8720027088463671890 : True := trivial
theorem top.tw12157284967251751451 : True := trivial
theorem top.tw408693308722189009 : True := trivial
theorem top.tw16994376123345812558 : True := trivial
theorem top.tw15833254233020807429 : True := trivial
theorem top.tw7138430578808182737 : True := trivial
theorem top.tw419386298079150103 : True := trivial
theorem top.tw3302753350502126306 : True := trivial
theorem top.tw8450641986135516787 : True := trivial
theorem top.tw2680655200719965100 : True := trivial
theorem top.tw14428541309147478210 : True := trivial
theorem top.tw17756194745548210895 : True := trivial
theorem top.tw6619077023068780702 : True := trivial
theorem top.tw7326723310030351153 : True := trivial
theorem top.tw16441578918305252802 : True := trivial
theorem top.tw17377934564383891116 : True := trivial
theorem top.tw11862920568910387298 : True := trivial
theorem top.tw6240597372359344220 : True := trivial
theorem top.tw3605147657684821369 : True := trivial
theorem top.tw8163011886388404031 : True := trivial
theorem top.tw2411195145006440666 : True := trivial
theorem top.tw13576654369662418201 : True := trivial
theorem top.tw17337222044243258637 : True := trivial
theorem top.tw15491019914900986176 : True := trivial
theorem top.tw12521587561680038787 : True := trivial
theorem top.tw17489137672866753323 : True := trivial
theorem top.tw3225794865359289376 : True := trivial
theorem top.tw18194552166560175392 : True := trivial
theorem top.tw1508922514104376128 : True := trivial
theorem top.tw6848953149557738336 : True := trivial
theorem top.tw3012798349882047937 : True := trivial
theorem top.tw16398254142604309570 : True := trivial
theorem top.tw7153270680253938626 : True := trivial
theorem top.tw64160974332178212 : True := trivial
theorem top.tw316636258320078149 : True := trivial
theorem top.tw14708937918908249606 : True := trivial
theorem top.tw219567558967394950 : True := trivial
theorem top.tw3967306507362219782 : True := trivial
theorem top.tw16371622214042009960 : True := trivial
theorem top.tw8842920842616230505 : True := trivial
theorem top.tw676889465732682954 : True := trivial
theorem top.tw9437893007894698314 : True := trivial
theorem top.tw18241700872308971723 : True := trivial
theorem top.tw914645990614112779 : True := trivial
theorem top.tw10847726476359559756 : True := trivial
theorem top.tw15174248262532581068 : True := trivial
theorem top.tw9068506458530023791 : True := trivial
theorem top.tw7360493887585077711 : True := trivial
theorem top.tw6473336682457920079 : True := trivial
theorem top.tw14788361298899680143 : True := trivial
theorem top.tw5459370842139501616 : True := trivial
theorem top.tw2285249450165484272 : True := trivial
theorem top.tw11596720369800417969 : True := trivial
theorem top.tw13219856057858667667 : True := trivial
theorem top.tw4057168336174717332 : True := trivial
theorem top.tw469846691658948117 : True := trivial
theorem top.tw16949553291189137431 : True := trivial
theorem top.tw13368900283688181883 : True := trivial
theorem top.tw1263228655654097787 : True := trivial
theorem top.tw17836783524569865436 : True := trivial
theorem top.tw11856563998843126045 : True := trivial
theorem top.tw7994173218167792958 : True := trivial
theorem top.tw18352165411519847751 : True := trivial
theorem top.tw14871768442078809127 : True := trivial
theorem top.tw357486453476387696 : True := trivial
end Mine
open Mine
local macro_rules | `(tactic| walk_at "newTuple") => `(tactic| (k_here; k_dflt (apply newTuple_lt; k_asm; k_asm; rotate_left; size_fits); intro l' h' F' N' l1; (try k_lt l1); (try k_sweep)))
local macro_rules | `(tactic| walk_at "call builtin:len") => `(tactic| (k_here; (with_reducible show wpAny _ _ (call (Value.builtin "len") [Value.ref _]) _ _ _); k_dflt (apply len_sym; k_asm; k_mem; (focus first | with_reducible assumption | omega); k_whole)))
local macro_rules | `(tactic| k_mem) => `(tactic| focus (fail_if_success with_reducible show _ ∈ ([] : List _)); (repeat (first | (apply List.Mem.head; done) | apply List.Mem.tail)); done)
local macro_rules | `(tactic| k_memK) => `(tactic| k_mem)
local macro_rules | `(tactic| walk_at "drop") => `(tactic| ((fail_if_success refine in1 ?_ ?_); refine in_drop ?_; first | exact in_refl | walk_at "drop"))
local macro_rules | `(tactic| k_allIn) => `(tactic| first | exact in0 | exact in_refl | (apply in4; k_memK; k_memK; k_memK; k_memK; k_allIn) | (apply in1; k_memK; k_allIn) | walk_at "drop")
local macro_rules | `(tactic| k_in) => `(tactic| first | with_reducible assumption | exact Frag.In.keeps (by with_reducible assumption) (Fr.keep (by with_reducible assumption)))
local macro_rules | `(tactic| walk_at "room") => `(tactic| first | exact rmk (by with_reducible assumption) rfl | exact rmk2 (by with_reducible assumption) rfl | exact rm0 (by with_reducible assumption) rfl | exact rmk3 (by with_reducible assumption) rfl | omega)
local macro_rules | `(tactic| k_room) => `(tactic| ((try simp only [depth_under_make, depth_under_kw, depth_in1, depth_deeper]); (try dsimp only [Around.deeper, Around.in1, Around.mark]); (show _ < 1000); walk_at "room"))
local macro_rules | `(tactic| k_units) => `(tactic| (dsimp only [Around.deeper, Around.in1, Around.mark]; first | walk_at "room" | (unfold cLine; omega)))
local macro_rules | `(tactic| k_steps) => `(tactic| repeat' (first | (k_unfold; (try dsimp only)) | (k_end; wrow_close) | (walk1; (try (with_reducible refine tok3 ?_; intro tk))) | (dsimp only; walk1; (try (with_reducible refine tok3 ?_; intro tk))) | (leave1; (try dsimp only)) | fail "no step"))
local macro_rules | `(tactic| size_fits) => `(tactic| (exact Nat.le_of_ble_eq_true rfl))
local macro_rules | `(tactic| walk_at "eval Name") => `(tactic| (k_here; (with_reducible show wpAny _ _ (eval (Expr.Name _ _) (envOf _ _ _ _ _)) _ _ _); (with_reducible rename Fr _ _ _ _ => kF); with_unfolding_all refine guard_global (by rfl) ?_; k_dflt (refine' name_K kF ?k1 ?k2 ?k3 ?_; (case k1 => k_asm); (case k2 => k_asm); (case k3 => k_is); k_whole)))
local macro_rules | `(tactic| walk_at "eval Name") => `(tactic| (k_here; (with_reducible show wpAny _ _ (eval (Expr.Name _ _) (envOf _ _ _ _ _)) _ _ _); k_dflt (apply ld; k_asm; exact rfl; k_whole)))
local macro_rules | `(tactic| walk_at "call ref") => `(tactic| (k_here; k_dflt (first
  | (refine wpAny_call ?_; k_enter)
  | (apply call_cls0; k_asm; k_asm; k_asm; k_is; k_is; k_whole; intro x' d' h' F' N' l1 l2; (try k_lt l1); (try k_lt2 l2); (try k_sweep))
  | (apply call_cls; k_asm; k_asm; k_asm; k_is; k_is; k_is; k_whole; intro x' d' h' F' N' l1 l2; (try k_lt l1); (try k_lt2 l2); (try k_sweep); k_enter))))
local macro_rules | `(tactic| walk_at "callWith ref") => `(tactic| (k_here; k_dflt (apply callWith_K; k_asm; k_is; k_whole)))
local macro_rules | `(tactic| walk_at "getAttr ref") => `(tactic| (k_here; k_dflt (first
  | apply get_own; k_asm; k_asm; (focus k_inst); k_is; k_is; k_is; k_is; (focus k_get); (focus k_handed); k_whole
  | apply cls_val; k_asm; k_asm; k_is; k_is; k_is; (focus k_handed); k_whole)))
local macro_rules | `(tactic| walk_at "getMethod ref") => `(tactic| (k_here; k_dflt (first | apply method_of_cls; k_asm; k_asm; k_is; k_whole | apply method_inst; k_asm; k_asm; (focus k_inst); k_is; k_is; k_is; (focus k_get); k_whole)))
local macro_rules | `(tactic| k_all) => `(tactic| first | exact ne_all (by with_reducible assumption) | exact ne0 | (refine' ne1 ?a ?b; (case a => k_ne); (case b => k_all)))
local macro_rules | `(tactic| walk_at "bef") => `(tactic| (with_reducible refine SD.bef (by with_reducible assumption) ?_; with_reducible ((repeat (first | (apply Bef.here; (repeat (first | exact List.mem_cons_self | apply List.mem_cons_of_mem)); done) | apply Bef.there)); done)))
local macro_rules | `(tactic| walk_at "lt") => `(tactic| first | exact lt_all (by with_reducible assumption) (by k_mem) | walk_at "bef")
local macro_rules | `(tactic| walk_at "nlt") => `(tactic| first | (refine Nat.ne_of_lt ?_; walk_at "lt") | (refine Nat.ne_of_gt ?_; walk_at "lt"))
local macro_rules | `(tactic| walk_at "ord") => `(tactic| first | with_reducible assumption | walk_at "lt" | (refine Nat.le_of_lt ?_; walk_at "lt") | walk_at "nlt" | with_reducible exact eq_le | omega)
local macro_rules | `(tactic| k_lt $_) => `(tactic| skip)
local macro_rules | `(tactic| k_ne) => `(tactic| first | with_reducible assumption | exact Nat.ne_of_gt (by with_reducible assumption) | exact Nat.ne_of_lt (by with_reducible assumption) | walk_at "nlt" | (refine' Nat.ne_of_gt (Nat.lt_trans ?a ?b); (case b => with_reducible assumption); (case a => walk_at "lt")) | (refine' Nat.ne_of_lt (Nat.lt_trans ?a ?b); (case b => with_reducible assumption); (case a => walk_at "lt")) | exact Ne.symm (by with_reducible assumption) | (refine neN ?_; (try dsimp only); omega))
section
local macro_rules | `(tactic| k_lt $h:ident) => `(tactic| (try (have sdX := sd_cons (by with_reducible assumption) (lt_all $h (by k_mem)))))
local macro_rules | `(tactic| walk_at "callWith ref") => `(tactic| (k_here; (with_reducible show wpAny _ _ (callWith _ _ _ (backTo _ (starEach [] _)) []) _ _ _); k_dflt (refine' callWith_K0 ?_ ?_ ?_; k_in; k_is; k_whole)))
local macro_rules | `(tactic| walk_at "n") => `(tactic| skip)
local macro_rules | `(tactic| k_lt $h:ident) => `(tactic| (try (have sdX := sd_cons (by with_reducible assumption) (lt_head $h); dsimp only at sdX)))
local macro_rules | `(tactic| k_lt2 $h:ident) => `(tactic| (try (have sdX := sd_cons (by with_reducible assumption) (ltN $h))))
local macro_rules | `(tactic| k_upd) => `(tactic| (apply upd_of_X; (focus with_reducible ((repeat (first | apply UpdX.head | apply UpdX.tail)); (repeat (first | (apply AddrsX.tail; with_reducible assumption) | apply addrsX_nil | apply AddrsX.cons)))); (focus with_reducible assumption)))
local macro_rules | `(tactic| k_updF) => `(tactic| (apply updF_of_X; (focus with_reducible ((repeat (first | apply UpdFX.head | apply UpdFX.tail)); (repeat (first | (apply AddrsX.tail; with_reducible assumption) | apply addrsX_nil | apply AddrsX.cons)))); (focus with_reducible assumption)))
set_option Elab.async true in
theorem Mine.top (cs9 : Mine.Cs) : PySem.Challenge.rw_qz0130_01.Holds := by
  w_on
  o_law
  apply cut9
  (case main9 => o_head (Mine.fastHook Mine.hd.heap_1 [2,3,15,17,18,20,21,22,24,25,27,28,36,38,39,41,42,43,44,45,46,47,50,57,59,60,62,63,64,65,66,69,76,78,79,81,82,83,84,85,88,95,97,98,100,101,102,103,104,107,114,116,117,119,120,121,122,123,126,133,135,136,138,139,140,141,142,152,153,155,156,158,159,160,161,162,163,164,174,176,177,179,180,181,183,184,186,187,188,190,191,193,194,195,197,198,200,201,202,204,205,207,208,209,211,212,214,215,216,218,219,221,222,223,224,225,226,227,230,232,233,235,236,237,239,240,242,243,244,246,247,249,250,251,253,254,256,257,258,260,261,263,264,265,267,268,270,271,272,274,275,277,278,279,281,282,284,285,286,288,289,291,292,293,295,296,298,299,300,301,303,304,306,307,308,310,311,313,314,315,317,318,320,321,322,324,325,327,328,329,331,332,334,335,336,338,339,341,342,343,345,346,348,349,350,352,353,355,356,357,359,360,362,363,364,366,367,369,370,371,373,374,376,377,378,380,381,383,384,385,386,388,389,391,392,393,400,402,403,405,406,407,408,409,410,413,420,422,423,425,426,427,428,429,432,439,441,442,444,445,446,447,448,451,458,460,461,463,464,465,466,467,470,477,478,479,482,489,491,492,494,495,496,497,498,501,503,504,506,507,508,510,511,513,514,515,517,518,520,521,529,531,532,534,535,536,537,538,539,540,550,552,553,555,556,557,558,559,560,561,564,566,567,569,570,571,573,574,576,577,578,580,581,583,584,585,587,588,590,591,592,594,595,597,598,599,601,602,604,605,606,607,610,611,612,614,615,617,618,619,621,622,624,625,626,628,629,631,632,640,642,643,645,646,647,649,650,652,653,654,655,656,657,658,661,663,664,666,667,668,670,671,673,674,675,677,678,680,681,682,684,685,687,688,689,691,692,694,695,696,698,699,701,702,710,712,713,715,716,717,718,719,720,721,724,731,733,734,736,737,738,739,740,743,746,747,748,755,757,758,760,761,762,763,764,767,770,771,772,774,775,777,778,779,781,782,784,785,786,788,789,791,792,793,795,796,798,799,800,802,803,805,806,807,809,810,812,813,814,816,817,819,820,821,823,824,826,827,828,830,831,833,834,835,837,838,840,841,842,844,845,847,848,849,851,852,854,855,856,857,860,861,862,864,865,867,868,869,871,872,874,875,876,878,879,881,882,883,885,886,888,889,890,892,893,895,896,897,899,900,902,903,904,906,907,909,910,911,913,914,916,917,925,927,928,930,931,932,933,934,935,936,939,941,942,944,945,946,949,950,951,953,954,956,957,958,961,962,970,972,973,975,976,977,979,980,982,983,984,986,987,989,990,991,993,994,996,997,998,1000,1001,1003,1004,1005,1008,1009,1010,1012,1013,1015,1016,1017,1019,1020,1022,1023,1024,1026,1027,1029,1030,1031,1033,1034,1036,1037,1038,1040,1041,1043,1044,1045,1047,1048,1050,1051,1052,1053,1054,1055,1056,1066,1067,1069,1070,1072,1073,1074,1075,1076,1077,1078,1088,1090,1091,1093,1094,1095,1097,1098,1100,1101,1102,1104,1105,1107,1108,1109,1111,1112,1114,1115,1116,1118,1119,1121,1122,1123,1125,1126,1128,1129,1130,1132,1133,1135,1136,1137,1138,1139,1140,1141,1144,1146,1147,1149,1150,1151,1153,1154,1156,1157,1158,1160,1161,1163,1164,1165,1167,1168,1170,1171,1172,1175,1176] (fun _ => by kernel_rfl) (fun _ => by kernel_rfl) [1166]); (case hw => w_witness2))
  rename_i said9
  clear said9
  refine walk_km (e := fun _ => by kernel_rfl) ?_
  w_strict (k_go0; (all_goals try k_fold))
  refine abs_post (by assumption) ?_ ?_
  · intro h' tk m' ps F9 N9
    dsimp only
    refine ⟨?_, GrownAt.of N9 (.head _), trivial⟩
    wrow_close
  · intro qk hqk
    have sd0 : SD [1166] := sd_one _
    repeat' (first | (k_unfold; (try dsimp only)) | ((with_reducible show wpAny _ _ (call (Value.ref 1171) _ _) _ _ _); refine hold ?_) | ((with_reducible show wpAny _ _ (call (Value.ref _) _ _) _ _ _); k_dflt ((refine wpAny_call ?_); (first | (refine' cs9.draw ?fB ?fF ?fX ?fN ?fT ?fk ?fd ?fu ?lock ?hck ?hws ?hlw ?hat ?hat2 ?hmv ?hmv2 ?o1 ?U ?hsub ?_; (case fN => k_asm); (case hck => k_asm); (case hsub => k_allIn); (case lock => first | k_asm | walk_at "ord" | (refine Nat.le_trans (Nat.le_of_eq (IntsAre.length (by assumption))) ?_; omega) | (simp only [List.length_append, List.length_cons, List.length_nil]; omega)); (case hws => first | k_asm | walk_at "ord" | (refine Nat.le_trans (Nat.le_of_eq (IntsAre.length (by assumption))) ?_; omega) | (simp only [List.length_append, List.length_cons, List.length_nil]; omega)); (case hlw => first | k_asm | walk_at "ord" | (refine Nat.le_trans (Nat.le_of_eq (IntsAre.length (by assumption))) ?_; omega) | (simp only [List.length_append, List.length_cons, List.length_nil]; omega)); (case hat => first | k_asm | walk_at "ord" | (refine Nat.le_trans (Nat.le_of_eq (IntsAre.length (by assumption))) ?_; omega) | (simp only [List.length_append, List.length_cons, List.length_nil]; omega)); (case hat2 => first | k_asm | walk_at "ord" | (refine Nat.le_trans (Nat.le_of_eq (IntsAre.length (by assumption))) ?_; omega) | (simp only [List.length_append, List.length_cons, List.length_nil]; omega)); (case hmv => first | k_asm | walk_at "ord" | (refine Nat.le_trans (Nat.le_of_eq (IntsAre.length (by assumption))) ?_; omega) | (simp only [List.length_append, List.length_cons, List.length_nil]; omega)); (case hmv2 => first | k_asm | walk_at "ord" | (refine Nat.le_trans (Nat.le_of_eq (IntsAre.length (by assumption))) ?_; omega) | (simp only [List.length_append, List.length_cons, List.length_nil]; omega)); (case o1 => first | k_asm | walk_at "ord" | (refine Nat.le_trans (Nat.le_of_eq (IntsAre.length (by assumption))) ?_; omega) | (simp only [List.length_append, List.length_cons, List.length_nil]; omega)); (case U => k_updF); (case fB => k_asm); (case fF => k_asm); (case fX => k_asm); (case fT => k_asm); (case fk => exact rfl); (case fd => ((try simp only [depth_under_make, depth_under_kw, depth_in1, depth_deeper, depth_caller]); (try dsimp only [Around.deeper, Around.in1, Around.mark]); first | walk_at "room" | decide)); (case fu => k_units); k_whole; intro h'9 tk9 t9 ock'9 tat'9 v9 F'9 N'9 hck'9 hv09 hv19; (try dsimp only at N'9); (try dsimp only); (try k_sweep))))) | (walk1; skip) | dsimp only | (leave1; (try dsimp only)) | fail "no step")
    unfold Hold
    rename SD [_, _, _, _, _, _, _, _] => sd9
    refine wpAny_call ?_
    refine' cs9.run ?fB ?fF ?fX ?fN ?fT ?fk ?fd ?fu ?codeHd ?o66 ?odl ?olm ?hsub ?hz1 ?U ?hz ?hbo ?_
    case fN => k_asm
    case codeHd => k_asm
    case hsub => k_allIn
    case o66 => first | walk_at "bef" | with_reducible assumption | omega | k_asm | (simp only [List.length_append, List.length_cons, List.length_nil]; omega)
    case odl => first | walk_at "bef" | with_reducible assumption | omega | k_asm | (simp only [List.length_append, List.length_cons, List.length_nil]; omega)
    case olm => first | walk_at "bef" | with_reducible assumption | omega | k_asm | (simp only [List.length_append, List.length_cons, List.length_nil]; omega)
    case hz1 => exact List.Mem.head _
    case U => k_updF
    case hz => exact hz_sd (by with_reducible (repeat (first | apply AddrsOf.nil | apply AddrsOf.cons))) sd9
    case hbo => first | exact SD.bef sd9 (Bef.there (Bef.here (List.Mem.tail _ (List.Mem.head _)))) | with_reducible assumption | omega | k_asm | (simp only [List.length_append, List.length_cons, List.length_nil]; omega)
    case fB => k_asm
    case fF => k_asm
    case fX => k_asm
    case fT => k_asm
    case fk => exact rfl
    case fd => ((try simp only [depth_under_make, depth_under_kw, depth_in1, depth_deeper, depth_caller]); (try dsimp only [Around.deeper, Around.in1, Around.mark]); first | walk_at "room" | decide)
    case fu => k_units
    k_whole
    intro h' tk ps run g1 rest F' N' st1
    (try dsimp only at N')
    simp only [List.cons_append, List.nil_append] at N'
    (try dsimp only)
    (try k_sweep)
    have low1 := St.low st1
    have nck1 := low_ne low1 (SD.bef sd9 (Bef.there (Bef.there (Bef.there (Bef.here (List.Mem.tail _ (List.Mem.tail _ (List.Mem.head _))))))))
    repeat' (first | (k_unfold; (try dsimp only)) | ((with_reducible show wpAny _ _ (exec (Stmt.For _ _ _ _ _) _) _ _ _); refine hold ?_) | ((with_reducible show wpAny _ _ (call (Value.ref _) _ _) _ _ _); k_dflt ((refine wpAny_call ?_); (first | (refine' cs9.draw ?fB ?fF ?fX ?fN ?fT ?fk ?fd ?fu ?lock ?hck ?hws ?hlw ?hat ?hat2 ?hmv ?hmv2 ?o1 ?U ?hsub ?_; (case fN => k_asm); (case hck => k_asm); (case hsub => k_allIn); (case lock => first | k_asm | walk_at "ord" | (refine Nat.le_trans (Nat.le_of_eq (IntsAre.length (by assumption))) ?_; omega) | (simp only [List.length_append, List.length_cons, List.length_nil]; omega)); (case hws => first | k_asm | walk_at "ord" | (refine Nat.le_trans (Nat.le_of_eq (IntsAre.length (by assumption))) ?_; omega) | (simp only [List.length_append, List.length_cons, List.length_nil]; omega)); (case hlw => first | k_asm | walk_at "ord" | (refine Nat.le_trans (Nat.le_of_eq (IntsAre.length (by assumption))) ?_; omega) | (simp only [List.length_append, List.length_cons, List.length_nil]; omega)); (case hat => first | k_asm | walk_at "ord" | (refine Nat.le_trans (Nat.le_of_eq (IntsAre.length (by assumption))) ?_; omega) | (simp only [List.length_append, List.length_cons, List.length_nil]; omega)); (case hat2 => first | k_asm | walk_at "ord" | (refine Nat.le_trans (Nat.le_of_eq (IntsAre.length (by assumption))) ?_; omega) | (simp only [List.length_append, List.length_cons, List.length_nil]; omega)); (case hmv => first | k_asm | walk_at "ord" | (refine Nat.le_trans (Nat.le_of_eq (IntsAre.length (by assumption))) ?_; omega) | (simp only [List.length_append, List.length_cons, List.length_nil]; omega)); (case hmv2 => first | k_asm | walk_at "ord" | (refine Nat.le_trans (Nat.le_of_eq (IntsAre.length (by assumption))) ?_; omega) | (simp only [List.length_append, List.length_cons, List.length_nil]; omega)); (case o1 => first | k_asm | walk_at "ord" | (refine Nat.le_trans (Nat.le_of_eq (IntsAre.length (by assumption))) ?_; omega) | (simp only [List.length_append, List.length_cons, List.length_nil]; omega)); (case U => k_updF); (case fB => k_asm); (case fF => k_asm); (case fX => k_asm); (case fT => k_asm); (case fk => exact rfl); (case fd => ((try simp only [depth_under_make, depth_under_kw, depth_in1, depth_deeper, depth_caller]); (try dsimp only [Around.deeper, Around.in1, Around.mark]); first | walk_at "room" | decide)); (case fu => k_units); k_whole; intro h'9 tk9 t9 ock'9 tat'9 v9 F'9 N'9 hck'9 hv09 hv19; (try dsimp only at N'9); (try dsimp only); (try k_sweep))))) | (walk1; skip) | dsimp only | (leave1; (try dsimp only)) | fail "no step")
    unfold Hold
    rename Fr _ _ _ _ => lF'
    with_unfolding_all refine' For_invVF lF' ?k1 ?k2 ?_
    case k1 => exact rfl
    case k2 => exact rfl
    repeat' (first | (k_unfold; (try dsimp only)) | ((with_reducible show wpAny _ _ (call (Value.type _) [Value.int _ _]) _ _ _); refine hold ?_) | ((with_reducible show wpAny _ _ (call (Value.ref _) _ _) _ _ _); k_dflt ((refine wpAny_call ?_); (first | (refine' cs9.draw ?fB ?fF ?fX ?fN ?fT ?fk ?fd ?fu ?lock ?hck ?hws ?hlw ?hat ?hat2 ?hmv ?hmv2 ?o1 ?U ?hsub ?_; (case fN => k_asm); (case hck => k_asm); (case hsub => k_allIn); (case lock => first | k_asm | walk_at "ord" | (refine Nat.le_trans (Nat.le_of_eq (IntsAre.length (by assumption))) ?_; omega) | (simp only [List.length_append, List.length_cons, List.length_nil]; omega)); (case hws => first | k_asm | walk_at "ord" | (refine Nat.le_trans (Nat.le_of_eq (IntsAre.length (by assumption))) ?_; omega) | (simp only [List.length_append, List.length_cons, List.length_nil]; omega)); (case hlw => first | k_asm | walk_at "ord" | (refine Nat.le_trans (Nat.le_of_eq (IntsAre.length (by assumption))) ?_; omega) | (simp only [List.length_append, List.length_cons, List.length_nil]; omega)); (case hat => first | k_asm | walk_at "ord" | (refine Nat.le_trans (Nat.le_of_eq (IntsAre.length (by assumption))) ?_; omega) | (simp only [List.length_append, List.length_cons, List.length_nil]; omega)); (case hat2 => first | k_asm | walk_at "ord" | (refine Nat.le_trans (Nat.le_of_eq (IntsAre.length (by assumption))) ?_; omega) | (simp only [List.length_append, List.length_cons, List.length_nil]; omega)); (case hmv => first | k_asm | walk_at "ord" | (refine Nat.le_trans (Nat.le_of_eq (IntsAre.length (by assumption))) ?_; omega) | (simp only [List.length_append, List.length_cons, List.length_nil]; omega)); (case hmv2 => first | k_asm | walk_at "ord" | (refine Nat.le_trans (Nat.le_of_eq (IntsAre.length (by assumption))) ?_; omega) | (simp only [List.length_append, List.length_cons, List.length_nil]; omega)); (case o1 => first | k_asm | walk_at "ord" | (refine Nat.le_trans (Nat.le_of_eq (IntsAre.length (by assumption))) ?_; omega) | (simp only [List.length_append, List.length_cons, List.length_nil]; omega)); (case U => k_updF); (case fB => k_asm); (case fF => k_asm); (case fX => k_asm); (case fT => k_asm); (case fk => exact rfl); (case fd => ((try simp only [depth_under_make, depth_under_kw, depth_in1, depth_deeper, depth_caller]); (try dsimp only [Around.deeper, Around.in1, Around.mark]); first | walk_at "room" | decide)); (case fu => k_units); k_whole; intro h'9 tk9 t9 ock'9 tat'9 v9 F'9 N'9 hck'9 hv09 hv19; (try dsimp only at N'9); (try dsimp only); (try k_sweep))))) | (walk1; skip) | dsimp only | (leave1; (try dsimp only)) | fail "no step")
    unfold Hold
    refine range1_lt (by k_asm) (by k_asm) ?_
    intro r' h' tk' t' u' v' F' N' l1
    (try clear qk ek)
    (try dsimp only)
    as_aux_lemma =>
      rename World => w
      rename Frag.In _ _ => kX0
      revert kX0
      k_fill
      intro kX0
      rename Fr _ _ _ _ => lF'
      rename SD [_, _, _, _, _, _, _, _] => sd9
      have sd5 : SD [_, _, _, _, 1166] := (List.pairwise_cons.mp (List.pairwise_cons.mp (List.pairwise_cons.mp sd9).2).2).2
      refine' iter_rangeJ (JS w) ?hh ?hr ?hsm ?hn lF' ?zN ?zhj ?zturn ?zdone
      case hh => exact rfl
      case hr => exact (N' _ (List.Mem.head _)).1
      case hsm => exact small_one (by decide) (by decide) (by omega) (by omega)
      case hn => exact range_nat (by omega)
      case' zhj => refine' JS.mk (mj_of ?e1 ?e2 ?e3 ?e4 ?e5) rfl st1 sd5 (Nat.le_refl _) ?lock ?hck ?hat ?hat2 ?hws ?hlw ?hb1 ?hb2
      case e1 => exact rfl
      case e2 => exact rfl
      case e3 => exact rfl
      case e4 => exact rfl
      case e5 => exact rfl
      case hck => k_asm
      case hws => k_asm
      case zN => exact news_sub N' (by k_allIn)
      case lock => k_asm
      case hat => omega
      case hat2 => omega
      case hlw => exact Nat.le_trans (Nat.le_of_eq (IntsAre.length (by assumption))) (by omega)
      case hb1 => omega
      case hb2 => omega
      case zdone =>
        intro m₁ news₁ h tk hj F9 N9
        cases hj with | @mk run he du ck rl g1 bd at_ tb tat hs ds ws ns ps nh nk nr ock rest m0 hm hnews st hsd hhs lock hck hat hat2 hws hlw hb1 hb2 =>
        subst hm
        subst hnews
        dsimp only
        repeat' (first | (k_unfold; (try dsimp only)) | ((with_reducible show False); refine hold ?_) | ((with_reducible show wpAny _ _ (call (Value.ref _) _ _) _ _ _); k_dflt ((refine wpAny_call ?_); (first | (refine' cs9.draw ?fB ?fF ?fX ?fN ?fT ?fk ?fd ?fu ?lock ?hck ?hws ?hlw ?hat ?hat2 ?hmv ?hmv2 ?o1 ?U ?hsub ?_; (case fN => k_asm); (case hck => k_asm); (case hsub => k_allIn); (case lock => first | k_asm | walk_at "ord" | (refine Nat.le_trans (Nat.le_of_eq (IntsAre.length (by assumption))) ?_; omega) | (simp only [List.length_append, List.length_cons, List.length_nil]; omega)); (case hws => first | k_asm | walk_at "ord" | (refine Nat.le_trans (Nat.le_of_eq (IntsAre.length (by assumption))) ?_; omega) | (simp only [List.length_append, List.length_cons, List.length_nil]; omega)); (case hlw => first | k_asm | walk_at "ord" | (refine Nat.le_trans (Nat.le_of_eq (IntsAre.length (by assumption))) ?_; omega) | (simp only [List.length_append, List.length_cons, List.length_nil]; omega)); (case hat => first | k_asm | walk_at "ord" | (refine Nat.le_trans (Nat.le_of_eq (IntsAre.length (by assumption))) ?_; omega) | (simp only [List.length_append, List.length_cons, List.length_nil]; omega)); (case hat2 => first | k_asm | walk_at "ord" | (refine Nat.le_trans (Nat.le_of_eq (IntsAre.length (by assumption))) ?_; omega) | (simp only [List.length_append, List.length_cons, List.length_nil]; omega)); (case hmv => first | k_asm | walk_at "ord" | (refine Nat.le_trans (Nat.le_of_eq (IntsAre.length (by assumption))) ?_; omega) | (simp only [List.length_append, List.length_cons, List.length_nil]; omega)); (case hmv2 => first | k_asm | walk_at "ord" | (refine Nat.le_trans (Nat.le_of_eq (IntsAre.length (by assumption))) ?_; omega) | (simp only [List.length_append, List.length_cons, List.length_nil]; omega)); (case o1 => first | k_asm | walk_at "ord" | (refine Nat.le_trans (Nat.le_of_eq (IntsAre.length (by assumption))) ?_; omega) | (simp only [List.length_append, List.length_cons, List.length_nil]; omega)); (case U => k_updF); (case fB => k_asm); (case fF => k_asm); (case fX => k_asm); (case fT => k_asm); (case fk => exact rfl); (case fd => ((try simp only [depth_under_make, depth_under_kw, depth_in1, depth_deeper, depth_caller]); (try dsimp only [Around.deeper, Around.in1, Around.mark]); first | walk_at "room" | decide)); (case fu => k_units); k_whole; intro h'9 tk9 t9 ock'9 tat'9 v9 F'9 N'9 hck'9 hv09 hv19; (try dsimp only at N'9); (try dsimp only); (try k_sweep))))) | (walk1; skip) | dsimp only | (leave1; (try dsimp only)) | fail "no step")
        all_goals (refine hqk _ _ _ _ (by k_asm) (news_sub (by k_asm) (by k_allIn)))
      case zturn =>
        have hn4 : (1 + _ : Int).toNat ≤ 4 := toNat4 (by assumption)
        clear st1 low1 nck1 sd5 sd9
        (repeat (rename News _ _ _ _ => hq; clear hq))
        (repeat (rename Fr _ _ _ _ => hq; clear hq))
        (repeat (rename SD _ => hq; clear hq))
        (repeat (rename Obj.IsDictOf _ _ _ => hq; clear hq))
        (repeat (rename (∀ p ∈ _, _) => hq; clear hq))
        (repeat (rename (@LT.lt Nat _ _ _) => hq; clear hq))
        (repeat (rename (@LT.lt Int _ _ _) => hq; clear hq))
        (repeat (rename (@LE.le Int _ _ _) => hq; clear hq))
        intro I it i t m₁ news₁ h tk hin hcls hoff hj F9 N9
        cases hj with | @mk run he du ck rl g1 bd at_ tb tat hs ds ws ns ps nh nk nr ock rest m0 hm hnews st hsd hhs lock hck hat hat2 hws hlw hb1 hb2 =>
        subst hm
        subst hnews
        have hi4 : i ≤ 3 := lt_le3 hin hn4
        clear hin hn4
        have low := St.low st
        have hIr : AllNe I rest := fun p hp => hoff p (.tail _ (.tail _ (.tail _ (.tail _ (.tail _ hp)))))
        have hIdu : I ≠ du := Ne.symm (hoff (du, listOf ds.toArray nk) mem0)
        have hIhe : I ≠ he := Ne.symm (hoff (he, listOf hs.toArray nh) mem1)
        have hIck : I ≠ ck := Ne.symm (hoff (ck, ock) mem3)
        have hIrl : I ≠ rl := Ne.symm (hoff (rl, listOf ws.toArray nr) mem2)
        have hI66 : I ≠ 1166 := Ne.symm (hoff (1166, tabObj ps) mem4)
        clear hoff
        have lhd : @LT.lt Nat _ he du := SD.bef hsd (Bef.here (List.Mem.head _))
        have lcd : @LT.lt Nat _ ck du := SD.bef hsd (Bef.here (List.Mem.tail _ (List.Mem.tail _ (List.Mem.head _))))
        have rdu : AllNe du ((I, it) :: rest) := allNe_cons hIdu (ne_of_low low)
        have rhe : AllNe he ((I, it) :: rest) := allNe_cons hIhe (low_ne low lhd)
        have rck : AllNe ck ((I, it) :: rest) := allNe_cons hIck (low_ne low lcd)
        have N' : News _ _ _ ((du, listOf ds.toArray nk) :: (he, listOf hs.toArray nh) :: (rl, listOf ws.toArray nr) :: (ck, ock) :: (1166, tabObj ps) :: (I, it) :: rest) := news_sub N9 (by k_allIn)
        clear N9
        dsimp only
        repeat' (first | (k_unfold; (try dsimp only)) | ((with_reducible show wpAny _ _ (exec (Stmt.Assign [Expr.Name _ _] (Expr.BoolOp _ _ _) _) _) _ _ _); refine hold ?_) | ((with_reducible show wpAny _ _ (call (Value.ref _) _ _) _ _ _); k_dflt ((refine wpAny_call ?_); (first | (refine' cs9.draw ?fB ?fF ?fX ?fN ?fT ?fk ?fd ?fu ?lock ?hck ?hws ?hlw ?hat ?hat2 ?hmv ?hmv2 ?o1 ?U ?hsub ?_; (case fN => k_asm); (case hck => k_asm); (case hsub => k_allIn); (case lock => first | k_asm | walk_at "ord" | (refine Nat.le_trans (Nat.le_of_eq (IntsAre.length (by assumption))) ?_; omega) | (simp only [List.length_append, List.length_cons, List.length_nil]; omega)); (case hws => first | k_asm | walk_at "ord" | (refine Nat.le_trans (Nat.le_of_eq (IntsAre.length (by assumption))) ?_; omega) | (simp only [List.length_append, List.length_cons, List.length_nil]; omega)); (case hlw => first | k_asm | walk_at "ord" | (refine Nat.le_trans (Nat.le_of_eq (IntsAre.length (by assumption))) ?_; omega) | (simp only [List.length_append, List.length_cons, List.length_nil]; omega)); (case hat => first | k_asm | walk_at "ord" | (refine Nat.le_trans (Nat.le_of_eq (IntsAre.length (by assumption))) ?_; omega) | (simp only [List.length_append, List.length_cons, List.length_nil]; omega)); (case hat2 => first | k_asm | walk_at "ord" | (refine Nat.le_trans (Nat.le_of_eq (IntsAre.length (by assumption))) ?_; omega) | (simp only [List.length_append, List.length_cons, List.length_nil]; omega)); (case hmv => first | k_asm | walk_at "ord" | (refine Nat.le_trans (Nat.le_of_eq (IntsAre.length (by assumption))) ?_; omega) | (simp only [List.length_append, List.length_cons, List.length_nil]; omega)); (case hmv2 => first | k_asm | walk_at "ord" | (refine Nat.le_trans (Nat.le_of_eq (IntsAre.length (by assumption))) ?_; omega) | (simp only [List.length_append, List.length_cons, List.length_nil]; omega)); (case o1 => first | k_asm | walk_at "ord" | (refine Nat.le_trans (Nat.le_of_eq (IntsAre.length (by assumption))) ?_; omega) | (simp only [List.length_append, List.length_cons, List.length_nil]; omega)); (case U => k_updF); (case fB => k_asm); (case fF => k_asm); (case fX => k_asm); (case fT => k_asm); (case fk => exact rfl); (case fd => ((try simp only [depth_under_make, depth_under_kw, depth_in1, depth_deeper, depth_caller]); (try dsimp only [Around.deeper, Around.in1, Around.mark]); first | walk_at "room" | decide)); (case fu => k_units); k_whole; intro h'9 tk9 t9 ock'9 tat'9 v9 F'9 N'9 hck'9 hv09 hv19; (try dsimp only at N'9); (try dsimp only); (try k_sweep))))) | (walk1; skip) | dsimp only | (leave1; (try dsimp only)) | fail "no step")
        unfold Hold
        rename (_ ∧ _) => hoD
        obtain ⟨vl, evl, hoD⟩ := name_ne hoD
        subst evl
        rename List Value => ys
        rename (ys.length = _) => hL8
        obtain ⟨h_du, h_he, h_rl, h_ck, h_66, h_I, h_rest⟩ := hoD
        rename Obj.IsDictOf _ _ [(_, _), (_, Value.int (at_ + 1) _)] => hck2
        rename Obj => ock2
        rw [List.length_map, rangeKs_length] at hL8
        obtain ⟨cv, ecv, hL8⟩ := name_v hL8
        subst ecv
        have nrest : AllNe vl rest := off_ne h_rest
        have vdu : AllNe du ((vl, listOf ys.toArray ys.length) :: (I, it) :: rest) := allNe_cons (Ne.symm h_du) rdu
        have vck : AllNe ck ((vl, listOf ys.toArray ys.length) :: (I, it) :: rest) := allNe_cons (Ne.symm h_ck) rck
        have fhe : AllNe he [(vl, listOf ys.toArray ys.length), (I, it)] := allNe_cons (Ne.symm h_he) (allNe_cons hIhe ne0)
        have ndu : AllNe du rest := ne_of_low low
        have nhe : AllNe he rest := low_ne low lhd
        have nck : AllNe ck rest := low_ne low lcd
        have nrl : AllNe rl rest := low_ne low (SD.bef hsd (Bef.here (List.Mem.tail _ (List.Mem.head _))))
        have n66 : AllNe 1166 rest := low_ne low (SD.bef hsd (Bef.here (List.Mem.tail _ (List.Mem.tail _ (List.Mem.tail _ (List.Mem.head _))))))
        have hvh : @Ne Nat vl he := Ne.symm h_he
        have lcd2 := lcd
        clear rdu rhe rck h_du h_he h_rl h_ck h_66 h_rest lcd
        rename News _ _ _ _ => N1
        have N' := (show News _ _ _ ((du, listOf ds.toArray nk) :: (he, listOf hs.toArray nh) :: (rl, listOf ws.toArray nr) :: (ck, ock2) :: (1166, tabObj ps) :: (vl, listOf ys.toArray ys.length) :: (I, it) :: rest) from news_sub N1 (by k_allIn))
        clear N1
        repeat' (first | (k_unfold; (try dsimp only)) | ((with_reducible show wpAny _ _ (call (Value.ref 917) _ _) _ _ _); refine hold ?_) | ((with_reducible show wpAny _ _ (call (Value.ref _) _ _) _ _ _); k_dflt ((refine wpAny_call ?_); (first | (refine' cs9.draw ?fB ?fF ?fX ?fN ?fT ?fk ?fd ?fu ?lock ?hck ?hws ?hlw ?hat ?hat2 ?hmv ?hmv2 ?o1 ?U ?hsub ?_; (case fN => k_asm); (case hck => k_asm); (case hsub => k_allIn); (case lock => first | k_asm | walk_at "ord" | (refine Nat.le_trans (Nat.le_of_eq (IntsAre.length (by assumption))) ?_; omega) | (simp only [List.length_append, List.length_cons, List.length_nil]; omega)); (case hws => first | k_asm | walk_at "ord" | (refine Nat.le_trans (Nat.le_of_eq (IntsAre.length (by assumption))) ?_; omega) | (simp only [List.length_append, List.length_cons, List.length_nil]; omega)); (case hlw => first | k_asm | walk_at "ord" | (refine Nat.le_trans (Nat.le_of_eq (IntsAre.length (by assumption))) ?_; omega) | (simp only [List.length_append, List.length_cons, List.length_nil]; omega)); (case hat => first | k_asm | walk_at "ord" | (refine Nat.le_trans (Nat.le_of_eq (IntsAre.length (by assumption))) ?_; omega) | (simp only [List.length_append, List.length_cons, List.length_nil]; omega)); (case hat2 => first | k_asm | walk_at "ord" | (refine Nat.le_trans (Nat.le_of_eq (IntsAre.length (by assumption))) ?_; omega) | (simp only [List.length_append, List.length_cons, List.length_nil]; omega)); (case hmv => first | k_asm | walk_at "ord" | (refine Nat.le_trans (Nat.le_of_eq (IntsAre.length (by assumption))) ?_; omega) | (simp only [List.length_append, List.length_cons, List.length_nil]; omega)); (case hmv2 => first | k_asm | walk_at "ord" | (refine Nat.le_trans (Nat.le_of_eq (IntsAre.length (by assumption))) ?_; omega) | (simp only [List.length_append, List.length_cons, List.length_nil]; omega)); (case o1 => first | k_asm | walk_at "ord" | (refine Nat.le_trans (Nat.le_of_eq (IntsAre.length (by assumption))) ?_; omega) | (simp only [List.length_append, List.length_cons, List.length_nil]; omega)); (case U => k_updF); (case fB => k_asm); (case fF => k_asm); (case fX => k_asm); (case fT => k_asm); (case fk => exact rfl); (case fd => ((try simp only [depth_under_make, depth_under_kw, depth_in1, depth_deeper, depth_caller]); (try dsimp only [Around.deeper, Around.in1, Around.mark]); first | walk_at "room" | decide)); (case fu => k_units); k_whole; intro h'9 tk9 t9 ock'9 tat'9 v9 F'9 N'9 hck'9 hv09 hv19; (try dsimp only at N'9); (try dsimp only); (try k_sweep))))) | (walk1; skip) | dsimp only | (leave1; (try dsimp only)) | fail "no step")
        · unfold Hold
          as_aux_lemma =>
            rename (_ < (0 : Int)) => hneg
            have hys : ys = [] := ys_nil hL8 hneg
            have hyl : ys.length ≤ 9 := len9 hL8 (by assumption)
            have hyl2 : ys.length ≤ 16384 := Nat.le_trans hyl (by decide)
            have hdl : ds.length ≤ 9 := (St.pairs st).1 ▸ Nat.le_trans hhs (Nat.le_trans hi4 (by decide))
            refine wpAny_call ?_
            refine' cs9.evn ?fB ?fF ?fX ?fN ?fT ?fk ?fd ?fu ?st ?hsp ?hhs ?hna ?htn ?U ?hz ?hrn ?hnt ?hIf ?hIc ?hdis ?_
            case fN => k_asm
            case st => k_asm
            case hsp => with_reducible ((repeat (first | exact Split.nil | apply Split.cons)))
            case htn => k_mem
            case hna => k_mem
            case hIc => k_asm
            case hhs => exact Nat.le_trans hhs (Nat.le_trans hi4 (by decide))
            case U => k_updF
            case hz => exact hz_head (by with_reducible assumption)
            case hrn => exact lt_sub (by with_reducible assumption) (by k_allIn)
            case hnt => exact lt_all (by with_reducible assumption) (by k_mem)
            case hIf => k_mem
            case hdis => (repeat (first | exact dis0 | refine dis1 (by first | with_reducible assumption | exact allNe_lt (by with_reducible assumption) (by k_allIn)) ?_))
            case fB => k_asm
            case fF => k_asm
            case fX => k_asm
            case fT => k_asm
            case fk => exact rfl
            case fd => ((try simp only [depth_under_make, depth_under_kw, depth_in1, depth_deeper, depth_caller]); (try dsimp only [Around.deeper, Around.in1, Around.mark]); first | walk_at "room" | decide)
            case fu => k_units
            k_whole
            intro h' tk t tp ml nm nn rest' F' N' lml st' hI'
            rw [show (#[Value.str (Str.ofString "P") tp] : Array Value) = (Value.str (Str.ofString "P") tp :: ys).toArray from by rw [hys]] at N'
            (try dsimp only at N')
            simp only [List.cons_append, List.nil_append] at N'
            have N1 := N'
            have N' := (show News _ _ _ ((ml, listOf (Value.str (Str.ofString "P") tp :: ys).toArray nm) :: (du, listOf ds.toArray nk) :: (he, listOf (hs ++ [Value.ref ml]).toArray nn) :: (rl, listOf ws.toArray nr) :: (ck, ock2) :: (1166, tabObj ps) :: (vl, listOf ys.toArray ys.length) :: (I, it) :: rest') from news_sub N1 (by k_allIn))
            clear N1
            obtain ⟨og, hog⟩ := St.top st
            have lg : @LT.lt Nat _ g1 ml := lml (g1, og) (app_in hog (by k_allIn))
            have lIm : @LT.lt Nat _ I ml := lml (I, it) (by k_mem)
            have lum : @LT.lt Nat _ du ml := lml (du, listOf ds.toArray nk) (by k_mem)
            clear hog lml
            have low' := St.low st'
            have vdu' : AllNe du ((vl, listOf ys.toArray ys.length) :: (I, it) :: rest') := allNe_cons (vdu _ mem0) (allNe_cons (vdu _ mem1) (ne_of_low low'))
            (repeat (rename SD (_ :: _ :: _ :: _ :: _ :: _ :: _) => hq; clear hq))
            have sdm : SD [ml, du, he, rl, ck, 1166] := sd_cons hsd lum
            (try dsimp only)
            repeat' (first | (k_unfold; (try dsimp only)) | ((with_reducible show wpAny _ _ (binaryOp Operator.Add (Value.ref _) (Value.ref _)) _ _ _); refine hold ?_) | (walk1; skip) | dsimp only | (leave1; (try dsimp only)) | fail "no step")
            unfold Hold
            refine add_lt (by k_asm) (by k_asm) (by k_mem) (by k_mem) (size_one hyl) ?_
            intro dl h' F' N' l1
            simp only [List.cons_append, List.nil_append] at N'
            have lmd : @LT.lt Nat _ ml dl := lt_all l1 (by k_mem)
            have lId : @LT.lt Nat _ I dl := lt_all l1 (by k_mem)
            k_lt l1
            clear l1
            (try k_sweep)
            repeat' (first | (k_unfold; (try dsimp only)) | ((with_reducible show wpAny _ _ (call (Value.builtin "list.append") [Value.ref _, Value.ref _]) _ _ _); refine hold ?_) | (walk1; skip) | dsimp only | (leave1; (try dsimp only)) | fail "no step")
            unfold Hold
            refine append_K (by k_asm) (by k_asm) (by k_upd) ?_ (size_ds hdl)
            intro h' F' N'
            simp only [List.push_toArray] at N'
            (try k_sweep)
            repeat' (first | (k_unfold; (try dsimp only)) | ((with_reducible show wpAny _ _ (compareOp CmpOp.NotEq (Value.ref _) (Value.ref _)) _ _ _); refine hold ?_) | (walk1; skip) | dsimp only | (leave1; (try dsimp only)) | fail "no step")
            all_goals (try (rename (_ ≠ (1 + (_ : Int))) => hbad; exact absurd (bad_none hys) hbad))
            unfold Hold
            refine ne_pairs3 (by k_asm) (St.pairs st') (by k_mem) (by k_mem) lmd (by k_mem) (by k_mem) (by k_allIn) (by k_units) (by k_units) ?_
            repeat' (first | (k_unfold; (try dsimp only)) | ((with_reducible show False); refine hold ?_) | (walk1; skip) | dsimp only | (leave1; (try dsimp only)) | fail "no step")
            rename News _ _ _ _ => N9
            obtain ⟨rest2, st2, sub2, hI2⟩ := St.pair st' N9 (by k_allIn) (by k_mem) (by k_mem) lg lmd hI' (Nat.ne_of_lt lIm) (Nat.ne_of_lt lId)
            unfold TurnEnd
            (try dsimp only)
            refine' ⟨_, _, _, _, rfl, by k_asm, ?zN, ?zne, JS.mk (mj_of rfl rfl rfl rfl rfl) rfl st2 hsd ?hhs lock hck2 ?hat ?hat2 hws hlw hb1 hb2⟩
            case zN => exact news_sub N9 (in1 (by k_mem) (in1 (by k_mem) (in1 (by k_mem) (in1 (by k_mem) (in1 (by k_mem) (in1 (by k_mem) sub2))))))
            case zne => exact ne1 (Ne.symm hIdu) (ne1 (Ne.symm hIhe) (ne1 (Ne.symm hIrl) (ne1 (Ne.symm hIck) (ne1 (Ne.symm hI66) hI2))))
            case hhs => rw [List.length_append]; exact Nat.add_le_add_right hhs 1
            case hat => exact Int.le_trans hat (Int.le_add_of_nonneg_right (by decide))
            case hat2 => rw [Int.natCast_succ]; omega

        · unfold Hold
          as_aux_lemma =>
            rename (¬ (_ < (0 : Int))) => hnn
            have hyl : ys.length ≤ 9 := len9 hL8 (by assumption)
            have hyl2 : ys.length ≤ 16384 := Nat.le_trans hyl (by decide)
            have hdl : ds.length ≤ 9 := (St.pairs st).1 ▸ Nat.le_trans hhs (Nat.le_trans hi4 (by decide))
            have hyc : (ys.length : Int) = cv - 1 := len_cv hL8 hnn
            rename Fr _ _ _ _ => F9
            by_cases hb : 1 + (cv - 1) ≤ bd
            · simp only [decide_eq_true hb] at F9
              have hbd := is_let hyc hb
              refine wpAny_call ?_
              refine' cs9.evl ?fB ?fF ?fX ?fN ?fT ?fk ?fd ?fu ?st ?hsp ?hhs ?hna ?htn ?hts ?hvl ?U ?hz ?hrn ?htsn ?hnt ?hIf ?hIc ?hdis ?hlen ?hbd ?cv1 ?cv3 ?_
              case fN => k_asm
              case st => k_asm
              case hsp => with_reducible ((repeat (first | exact Split.nil | apply Split.cons)))
              case htn => k_mem
              case hna => k_mem
              case hts => k_mem
              case hvl => k_mem
              case hIc => k_asm
              case hhs => exact Nat.le_trans hhs (Nat.le_trans hi4 (by decide))
              case U => k_updF
              case hz => exact hz_head (by with_reducible assumption)
              case hrn => exact lt_sub (by with_reducible assumption) (by k_allIn)
              case htsn => exact lt_all (by with_reducible assumption) (by k_mem)
              case hnt => exact lt_all (by with_reducible assumption) (by k_mem)
              case hIf => k_mem
              case hdis => (repeat (first | exact dis0 | refine dis1 (by first | with_reducible assumption | exact allNe_lt (by with_reducible assumption) (by k_allIn)) ?_))
              case hlen => k_asm
              case hbd => k_asm
              case cv1 => exact lt_all (by with_reducible assumption) (by k_mem)
              case cv3 => k_asm
              case fB => k_asm
              case fF => k_asm
              case fX => k_asm
              case fT => k_asm
              case fk => exact rfl
              case fd => ((try simp only [depth_under_make, depth_under_kw, depth_in1, depth_deeper, depth_caller]); (try dsimp only [Around.deeper, Around.in1, Around.mark]); first | walk_at "room" | decide)
              case fu => k_units
              k_whole
              intro h' tk t tp ml nm nn rest' F' N' lml st' hI'
              (try dsimp only at N')
              simp only [List.cons_append, List.nil_append] at N'
              have N1 := N'
              have N' := (show News _ _ _ ((ml, listOf (Value.str (Str.ofString "P") tp :: ys).toArray nm) :: (du, listOf ds.toArray nk) :: (he, listOf (hs ++ [Value.ref ml]).toArray nn) :: (rl, listOf ws.toArray nr) :: (ck, ock2) :: (1166, tabObj ps) :: (vl, listOf ys.toArray ys.length) :: (I, it) :: rest') from news_sub N1 (by k_allIn))
              clear N1
              obtain ⟨og, hog⟩ := St.top st
              have lg : @LT.lt Nat _ g1 ml := lml (g1, og) (app_in hog (by k_allIn))
              have lIm : @LT.lt Nat _ I ml := lml (I, it) (by k_mem)
              have lum : @LT.lt Nat _ du ml := lml (du, listOf ds.toArray nk) (by k_mem)
              clear hog lml
              have low' := St.low st'
              have vdu' : AllNe du ((vl, listOf ys.toArray ys.length) :: (I, it) :: rest') := allNe_cons (vdu _ mem0) (allNe_cons (vdu _ mem1) (ne_of_low low'))
              (repeat (rename SD (_ :: _ :: _ :: _ :: _ :: _ :: _) => hq; clear hq))
              have sdm : SD [ml, du, he, rl, ck, 1166] := sd_cons hsd lum
              (try dsimp only)
              repeat' (first | (k_unfold; (try dsimp only)) | ((with_reducible show wpAny _ _ (binaryOp Operator.Add (Value.ref _) (Value.ref _)) _ _ _); refine hold ?_) | (walk1; skip) | dsimp only | (leave1; (try dsimp only)) | fail "no step")
              unfold Hold
              refine add_lt (by k_asm) (by k_asm) (by k_mem) (by k_mem) (size_one hyl) ?_
              intro dl h' F' N' l1
              simp only [List.cons_append, List.nil_append] at N'
              have lmd : @LT.lt Nat _ ml dl := lt_all l1 (by k_mem)
              have lId : @LT.lt Nat _ I dl := lt_all l1 (by k_mem)
              k_lt l1
              clear l1
              (try k_sweep)
              repeat' (first | (k_unfold; (try dsimp only)) | ((with_reducible show wpAny _ _ (call (Value.builtin "list.append") [Value.ref _, Value.ref _]) _ _ _); refine hold ?_) | (walk1; skip) | dsimp only | (leave1; (try dsimp only)) | fail "no step")
              unfold Hold
              refine append_K (by k_asm) (by k_asm) (by k_upd) ?_ (size_ds hdl)
              intro h' F' N'
              simp only [List.push_toArray] at N'
              (try k_sweep)
              repeat' (first | (k_unfold; (try dsimp only)) | ((with_reducible show wpAny _ _ (compareOp CmpOp.NotEq (Value.ref _) (Value.ref _)) _ _ _); refine hold ?_) | (walk1; skip) | dsimp only | (leave1; (try dsimp only)) | fail "no step")
              all_goals (try (rename (_ ≠ (1 + (_ : Int))) => hbad; exact absurd bad_list hbad))
              unfold Hold
              refine ne_pairs3 (by k_asm) (St.pairs st') (by k_mem) (by k_mem) lmd (by k_mem) (by k_mem) (by k_allIn) (by k_units) (by k_units) ?_
              repeat' (first | (k_unfold; (try dsimp only)) | ((with_reducible show False); refine hold ?_) | (walk1; skip) | dsimp only | (leave1; (try dsimp only)) | fail "no step")
              rename News _ _ _ _ => N9
              obtain ⟨rest2, st2, sub2, hI2⟩ := St.pair st' N9 (by k_allIn) (by k_mem) (by k_mem) lg lmd hI' (Nat.ne_of_lt lIm) (Nat.ne_of_lt lId)
              unfold TurnEnd
              (try dsimp only)
              refine' ⟨_, _, _, _, rfl, by k_asm, ?zN, ?zne, JS.mk (mj_of rfl rfl rfl rfl rfl) rfl st2 hsd ?hhs lock hck2 ?hat ?hat2 hws hlw hb1 hb2⟩
              case zN => exact news_sub N9 (in1 (by k_mem) (in1 (by k_mem) (in1 (by k_mem) (in1 (by k_mem) (in1 (by k_mem) (in1 (by k_mem) sub2))))))
              case zne => exact ne1 (Ne.symm hIdu) (ne1 (Ne.symm hIhe) (ne1 (Ne.symm hIrl) (ne1 (Ne.symm hIck) (ne1 (Ne.symm hI66) hI2))))
              case hhs => rw [List.length_append]; exact Nat.add_le_add_right hhs 1
              case hat => exact Int.le_trans hat (Int.le_add_of_nonneg_right (by decide))
              case hat2 => rw [Int.natCast_succ]; omega

            · simp only [decide_eq_false hb] at F9
              have hbd := no_let hyc hb
              refine wpAny_call ?_
              refine' cs9.evd ?fB ?fF ?fX ?fN ?fT ?fk ?fd ?fu ?st ?hsubr ?hna ?htn ?hts ?hvl ?hrn ?htsn ?hnt ?hlen ?hbd ?cv1 ?_
              case fN => k_asm
              case st => k_asm
              case hsubr => k_allIn
              case htn => k_mem
              case hna => k_mem
              case hts => k_mem
              case hvl => k_mem
              case hrn => exact lt_sub (by with_reducible assumption) (by k_allIn)
              case htsn => exact lt_all (by with_reducible assumption) (by k_mem)
              case hnt => exact lt_all (by with_reducible assumption) (by k_mem)
              case hlen => k_asm
              case hbd => k_asm
              case cv1 => exact lt_all (by with_reducible assumption) (by k_mem)
              case fB => k_asm
              case fF => k_asm
              case fX => k_asm
              case fT => k_asm
              case fk => exact rfl
              case fd => ((try simp only [depth_under_make, depth_under_kw, depth_in1, depth_deeper, depth_caller]); (try dsimp only [Around.deeper, Around.in1, Around.mark]); first | walk_at "room" | decide)
              case fu => k_units
              k_whole
              intro h' tk e D
              (try dsimp only)
              repeat' (first | (k_unfold; (try dsimp only)) | ((with_reducible show wpAny _ _ (noteFrame _ _) _ _ _); refine hold ?_) | (walk1; skip) | dsimp only | (leave1; (try dsimp only)) | fail "no step")
              unfold Hold
              refine' caught_D ?cK ?cF ?cN D ?cX ?cT ?cx ?cq ?_
              case cK => k_asm
              case cF => k_asm
              case cN => k_asm
              case cX => k_asm
              case cT => k_asm
              case cx => k_is
              case cq => exact die_kts _
              k_whole
              intro h' tk oe dx es c tv F' N' hoe hval nE nX
              (try dsimp only)
              repeat' (first | (k_unfold; (try dsimp only)) | ((with_reducible show wpAny _ _ (getAttr (Value.ref _) _ _) _ _ _); refine hold ?_) | (walk1; skip) | dsimp only | (leave1; (try dsimp only)) | fail "no step")
              unfold Hold
              refine' getX_value ?gX (inst_die N' hoe) ?g1 ?g2 ?g3 (die_value _ hval) rfl ?_
              case gX => k_in
              case g1 => k_is
              case g2 => k_is
              case g3 => k_is
              (try dsimp only)
              repeat' (first | (k_unfold; (try dsimp only)) | ((with_reducible show wpAny _ _ (compareOp CmpOp.NotEq (Value.ref _) (Value.ref _)) _ _ _); refine hold ?_) | (walk1; skip) | dsimp only | (leave1; (try dsimp only)) | fail "no step")
              unfold Hold
              refine ne_pairs (by k_asm) (by k_mem) (by k_mem) (pairs_sub (St.pairs st) (by k_allIn)) (by k_units) (by k_units) ?_
              repeat' (first | (k_unfold; (try dsimp only)) | ((with_reducible show False); refine hold ?_) | (walk1; skip) | dsimp only | (leave1; (try dsimp only)) | fail "no step")
              rename News _ _ _ _ => N9
              unfold TurnEnd
              (try dsimp only)
              refine' ⟨_, _, _, _, rfl, by k_asm, ?zN, ?zne, JS.mk (mj_of rfl rfl rfl rfl rfl) rfl st hsd ?hhs lock hck2 ?hat ?hat2 hws hlw hb1 hb2⟩
              case zN => exact news_sub N9 (by k_allIn)
              case zne => exact ne1 (Ne.symm hIdu) (ne1 (Ne.symm hIhe) (ne1 (Ne.symm hIrl) (ne1 (Ne.symm hIck) (ne1 (Ne.symm hI66) hIr))))
              case hhs => exact Nat.le_succ_of_le hhs
              case hat => exact Int.le_trans hat (Int.le_add_of_nonneg_right (by decide))
              case hat2 => rw [Int.natCast_succ]; omega
end
namespace Mine
section
theorem die_xm (w : World) : xmIn (hd.heap_1 w.params) 429 = true := by kernel_rfl
theorem die_xo (w : World) : xOver (hd.heap_1 w.params) 429 = true := by kernel_rfl
theorem meta_Exc : typeOf (.type "Exception") = pure (.type "type") := by kernel_rfl
local macro_rules | `(tactic| walk_at "getMethod type:Exception") => `(tactic| (k_here; refine' method_type ?F ?X ?m (by decide +kernel) ?e ?h ?_; (case F => k_asm); (case X => k_asm); (case m => exact meta_Exc); (case e => k_dflt k_is); (case h => k_handed)))
def within_die_S (w : World) (A₀ : Around) (base : Heap) (h₀ : Heap) (outer : List Env) (L : Addr) (m : Str → Option Value) (mg : Str → Option Value) (mb : Str → Option Value) (mean : ExcName → Option Value) (pT : Program) (looseT : List Str) (s : Shared) (R : Result → Shared → Prop) (cn : Str) (cs : Scope) (ca : Addr) (ccd : Value) (d : Nat) (u : Nat) (gs : Option (List Code)) (r0 : Tok) (r1 : Tok) (r2 : Tok) (r3 : Tok) (r4 : Tok) (r5 : Tok) (r6 : Tok) (r7 : Tok) (r8 : Tok) (r9 : Tok) (r10 : Tok) (r11 : Tok) (r12 : Tok) (r13 : Tok) (r14 : Tok) (r15 : Tok) (r16 : Tok) (r17 : Tok) (r18 : Tok) (q0 : Tok) (la : Tok) (lb : Tok) (lc : Tok) (ld : Tok) (le : Tok) (na : Tok) (nb : Tok) (nc : Tok) (nd1 : Tok) (ne : Tok) (run : Addr) (drun : Addr) (hp : Addr) (ct : Addr) (st : Addr) (lm : Addr) (dlm : Addr) (nd : Addr) (mc : Addr) (ml : Addr) (x5 : Addr) (x6 : Addr) (x7 : Addr) (x8 : Addr) (x9 : Addr) (x10 : Addr) (x11 : Addr) (x12 : Addr) (x14 : Addr) (nrun : Nat) (nlm : Nat) (nml : Nat) (bd : Int) (vs : List Value) : Prop := ∀ (B : Below A₀ base outer h₀) (F : Fr h₀ L s.heap m) (X₀ : (hd.heap_1 w.params).In h₀) (N : News h₀ L s.heap ((run, (⟨.ref 559, some drun, .plain, #[]⟩ : Obj)) :: (drun, dictOf [⟨PyData.keyHash w.params (Str.ofString "heap"), .str (Str.ofString "heap") r0, .ref hp⟩, ⟨PyData.keyHash w.params (Str.ofString "counter"), .str (Str.ofString "counter") r1, .ref ct⟩, ⟨PyData.keyHash w.params (Str.ofString "stash"), .str (Str.ofString "stash") r2, .ref st⟩, ⟨PyData.keyHash w.params (Str.ofString "limits"), .str (Str.ofString "limits") r3, .ref lm⟩, ⟨PyData.keyHash w.params (Str.ofString "nodes"), .str (Str.ofString "nodes") r4, .ref nd⟩, ⟨PyData.keyHash w.params (Str.ofString "lvs"), .str (Str.ofString "lvs") r5, .ref x5⟩, ⟨PyData.keyHash w.params (Str.ofString "statements"), .str (Str.ofString "statements") r6, .ref x6⟩, ⟨PyData.keyHash w.params (Str.ofString "funcs"), .str (Str.ofString "funcs") r7, .ref x7⟩, ⟨PyData.keyHash w.params (Str.ofString "operators"), .str (Str.ofString "operators") r8, .ref x8⟩, ⟨PyData.keyHash w.params (Str.ofString "out"), .str (Str.ofString "out") r9, .ref x9⟩, ⟨PyData.keyHash w.params (Str.ofString "err"), .str (Str.ofString "err") r10, .ref x10⟩, ⟨PyData.keyHash w.params (Str.ofString "saves"), .str (Str.ofString "saves") r11, .ref x11⟩, ⟨PyData.keyHash w.params (Str.ofString "frames"), .str (Str.ofString "frames") r12, .ref x12⟩, ⟨PyData.keyHash w.params (Str.ofString "match"), .str (Str.ofString "match") r13, .none⟩, ⟨PyData.keyHash w.params (Str.ofString "patterns"), .str (Str.ofString "patterns") r14, .ref x14⟩, ⟨PyData.keyHash w.params (Str.ofString "steps"), .str (Str.ofString "steps") r15, .int 0 q0⟩, ⟨PyData.keyHash w.params (Str.ofString "methods"), .str (Str.ofString "methods") r16, .ref mc⟩, ⟨PyData.keyHash w.params (Str.ofString "call_code"), .str (Str.ofString "call_code") r17, .none⟩, ⟨PyData.keyHash w.params (Str.ofString "compile_text"), .str (Str.ofString "compile_text") r18, .none⟩] nrun) :: (lm, (⟨.ref 1076, some dlm, .plain, #[]⟩ : Obj)) :: (dlm, dictOf [⟨PyData.keyHash w.params (Str.ofString "width"), .str (Str.ofString "width") la, .int 64 na⟩, ⟨PyData.keyHash w.params (Str.ofString "depth"), .str (Str.ofString "depth") lb, .int 50 nb⟩, ⟨PyData.keyHash w.params (Str.ofString "steps"), .str (Str.ofString "steps") lc, .int 1000000 nc⟩, ⟨PyData.keyHash w.params (Str.ofString "text"), .str (Str.ofString "text") ld, .int 100000 nd1⟩, ⟨PyData.keyHash w.params (Str.ofString "items"), .str (Str.ofString "items") le, .int bd ne⟩] nlm) :: (ml, listOf vs.toArray nml) :: [])) (T : Top pT looseT mean mg mb h₀) (hke : cs.kind = .function) (hroom : d < 600) (hun : u < 1000) (hlen : vs.length ≤ 10) (hbd : bd < (vs.length : Int)) (k : ∀ h' tk e, DieAt base (envOf cn cs L ca ccd :: outer) s.heap e h' → R (.error (.ref e)) { s with heap := h', toks := tk }), codeAny (model PySem.Challenge.rw_qz0130_01.row.prog w) (Around.mk none d (some (envOf cn cs L ca ccd :: outer)) gs u) (.call (.ref 591) ⟨[.ref run, .ref ml], []⟩) R s
def within_die_P (c : EC) : Prop := ∀ (bd : Int) (vs : List Value), within_die_S (c.wo 0) (c.ar 0) (c.hp 0) (c.hp 1) (c.le 0) (c.ad 0) (c.mp 0) (c.mp 1) (c.mp 2) (c.en 0) (c.pg 0) (c.ls 0) (c.sh 0) (c.rs 0) (c.sr 0) (c.sc 0) (c.ad 1) (c.va 0) (c.nt 0) (c.nt 1) (c.oc 0) (c.tk 0) (c.tk 1) (c.tk 2) (c.tk 3) (c.tk 4) (c.tk 5) (c.tk 6) (c.tk 7) (c.tk 8) (c.tk 9) (c.tk 10) (c.tk 11) (c.tk 12) (c.tk 13) (c.tk 14) (c.tk 15) (c.tk 16) (c.tk 17) (c.tk 18) (c.tk 19) (c.tk 20) (c.tk 21) (c.tk 22) (c.tk 23) (c.tk 24) (c.tk 25) (c.tk 26) (c.tk 27) (c.tk 28) (c.tk 29) (c.ad 2) (c.ad 3) (c.ad 4) (c.ad 5) (c.ad 6) (c.ad 7) (c.ad 8) (c.ad 9) (c.ad 10) (c.ad 11) (c.ad 12) (c.ad 13) (c.ad 14) (c.ad 15) (c.ad 16) (c.ad 17) (c.ad 18) (c.ad 19) (c.ad 20) (c.nt 2) (c.nt 3) (c.nt 4) bd vs
@[irreducible] noncomputable def within_die_e : EC := @Classical.epsilon EC EC.ne fun c => ¬ within_die_P c
theorem within_die_eq : within_die_e = @Classical.epsilon EC EC.ne fun c => ¬ within_die_P c := by unfold within_die_e; rfl
theorem within_die_m : within_die_P within_die_e := by
  unfold within_die_P within_die_S
  intro bd vs B F X₀ N T hke hroom hun hlen hbd k
  revert X₀
  k_fill
  intro X₀
  refine' code_keepG B F X₀ N T rfl hke ?k6 ?k7 ?k8 ?kn ?k9 ?kB ?_ ?c2 ?c3 ?c4 ?c5
  case k6 => k_is
  case k7 => k_is
  case k8 => k_room
  case k9 => exact BindsTo.of_eq rfl
  case kB => exact locs rfl
  case kn => first | exact (rfl : _ = 1) | exact (rfl : _ = 2) | exact (rfl : _ = 3) | exact (rfl : _ = 4) | exact (rfl : _ = 5) | exact (rfl : _ = 6) | exact (rfl : _ = 7)
  case c2 => exact rfl
  case c3 => exact rfl
  case c4 => exact rfl
  case c5 => decide
  intro h' FG' F' N' B' X' T' hkeep
  have N0 : Box (News (within_die_e.hp 1) (within_die_e.ad 0) (within_die_e.sh 0).heap (((within_die_e.ad 2), (⟨.ref 559, some (within_die_e.ad 3), .plain, #[]⟩ : Obj)) :: ((within_die_e.ad 3), dictOf [⟨PyData.keyHash (within_die_e.wo 0).params (Str.ofString "heap"), .str (Str.ofString "heap") (within_die_e.tk 0), .ref (within_die_e.ad 4)⟩, ⟨PyData.keyHash (within_die_e.wo 0).params (Str.ofString "counter"), .str (Str.ofString "counter") (within_die_e.tk 1), .ref (within_die_e.ad 5)⟩, ⟨PyData.keyHash (within_die_e.wo 0).params (Str.ofString "stash"), .str (Str.ofString "stash") (within_die_e.tk 2), .ref (within_die_e.ad 6)⟩, ⟨PyData.keyHash (within_die_e.wo 0).params (Str.ofString "limits"), .str (Str.ofString "limits") (within_die_e.tk 3), .ref (within_die_e.ad 7)⟩, ⟨PyData.keyHash (within_die_e.wo 0).params (Str.ofString "nodes"), .str (Str.ofString "nodes") (within_die_e.tk 4), .ref (within_die_e.ad 9)⟩, ⟨PyData.keyHash (within_die_e.wo 0).params (Str.ofString "lvs"), .str (Str.ofString "lvs") (within_die_e.tk 5), .ref (within_die_e.ad 12)⟩, ⟨PyData.keyHash (within_die_e.wo 0).params (Str.ofString "statements"), .str (Str.ofString "statements") (within_die_e.tk 6), .ref (within_die_e.ad 13)⟩, ⟨PyData.keyHash (within_die_e.wo 0).params (Str.ofString "funcs"), .str (Str.ofString "funcs") (within_die_e.tk 7), .ref (within_die_e.ad 14)⟩, ⟨PyData.keyHash (within_die_e.wo 0).params (Str.ofString "operators"), .str (Str.ofString "operators") (within_die_e.tk 8), .ref (within_die_e.ad 15)⟩, ⟨PyData.keyHash (within_die_e.wo 0).params (Str.ofString "out"), .str (Str.ofString "out") (within_die_e.tk 9), .ref (within_die_e.ad 16)⟩, ⟨PyData.keyHash (within_die_e.wo 0).params (Str.ofString "err"), .str (Str.ofString "err") (within_die_e.tk 10), .ref (within_die_e.ad 17)⟩, ⟨PyData.keyHash (within_die_e.wo 0).params (Str.ofString "saves"), .str (Str.ofString "saves") (within_die_e.tk 11), .ref (within_die_e.ad 18)⟩, ⟨PyData.keyHash (within_die_e.wo 0).params (Str.ofString "frames"), .str (Str.ofString "frames") (within_die_e.tk 12), .ref (within_die_e.ad 19)⟩, ⟨PyData.keyHash (within_die_e.wo 0).params (Str.ofString "match"), .str (Str.ofString "match") (within_die_e.tk 13), .none⟩, ⟨PyData.keyHash (within_die_e.wo 0).params (Str.ofString "patterns"), .str (Str.ofString "patterns") (within_die_e.tk 14), .ref (within_die_e.ad 20)⟩, ⟨PyData.keyHash (within_die_e.wo 0).params (Str.ofString "steps"), .str (Str.ofString "steps") (within_die_e.tk 15), .int 0 (within_die_e.tk 19)⟩, ⟨PyData.keyHash (within_die_e.wo 0).params (Str.ofString "methods"), .str (Str.ofString "methods") (within_die_e.tk 16), .ref (within_die_e.ad 10)⟩, ⟨PyData.keyHash (within_die_e.wo 0).params (Str.ofString "call_code"), .str (Str.ofString "call_code") (within_die_e.tk 17), .none⟩, ⟨PyData.keyHash (within_die_e.wo 0).params (Str.ofString "compile_text"), .str (Str.ofString "compile_text") (within_die_e.tk 18), .none⟩] (within_die_e.nt 2)) :: ((within_die_e.ad 7), (⟨.ref 1076, some (within_die_e.ad 8), .plain, #[]⟩ : Obj)) :: ((within_die_e.ad 8), dictOf [⟨PyData.keyHash (within_die_e.wo 0).params (Str.ofString "width"), .str (Str.ofString "width") (within_die_e.tk 20), .int 64 (within_die_e.tk 25)⟩, ⟨PyData.keyHash (within_die_e.wo 0).params (Str.ofString "depth"), .str (Str.ofString "depth") (within_die_e.tk 21), .int 50 (within_die_e.tk 26)⟩, ⟨PyData.keyHash (within_die_e.wo 0).params (Str.ofString "steps"), .str (Str.ofString "steps") (within_die_e.tk 22), .int 1000000 (within_die_e.tk 27)⟩, ⟨PyData.keyHash (within_die_e.wo 0).params (Str.ofString "text"), .str (Str.ofString "text") (within_die_e.tk 23), .int 100000 (within_die_e.tk 28)⟩, ⟨PyData.keyHash (within_die_e.wo 0).params (Str.ofString "items"), .str (Str.ofString "items") (within_die_e.tk 24), .int bd (within_die_e.tk 29)⟩] (within_die_e.nt 3)) :: ((within_die_e.ad 11), listOf vs.toArray (within_die_e.nt 4)) :: [])) := N
  clear B F X₀ N T
  (try dsimp only)
  repeat' (first | (k_unfold; (try dsimp only)) | (k_end; wrow_close) | (with_reducible ((with_reducible show wpAny _ _ (setAttr (Value.ref _) _ _) _ _ _); k_dflt (first
  | (refine' setX_new ?k1q ?k2q ?k3q ?k4q ?k5q ?k6q ?k7q ?k8q ?_; (case k1q => k_asm); (case k2q => k_asm); (case k3q => k_asm); (case k8q => k_updF); (case k4q => k_is); (case k5q => exact die_xo _); (case k6q => k_is); (case k7q => k_is); k_whole; intro h'9 d'9 F'9 N'9 l19; (try k_lt l19); (try dsimp only at N'9); (try k_sweep))
  | (refine' setX_dict ?k1q ?k2q ?k3q ?k4q ?k5q ?k6q ?k7q ?k8q ?kdq ?k9q ?k10q ?k11q ?k12q ?_; (case k1q => k_asm); (case k2q => k_asm); (case k3q => k_asm); (case k8q => k_mem); (case kdq => k_mem); (case k4q => k_is); (case k5q => exact die_xo _); (case k6q => k_is); (case k7q => k_is); (case k9q => k_get); (case k10q => k_put); (case k11q => k_upd); (case k12q => exact Nat.le_of_ble_eq_true rfl); k_whole; intro h'9 F'9 N'9; (try k_sweep))))) | (with_reducible ((with_reducible show wpAny _ _ (call (Value.builtin _) _) _ _ _); k_dflt (refine' initX ?k1q ?k2q ?k3q ?k4q ?k5q ?k6q ?_; (case k1q => k_asm); (case k2q => k_asm); (case k3q => k_asm); (case k5q => k_updF); (case k4q => exact die_xm _); (case k6q => (rw [PySem.sizeLine_eq]; (simp only [List.length_cons, List.length_nil]); omega)); k_whole); intro t'9 h'9 F'9 N'9 l19; (try k_lt l19); (try dsimp only at N'9); (try k_sweep))) | (with_reducible ((with_reducible show wpAny _ _ (exec (Stmt.Raise (some _) none _) _) _ _ _); k_dflt (refine' raiseD' ?k1q ?_; (case k1q => exact rfl); k_whole))) | ((with_reducible show wpAny _ _ (call (Value.ref _) _ _) _ _ _); k_dflt (refine' call_clsX ?k1 ?k2 ?k3 ?k4 ?k5 ?k6 ?k7 ?_; (case k1 => k_asm); (case k2 => k_asm); (case k3 => k_asm); (case k4 => exact die_xm _); (case k5 => k_is); (case k6 => k_is); (case k7 => (rw [PySem.sizeLine_eq]; (simp only [List.length_cons, List.length_nil]); omega)); k_whole; intro x'9 t'9 h'9 F'9 N'9 l19 l29; (try k_lt l19); (try k_lt2 l29); (try k_sweep); k_enter)) | (walk1; (try (with_reducible refine tok3 ?_; intro tk))) | dsimp only | (leave1; (try dsimp only)) | fail "no step")
  rename News (gOf _ _) (LOf _) _ _ => kN
  rename Fr (gOf _ _) (LOf _) _ _ => kF
  refine' raisableD_intro kN ?hm ?X ?s1 ?s2 ?hh ?_
  case hm => k_mem
  case X => k_in
  case s1 => k_is
  case s2 => k_is
  case hh => rfl
  (try dsimp only)
  have kN' : News (gOf _ _) (LOf _) _ (((within_die_e.ad 2), (⟨.ref 559, some (within_die_e.ad 3), .plain, #[]⟩ : Obj)) :: ((within_die_e.ad 3), dictOf [⟨PyData.keyHash (within_die_e.wo 0).params (Str.ofString "heap"), .str (Str.ofString "heap") (within_die_e.tk 0), .ref (within_die_e.ad 4)⟩, ⟨PyData.keyHash (within_die_e.wo 0).params (Str.ofString "counter"), .str (Str.ofString "counter") (within_die_e.tk 1), .ref (within_die_e.ad 5)⟩, ⟨PyData.keyHash (within_die_e.wo 0).params (Str.ofString "stash"), .str (Str.ofString "stash") (within_die_e.tk 2), .ref (within_die_e.ad 6)⟩, ⟨PyData.keyHash (within_die_e.wo 0).params (Str.ofString "limits"), .str (Str.ofString "limits") (within_die_e.tk 3), .ref (within_die_e.ad 7)⟩, ⟨PyData.keyHash (within_die_e.wo 0).params (Str.ofString "nodes"), .str (Str.ofString "nodes") (within_die_e.tk 4), .ref (within_die_e.ad 9)⟩, ⟨PyData.keyHash (within_die_e.wo 0).params (Str.ofString "lvs"), .str (Str.ofString "lvs") (within_die_e.tk 5), .ref (within_die_e.ad 12)⟩, ⟨PyData.keyHash (within_die_e.wo 0).params (Str.ofString "statements"), .str (Str.ofString "statements") (within_die_e.tk 6), .ref (within_die_e.ad 13)⟩, ⟨PyData.keyHash (within_die_e.wo 0).params (Str.ofString "funcs"), .str (Str.ofString "funcs") (within_die_e.tk 7), .ref (within_die_e.ad 14)⟩, ⟨PyData.keyHash (within_die_e.wo 0).params (Str.ofString "operators"), .str (Str.ofString "operators") (within_die_e.tk 8), .ref (within_die_e.ad 15)⟩, ⟨PyData.keyHash (within_die_e.wo 0).params (Str.ofString "out"), .str (Str.ofString "out") (within_die_e.tk 9), .ref (within_die_e.ad 16)⟩, ⟨PyData.keyHash (within_die_e.wo 0).params (Str.ofString "err"), .str (Str.ofString "err") (within_die_e.tk 10), .ref (within_die_e.ad 17)⟩, ⟨PyData.keyHash (within_die_e.wo 0).params (Str.ofString "saves"), .str (Str.ofString "saves") (within_die_e.tk 11), .ref (within_die_e.ad 18)⟩, ⟨PyData.keyHash (within_die_e.wo 0).params (Str.ofString "frames"), .str (Str.ofString "frames") (within_die_e.tk 12), .ref (within_die_e.ad 19)⟩, ⟨PyData.keyHash (within_die_e.wo 0).params (Str.ofString "match"), .str (Str.ofString "match") (within_die_e.tk 13), .none⟩, ⟨PyData.keyHash (within_die_e.wo 0).params (Str.ofString "patterns"), .str (Str.ofString "patterns") (within_die_e.tk 14), .ref (within_die_e.ad 20)⟩, ⟨PyData.keyHash (within_die_e.wo 0).params (Str.ofString "steps"), .str (Str.ofString "steps") (within_die_e.tk 15), .int 0 (within_die_e.tk 19)⟩, ⟨PyData.keyHash (within_die_e.wo 0).params (Str.ofString "methods"), .str (Str.ofString "methods") (within_die_e.tk 16), .ref (within_die_e.ad 10)⟩, ⟨PyData.keyHash (within_die_e.wo 0).params (Str.ofString "call_code"), .str (Str.ofString "call_code") (within_die_e.tk 17), .none⟩, ⟨PyData.keyHash (within_die_e.wo 0).params (Str.ofString "compile_text"), .str (Str.ofString "compile_text") (within_die_e.tk 18), .none⟩] (within_die_e.nt 2)) :: ((within_die_e.ad 7), (⟨.ref 1076, some (within_die_e.ad 8), .plain, #[]⟩ : Obj)) :: ((within_die_e.ad 8), dictOf [⟨PyData.keyHash (within_die_e.wo 0).params (Str.ofString "width"), .str (Str.ofString "width") (within_die_e.tk 20), .int 64 (within_die_e.tk 25)⟩, ⟨PyData.keyHash (within_die_e.wo 0).params (Str.ofString "depth"), .str (Str.ofString "depth") (within_die_e.tk 21), .int 50 (within_die_e.tk 26)⟩, ⟨PyData.keyHash (within_die_e.wo 0).params (Str.ofString "steps"), .str (Str.ofString "steps") (within_die_e.tk 22), .int 1000000 (within_die_e.tk 27)⟩, ⟨PyData.keyHash (within_die_e.wo 0).params (Str.ofString "text"), .str (Str.ofString "text") (within_die_e.tk 23), .int 100000 (within_die_e.tk 28)⟩, ⟨PyData.keyHash (within_die_e.wo 0).params (Str.ofString "items"), .str (Str.ofString "items") (within_die_e.tk 24), .int bd (within_die_e.tk 29)⟩] (within_die_e.nt 3)) :: ((within_die_e.ad 11), listOf vs.toArray (within_die_e.nt 4)) :: []) := news_sub kN (by k_allIn)
  have hkeep' := fun b o e q => kF.keep b o (hkeep b o e q)
  refine' leave_newD ?K kF kN ?he ?h1 ?hdx ?hv (keep_allD N0 kN' hkeep') (no_L kF kN' hkeep) (fresh_in N0 hkeep ?a1 ?a2) (fresh_in N0 hkeep ?a3 ?a4) ?_
  case K => assumption
  case he => k_mem
  case hdx => k_mem
  case h1 => rfl
  case hv => rfl
  case a1 => exact (kN (_, _) (by k_mem)).2.2
  case a3 => exact (kN (_, _) (by k_mem)).2.2
  case a2 => k_all
  case a4 => k_all
  intro h' D
  exact k _ _ _ D
theorem within_die {w : World} {A₀ : Around} {base : Heap} {h₀ : Heap} {outer : List Env} {L : Addr} {m : Str → Option Value} {mg : Str → Option Value} {mb : Str → Option Value} {mean : ExcName → Option Value} {pT : Program} {looseT : List Str} {s : Shared} {R : Result → Shared → Prop} {cn : Str} {cs : Scope} {ca : Addr} {ccd : Value} {d : Nat} {u : Nat} {gs : Option (List Code)} {r0 : Tok} {r1 : Tok} {r2 : Tok} {r3 : Tok} {r4 : Tok} {r5 : Tok} {r6 : Tok} {r7 : Tok} {r8 : Tok} {r9 : Tok} {r10 : Tok} {r11 : Tok} {r12 : Tok} {r13 : Tok} {r14 : Tok} {r15 : Tok} {r16 : Tok} {r17 : Tok} {r18 : Tok} {q0 : Tok} {la : Tok} {lb : Tok} {lc : Tok} {ld : Tok} {le : Tok} {na : Tok} {nb : Tok} {nc : Tok} {nd1 : Tok} {ne : Tok} {run : Addr} {drun : Addr} {hp : Addr} {ct : Addr} {st : Addr} {lm : Addr} {dlm : Addr} {nd : Addr} {mc : Addr} {ml : Addr} {x5 : Addr} {x6 : Addr} {x7 : Addr} {x8 : Addr} {x9 : Addr} {x10 : Addr} {x11 : Addr} {x12 : Addr} {x14 : Addr} {nrun : Nat} {nlm : Nat} {nml : Nat} {bd : Int} {vs : List Value} : within_die_S w A₀ base h₀ outer L m mg mb mean pT looseT s R cn cs ca ccd d u gs r0 r1 r2 r3 r4 r5 r6 r7 r8 r9 r10 r11 r12 r13 r14 r15 r16 r17 r18 q0 la lb lc ld le na nb nc nd1 ne run drun hp ct st lm dlm nd mc ml x5 x6 x7 x8 x9 x10 x11 x12 x14 nrun nlm nml bd vs := @ec_all within_die_P (within_die_eq ▸ within_die_m) { wo := fun n => [w].getD n (aWorld 1), ar := fun n => [A₀].getD n (callerA), hp := fun n => [base, h₀].getD n (default), le := fun n => [outer].getD n ([]), ad := fun n => [L, ca, run, drun, hp, ct, st, lm, dlm, nd, mc, ml, x5, x6, x7, x8, x9, x10, x11, x12, x14].getD n (0), mp := fun n => [m, mg, mb].getD n (fun _ => none), en := fun n => [mean].getD n (fun _ => none), pg := fun n => [pT].getD n (default), ls := fun n => [looseT].getD n ([]), sh := fun n => [s].getD n ⟨default, #[], {}, 0, {}⟩, rs := fun n => [R].getD n (fun _ _ => True), sr := fun n => [cn].getD n (default), sc := fun n => [cs].getD n (default), va := fun n => [ccd].getD n (.none), nt := fun n => [d, u, nrun, nlm, nml].getD n (0), oc := fun n => [gs].getD n (none), tk := fun n => [r0, r1, r2, r3, r4, r5, r6, r7, r8, r9, r10, r11, r12, r13, r14, r15, r16, r17, r18, q0, la, lb, lc, ld, le, na, nb, nc, nd1, ne].getD n (0), ob := fun _ => (default), iz := fun _ => (0), lv := fun _ => ([]), ll := fun _ => ([]), oa := fun _ => (none), fd := fun _ => (default), av := fun _ => (#[]), li := fun _ => ([]), aw := fun _ => (#[]), ev := fun _ => (default) } bd vs
theorem within_die_use {w : World} {A₀ : Around} {base h₀ : Heap} {outer : List Env} {L : Addr} {m mg mb : Str → Option Value} {mean : ExcName → Option Value} {pT : Program} {looseT : List Str} {s : Shared} {R : Result → Shared → Prop}
    {cn : Str} {cs : Scope} {ca : Addr} {ccd : Value} {d u : Nat} {gs : Option (List Code)}
    {r0 r1 r2 r3 r4 r5 r6 r7 r8 r9 r10 r11 r12 r13 r14 r15 r16 r17 r18 q0 la lb lc ld le na nb nc nd1 ne : Tok} {run drun hp ct st lm dlm nd mc ml x5 x6 x7 x8 x9 x10 x11 x12 x14 : Addr} {nrun nlm nml : Nat} {bd : Int} {vs : List Value} {full : List (Addr × Obj)}
    (B : Below A₀ base outer h₀) (F : Fr h₀ L s.heap m) (X₀ : (hd.heap_1 w.params).In h₀) (N : News h₀ L s.heap full) (T : Top pT looseT mean mg mb h₀)
    (hke : cs.kind = .function) (hroom : d < 600) (hun : u < 1000)
    (hlen : vs.length ≤ 10) (hbd : bd < (vs.length : Int)) (hsub : ∀ p ∈ ((run, (⟨.ref 559, some drun, .plain, #[]⟩ : Obj)) :: (drun, dictOf [⟨PyData.keyHash w.params (Str.ofString "heap"), .str (Str.ofString "heap") r0, .ref hp⟩, ⟨PyData.keyHash w.params (Str.ofString "counter"), .str (Str.ofString "counter") r1, .ref ct⟩, ⟨PyData.keyHash w.params (Str.ofString "stash"), .str (Str.ofString "stash") r2, .ref st⟩, ⟨PyData.keyHash w.params (Str.ofString "limits"), .str (Str.ofString "limits") r3, .ref lm⟩, ⟨PyData.keyHash w.params (Str.ofString "nodes"), .str (Str.ofString "nodes") r4, .ref nd⟩, ⟨PyData.keyHash w.params (Str.ofString "lvs"), .str (Str.ofString "lvs") r5, .ref x5⟩, ⟨PyData.keyHash w.params (Str.ofString "statements"), .str (Str.ofString "statements") r6, .ref x6⟩, ⟨PyData.keyHash w.params (Str.ofString "funcs"), .str (Str.ofString "funcs") r7, .ref x7⟩, ⟨PyData.keyHash w.params (Str.ofString "operators"), .str (Str.ofString "operators") r8, .ref x8⟩, ⟨PyData.keyHash w.params (Str.ofString "out"), .str (Str.ofString "out") r9, .ref x9⟩, ⟨PyData.keyHash w.params (Str.ofString "err"), .str (Str.ofString "err") r10, .ref x10⟩, ⟨PyData.keyHash w.params (Str.ofString "saves"), .str (Str.ofString "saves") r11, .ref x11⟩, ⟨PyData.keyHash w.params (Str.ofString "frames"), .str (Str.ofString "frames") r12, .ref x12⟩, ⟨PyData.keyHash w.params (Str.ofString "match"), .str (Str.ofString "match") r13, .none⟩, ⟨PyData.keyHash w.params (Str.ofString "patterns"), .str (Str.ofString "patterns") r14, .ref x14⟩, ⟨PyData.keyHash w.params (Str.ofString "steps"), .str (Str.ofString "steps") r15, .int 0 q0⟩, ⟨PyData.keyHash w.params (Str.ofString "methods"), .str (Str.ofString "methods") r16, .ref mc⟩, ⟨PyData.keyHash w.params (Str.ofString "call_code"), .str (Str.ofString "call_code") r17, .none⟩, ⟨PyData.keyHash w.params (Str.ofString "compile_text"), .str (Str.ofString "compile_text") r18, .none⟩] nrun) :: (lm, (⟨.ref 1076, some dlm, .plain, #[]⟩ : Obj)) :: (dlm, dictOf [⟨PyData.keyHash w.params (Str.ofString "width"), .str (Str.ofString "width") la, .int 64 na⟩, ⟨PyData.keyHash w.params (Str.ofString "depth"), .str (Str.ofString "depth") lb, .int 50 nb⟩, ⟨PyData.keyHash w.params (Str.ofString "steps"), .str (Str.ofString "steps") lc, .int 1000000 nc⟩, ⟨PyData.keyHash w.params (Str.ofString "text"), .str (Str.ofString "text") ld, .int 100000 nd1⟩, ⟨PyData.keyHash w.params (Str.ofString "items"), .str (Str.ofString "items") le, .int bd ne⟩] nlm) :: (ml, listOf vs.toArray nml) :: []), p ∈ full)
    (k : ∀ h' tk e, DieAt base (envOf cn cs L ca ccd :: outer) s.heap e h' → R (.error (.ref e)) { s with heap := h', toks := tk }) :
    codeAny (model PySem.Challenge.rw_qz0130_01.row.prog w) (Around.mk none d (some (envOf cn cs L ca ccd :: outer)) gs u) (.call (.ref 591) ⟨[.ref run, .ref ml], []⟩) R s :=
  within_die B F X₀ (news_sub N hsub) T hke hroom hun hlen hbd k
end
section
def within_ok_S (w : World) (A₀ : Around) (base : Heap) (h₀ : Heap) (outer : List Env) (L : Addr) (m : Str → Option Value) (mg : Str → Option Value) (mb : Str → Option Value) (mean : ExcName → Option Value) (pT : Program) (looseT : List Str) (s : Shared) (R : Result → Shared → Prop) (cn : Str) (cs : Scope) (ca : Addr) (ccd : Value) (d : Nat) (u : Nat) (gs : Option (List Code)) (r0 : Tok) (r1 : Tok) (r2 : Tok) (r3 : Tok) (r4 : Tok) (r5 : Tok) (r6 : Tok) (r7 : Tok) (r8 : Tok) (r9 : Tok) (r10 : Tok) (r11 : Tok) (r12 : Tok) (r13 : Tok) (r14 : Tok) (r15 : Tok) (r16 : Tok) (r17 : Tok) (r18 : Tok) (q0 : Tok) (la : Tok) (lb : Tok) (lc : Tok) (ld : Tok) (le : Tok) (na : Tok) (nb : Tok) (nc : Tok) (nd1 : Tok) (ne : Tok) (run : Addr) (drun : Addr) (hp : Addr) (ct : Addr) (st : Addr) (lm : Addr) (dlm : Addr) (nd : Addr) (mc : Addr) (ml : Addr) (x5 : Addr) (x6 : Addr) (x7 : Addr) (x8 : Addr) (x9 : Addr) (x10 : Addr) (x11 : Addr) (x12 : Addr) (x14 : Addr) (nrun : Nat) (nlm : Nat) (nml : Nat) (bd : Int) (vs : List Value) : Prop := ∀ (B : Below A₀ base outer h₀) (F : Fr h₀ L s.heap m) (X₀ : (hd.heap_1 w.params).In h₀) (N : News h₀ L s.heap ((run, (⟨.ref 559, some drun, .plain, #[]⟩ : Obj)) :: (drun, dictOf [⟨PyData.keyHash w.params (Str.ofString "heap"), .str (Str.ofString "heap") r0, .ref hp⟩, ⟨PyData.keyHash w.params (Str.ofString "counter"), .str (Str.ofString "counter") r1, .ref ct⟩, ⟨PyData.keyHash w.params (Str.ofString "stash"), .str (Str.ofString "stash") r2, .ref st⟩, ⟨PyData.keyHash w.params (Str.ofString "limits"), .str (Str.ofString "limits") r3, .ref lm⟩, ⟨PyData.keyHash w.params (Str.ofString "nodes"), .str (Str.ofString "nodes") r4, .ref nd⟩, ⟨PyData.keyHash w.params (Str.ofString "lvs"), .str (Str.ofString "lvs") r5, .ref x5⟩, ⟨PyData.keyHash w.params (Str.ofString "statements"), .str (Str.ofString "statements") r6, .ref x6⟩, ⟨PyData.keyHash w.params (Str.ofString "funcs"), .str (Str.ofString "funcs") r7, .ref x7⟩, ⟨PyData.keyHash w.params (Str.ofString "operators"), .str (Str.ofString "operators") r8, .ref x8⟩, ⟨PyData.keyHash w.params (Str.ofString "out"), .str (Str.ofString "out") r9, .ref x9⟩, ⟨PyData.keyHash w.params (Str.ofString "err"), .str (Str.ofString "err") r10, .ref x10⟩, ⟨PyData.keyHash w.params (Str.ofString "saves"), .str (Str.ofString "saves") r11, .ref x11⟩, ⟨PyData.keyHash w.params (Str.ofString "frames"), .str (Str.ofString "frames") r12, .ref x12⟩, ⟨PyData.keyHash w.params (Str.ofString "match"), .str (Str.ofString "match") r13, .none⟩, ⟨PyData.keyHash w.params (Str.ofString "patterns"), .str (Str.ofString "patterns") r14, .ref x14⟩, ⟨PyData.keyHash w.params (Str.ofString "steps"), .str (Str.ofString "steps") r15, .int 0 q0⟩, ⟨PyData.keyHash w.params (Str.ofString "methods"), .str (Str.ofString "methods") r16, .ref mc⟩, ⟨PyData.keyHash w.params (Str.ofString "call_code"), .str (Str.ofString "call_code") r17, .none⟩, ⟨PyData.keyHash w.params (Str.ofString "compile_text"), .str (Str.ofString "compile_text") r18, .none⟩] nrun) :: (lm, (⟨.ref 1076, some dlm, .plain, #[]⟩ : Obj)) :: (dlm, dictOf [⟨PyData.keyHash w.params (Str.ofString "width"), .str (Str.ofString "width") la, .int 64 na⟩, ⟨PyData.keyHash w.params (Str.ofString "depth"), .str (Str.ofString "depth") lb, .int 50 nb⟩, ⟨PyData.keyHash w.params (Str.ofString "steps"), .str (Str.ofString "steps") lc, .int 1000000 nc⟩, ⟨PyData.keyHash w.params (Str.ofString "text"), .str (Str.ofString "text") ld, .int 100000 nd1⟩, ⟨PyData.keyHash w.params (Str.ofString "items"), .str (Str.ofString "items") le, .int bd ne⟩] nlm) :: (ml, listOf vs.toArray nml) :: [])) (T : Top pT looseT mean mg mb h₀) (hke : cs.kind = .function) (hroom : d < 600) (hun : u < 1000) (hlen : vs.length ≤ 10) (hbd : ¬ (bd < (vs.length : Int))) (k : ∀ h' tk, Fr h₀ L h' m → News h₀ L h' ((run, (⟨.ref 559, some drun, .plain, #[]⟩ : Obj)) :: (drun, dictOf [⟨PyData.keyHash w.params (Str.ofString "heap"), .str (Str.ofString "heap") r0, .ref hp⟩, ⟨PyData.keyHash w.params (Str.ofString "counter"), .str (Str.ofString "counter") r1, .ref ct⟩, ⟨PyData.keyHash w.params (Str.ofString "stash"), .str (Str.ofString "stash") r2, .ref st⟩, ⟨PyData.keyHash w.params (Str.ofString "limits"), .str (Str.ofString "limits") r3, .ref lm⟩, ⟨PyData.keyHash w.params (Str.ofString "nodes"), .str (Str.ofString "nodes") r4, .ref nd⟩, ⟨PyData.keyHash w.params (Str.ofString "lvs"), .str (Str.ofString "lvs") r5, .ref x5⟩, ⟨PyData.keyHash w.params (Str.ofString "statements"), .str (Str.ofString "statements") r6, .ref x6⟩, ⟨PyData.keyHash w.params (Str.ofString "funcs"), .str (Str.ofString "funcs") r7, .ref x7⟩, ⟨PyData.keyHash w.params (Str.ofString "operators"), .str (Str.ofString "operators") r8, .ref x8⟩, ⟨PyData.keyHash w.params (Str.ofString "out"), .str (Str.ofString "out") r9, .ref x9⟩, ⟨PyData.keyHash w.params (Str.ofString "err"), .str (Str.ofString "err") r10, .ref x10⟩, ⟨PyData.keyHash w.params (Str.ofString "saves"), .str (Str.ofString "saves") r11, .ref x11⟩, ⟨PyData.keyHash w.params (Str.ofString "frames"), .str (Str.ofString "frames") r12, .ref x12⟩, ⟨PyData.keyHash w.params (Str.ofString "match"), .str (Str.ofString "match") r13, .none⟩, ⟨PyData.keyHash w.params (Str.ofString "patterns"), .str (Str.ofString "patterns") r14, .ref x14⟩, ⟨PyData.keyHash w.params (Str.ofString "steps"), .str (Str.ofString "steps") r15, .int 0 q0⟩, ⟨PyData.keyHash w.params (Str.ofString "methods"), .str (Str.ofString "methods") r16, .ref mc⟩, ⟨PyData.keyHash w.params (Str.ofString "call_code"), .str (Str.ofString "call_code") r17, .none⟩, ⟨PyData.keyHash w.params (Str.ofString "compile_text"), .str (Str.ofString "compile_text") r18, .none⟩] nrun) :: (lm, (⟨.ref 1076, some dlm, .plain, #[]⟩ : Obj)) :: (dlm, dictOf [⟨PyData.keyHash w.params (Str.ofString "width"), .str (Str.ofString "width") la, .int 64 na⟩, ⟨PyData.keyHash w.params (Str.ofString "depth"), .str (Str.ofString "depth") lb, .int 50 nb⟩, ⟨PyData.keyHash w.params (Str.ofString "steps"), .str (Str.ofString "steps") lc, .int 1000000 nc⟩, ⟨PyData.keyHash w.params (Str.ofString "text"), .str (Str.ofString "text") ld, .int 100000 nd1⟩, ⟨PyData.keyHash w.params (Str.ofString "items"), .str (Str.ofString "items") le, .int bd ne⟩] nlm) :: (ml, listOf vs.toArray nml) :: []) → (∀ b o, s.heap.get? b = some o → b ∉ [run, drun, lm, dlm, ml] → h'.get? b = some o) → R (.ok (.ret (.ref ml))) { s with heap := h', toks := tk }), codeAny (model PySem.Challenge.rw_qz0130_01.row.prog w) (Around.mk none d (some (envOf cn cs L ca ccd :: outer)) gs u) (.call (.ref 591) ⟨[.ref run, .ref ml], []⟩) R s
def within_ok_P (c : EC) : Prop := ∀ (bd : Int) (vs : List Value), within_ok_S (c.wo 0) (c.ar 0) (c.hp 0) (c.hp 1) (c.le 0) (c.ad 0) (c.mp 0) (c.mp 1) (c.mp 2) (c.en 0) (c.pg 0) (c.ls 0) (c.sh 0) (c.rs 0) (c.sr 0) (c.sc 0) (c.ad 1) (c.va 0) (c.nt 0) (c.nt 1) (c.oc 0) (c.tk 0) (c.tk 1) (c.tk 2) (c.tk 3) (c.tk 4) (c.tk 5) (c.tk 6) (c.tk 7) (c.tk 8) (c.tk 9) (c.tk 10) (c.tk 11) (c.tk 12) (c.tk 13) (c.tk 14) (c.tk 15) (c.tk 16) (c.tk 17) (c.tk 18) (c.tk 19) (c.tk 20) (c.tk 21) (c.tk 22) (c.tk 23) (c.tk 24) (c.tk 25) (c.tk 26) (c.tk 27) (c.tk 28) (c.tk 29) (c.ad 2) (c.ad 3) (c.ad 4) (c.ad 5) (c.ad 6) (c.ad 7) (c.ad 8) (c.ad 9) (c.ad 10) (c.ad 11) (c.ad 12) (c.ad 13) (c.ad 14) (c.ad 15) (c.ad 16) (c.ad 17) (c.ad 18) (c.ad 19) (c.ad 20) (c.nt 2) (c.nt 3) (c.nt 4) bd vs
@[irreducible] noncomputable def within_ok_e : EC := @Classical.epsilon EC EC.ne fun c => ¬ within_ok_P c
theorem within_ok_eq : within_ok_e = @Classical.epsilon EC EC.ne fun c => ¬ within_ok_P c := by unfold within_ok_e; rfl
theorem within_ok_m : within_ok_P within_ok_e := by
  unfold within_ok_P within_ok_S
  intro bd vs B F X₀ N T hke hroom hun hlen hbd k
  revert X₀
  k_fill
  intro X₀
  refine' code_keepG B F X₀ N T rfl hke ?k6 ?k7 ?k8 ?kn ?k9 ?kB ?_ ?c2 ?c3 ?c4 ?c5
  case k6 => k_is
  case k7 => k_is
  case k8 => k_room
  case k9 => exact BindsTo.of_eq rfl
  case kB => exact locs rfl
  case kn => first | exact (rfl : _ = 1) | exact (rfl : _ = 2) | exact (rfl : _ = 3) | exact (rfl : _ = 4) | exact (rfl : _ = 5) | exact (rfl : _ = 6) | exact (rfl : _ = 7)
  case c2 => exact rfl
  case c3 => exact rfl
  case c4 => exact rfl
  case c5 => decide
  intro h' FG' F' N' B' X' T' hkeep
  clear B F X₀ N T
  (try dsimp only)
  k_steps
  all_goals (try dsimp only)
  all_goals (refine' leaveK_ ?k1 ?k2 ?_; (case k1 => assumption); (case k2 => assumption); intro kF kN)
  all_goals (have hkeep' := fun b o e q => Fr.keep (by assumption : Fr (gOf _ _) (LOf _) _ _) b o (hkeep b o e q))
  all_goals (refine k _ _ kF (news_sub kN (by k_allIn)) hkeep')
theorem within_ok {w : World} {A₀ : Around} {base : Heap} {h₀ : Heap} {outer : List Env} {L : Addr} {m : Str → Option Value} {mg : Str → Option Value} {mb : Str → Option Value} {mean : ExcName → Option Value} {pT : Program} {looseT : List Str} {s : Shared} {R : Result → Shared → Prop} {cn : Str} {cs : Scope} {ca : Addr} {ccd : Value} {d : Nat} {u : Nat} {gs : Option (List Code)} {r0 : Tok} {r1 : Tok} {r2 : Tok} {r3 : Tok} {r4 : Tok} {r5 : Tok} {r6 : Tok} {r7 : Tok} {r8 : Tok} {r9 : Tok} {r10 : Tok} {r11 : Tok} {r12 : Tok} {r13 : Tok} {r14 : Tok} {r15 : Tok} {r16 : Tok} {r17 : Tok} {r18 : Tok} {q0 : Tok} {la : Tok} {lb : Tok} {lc : Tok} {ld : Tok} {le : Tok} {na : Tok} {nb : Tok} {nc : Tok} {nd1 : Tok} {ne : Tok} {run : Addr} {drun : Addr} {hp : Addr} {ct : Addr} {st : Addr} {lm : Addr} {dlm : Addr} {nd : Addr} {mc : Addr} {ml : Addr} {x5 : Addr} {x6 : Addr} {x7 : Addr} {x8 : Addr} {x9 : Addr} {x10 : Addr} {x11 : Addr} {x12 : Addr} {x14 : Addr} {nrun : Nat} {nlm : Nat} {nml : Nat} {bd : Int} {vs : List Value} : within_ok_S w A₀ base h₀ outer L m mg mb mean pT looseT s R cn cs ca ccd d u gs r0 r1 r2 r3 r4 r5 r6 r7 r8 r9 r10 r11 r12 r13 r14 r15 r16 r17 r18 q0 la lb lc ld le na nb nc nd1 ne run drun hp ct st lm dlm nd mc ml x5 x6 x7 x8 x9 x10 x11 x12 x14 nrun nlm nml bd vs := @ec_all within_ok_P (within_ok_eq ▸ within_ok_m) { wo := fun n => [w].getD n (aWorld 1), ar := fun n => [A₀].getD n (callerA), hp := fun n => [base, h₀].getD n (default), le := fun n => [outer].getD n ([]), ad := fun n => [L, ca, run, drun, hp, ct, st, lm, dlm, nd, mc, ml, x5, x6, x7, x8, x9, x10, x11, x12, x14].getD n (0), mp := fun n => [m, mg, mb].getD n (fun _ => none), en := fun n => [mean].getD n (fun _ => none), pg := fun n => [pT].getD n (default), ls := fun n => [looseT].getD n ([]), sh := fun n => [s].getD n ⟨default, #[], {}, 0, {}⟩, rs := fun n => [R].getD n (fun _ _ => True), sr := fun n => [cn].getD n (default), sc := fun n => [cs].getD n (default), va := fun n => [ccd].getD n (.none), nt := fun n => [d, u, nrun, nlm, nml].getD n (0), oc := fun n => [gs].getD n (none), tk := fun n => [r0, r1, r2, r3, r4, r5, r6, r7, r8, r9, r10, r11, r12, r13, r14, r15, r16, r17, r18, q0, la, lb, lc, ld, le, na, nb, nc, nd1, ne].getD n (0), ob := fun _ => (default), iz := fun _ => (0), lv := fun _ => ([]), ll := fun _ => ([]), oa := fun _ => (none), fd := fun _ => (default), av := fun _ => (#[]), li := fun _ => ([]), aw := fun _ => (#[]), ev := fun _ => (default) } bd vs
theorem within_ok_use {w : World} {A₀ : Around} {base h₀ : Heap} {outer : List Env} {L : Addr} {m mg mb : Str → Option Value} {mean : ExcName → Option Value} {pT : Program} {looseT : List Str} {s : Shared} {R : Result → Shared → Prop}
    {cn : Str} {cs : Scope} {ca : Addr} {ccd : Value} {d u : Nat} {gs : Option (List Code)}
    {r0 r1 r2 r3 r4 r5 r6 r7 r8 r9 r10 r11 r12 r13 r14 r15 r16 r17 r18 q0 la lb lc ld le na nb nc nd1 ne : Tok} {run drun hp ct st lm dlm nd mc ml x5 x6 x7 x8 x9 x10 x11 x12 x14 : Addr} {nrun nlm nml : Nat} {bd : Int} {vs : List Value} {full : List (Addr × Obj)}
    (B : Below A₀ base outer h₀) (F : Fr h₀ L s.heap m) (X₀ : (hd.heap_1 w.params).In h₀) (N : News h₀ L s.heap full) (T : Top pT looseT mean mg mb h₀)
    (hke : cs.kind = .function) (hroom : d < 600) (hun : u < 1000)
    (hlen : vs.length ≤ 10) (hbd : ¬ (bd < (vs.length : Int))) (hsub : ∀ p ∈ ((run, (⟨.ref 559, some drun, .plain, #[]⟩ : Obj)) :: (drun, dictOf [⟨PyData.keyHash w.params (Str.ofString "heap"), .str (Str.ofString "heap") r0, .ref hp⟩, ⟨PyData.keyHash w.params (Str.ofString "counter"), .str (Str.ofString "counter") r1, .ref ct⟩, ⟨PyData.keyHash w.params (Str.ofString "stash"), .str (Str.ofString "stash") r2, .ref st⟩, ⟨PyData.keyHash w.params (Str.ofString "limits"), .str (Str.ofString "limits") r3, .ref lm⟩, ⟨PyData.keyHash w.params (Str.ofString "nodes"), .str (Str.ofString "nodes") r4, .ref nd⟩, ⟨PyData.keyHash w.params (Str.ofString "lvs"), .str (Str.ofString "lvs") r5, .ref x5⟩, ⟨PyData.keyHash w.params (Str.ofString "statements"), .str (Str.ofString "statements") r6, .ref x6⟩, ⟨PyData.keyHash w.params (Str.ofString "funcs"), .str (Str.ofString "funcs") r7, .ref x7⟩, ⟨PyData.keyHash w.params (Str.ofString "operators"), .str (Str.ofString "operators") r8, .ref x8⟩, ⟨PyData.keyHash w.params (Str.ofString "out"), .str (Str.ofString "out") r9, .ref x9⟩, ⟨PyData.keyHash w.params (Str.ofString "err"), .str (Str.ofString "err") r10, .ref x10⟩, ⟨PyData.keyHash w.params (Str.ofString "saves"), .str (Str.ofString "saves") r11, .ref x11⟩, ⟨PyData.keyHash w.params (Str.ofString "frames"), .str (Str.ofString "frames") r12, .ref x12⟩, ⟨PyData.keyHash w.params (Str.ofString "match"), .str (Str.ofString "match") r13, .none⟩, ⟨PyData.keyHash w.params (Str.ofString "patterns"), .str (Str.ofString "patterns") r14, .ref x14⟩, ⟨PyData.keyHash w.params (Str.ofString "steps"), .str (Str.ofString "steps") r15, .int 0 q0⟩, ⟨PyData.keyHash w.params (Str.ofString "methods"), .str (Str.ofString "methods") r16, .ref mc⟩, ⟨PyData.keyHash w.params (Str.ofString "call_code"), .str (Str.ofString "call_code") r17, .none⟩, ⟨PyData.keyHash w.params (Str.ofString "compile_text"), .str (Str.ofString "compile_text") r18, .none⟩] nrun) :: (lm, (⟨.ref 1076, some dlm, .plain, #[]⟩ : Obj)) :: (dlm, dictOf [⟨PyData.keyHash w.params (Str.ofString "width"), .str (Str.ofString "width") la, .int 64 na⟩, ⟨PyData.keyHash w.params (Str.ofString "depth"), .str (Str.ofString "depth") lb, .int 50 nb⟩, ⟨PyData.keyHash w.params (Str.ofString "steps"), .str (Str.ofString "steps") lc, .int 1000000 nc⟩, ⟨PyData.keyHash w.params (Str.ofString "text"), .str (Str.ofString "text") ld, .int 100000 nd1⟩, ⟨PyData.keyHash w.params (Str.ofString "items"), .str (Str.ofString "items") le, .int bd ne⟩] nlm) :: (ml, listOf vs.toArray nml) :: []), p ∈ full)
    (k : ∀ h' tk, Fr h₀ L h' m → News h₀ L h' full → R (.ok (.ret (.ref ml))) { s with heap := h', toks := tk }) :
    codeAny (model PySem.Challenge.rw_qz0130_01.row.prog w) (Around.mk none d (some (envOf cn cs L ca ccd :: outer)) gs u) (.call (.ref 591) ⟨[.ref run, .ref ml], []⟩) R s :=
  within_ok B F X₀ (news_sub N hsub) T hke hroom hun hlen hbd fun h' tk F' N' K => k h' tk F' (news_all N (keep_all (news_sub N hsub) N' K))
end
section
def value_in_asked_S (w : World) (A₀ : Around) (base : Heap) (h₀ : Heap) (outer : List Env) (L : Addr) (m : Str → Option Value) (mg : Str → Option Value) (mb : Str → Option Value) (mean : ExcName → Option Value) (pT : Program) (looseT : List Str) (s : Shared) (R : Result → Shared → Prop) (cn : Str) (cs : Scope) (ca : Addr) (ccd : Value) (d : Nat) (u : Nat) (gs : Option (List Code)) (r0 : Tok) (r1 : Tok) (r2 : Tok) (r3 : Tok) (r4 : Tok) (r5 : Tok) (r6 : Tok) (r7 : Tok) (r8 : Tok) (r9 : Tok) (r10 : Tok) (r11 : Tok) (r12 : Tok) (r13 : Tok) (r14 : Tok) (r15 : Tok) (r16 : Tok) (r17 : Tok) (r18 : Tok) (q0 : Tok) (tq : Tok) (run : Addr) (drun : Addr) (hp : Addr) (ct : Addr) (st : Addr) (lm : Addr) (nd : Addr) (mc : Addr) (fs : Addr) (fa : Addr) (ca2 : Addr) (tn : Addr) (x5 : Addr) (x6 : Addr) (x7 : Addr) (x8 : Addr) (x9 : Addr) (x10 : Addr) (x11 : Addr) (x12 : Addr) (x14 : Addr) (nrun : Nat) (ocA : Obj) (ond : Obj) (oca : Value) (oda : Option Addr) (fda : FuncData) (sla : Array (Option Value)) : Prop := ∀ (B : Below A₀ base outer h₀) (F : Fr h₀ L s.heap m) (X₀ : (hd.heap_1 w.params).In h₀) (N : News h₀ L s.heap ((run, (⟨.ref 559, some drun, .plain, #[]⟩ : Obj)) :: (drun, dictOf [⟨PyData.keyHash w.params (Str.ofString "heap"), .str (Str.ofString "heap") r0, .ref hp⟩, ⟨PyData.keyHash w.params (Str.ofString "counter"), .str (Str.ofString "counter") r1, .ref ct⟩, ⟨PyData.keyHash w.params (Str.ofString "stash"), .str (Str.ofString "stash") r2, .ref st⟩, ⟨PyData.keyHash w.params (Str.ofString "limits"), .str (Str.ofString "limits") r3, .ref lm⟩, ⟨PyData.keyHash w.params (Str.ofString "nodes"), .str (Str.ofString "nodes") r4, .ref nd⟩, ⟨PyData.keyHash w.params (Str.ofString "lvs"), .str (Str.ofString "lvs") r5, .ref x5⟩, ⟨PyData.keyHash w.params (Str.ofString "statements"), .str (Str.ofString "statements") r6, .ref x6⟩, ⟨PyData.keyHash w.params (Str.ofString "funcs"), .str (Str.ofString "funcs") r7, .ref x7⟩, ⟨PyData.keyHash w.params (Str.ofString "operators"), .str (Str.ofString "operators") r8, .ref x8⟩, ⟨PyData.keyHash w.params (Str.ofString "out"), .str (Str.ofString "out") r9, .ref x9⟩, ⟨PyData.keyHash w.params (Str.ofString "err"), .str (Str.ofString "err") r10, .ref x10⟩, ⟨PyData.keyHash w.params (Str.ofString "saves"), .str (Str.ofString "saves") r11, .ref x11⟩, ⟨PyData.keyHash w.params (Str.ofString "frames"), .str (Str.ofString "frames") r12, .ref x12⟩, ⟨PyData.keyHash w.params (Str.ofString "match"), .str (Str.ofString "match") r13, .none⟩, ⟨PyData.keyHash w.params (Str.ofString "patterns"), .str (Str.ofString "patterns") r14, .ref x14⟩, ⟨PyData.keyHash w.params (Str.ofString "steps"), .str (Str.ofString "steps") r15, .int 0 q0⟩, ⟨PyData.keyHash w.params (Str.ofString "methods"), .str (Str.ofString "methods") r16, .ref mc⟩, ⟨PyData.keyHash w.params (Str.ofString "call_code"), .str (Str.ofString "call_code") r17, .none⟩, ⟨PyData.keyHash w.params (Str.ofString "compile_text"), .str (Str.ofString "compile_text") r18, .none⟩] nrun) :: (nd, ond) :: (fa, (⟨oca, oda, .func fda, sla⟩ : Obj)) :: (ca2, ocA) :: (tn, (⟨.type "tuple", none, .seq #[.str (Str.ofString "asked") tq], #[]⟩ : Obj)) :: [])) (T : Top pT looseT mean mg mb h₀) (hke : cs.kind = .function) (hroom : d < 600) (hun : u < 1000) (lo : (nd == sysModules) = false) (hnd : ond.IsDictOf (strKind PySem.Challenge.rw_qz0130_01.row.prog w) [(Str.ofString "some", .ref fs), (Str.ofString "asked", .ref fa)]) (hA : CallsA w fa ca2 ⟨oca, oda, .func fda, sla⟩ ocA) (k : ∀ h' tk t, Fr h₀ L h' m → News h₀ L h' ((run, (⟨.ref 559, some drun, .plain, #[]⟩ : Obj)) :: (drun, dictOf [⟨PyData.keyHash w.params (Str.ofString "heap"), .str (Str.ofString "heap") r0, .ref hp⟩, ⟨PyData.keyHash w.params (Str.ofString "counter"), .str (Str.ofString "counter") r1, .ref ct⟩, ⟨PyData.keyHash w.params (Str.ofString "stash"), .str (Str.ofString "stash") r2, .ref st⟩, ⟨PyData.keyHash w.params (Str.ofString "limits"), .str (Str.ofString "limits") r3, .ref lm⟩, ⟨PyData.keyHash w.params (Str.ofString "nodes"), .str (Str.ofString "nodes") r4, .ref nd⟩, ⟨PyData.keyHash w.params (Str.ofString "lvs"), .str (Str.ofString "lvs") r5, .ref x5⟩, ⟨PyData.keyHash w.params (Str.ofString "statements"), .str (Str.ofString "statements") r6, .ref x6⟩, ⟨PyData.keyHash w.params (Str.ofString "funcs"), .str (Str.ofString "funcs") r7, .ref x7⟩, ⟨PyData.keyHash w.params (Str.ofString "operators"), .str (Str.ofString "operators") r8, .ref x8⟩, ⟨PyData.keyHash w.params (Str.ofString "out"), .str (Str.ofString "out") r9, .ref x9⟩, ⟨PyData.keyHash w.params (Str.ofString "err"), .str (Str.ofString "err") r10, .ref x10⟩, ⟨PyData.keyHash w.params (Str.ofString "saves"), .str (Str.ofString "saves") r11, .ref x11⟩, ⟨PyData.keyHash w.params (Str.ofString "frames"), .str (Str.ofString "frames") r12, .ref x12⟩, ⟨PyData.keyHash w.params (Str.ofString "match"), .str (Str.ofString "match") r13, .none⟩, ⟨PyData.keyHash w.params (Str.ofString "patterns"), .str (Str.ofString "patterns") r14, .ref x14⟩, ⟨PyData.keyHash w.params (Str.ofString "steps"), .str (Str.ofString "steps") r15, .int 0 q0⟩, ⟨PyData.keyHash w.params (Str.ofString "methods"), .str (Str.ofString "methods") r16, .ref mc⟩, ⟨PyData.keyHash w.params (Str.ofString "call_code"), .str (Str.ofString "call_code") r17, .none⟩, ⟨PyData.keyHash w.params (Str.ofString "compile_text"), .str (Str.ofString "compile_text") r18, .none⟩] nrun) :: (nd, ond) :: (fa, (⟨oca, oda, .func fda, sla⟩ : Obj)) :: (ca2, ocA) :: (tn, (⟨.type "tuple", none, .seq #[.str (Str.ofString "asked") tq], #[]⟩ : Obj)) :: []) → (∀ b o, s.heap.get? b = some o → b ∉ [run, drun, nd, fa, ca2, tn] → h'.get? b = some o) → R (.ok (.ret (.str (Str.ofString "P") t))) { s with heap := h', toks := tk }), codeAny (model PySem.Challenge.rw_qz0130_01.row.prog w) (Around.mk none d (some (envOf cn cs L ca ccd :: outer)) gs u) (.call (.ref 577) ⟨[.ref run, .ref tn], []⟩) R s
def value_in_asked_P (c : EC) : Prop := value_in_asked_S (c.wo 0) (c.ar 0) (c.hp 0) (c.hp 1) (c.le 0) (c.ad 0) (c.mp 0) (c.mp 1) (c.mp 2) (c.en 0) (c.pg 0) (c.ls 0) (c.sh 0) (c.rs 0) (c.sr 0) (c.sc 0) (c.ad 1) (c.va 0) (c.nt 0) (c.nt 1) (c.oc 0) (c.tk 0) (c.tk 1) (c.tk 2) (c.tk 3) (c.tk 4) (c.tk 5) (c.tk 6) (c.tk 7) (c.tk 8) (c.tk 9) (c.tk 10) (c.tk 11) (c.tk 12) (c.tk 13) (c.tk 14) (c.tk 15) (c.tk 16) (c.tk 17) (c.tk 18) (c.tk 19) (c.tk 20) (c.ad 2) (c.ad 3) (c.ad 4) (c.ad 5) (c.ad 6) (c.ad 7) (c.ad 8) (c.ad 9) (c.ad 10) (c.ad 11) (c.ad 12) (c.ad 13) (c.ad 14) (c.ad 15) (c.ad 16) (c.ad 17) (c.ad 18) (c.ad 19) (c.ad 20) (c.ad 21) (c.ad 22) (c.nt 2) (c.ob 0) (c.ob 1) (c.va 1) (c.oa 0) (c.fd 0) (c.av 0)
@[irreducible] noncomputable def value_in_asked_e : EC := @Classical.epsilon EC EC.ne fun c => ¬ value_in_asked_P c
theorem value_in_asked_eq : value_in_asked_e = @Classical.epsilon EC EC.ne fun c => ¬ value_in_asked_P c := by unfold value_in_asked_e; rfl
theorem value_in_asked_m : value_in_asked_P value_in_asked_e := by
  unfold value_in_asked_P value_in_asked_S
  intro B F X₀ N T hke hroom hun lo hnd hA k
  revert X₀
  k_fill
  intro X₀
  refine' code_keepG B F X₀ N T rfl hke ?k6 ?k7 ?k8 ?kn ?k9 ?kB ?_ ?c2 ?c3 ?c4 ?c5
  case k6 => k_is
  case k7 => k_is
  case k8 => k_room
  case k9 => exact BindsTo.of_eq rfl
  case kB => exact locs rfl
  case kn => first | exact (rfl : _ = 1) | exact (rfl : _ = 2) | exact (rfl : _ = 3) | exact (rfl : _ = 4) | exact (rfl : _ = 5) | exact (rfl : _ = 6) | exact (rfl : _ = 7)
  case c2 => exact rfl
  case c3 => exact rfl
  case c4 => exact rfl
  case c5 => decide
  intro h' FG' F' N' B' X' T' hkeep
  clear B F X₀ N T
  (try dsimp only)
  repeat' (first | (k_unfold; (try dsimp only)) | (k_end; wrow_close) | (with_reducible ((with_reducible show wpAny _ _ (callWith _ (Value.ref _) _ _ _) _ _ _); k_dflt (first
  | (refine' callWith_F ?k1 ?_; (case k1 => exact FnAt.of (by k_asm) (by k_mem)); k_whole)
  | (refine' callWith_F0 ?k1 ?_; (case k1 => exact FnAt.of (by k_asm) (by k_mem)); k_whole; try dsimp only [List.nil_append, List.cons_append])))) | ((with_reducible show wpAny _ _ (call (Value.ref _) _ _) _ _ _); k_dflt ((refine wpAny_call ?_); (rename CallsA _ _ _ _ _ => hA9); (refine' hA9 ?fB ?fF ?fX ?fN ?fT ?fk ?fd ?fu ?m1 ?m2 ?_); (case fN => k_asm); (case m1 => k_mem); (case m2 => k_mem); (case fB => k_asm); (case fF => k_asm); (case fX => k_asm); (case fT => k_asm); (case fk => exact rfl); (case fd => ((try simp only [depth_under_make, depth_under_kw, depth_in1, depth_deeper]); (try dsimp only [Around.deeper, Around.in1, Around.mark]); omega)); (case fu => k_units)); intro h'9 tk9 t9 F'9 N'9; (try dsimp only)) | (walk1; (try (with_reducible refine tok3 ?_; intro tk))) | dsimp only | (leave1; (try dsimp only)) | fail "no step")
  all_goals (try dsimp only)
  all_goals (refine' leaveK_ ?k1 ?k2 ?_; (case k1 => assumption); (case k2 => assumption); intro kF kN)
  all_goals (have hkeep' := fun b o e q => Fr.keep (by assumption : Fr (gOf _ _) (LOf _) _ _) b o (hkeep b o e q))
  all_goals (refine k _ _ _ kF (news_sub kN (by k_allIn)) hkeep')
theorem value_in_asked {w : World} {A₀ : Around} {base : Heap} {h₀ : Heap} {outer : List Env} {L : Addr} {m : Str → Option Value} {mg : Str → Option Value} {mb : Str → Option Value} {mean : ExcName → Option Value} {pT : Program} {looseT : List Str} {s : Shared} {R : Result → Shared → Prop} {cn : Str} {cs : Scope} {ca : Addr} {ccd : Value} {d : Nat} {u : Nat} {gs : Option (List Code)} {r0 : Tok} {r1 : Tok} {r2 : Tok} {r3 : Tok} {r4 : Tok} {r5 : Tok} {r6 : Tok} {r7 : Tok} {r8 : Tok} {r9 : Tok} {r10 : Tok} {r11 : Tok} {r12 : Tok} {r13 : Tok} {r14 : Tok} {r15 : Tok} {r16 : Tok} {r17 : Tok} {r18 : Tok} {q0 : Tok} {tq : Tok} {run : Addr} {drun : Addr} {hp : Addr} {ct : Addr} {st : Addr} {lm : Addr} {nd : Addr} {mc : Addr} {fs : Addr} {fa : Addr} {ca2 : Addr} {tn : Addr} {x5 : Addr} {x6 : Addr} {x7 : Addr} {x8 : Addr} {x9 : Addr} {x10 : Addr} {x11 : Addr} {x12 : Addr} {x14 : Addr} {nrun : Nat} {ocA : Obj} {ond : Obj} {oca : Value} {oda : Option Addr} {fda : FuncData} {sla : Array (Option Value)} : value_in_asked_S w A₀ base h₀ outer L m mg mb mean pT looseT s R cn cs ca ccd d u gs r0 r1 r2 r3 r4 r5 r6 r7 r8 r9 r10 r11 r12 r13 r14 r15 r16 r17 r18 q0 tq run drun hp ct st lm nd mc fs fa ca2 tn x5 x6 x7 x8 x9 x10 x11 x12 x14 nrun ocA ond oca oda fda sla := @ec_all value_in_asked_P (value_in_asked_eq ▸ value_in_asked_m) { wo := fun n => [w].getD n (aWorld 1), ar := fun n => [A₀].getD n (callerA), hp := fun n => [base, h₀].getD n (default), le := fun n => [outer].getD n ([]), ad := fun n => [L, ca, run, drun, hp, ct, st, lm, nd, mc, fs, fa, ca2, tn, x5, x6, x7, x8, x9, x10, x11, x12, x14].getD n (0), mp := fun n => [m, mg, mb].getD n (fun _ => none), en := fun n => [mean].getD n (fun _ => none), pg := fun n => [pT].getD n (default), ls := fun n => [looseT].getD n ([]), sh := fun n => [s].getD n ⟨default, #[], {}, 0, {}⟩, rs := fun n => [R].getD n (fun _ _ => True), sr := fun n => [cn].getD n (default), sc := fun n => [cs].getD n (default), va := fun n => [ccd, oca].getD n (.none), nt := fun n => [d, u, nrun].getD n (0), oc := fun n => [gs].getD n (none), tk := fun n => [r0, r1, r2, r3, r4, r5, r6, r7, r8, r9, r10, r11, r12, r13, r14, r15, r16, r17, r18, q0, tq].getD n (0), ob := fun n => [ocA, ond].getD n (default), iz := fun _ => (0), lv := fun _ => ([]), ll := fun _ => ([]), oa := fun n => [oda].getD n (none), fd := fun n => [fda].getD n (default), av := fun n => [sla].getD n (#[]), li := fun _ => ([]), aw := fun _ => (#[]), ev := fun _ => (default) }
theorem value_in_asked_use {w : World} {A₀ : Around} {base h₀ : Heap} {outer : List Env} {L : Addr} {m mg mb : Str → Option Value} {mean : ExcName → Option Value} {pT : Program} {looseT : List Str} {s : Shared} {R : Result → Shared → Prop}
    {cn : Str} {cs : Scope} {ca : Addr} {ccd : Value} {d u : Nat} {gs : Option (List Code)}
    {r0 r1 r2 r3 r4 r5 r6 r7 r8 r9 r10 r11 r12 r13 r14 r15 r16 r17 r18 q0 tq : Tok} {run drun hp ct st lm nd mc fs fa ca2 tn x5 x6 x7 x8 x9 x10 x11 x12 x14 : Addr} {nrun : Nat} {ocA ond : Obj} {oca : Value} {oda : Option Addr} {fda : FuncData} {sla : Array (Option Value)} {full : List (Addr × Obj)}
    (B : Below A₀ base outer h₀) (F : Fr h₀ L s.heap m) (X₀ : (hd.heap_1 w.params).In h₀) (N : News h₀ L s.heap full) (T : Top pT looseT mean mg mb h₀)
    (hke : cs.kind = .function) (hroom : d < 600) (hun : u < 1000)
    (lo : (nd == sysModules) = false) (hnd : ond.IsDictOf (strKind PySem.Challenge.rw_qz0130_01.row.prog w) [(Str.ofString "some", .ref fs), (Str.ofString "asked", .ref fa)]) (hA : CallsA w fa ca2 ⟨oca, oda, .func fda, sla⟩ ocA) (hsub : ∀ p ∈ ((run, (⟨.ref 559, some drun, .plain, #[]⟩ : Obj)) :: (drun, dictOf [⟨PyData.keyHash w.params (Str.ofString "heap"), .str (Str.ofString "heap") r0, .ref hp⟩, ⟨PyData.keyHash w.params (Str.ofString "counter"), .str (Str.ofString "counter") r1, .ref ct⟩, ⟨PyData.keyHash w.params (Str.ofString "stash"), .str (Str.ofString "stash") r2, .ref st⟩, ⟨PyData.keyHash w.params (Str.ofString "limits"), .str (Str.ofString "limits") r3, .ref lm⟩, ⟨PyData.keyHash w.params (Str.ofString "nodes"), .str (Str.ofString "nodes") r4, .ref nd⟩, ⟨PyData.keyHash w.params (Str.ofString "lvs"), .str (Str.ofString "lvs") r5, .ref x5⟩, ⟨PyData.keyHash w.params (Str.ofString "statements"), .str (Str.ofString "statements") r6, .ref x6⟩, ⟨PyData.keyHash w.params (Str.ofString "funcs"), .str (Str.ofString "funcs") r7, .ref x7⟩, ⟨PyData.keyHash w.params (Str.ofString "operators"), .str (Str.ofString "operators") r8, .ref x8⟩, ⟨PyData.keyHash w.params (Str.ofString "out"), .str (Str.ofString "out") r9, .ref x9⟩, ⟨PyData.keyHash w.params (Str.ofString "err"), .str (Str.ofString "err") r10, .ref x10⟩, ⟨PyData.keyHash w.params (Str.ofString "saves"), .str (Str.ofString "saves") r11, .ref x11⟩, ⟨PyData.keyHash w.params (Str.ofString "frames"), .str (Str.ofString "frames") r12, .ref x12⟩, ⟨PyData.keyHash w.params (Str.ofString "match"), .str (Str.ofString "match") r13, .none⟩, ⟨PyData.keyHash w.params (Str.ofString "patterns"), .str (Str.ofString "patterns") r14, .ref x14⟩, ⟨PyData.keyHash w.params (Str.ofString "steps"), .str (Str.ofString "steps") r15, .int 0 q0⟩, ⟨PyData.keyHash w.params (Str.ofString "methods"), .str (Str.ofString "methods") r16, .ref mc⟩, ⟨PyData.keyHash w.params (Str.ofString "call_code"), .str (Str.ofString "call_code") r17, .none⟩, ⟨PyData.keyHash w.params (Str.ofString "compile_text"), .str (Str.ofString "compile_text") r18, .none⟩] nrun) :: (nd, ond) :: (fa, (⟨oca, oda, .func fda, sla⟩ : Obj)) :: (ca2, ocA) :: (tn, (⟨.type "tuple", none, .seq #[.str (Str.ofString "asked") tq], #[]⟩ : Obj)) :: []), p ∈ full)
    (k : ∀ h' tk t, Fr h₀ L h' m → News h₀ L h' full → R (.ok (.ret (.str (Str.ofString "P") t))) { s with heap := h', toks := tk }) :
    codeAny (model PySem.Challenge.rw_qz0130_01.row.prog w) (Around.mk none d (some (envOf cn cs L ca ccd :: outer)) gs u) (.call (.ref 577) ⟨[.ref run, .ref tn], []⟩) R s :=
  value_in_asked B F X₀ (news_sub N hsub) T hke hroom hun lo hnd hA fun h' tk t F' N' K => k h' tk t F' (news_all N (keep_all (news_sub N hsub) N' K))
end
section
def listed_some_S (w : World) (A₀ : Around) (base : Heap) (h₀ : Heap) (outer : List Env) (L : Addr) (m : Str → Option Value) (mg : Str → Option Value) (mb : Str → Option Value) (mean : ExcName → Option Value) (pT : Program) (looseT : List Str) (s : Shared) (R : Result → Shared → Prop) (cn : Str) (cs : Scope) (ca : Addr) (ccd : Value) (d : Nat) (u : Nat) (gs : Option (List Code)) (r0 : Tok) (r1 : Tok) (r2 : Tok) (r3 : Tok) (r4 : Tok) (r5 : Tok) (r6 : Tok) (r7 : Tok) (r8 : Tok) (r9 : Tok) (r10 : Tok) (r11 : Tok) (r12 : Tok) (r13 : Tok) (r14 : Tok) (r15 : Tok) (r16 : Tok) (r17 : Tok) (r18 : Tok) (q0 : Tok) (tq : Tok) (run : Addr) (drun : Addr) (hp : Addr) (ct : Addr) (st : Addr) (lm : Addr) (nd : Addr) (mc : Addr) (fs : Addr) (fa : Addr) (ca1 : Addr) (tn : Addr) (vl : Addr) (x5 : Addr) (x6 : Addr) (x7 : Addr) (x8 : Addr) (x9 : Addr) (x10 : Addr) (x11 : Addr) (x12 : Addr) (x14 : Addr) (nrun : Nat) (n0 : Nat) (vs : List Value) (ocS : Obj) (ond : Obj) (oz : Obj) (z : Addr) (ocs : Value) (ods : Option Addr) (fds : FuncData) (sls : Array (Option Value)) : Prop := ∀ (B : Below A₀ base outer h₀) (F : Fr h₀ L s.heap m) (X₀ : (hd.heap_1 w.params).In h₀) (N : News h₀ L s.heap ((run, (⟨.ref 559, some drun, .plain, #[]⟩ : Obj)) :: (drun, dictOf [⟨PyData.keyHash w.params (Str.ofString "heap"), .str (Str.ofString "heap") r0, .ref hp⟩, ⟨PyData.keyHash w.params (Str.ofString "counter"), .str (Str.ofString "counter") r1, .ref ct⟩, ⟨PyData.keyHash w.params (Str.ofString "stash"), .str (Str.ofString "stash") r2, .ref st⟩, ⟨PyData.keyHash w.params (Str.ofString "limits"), .str (Str.ofString "limits") r3, .ref lm⟩, ⟨PyData.keyHash w.params (Str.ofString "nodes"), .str (Str.ofString "nodes") r4, .ref nd⟩, ⟨PyData.keyHash w.params (Str.ofString "lvs"), .str (Str.ofString "lvs") r5, .ref x5⟩, ⟨PyData.keyHash w.params (Str.ofString "statements"), .str (Str.ofString "statements") r6, .ref x6⟩, ⟨PyData.keyHash w.params (Str.ofString "funcs"), .str (Str.ofString "funcs") r7, .ref x7⟩, ⟨PyData.keyHash w.params (Str.ofString "operators"), .str (Str.ofString "operators") r8, .ref x8⟩, ⟨PyData.keyHash w.params (Str.ofString "out"), .str (Str.ofString "out") r9, .ref x9⟩, ⟨PyData.keyHash w.params (Str.ofString "err"), .str (Str.ofString "err") r10, .ref x10⟩, ⟨PyData.keyHash w.params (Str.ofString "saves"), .str (Str.ofString "saves") r11, .ref x11⟩, ⟨PyData.keyHash w.params (Str.ofString "frames"), .str (Str.ofString "frames") r12, .ref x12⟩, ⟨PyData.keyHash w.params (Str.ofString "match"), .str (Str.ofString "match") r13, .none⟩, ⟨PyData.keyHash w.params (Str.ofString "patterns"), .str (Str.ofString "patterns") r14, .ref x14⟩, ⟨PyData.keyHash w.params (Str.ofString "steps"), .str (Str.ofString "steps") r15, .int 0 q0⟩, ⟨PyData.keyHash w.params (Str.ofString "methods"), .str (Str.ofString "methods") r16, .ref mc⟩, ⟨PyData.keyHash w.params (Str.ofString "call_code"), .str (Str.ofString "call_code") r17, .none⟩, ⟨PyData.keyHash w.params (Str.ofString "compile_text"), .str (Str.ofString "compile_text") r18, .none⟩] nrun) :: (nd, ond) :: (fs, (⟨ocs, ods, .func fds, sls⟩ : Obj)) :: (ca1, ocS) :: (tn, (⟨.type "tuple", none, .seq #[.str (Str.ofString "some") tq, .ref vl], #[]⟩ : Obj)) :: (vl, listOf vs.toArray n0) :: (z, oz) :: [])) (T : Top pT looseT mean mg mb h₀) (hke : cs.kind = .function) (hroom : d < 600) (hun : u < 1000) (lo : (nd == sysModules) = false) (hnd : ond.IsDictOf (strKind PySem.Challenge.rw_qz0130_01.row.prog w) [(Str.ofString "some", .ref fs), (Str.ofString "asked", .ref fa)]) (hlen : vs.length ≤ 10) (hS : CallsS w fs ca1 ⟨ocs, ods, .func fds, sls⟩ ocS) (k : ∀ l h' tk n', Fr h₀ L h' m → News h₀ L h' ((l, listOf vs.toArray n') :: ((run, (⟨.ref 559, some drun, .plain, #[]⟩ : Obj)) :: (drun, dictOf [⟨PyData.keyHash w.params (Str.ofString "heap"), .str (Str.ofString "heap") r0, .ref hp⟩, ⟨PyData.keyHash w.params (Str.ofString "counter"), .str (Str.ofString "counter") r1, .ref ct⟩, ⟨PyData.keyHash w.params (Str.ofString "stash"), .str (Str.ofString "stash") r2, .ref st⟩, ⟨PyData.keyHash w.params (Str.ofString "limits"), .str (Str.ofString "limits") r3, .ref lm⟩, ⟨PyData.keyHash w.params (Str.ofString "nodes"), .str (Str.ofString "nodes") r4, .ref nd⟩, ⟨PyData.keyHash w.params (Str.ofString "lvs"), .str (Str.ofString "lvs") r5, .ref x5⟩, ⟨PyData.keyHash w.params (Str.ofString "statements"), .str (Str.ofString "statements") r6, .ref x6⟩, ⟨PyData.keyHash w.params (Str.ofString "funcs"), .str (Str.ofString "funcs") r7, .ref x7⟩, ⟨PyData.keyHash w.params (Str.ofString "operators"), .str (Str.ofString "operators") r8, .ref x8⟩, ⟨PyData.keyHash w.params (Str.ofString "out"), .str (Str.ofString "out") r9, .ref x9⟩, ⟨PyData.keyHash w.params (Str.ofString "err"), .str (Str.ofString "err") r10, .ref x10⟩, ⟨PyData.keyHash w.params (Str.ofString "saves"), .str (Str.ofString "saves") r11, .ref x11⟩, ⟨PyData.keyHash w.params (Str.ofString "frames"), .str (Str.ofString "frames") r12, .ref x12⟩, ⟨PyData.keyHash w.params (Str.ofString "match"), .str (Str.ofString "match") r13, .none⟩, ⟨PyData.keyHash w.params (Str.ofString "patterns"), .str (Str.ofString "patterns") r14, .ref x14⟩, ⟨PyData.keyHash w.params (Str.ofString "steps"), .str (Str.ofString "steps") r15, .int 0 q0⟩, ⟨PyData.keyHash w.params (Str.ofString "methods"), .str (Str.ofString "methods") r16, .ref mc⟩, ⟨PyData.keyHash w.params (Str.ofString "call_code"), .str (Str.ofString "call_code") r17, .none⟩, ⟨PyData.keyHash w.params (Str.ofString "compile_text"), .str (Str.ofString "compile_text") r18, .none⟩] nrun) :: (nd, ond) :: (fs, (⟨ocs, ods, .func fds, sls⟩ : Obj)) :: (ca1, ocS) :: (tn, (⟨.type "tuple", none, .seq #[.str (Str.ofString "some") tq, .ref vl], #[]⟩ : Obj)) :: (vl, listOf vs.toArray n0) :: (z, oz) :: [])) → (∀ b o, s.heap.get? b = some o → b ∉ [run, drun, nd, fs, ca1, tn, vl, z] → h'.get? b = some o) → @LT.lt Nat _ z l → R (.ok (.ret (.ref l))) { s with heap := h', toks := tk }), codeAny (model PySem.Challenge.rw_qz0130_01.row.prog w) (Around.mk none d (some (envOf cn cs L ca ccd :: outer)) gs u) (.call (.ref 605) ⟨[.ref run, .ref tn], []⟩) R s
def listed_some_P (c : EC) : Prop := ∀ (vs : List Value), listed_some_S (c.wo 0) (c.ar 0) (c.hp 0) (c.hp 1) (c.le 0) (c.ad 0) (c.mp 0) (c.mp 1) (c.mp 2) (c.en 0) (c.pg 0) (c.ls 0) (c.sh 0) (c.rs 0) (c.sr 0) (c.sc 0) (c.ad 1) (c.va 0) (c.nt 0) (c.nt 1) (c.oc 0) (c.tk 0) (c.tk 1) (c.tk 2) (c.tk 3) (c.tk 4) (c.tk 5) (c.tk 6) (c.tk 7) (c.tk 8) (c.tk 9) (c.tk 10) (c.tk 11) (c.tk 12) (c.tk 13) (c.tk 14) (c.tk 15) (c.tk 16) (c.tk 17) (c.tk 18) (c.tk 19) (c.tk 20) (c.ad 2) (c.ad 3) (c.ad 4) (c.ad 5) (c.ad 6) (c.ad 7) (c.ad 8) (c.ad 9) (c.ad 10) (c.ad 11) (c.ad 12) (c.ad 13) (c.ad 14) (c.ad 15) (c.ad 16) (c.ad 17) (c.ad 18) (c.ad 19) (c.ad 20) (c.ad 21) (c.ad 22) (c.ad 23) (c.nt 2) (c.nt 3) vs (c.ob 0) (c.ob 1) (c.ob 2) (c.ad 24) (c.va 1) (c.oa 0) (c.fd 0) (c.av 0)
@[irreducible] noncomputable def listed_some_e : EC := @Classical.epsilon EC EC.ne fun c => ¬ listed_some_P c
theorem listed_some_eq : listed_some_e = @Classical.epsilon EC EC.ne fun c => ¬ listed_some_P c := by unfold listed_some_e; rfl
theorem listed_some_m : listed_some_P listed_some_e := by
  unfold listed_some_P listed_some_S
  intro vs B F X₀ N T hke hroom hun lo hnd hlen hS k
  revert X₀
  k_fill
  intro X₀
  refine' code_keepG B F X₀ N T rfl hke ?k6 ?k7 ?k8 ?kn ?k9 ?kB ?_ ?c2 ?c3 ?c4 ?c5
  case k6 => k_is
  case k7 => k_is
  case k8 => k_room
  case k9 => exact BindsTo.of_eq rfl
  case kB => exact locs rfl
  case kn => first | exact (rfl : _ = 1) | exact (rfl : _ = 2) | exact (rfl : _ = 3) | exact (rfl : _ = 4) | exact (rfl : _ = 5) | exact (rfl : _ = 6) | exact (rfl : _ = 7)
  case c2 => exact rfl
  case c3 => exact rfl
  case c4 => exact rfl
  case c5 => decide
  intro h' FG' F' N' B' X' T' hkeep
  clear B F X₀ N T
  (try dsimp only)
  repeat' (first | (k_unfold; (try dsimp only)) | (k_end; wrow_close) | (with_reducible ((with_reducible show wpAny _ _ (callWith _ (Value.ref _) _ _ _) _ _ _); k_dflt (first
  | (refine' callWith_F ?k1 ?_; (case k1 => exact FnAt.of (by k_asm) (by k_mem)); k_whole)
  | (refine' callWith_F0 ?k1 ?_; (case k1 => exact FnAt.of (by k_asm) (by k_mem)); k_whole; try dsimp only [List.nil_append, List.cons_append])))) | (with_reducible ((with_reducible show wpAny _ _ (compareOp CmpOp.NotEq (Value.ref _) (Value.ref _)) _ _ _); k_dflt (first | (refine' ne_nils ?k1q ?k2q ?k3q ?k4q ?_; (case k1q => k_asm); (case k2q => k_mem); (case k3q => k_mem); (case k4q => k_units); k_whole) | (refine' ne_lens ?k1q ?k2q ?k3q ?k4q ?k5q ?_; (case k1q => k_asm); (case k2q => k_mem); (case k3q => k_mem); (case k4q => exact rfl); (case k5q => k_units); k_whole)))) | ((with_reducible show wpAny _ _ (call (Value.ref _) _ _) _ _ _); k_dflt ((refine wpAny_call ?_); (rename CallsS _ _ _ _ _ => hS9); (refine' hS9 ?fB ?fF ?fX ?fN ?fT ?fk ?fd ?fu ?m1 ?m2 ?m3 ?m4 ?m5 ?_); (case fN => k_asm); (case m1 => k_mem); (case m2 => k_mem); (case m3 => k_mem); (case m4 => k_mem); (case m5 => omega); (case fB => k_asm); (case fF => k_asm); (case fX => k_asm); (case fT => k_asm); (case fk => exact rfl); (case fd => ((try simp only [depth_under_make, depth_under_kw, depth_in1, depth_deeper]); (try dsimp only [Around.deeper, Around.in1, Around.mark]); omega)); (case fu => k_units)); intro l'9 h'9 tk9 n'9 F'9 N'9 l19; (try k_lt l19); (try dsimp only)) | (walk1; (try (with_reducible refine tok3 ?_; intro tk))) | dsimp only | (leave1; (try dsimp only)) | fail "no step")
  all_goals (try dsimp only)
  all_goals (refine' leaveK_ ?k1 ?k2 ?_; (case k1 => assumption); (case k2 => assumption); intro kF kN)
  all_goals (have hkeep' := fun b o e q => Fr.keep (by assumption : Fr (gOf _ _) (LOf _) _ _) b o (hkeep b o e q))
  all_goals (refine k _ _ _ _ kF (news_sub kN (by k_allIn)) hkeep' (lt_all (by with_reducible assumption) (by k_mem)))
theorem listed_some {w : World} {A₀ : Around} {base : Heap} {h₀ : Heap} {outer : List Env} {L : Addr} {m : Str → Option Value} {mg : Str → Option Value} {mb : Str → Option Value} {mean : ExcName → Option Value} {pT : Program} {looseT : List Str} {s : Shared} {R : Result → Shared → Prop} {cn : Str} {cs : Scope} {ca : Addr} {ccd : Value} {d : Nat} {u : Nat} {gs : Option (List Code)} {r0 : Tok} {r1 : Tok} {r2 : Tok} {r3 : Tok} {r4 : Tok} {r5 : Tok} {r6 : Tok} {r7 : Tok} {r8 : Tok} {r9 : Tok} {r10 : Tok} {r11 : Tok} {r12 : Tok} {r13 : Tok} {r14 : Tok} {r15 : Tok} {r16 : Tok} {r17 : Tok} {r18 : Tok} {q0 : Tok} {tq : Tok} {run : Addr} {drun : Addr} {hp : Addr} {ct : Addr} {st : Addr} {lm : Addr} {nd : Addr} {mc : Addr} {fs : Addr} {fa : Addr} {ca1 : Addr} {tn : Addr} {vl : Addr} {x5 : Addr} {x6 : Addr} {x7 : Addr} {x8 : Addr} {x9 : Addr} {x10 : Addr} {x11 : Addr} {x12 : Addr} {x14 : Addr} {nrun : Nat} {n0 : Nat} {vs : List Value} {ocS : Obj} {ond : Obj} {oz : Obj} {z : Addr} {ocs : Value} {ods : Option Addr} {fds : FuncData} {sls : Array (Option Value)} : listed_some_S w A₀ base h₀ outer L m mg mb mean pT looseT s R cn cs ca ccd d u gs r0 r1 r2 r3 r4 r5 r6 r7 r8 r9 r10 r11 r12 r13 r14 r15 r16 r17 r18 q0 tq run drun hp ct st lm nd mc fs fa ca1 tn vl x5 x6 x7 x8 x9 x10 x11 x12 x14 nrun n0 vs ocS ond oz z ocs ods fds sls := @ec_all listed_some_P (listed_some_eq ▸ listed_some_m) { wo := fun n => [w].getD n (aWorld 1), ar := fun n => [A₀].getD n (callerA), hp := fun n => [base, h₀].getD n (default), le := fun n => [outer].getD n ([]), ad := fun n => [L, ca, run, drun, hp, ct, st, lm, nd, mc, fs, fa, ca1, tn, vl, x5, x6, x7, x8, x9, x10, x11, x12, x14, z].getD n (0), mp := fun n => [m, mg, mb].getD n (fun _ => none), en := fun n => [mean].getD n (fun _ => none), pg := fun n => [pT].getD n (default), ls := fun n => [looseT].getD n ([]), sh := fun n => [s].getD n ⟨default, #[], {}, 0, {}⟩, rs := fun n => [R].getD n (fun _ _ => True), sr := fun n => [cn].getD n (default), sc := fun n => [cs].getD n (default), va := fun n => [ccd, ocs].getD n (.none), nt := fun n => [d, u, nrun, n0].getD n (0), oc := fun n => [gs].getD n (none), tk := fun n => [r0, r1, r2, r3, r4, r5, r6, r7, r8, r9, r10, r11, r12, r13, r14, r15, r16, r17, r18, q0, tq].getD n (0), ob := fun n => [ocS, ond, oz].getD n (default), iz := fun _ => (0), lv := fun _ => ([]), ll := fun _ => ([]), oa := fun n => [ods].getD n (none), fd := fun n => [fds].getD n (default), av := fun n => [sls].getD n (#[]), li := fun _ => ([]), aw := fun _ => (#[]), ev := fun _ => (default) } vs
theorem listed_some_use {w : World} {A₀ : Around} {base h₀ : Heap} {outer : List Env} {L : Addr} {m mg mb : Str → Option Value} {mean : ExcName → Option Value} {pT : Program} {looseT : List Str} {s : Shared} {R : Result → Shared → Prop}
    {cn : Str} {cs : Scope} {ca : Addr} {ccd : Value} {d u : Nat} {gs : Option (List Code)}
    {r0 r1 r2 r3 r4 r5 r6 r7 r8 r9 r10 r11 r12 r13 r14 r15 r16 r17 r18 q0 tq : Tok} {run drun hp ct st lm nd mc fs fa ca1 tn vl x5 x6 x7 x8 x9 x10 x11 x12 x14 : Addr} {nrun n0 : Nat} {vs : List Value} {ocS ond oz : Obj} {z : Addr} {ocs : Value} {ods : Option Addr} {fds : FuncData} {sls : Array (Option Value)} {full : List (Addr × Obj)}
    (B : Below A₀ base outer h₀) (F : Fr h₀ L s.heap m) (X₀ : (hd.heap_1 w.params).In h₀) (N : News h₀ L s.heap full) (T : Top pT looseT mean mg mb h₀)
    (hke : cs.kind = .function) (hroom : d < 600) (hun : u < 1000)
    (lo : (nd == sysModules) = false) (hnd : ond.IsDictOf (strKind PySem.Challenge.rw_qz0130_01.row.prog w) [(Str.ofString "some", .ref fs), (Str.ofString "asked", .ref fa)]) (hlen : vs.length ≤ 10) (hS : CallsS w fs ca1 ⟨ocs, ods, .func fds, sls⟩ ocS) (hz : ∀ p ∈ full, @LE.le Nat _ p.1 z) (hsub : ∀ p ∈ ((run, (⟨.ref 559, some drun, .plain, #[]⟩ : Obj)) :: (drun, dictOf [⟨PyData.keyHash w.params (Str.ofString "heap"), .str (Str.ofString "heap") r0, .ref hp⟩, ⟨PyData.keyHash w.params (Str.ofString "counter"), .str (Str.ofString "counter") r1, .ref ct⟩, ⟨PyData.keyHash w.params (Str.ofString "stash"), .str (Str.ofString "stash") r2, .ref st⟩, ⟨PyData.keyHash w.params (Str.ofString "limits"), .str (Str.ofString "limits") r3, .ref lm⟩, ⟨PyData.keyHash w.params (Str.ofString "nodes"), .str (Str.ofString "nodes") r4, .ref nd⟩, ⟨PyData.keyHash w.params (Str.ofString "lvs"), .str (Str.ofString "lvs") r5, .ref x5⟩, ⟨PyData.keyHash w.params (Str.ofString "statements"), .str (Str.ofString "statements") r6, .ref x6⟩, ⟨PyData.keyHash w.params (Str.ofString "funcs"), .str (Str.ofString "funcs") r7, .ref x7⟩, ⟨PyData.keyHash w.params (Str.ofString "operators"), .str (Str.ofString "operators") r8, .ref x8⟩, ⟨PyData.keyHash w.params (Str.ofString "out"), .str (Str.ofString "out") r9, .ref x9⟩, ⟨PyData.keyHash w.params (Str.ofString "err"), .str (Str.ofString "err") r10, .ref x10⟩, ⟨PyData.keyHash w.params (Str.ofString "saves"), .str (Str.ofString "saves") r11, .ref x11⟩, ⟨PyData.keyHash w.params (Str.ofString "frames"), .str (Str.ofString "frames") r12, .ref x12⟩, ⟨PyData.keyHash w.params (Str.ofString "match"), .str (Str.ofString "match") r13, .none⟩, ⟨PyData.keyHash w.params (Str.ofString "patterns"), .str (Str.ofString "patterns") r14, .ref x14⟩, ⟨PyData.keyHash w.params (Str.ofString "steps"), .str (Str.ofString "steps") r15, .int 0 q0⟩, ⟨PyData.keyHash w.params (Str.ofString "methods"), .str (Str.ofString "methods") r16, .ref mc⟩, ⟨PyData.keyHash w.params (Str.ofString "call_code"), .str (Str.ofString "call_code") r17, .none⟩, ⟨PyData.keyHash w.params (Str.ofString "compile_text"), .str (Str.ofString "compile_text") r18, .none⟩] nrun) :: (nd, ond) :: (fs, (⟨ocs, ods, .func fds, sls⟩ : Obj)) :: (ca1, ocS) :: (tn, (⟨.type "tuple", none, .seq #[.str (Str.ofString "some") tq, .ref vl], #[]⟩ : Obj)) :: (vl, listOf vs.toArray n0) :: (z, oz) :: []), p ∈ full)
    (k : ∀ l h' tk n', Fr h₀ L h' m → News h₀ L h' ((l, listOf vs.toArray n') :: full) → (∀ p ∈ full, p.1 < l) → R (.ok (.ret (.ref l))) { s with heap := h', toks := tk }) :
    codeAny (model PySem.Challenge.rw_qz0130_01.row.prog w) (Around.mk none d (some (envOf cn cs L ca ccd :: outer)) gs u) (.call (.ref 605) ⟨[.ref run, .ref tn], []⟩) R s :=
  listed_some B F X₀ (news_sub N hsub) T hke hroom hun lo hnd hlen hS fun l h' tk n' F' N' K l1 => k l h' tk n' F' (news_two (a := [(l, listOf vs.toArray n')]) (fun p hp => N' p (by rw [List.mem_singleton.mp hp]; exact .head _)) (news_all N (keep_all (news_sub N hsub) (fun p hp => N' p (.tail _ hp)) K))) fun p hp => Nat.lt_of_le_of_lt (hz p hp) l1
end
section
def call_code_went_S (w : World) (A₀ : Around) (base : Heap) (h₀ : Heap) (outer : List Env) (L : Addr) (m : Str → Option Value) (mg : Str → Option Value) (mb : Str → Option Value) (mean : ExcName → Option Value) (pT : Program) (looseT : List Str) (s : Shared) (R : Result → Shared → Prop) (cn : Str) (cs : Scope) (ca : Addr) (ccd : Value) (d : Nat) (u : Nat) (gs : Option (List Code)) (r0 : Tok) (r1 : Tok) (r2 : Tok) (r3 : Tok) (r4 : Tok) (r5 : Tok) (r6 : Tok) (r7 : Tok) (r8 : Tok) (r9 : Tok) (r10 : Tok) (r11 : Tok) (r12 : Tok) (r13 : Tok) (r14 : Tok) (r15 : Tok) (r16 : Tok) (r17 : Tok) (r18 : Tok) (q0 : Tok) (tw : Tok) (coa : Tok) (cob : Tok) (coc : Tok) (cod : Tok) (coe : Tok) (cof : Tok) (cog : Tok) (coh : Tok) (coi : Tok) (coj : Tok) (cok : Tok) (con1 : Tok) (con2 : Tok) (run : Addr) (drun : Addr) (hp : Addr) (ct : Addr) (st : Addr) (lm : Addr) (nd : Addr) (mc : Addr) (cd : Addr) (dcd : Addr) (cap : Addr) (cow : Addr) (fw : Addr) (ca3 : Addr) (ce : Addr) (he : Addr) (ml : Addr) (x5 : Addr) (x6 : Addr) (x7 : Addr) (x8 : Addr) (x9 : Addr) (x10 : Addr) (x11 : Addr) (x12 : Addr) (x14 : Addr) (nrun : Nat) (ncd : Nat) (nh : Nat) (nm : Nat) (con : Int) (con0 : Int) (vs : List Value) (hs : List Value) (ocW : Obj) (oce : Obj) (ocw : Value) (odw : Option Addr) (fdw : FuncData) (slw : Array (Option Value)) : Prop := ∀ (B : Below A₀ base outer h₀) (F : Fr h₀ L s.heap m) (X₀ : (hd.heap_1 w.params).In h₀) (N : News h₀ L s.heap ((run, (⟨.ref 559, some drun, .plain, #[]⟩ : Obj)) :: (drun, dictOf [⟨PyData.keyHash w.params (Str.ofString "heap"), .str (Str.ofString "heap") r0, .ref hp⟩, ⟨PyData.keyHash w.params (Str.ofString "counter"), .str (Str.ofString "counter") r1, .ref ct⟩, ⟨PyData.keyHash w.params (Str.ofString "stash"), .str (Str.ofString "stash") r2, .ref st⟩, ⟨PyData.keyHash w.params (Str.ofString "limits"), .str (Str.ofString "limits") r3, .ref lm⟩, ⟨PyData.keyHash w.params (Str.ofString "nodes"), .str (Str.ofString "nodes") r4, .ref nd⟩, ⟨PyData.keyHash w.params (Str.ofString "lvs"), .str (Str.ofString "lvs") r5, .ref x5⟩, ⟨PyData.keyHash w.params (Str.ofString "statements"), .str (Str.ofString "statements") r6, .ref x6⟩, ⟨PyData.keyHash w.params (Str.ofString "funcs"), .str (Str.ofString "funcs") r7, .ref x7⟩, ⟨PyData.keyHash w.params (Str.ofString "operators"), .str (Str.ofString "operators") r8, .ref x8⟩, ⟨PyData.keyHash w.params (Str.ofString "out"), .str (Str.ofString "out") r9, .ref x9⟩, ⟨PyData.keyHash w.params (Str.ofString "err"), .str (Str.ofString "err") r10, .ref x10⟩, ⟨PyData.keyHash w.params (Str.ofString "saves"), .str (Str.ofString "saves") r11, .ref x11⟩, ⟨PyData.keyHash w.params (Str.ofString "frames"), .str (Str.ofString "frames") r12, .ref x12⟩, ⟨PyData.keyHash w.params (Str.ofString "match"), .str (Str.ofString "match") r13, .none⟩, ⟨PyData.keyHash w.params (Str.ofString "patterns"), .str (Str.ofString "patterns") r14, .ref x14⟩, ⟨PyData.keyHash w.params (Str.ofString "steps"), .str (Str.ofString "steps") r15, .int 0 q0⟩, ⟨PyData.keyHash w.params (Str.ofString "methods"), .str (Str.ofString "methods") r16, .ref mc⟩, ⟨PyData.keyHash w.params (Str.ofString "call_code"), .str (Str.ofString "call_code") r17, .none⟩, ⟨PyData.keyHash w.params (Str.ofString "compile_text"), .str (Str.ofString "compile_text") r18, .none⟩] nrun) :: (cd, (⟨.ref 123, some dcd, .plain, #[]⟩ : Obj)) :: (dcd, dictOf [⟨PyData.keyHash w.params (Str.ofString "number"), .str (Str.ofString "number") coa, .int con0 cob⟩, ⟨PyData.keyHash w.params (Str.ofString "count"), .str (Str.ofString "count") coc, .int con cod⟩, ⟨PyData.keyHash w.params (Str.ofString "blessed"), .str (Str.ofString "blessed") coe, .none⟩, ⟨PyData.keyHash w.params (Str.ofString "weak"), .str (Str.ofString "weak") cof, .ref cow⟩, ⟨PyData.keyHash w.params (Str.ofString "is_destroyed"), .str (Str.ofString "is_destroyed") cog, .bool false⟩, ⟨PyData.keyHash w.params (Str.ofString "is_freed"), .str (Str.ofString "is_freed") coh, .bool false⟩, ⟨PyData.keyHash w.params (Str.ofString "sub"), .str (Str.ofString "sub") coi, .none⟩, ⟨PyData.keyHash w.params (Str.ofString "captures"), .str (Str.ofString "captures") coj, .ref cap⟩, ⟨PyData.keyHash w.params (Str.ofString "builtin"), .str (Str.ofString "builtin") cok, .ref fw⟩, ⟨PyData.keyHash w.params (Str.ofString "package"), .str (Str.ofString "package") con1, .str (Str.ofString "main") con2⟩] ncd) :: (fw, (⟨ocw, odw, .func fdw, slw⟩ : Obj)) :: (ca3, ocW) :: (ce, oce) :: (he, listOf hs.toArray nh) :: (ml, listOf vs.toArray nm) :: [])) (T : Top pT looseT mean mg mb h₀) (hke : cs.kind = .function) (hroom : d < 600) (hun : u < 1000) (hlen : vs.length ≤ 10) (hhs : hs.length ≤ 10) (hW : CallsW w fw ca3 ce he ⟨ocw, odw, .func fdw, slw⟩ ocW oce) (o1 : @Ne Nat run he) (o2 : @Ne Nat drun he) (o3 : @Ne Nat cd he) (o4 : @Ne Nat dcd he) (o5 : @Ne Nat fw he) (o6 : @Ne Nat ca3 he) (o7 : @Ne Nat ce he) (o8 : @Ne Nat ml he) (k : ∀ h' tk t nn, Fr h₀ L h' m → News h₀ L h' ((run, (⟨.ref 559, some drun, .plain, #[]⟩ : Obj)) :: (drun, dictOf [⟨PyData.keyHash w.params (Str.ofString "heap"), .str (Str.ofString "heap") r0, .ref hp⟩, ⟨PyData.keyHash w.params (Str.ofString "counter"), .str (Str.ofString "counter") r1, .ref ct⟩, ⟨PyData.keyHash w.params (Str.ofString "stash"), .str (Str.ofString "stash") r2, .ref st⟩, ⟨PyData.keyHash w.params (Str.ofString "limits"), .str (Str.ofString "limits") r3, .ref lm⟩, ⟨PyData.keyHash w.params (Str.ofString "nodes"), .str (Str.ofString "nodes") r4, .ref nd⟩, ⟨PyData.keyHash w.params (Str.ofString "lvs"), .str (Str.ofString "lvs") r5, .ref x5⟩, ⟨PyData.keyHash w.params (Str.ofString "statements"), .str (Str.ofString "statements") r6, .ref x6⟩, ⟨PyData.keyHash w.params (Str.ofString "funcs"), .str (Str.ofString "funcs") r7, .ref x7⟩, ⟨PyData.keyHash w.params (Str.ofString "operators"), .str (Str.ofString "operators") r8, .ref x8⟩, ⟨PyData.keyHash w.params (Str.ofString "out"), .str (Str.ofString "out") r9, .ref x9⟩, ⟨PyData.keyHash w.params (Str.ofString "err"), .str (Str.ofString "err") r10, .ref x10⟩, ⟨PyData.keyHash w.params (Str.ofString "saves"), .str (Str.ofString "saves") r11, .ref x11⟩, ⟨PyData.keyHash w.params (Str.ofString "frames"), .str (Str.ofString "frames") r12, .ref x12⟩, ⟨PyData.keyHash w.params (Str.ofString "match"), .str (Str.ofString "match") r13, .none⟩, ⟨PyData.keyHash w.params (Str.ofString "patterns"), .str (Str.ofString "patterns") r14, .ref x14⟩, ⟨PyData.keyHash w.params (Str.ofString "steps"), .str (Str.ofString "steps") r15, .int 0 q0⟩, ⟨PyData.keyHash w.params (Str.ofString "methods"), .str (Str.ofString "methods") r16, .ref mc⟩, ⟨PyData.keyHash w.params (Str.ofString "call_code"), .str (Str.ofString "call_code") r17, .none⟩, ⟨PyData.keyHash w.params (Str.ofString "compile_text"), .str (Str.ofString "compile_text") r18, .none⟩] nrun) :: (cd, (⟨.ref 123, some dcd, .plain, #[]⟩ : Obj)) :: (dcd, dictOf [⟨PyData.keyHash w.params (Str.ofString "number"), .str (Str.ofString "number") coa, .int con0 cob⟩, ⟨PyData.keyHash w.params (Str.ofString "count"), .str (Str.ofString "count") coc, .int con cod⟩, ⟨PyData.keyHash w.params (Str.ofString "blessed"), .str (Str.ofString "blessed") coe, .none⟩, ⟨PyData.keyHash w.params (Str.ofString "weak"), .str (Str.ofString "weak") cof, .ref cow⟩, ⟨PyData.keyHash w.params (Str.ofString "is_destroyed"), .str (Str.ofString "is_destroyed") cog, .bool false⟩, ⟨PyData.keyHash w.params (Str.ofString "is_freed"), .str (Str.ofString "is_freed") coh, .bool false⟩, ⟨PyData.keyHash w.params (Str.ofString "sub"), .str (Str.ofString "sub") coi, .none⟩, ⟨PyData.keyHash w.params (Str.ofString "captures"), .str (Str.ofString "captures") coj, .ref cap⟩, ⟨PyData.keyHash w.params (Str.ofString "builtin"), .str (Str.ofString "builtin") cok, .ref fw⟩, ⟨PyData.keyHash w.params (Str.ofString "package"), .str (Str.ofString "package") con1, .str (Str.ofString "main") con2⟩] ncd) :: (fw, (⟨ocw, odw, .func fdw, slw⟩ : Obj)) :: (ca3, ocW) :: (ce, oce) :: (he, listOf (hs ++ [Value.ref ml]).toArray nn) :: (ml, listOf vs.toArray nm) :: []) → (∀ b o, s.heap.get? b = some o → b ∉ [run, drun, cd, dcd, fw, ca3, ce, he, ml] → h'.get? b = some o) → R (.ok (.ret (.int (vs.length : Int) t))) { s with heap := h', toks := tk }), codeAny (model PySem.Challenge.rw_qz0130_01.row.prog w) (Around.mk none d (some (envOf cn cs L ca ccd :: outer)) gs u) (.call (.ref 903) ⟨[.ref run, .ref cd, .ref ml, .int 1 tw], []⟩) R s
def call_code_went_P (c : EC) : Prop := ∀ (con : Int) (con0 : Int) (vs : List Value) (hs : List Value), call_code_went_S (c.wo 0) (c.ar 0) (c.hp 0) (c.hp 1) (c.le 0) (c.ad 0) (c.mp 0) (c.mp 1) (c.mp 2) (c.en 0) (c.pg 0) (c.ls 0) (c.sh 0) (c.rs 0) (c.sr 0) (c.sc 0) (c.ad 1) (c.va 0) (c.nt 0) (c.nt 1) (c.oc 0) (c.tk 0) (c.tk 1) (c.tk 2) (c.tk 3) (c.tk 4) (c.tk 5) (c.tk 6) (c.tk 7) (c.tk 8) (c.tk 9) (c.tk 10) (c.tk 11) (c.tk 12) (c.tk 13) (c.tk 14) (c.tk 15) (c.tk 16) (c.tk 17) (c.tk 18) (c.tk 19) (c.tk 20) (c.tk 21) (c.tk 22) (c.tk 23) (c.tk 24) (c.tk 25) (c.tk 26) (c.tk 27) (c.tk 28) (c.tk 29) (c.tk 30) (c.tk 31) (c.tk 32) (c.tk 33) (c.ad 2) (c.ad 3) (c.ad 4) (c.ad 5) (c.ad 6) (c.ad 7) (c.ad 8) (c.ad 9) (c.ad 10) (c.ad 11) (c.ad 12) (c.ad 13) (c.ad 14) (c.ad 15) (c.ad 16) (c.ad 17) (c.ad 18) (c.ad 19) (c.ad 20) (c.ad 21) (c.ad 22) (c.ad 23) (c.ad 24) (c.ad 25) (c.ad 26) (c.ad 27) (c.nt 2) (c.nt 3) (c.nt 4) (c.nt 5) con con0 vs hs (c.ob 0) (c.ob 1) (c.va 1) (c.oa 0) (c.fd 0) (c.av 0)
@[irreducible] noncomputable def call_code_went_e : EC := @Classical.epsilon EC EC.ne fun c => ¬ call_code_went_P c
theorem call_code_went_eq : call_code_went_e = @Classical.epsilon EC EC.ne fun c => ¬ call_code_went_P c := by unfold call_code_went_e; rfl
theorem call_code_went_m : call_code_went_P call_code_went_e := by
  unfold call_code_went_P call_code_went_S
  intro con con0 vs hs B F X₀ N T hke hroom hun hlen hhs hW o1 o2 o3 o4 o5 o6 o7 o8 k
  revert X₀
  k_fill
  intro X₀
  refine' code_keepG B F X₀ N T rfl hke ?k6 ?k7 ?k8 ?kn ?k9 ?kB ?_ ?c2 ?c3 ?c4 ?c5
  case k6 => k_is
  case k7 => k_is
  case k8 => k_room
  case k9 => exact BindsTo.of_eq rfl
  case kB => exact locs rfl
  case kn => first | exact (rfl : _ = 1) | exact (rfl : _ = 2) | exact (rfl : _ = 3) | exact (rfl : _ = 4) | exact (rfl : _ = 5) | exact (rfl : _ = 6) | exact (rfl : _ = 7)
  case c2 => exact rfl
  case c3 => exact rfl
  case c4 => exact rfl
  case c5 => decide
  intro h' FG' F' N' B' X' T' hkeep
  clear B F X₀ N T
  (try dsimp only)
  repeat' (first | (k_unfold; (try dsimp only)) | (k_end; wrow_close) | (with_reducible ((with_reducible show wpAny _ _ (callWith _ (Value.ref _) _ _ _) _ _ _); k_dflt (first
  | (refine' callWith_F ?k1 ?_; (case k1 => exact FnAt.of (by k_asm) (by k_mem)); k_whole)
  | (refine' callWith_F0 ?k1 ?_; (case k1 => exact FnAt.of (by k_asm) (by k_mem)); k_whole; try dsimp only [List.nil_append, List.cons_append])))) | ((with_reducible show wpAny _ _ (call (Value.ref _) _ _) _ _ _); k_dflt ((refine wpAny_call ?_); (rename CallsW _ _ _ _ _ _ _ _ => hW9); (refine' hW9 ?fB ?fF ?fX ?fN ?fT ?fk ?fd ?fu ?m1 ?m2 ?m3 ?m4 ?m5 ?m6 ?m7 ?m8 ?_); (case fN => k_asm); (case m1 => k_mem); (case m2 => k_mem); (case m3 => k_mem); (case m4 => k_updF); (case m5 => k_mem); (case m6 => omega); (case m7 => omega); (case m8 => k_asm); (case fB => k_asm); (case fF => k_asm); (case fX => k_asm); (case fT => k_asm); (case fk => exact rfl); (case fd => ((try simp only [depth_under_make, depth_under_kw, depth_in1, depth_deeper]); (try dsimp only [Around.deeper, Around.in1, Around.mark]); omega)); (case fu => k_units)); intro h'9 tk9 t9 n'9 F'9 N'9; (try dsimp only at N'9); (try dsimp only); (try k_sweep)) | (walk1; (try (with_reducible refine tok3 ?_; intro tk))) | dsimp only | (leave1; (try dsimp only)) | fail "no step")
  all_goals (try dsimp only)
  all_goals (refine' leaveK_ ?k1 ?k2 ?_; (case k1 => assumption); (case k2 => assumption); intro kF kN)
  all_goals (have hkeep' := fun b o e q => Fr.keep (by assumption : Fr (gOf _ _) (LOf _) _ _) b o (hkeep b o e q))
  all_goals (refine k _ _ _ _ kF (news_sub kN (by k_allIn)) hkeep')
theorem call_code_went {w : World} {A₀ : Around} {base : Heap} {h₀ : Heap} {outer : List Env} {L : Addr} {m : Str → Option Value} {mg : Str → Option Value} {mb : Str → Option Value} {mean : ExcName → Option Value} {pT : Program} {looseT : List Str} {s : Shared} {R : Result → Shared → Prop} {cn : Str} {cs : Scope} {ca : Addr} {ccd : Value} {d : Nat} {u : Nat} {gs : Option (List Code)} {r0 : Tok} {r1 : Tok} {r2 : Tok} {r3 : Tok} {r4 : Tok} {r5 : Tok} {r6 : Tok} {r7 : Tok} {r8 : Tok} {r9 : Tok} {r10 : Tok} {r11 : Tok} {r12 : Tok} {r13 : Tok} {r14 : Tok} {r15 : Tok} {r16 : Tok} {r17 : Tok} {r18 : Tok} {q0 : Tok} {tw : Tok} {coa : Tok} {cob : Tok} {coc : Tok} {cod : Tok} {coe : Tok} {cof : Tok} {cog : Tok} {coh : Tok} {coi : Tok} {coj : Tok} {cok : Tok} {con1 : Tok} {con2 : Tok} {run : Addr} {drun : Addr} {hp : Addr} {ct : Addr} {st : Addr} {lm : Addr} {nd : Addr} {mc : Addr} {cd : Addr} {dcd : Addr} {cap : Addr} {cow : Addr} {fw : Addr} {ca3 : Addr} {ce : Addr} {he : Addr} {ml : Addr} {x5 : Addr} {x6 : Addr} {x7 : Addr} {x8 : Addr} {x9 : Addr} {x10 : Addr} {x11 : Addr} {x12 : Addr} {x14 : Addr} {nrun : Nat} {ncd : Nat} {nh : Nat} {nm : Nat} {con : Int} {con0 : Int} {vs : List Value} {hs : List Value} {ocW : Obj} {oce : Obj} {ocw : Value} {odw : Option Addr} {fdw : FuncData} {slw : Array (Option Value)} : call_code_went_S w A₀ base h₀ outer L m mg mb mean pT looseT s R cn cs ca ccd d u gs r0 r1 r2 r3 r4 r5 r6 r7 r8 r9 r10 r11 r12 r13 r14 r15 r16 r17 r18 q0 tw coa cob coc cod coe cof cog coh coi coj cok con1 con2 run drun hp ct st lm nd mc cd dcd cap cow fw ca3 ce he ml x5 x6 x7 x8 x9 x10 x11 x12 x14 nrun ncd nh nm con con0 vs hs ocW oce ocw odw fdw slw := @ec_all call_code_went_P (call_code_went_eq ▸ call_code_went_m) { wo := fun n => [w].getD n (aWorld 1), ar := fun n => [A₀].getD n (callerA), hp := fun n => [base, h₀].getD n (default), le := fun n => [outer].getD n ([]), ad := fun n => [L, ca, run, drun, hp, ct, st, lm, nd, mc, cd, dcd, cap, cow, fw, ca3, ce, he, ml, x5, x6, x7, x8, x9, x10, x11, x12, x14].getD n (0), mp := fun n => [m, mg, mb].getD n (fun _ => none), en := fun n => [mean].getD n (fun _ => none), pg := fun n => [pT].getD n (default), ls := fun n => [looseT].getD n ([]), sh := fun n => [s].getD n ⟨default, #[], {}, 0, {}⟩, rs := fun n => [R].getD n (fun _ _ => True), sr := fun n => [cn].getD n (default), sc := fun n => [cs].getD n (default), va := fun n => [ccd, ocw].getD n (.none), nt := fun n => [d, u, nrun, ncd, nh, nm].getD n (0), oc := fun n => [gs].getD n (none), tk := fun n => [r0, r1, r2, r3, r4, r5, r6, r7, r8, r9, r10, r11, r12, r13, r14, r15, r16, r17, r18, q0, tw, coa, cob, coc, cod, coe, cof, cog, coh, coi, coj, cok, con1, con2].getD n (0), ob := fun n => [ocW, oce].getD n (default), iz := fun _ => (0), lv := fun _ => ([]), ll := fun _ => ([]), oa := fun n => [odw].getD n (none), fd := fun n => [fdw].getD n (default), av := fun n => [slw].getD n (#[]), li := fun _ => ([]), aw := fun _ => (#[]), ev := fun _ => (default) } con con0 vs hs
theorem call_code_went_use {w : World} {A₀ : Around} {base h₀ : Heap} {outer : List Env} {L : Addr} {m mg mb : Str → Option Value} {mean : ExcName → Option Value} {pT : Program} {looseT : List Str} {s : Shared} {R : Result → Shared → Prop}
    {cn : Str} {cs : Scope} {ca : Addr} {ccd : Value} {d u : Nat} {gs : Option (List Code)}
    {r0 r1 r2 r3 r4 r5 r6 r7 r8 r9 r10 r11 r12 r13 r14 r15 r16 r17 r18 q0 tw coa cob coc cod coe cof cog coh coi coj cok con1 con2 : Tok} {run drun hp ct st lm nd mc cd dcd cap cow fw ca3 ce he ml x5 x6 x7 x8 x9 x10 x11 x12 x14 : Addr} {nrun ncd nh nm : Nat} {con : Int} {con0 : Int} {vs hs : List Value} {ocW oce : Obj} {ocw : Value} {odw : Option Addr} {fdw : FuncData} {slw : Array (Option Value)} {g : Obj → List (Addr × Obj)} {full : List (Addr × Obj)}
    (B : Below A₀ base outer h₀) (F : Fr h₀ L s.heap m) (X₀ : (hd.heap_1 w.params).In h₀) (N : News h₀ L s.heap full) (T : Top pT looseT mean mg mb h₀)
    (hke : cs.kind = .function) (hroom : d < 600) (hun : u < 1000)
    (hlen : vs.length ≤ 10) (hhs : hs.length ≤ 10) (hW : CallsW w fw ca3 ce he ⟨ocw, odw, .func fdw, slw⟩ ocW oce) (o1 : @Ne Nat run he) (o2 : @Ne Nat drun he) (o3 : @Ne Nat cd he) (o4 : @Ne Nat dcd he) (o5 : @Ne Nat fw he) (o6 : @Ne Nat ca3 he) (o7 : @Ne Nat ce he) (o8 : @Ne Nat ml he) (U : UpdF he (listOf hs.toArray nh) full g) (hsub : ∀ p ∈ ((run, (⟨.ref 559, some drun, .plain, #[]⟩ : Obj)) :: (drun, dictOf [⟨PyData.keyHash w.params (Str.ofString "heap"), .str (Str.ofString "heap") r0, .ref hp⟩, ⟨PyData.keyHash w.params (Str.ofString "counter"), .str (Str.ofString "counter") r1, .ref ct⟩, ⟨PyData.keyHash w.params (Str.ofString "stash"), .str (Str.ofString "stash") r2, .ref st⟩, ⟨PyData.keyHash w.params (Str.ofString "limits"), .str (Str.ofString "limits") r3, .ref lm⟩, ⟨PyData.keyHash w.params (Str.ofString "nodes"), .str (Str.ofString "nodes") r4, .ref nd⟩, ⟨PyData.keyHash w.params (Str.ofString "lvs"), .str (Str.ofString "lvs") r5, .ref x5⟩, ⟨PyData.keyHash w.params (Str.ofString "statements"), .str (Str.ofString "statements") r6, .ref x6⟩, ⟨PyData.keyHash w.params (Str.ofString "funcs"), .str (Str.ofString "funcs") r7, .ref x7⟩, ⟨PyData.keyHash w.params (Str.ofString "operators"), .str (Str.ofString "operators") r8, .ref x8⟩, ⟨PyData.keyHash w.params (Str.ofString "out"), .str (Str.ofString "out") r9, .ref x9⟩, ⟨PyData.keyHash w.params (Str.ofString "err"), .str (Str.ofString "err") r10, .ref x10⟩, ⟨PyData.keyHash w.params (Str.ofString "saves"), .str (Str.ofString "saves") r11, .ref x11⟩, ⟨PyData.keyHash w.params (Str.ofString "frames"), .str (Str.ofString "frames") r12, .ref x12⟩, ⟨PyData.keyHash w.params (Str.ofString "match"), .str (Str.ofString "match") r13, .none⟩, ⟨PyData.keyHash w.params (Str.ofString "patterns"), .str (Str.ofString "patterns") r14, .ref x14⟩, ⟨PyData.keyHash w.params (Str.ofString "steps"), .str (Str.ofString "steps") r15, .int 0 q0⟩, ⟨PyData.keyHash w.params (Str.ofString "methods"), .str (Str.ofString "methods") r16, .ref mc⟩, ⟨PyData.keyHash w.params (Str.ofString "call_code"), .str (Str.ofString "call_code") r17, .none⟩, ⟨PyData.keyHash w.params (Str.ofString "compile_text"), .str (Str.ofString "compile_text") r18, .none⟩] nrun) :: (cd, (⟨.ref 123, some dcd, .plain, #[]⟩ : Obj)) :: (dcd, dictOf [⟨PyData.keyHash w.params (Str.ofString "number"), .str (Str.ofString "number") coa, .int con0 cob⟩, ⟨PyData.keyHash w.params (Str.ofString "count"), .str (Str.ofString "count") coc, .int con cod⟩, ⟨PyData.keyHash w.params (Str.ofString "blessed"), .str (Str.ofString "blessed") coe, .none⟩, ⟨PyData.keyHash w.params (Str.ofString "weak"), .str (Str.ofString "weak") cof, .ref cow⟩, ⟨PyData.keyHash w.params (Str.ofString "is_destroyed"), .str (Str.ofString "is_destroyed") cog, .bool false⟩, ⟨PyData.keyHash w.params (Str.ofString "is_freed"), .str (Str.ofString "is_freed") coh, .bool false⟩, ⟨PyData.keyHash w.params (Str.ofString "sub"), .str (Str.ofString "sub") coi, .none⟩, ⟨PyData.keyHash w.params (Str.ofString "captures"), .str (Str.ofString "captures") coj, .ref cap⟩, ⟨PyData.keyHash w.params (Str.ofString "builtin"), .str (Str.ofString "builtin") cok, .ref fw⟩, ⟨PyData.keyHash w.params (Str.ofString "package"), .str (Str.ofString "package") con1, .str (Str.ofString "main") con2⟩] ncd) :: (fw, (⟨ocw, odw, .func fdw, slw⟩ : Obj)) :: (ca3, ocW) :: (ce, oce) :: (he, listOf hs.toArray nh) :: (ml, listOf vs.toArray nm) :: []), p ∈ full)
    (k : ∀ h' tk t nn, Fr h₀ L h' m → News h₀ L h' (g (listOf (hs ++ [Value.ref ml]).toArray nn)) → R (.ok (.ret (.int (vs.length : Int) t))) { s with heap := h', toks := tk }) :
    codeAny (model PySem.Challenge.rw_qz0130_01.row.prog w) (Around.mk none d (some (envOf cn cs L ca ccd :: outer)) gs u) (.call (.ref 903) ⟨[.ref run, .ref cd, .ref ml, .int 1 tw], []⟩) R s :=
  call_code_went B F X₀ (news_sub N hsub) T hke hroom hun hlen hhs hW o1 o2 o3 o4 o5 o6 o7 o8 fun h' tk t nn F' N' K => by
    have y := keep_but (d := he) (o := listOf hs.toArray nh) (o' := listOf (hs ++ [Value.ref ml]).toArray nn) (news_sub N hsub) (by k_updF) N' K
    exact k h' tk t nn F' (news_upd N U y.1 y.2)
end
section
def law_draw_S (w : World) (A₀ : Around) (base : Heap) (h₀ : Heap) (outer : List Env) (L : Addr) (m : Str → Option Value) (mg : Str → Option Value) (mb : Str → Option Value) (mean : ExcName → Option Value) (pT : Program) (looseT : List Str) (s : Shared) (R : Result → Shared → Prop) (cn : Str) (cs : Scope) (ca : Addr) (ccd : Value) (d : Nat) (u : Nat) (gs : Option (List Code)) (ck : Addr) (rl : Addr) (ock : Obj) (ws : List Value) (ns : List Int) (nr : Nat) (at_ : Int) (mv : Int) (tat : Tok) (tm : Tok) : Prop := ∀ (B : Below A₀ base outer h₀) (F : Fr h₀ L s.heap m) (X₀ : (hd.heap_1 w.params).In h₀) (N : News h₀ L s.heap ((ck, ock) :: (rl, listOf ws.toArray nr) :: [])) (T : Top pT looseT mean mg mb h₀) (hke : cs.kind = .function) (hroom : d < 600) (hun : u < 1000) (lock : (ck == sysModules) = false) (hck : ock.IsDictOf (strKind PySem.Challenge.rw_qz0130_01.row.prog w) [(Str.ofString "row", .ref rl), (Str.ofString "at", .int at_ tat)]) (hws : IntsAre ws ns) (hlw : ws.length ≤ 20) (hat : 0 ≤ at_) (hat2 : at_ ≤ 100) (hmv : 0 < mv) (hmv2 : mv ≤ 10) (o1 : @Ne Nat rl ck) (k : ∀ h' tk t ock' tat' v, Fr h₀ L h' m → News h₀ L h' ((ck, ock') :: (rl, listOf ws.toArray nr) :: []) → (∀ b o, s.heap.get? b = some o → b ∉ [ck, rl] → h'.get? b = some o) → ock'.IsDictOf (strKind PySem.Challenge.rw_qz0130_01.row.prog w) [(Str.ofString "row", .ref rl), (Str.ofString "at", .int (at_ + 1) tat')] → 0 ≤ v → v < mv → R (.ok (.ret (.int v t))) { s with heap := h', toks := tk }), codeAny (model PySem.Challenge.rw_qz0130_01.row.prog w) (Around.mk none d (some (envOf cn cs L ca ccd :: outer)) gs u) (.call (.ref 1164) ⟨[.ref ck, .int mv tm], []⟩) R s
def law_draw_P (c : EC) : Prop := ∀ (ws : List Value) (ns : List Int) (at_ : Int) (mv : Int), law_draw_S (c.wo 0) (c.ar 0) (c.hp 0) (c.hp 1) (c.le 0) (c.ad 0) (c.mp 0) (c.mp 1) (c.mp 2) (c.en 0) (c.pg 0) (c.ls 0) (c.sh 0) (c.rs 0) (c.sr 0) (c.sc 0) (c.ad 1) (c.va 0) (c.nt 0) (c.nt 1) (c.oc 0) (c.ad 2) (c.ad 3) (c.ob 0) ws ns (c.nt 2) at_ mv (c.tk 0) (c.tk 1)
@[irreducible] noncomputable def law_draw_e : EC := @Classical.epsilon EC EC.ne fun c => ¬ law_draw_P c
theorem law_draw_eq : law_draw_e = @Classical.epsilon EC EC.ne fun c => ¬ law_draw_P c := by unfold law_draw_e; rfl
theorem law_draw_m : law_draw_P law_draw_e := by
  unfold law_draw_P law_draw_S
  intro ws ns at_ mv B F X₀ N T hke hroom hun lock hck hws hlw hat hat2 hmv hmv2 o1 k
  revert X₀
  k_fill
  intro X₀
  refine' code_keepG B F X₀ N T rfl hke ?k6 ?k7 ?k8 ?kn ?k9 ?kB ?_ ?c2 ?c3 ?c4 ?c5
  case k6 => k_is
  case k7 => k_is
  case k8 => k_room
  case k9 => exact BindsTo.of_eq rfl
  case kB => exact locs rfl
  case kn => first | exact (rfl : _ = 1) | exact (rfl : _ = 2) | exact (rfl : _ = 3) | exact (rfl : _ = 4) | exact (rfl : _ = 5) | exact (rfl : _ = 6) | exact (rfl : _ = 7)
  case c2 => exact rfl
  case c3 => exact rfl
  case c4 => exact rfl
  case c5 => decide
  intro h' FG' F' N' B' X' T' hkeep
  clear B F X₀ N T
  (try dsimp only)
  k_steps
  all_goals dsimp only
  all_goals (refine' leaveK_ ?k1 ?k2 ?_; (case k1 => assumption); (case k2 => assumption); intro kF kN)
  all_goals (have hkeep' := fun b o e q => Fr.keep (by assumption : Fr (gOf _ _) (LOf _) _ _) b o (hkeep b o e q))
  all_goals (refine' k _ _ _ _ _ _ kF ?kn hkeep' ?kd ?v1 ?v2; (case kn => exact news_sub kN (by k_allIn)); (case kd => first | assumption | with_unfolding_all assumption); (case v1 => exact Int.fmod_nonneg_of_pos _ hmv); (case v2 => exact Int.fmod_lt_of_pos _ hmv))
theorem law_draw {w : World} {A₀ : Around} {base : Heap} {h₀ : Heap} {outer : List Env} {L : Addr} {m : Str → Option Value} {mg : Str → Option Value} {mb : Str → Option Value} {mean : ExcName → Option Value} {pT : Program} {looseT : List Str} {s : Shared} {R : Result → Shared → Prop} {cn : Str} {cs : Scope} {ca : Addr} {ccd : Value} {d : Nat} {u : Nat} {gs : Option (List Code)} {ck : Addr} {rl : Addr} {ock : Obj} {ws : List Value} {ns : List Int} {nr : Nat} {at_ : Int} {mv : Int} {tat : Tok} {tm : Tok} : law_draw_S w A₀ base h₀ outer L m mg mb mean pT looseT s R cn cs ca ccd d u gs ck rl ock ws ns nr at_ mv tat tm := @ec_all law_draw_P (law_draw_eq ▸ law_draw_m) { wo := fun n => [w].getD n (aWorld 1), ar := fun n => [A₀].getD n (callerA), hp := fun n => [base, h₀].getD n (default), le := fun n => [outer].getD n ([]), ad := fun n => [L, ca, ck, rl].getD n (0), mp := fun n => [m, mg, mb].getD n (fun _ => none), en := fun n => [mean].getD n (fun _ => none), pg := fun n => [pT].getD n (default), ls := fun n => [looseT].getD n ([]), sh := fun n => [s].getD n ⟨default, #[], {}, 0, {}⟩, rs := fun n => [R].getD n (fun _ _ => True), sr := fun n => [cn].getD n (default), sc := fun n => [cs].getD n (default), va := fun n => [ccd].getD n (.none), nt := fun n => [d, u, nr].getD n (0), oc := fun n => [gs].getD n (none), tk := fun n => [tat, tm].getD n (0), ob := fun n => [ock].getD n (default), iz := fun _ => (0), lv := fun _ => ([]), ll := fun _ => ([]), oa := fun _ => (none), fd := fun _ => (default), av := fun _ => (#[]), li := fun _ => ([]), aw := fun _ => (#[]), ev := fun _ => (default) } ws ns at_ mv
theorem law_draw_use {w : World} {A₀ : Around} {base h₀ : Heap} {outer : List Env} {L : Addr} {m mg mb : Str → Option Value} {mean : ExcName → Option Value} {pT : Program} {looseT : List Str} {s : Shared} {R : Result → Shared → Prop}
    {cn : Str} {cs : Scope} {ca : Addr} {ccd : Value} {d u : Nat} {gs : Option (List Code)}
    {ck rl : Addr} {ock : Obj} {ws : List Value} {ns : List Int} {nr : Nat} {at_ mv : Int} {tat tm : Tok} {g : Obj → List (Addr × Obj)} {full : List (Addr × Obj)}
    (B : Below A₀ base outer h₀) (F : Fr h₀ L s.heap m) (X₀ : (hd.heap_1 w.params).In h₀) (N : News h₀ L s.heap full) (T : Top pT looseT mean mg mb h₀)
    (hke : cs.kind = .function) (hroom : d < 600) (hun : u < 1000)
    (lock : (ck == sysModules) = false) (hck : ock.IsDictOf (strKind PySem.Challenge.rw_qz0130_01.row.prog w) [(Str.ofString "row", .ref rl), (Str.ofString "at", .int at_ tat)]) (hws : IntsAre ws ns) (hlw : ws.length ≤ 20) (hat : 0 ≤ at_) (hat2 : at_ ≤ 100) (hmv : 0 < mv) (hmv2 : mv ≤ 10) (o1 : @Ne Nat rl ck) (U : UpdF ck ock full g) (hsub : ∀ p ∈ ((ck, ock) :: (rl, listOf ws.toArray nr) :: []), p ∈ full)
    (k : ∀ h' tk t ock' tat' v, Fr h₀ L h' m → News h₀ L h' (g ock') → ock'.IsDictOf (strKind PySem.Challenge.rw_qz0130_01.row.prog w) [(Str.ofString "row", .ref rl), (Str.ofString "at", .int (at_ + 1) tat')] → 0 ≤ v → v < mv → R (.ok (.ret (.int v t))) { s with heap := h', toks := tk }) :
    codeAny (model PySem.Challenge.rw_qz0130_01.row.prog w) (Around.mk none d (some (envOf cn cs L ca ccd :: outer)) gs u) (.call (.ref 1164) ⟨[.ref ck, .int mv tm], []⟩) R s :=
  law_draw B F X₀ (news_sub N hsub) T hke hroom hun lock hck hws hlw hat hat2 hmv hmv2 o1 fun h' tk t ock' tat' v F' N' K e1 v1 v2 => by
    have y := keep_but (d := ck) (o := ock) (o' := ock') (news_sub N hsub) (by k_updF) N' K
    exact k h' tk t ock' tat' v F' (news_upd N U y.1 y.2) e1 v1 v2
end
section
def parents_P_S (w : World) (A₀ : Around) (base : Heap) (h₀ : Heap) (outer : List Env) (L : Addr) (m : Str → Option Value) (mg : Str → Option Value) (mb : Str → Option Value) (mean : ExcName → Option Value) (pT : Program) (looseT : List Str) (s : Shared) (R : Result → Shared → Prop) (cn : Str) (cs : Scope) (ca : Addr) (ccd : Value) (d : Nat) (u : Nat) (gs : Option (List Code)) (t : Tok) (ta : Tok) (tb1 : Tok) (tc : Tok) (td : Tok) (st : Addr) (dst : Addr) (hp : Addr) (gl : Addr) (g1 : Addr) (g0 : Addr) (z : Addr) (nst : Nat) (og : Obj) (oz : Obj) : Prop := ∀ (B : Below A₀ base outer h₀) (F : Fr h₀ L s.heap m) (X₀ : (hd.heap_1 w.params).In h₀) (N : News h₀ L s.heap ((st, (⟨.ref 1139, some dst, .plain, #[]⟩ : Obj)) :: (dst, dictOf [⟨PyData.keyHash w.params (Str.ofString "heap"), .str (Str.ofString "heap") ta, .ref hp⟩, ⟨PyData.keyHash w.params (Str.ofString "globs"), .str (Str.ofString "globs") tb1, .ref gl⟩, ⟨PyData.keyHash w.params (Str.ofString "generation"), .str (Str.ofString "generation") tc, .int 1 td⟩] nst) :: (gl, og) :: (z, oz) :: [])) (T : Top pT looseT mean mg mb h₀) (hke : cs.kind = .function) (hroom : d < 900) (hun : u < 4000) (lo : (gl == sysModules) = false) (hog : og.IsDictOf (strKind PySem.Challenge.rw_qz0130_01.row.prog w) [(Str.ofString "P::go", .ref g1), (Str.ofString "main::_", .ref g0)]) (k : ∀ h' tk l, Fr h₀ L h' m → News h₀ L h' ((l, listOf #[] 0) :: ((st, (⟨.ref 1139, some dst, .plain, #[]⟩ : Obj)) :: (dst, dictOf [⟨PyData.keyHash w.params (Str.ofString "heap"), .str (Str.ofString "heap") ta, .ref hp⟩, ⟨PyData.keyHash w.params (Str.ofString "globs"), .str (Str.ofString "globs") tb1, .ref gl⟩, ⟨PyData.keyHash w.params (Str.ofString "generation"), .str (Str.ofString "generation") tc, .int 1 td⟩] nst) :: (gl, og) :: (z, oz) :: [])) → (∀ b o, s.heap.get? b = some o → b ∉ [st, dst, gl, z] → h'.get? b = some o) → @LT.lt Nat _ z l → R (.ok (.ret (.ref l))) { s with heap := h', toks := tk }), codeAny (model PySem.Challenge.rw_qz0130_01.row.prog w) (Around.mk none d (some (envOf cn cs L ca ccd :: outer)) gs u) (.call (.ref 611) ⟨[.ref st, .str (Str.ofString "P") t], []⟩) R s
def parents_P_P (c : EC) : Prop := parents_P_S (c.wo 0) (c.ar 0) (c.hp 0) (c.hp 1) (c.le 0) (c.ad 0) (c.mp 0) (c.mp 1) (c.mp 2) (c.en 0) (c.pg 0) (c.ls 0) (c.sh 0) (c.rs 0) (c.sr 0) (c.sc 0) (c.ad 1) (c.va 0) (c.nt 0) (c.nt 1) (c.oc 0) (c.tk 0) (c.tk 1) (c.tk 2) (c.tk 3) (c.tk 4) (c.ad 2) (c.ad 3) (c.ad 4) (c.ad 5) (c.ad 6) (c.ad 7) (c.ad 8) (c.nt 2) (c.ob 0) (c.ob 1)
@[irreducible] noncomputable def parents_P_e : EC := @Classical.epsilon EC EC.ne fun c => ¬ parents_P_P c
theorem parents_P_eq : parents_P_e = @Classical.epsilon EC EC.ne fun c => ¬ parents_P_P c := by unfold parents_P_e; rfl
theorem parents_P_m : parents_P_P parents_P_e := by
  unfold parents_P_P parents_P_S
  intro B F X₀ N T hke hroom hun lo hog k
  revert X₀
  k_fill
  intro X₀
  refine' code_keepG B F X₀ N T rfl hke ?k6 ?k7 ?k8 ?kn ?k9 ?kB ?_ ?c2 ?c3 ?c4 ?c5
  case k6 => k_is
  case k7 => k_is
  case k8 => k_room
  case k9 => exact BindsTo.of_eq rfl
  case kB => exact locs rfl
  case kn => first | exact (rfl : _ = 1) | exact (rfl : _ = 2) | exact (rfl : _ = 3) | exact (rfl : _ = 4) | exact (rfl : _ = 5) | exact (rfl : _ = 6) | exact (rfl : _ = 7)
  case c2 => exact rfl
  case c3 => exact rfl
  case c4 => exact rfl
  case c5 => decide
  intro h' FG' F' N' B' X' T' hkeep
  clear B F X₀ N T
  (try dsimp only)
  k_steps
  all_goals (try dsimp only)
  all_goals (refine' leaveK_ ?k1 ?k2 ?_; (case k1 => assumption); (case k2 => assumption); intro kF kN)
  all_goals (have hkeep' := fun b o e q => Fr.keep (by assumption : Fr (gOf _ _) (LOf _) _ _) b o (hkeep b o e q))
  all_goals (refine k _ _ _ kF (news_sub kN (by k_allIn)) hkeep' (lt_all (by with_reducible assumption) (by k_mem)))
theorem parents_P {w : World} {A₀ : Around} {base : Heap} {h₀ : Heap} {outer : List Env} {L : Addr} {m : Str → Option Value} {mg : Str → Option Value} {mb : Str → Option Value} {mean : ExcName → Option Value} {pT : Program} {looseT : List Str} {s : Shared} {R : Result → Shared → Prop} {cn : Str} {cs : Scope} {ca : Addr} {ccd : Value} {d : Nat} {u : Nat} {gs : Option (List Code)} {t : Tok} {ta : Tok} {tb1 : Tok} {tc : Tok} {td : Tok} {st : Addr} {dst : Addr} {hp : Addr} {gl : Addr} {g1 : Addr} {g0 : Addr} {z : Addr} {nst : Nat} {og : Obj} {oz : Obj} : parents_P_S w A₀ base h₀ outer L m mg mb mean pT looseT s R cn cs ca ccd d u gs t ta tb1 tc td st dst hp gl g1 g0 z nst og oz := @ec_all parents_P_P (parents_P_eq ▸ parents_P_m) { wo := fun n => [w].getD n (aWorld 1), ar := fun n => [A₀].getD n (callerA), hp := fun n => [base, h₀].getD n (default), le := fun n => [outer].getD n ([]), ad := fun n => [L, ca, st, dst, hp, gl, g1, g0, z].getD n (0), mp := fun n => [m, mg, mb].getD n (fun _ => none), en := fun n => [mean].getD n (fun _ => none), pg := fun n => [pT].getD n (default), ls := fun n => [looseT].getD n ([]), sh := fun n => [s].getD n ⟨default, #[], {}, 0, {}⟩, rs := fun n => [R].getD n (fun _ _ => True), sr := fun n => [cn].getD n (default), sc := fun n => [cs].getD n (default), va := fun n => [ccd].getD n (.none), nt := fun n => [d, u, nst].getD n (0), oc := fun n => [gs].getD n (none), tk := fun n => [t, ta, tb1, tc, td].getD n (0), ob := fun n => [og, oz].getD n (default), iz := fun _ => (0), lv := fun _ => ([]), ll := fun _ => ([]), oa := fun _ => (none), fd := fun _ => (default), av := fun _ => (#[]), li := fun _ => ([]), aw := fun _ => (#[]), ev := fun _ => (default) }
theorem parents_P_use {w : World} {A₀ : Around} {base h₀ : Heap} {outer : List Env} {L : Addr} {m mg mb : Str → Option Value} {mean : ExcName → Option Value} {pT : Program} {looseT : List Str} {s : Shared} {R : Result → Shared → Prop}
    {cn : Str} {cs : Scope} {ca : Addr} {ccd : Value} {d u : Nat} {gs : Option (List Code)}
    {t ta tb1 tc td : Tok} {st dst hp gl g1 g0 z : Addr} {nst : Nat} {og oz : Obj} {full : List (Addr × Obj)}
    (B : Below A₀ base outer h₀) (F : Fr h₀ L s.heap m) (X₀ : (hd.heap_1 w.params).In h₀) (N : News h₀ L s.heap full) (T : Top pT looseT mean mg mb h₀)
    (hke : cs.kind = .function) (hroom : d < 900) (hun : u < 4000)
    (lo : (gl == sysModules) = false) (hog : og.IsDictOf (strKind PySem.Challenge.rw_qz0130_01.row.prog w) [(Str.ofString "P::go", .ref g1), (Str.ofString "main::_", .ref g0)]) (hz : ∀ p ∈ full, @LE.le Nat _ p.1 z) (hsub : ∀ p ∈ ((st, (⟨.ref 1139, some dst, .plain, #[]⟩ : Obj)) :: (dst, dictOf [⟨PyData.keyHash w.params (Str.ofString "heap"), .str (Str.ofString "heap") ta, .ref hp⟩, ⟨PyData.keyHash w.params (Str.ofString "globs"), .str (Str.ofString "globs") tb1, .ref gl⟩, ⟨PyData.keyHash w.params (Str.ofString "generation"), .str (Str.ofString "generation") tc, .int 1 td⟩] nst) :: (gl, og) :: (z, oz) :: []), p ∈ full)
    (k : ∀ h' tk l, Fr h₀ L h' m → News h₀ L h' ((l, listOf #[] 0) :: full) → (∀ p ∈ full, p.1 < l) → R (.ok (.ret (.ref l))) { s with heap := h', toks := tk }) :
    codeAny (model PySem.Challenge.rw_qz0130_01.row.prog w) (Around.mk none d (some (envOf cn cs L ca ccd :: outer)) gs u) (.call (.ref 611) ⟨[.ref st, .str (Str.ofString "P") t], []⟩) R s :=
  parents_P B F X₀ (news_sub N hsub) T hke hroom hun lo hog fun h' tk l F' N' K l1 => k h' tk l F' (news_two (a := [(l, listOf #[] 0)]) (fun p hp => N' p (by rw [List.mem_singleton.mp hp]; exact .head _)) (news_all N (keep_all (news_sub N hsub) (fun p hp => N' p (.tail _ hp)) K))) fun p hp => Nat.lt_of_le_of_lt (hz p hp) l1

def parents_U_S (w : World) (A₀ : Around) (base : Heap) (h₀ : Heap) (outer : List Env) (L : Addr) (m : Str → Option Value) (mg : Str → Option Value) (mb : Str → Option Value) (mean : ExcName → Option Value) (pT : Program) (looseT : List Str) (s : Shared) (R : Result → Shared → Prop) (cn : Str) (cs : Scope) (ca : Addr) (ccd : Value) (d : Nat) (u : Nat) (gs : Option (List Code)) (t : Tok) (ta : Tok) (tb1 : Tok) (tc : Tok) (td : Tok) (st : Addr) (dst : Addr) (hp : Addr) (gl : Addr) (g1 : Addr) (g0 : Addr) (z : Addr) (nst : Nat) (og : Obj) (oz : Obj) : Prop := ∀ (B : Below A₀ base outer h₀) (F : Fr h₀ L s.heap m) (X₀ : (hd.heap_1 w.params).In h₀) (N : News h₀ L s.heap ((st, (⟨.ref 1139, some dst, .plain, #[]⟩ : Obj)) :: (dst, dictOf [⟨PyData.keyHash w.params (Str.ofString "heap"), .str (Str.ofString "heap") ta, .ref hp⟩, ⟨PyData.keyHash w.params (Str.ofString "globs"), .str (Str.ofString "globs") tb1, .ref gl⟩, ⟨PyData.keyHash w.params (Str.ofString "generation"), .str (Str.ofString "generation") tc, .int 1 td⟩] nst) :: (gl, og) :: (z, oz) :: [])) (T : Top pT looseT mean mg mb h₀) (hke : cs.kind = .function) (hroom : d < 900) (hun : u < 4000) (lo : (gl == sysModules) = false) (hog : og.IsDictOf (strKind PySem.Challenge.rw_qz0130_01.row.prog w) [(Str.ofString "P::go", .ref g1), (Str.ofString "main::_", .ref g0)]) (k : ∀ h' tk l, Fr h₀ L h' m → News h₀ L h' ((l, listOf #[] 0) :: ((st, (⟨.ref 1139, some dst, .plain, #[]⟩ : Obj)) :: (dst, dictOf [⟨PyData.keyHash w.params (Str.ofString "heap"), .str (Str.ofString "heap") ta, .ref hp⟩, ⟨PyData.keyHash w.params (Str.ofString "globs"), .str (Str.ofString "globs") tb1, .ref gl⟩, ⟨PyData.keyHash w.params (Str.ofString "generation"), .str (Str.ofString "generation") tc, .int 1 td⟩] nst) :: (gl, og) :: (z, oz) :: [])) → (∀ b o, s.heap.get? b = some o → b ∉ [st, dst, gl, z] → h'.get? b = some o) → @LT.lt Nat _ z l → R (.ok (.ret (.ref l))) { s with heap := h', toks := tk }), codeAny (model PySem.Challenge.rw_qz0130_01.row.prog w) (Around.mk none d (some (envOf cn cs L ca ccd :: outer)) gs u) (.call (.ref 611) ⟨[.ref st, .str (Str.ofString "UNIVERSAL") t], []⟩) R s
def parents_U_P (c : EC) : Prop := parents_U_S (c.wo 0) (c.ar 0) (c.hp 0) (c.hp 1) (c.le 0) (c.ad 0) (c.mp 0) (c.mp 1) (c.mp 2) (c.en 0) (c.pg 0) (c.ls 0) (c.sh 0) (c.rs 0) (c.sr 0) (c.sc 0) (c.ad 1) (c.va 0) (c.nt 0) (c.nt 1) (c.oc 0) (c.tk 0) (c.tk 1) (c.tk 2) (c.tk 3) (c.tk 4) (c.ad 2) (c.ad 3) (c.ad 4) (c.ad 5) (c.ad 6) (c.ad 7) (c.ad 8) (c.nt 2) (c.ob 0) (c.ob 1)
@[irreducible] noncomputable def parents_U_e : EC := @Classical.epsilon EC EC.ne fun c => ¬ parents_U_P c
theorem parents_U_eq : parents_U_e = @Classical.epsilon EC EC.ne fun c => ¬ parents_U_P c := by unfold parents_U_e; rfl
theorem parents_U_m : parents_U_P parents_U_e := by
  unfold parents_U_P parents_U_S
  intro B F X₀ N T hke hroom hun lo hog k
  revert X₀
  k_fill
  intro X₀
  refine' code_keepG B F X₀ N T rfl hke ?k6 ?k7 ?k8 ?kn ?k9 ?kB ?_ ?c2 ?c3 ?c4 ?c5
  case k6 => k_is
  case k7 => k_is
  case k8 => k_room
  case k9 => exact BindsTo.of_eq rfl
  case kB => exact locs rfl
  case kn => first | exact (rfl : _ = 1) | exact (rfl : _ = 2) | exact (rfl : _ = 3) | exact (rfl : _ = 4) | exact (rfl : _ = 5) | exact (rfl : _ = 6) | exact (rfl : _ = 7)
  case c2 => exact rfl
  case c3 => exact rfl
  case c4 => exact rfl
  case c5 => decide
  intro h' FG' F' N' B' X' T' hkeep
  clear B F X₀ N T
  (try dsimp only)
  k_steps
  all_goals (try dsimp only)
  all_goals (refine' leaveK_ ?k1 ?k2 ?_; (case k1 => assumption); (case k2 => assumption); intro kF kN)
  all_goals (have hkeep' := fun b o e q => Fr.keep (by assumption : Fr (gOf _ _) (LOf _) _ _) b o (hkeep b o e q))
  all_goals (refine k _ _ _ kF (news_sub kN (by k_allIn)) hkeep' (lt_all (by with_reducible assumption) (by k_mem)))
theorem parents_U {w : World} {A₀ : Around} {base : Heap} {h₀ : Heap} {outer : List Env} {L : Addr} {m : Str → Option Value} {mg : Str → Option Value} {mb : Str → Option Value} {mean : ExcName → Option Value} {pT : Program} {looseT : List Str} {s : Shared} {R : Result → Shared → Prop} {cn : Str} {cs : Scope} {ca : Addr} {ccd : Value} {d : Nat} {u : Nat} {gs : Option (List Code)} {t : Tok} {ta : Tok} {tb1 : Tok} {tc : Tok} {td : Tok} {st : Addr} {dst : Addr} {hp : Addr} {gl : Addr} {g1 : Addr} {g0 : Addr} {z : Addr} {nst : Nat} {og : Obj} {oz : Obj} : parents_U_S w A₀ base h₀ outer L m mg mb mean pT looseT s R cn cs ca ccd d u gs t ta tb1 tc td st dst hp gl g1 g0 z nst og oz := @ec_all parents_U_P (parents_U_eq ▸ parents_U_m) { wo := fun n => [w].getD n (aWorld 1), ar := fun n => [A₀].getD n (callerA), hp := fun n => [base, h₀].getD n (default), le := fun n => [outer].getD n ([]), ad := fun n => [L, ca, st, dst, hp, gl, g1, g0, z].getD n (0), mp := fun n => [m, mg, mb].getD n (fun _ => none), en := fun n => [mean].getD n (fun _ => none), pg := fun n => [pT].getD n (default), ls := fun n => [looseT].getD n ([]), sh := fun n => [s].getD n ⟨default, #[], {}, 0, {}⟩, rs := fun n => [R].getD n (fun _ _ => True), sr := fun n => [cn].getD n (default), sc := fun n => [cs].getD n (default), va := fun n => [ccd].getD n (.none), nt := fun n => [d, u, nst].getD n (0), oc := fun n => [gs].getD n (none), tk := fun n => [t, ta, tb1, tc, td].getD n (0), ob := fun n => [og, oz].getD n (default), iz := fun _ => (0), lv := fun _ => ([]), ll := fun _ => ([]), oa := fun _ => (none), fd := fun _ => (default), av := fun _ => (#[]), li := fun _ => ([]), aw := fun _ => (#[]), ev := fun _ => (default) }
theorem parents_U_use {w : World} {A₀ : Around} {base h₀ : Heap} {outer : List Env} {L : Addr} {m mg mb : Str → Option Value} {mean : ExcName → Option Value} {pT : Program} {looseT : List Str} {s : Shared} {R : Result → Shared → Prop}
    {cn : Str} {cs : Scope} {ca : Addr} {ccd : Value} {d u : Nat} {gs : Option (List Code)}
    {t ta tb1 tc td : Tok} {st dst hp gl g1 g0 z : Addr} {nst : Nat} {og oz : Obj} {full : List (Addr × Obj)}
    (B : Below A₀ base outer h₀) (F : Fr h₀ L s.heap m) (X₀ : (hd.heap_1 w.params).In h₀) (N : News h₀ L s.heap full) (T : Top pT looseT mean mg mb h₀)
    (hke : cs.kind = .function) (hroom : d < 900) (hun : u < 4000)
    (lo : (gl == sysModules) = false) (hog : og.IsDictOf (strKind PySem.Challenge.rw_qz0130_01.row.prog w) [(Str.ofString "P::go", .ref g1), (Str.ofString "main::_", .ref g0)]) (hz : ∀ p ∈ full, @LE.le Nat _ p.1 z) (hsub : ∀ p ∈ ((st, (⟨.ref 1139, some dst, .plain, #[]⟩ : Obj)) :: (dst, dictOf [⟨PyData.keyHash w.params (Str.ofString "heap"), .str (Str.ofString "heap") ta, .ref hp⟩, ⟨PyData.keyHash w.params (Str.ofString "globs"), .str (Str.ofString "globs") tb1, .ref gl⟩, ⟨PyData.keyHash w.params (Str.ofString "generation"), .str (Str.ofString "generation") tc, .int 1 td⟩] nst) :: (gl, og) :: (z, oz) :: []), p ∈ full)
    (k : ∀ h' tk l, Fr h₀ L h' m → News h₀ L h' ((l, listOf #[] 0) :: full) → (∀ p ∈ full, p.1 < l) → R (.ok (.ret (.ref l))) { s with heap := h', toks := tk }) :
    codeAny (model PySem.Challenge.rw_qz0130_01.row.prog w) (Around.mk none d (some (envOf cn cs L ca ccd :: outer)) gs u) (.call (.ref 611) ⟨[.ref st, .str (Str.ofString "UNIVERSAL") t], []⟩) R s :=
  parents_U B F X₀ (news_sub N hsub) T hke hroom hun lo hog fun h' tk l F' N' K l1 => k h' tk l F' (news_two (a := [(l, listOf #[] 0)]) (fun p hp => N' p (by rw [List.mem_singleton.mp hp]; exact .head _)) (news_all N (keep_all (news_sub N hsub) (fun p hp => N' p (.tail _ hp)) K))) fun p hp => Nat.lt_of_le_of_lt (hz p hp) l1
end
section
def line_P_S (w : World) (A₀ : Around) (base : Heap) (h₀ : Heap) (outer : List Env) (L : Addr) (m : Str → Option Value) (mg : Str → Option Value) (mb : Str → Option Value) (mean : ExcName → Option Value) (pT : Program) (looseT : List Str) (s : Shared) (R : Result → Shared → Prop) (cn : Str) (cs : Scope) (ca : Addr) (ccd : Value) (d : Nat) (u : Nat) (gs : Option (List Code)) (t : Tok) (ta : Tok) (tb1 : Tok) (tc : Tok) (td : Tok) (st : Addr) (dst : Addr) (hp : Addr) (gl : Addr) (g1 : Addr) (g0 : Addr) (z : Addr) (nst : Nat) (og : Obj) (oz : Obj) : Prop := ∀ (B : Below A₀ base outer h₀) (F : Fr h₀ L s.heap m) (X₀ : (hd.heap_1 w.params).In h₀) (N : News h₀ L s.heap ((st, (⟨.ref 1139, some dst, .plain, #[]⟩ : Obj)) :: (dst, dictOf [⟨PyData.keyHash w.params (Str.ofString "heap"), .str (Str.ofString "heap") ta, .ref hp⟩, ⟨PyData.keyHash w.params (Str.ofString "globs"), .str (Str.ofString "globs") tb1, .ref gl⟩, ⟨PyData.keyHash w.params (Str.ofString "generation"), .str (Str.ofString "generation") tc, .int 1 td⟩] nst) :: (gl, og) :: (z, oz) :: [])) (T : Top pT looseT mean mg mb h₀) (hke : cs.kind = .function) (hroom : d < 800) (hun : u < 3000) (lo : (gl == sysModules) = false) (hog : og.IsDictOf (strKind PySem.Challenge.rw_qz0130_01.row.prog w) [(Str.ofString "P::go", .ref g1), (Str.ofString "main::_", .ref g0)]) (k : ∀ h' tk l, Fr h₀ L h' m → News h₀ L h' ((l, listOf #[.str (Str.ofString "P") t] 0) :: ((st, (⟨.ref 1139, some dst, .plain, #[]⟩ : Obj)) :: (dst, dictOf [⟨PyData.keyHash w.params (Str.ofString "heap"), .str (Str.ofString "heap") ta, .ref hp⟩, ⟨PyData.keyHash w.params (Str.ofString "globs"), .str (Str.ofString "globs") tb1, .ref gl⟩, ⟨PyData.keyHash w.params (Str.ofString "generation"), .str (Str.ofString "generation") tc, .int 1 td⟩] nst) :: (gl, og) :: (z, oz) :: [])) → (∀ b o, s.heap.get? b = some o → b ∉ [st, dst, gl, z] → h'.get? b = some o) → @LT.lt Nat _ z l → R (.ok (.ret (.ref l))) { s with heap := h', toks := tk }), codeAny (model PySem.Challenge.rw_qz0130_01.row.prog w) (Around.mk none d (some (envOf cn cs L ca ccd :: outer)) gs u) (.call (.ref 618) ⟨[.ref st, .str (Str.ofString "P") t], []⟩) R s
def line_P_P (c : EC) : Prop := line_P_S (c.wo 0) (c.ar 0) (c.hp 0) (c.hp 1) (c.le 0) (c.ad 0) (c.mp 0) (c.mp 1) (c.mp 2) (c.en 0) (c.pg 0) (c.ls 0) (c.sh 0) (c.rs 0) (c.sr 0) (c.sc 0) (c.ad 1) (c.va 0) (c.nt 0) (c.nt 1) (c.oc 0) (c.tk 0) (c.tk 1) (c.tk 2) (c.tk 3) (c.tk 4) (c.ad 2) (c.ad 3) (c.ad 4) (c.ad 5) (c.ad 6) (c.ad 7) (c.ad 8) (c.nt 2) (c.ob 0) (c.ob 1)
@[irreducible] noncomputable def line_P_e : EC := @Classical.epsilon EC EC.ne fun c => ¬ line_P_P c
theorem line_P_eq : line_P_e = @Classical.epsilon EC EC.ne fun c => ¬ line_P_P c := by unfold line_P_e; rfl
theorem line_P_m : line_P_P line_P_e := by
  unfold line_P_P line_P_S
  intro B F X₀ N T hke hroom hun lo hog k
  revert X₀
  k_fill
  intro X₀
  refine' code_keepG B F X₀ N T rfl hke ?k6 ?k7 ?k8 ?kn ?k9 ?kB ?_ ?c2 ?c3 ?c4 ?c5
  case k6 => k_is
  case k7 => k_is
  case k8 => k_room
  case k9 => exact BindsTo.of_eq rfl
  case kB => exact locs rfl
  case kn => first | exact (rfl : _ = 1) | exact (rfl : _ = 2) | exact (rfl : _ = 3) | exact (rfl : _ = 4) | exact (rfl : _ = 5) | exact (rfl : _ = 6) | exact (rfl : _ = 7)
  case c2 => exact rfl
  case c3 => exact rfl
  case c4 => exact rfl
  case c5 => decide
  intro h' FG' F' N' B' X' T' hkeep
  clear B F X₀ N T
  (try dsimp only)
  repeat' (first | (k_unfold; (try dsimp only)) | (k_end; wrow_close) | ((with_reducible show wpAny _ _ (call (Value.ref _) _ _) _ _ _); k_dflt ((refine wpAny_call ?_); (first | (refine' parents_P_use ?fB ?fF ?fX ?fN ?fT ?fk ?fd ?fu ?lo ?hog ?hz ?hsub ?_; (case fN => k_asm); (case hsub => k_allIn); (case hz => (first | exact hz_head (by with_reducible assumption) | assumption)); (case lo => first | k_asm | k_ne | omega); (case hog => first | k_asm | k_ne | omega); (case fB => k_asm); (case fF => k_asm); (case fX => k_asm); (case fT => k_asm); (case fk => exact rfl); (case fd => ((try simp only [depth_under_make, depth_under_kw, depth_in1, depth_deeper, depth_caller]); (try dsimp only [Around.deeper, Around.in1, Around.mark]); first | walk_at "room" | decide)); (case fu => k_units); k_whole; intro h'9 tk9 l9 F'9 N'9 l19; (try dsimp only at N'9); (try dsimp only); (try k_sweep)) | (refine' parents_U_use ?fB ?fF ?fX ?fN ?fT ?fk ?fd ?fu ?lo ?hog ?hz ?hsub ?_; (case fN => k_asm); (case hsub => k_allIn); (case hz => (first | exact hz_head (by with_reducible assumption) | assumption)); (case lo => first | k_asm | k_ne | omega); (case hog => first | k_asm | k_ne | omega); (case fB => k_asm); (case fF => k_asm); (case fX => k_asm); (case fT => k_asm); (case fk => exact rfl); (case fd => ((try simp only [depth_under_make, depth_under_kw, depth_in1, depth_deeper, depth_caller]); (try dsimp only [Around.deeper, Around.in1, Around.mark]); first | walk_at "room" | decide)); (case fu => k_units); k_whole; intro h'9 tk9 l9 F'9 N'9 l19; (try dsimp only at N'9); (try dsimp only); (try k_sweep))))) | (walk1; (try (with_reducible refine tok3 ?_; intro tk))) | dsimp only | (leave1; (try dsimp only)) | fail "no step")
  all_goals (try dsimp only)
  all_goals (refine' leaveK_ ?k1 ?k2 ?_; (case k1 => assumption); (case k2 => assumption); intro kF kN)
  all_goals (have hkeep' := fun b o e q => Fr.keep (by assumption : Fr (gOf _ _) (LOf _) _ _) b o (hkeep b o e q))
  all_goals (refine k _ _ _ kF (news_sub kN (by k_allIn)) hkeep' (lt_all (by with_reducible assumption) (by k_mem)))
theorem line_P {w : World} {A₀ : Around} {base : Heap} {h₀ : Heap} {outer : List Env} {L : Addr} {m : Str → Option Value} {mg : Str → Option Value} {mb : Str → Option Value} {mean : ExcName → Option Value} {pT : Program} {looseT : List Str} {s : Shared} {R : Result → Shared → Prop} {cn : Str} {cs : Scope} {ca : Addr} {ccd : Value} {d : Nat} {u : Nat} {gs : Option (List Code)} {t : Tok} {ta : Tok} {tb1 : Tok} {tc : Tok} {td : Tok} {st : Addr} {dst : Addr} {hp : Addr} {gl : Addr} {g1 : Addr} {g0 : Addr} {z : Addr} {nst : Nat} {og : Obj} {oz : Obj} : line_P_S w A₀ base h₀ outer L m mg mb mean pT looseT s R cn cs ca ccd d u gs t ta tb1 tc td st dst hp gl g1 g0 z nst og oz := @ec_all line_P_P (line_P_eq ▸ line_P_m) { wo := fun n => [w].getD n (aWorld 1), ar := fun n => [A₀].getD n (callerA), hp := fun n => [base, h₀].getD n (default), le := fun n => [outer].getD n ([]), ad := fun n => [L, ca, st, dst, hp, gl, g1, g0, z].getD n (0), mp := fun n => [m, mg, mb].getD n (fun _ => none), en := fun n => [mean].getD n (fun _ => none), pg := fun n => [pT].getD n (default), ls := fun n => [looseT].getD n ([]), sh := fun n => [s].getD n ⟨default, #[], {}, 0, {}⟩, rs := fun n => [R].getD n (fun _ _ => True), sr := fun n => [cn].getD n (default), sc := fun n => [cs].getD n (default), va := fun n => [ccd].getD n (.none), nt := fun n => [d, u, nst].getD n (0), oc := fun n => [gs].getD n (none), tk := fun n => [t, ta, tb1, tc, td].getD n (0), ob := fun n => [og, oz].getD n (default), iz := fun _ => (0), lv := fun _ => ([]), ll := fun _ => ([]), oa := fun _ => (none), fd := fun _ => (default), av := fun _ => (#[]), li := fun _ => ([]), aw := fun _ => (#[]), ev := fun _ => (default) }
theorem line_P_use {w : World} {A₀ : Around} {base h₀ : Heap} {outer : List Env} {L : Addr} {m mg mb : Str → Option Value} {mean : ExcName → Option Value} {pT : Program} {looseT : List Str} {s : Shared} {R : Result → Shared → Prop}
    {cn : Str} {cs : Scope} {ca : Addr} {ccd : Value} {d u : Nat} {gs : Option (List Code)}
    {t ta tb1 tc td : Tok} {st dst hp gl g1 g0 z : Addr} {nst : Nat} {og oz : Obj} {full : List (Addr × Obj)}
    (B : Below A₀ base outer h₀) (F : Fr h₀ L s.heap m) (X₀ : (hd.heap_1 w.params).In h₀) (N : News h₀ L s.heap full) (T : Top pT looseT mean mg mb h₀)
    (hke : cs.kind = .function) (hroom : d < 800) (hun : u < 3000)
    (lo : (gl == sysModules) = false) (hog : og.IsDictOf (strKind PySem.Challenge.rw_qz0130_01.row.prog w) [(Str.ofString "P::go", .ref g1), (Str.ofString "main::_", .ref g0)]) (hz : ∀ p ∈ full, @LE.le Nat _ p.1 z) (hsub : ∀ p ∈ ((st, (⟨.ref 1139, some dst, .plain, #[]⟩ : Obj)) :: (dst, dictOf [⟨PyData.keyHash w.params (Str.ofString "heap"), .str (Str.ofString "heap") ta, .ref hp⟩, ⟨PyData.keyHash w.params (Str.ofString "globs"), .str (Str.ofString "globs") tb1, .ref gl⟩, ⟨PyData.keyHash w.params (Str.ofString "generation"), .str (Str.ofString "generation") tc, .int 1 td⟩] nst) :: (gl, og) :: (z, oz) :: []), p ∈ full)
    (k : ∀ h' tk l, Fr h₀ L h' m → News h₀ L h' ((l, listOf #[.str (Str.ofString "P") t] 0) :: full) → (∀ p ∈ full, p.1 < l) → R (.ok (.ret (.ref l))) { s with heap := h', toks := tk }) :
    codeAny (model PySem.Challenge.rw_qz0130_01.row.prog w) (Around.mk none d (some (envOf cn cs L ca ccd :: outer)) gs u) (.call (.ref 618) ⟨[.ref st, .str (Str.ofString "P") t], []⟩) R s :=
  line_P B F X₀ (news_sub N hsub) T hke hroom hun lo hog fun h' tk l F' N' K l1 => k h' tk l F' (news_two (a := [(l, listOf #[.str (Str.ofString "P") t] 0)]) (fun p hp => N' p (by rw [List.mem_singleton.mp hp]; exact .head _)) (news_all N (keep_all (news_sub N hsub) (fun p hp => N' p (.tail _ hp)) K))) fun p hp => Nat.lt_of_le_of_lt (hz p hp) l1

def line_U_S (w : World) (A₀ : Around) (base : Heap) (h₀ : Heap) (outer : List Env) (L : Addr) (m : Str → Option Value) (mg : Str → Option Value) (mb : Str → Option Value) (mean : ExcName → Option Value) (pT : Program) (looseT : List Str) (s : Shared) (R : Result → Shared → Prop) (cn : Str) (cs : Scope) (ca : Addr) (ccd : Value) (d : Nat) (u : Nat) (gs : Option (List Code)) (t : Tok) (ta : Tok) (tb1 : Tok) (tc : Tok) (td : Tok) (st : Addr) (dst : Addr) (hp : Addr) (gl : Addr) (g1 : Addr) (g0 : Addr) (z : Addr) (nst : Nat) (og : Obj) (oz : Obj) : Prop := ∀ (B : Below A₀ base outer h₀) (F : Fr h₀ L s.heap m) (X₀ : (hd.heap_1 w.params).In h₀) (N : News h₀ L s.heap ((st, (⟨.ref 1139, some dst, .plain, #[]⟩ : Obj)) :: (dst, dictOf [⟨PyData.keyHash w.params (Str.ofString "heap"), .str (Str.ofString "heap") ta, .ref hp⟩, ⟨PyData.keyHash w.params (Str.ofString "globs"), .str (Str.ofString "globs") tb1, .ref gl⟩, ⟨PyData.keyHash w.params (Str.ofString "generation"), .str (Str.ofString "generation") tc, .int 1 td⟩] nst) :: (gl, og) :: (z, oz) :: [])) (T : Top pT looseT mean mg mb h₀) (hke : cs.kind = .function) (hroom : d < 800) (hun : u < 3000) (lo : (gl == sysModules) = false) (hog : og.IsDictOf (strKind PySem.Challenge.rw_qz0130_01.row.prog w) [(Str.ofString "P::go", .ref g1), (Str.ofString "main::_", .ref g0)]) (k : ∀ h' tk l, Fr h₀ L h' m → News h₀ L h' ((l, listOf #[.str (Str.ofString "UNIVERSAL") t] 0) :: ((st, (⟨.ref 1139, some dst, .plain, #[]⟩ : Obj)) :: (dst, dictOf [⟨PyData.keyHash w.params (Str.ofString "heap"), .str (Str.ofString "heap") ta, .ref hp⟩, ⟨PyData.keyHash w.params (Str.ofString "globs"), .str (Str.ofString "globs") tb1, .ref gl⟩, ⟨PyData.keyHash w.params (Str.ofString "generation"), .str (Str.ofString "generation") tc, .int 1 td⟩] nst) :: (gl, og) :: (z, oz) :: [])) → (∀ b o, s.heap.get? b = some o → b ∉ [st, dst, gl, z] → h'.get? b = some o) → @LT.lt Nat _ z l → R (.ok (.ret (.ref l))) { s with heap := h', toks := tk }), codeAny (model PySem.Challenge.rw_qz0130_01.row.prog w) (Around.mk none d (some (envOf cn cs L ca ccd :: outer)) gs u) (.call (.ref 618) ⟨[.ref st, .str (Str.ofString "UNIVERSAL") t], []⟩) R s
def line_U_P (c : EC) : Prop := line_U_S (c.wo 0) (c.ar 0) (c.hp 0) (c.hp 1) (c.le 0) (c.ad 0) (c.mp 0) (c.mp 1) (c.mp 2) (c.en 0) (c.pg 0) (c.ls 0) (c.sh 0) (c.rs 0) (c.sr 0) (c.sc 0) (c.ad 1) (c.va 0) (c.nt 0) (c.nt 1) (c.oc 0) (c.tk 0) (c.tk 1) (c.tk 2) (c.tk 3) (c.tk 4) (c.ad 2) (c.ad 3) (c.ad 4) (c.ad 5) (c.ad 6) (c.ad 7) (c.ad 8) (c.nt 2) (c.ob 0) (c.ob 1)
@[irreducible] noncomputable def line_U_e : EC := @Classical.epsilon EC EC.ne fun c => ¬ line_U_P c
theorem line_U_eq : line_U_e = @Classical.epsilon EC EC.ne fun c => ¬ line_U_P c := by unfold line_U_e; rfl
theorem line_U_m : line_U_P line_U_e := by
  unfold line_U_P line_U_S
  intro B F X₀ N T hke hroom hun lo hog k
  revert X₀
  k_fill
  intro X₀
  refine' code_keepG B F X₀ N T rfl hke ?k6 ?k7 ?k8 ?kn ?k9 ?kB ?_ ?c2 ?c3 ?c4 ?c5
  case k6 => k_is
  case k7 => k_is
  case k8 => k_room
  case k9 => exact BindsTo.of_eq rfl
  case kB => exact locs rfl
  case kn => first | exact (rfl : _ = 1) | exact (rfl : _ = 2) | exact (rfl : _ = 3) | exact (rfl : _ = 4) | exact (rfl : _ = 5) | exact (rfl : _ = 6) | exact (rfl : _ = 7)
  case c2 => exact rfl
  case c3 => exact rfl
  case c4 => exact rfl
  case c5 => decide
  intro h' FG' F' N' B' X' T' hkeep
  clear B F X₀ N T
  (try dsimp only)
  repeat' (first | (k_unfold; (try dsimp only)) | (k_end; wrow_close) | ((with_reducible show wpAny _ _ (call (Value.ref _) _ _) _ _ _); k_dflt ((refine wpAny_call ?_); (first | (refine' parents_P_use ?fB ?fF ?fX ?fN ?fT ?fk ?fd ?fu ?lo ?hog ?hz ?hsub ?_; (case fN => k_asm); (case hsub => k_allIn); (case hz => (first | exact hz_head (by with_reducible assumption) | assumption)); (case lo => first | k_asm | k_ne | omega); (case hog => first | k_asm | k_ne | omega); (case fB => k_asm); (case fF => k_asm); (case fX => k_asm); (case fT => k_asm); (case fk => exact rfl); (case fd => ((try simp only [depth_under_make, depth_under_kw, depth_in1, depth_deeper, depth_caller]); (try dsimp only [Around.deeper, Around.in1, Around.mark]); first | walk_at "room" | decide)); (case fu => k_units); k_whole; intro h'9 tk9 l9 F'9 N'9 l19; (try dsimp only at N'9); (try dsimp only); (try k_sweep)) | (refine' parents_U_use ?fB ?fF ?fX ?fN ?fT ?fk ?fd ?fu ?lo ?hog ?hz ?hsub ?_; (case fN => k_asm); (case hsub => k_allIn); (case hz => (first | exact hz_head (by with_reducible assumption) | assumption)); (case lo => first | k_asm | k_ne | omega); (case hog => first | k_asm | k_ne | omega); (case fB => k_asm); (case fF => k_asm); (case fX => k_asm); (case fT => k_asm); (case fk => exact rfl); (case fd => ((try simp only [depth_under_make, depth_under_kw, depth_in1, depth_deeper, depth_caller]); (try dsimp only [Around.deeper, Around.in1, Around.mark]); first | walk_at "room" | decide)); (case fu => k_units); k_whole; intro h'9 tk9 l9 F'9 N'9 l19; (try dsimp only at N'9); (try dsimp only); (try k_sweep))))) | (walk1; (try (with_reducible refine tok3 ?_; intro tk))) | dsimp only | (leave1; (try dsimp only)) | fail "no step")
  all_goals (try dsimp only)
  all_goals (refine' leaveK_ ?k1 ?k2 ?_; (case k1 => assumption); (case k2 => assumption); intro kF kN)
  all_goals (have hkeep' := fun b o e q => Fr.keep (by assumption : Fr (gOf _ _) (LOf _) _ _) b o (hkeep b o e q))
  all_goals (refine k _ _ _ kF (news_sub kN (by k_allIn)) hkeep' (lt_all (by with_reducible assumption) (by k_mem)))
theorem line_U {w : World} {A₀ : Around} {base : Heap} {h₀ : Heap} {outer : List Env} {L : Addr} {m : Str → Option Value} {mg : Str → Option Value} {mb : Str → Option Value} {mean : ExcName → Option Value} {pT : Program} {looseT : List Str} {s : Shared} {R : Result → Shared → Prop} {cn : Str} {cs : Scope} {ca : Addr} {ccd : Value} {d : Nat} {u : Nat} {gs : Option (List Code)} {t : Tok} {ta : Tok} {tb1 : Tok} {tc : Tok} {td : Tok} {st : Addr} {dst : Addr} {hp : Addr} {gl : Addr} {g1 : Addr} {g0 : Addr} {z : Addr} {nst : Nat} {og : Obj} {oz : Obj} : line_U_S w A₀ base h₀ outer L m mg mb mean pT looseT s R cn cs ca ccd d u gs t ta tb1 tc td st dst hp gl g1 g0 z nst og oz := @ec_all line_U_P (line_U_eq ▸ line_U_m) { wo := fun n => [w].getD n (aWorld 1), ar := fun n => [A₀].getD n (callerA), hp := fun n => [base, h₀].getD n (default), le := fun n => [outer].getD n ([]), ad := fun n => [L, ca, st, dst, hp, gl, g1, g0, z].getD n (0), mp := fun n => [m, mg, mb].getD n (fun _ => none), en := fun n => [mean].getD n (fun _ => none), pg := fun n => [pT].getD n (default), ls := fun n => [looseT].getD n ([]), sh := fun n => [s].getD n ⟨default, #[], {}, 0, {}⟩, rs := fun n => [R].getD n (fun _ _ => True), sr := fun n => [cn].getD n (default), sc := fun n => [cs].getD n (default), va := fun n => [ccd].getD n (.none), nt := fun n => [d, u, nst].getD n (0), oc := fun n => [gs].getD n (none), tk := fun n => [t, ta, tb1, tc, td].getD n (0), ob := fun n => [og, oz].getD n (default), iz := fun _ => (0), lv := fun _ => ([]), ll := fun _ => ([]), oa := fun _ => (none), fd := fun _ => (default), av := fun _ => (#[]), li := fun _ => ([]), aw := fun _ => (#[]), ev := fun _ => (default) }
theorem line_U_use {w : World} {A₀ : Around} {base h₀ : Heap} {outer : List Env} {L : Addr} {m mg mb : Str → Option Value} {mean : ExcName → Option Value} {pT : Program} {looseT : List Str} {s : Shared} {R : Result → Shared → Prop}
    {cn : Str} {cs : Scope} {ca : Addr} {ccd : Value} {d u : Nat} {gs : Option (List Code)}
    {t ta tb1 tc td : Tok} {st dst hp gl g1 g0 z : Addr} {nst : Nat} {og oz : Obj} {full : List (Addr × Obj)}
    (B : Below A₀ base outer h₀) (F : Fr h₀ L s.heap m) (X₀ : (hd.heap_1 w.params).In h₀) (N : News h₀ L s.heap full) (T : Top pT looseT mean mg mb h₀)
    (hke : cs.kind = .function) (hroom : d < 800) (hun : u < 3000)
    (lo : (gl == sysModules) = false) (hog : og.IsDictOf (strKind PySem.Challenge.rw_qz0130_01.row.prog w) [(Str.ofString "P::go", .ref g1), (Str.ofString "main::_", .ref g0)]) (hz : ∀ p ∈ full, @LE.le Nat _ p.1 z) (hsub : ∀ p ∈ ((st, (⟨.ref 1139, some dst, .plain, #[]⟩ : Obj)) :: (dst, dictOf [⟨PyData.keyHash w.params (Str.ofString "heap"), .str (Str.ofString "heap") ta, .ref hp⟩, ⟨PyData.keyHash w.params (Str.ofString "globs"), .str (Str.ofString "globs") tb1, .ref gl⟩, ⟨PyData.keyHash w.params (Str.ofString "generation"), .str (Str.ofString "generation") tc, .int 1 td⟩] nst) :: (gl, og) :: (z, oz) :: []), p ∈ full)
    (k : ∀ h' tk l, Fr h₀ L h' m → News h₀ L h' ((l, listOf #[.str (Str.ofString "UNIVERSAL") t] 0) :: full) → (∀ p ∈ full, p.1 < l) → R (.ok (.ret (.ref l))) { s with heap := h', toks := tk }) :
    codeAny (model PySem.Challenge.rw_qz0130_01.row.prog w) (Around.mk none d (some (envOf cn cs L ca ccd :: outer)) gs u) (.call (.ref 618) ⟨[.ref st, .str (Str.ofString "UNIVERSAL") t], []⟩) R s :=
  line_U B F X₀ (news_sub N hsub) T hke hroom hun lo hog fun h' tk l F' N' K l1 => k h' tk l F' (news_two (a := [(l, listOf #[.str (Str.ofString "UNIVERSAL") t] 0)]) (fun p hp => N' p (by rw [List.mem_singleton.mp hp]; exact .head _)) (news_all N (keep_all (news_sub N hsub) (fun p hp => N' p (.tail _ hp)) K))) fun p hp => Nat.lt_of_le_of_lt (hz p hp) l1
end
section
def whole_P_S (w : World) (A₀ : Around) (base : Heap) (h₀ : Heap) (outer : List Env) (L : Addr) (m : Str → Option Value) (mg : Str → Option Value) (mb : Str → Option Value) (mean : ExcName → Option Value) (pT : Program) (looseT : List Str) (s : Shared) (R : Result → Shared → Prop) (cn : Str) (cs : Scope) (ca : Addr) (ccd : Value) (d : Nat) (u : Nat) (gs : Option (List Code)) (t : Tok) (ta : Tok) (tb1 : Tok) (tc : Tok) (td : Tok) (st : Addr) (dst : Addr) (hp : Addr) (gl : Addr) (g1 : Addr) (g0 : Addr) (z : Addr) (nst : Nat) (og : Obj) (oz : Obj) : Prop := ∀ (B : Below A₀ base outer h₀) (F : Fr h₀ L s.heap m) (X₀ : (hd.heap_1 w.params).In h₀) (N : News h₀ L s.heap ((st, (⟨.ref 1139, some dst, .plain, #[]⟩ : Obj)) :: (dst, dictOf [⟨PyData.keyHash w.params (Str.ofString "heap"), .str (Str.ofString "heap") ta, .ref hp⟩, ⟨PyData.keyHash w.params (Str.ofString "globs"), .str (Str.ofString "globs") tb1, .ref gl⟩, ⟨PyData.keyHash w.params (Str.ofString "generation"), .str (Str.ofString "generation") tc, .int 1 td⟩] nst) :: (gl, og) :: (z, oz) :: [])) (T : Top pT looseT mean mg mb h₀) (hke : cs.kind = .function) (hroom : d < 700) (hun : u < 2000) (lo : (gl == sysModules) = false) (hog : og.IsDictOf (strKind PySem.Challenge.rw_qz0130_01.row.prog w) [(Str.ofString "P::go", .ref g1), (Str.ofString "main::_", .ref g0)]) (k : ∀ h' tk l tu nu, Fr h₀ L h' m → News h₀ L h' ((l, listOf #[.str (Str.ofString "P") t, .str (Str.ofString "UNIVERSAL") tu] nu) :: ((st, (⟨.ref 1139, some dst, .plain, #[]⟩ : Obj)) :: (dst, dictOf [⟨PyData.keyHash w.params (Str.ofString "heap"), .str (Str.ofString "heap") ta, .ref hp⟩, ⟨PyData.keyHash w.params (Str.ofString "globs"), .str (Str.ofString "globs") tb1, .ref gl⟩, ⟨PyData.keyHash w.params (Str.ofString "generation"), .str (Str.ofString "generation") tc, .int 1 td⟩] nst) :: (gl, og) :: (z, oz) :: [])) → (∀ b o, s.heap.get? b = some o → b ∉ [st, dst, gl, z] → h'.get? b = some o) → @LT.lt Nat _ z l → R (.ok (.ret (.ref l))) { s with heap := h', toks := tk }), codeAny (model PySem.Challenge.rw_qz0130_01.row.prog w) (Around.mk none d (some (envOf cn cs L ca ccd :: outer)) gs u) (.call (.ref 625) ⟨[.ref st, .str (Str.ofString "P") t], []⟩) R s
def whole_P_P (c : EC) : Prop := whole_P_S (c.wo 0) (c.ar 0) (c.hp 0) (c.hp 1) (c.le 0) (c.ad 0) (c.mp 0) (c.mp 1) (c.mp 2) (c.en 0) (c.pg 0) (c.ls 0) (c.sh 0) (c.rs 0) (c.sr 0) (c.sc 0) (c.ad 1) (c.va 0) (c.nt 0) (c.nt 1) (c.oc 0) (c.tk 0) (c.tk 1) (c.tk 2) (c.tk 3) (c.tk 4) (c.ad 2) (c.ad 3) (c.ad 4) (c.ad 5) (c.ad 6) (c.ad 7) (c.ad 8) (c.nt 2) (c.ob 0) (c.ob 1)
@[irreducible] noncomputable def whole_P_e : EC := @Classical.epsilon EC EC.ne fun c => ¬ whole_P_P c
theorem whole_P_eq : whole_P_e = @Classical.epsilon EC EC.ne fun c => ¬ whole_P_P c := by unfold whole_P_e; rfl
theorem whole_P_m : whole_P_P whole_P_e := by
  unfold whole_P_P whole_P_S
  intro B F X₀ N T hke hroom hun lo hog k
  revert X₀
  k_fill
  intro X₀
  refine' code_keepG B F X₀ N T rfl hke ?k6 ?k7 ?k8 ?kn ?k9 ?kB ?_ ?c2 ?c3 ?c4 ?c5
  case k6 => k_is
  case k7 => k_is
  case k8 => k_room
  case k9 => exact BindsTo.of_eq rfl
  case kB => exact locs rfl
  case kn => first | exact (rfl : _ = 1) | exact (rfl : _ = 2) | exact (rfl : _ = 3) | exact (rfl : _ = 4) | exact (rfl : _ = 5) | exact (rfl : _ = 6) | exact (rfl : _ = 7)
  case c2 => exact rfl
  case c3 => exact rfl
  case c4 => exact rfl
  case c5 => decide
  intro h' FG' F' N' B' X' T' hkeep
  clear B F X₀ N T
  (try dsimp only)
  repeat' (first | (k_unfold; (try dsimp only)) | (k_end; wrow_close) | (with_reducible ((with_reducible show wpAny _ _ (pyIter (Value.ref _)) (fun it s₂ => LoopAtV _ _ _ _ _ _ _ _ _ it s₂) _ _); k_listUnr)) | (with_reducible ((with_reducible show wpAny _ _ (call (Value.builtin _) [Value.ref _, _]) _ _ _); k_dflt (refine' append_K ?k1q ?k2q ?k3q ?_ ?zq; (case k1q => k_asm); (case k2q => k_asm); (case k3q => k_upd); (case zq => size_fits); k_whole); intro h'9 F'9 N'9; (try simp only [List.push_toArray, List.cons_append, List.nil_append] at N'9); (try k_sweep))) | ((with_reducible show wpAny _ _ (call (Value.ref _) _ _) _ _ _); k_dflt ((refine wpAny_call ?_); (first | (refine' line_P_use ?fB ?fF ?fX ?fN ?fT ?fk ?fd ?fu ?lo ?hog ?hz ?hsub ?_; (case fN => k_asm); (case hsub => k_allIn); (case hz => (first | exact hz_head (by with_reducible assumption) | assumption)); (case lo => first | k_asm | k_ne | omega); (case hog => first | k_asm | k_ne | omega); (case fB => k_asm); (case fF => k_asm); (case fX => k_asm); (case fT => k_asm); (case fk => exact rfl); (case fd => ((try simp only [depth_under_make, depth_under_kw, depth_in1, depth_deeper, depth_caller]); (try dsimp only [Around.deeper, Around.in1, Around.mark]); first | walk_at "room" | decide)); (case fu => k_units); k_whole; intro h'9 tk9 l9 F'9 N'9 l19; (try dsimp only at N'9); (try dsimp only); (try k_sweep)) | (refine' line_U_use ?fB ?fF ?fX ?fN ?fT ?fk ?fd ?fu ?lo ?hog ?hz ?hsub ?_; (case fN => k_asm); (case hsub => k_allIn); (case hz => (first | exact hz_head (by with_reducible assumption) | assumption)); (case lo => first | k_asm | k_ne | omega); (case hog => first | k_asm | k_ne | omega); (case fB => k_asm); (case fF => k_asm); (case fX => k_asm); (case fT => k_asm); (case fk => exact rfl); (case fd => ((try simp only [depth_under_make, depth_under_kw, depth_in1, depth_deeper, depth_caller]); (try dsimp only [Around.deeper, Around.in1, Around.mark]); first | walk_at "room" | decide)); (case fu => k_units); k_whole; intro h'9 tk9 l9 F'9 N'9 l19; (try dsimp only at N'9); (try dsimp only); (try k_sweep))))) | (walk1; (try (with_reducible refine tok3 ?_; intro tk))) | dsimp only | (leave1; (try dsimp only)) | fail "no step")
  all_goals (try dsimp only)
  all_goals (refine' leaveK_ ?k1 ?k2 ?_; (case k1 => assumption); (case k2 => assumption); intro kF kN)
  all_goals (have hkeep' := fun b o e q => Fr.keep (by assumption : Fr (gOf _ _) (LOf _) _ _) b o (hkeep b o e q))
  all_goals (refine k _ _ _ _ _ kF (news_sub kN (by k_allIn)) hkeep' (lt_all (by with_reducible assumption) (by k_mem)))
theorem whole_P {w : World} {A₀ : Around} {base : Heap} {h₀ : Heap} {outer : List Env} {L : Addr} {m : Str → Option Value} {mg : Str → Option Value} {mb : Str → Option Value} {mean : ExcName → Option Value} {pT : Program} {looseT : List Str} {s : Shared} {R : Result → Shared → Prop} {cn : Str} {cs : Scope} {ca : Addr} {ccd : Value} {d : Nat} {u : Nat} {gs : Option (List Code)} {t : Tok} {ta : Tok} {tb1 : Tok} {tc : Tok} {td : Tok} {st : Addr} {dst : Addr} {hp : Addr} {gl : Addr} {g1 : Addr} {g0 : Addr} {z : Addr} {nst : Nat} {og : Obj} {oz : Obj} : whole_P_S w A₀ base h₀ outer L m mg mb mean pT looseT s R cn cs ca ccd d u gs t ta tb1 tc td st dst hp gl g1 g0 z nst og oz := @ec_all whole_P_P (whole_P_eq ▸ whole_P_m) { wo := fun n => [w].getD n (aWorld 1), ar := fun n => [A₀].getD n (callerA), hp := fun n => [base, h₀].getD n (default), le := fun n => [outer].getD n ([]), ad := fun n => [L, ca, st, dst, hp, gl, g1, g0, z].getD n (0), mp := fun n => [m, mg, mb].getD n (fun _ => none), en := fun n => [mean].getD n (fun _ => none), pg := fun n => [pT].getD n (default), ls := fun n => [looseT].getD n ([]), sh := fun n => [s].getD n ⟨default, #[], {}, 0, {}⟩, rs := fun n => [R].getD n (fun _ _ => True), sr := fun n => [cn].getD n (default), sc := fun n => [cs].getD n (default), va := fun n => [ccd].getD n (.none), nt := fun n => [d, u, nst].getD n (0), oc := fun n => [gs].getD n (none), tk := fun n => [t, ta, tb1, tc, td].getD n (0), ob := fun n => [og, oz].getD n (default), iz := fun _ => (0), lv := fun _ => ([]), ll := fun _ => ([]), oa := fun _ => (none), fd := fun _ => (default), av := fun _ => (#[]), li := fun _ => ([]), aw := fun _ => (#[]), ev := fun _ => (default) }
theorem whole_P_use {w : World} {A₀ : Around} {base h₀ : Heap} {outer : List Env} {L : Addr} {m mg mb : Str → Option Value} {mean : ExcName → Option Value} {pT : Program} {looseT : List Str} {s : Shared} {R : Result → Shared → Prop}
    {cn : Str} {cs : Scope} {ca : Addr} {ccd : Value} {d u : Nat} {gs : Option (List Code)}
    {t ta tb1 tc td : Tok} {st dst hp gl g1 g0 z : Addr} {nst : Nat} {og oz : Obj} {full : List (Addr × Obj)}
    (B : Below A₀ base outer h₀) (F : Fr h₀ L s.heap m) (X₀ : (hd.heap_1 w.params).In h₀) (N : News h₀ L s.heap full) (T : Top pT looseT mean mg mb h₀)
    (hke : cs.kind = .function) (hroom : d < 700) (hun : u < 2000)
    (lo : (gl == sysModules) = false) (hog : og.IsDictOf (strKind PySem.Challenge.rw_qz0130_01.row.prog w) [(Str.ofString "P::go", .ref g1), (Str.ofString "main::_", .ref g0)]) (hz : ∀ p ∈ full, @LE.le Nat _ p.1 z) (hsub : ∀ p ∈ ((st, (⟨.ref 1139, some dst, .plain, #[]⟩ : Obj)) :: (dst, dictOf [⟨PyData.keyHash w.params (Str.ofString "heap"), .str (Str.ofString "heap") ta, .ref hp⟩, ⟨PyData.keyHash w.params (Str.ofString "globs"), .str (Str.ofString "globs") tb1, .ref gl⟩, ⟨PyData.keyHash w.params (Str.ofString "generation"), .str (Str.ofString "generation") tc, .int 1 td⟩] nst) :: (gl, og) :: (z, oz) :: []), p ∈ full)
    (k : ∀ h' tk l tu nu, Fr h₀ L h' m → News h₀ L h' ((l, listOf #[.str (Str.ofString "P") t, .str (Str.ofString "UNIVERSAL") tu] nu) :: full) → (∀ p ∈ full, p.1 < l) → R (.ok (.ret (.ref l))) { s with heap := h', toks := tk }) :
    codeAny (model PySem.Challenge.rw_qz0130_01.row.prog w) (Around.mk none d (some (envOf cn cs L ca ccd :: outer)) gs u) (.call (.ref 625) ⟨[.ref st, .str (Str.ofString "P") t], []⟩) R s :=
  whole_P B F X₀ (news_sub N hsub) T hke hroom hun lo hog fun h' tk l tu nu F' N' K l1 => k h' tk l tu nu F' (news_two (a := [(l, listOf #[.str (Str.ofString "P") t, .str (Str.ofString "UNIVERSAL") tu] nu)]) (fun p hp => N' p (by rw [List.mem_singleton.mp hp]; exact .head _)) (news_all N (keep_all (news_sub N hsub) (fun p hp => N' p (.tail _ hp)) K))) fun p hp => Nat.lt_of_le_of_lt (hz p hp) l1
end
section
def cut_go_S (w : World) (A₀ : Around) (base : Heap) (h₀ : Heap) (outer : List Env) (L : Addr) (m : Str → Option Value) (mg : Str → Option Value) (mb : Str → Option Value) (mean : ExcName → Option Value) (pT : Program) (looseT : List Str) (s : Shared) (R : Result → Shared → Prop) (cn : Str) (cs : Scope) (ca : Addr) (ccd : Value) (d : Nat) (u : Nat) (gs : Option (List Code)) (t : Tok) (z : Addr) (oz : Obj) : Prop := ∀ (B : Below A₀ base outer h₀) (F : Fr h₀ L s.heap m) (X₀ : (hd.heap_1 w.params).In h₀) (N : News h₀ L s.heap ((z, oz) :: [])) (T : Top pT looseT mean mg mb h₀) (hke : cs.kind = .function) (hroom : d < 700) (hun : u < 2000) (k : ∀ h' tk l t1 t2, Fr h₀ L h' m → News h₀ L h' ((l, (⟨.type "tuple", none, .seq #[.str (Str.ofString "") t1, .str (Str.ofString "go") t2], #[]⟩ : Obj)) :: ((z, oz) :: [])) → (∀ b o, s.heap.get? b = some o → b ∉ [z] → h'.get? b = some o) → @LT.lt Nat _ z l → R (.ok (.ret (.ref l))) { s with heap := h', toks := tk }), codeAny (model PySem.Challenge.rw_qz0130_01.row.prog w) (Around.mk none d (some (envOf cn cs L ca ccd :: outer)) gs u) (.call (.ref 667) ⟨[.str (Str.ofString "go") t], []⟩) R s
def cut_go_P (c : EC) : Prop := cut_go_S (c.wo 0) (c.ar 0) (c.hp 0) (c.hp 1) (c.le 0) (c.ad 0) (c.mp 0) (c.mp 1) (c.mp 2) (c.en 0) (c.pg 0) (c.ls 0) (c.sh 0) (c.rs 0) (c.sr 0) (c.sc 0) (c.ad 1) (c.va 0) (c.nt 0) (c.nt 1) (c.oc 0) (c.tk 0) (c.ad 2) (c.ob 0)
@[irreducible] noncomputable def cut_go_e : EC := @Classical.epsilon EC EC.ne fun c => ¬ cut_go_P c
theorem cut_go_eq : cut_go_e = @Classical.epsilon EC EC.ne fun c => ¬ cut_go_P c := by unfold cut_go_e; rfl
theorem cut_go_m : cut_go_P cut_go_e := by
  unfold cut_go_P cut_go_S
  intro B F X₀ N T hke hroom hun k
  revert X₀
  k_fill
  intro X₀
  refine' code_keepG B F X₀ N T rfl hke ?k6 ?k7 ?k8 ?kn ?k9 ?kB ?_ ?c2 ?c3 ?c4 ?c5
  case k6 => k_is
  case k7 => k_is
  case k8 => k_room
  case k9 => exact BindsTo.of_eq rfl
  case kB => exact locs rfl
  case kn => first | exact (rfl : _ = 1) | exact (rfl : _ = 2) | exact (rfl : _ = 3) | exact (rfl : _ = 4) | exact (rfl : _ = 5) | exact (rfl : _ = 6) | exact (rfl : _ = 7)
  case c2 => exact rfl
  case c3 => exact rfl
  case c4 => exact rfl
  case c5 => decide
  intro h' FG' F' N' B' X' T' hkeep
  clear B F X₀ N T
  (try dsimp only)
  k_steps
  all_goals (try dsimp only)
  all_goals (refine' leaveK_ ?k1 ?k2 ?_; (case k1 => assumption); (case k2 => assumption); intro kF kN)
  all_goals (have hkeep' := fun b o e q => Fr.keep (by assumption : Fr (gOf _ _) (LOf _) _ _) b o (hkeep b o e q))
  all_goals (refine k _ _ _ _ _ kF (news_sub kN (by k_allIn)) hkeep' (lt_all (by with_reducible assumption) (by k_mem)))
theorem cut_go {w : World} {A₀ : Around} {base : Heap} {h₀ : Heap} {outer : List Env} {L : Addr} {m : Str → Option Value} {mg : Str → Option Value} {mb : Str → Option Value} {mean : ExcName → Option Value} {pT : Program} {looseT : List Str} {s : Shared} {R : Result → Shared → Prop} {cn : Str} {cs : Scope} {ca : Addr} {ccd : Value} {d : Nat} {u : Nat} {gs : Option (List Code)} {t : Tok} {z : Addr} {oz : Obj} : cut_go_S w A₀ base h₀ outer L m mg mb mean pT looseT s R cn cs ca ccd d u gs t z oz := @ec_all cut_go_P (cut_go_eq ▸ cut_go_m) { wo := fun n => [w].getD n (aWorld 1), ar := fun n => [A₀].getD n (callerA), hp := fun n => [base, h₀].getD n (default), le := fun n => [outer].getD n ([]), ad := fun n => [L, ca, z].getD n (0), mp := fun n => [m, mg, mb].getD n (fun _ => none), en := fun n => [mean].getD n (fun _ => none), pg := fun n => [pT].getD n (default), ls := fun n => [looseT].getD n ([]), sh := fun n => [s].getD n ⟨default, #[], {}, 0, {}⟩, rs := fun n => [R].getD n (fun _ _ => True), sr := fun n => [cn].getD n (default), sc := fun n => [cs].getD n (default), va := fun n => [ccd].getD n (.none), nt := fun n => [d, u].getD n (0), oc := fun n => [gs].getD n (none), tk := fun n => [t].getD n (0), ob := fun n => [oz].getD n (default), iz := fun _ => (0), lv := fun _ => ([]), ll := fun _ => ([]), oa := fun _ => (none), fd := fun _ => (default), av := fun _ => (#[]), li := fun _ => ([]), aw := fun _ => (#[]), ev := fun _ => (default) }
theorem cut_go_use {w : World} {A₀ : Around} {base h₀ : Heap} {outer : List Env} {L : Addr} {m mg mb : Str → Option Value} {mean : ExcName → Option Value} {pT : Program} {looseT : List Str} {s : Shared} {R : Result → Shared → Prop}
    {cn : Str} {cs : Scope} {ca : Addr} {ccd : Value} {d u : Nat} {gs : Option (List Code)}
    {t : Tok} {z : Addr} {oz : Obj} {full : List (Addr × Obj)}
    (B : Below A₀ base outer h₀) (F : Fr h₀ L s.heap m) (X₀ : (hd.heap_1 w.params).In h₀) (N : News h₀ L s.heap full) (T : Top pT looseT mean mg mb h₀)
    (hke : cs.kind = .function) (hroom : d < 700) (hun : u < 2000)
     (hz : ∀ p ∈ full, @LE.le Nat _ p.1 z) (hsub : ∀ p ∈ ((z, oz) :: []), p ∈ full)
    (k : ∀ h' tk l t1 t2, Fr h₀ L h' m → News h₀ L h' ((l, (⟨.type "tuple", none, .seq #[.str (Str.ofString "") t1, .str (Str.ofString "go") t2], #[]⟩ : Obj)) :: full) → (∀ p ∈ full, p.1 < l) → R (.ok (.ret (.ref l))) { s with heap := h', toks := tk }) :
    codeAny (model PySem.Challenge.rw_qz0130_01.row.prog w) (Around.mk none d (some (envOf cn cs L ca ccd :: outer)) gs u) (.call (.ref 667) ⟨[.str (Str.ofString "go") t], []⟩) R s :=
  cut_go B F X₀ (news_sub N hsub) T hke hroom hun  fun h' tk l t1 t2 F' N' K l1 => k h' tk l t1 t2 F' (news_two (a := [(l, (⟨.type "tuple", none, .seq #[.str (Str.ofString "") t1, .str (Str.ofString "go") t2], #[]⟩ : Obj))]) (fun p hp => N' p (by rw [List.mem_singleton.mp hp]; exact .head _)) (news_all N (keep_all (news_sub N hsub) (fun p hp => N' p (.tail _ hp)) K))) fun p hp => Nat.lt_of_le_of_lt (hz p hp) l1
end
section
def find_fresh_S (w : World) (A₀ : Around) (base : Heap) (h₀ : Heap) (outer : List Env) (L : Addr) (m : Str → Option Value) (mg : Str → Option Value) (mb : Str → Option Value) (mean : ExcName → Option Value) (pT : Program) (looseT : List Str) (s : Shared) (R : Result → Shared → Prop) (cn : Str) (cs : Scope) (ca : Addr) (ccd : Value) (d : Nat) (u : Nat) (gs : Option (List Code)) (t : Tok) (ta : Tok) (tb1 : Tok) (tc : Tok) (td : Tok) (va : Tok) (vb : Tok) (vc : Tok) (tp : Tok) (tu : Tok) (gaa : Tok) (gab : Tok) (gac : Tok) (gad : Tok) (gae : Tok) (gaf : Tok) (gag : Tok) (gah : Tok) (gai : Tok) (gaj : Tok) (gak : Tok) (gal : Tok) (gam : Tok) (gao : Tok) (st : Addr) (dst : Addr) (hp : Addr) (gl : Addr) (mc : Addr) (dmc : Addr) (tb : Addr) (g1 : Addr) (dg1 : Addr) (gaw : Addr) (cd : Addr) (g0 : Addr) (ln : Addr) (z : Addr) (nst : Nat) (ng1 : Nat) (nu : Nat) (og : Obj) (otb : Obj) (oz : Obj) (gan0 : Int) (gan : Int) : Prop := ∀ (B : Below A₀ base outer h₀) (F : Fr h₀ L s.heap m) (X₀ : (hd.heap_1 w.params).In h₀) (N : News h₀ L s.heap ((mc, (⟨.ref 656, some dmc, .plain, #[]⟩ : Obj)) :: (dmc, dictOf [⟨PyData.keyHash w.params (Str.ofString "generation"), .str (Str.ofString "generation") va, .int (-1) vb⟩, ⟨PyData.keyHash w.params (Str.ofString "table"), .str (Str.ofString "table") vc, .ref tb⟩] 2) :: (tb, otb) :: (st, (⟨.ref 1139, some dst, .plain, #[]⟩ : Obj)) :: (dst, dictOf [⟨PyData.keyHash w.params (Str.ofString "heap"), .str (Str.ofString "heap") ta, .ref hp⟩, ⟨PyData.keyHash w.params (Str.ofString "globs"), .str (Str.ofString "globs") tb1, .ref gl⟩, ⟨PyData.keyHash w.params (Str.ofString "generation"), .str (Str.ofString "generation") tc, .int 1 td⟩] nst) :: (gl, og) :: (g1, (⟨.ref 142, some dg1, .plain, #[]⟩ : Obj)) :: (dg1, dictOf [⟨PyData.keyHash w.params (Str.ofString "number"), .str (Str.ofString "number") gaa, .int gan0 gab⟩, ⟨PyData.keyHash w.params (Str.ofString "count"), .str (Str.ofString "count") gac, .int gan gad⟩, ⟨PyData.keyHash w.params (Str.ofString "blessed"), .str (Str.ofString "blessed") gae, .none⟩, ⟨PyData.keyHash w.params (Str.ofString "weak"), .str (Str.ofString "weak") gaf, .ref gaw⟩, ⟨PyData.keyHash w.params (Str.ofString "is_destroyed"), .str (Str.ofString "is_destroyed") gag, .bool false⟩, ⟨PyData.keyHash w.params (Str.ofString "is_freed"), .str (Str.ofString "is_freed") gah, .bool false⟩, ⟨PyData.keyHash w.params (Str.ofString "name"), .str (Str.ofString "name") gai, .str (Str.ofString "P::go") gaj⟩, ⟨PyData.keyHash w.params (Str.ofString "scalar"), .str (Str.ofString "scalar") gak, .none⟩, ⟨PyData.keyHash w.params (Str.ofString "array"), .str (Str.ofString "array") gal, .none⟩, ⟨PyData.keyHash w.params (Str.ofString "hash"), .str (Str.ofString "hash") gam, .none⟩, ⟨PyData.keyHash w.params (Str.ofString "code"), .str (Str.ofString "code") gao, .ref cd⟩] ng1) :: (ln, listOf #[.str (Str.ofString "P") tp, .str (Str.ofString "UNIVERSAL") tu] nu) :: (z, oz) :: [])) (T : Top pT looseT mean mg mb h₀) (hke : cs.kind = .function) (hroom : d < 700) (hun : u < 2000) (lo : (gl == sysModules) = false) (hog : og.IsDictOf (strKind PySem.Challenge.rw_qz0130_01.row.prog w) [(Str.ofString "P::go", .ref g1), (Str.ofString "main::_", .ref g0)]) (lo2 : (tb == sysModules) = false) (hb1 : otb.IsDictOf (strKind PySem.Challenge.rw_qz0130_01.row.prog w) []) (o1 : @Ne Nat st dmc) (o2 : @Ne Nat dst dmc) (o3 : @Ne Nat gl dmc) (o4 : @Ne Nat g1 dmc) (o5 : @Ne Nat dg1 dmc) (o6 : @Ne Nat mc dmc) (o7 : @Ne Nat tb dmc) (o8 : @Ne Nat ln dmc) (o9 : @Ne Nat z dmc) (k : ∀ h' tk tb2 otb2 kv kt kd ktv ktt ktp ktu, Fr h₀ L h' m → News h₀ L h' ((kv, (⟨.type "tuple", none, .seq #[.ref cd, .str (Str.ofString "P") ktv], #[]⟩ : Obj)) :: (kt, (⟨.type "tuple", none, .seq #[.str (Str.ofString "go") ktt, .ref kd], #[]⟩ : Obj)) :: (kd, (⟨.type "tuple", none, .seq #[.str (Str.ofString "P") ktp, .str (Str.ofString "UNIVERSAL") ktu], #[]⟩ : Obj)) :: ((mc, (⟨.ref 656, some dmc, .plain, #[]⟩ : Obj)) :: (dmc, dictOf [⟨PyData.keyHash w.params (Str.ofString "generation"), .str (Str.ofString "generation") va, .int 1 td⟩, ⟨PyData.keyHash w.params (Str.ofString "table"), .str (Str.ofString "table") vc, .ref tb2⟩] 2) :: (tb2, otb2) :: (tb, otb) :: (st, (⟨.ref 1139, some dst, .plain, #[]⟩ : Obj)) :: (dst, dictOf [⟨PyData.keyHash w.params (Str.ofString "heap"), .str (Str.ofString "heap") ta, .ref hp⟩, ⟨PyData.keyHash w.params (Str.ofString "globs"), .str (Str.ofString "globs") tb1, .ref gl⟩, ⟨PyData.keyHash w.params (Str.ofString "generation"), .str (Str.ofString "generation") tc, .int 1 td⟩] nst) :: (gl, og) :: (g1, (⟨.ref 142, some dg1, .plain, #[]⟩ : Obj)) :: (dg1, dictOf [⟨PyData.keyHash w.params (Str.ofString "number"), .str (Str.ofString "number") gaa, .int gan0 gab⟩, ⟨PyData.keyHash w.params (Str.ofString "count"), .str (Str.ofString "count") gac, .int gan gad⟩, ⟨PyData.keyHash w.params (Str.ofString "blessed"), .str (Str.ofString "blessed") gae, .none⟩, ⟨PyData.keyHash w.params (Str.ofString "weak"), .str (Str.ofString "weak") gaf, .ref gaw⟩, ⟨PyData.keyHash w.params (Str.ofString "is_destroyed"), .str (Str.ofString "is_destroyed") gag, .bool false⟩, ⟨PyData.keyHash w.params (Str.ofString "is_freed"), .str (Str.ofString "is_freed") gah, .bool false⟩, ⟨PyData.keyHash w.params (Str.ofString "name"), .str (Str.ofString "name") gai, .str (Str.ofString "P::go") gaj⟩, ⟨PyData.keyHash w.params (Str.ofString "scalar"), .str (Str.ofString "scalar") gak, .none⟩, ⟨PyData.keyHash w.params (Str.ofString "array"), .str (Str.ofString "array") gal, .none⟩, ⟨PyData.keyHash w.params (Str.ofString "hash"), .str (Str.ofString "hash") gam, .none⟩, ⟨PyData.keyHash w.params (Str.ofString "code"), .str (Str.ofString "code") gao, .ref cd⟩] ng1) :: (ln, listOf #[.str (Str.ofString "P") tp, .str (Str.ofString "UNIVERSAL") tu] nu) :: (z, oz) :: [])) → (∀ b o, s.heap.get? b = some o → b ∉ [mc, dmc, tb, st, dst, gl, g1, dg1, ln, z] → h'.get? b = some o) → MT PySem.Challenge.rw_qz0130_01.row.prog w otb2 (Str.ofString "go", [Str.ofString "P", Str.ofString "UNIVERSAL"]) kt (.ref kv) → (tb2 == sysModules) = false → @LT.lt Nat _ z tb2 → @LT.lt Nat _ tb2 kd → @LT.lt Nat _ kd kt → @LT.lt Nat _ kt kv → R (.ok (.ret (.ref kv))) { s with heap := h', toks := tk }), codeAny (model PySem.Challenge.rw_qz0130_01.row.prog w) (Around.mk none d (some (envOf cn cs L ca ccd :: outer)) gs u) (.call (.ref 653) ⟨[.ref mc, .ref st, .ref ln, .str (Str.ofString "go") t], []⟩) R s
def find_fresh_P (c : EC) : Prop := ∀ (gan0 : Int) (gan : Int), find_fresh_S (c.wo 0) (c.ar 0) (c.hp 0) (c.hp 1) (c.le 0) (c.ad 0) (c.mp 0) (c.mp 1) (c.mp 2) (c.en 0) (c.pg 0) (c.ls 0) (c.sh 0) (c.rs 0) (c.sr 0) (c.sc 0) (c.ad 1) (c.va 0) (c.nt 0) (c.nt 1) (c.oc 0) (c.tk 0) (c.tk 1) (c.tk 2) (c.tk 3) (c.tk 4) (c.tk 5) (c.tk 6) (c.tk 7) (c.tk 8) (c.tk 9) (c.tk 10) (c.tk 11) (c.tk 12) (c.tk 13) (c.tk 14) (c.tk 15) (c.tk 16) (c.tk 17) (c.tk 18) (c.tk 19) (c.tk 20) (c.tk 21) (c.tk 22) (c.tk 23) (c.ad 2) (c.ad 3) (c.ad 4) (c.ad 5) (c.ad 6) (c.ad 7) (c.ad 8) (c.ad 9) (c.ad 10) (c.ad 11) (c.ad 12) (c.ad 13) (c.ad 14) (c.ad 15) (c.nt 2) (c.nt 3) (c.nt 4) (c.ob 0) (c.ob 1) (c.ob 2) gan0 gan
@[irreducible] noncomputable def find_fresh_e : EC := @Classical.epsilon EC EC.ne fun c => ¬ find_fresh_P c
theorem find_fresh_eq : find_fresh_e = @Classical.epsilon EC EC.ne fun c => ¬ find_fresh_P c := by unfold find_fresh_e; rfl
theorem find_fresh_m : find_fresh_P find_fresh_e := by
  unfold find_fresh_P find_fresh_S
  intro gan0 gan B F X₀ N T hke hroom hun lo hog lo2 hb1 o1 o2 o3 o4 o5 o6 o7 o8 o9 k
  revert X₀
  k_fill
  intro X₀
  refine' code_keepG B F X₀ N T rfl hke ?k6 ?k7 ?k8 ?kn ?k9 ?kB ?_ ?c2 ?c3 ?c4 ?c5
  case k6 => k_is
  case k7 => k_is
  case k8 => k_room
  case k9 => exact BindsTo.of_eq rfl
  case kB => exact locs rfl
  case kn => first | exact (rfl : _ = 1) | exact (rfl : _ = 2) | exact (rfl : _ = 3) | exact (rfl : _ = 4) | exact (rfl : _ = 5) | exact (rfl : _ = 6) | exact (rfl : _ = 7)
  case c2 => exact rfl
  case c3 => exact rfl
  case c4 => exact rfl
  case c5 => decide
  intro h' FG' F' N' B' X' T' hkeep
  clear B F X₀ N T
  (try dsimp only)
  repeat' (first | (k_unfold; (try dsimp only)) | (k_end; wrow_close) | (with_reducible ((with_reducible show wpAny _ _ (pyIter (Value.ref _)) (fun it s₂ => LoopAtV _ _ _ _ _ _ _ _ _ it s₂) _ _); k_listUnr)) | (with_reducible ((with_reducible show wpAny _ _ (subscriptTail _ _ (Value.ref _) (Value.ref _)) _ _ _); k_dflt (refine' mt_get ?fNq ?hdq ?heq ?haq ?hbq ?ha'q ?hb'q ?huq ?_; (case fNq => k_asm); (case hdq => k_mem); (case heq => k_asm); (case haq => k_mem); (case hbq => k_mem); (case ha'q => k_mem); (case hb'q => k_mem); (case huq => k_units)))) | (with_reducible ((with_reducible show wpAny _ _ (setItem (Value.ref _) (Value.ref _) _) _ _ _); k_dflt (refine' mt_set ?fFq ?fNq ?fUq ?heq ?haq ?hbq ?huq ?_; (case fFq => k_asm); (case fNq => k_asm); (case fUq => k_updF); (case heq => k_asm); (case haq => k_mem); (case hbq => k_mem); (case huq => k_units)); intro h'9 o'9 F'9 N'9 hMT'9; (try dsimp only at N'9); (try k_sweep))) | (with_reducible ((with_reducible show wpAny _ _ (compareOp CmpOp.NotIn (Value.ref _) (Value.ref _)) _ _ _); k_dflt (first | (refine' mt_notin0 ?fNq ?hdq ?loq ?heq ?haq ?hbq ?huq ?_; (case fNq => k_asm); (case hdq => k_mem); (case loq => k_asm); (case heq => k_asm); (case haq => k_mem); (case hbq => k_mem); (case huq => k_units)) | (refine' mt_notin1 ?fNq ?hdq ?loq ?heq ?haq ?hbq ?ha'q ?hb'q ?huq ?_; (case fNq => k_asm); (case hdq => k_mem); (case loq => k_asm); (case heq => k_asm); (case haq => k_mem); (case hbq => k_mem); (case ha'q => k_mem); (case hb'q => k_mem); (case huq => k_units))))) | (walk1; (try (with_reducible refine tok3 ?_; intro tk))) | dsimp only | (leave1; (try dsimp only)) | fail "no step")
  all_goals (try dsimp only)
  all_goals (refine' leaveK_ ?k1 ?k2 ?_; (case k1 => assumption); (case k2 => assumption); intro kF kN)
  all_goals (have hkeep' := fun b o e q => Fr.keep (by assumption : Fr (gOf _ _) (LOf _) _ _) b o (hkeep b o e q))
  all_goals (refine k _ _ _ _ _ _ _ _ _ _ _ kF (news_sub kN (by k_allIn)) hkeep' (by assumption) (by assumption) (lt_all (by with_reducible assumption) (by k_mem)) (lt_all (by with_reducible assumption) (by k_mem)) (lt_all (by with_reducible assumption) (by k_mem)) (lt_all (by with_reducible assumption) (by k_mem)))
theorem find_fresh {w : World} {A₀ : Around} {base : Heap} {h₀ : Heap} {outer : List Env} {L : Addr} {m : Str → Option Value} {mg : Str → Option Value} {mb : Str → Option Value} {mean : ExcName → Option Value} {pT : Program} {looseT : List Str} {s : Shared} {R : Result → Shared → Prop} {cn : Str} {cs : Scope} {ca : Addr} {ccd : Value} {d : Nat} {u : Nat} {gs : Option (List Code)} {t : Tok} {ta : Tok} {tb1 : Tok} {tc : Tok} {td : Tok} {va : Tok} {vb : Tok} {vc : Tok} {tp : Tok} {tu : Tok} {gaa : Tok} {gab : Tok} {gac : Tok} {gad : Tok} {gae : Tok} {gaf : Tok} {gag : Tok} {gah : Tok} {gai : Tok} {gaj : Tok} {gak : Tok} {gal : Tok} {gam : Tok} {gao : Tok} {st : Addr} {dst : Addr} {hp : Addr} {gl : Addr} {mc : Addr} {dmc : Addr} {tb : Addr} {g1 : Addr} {dg1 : Addr} {gaw : Addr} {cd : Addr} {g0 : Addr} {ln : Addr} {z : Addr} {nst : Nat} {ng1 : Nat} {nu : Nat} {og : Obj} {otb : Obj} {oz : Obj} {gan0 : Int} {gan : Int} : find_fresh_S w A₀ base h₀ outer L m mg mb mean pT looseT s R cn cs ca ccd d u gs t ta tb1 tc td va vb vc tp tu gaa gab gac gad gae gaf gag gah gai gaj gak gal gam gao st dst hp gl mc dmc tb g1 dg1 gaw cd g0 ln z nst ng1 nu og otb oz gan0 gan := @ec_all find_fresh_P (find_fresh_eq ▸ find_fresh_m) { wo := fun n => [w].getD n (aWorld 1), ar := fun n => [A₀].getD n (callerA), hp := fun n => [base, h₀].getD n (default), le := fun n => [outer].getD n ([]), ad := fun n => [L, ca, st, dst, hp, gl, mc, dmc, tb, g1, dg1, gaw, cd, g0, ln, z].getD n (0), mp := fun n => [m, mg, mb].getD n (fun _ => none), en := fun n => [mean].getD n (fun _ => none), pg := fun n => [pT].getD n (default), ls := fun n => [looseT].getD n ([]), sh := fun n => [s].getD n ⟨default, #[], {}, 0, {}⟩, rs := fun n => [R].getD n (fun _ _ => True), sr := fun n => [cn].getD n (default), sc := fun n => [cs].getD n (default), va := fun n => [ccd].getD n (.none), nt := fun n => [d, u, nst, ng1, nu].getD n (0), oc := fun n => [gs].getD n (none), tk := fun n => [t, ta, tb1, tc, td, va, vb, vc, tp, tu, gaa, gab, gac, gad, gae, gaf, gag, gah, gai, gaj, gak, gal, gam, gao].getD n (0), ob := fun n => [og, otb, oz].getD n (default), iz := fun _ => (0), lv := fun _ => ([]), ll := fun _ => ([]), oa := fun _ => (none), fd := fun _ => (default), av := fun _ => (#[]), li := fun _ => ([]), aw := fun _ => (#[]), ev := fun _ => (default) } gan0 gan
theorem find_fresh_use {w : World} {A₀ : Around} {base h₀ : Heap} {outer : List Env} {L : Addr} {m mg mb : Str → Option Value} {mean : ExcName → Option Value} {pT : Program} {looseT : List Str} {s : Shared} {R : Result → Shared → Prop}
    {cn : Str} {cs : Scope} {ca : Addr} {ccd : Value} {d u : Nat} {gs : Option (List Code)}
    {t ta tb1 tc td va vb vc tp tu gaa gab gac gad gae gaf gag gah gai gaj gak gal gam gao : Tok} {st dst hp gl mc dmc tb g1 dg1 gaw cd g0 ln z : Addr} {nst ng1 nu : Nat} {og otb oz : Obj} {gan0 gan : Int} {g : Obj → List (Addr × Obj)} {full : List (Addr × Obj)}
    (B : Below A₀ base outer h₀) (F : Fr h₀ L s.heap m) (X₀ : (hd.heap_1 w.params).In h₀) (N : News h₀ L s.heap full) (T : Top pT looseT mean mg mb h₀)
    (hke : cs.kind = .function) (hroom : d < 700) (hun : u < 2000)
    (lo : (gl == sysModules) = false) (hog : og.IsDictOf (strKind PySem.Challenge.rw_qz0130_01.row.prog w) [(Str.ofString "P::go", .ref g1), (Str.ofString "main::_", .ref g0)]) (lo2 : (tb == sysModules) = false) (hb1 : otb.IsDictOf (strKind PySem.Challenge.rw_qz0130_01.row.prog w) []) (o1 : @Ne Nat st dmc) (o2 : @Ne Nat dst dmc) (o3 : @Ne Nat gl dmc) (o4 : @Ne Nat g1 dmc) (o5 : @Ne Nat dg1 dmc) (o6 : @Ne Nat mc dmc) (o7 : @Ne Nat tb dmc) (o8 : @Ne Nat ln dmc) (o9 : @Ne Nat z dmc) (U : UpdF dmc (dictOf [⟨PyData.keyHash w.params (Str.ofString "generation"), .str (Str.ofString "generation") va, .int (-1) vb⟩, ⟨PyData.keyHash w.params (Str.ofString "table"), .str (Str.ofString "table") vc, .ref tb⟩] 2) full g) (hz : ∀ p ∈ full, @LE.le Nat _ p.1 z) (hsub : ∀ p ∈ ((mc, (⟨.ref 656, some dmc, .plain, #[]⟩ : Obj)) :: (dmc, dictOf [⟨PyData.keyHash w.params (Str.ofString "generation"), .str (Str.ofString "generation") va, .int (-1) vb⟩, ⟨PyData.keyHash w.params (Str.ofString "table"), .str (Str.ofString "table") vc, .ref tb⟩] 2) :: (tb, otb) :: (st, (⟨.ref 1139, some dst, .plain, #[]⟩ : Obj)) :: (dst, dictOf [⟨PyData.keyHash w.params (Str.ofString "heap"), .str (Str.ofString "heap") ta, .ref hp⟩, ⟨PyData.keyHash w.params (Str.ofString "globs"), .str (Str.ofString "globs") tb1, .ref gl⟩, ⟨PyData.keyHash w.params (Str.ofString "generation"), .str (Str.ofString "generation") tc, .int 1 td⟩] nst) :: (gl, og) :: (g1, (⟨.ref 142, some dg1, .plain, #[]⟩ : Obj)) :: (dg1, dictOf [⟨PyData.keyHash w.params (Str.ofString "number"), .str (Str.ofString "number") gaa, .int gan0 gab⟩, ⟨PyData.keyHash w.params (Str.ofString "count"), .str (Str.ofString "count") gac, .int gan gad⟩, ⟨PyData.keyHash w.params (Str.ofString "blessed"), .str (Str.ofString "blessed") gae, .none⟩, ⟨PyData.keyHash w.params (Str.ofString "weak"), .str (Str.ofString "weak") gaf, .ref gaw⟩, ⟨PyData.keyHash w.params (Str.ofString "is_destroyed"), .str (Str.ofString "is_destroyed") gag, .bool false⟩, ⟨PyData.keyHash w.params (Str.ofString "is_freed"), .str (Str.ofString "is_freed") gah, .bool false⟩, ⟨PyData.keyHash w.params (Str.ofString "name"), .str (Str.ofString "name") gai, .str (Str.ofString "P::go") gaj⟩, ⟨PyData.keyHash w.params (Str.ofString "scalar"), .str (Str.ofString "scalar") gak, .none⟩, ⟨PyData.keyHash w.params (Str.ofString "array"), .str (Str.ofString "array") gal, .none⟩, ⟨PyData.keyHash w.params (Str.ofString "hash"), .str (Str.ofString "hash") gam, .none⟩, ⟨PyData.keyHash w.params (Str.ofString "code"), .str (Str.ofString "code") gao, .ref cd⟩] ng1) :: (ln, listOf #[.str (Str.ofString "P") tp, .str (Str.ofString "UNIVERSAL") tu] nu) :: (z, oz) :: []), p ∈ full)
    (k : ∀ h' tk tb2 otb2 kv kt kd ktv ktt ktp ktu, Fr h₀ L h' m → News h₀ L h' ((kv, (⟨.type "tuple", none, .seq #[.ref cd, .str (Str.ofString "P") ktv], #[]⟩ : Obj)) :: (kt, (⟨.type "tuple", none, .seq #[.str (Str.ofString "go") ktt, .ref kd], #[]⟩ : Obj)) :: (kd, (⟨.type "tuple", none, .seq #[.str (Str.ofString "P") ktp, .str (Str.ofString "UNIVERSAL") ktu], #[]⟩ : Obj)) :: (tb2, otb2) :: g (dictOf [⟨PyData.keyHash w.params (Str.ofString "generation"), .str (Str.ofString "generation") va, .int 1 td⟩, ⟨PyData.keyHash w.params (Str.ofString "table"), .str (Str.ofString "table") vc, .ref tb2⟩] 2)) → MT PySem.Challenge.rw_qz0130_01.row.prog w otb2 (Str.ofString "go", [Str.ofString "P", Str.ofString "UNIVERSAL"]) kt (.ref kv) → (tb2 == sysModules) = false → (∀ p ∈ full, p.1 < tb2) → @LT.lt Nat _ tb2 kd → @LT.lt Nat _ kd kt → @LT.lt Nat _ kt kv → R (.ok (.ret (.ref kv))) { s with heap := h', toks := tk }) :
    codeAny (model PySem.Challenge.rw_qz0130_01.row.prog w) (Around.mk none d (some (envOf cn cs L ca ccd :: outer)) gs u) (.call (.ref 653) ⟨[.ref mc, .ref st, .ref ln, .str (Str.ofString "go") t], []⟩) R s :=
  find_fresh B F X₀ (news_sub N hsub) T hke hroom hun lo hog lo2 hb1 o1 o2 o3 o4 o5 o6 o7 o8 o9 fun h' tk tb2 otb2 kv kt kd ktv ktt ktp ktu F' N' K y1 y2 l1 l2 l3 l4 => by
    have y := keep_but (d := dmc) (o := dictOf [⟨PyData.keyHash w.params (Str.ofString "generation"), .str (Str.ofString "generation") va, .int (-1) vb⟩, ⟨PyData.keyHash w.params (Str.ofString "table"), .str (Str.ofString "table") vc, .ref tb⟩] 2) (o' := dictOf [⟨PyData.keyHash w.params (Str.ofString "generation"), .str (Str.ofString "generation") va, .int 1 td⟩, ⟨PyData.keyHash w.params (Str.ofString "table"), .str (Str.ofString "table") vc, .ref tb2⟩] 2) (news_sub N hsub) (by k_updF) (news_sub N' (by k_allIn)) K
    exact k h' tk tb2 otb2 kv kt kd ktv ktt ktp ktu F' (news_two (a := (kv, (⟨.type "tuple", none, .seq #[.ref cd, .str (Str.ofString "P") ktv], #[]⟩ : Obj)) :: (kt, (⟨.type "tuple", none, .seq #[.str (Str.ofString "go") ktt, .ref kd], #[]⟩ : Obj)) :: (kd, (⟨.type "tuple", none, .seq #[.str (Str.ofString "P") ktp, .str (Str.ofString "UNIVERSAL") ktu], #[]⟩ : Obj)) :: (tb2, otb2) :: []) (news_sub N' (by k_allIn)) (news_upd N U y.1 y.2)) y1 y2 (fun p hp => Nat.lt_of_le_of_lt (hz p hp) l1) l2 l3 l4
end
section
def find_kept_S (w : World) (A₀ : Around) (base : Heap) (h₀ : Heap) (outer : List Env) (L : Addr) (m : Str → Option Value) (mg : Str → Option Value) (mb : Str → Option Value) (mean : ExcName → Option Value) (pT : Program) (looseT : List Str) (s : Shared) (R : Result → Shared → Prop) (cn : Str) (cs : Scope) (ca : Addr) (ccd : Value) (d : Nat) (u : Nat) (gs : Option (List Code)) (t : Tok) (ta : Tok) (tb1 : Tok) (tc : Tok) (td : Tok) (va : Tok) (vb : Tok) (vc : Tok) (tp : Tok) (tu : Tok) (gaa : Tok) (gab : Tok) (gac : Tok) (gad : Tok) (gae : Tok) (gaf : Tok) (gag : Tok) (gah : Tok) (gai : Tok) (gaj : Tok) (gak : Tok) (gal : Tok) (gam : Tok) (gao : Tok) (ktv : Tok) (ktt : Tok) (ktp : Tok) (ktu : Tok) (kv : Addr) (kt : Addr) (kd : Addr) (st : Addr) (dst : Addr) (hp : Addr) (gl : Addr) (mc : Addr) (dmc : Addr) (tb : Addr) (g1 : Addr) (dg1 : Addr) (gaw : Addr) (cd : Addr) (g0 : Addr) (ln : Addr) (z : Addr) (nst : Nat) (ng1 : Nat) (nu : Nat) (og : Obj) (otb2 : Obj) (oz : Obj) (gan0 : Int) (gan : Int) : Prop := ∀ (B : Below A₀ base outer h₀) (F : Fr h₀ L s.heap m) (X₀ : (hd.heap_1 w.params).In h₀) (N : News h₀ L s.heap ((kv, (⟨.type "tuple", none, .seq #[.ref cd, .str (Str.ofString "P") ktv], #[]⟩ : Obj)) :: (kt, (⟨.type "tuple", none, .seq #[.str (Str.ofString "go") ktt, .ref kd], #[]⟩ : Obj)) :: (kd, (⟨.type "tuple", none, .seq #[.str (Str.ofString "P") ktp, .str (Str.ofString "UNIVERSAL") ktu], #[]⟩ : Obj)) :: ((mc, (⟨.ref 656, some dmc, .plain, #[]⟩ : Obj)) :: (dmc, dictOf [⟨PyData.keyHash w.params (Str.ofString "generation"), .str (Str.ofString "generation") va, .int 1 vb⟩, ⟨PyData.keyHash w.params (Str.ofString "table"), .str (Str.ofString "table") vc, .ref tb⟩] 2) :: (tb, otb2) :: (st, (⟨.ref 1139, some dst, .plain, #[]⟩ : Obj)) :: (dst, dictOf [⟨PyData.keyHash w.params (Str.ofString "heap"), .str (Str.ofString "heap") ta, .ref hp⟩, ⟨PyData.keyHash w.params (Str.ofString "globs"), .str (Str.ofString "globs") tb1, .ref gl⟩, ⟨PyData.keyHash w.params (Str.ofString "generation"), .str (Str.ofString "generation") tc, .int 1 td⟩] nst) :: (gl, og) :: (g1, (⟨.ref 142, some dg1, .plain, #[]⟩ : Obj)) :: (dg1, dictOf [⟨PyData.keyHash w.params (Str.ofString "number"), .str (Str.ofString "number") gaa, .int gan0 gab⟩, ⟨PyData.keyHash w.params (Str.ofString "count"), .str (Str.ofString "count") gac, .int gan gad⟩, ⟨PyData.keyHash w.params (Str.ofString "blessed"), .str (Str.ofString "blessed") gae, .none⟩, ⟨PyData.keyHash w.params (Str.ofString "weak"), .str (Str.ofString "weak") gaf, .ref gaw⟩, ⟨PyData.keyHash w.params (Str.ofString "is_destroyed"), .str (Str.ofString "is_destroyed") gag, .bool false⟩, ⟨PyData.keyHash w.params (Str.ofString "is_freed"), .str (Str.ofString "is_freed") gah, .bool false⟩, ⟨PyData.keyHash w.params (Str.ofString "name"), .str (Str.ofString "name") gai, .str (Str.ofString "P::go") gaj⟩, ⟨PyData.keyHash w.params (Str.ofString "scalar"), .str (Str.ofString "scalar") gak, .none⟩, ⟨PyData.keyHash w.params (Str.ofString "array"), .str (Str.ofString "array") gal, .none⟩, ⟨PyData.keyHash w.params (Str.ofString "hash"), .str (Str.ofString "hash") gam, .none⟩, ⟨PyData.keyHash w.params (Str.ofString "code"), .str (Str.ofString "code") gao, .ref cd⟩] ng1) :: (ln, listOf #[.str (Str.ofString "P") tp, .str (Str.ofString "UNIVERSAL") tu] nu) :: (z, oz) :: []))) (T : Top pT looseT mean mg mb h₀) (hke : cs.kind = .function) (hroom : d < 700) (hun : u < 2000) (lo : (gl == sysModules) = false) (hog : og.IsDictOf (strKind PySem.Challenge.rw_qz0130_01.row.prog w) [(Str.ofString "P::go", .ref g1), (Str.ofString "main::_", .ref g0)]) (lo2 : (tb == sysModules) = false) (hmt : MT PySem.Challenge.rw_qz0130_01.row.prog w otb2 (Str.ofString "go", [Str.ofString "P", Str.ofString "UNIVERSAL"]) kt (.ref kv)) (k : ∀ h' tk, Fr h₀ L h' m → News h₀ L h' ((kv, (⟨.type "tuple", none, .seq #[.ref cd, .str (Str.ofString "P") ktv], #[]⟩ : Obj)) :: (kt, (⟨.type "tuple", none, .seq #[.str (Str.ofString "go") ktt, .ref kd], #[]⟩ : Obj)) :: (kd, (⟨.type "tuple", none, .seq #[.str (Str.ofString "P") ktp, .str (Str.ofString "UNIVERSAL") ktu], #[]⟩ : Obj)) :: ((mc, (⟨.ref 656, some dmc, .plain, #[]⟩ : Obj)) :: (dmc, dictOf [⟨PyData.keyHash w.params (Str.ofString "generation"), .str (Str.ofString "generation") va, .int 1 vb⟩, ⟨PyData.keyHash w.params (Str.ofString "table"), .str (Str.ofString "table") vc, .ref tb⟩] 2) :: (tb, otb2) :: (st, (⟨.ref 1139, some dst, .plain, #[]⟩ : Obj)) :: (dst, dictOf [⟨PyData.keyHash w.params (Str.ofString "heap"), .str (Str.ofString "heap") ta, .ref hp⟩, ⟨PyData.keyHash w.params (Str.ofString "globs"), .str (Str.ofString "globs") tb1, .ref gl⟩, ⟨PyData.keyHash w.params (Str.ofString "generation"), .str (Str.ofString "generation") tc, .int 1 td⟩] nst) :: (gl, og) :: (g1, (⟨.ref 142, some dg1, .plain, #[]⟩ : Obj)) :: (dg1, dictOf [⟨PyData.keyHash w.params (Str.ofString "number"), .str (Str.ofString "number") gaa, .int gan0 gab⟩, ⟨PyData.keyHash w.params (Str.ofString "count"), .str (Str.ofString "count") gac, .int gan gad⟩, ⟨PyData.keyHash w.params (Str.ofString "blessed"), .str (Str.ofString "blessed") gae, .none⟩, ⟨PyData.keyHash w.params (Str.ofString "weak"), .str (Str.ofString "weak") gaf, .ref gaw⟩, ⟨PyData.keyHash w.params (Str.ofString "is_destroyed"), .str (Str.ofString "is_destroyed") gag, .bool false⟩, ⟨PyData.keyHash w.params (Str.ofString "is_freed"), .str (Str.ofString "is_freed") gah, .bool false⟩, ⟨PyData.keyHash w.params (Str.ofString "name"), .str (Str.ofString "name") gai, .str (Str.ofString "P::go") gaj⟩, ⟨PyData.keyHash w.params (Str.ofString "scalar"), .str (Str.ofString "scalar") gak, .none⟩, ⟨PyData.keyHash w.params (Str.ofString "array"), .str (Str.ofString "array") gal, .none⟩, ⟨PyData.keyHash w.params (Str.ofString "hash"), .str (Str.ofString "hash") gam, .none⟩, ⟨PyData.keyHash w.params (Str.ofString "code"), .str (Str.ofString "code") gao, .ref cd⟩] ng1) :: (ln, listOf #[.str (Str.ofString "P") tp, .str (Str.ofString "UNIVERSAL") tu] nu) :: (z, oz) :: [])) → (∀ b o, s.heap.get? b = some o → b ∉ [kv, kt, kd, mc, dmc, tb, st, dst, gl, g1, dg1, ln, z] → h'.get? b = some o) → R (.ok (.ret (.ref kv))) { s with heap := h', toks := tk }), codeAny (model PySem.Challenge.rw_qz0130_01.row.prog w) (Around.mk none d (some (envOf cn cs L ca ccd :: outer)) gs u) (.call (.ref 653) ⟨[.ref mc, .ref st, .ref ln, .str (Str.ofString "go") t], []⟩) R s
def find_kept_P (c : EC) : Prop := ∀ (gan0 : Int) (gan : Int), find_kept_S (c.wo 0) (c.ar 0) (c.hp 0) (c.hp 1) (c.le 0) (c.ad 0) (c.mp 0) (c.mp 1) (c.mp 2) (c.en 0) (c.pg 0) (c.ls 0) (c.sh 0) (c.rs 0) (c.sr 0) (c.sc 0) (c.ad 1) (c.va 0) (c.nt 0) (c.nt 1) (c.oc 0) (c.tk 0) (c.tk 1) (c.tk 2) (c.tk 3) (c.tk 4) (c.tk 5) (c.tk 6) (c.tk 7) (c.tk 8) (c.tk 9) (c.tk 10) (c.tk 11) (c.tk 12) (c.tk 13) (c.tk 14) (c.tk 15) (c.tk 16) (c.tk 17) (c.tk 18) (c.tk 19) (c.tk 20) (c.tk 21) (c.tk 22) (c.tk 23) (c.tk 24) (c.tk 25) (c.tk 26) (c.tk 27) (c.ad 2) (c.ad 3) (c.ad 4) (c.ad 5) (c.ad 6) (c.ad 7) (c.ad 8) (c.ad 9) (c.ad 10) (c.ad 11) (c.ad 12) (c.ad 13) (c.ad 14) (c.ad 15) (c.ad 16) (c.ad 17) (c.ad 18) (c.nt 2) (c.nt 3) (c.nt 4) (c.ob 0) (c.ob 1) (c.ob 2) gan0 gan
@[irreducible] noncomputable def find_kept_e : EC := @Classical.epsilon EC EC.ne fun c => ¬ find_kept_P c
theorem find_kept_eq : find_kept_e = @Classical.epsilon EC EC.ne fun c => ¬ find_kept_P c := by unfold find_kept_e; rfl
theorem find_kept_m : find_kept_P find_kept_e := by
  unfold find_kept_P find_kept_S
  intro gan0 gan B F X₀ N T hke hroom hun lo hog lo2 hmt k
  revert X₀
  k_fill
  intro X₀
  refine' code_keepG B F X₀ N T rfl hke ?k6 ?k7 ?k8 ?kn ?k9 ?kB ?_ ?c2 ?c3 ?c4 ?c5
  case k6 => k_is
  case k7 => k_is
  case k8 => k_room
  case k9 => exact BindsTo.of_eq rfl
  case kB => exact locs rfl
  case kn => first | exact (rfl : _ = 1) | exact (rfl : _ = 2) | exact (rfl : _ = 3) | exact (rfl : _ = 4) | exact (rfl : _ = 5) | exact (rfl : _ = 6) | exact (rfl : _ = 7)
  case c2 => exact rfl
  case c3 => exact rfl
  case c4 => exact rfl
  case c5 => decide
  intro h' FG' F' N' B' X' T' hkeep
  clear B F X₀ N T
  (try dsimp only)
  repeat' (first | (k_unfold; (try dsimp only)) | (k_end; wrow_close) | (with_reducible ((with_reducible show wpAny _ _ (subscriptTail _ _ (Value.ref _) (Value.ref _)) _ _ _); k_dflt (refine' mt_get ?fNq ?hdq ?heq ?haq ?hbq ?ha'q ?hb'q ?huq ?_; (case fNq => k_asm); (case hdq => k_mem); (case heq => k_asm); (case haq => k_mem); (case hbq => k_mem); (case ha'q => k_mem); (case hb'q => k_mem); (case huq => k_units)))) | (with_reducible ((with_reducible show wpAny _ _ (compareOp CmpOp.NotIn (Value.ref _) (Value.ref _)) _ _ _); k_dflt (first | (refine' mt_notin0 ?fNq ?hdq ?loq ?heq ?haq ?hbq ?huq ?_; (case fNq => k_asm); (case hdq => k_mem); (case loq => k_asm); (case heq => k_asm); (case haq => k_mem); (case hbq => k_mem); (case huq => k_units)) | (refine' mt_notin1 ?fNq ?hdq ?loq ?heq ?haq ?hbq ?ha'q ?hb'q ?huq ?_; (case fNq => k_asm); (case hdq => k_mem); (case loq => k_asm); (case heq => k_asm); (case haq => k_mem); (case hbq => k_mem); (case ha'q => k_mem); (case hb'q => k_mem); (case huq => k_units))))) | (walk1; (try (with_reducible refine tok3 ?_; intro tk))) | dsimp only | (leave1; (try dsimp only)) | fail "no step")
  all_goals (try dsimp only)
  all_goals (refine' leaveK_ ?k1 ?k2 ?_; (case k1 => assumption); (case k2 => assumption); intro kF kN)
  all_goals (have hkeep' := fun b o e q => Fr.keep (by assumption : Fr (gOf _ _) (LOf _) _ _) b o (hkeep b o e q))
  all_goals (refine k _ _ kF (news_sub kN (by k_allIn)) hkeep')
theorem find_kept {w : World} {A₀ : Around} {base : Heap} {h₀ : Heap} {outer : List Env} {L : Addr} {m : Str → Option Value} {mg : Str → Option Value} {mb : Str → Option Value} {mean : ExcName → Option Value} {pT : Program} {looseT : List Str} {s : Shared} {R : Result → Shared → Prop} {cn : Str} {cs : Scope} {ca : Addr} {ccd : Value} {d : Nat} {u : Nat} {gs : Option (List Code)} {t : Tok} {ta : Tok} {tb1 : Tok} {tc : Tok} {td : Tok} {va : Tok} {vb : Tok} {vc : Tok} {tp : Tok} {tu : Tok} {gaa : Tok} {gab : Tok} {gac : Tok} {gad : Tok} {gae : Tok} {gaf : Tok} {gag : Tok} {gah : Tok} {gai : Tok} {gaj : Tok} {gak : Tok} {gal : Tok} {gam : Tok} {gao : Tok} {ktv : Tok} {ktt : Tok} {ktp : Tok} {ktu : Tok} {kv : Addr} {kt : Addr} {kd : Addr} {st : Addr} {dst : Addr} {hp : Addr} {gl : Addr} {mc : Addr} {dmc : Addr} {tb : Addr} {g1 : Addr} {dg1 : Addr} {gaw : Addr} {cd : Addr} {g0 : Addr} {ln : Addr} {z : Addr} {nst : Nat} {ng1 : Nat} {nu : Nat} {og : Obj} {otb2 : Obj} {oz : Obj} {gan0 : Int} {gan : Int} : find_kept_S w A₀ base h₀ outer L m mg mb mean pT looseT s R cn cs ca ccd d u gs t ta tb1 tc td va vb vc tp tu gaa gab gac gad gae gaf gag gah gai gaj gak gal gam gao ktv ktt ktp ktu kv kt kd st dst hp gl mc dmc tb g1 dg1 gaw cd g0 ln z nst ng1 nu og otb2 oz gan0 gan := @ec_all find_kept_P (find_kept_eq ▸ find_kept_m) { wo := fun n => [w].getD n (aWorld 1), ar := fun n => [A₀].getD n (callerA), hp := fun n => [base, h₀].getD n (default), le := fun n => [outer].getD n ([]), ad := fun n => [L, ca, kv, kt, kd, st, dst, hp, gl, mc, dmc, tb, g1, dg1, gaw, cd, g0, ln, z].getD n (0), mp := fun n => [m, mg, mb].getD n (fun _ => none), en := fun n => [mean].getD n (fun _ => none), pg := fun n => [pT].getD n (default), ls := fun n => [looseT].getD n ([]), sh := fun n => [s].getD n ⟨default, #[], {}, 0, {}⟩, rs := fun n => [R].getD n (fun _ _ => True), sr := fun n => [cn].getD n (default), sc := fun n => [cs].getD n (default), va := fun n => [ccd].getD n (.none), nt := fun n => [d, u, nst, ng1, nu].getD n (0), oc := fun n => [gs].getD n (none), tk := fun n => [t, ta, tb1, tc, td, va, vb, vc, tp, tu, gaa, gab, gac, gad, gae, gaf, gag, gah, gai, gaj, gak, gal, gam, gao, ktv, ktt, ktp, ktu].getD n (0), ob := fun n => [og, otb2, oz].getD n (default), iz := fun _ => (0), lv := fun _ => ([]), ll := fun _ => ([]), oa := fun _ => (none), fd := fun _ => (default), av := fun _ => (#[]), li := fun _ => ([]), aw := fun _ => (#[]), ev := fun _ => (default) } gan0 gan
theorem find_kept_use {w : World} {A₀ : Around} {base h₀ : Heap} {outer : List Env} {L : Addr} {m mg mb : Str → Option Value} {mean : ExcName → Option Value} {pT : Program} {looseT : List Str} {s : Shared} {R : Result → Shared → Prop}
    {cn : Str} {cs : Scope} {ca : Addr} {ccd : Value} {d u : Nat} {gs : Option (List Code)}
    {t ta tb1 tc td va vb vc tp tu gaa gab gac gad gae gaf gag gah gai gaj gak gal gam gao ktv ktt ktp ktu : Tok} {kv kt kd : Addr} {st dst hp gl mc dmc tb g1 dg1 gaw cd g0 ln z : Addr} {nst ng1 nu : Nat} {og otb2 oz : Obj} {gan0 gan : Int} {full : List (Addr × Obj)}
    (B : Below A₀ base outer h₀) (F : Fr h₀ L s.heap m) (X₀ : (hd.heap_1 w.params).In h₀) (N : News h₀ L s.heap full) (T : Top pT looseT mean mg mb h₀)
    (hke : cs.kind = .function) (hroom : d < 700) (hun : u < 2000)
    (lo : (gl == sysModules) = false) (hog : og.IsDictOf (strKind PySem.Challenge.rw_qz0130_01.row.prog w) [(Str.ofString "P::go", .ref g1), (Str.ofString "main::_", .ref g0)]) (lo2 : (tb == sysModules) = false) (hmt : MT PySem.Challenge.rw_qz0130_01.row.prog w otb2 (Str.ofString "go", [Str.ofString "P", Str.ofString "UNIVERSAL"]) kt (.ref kv)) (hsub : ∀ p ∈ ((kv, (⟨.type "tuple", none, .seq #[.ref cd, .str (Str.ofString "P") ktv], #[]⟩ : Obj)) :: (kt, (⟨.type "tuple", none, .seq #[.str (Str.ofString "go") ktt, .ref kd], #[]⟩ : Obj)) :: (kd, (⟨.type "tuple", none, .seq #[.str (Str.ofString "P") ktp, .str (Str.ofString "UNIVERSAL") ktu], #[]⟩ : Obj)) :: ((mc, (⟨.ref 656, some dmc, .plain, #[]⟩ : Obj)) :: (dmc, dictOf [⟨PyData.keyHash w.params (Str.ofString "generation"), .str (Str.ofString "generation") va, .int 1 vb⟩, ⟨PyData.keyHash w.params (Str.ofString "table"), .str (Str.ofString "table") vc, .ref tb⟩] 2) :: (tb, otb2) :: (st, (⟨.ref 1139, some dst, .plain, #[]⟩ : Obj)) :: (dst, dictOf [⟨PyData.keyHash w.params (Str.ofString "heap"), .str (Str.ofString "heap") ta, .ref hp⟩, ⟨PyData.keyHash w.params (Str.ofString "globs"), .str (Str.ofString "globs") tb1, .ref gl⟩, ⟨PyData.keyHash w.params (Str.ofString "generation"), .str (Str.ofString "generation") tc, .int 1 td⟩] nst) :: (gl, og) :: (g1, (⟨.ref 142, some dg1, .plain, #[]⟩ : Obj)) :: (dg1, dictOf [⟨PyData.keyHash w.params (Str.ofString "number"), .str (Str.ofString "number") gaa, .int gan0 gab⟩, ⟨PyData.keyHash w.params (Str.ofString "count"), .str (Str.ofString "count") gac, .int gan gad⟩, ⟨PyData.keyHash w.params (Str.ofString "blessed"), .str (Str.ofString "blessed") gae, .none⟩, ⟨PyData.keyHash w.params (Str.ofString "weak"), .str (Str.ofString "weak") gaf, .ref gaw⟩, ⟨PyData.keyHash w.params (Str.ofString "is_destroyed"), .str (Str.ofString "is_destroyed") gag, .bool false⟩, ⟨PyData.keyHash w.params (Str.ofString "is_freed"), .str (Str.ofString "is_freed") gah, .bool false⟩, ⟨PyData.keyHash w.params (Str.ofString "name"), .str (Str.ofString "name") gai, .str (Str.ofString "P::go") gaj⟩, ⟨PyData.keyHash w.params (Str.ofString "scalar"), .str (Str.ofString "scalar") gak, .none⟩, ⟨PyData.keyHash w.params (Str.ofString "array"), .str (Str.ofString "array") gal, .none⟩, ⟨PyData.keyHash w.params (Str.ofString "hash"), .str (Str.ofString "hash") gam, .none⟩, ⟨PyData.keyHash w.params (Str.ofString "code"), .str (Str.ofString "code") gao, .ref cd⟩] ng1) :: (ln, listOf #[.str (Str.ofString "P") tp, .str (Str.ofString "UNIVERSAL") tu] nu) :: (z, oz) :: [])), p ∈ full)
    (k : ∀ h' tk, Fr h₀ L h' m → News h₀ L h' full → R (.ok (.ret (.ref kv))) { s with heap := h', toks := tk }) :
    codeAny (model PySem.Challenge.rw_qz0130_01.row.prog w) (Around.mk none d (some (envOf cn cs L ca ccd :: outer)) gs u) (.call (.ref 653) ⟨[.ref mc, .ref st, .ref ln, .str (Str.ofString "go") t], []⟩) R s :=
  find_kept B F X₀ (news_sub N hsub) T hke hroom hun lo hog lo2 hmt fun h' tk F' N' K => k h' tk F' (news_all N (keep_all (news_sub N hsub) N' K))
end
section
def init_heap_S (w : World) (A₀ : Around) (base : Heap) (h₀ : Heap) (outer : List Env) (L : Addr) (m : Str → Option Value) (mg : Str → Option Value) (mb : Str → Option Value) (mean : ExcName → Option Value) (pT : Program) (looseT : List Str) (s : Shared) (R : Result → Shared → Prop) (env : Env) (d : Nat) (u : Nat) (gs : Option (List Code)) (x : Addr) (dx : Addr) (lm : Addr) : Prop := ∀ (B : Below A₀ base outer h₀) (F : Fr h₀ L s.heap m) (X₀ : (hd.heap_1 w.params).In h₀) (N : News h₀ L s.heap ((x, (⟨.ref 225, some dx, .plain, #[]⟩ : Obj)) :: (dx, dictOf [] 0) :: [])) (T : Top pT looseT mean mg mb h₀) (hke : env.scope.kind = .function ∧ env.frame = some L) (hroom : d < 900) (hun : u < 4000) (hxd : @Ne Nat x dx) (k : ∀ h' tk u0 u1 w1 u2 a2 , Fr h₀ L h' m → News h₀ L h' ((dx, dictOf [⟨PyData.keyHash w.params (Str.ofString "limits"), .str (Str.ofString "limits") u0, .ref lm⟩, ⟨PyData.keyHash w.params (Str.ofString "last"), .str (Str.ofString "last") u1, .int 0 w1⟩, ⟨PyData.keyHash w.params (Str.ofString "zero"), .str (Str.ofString "zero") u2, .ref a2⟩] 3) :: (x, (⟨.ref 225, some dx, .plain, #[]⟩ : Obj)) :: (a2, listOf #[] 0) :: []) → (∀ b o, s.heap.get? b = some o → b ∉ [x, dx] → h'.get? b = some o) → @LT.lt Nat _ x a2 → R (.ok (.ret .none)) { s with heap := h', toks := tk }), codeAny (model PySem.Challenge.rw_qz0130_01.row.prog w) (Around.mk none d (some (env :: outer)) gs u) (.call (.ref 180) ⟨[.ref x, .ref lm], []⟩) R s
def init_heap_P (c : EC) : Prop := init_heap_S (c.wo 0) (c.ar 0) (c.hp 0) (c.hp 1) (c.le 0) (c.ad 0) (c.mp 0) (c.mp 1) (c.mp 2) (c.en 0) (c.pg 0) (c.ls 0) (c.sh 0) (c.rs 0) (c.ev 0) (c.nt 0) (c.nt 1) (c.oc 0) (c.ad 1) (c.ad 2) (c.ad 3)
@[irreducible] noncomputable def init_heap_e : EC := @Classical.epsilon EC EC.ne fun c => ¬ init_heap_P c
theorem init_heap_eq : init_heap_e = @Classical.epsilon EC EC.ne fun c => ¬ init_heap_P c := by unfold init_heap_e; rfl
theorem init_heap_m : init_heap_P init_heap_e := by
  unfold init_heap_P init_heap_S
  intro B F X₀ N T hke hroom hun hxd k
  revert X₀
  k_fill
  intro X₀
  refine' code_keepF B F X₀ N T rfl hke.2 hke.1 ?k6 ?k7 ?k8 ?kn ?k9 ?kB ?_ ?c2 ?c3 ?c4 ?c5
  case k6 => k_is
  case k7 => k_is
  case k8 => k_room
  case k9 => exact BindsTo.of_eq rfl
  case kB => exact locs rfl
  case kn => first | exact (rfl : _ = 1) | exact (rfl : _ = 2) | exact (rfl : _ = 3) | exact (rfl : _ = 4) | exact (rfl : _ = 5) | exact (rfl : _ = 6) | exact (rfl : _ = 7)
  case c2 => exact rfl
  case c3 => exact rfl
  case c4 => exact rfl
  case c5 => decide
  intro h' FG' F' N' B' X' T' hkeep
  clear B F X₀ N T
  (try dsimp only)
  repeat' (first | (k_unfold; (try dsimp only)) | (k_end; wrow_close) | (with_reducible ((with_reducible show wpAny _ _ (setAttr (Value.ref _) _ _) _ _ _); k_dflt (refine' set_dictT ?k1q ?k2q ?k3q ?k4q ?k5q ?k6q ?k7q ?k8q ?k9q ?k10q ?k11q ?k12q ?k13q ?_; (case k1q => k_asm); (case k2q => k_asm); (case k3q => k_asm); (case k4q => k_inst); (case k5q => exact rfl); (case k6q => k_is); (case k7q => k_is); (case k8q => k_is); (case k9q => k_is); (case k10q => k_get); (case k11q => k_put); (case k12q => k_upd); (case k13q => exact Nat.le_of_ble_eq_true rfl); k_whole; intro h'9 F'9 N'9; (try k_sweep)))) | walk1 | dsimp only | (leave1; (try dsimp only)) | fail "no step")
  all_goals (try dsimp only)
  all_goals (refine' leaveK_ ?k1 ?k2 ?_; (case k1 => assumption); (case k2 => assumption); intro kF kN)
  all_goals (have hkeep' := fun b o e q => Fr.keep (by assumption : Fr (gOf _ _) (LOf _) _ _) b o (hkeep b o e q))
  all_goals (refine k _ _ _ _ _ _ _ kF (news_sub kN (by k_allIn)) hkeep' (lt_all (by with_reducible assumption) (by k_mem)))
theorem init_heap {w : World} {A₀ : Around} {base : Heap} {h₀ : Heap} {outer : List Env} {L : Addr} {m : Str → Option Value} {mg : Str → Option Value} {mb : Str → Option Value} {mean : ExcName → Option Value} {pT : Program} {looseT : List Str} {s : Shared} {R : Result → Shared → Prop} {env : Env} {d : Nat} {u : Nat} {gs : Option (List Code)} {x : Addr} {dx : Addr} {lm : Addr} : init_heap_S w A₀ base h₀ outer L m mg mb mean pT looseT s R env d u gs x dx lm := @ec_all init_heap_P (init_heap_eq ▸ init_heap_m) { wo := fun n => [w].getD n (aWorld 1), ar := fun n => [A₀].getD n (callerA), hp := fun n => [base, h₀].getD n (default), le := fun n => [outer].getD n ([]), ad := fun n => [L, x, dx, lm].getD n (0), mp := fun n => [m, mg, mb].getD n (fun _ => none), en := fun n => [mean].getD n (fun _ => none), pg := fun n => [pT].getD n (default), ls := fun n => [looseT].getD n ([]), sh := fun n => [s].getD n ⟨default, #[], {}, 0, {}⟩, rs := fun n => [R].getD n (fun _ _ => True), sr := fun _ => (default), sc := fun _ => (default), va := fun _ => (.none), nt := fun n => [d, u].getD n (0), oc := fun n => [gs].getD n (none), tk := fun _ => (0), ob := fun _ => (default), iz := fun _ => (0), lv := fun _ => ([]), ll := fun _ => ([]), oa := fun _ => (none), fd := fun _ => (default), av := fun _ => (#[]), li := fun _ => ([]), aw := fun _ => (#[]), ev := fun n => [env].getD n (default) }
theorem init_heap_use {w : World} {A₀ : Around} {base h₀ : Heap} {outer : List Env} {L : Addr} {m mg mb : Str → Option Value} {mean : ExcName → Option Value} {pT : Program} {looseT : List Str} {s : Shared} {R : Result → Shared → Prop}
    {env : Env} {d u : Nat} {gs : Option (List Code)}
    {x dx : Addr} {lm : Addr} {g : Obj → List (Addr × Obj)} {full : List (Addr × Obj)}
    (B : Below A₀ base outer h₀) (F : Fr h₀ L s.heap m) (X₀ : (hd.heap_1 w.params).In h₀) (N : News h₀ L s.heap full) (T : Top pT looseT mean mg mb h₀)
    (hke : env.scope.kind = .function ∧ env.frame = some L) (hroom : d < 900) (hun : u < 4000)
    (hxd : @Ne Nat x dx) (U : UpdF dx (dictOf [] 0) full g) (hz : ∀ p ∈ full, @LE.le Nat _ p.1 x) (hsub : ∀ p ∈ ((x, (⟨.ref 225, some dx, .plain, #[]⟩ : Obj)) :: (dx, dictOf [] 0) :: []), p ∈ full)
    (k : ∀ h' tk u0 u1 w1 u2 a2 , Fr h₀ L h' m → News h₀ L h' ((a2, listOf #[] 0) :: g (dictOf [⟨PyData.keyHash w.params (Str.ofString "limits"), .str (Str.ofString "limits") u0, .ref lm⟩, ⟨PyData.keyHash w.params (Str.ofString "last"), .str (Str.ofString "last") u1, .int 0 w1⟩, ⟨PyData.keyHash w.params (Str.ofString "zero"), .str (Str.ofString "zero") u2, .ref a2⟩] 3)) → (∀ p ∈ full, p.1 < a2) → R (.ok (.ret .none)) { s with heap := h', toks := tk }) :
    codeAny (model PySem.Challenge.rw_qz0130_01.row.prog w) (Around.mk none d (some (env :: outer)) gs u) (.call (.ref 180) ⟨[.ref x, .ref lm], []⟩) R s :=
  init_heap B F X₀ (news_sub N hsub) T hke hroom hun hxd fun h' tk u0 u1 w1 u2 a2  F' N' K l0 => by
    have y := keep_but (d := dx) (o := dictOf [] 0) (o' := dictOf [⟨PyData.keyHash w.params (Str.ofString "limits"), .str (Str.ofString "limits") u0, .ref lm⟩, ⟨PyData.keyHash w.params (Str.ofString "last"), .str (Str.ofString "last") u1, .int 0 w1⟩, ⟨PyData.keyHash w.params (Str.ofString "zero"), .str (Str.ofString "zero") u2, .ref a2⟩] 3) (news_sub N hsub) (by k_updF) (news_sub N' (by k_allIn)) K
    exact k h' tk u0 u1 w1 u2 a2  F' (news_two (a := (a2, listOf #[] 0) :: []) (news_sub N' (by k_allIn)) (news_upd N U y.1 y.2)) (fun p hp => Nat.lt_of_le_of_lt (hz p hp) l0)

def init_counter_S (w : World) (A₀ : Around) (base : Heap) (h₀ : Heap) (outer : List Env) (L : Addr) (m : Str → Option Value) (mg : Str → Option Value) (mb : Str → Option Value) (mean : ExcName → Option Value) (pT : Program) (looseT : List Str) (s : Shared) (R : Result → Shared → Prop) (env : Env) (d : Nat) (u : Nat) (gs : Option (List Code)) (x : Addr) (dx : Addr) (hp : Addr) : Prop := ∀ (B : Below A₀ base outer h₀) (F : Fr h₀ L s.heap m) (X₀ : (hd.heap_1 w.params).In h₀) (N : News h₀ L s.heap ((x, (⟨.ref 1054, some dx, .plain, #[]⟩ : Obj)) :: (dx, dictOf [] 0) :: [])) (T : Top pT looseT mean mg mb h₀) (hke : env.scope.kind = .function ∧ env.frame = some L) (hroom : d < 900) (hun : u < 4000) (hxd : @Ne Nat x dx) (k : ∀ h' tk u0 u1 u2 u3 a2 a3 b2 b3, Fr h₀ L h' m → News h₀ L h' ((dx, dictOf [⟨PyData.keyHash w.params (Str.ofString "heap"), .str (Str.ofString "heap") u0, .ref hp⟩, ⟨PyData.keyHash w.params (Str.ofString "destroy"), .str (Str.ofString "destroy") u1, .none⟩, ⟨PyData.keyHash w.params (Str.ofString "places"), .str (Str.ofString "places") u2, .ref a2⟩, ⟨PyData.keyHash w.params (Str.ofString "empties"), .str (Str.ofString "empties") u3, .ref a3⟩] 4) :: (x, (⟨.ref 1054, some dx, .plain, #[]⟩ : Obj)) :: (a3, b3) :: (a2, b2) :: []) → (∀ b o, s.heap.get? b = some o → b ∉ [x, dx] → h'.get? b = some o) → @LT.lt Nat _ x a2 → @LT.lt Nat _ a2 a3 → (a2 == sysModules) = false → b2.IsDictOf (strKind PySem.Challenge.rw_qz0130_01.row.prog w) [] → PyProof.V.FlatPairs PyData.str [] [] → (a3 == sysModules) = false → b3.IsDictOf (strKind PySem.Challenge.rw_qz0130_01.row.prog w) [] → PyProof.V.FlatPairs PyData.str [] [] → R (.ok (.ret .none)) { s with heap := h', toks := tk }), codeAny (model PySem.Challenge.rw_qz0130_01.row.prog w) (Around.mk none d (some (env :: outer)) gs u) (.call (.ref 976) ⟨[.ref x, .ref hp, .none], []⟩) R s
def init_counter_P (c : EC) : Prop := init_counter_S (c.wo 0) (c.ar 0) (c.hp 0) (c.hp 1) (c.le 0) (c.ad 0) (c.mp 0) (c.mp 1) (c.mp 2) (c.en 0) (c.pg 0) (c.ls 0) (c.sh 0) (c.rs 0) (c.ev 0) (c.nt 0) (c.nt 1) (c.oc 0) (c.ad 1) (c.ad 2) (c.ad 3)
@[irreducible] noncomputable def init_counter_e : EC := @Classical.epsilon EC EC.ne fun c => ¬ init_counter_P c
theorem init_counter_eq : init_counter_e = @Classical.epsilon EC EC.ne fun c => ¬ init_counter_P c := by unfold init_counter_e; rfl
theorem init_counter_m : init_counter_P init_counter_e := by
  unfold init_counter_P init_counter_S
  intro B F X₀ N T hke hroom hun hxd k
  revert X₀
  k_fill
  intro X₀
  refine' code_keepF B F X₀ N T rfl hke.2 hke.1 ?k6 ?k7 ?k8 ?kn ?k9 ?kB ?_ ?c2 ?c3 ?c4 ?c5
  case k6 => k_is
  case k7 => k_is
  case k8 => k_room
  case k9 => exact BindsTo.of_eq rfl
  case kB => exact locs rfl
  case kn => first | exact (rfl : _ = 1) | exact (rfl : _ = 2) | exact (rfl : _ = 3) | exact (rfl : _ = 4) | exact (rfl : _ = 5) | exact (rfl : _ = 6) | exact (rfl : _ = 7)
  case c2 => exact rfl
  case c3 => exact rfl
  case c4 => exact rfl
  case c5 => decide
  intro h' FG' F' N' B' X' T' hkeep
  clear B F X₀ N T
  (try dsimp only)
  repeat' (first | (k_unfold; (try dsimp only)) | (k_end; wrow_close) | (with_reducible ((with_reducible show wpAny _ _ (setAttr (Value.ref _) _ _) _ _ _); k_dflt (refine' set_dictT ?k1q ?k2q ?k3q ?k4q ?k5q ?k6q ?k7q ?k8q ?k9q ?k10q ?k11q ?k12q ?k13q ?_; (case k1q => k_asm); (case k2q => k_asm); (case k3q => k_asm); (case k4q => k_inst); (case k5q => exact rfl); (case k6q => k_is); (case k7q => k_is); (case k8q => k_is); (case k9q => k_is); (case k10q => k_get); (case k11q => k_put); (case k12q => k_upd); (case k13q => exact Nat.le_of_ble_eq_true rfl); k_whole; intro h'9 F'9 N'9; (try k_sweep)))) | walk1 | dsimp only | (leave1; (try dsimp only)) | fail "no step")
  all_goals (try dsimp only)
  all_goals (refine' leaveK_ ?k1 ?k2 ?_; (case k1 => assumption); (case k2 => assumption); intro kF kN)
  all_goals (have hkeep' := fun b o e q => Fr.keep (by assumption : Fr (gOf _ _) (LOf _) _ _) b o (hkeep b o e q))
  all_goals (refine k _ _ _ _ _ _ _ _ _ _ kF (news_sub kN (by k_allIn)) hkeep' (lt_all (by with_reducible assumption) (by k_mem)) (lt_all (by with_reducible assumption) (by k_mem)) (by assumption) (by assumption) (by assumption) (by assumption) (by assumption) (by assumption))
theorem init_counter {w : World} {A₀ : Around} {base : Heap} {h₀ : Heap} {outer : List Env} {L : Addr} {m : Str → Option Value} {mg : Str → Option Value} {mb : Str → Option Value} {mean : ExcName → Option Value} {pT : Program} {looseT : List Str} {s : Shared} {R : Result → Shared → Prop} {env : Env} {d : Nat} {u : Nat} {gs : Option (List Code)} {x : Addr} {dx : Addr} {hp : Addr} : init_counter_S w A₀ base h₀ outer L m mg mb mean pT looseT s R env d u gs x dx hp := @ec_all init_counter_P (init_counter_eq ▸ init_counter_m) { wo := fun n => [w].getD n (aWorld 1), ar := fun n => [A₀].getD n (callerA), hp := fun n => [base, h₀].getD n (default), le := fun n => [outer].getD n ([]), ad := fun n => [L, x, dx, hp].getD n (0), mp := fun n => [m, mg, mb].getD n (fun _ => none), en := fun n => [mean].getD n (fun _ => none), pg := fun n => [pT].getD n (default), ls := fun n => [looseT].getD n ([]), sh := fun n => [s].getD n ⟨default, #[], {}, 0, {}⟩, rs := fun n => [R].getD n (fun _ _ => True), sr := fun _ => (default), sc := fun _ => (default), va := fun _ => (.none), nt := fun n => [d, u].getD n (0), oc := fun n => [gs].getD n (none), tk := fun _ => (0), ob := fun _ => (default), iz := fun _ => (0), lv := fun _ => ([]), ll := fun _ => ([]), oa := fun _ => (none), fd := fun _ => (default), av := fun _ => (#[]), li := fun _ => ([]), aw := fun _ => (#[]), ev := fun n => [env].getD n (default) }
theorem init_counter_use {w : World} {A₀ : Around} {base h₀ : Heap} {outer : List Env} {L : Addr} {m mg mb : Str → Option Value} {mean : ExcName → Option Value} {pT : Program} {looseT : List Str} {s : Shared} {R : Result → Shared → Prop}
    {env : Env} {d u : Nat} {gs : Option (List Code)}
    {x dx : Addr} {hp : Addr} {g : Obj → List (Addr × Obj)} {full : List (Addr × Obj)}
    (B : Below A₀ base outer h₀) (F : Fr h₀ L s.heap m) (X₀ : (hd.heap_1 w.params).In h₀) (N : News h₀ L s.heap full) (T : Top pT looseT mean mg mb h₀)
    (hke : env.scope.kind = .function ∧ env.frame = some L) (hroom : d < 900) (hun : u < 4000)
    (hxd : @Ne Nat x dx) (U : UpdF dx (dictOf [] 0) full g) (hz : ∀ p ∈ full, @LE.le Nat _ p.1 x) (hsub : ∀ p ∈ ((x, (⟨.ref 1054, some dx, .plain, #[]⟩ : Obj)) :: (dx, dictOf [] 0) :: []), p ∈ full)
    (k : ∀ h' tk u0 u1 u2 u3 a2 a3 b2 b3, Fr h₀ L h' m → News h₀ L h' ((a3, b3) :: (a2, b2) :: g (dictOf [⟨PyData.keyHash w.params (Str.ofString "heap"), .str (Str.ofString "heap") u0, .ref hp⟩, ⟨PyData.keyHash w.params (Str.ofString "destroy"), .str (Str.ofString "destroy") u1, .none⟩, ⟨PyData.keyHash w.params (Str.ofString "places"), .str (Str.ofString "places") u2, .ref a2⟩, ⟨PyData.keyHash w.params (Str.ofString "empties"), .str (Str.ofString "empties") u3, .ref a3⟩] 4)) → (∀ p ∈ full, p.1 < a2) → @LT.lt Nat _ a2 a3 → (a2 == sysModules) = false → b2.IsDictOf (strKind PySem.Challenge.rw_qz0130_01.row.prog w) [] → PyProof.V.FlatPairs PyData.str [] [] → (a3 == sysModules) = false → b3.IsDictOf (strKind PySem.Challenge.rw_qz0130_01.row.prog w) [] → PyProof.V.FlatPairs PyData.str [] [] → R (.ok (.ret .none)) { s with heap := h', toks := tk }) :
    codeAny (model PySem.Challenge.rw_qz0130_01.row.prog w) (Around.mk none d (some (env :: outer)) gs u) (.call (.ref 976) ⟨[.ref x, .ref hp, .none], []⟩) R s :=
  init_counter B F X₀ (news_sub N hsub) T hke hroom hun hxd fun h' tk u0 u1 u2 u3 a2 a3 b2 b3 F' N' K l0 l1 df0 df1 df2 df3 df4 df5 => by
    have y := keep_but (d := dx) (o := dictOf [] 0) (o' := dictOf [⟨PyData.keyHash w.params (Str.ofString "heap"), .str (Str.ofString "heap") u0, .ref hp⟩, ⟨PyData.keyHash w.params (Str.ofString "destroy"), .str (Str.ofString "destroy") u1, .none⟩, ⟨PyData.keyHash w.params (Str.ofString "places"), .str (Str.ofString "places") u2, .ref a2⟩, ⟨PyData.keyHash w.params (Str.ofString "empties"), .str (Str.ofString "empties") u3, .ref a3⟩] 4) (news_sub N hsub) (by k_updF) (news_sub N' (by k_allIn)) K
    exact k h' tk u0 u1 u2 u3 a2 a3 b2 b3 F' (news_two (a := (a3, b3) :: (a2, b2) :: []) (news_sub N' (by k_allIn)) (news_upd N U y.1 y.2)) (fun p hp => Nat.lt_of_le_of_lt (hz p hp) l0) l1 df0 df1 df2 df3 df4 df5

def init_stash_S (w : World) (A₀ : Around) (base : Heap) (h₀ : Heap) (outer : List Env) (L : Addr) (m : Str → Option Value) (mg : Str → Option Value) (mb : Str → Option Value) (mean : ExcName → Option Value) (pT : Program) (looseT : List Str) (s : Shared) (R : Result → Shared → Prop) (env : Env) (d : Nat) (u : Nat) (gs : Option (List Code)) (x : Addr) (dx : Addr) (hp : Addr) : Prop := ∀ (B : Below A₀ base outer h₀) (F : Fr h₀ L s.heap m) (X₀ : (hd.heap_1 w.params).In h₀) (N : News h₀ L s.heap ((x, (⟨.ref 1139, some dx, .plain, #[]⟩ : Obj)) :: (dx, dictOf [] 0) :: [])) (T : Top pT looseT mean mg mb h₀) (hke : env.scope.kind = .function ∧ env.frame = some L) (hroom : d < 900) (hun : u < 4000) (hxd : @Ne Nat x dx) (k : ∀ h' tk u0 u1 u2 w2 a1 b1, Fr h₀ L h' m → News h₀ L h' ((dx, dictOf [⟨PyData.keyHash w.params (Str.ofString "heap"), .str (Str.ofString "heap") u0, .ref hp⟩, ⟨PyData.keyHash w.params (Str.ofString "globs"), .str (Str.ofString "globs") u1, .ref a1⟩, ⟨PyData.keyHash w.params (Str.ofString "generation"), .str (Str.ofString "generation") u2, .int 0 w2⟩] 3) :: (x, (⟨.ref 1139, some dx, .plain, #[]⟩ : Obj)) :: (a1, b1) :: []) → (∀ b o, s.heap.get? b = some o → b ∉ [x, dx] → h'.get? b = some o) → @LT.lt Nat _ x a1 → (a1 == sysModules) = false → b1.IsDictOf (strKind PySem.Challenge.rw_qz0130_01.row.prog w) [] → PyProof.V.FlatPairs PyData.str [] [] → R (.ok (.ret .none)) { s with heap := h', toks := tk }), codeAny (model PySem.Challenge.rw_qz0130_01.row.prog w) (Around.mk none d (some (env :: outer)) gs u) (.call (.ref 1094) ⟨[.ref x, .ref hp], []⟩) R s
def init_stash_P (c : EC) : Prop := init_stash_S (c.wo 0) (c.ar 0) (c.hp 0) (c.hp 1) (c.le 0) (c.ad 0) (c.mp 0) (c.mp 1) (c.mp 2) (c.en 0) (c.pg 0) (c.ls 0) (c.sh 0) (c.rs 0) (c.ev 0) (c.nt 0) (c.nt 1) (c.oc 0) (c.ad 1) (c.ad 2) (c.ad 3)
@[irreducible] noncomputable def init_stash_e : EC := @Classical.epsilon EC EC.ne fun c => ¬ init_stash_P c
theorem init_stash_eq : init_stash_e = @Classical.epsilon EC EC.ne fun c => ¬ init_stash_P c := by unfold init_stash_e; rfl
theorem init_stash_m : init_stash_P init_stash_e := by
  unfold init_stash_P init_stash_S
  intro B F X₀ N T hke hroom hun hxd k
  revert X₀
  k_fill
  intro X₀
  refine' code_keepF B F X₀ N T rfl hke.2 hke.1 ?k6 ?k7 ?k8 ?kn ?k9 ?kB ?_ ?c2 ?c3 ?c4 ?c5
  case k6 => k_is
  case k7 => k_is
  case k8 => k_room
  case k9 => exact BindsTo.of_eq rfl
  case kB => exact locs rfl
  case kn => first | exact (rfl : _ = 1) | exact (rfl : _ = 2) | exact (rfl : _ = 3) | exact (rfl : _ = 4) | exact (rfl : _ = 5) | exact (rfl : _ = 6) | exact (rfl : _ = 7)
  case c2 => exact rfl
  case c3 => exact rfl
  case c4 => exact rfl
  case c5 => decide
  intro h' FG' F' N' B' X' T' hkeep
  clear B F X₀ N T
  (try dsimp only)
  repeat' (first | (k_unfold; (try dsimp only)) | (k_end; wrow_close) | (with_reducible ((with_reducible show wpAny _ _ (setAttr (Value.ref _) _ _) _ _ _); k_dflt (refine' set_dictT ?k1q ?k2q ?k3q ?k4q ?k5q ?k6q ?k7q ?k8q ?k9q ?k10q ?k11q ?k12q ?k13q ?_; (case k1q => k_asm); (case k2q => k_asm); (case k3q => k_asm); (case k4q => k_inst); (case k5q => exact rfl); (case k6q => k_is); (case k7q => k_is); (case k8q => k_is); (case k9q => k_is); (case k10q => k_get); (case k11q => k_put); (case k12q => k_upd); (case k13q => exact Nat.le_of_ble_eq_true rfl); k_whole; intro h'9 F'9 N'9; (try k_sweep)))) | walk1 | dsimp only | (leave1; (try dsimp only)) | fail "no step")
  all_goals (try dsimp only)
  all_goals (refine' leaveK_ ?k1 ?k2 ?_; (case k1 => assumption); (case k2 => assumption); intro kF kN)
  all_goals (have hkeep' := fun b o e q => Fr.keep (by assumption : Fr (gOf _ _) (LOf _) _ _) b o (hkeep b o e q))
  all_goals (refine k _ _ _ _ _ _ _ _ kF (news_sub kN (by k_allIn)) hkeep' (lt_all (by with_reducible assumption) (by k_mem)) (by assumption) (by assumption) (by assumption))
theorem init_stash {w : World} {A₀ : Around} {base : Heap} {h₀ : Heap} {outer : List Env} {L : Addr} {m : Str → Option Value} {mg : Str → Option Value} {mb : Str → Option Value} {mean : ExcName → Option Value} {pT : Program} {looseT : List Str} {s : Shared} {R : Result → Shared → Prop} {env : Env} {d : Nat} {u : Nat} {gs : Option (List Code)} {x : Addr} {dx : Addr} {hp : Addr} : init_stash_S w A₀ base h₀ outer L m mg mb mean pT looseT s R env d u gs x dx hp := @ec_all init_stash_P (init_stash_eq ▸ init_stash_m) { wo := fun n => [w].getD n (aWorld 1), ar := fun n => [A₀].getD n (callerA), hp := fun n => [base, h₀].getD n (default), le := fun n => [outer].getD n ([]), ad := fun n => [L, x, dx, hp].getD n (0), mp := fun n => [m, mg, mb].getD n (fun _ => none), en := fun n => [mean].getD n (fun _ => none), pg := fun n => [pT].getD n (default), ls := fun n => [looseT].getD n ([]), sh := fun n => [s].getD n ⟨default, #[], {}, 0, {}⟩, rs := fun n => [R].getD n (fun _ _ => True), sr := fun _ => (default), sc := fun _ => (default), va := fun _ => (.none), nt := fun n => [d, u].getD n (0), oc := fun n => [gs].getD n (none), tk := fun _ => (0), ob := fun _ => (default), iz := fun _ => (0), lv := fun _ => ([]), ll := fun _ => ([]), oa := fun _ => (none), fd := fun _ => (default), av := fun _ => (#[]), li := fun _ => ([]), aw := fun _ => (#[]), ev := fun n => [env].getD n (default) }
theorem init_stash_use {w : World} {A₀ : Around} {base h₀ : Heap} {outer : List Env} {L : Addr} {m mg mb : Str → Option Value} {mean : ExcName → Option Value} {pT : Program} {looseT : List Str} {s : Shared} {R : Result → Shared → Prop}
    {env : Env} {d u : Nat} {gs : Option (List Code)}
    {x dx : Addr} {hp : Addr} {g : Obj → List (Addr × Obj)} {full : List (Addr × Obj)}
    (B : Below A₀ base outer h₀) (F : Fr h₀ L s.heap m) (X₀ : (hd.heap_1 w.params).In h₀) (N : News h₀ L s.heap full) (T : Top pT looseT mean mg mb h₀)
    (hke : env.scope.kind = .function ∧ env.frame = some L) (hroom : d < 900) (hun : u < 4000)
    (hxd : @Ne Nat x dx) (U : UpdF dx (dictOf [] 0) full g) (hz : ∀ p ∈ full, @LE.le Nat _ p.1 x) (hsub : ∀ p ∈ ((x, (⟨.ref 1139, some dx, .plain, #[]⟩ : Obj)) :: (dx, dictOf [] 0) :: []), p ∈ full)
    (k : ∀ h' tk u0 u1 u2 w2 a1 b1, Fr h₀ L h' m → News h₀ L h' ((a1, b1) :: g (dictOf [⟨PyData.keyHash w.params (Str.ofString "heap"), .str (Str.ofString "heap") u0, .ref hp⟩, ⟨PyData.keyHash w.params (Str.ofString "globs"), .str (Str.ofString "globs") u1, .ref a1⟩, ⟨PyData.keyHash w.params (Str.ofString "generation"), .str (Str.ofString "generation") u2, .int 0 w2⟩] 3)) → (∀ p ∈ full, p.1 < a1) → (a1 == sysModules) = false → b1.IsDictOf (strKind PySem.Challenge.rw_qz0130_01.row.prog w) [] → PyProof.V.FlatPairs PyData.str [] [] → R (.ok (.ret .none)) { s with heap := h', toks := tk }) :
    codeAny (model PySem.Challenge.rw_qz0130_01.row.prog w) (Around.mk none d (some (env :: outer)) gs u) (.call (.ref 1094) ⟨[.ref x, .ref hp], []⟩) R s :=
  init_stash B F X₀ (news_sub N hsub) T hke hroom hun hxd fun h' tk u0 u1 u2 w2 a1 b1 F' N' K l0 df0 df1 df2 => by
    have y := keep_but (d := dx) (o := dictOf [] 0) (o' := dictOf [⟨PyData.keyHash w.params (Str.ofString "heap"), .str (Str.ofString "heap") u0, .ref hp⟩, ⟨PyData.keyHash w.params (Str.ofString "globs"), .str (Str.ofString "globs") u1, .ref a1⟩, ⟨PyData.keyHash w.params (Str.ofString "generation"), .str (Str.ofString "generation") u2, .int 0 w2⟩] 3) (news_sub N hsub) (by k_updF) (news_sub N' (by k_allIn)) K
    exact k h' tk u0 u1 u2 w2 a1 b1 F' (news_two (a := (a1, b1) :: []) (news_sub N' (by k_allIn)) (news_upd N U y.1 y.2)) (fun p hp => Nat.lt_of_le_of_lt (hz p hp) l0) df0 df1 df2

def init_cache_S (w : World) (A₀ : Around) (base : Heap) (h₀ : Heap) (outer : List Env) (L : Addr) (m : Str → Option Value) (mg : Str → Option Value) (mb : Str → Option Value) (mean : ExcName → Option Value) (pT : Program) (looseT : List Str) (s : Shared) (R : Result → Shared → Prop) (env : Env) (d : Nat) (u : Nat) (gs : Option (List Code)) (x : Addr) (dx : Addr) : Prop := ∀ (B : Below A₀ base outer h₀) (F : Fr h₀ L s.heap m) (X₀ : (hd.heap_1 w.params).In h₀) (N : News h₀ L s.heap ((x, (⟨.ref 656, some dx, .plain, #[]⟩ : Obj)) :: (dx, dictOf [] 0) :: [])) (T : Top pT looseT mean mg mb h₀) (hke : env.scope.kind = .function ∧ env.frame = some L) (hroom : d < 900) (hun : u < 4000) (hxd : @Ne Nat x dx) (k : ∀ h' tk u0 w0 u1 a1 b1, Fr h₀ L h' m → News h₀ L h' ((dx, dictOf [⟨PyData.keyHash w.params (Str.ofString "generation"), .str (Str.ofString "generation") u0, .int (-1) w0⟩, ⟨PyData.keyHash w.params (Str.ofString "table"), .str (Str.ofString "table") u1, .ref a1⟩] 2) :: (x, (⟨.ref 656, some dx, .plain, #[]⟩ : Obj)) :: (a1, b1) :: []) → (∀ b o, s.heap.get? b = some o → b ∉ [x, dx] → h'.get? b = some o) → @LT.lt Nat _ x a1 → (a1 == sysModules) = false → b1.IsDictOf (strKind PySem.Challenge.rw_qz0130_01.row.prog w) [] → PyProof.V.FlatPairs PyData.str [] [] → R (.ok (.ret .none)) { s with heap := h', toks := tk }), codeAny (model PySem.Challenge.rw_qz0130_01.row.prog w) (Around.mk none d (some (env :: outer)) gs u) (.call (.ref 646) ⟨[.ref x], []⟩) R s
def init_cache_P (c : EC) : Prop := init_cache_S (c.wo 0) (c.ar 0) (c.hp 0) (c.hp 1) (c.le 0) (c.ad 0) (c.mp 0) (c.mp 1) (c.mp 2) (c.en 0) (c.pg 0) (c.ls 0) (c.sh 0) (c.rs 0) (c.ev 0) (c.nt 0) (c.nt 1) (c.oc 0) (c.ad 1) (c.ad 2)
@[irreducible] noncomputable def init_cache_e : EC := @Classical.epsilon EC EC.ne fun c => ¬ init_cache_P c
theorem init_cache_eq : init_cache_e = @Classical.epsilon EC EC.ne fun c => ¬ init_cache_P c := by unfold init_cache_e; rfl
theorem init_cache_m : init_cache_P init_cache_e := by
  unfold init_cache_P init_cache_S
  intro B F X₀ N T hke hroom hun hxd k
  revert X₀
  k_fill
  intro X₀
  refine' code_keepF B F X₀ N T rfl hke.2 hke.1 ?k6 ?k7 ?k8 ?kn ?k9 ?kB ?_ ?c2 ?c3 ?c4 ?c5
  case k6 => k_is
  case k7 => k_is
  case k8 => k_room
  case k9 => exact BindsTo.of_eq rfl
  case kB => exact locs rfl
  case kn => first | exact (rfl : _ = 1) | exact (rfl : _ = 2) | exact (rfl : _ = 3) | exact (rfl : _ = 4) | exact (rfl : _ = 5) | exact (rfl : _ = 6) | exact (rfl : _ = 7)
  case c2 => exact rfl
  case c3 => exact rfl
  case c4 => exact rfl
  case c5 => decide
  intro h' FG' F' N' B' X' T' hkeep
  clear B F X₀ N T
  (try dsimp only)
  repeat' (first | (k_unfold; (try dsimp only)) | (k_end; wrow_close) | (with_reducible ((with_reducible show wpAny _ _ (setAttr (Value.ref _) _ _) _ _ _); k_dflt (refine' set_dictT ?k1q ?k2q ?k3q ?k4q ?k5q ?k6q ?k7q ?k8q ?k9q ?k10q ?k11q ?k12q ?k13q ?_; (case k1q => k_asm); (case k2q => k_asm); (case k3q => k_asm); (case k4q => k_inst); (case k5q => exact rfl); (case k6q => k_is); (case k7q => k_is); (case k8q => k_is); (case k9q => k_is); (case k10q => k_get); (case k11q => k_put); (case k12q => k_upd); (case k13q => exact Nat.le_of_ble_eq_true rfl); k_whole; intro h'9 F'9 N'9; (try k_sweep)))) | walk1 | dsimp only | (leave1; (try dsimp only)) | fail "no step")
  all_goals (try dsimp only)
  all_goals (refine' leaveK_ ?k1 ?k2 ?_; (case k1 => assumption); (case k2 => assumption); intro kF kN)
  all_goals (have hkeep' := fun b o e q => Fr.keep (by assumption : Fr (gOf _ _) (LOf _) _ _) b o (hkeep b o e q))
  all_goals (refine k _ _ _ _ _ _ _ kF (news_sub kN (by k_allIn)) hkeep' (lt_all (by with_reducible assumption) (by k_mem)) (by assumption) (by assumption) (by assumption))
theorem init_cache {w : World} {A₀ : Around} {base : Heap} {h₀ : Heap} {outer : List Env} {L : Addr} {m : Str → Option Value} {mg : Str → Option Value} {mb : Str → Option Value} {mean : ExcName → Option Value} {pT : Program} {looseT : List Str} {s : Shared} {R : Result → Shared → Prop} {env : Env} {d : Nat} {u : Nat} {gs : Option (List Code)} {x : Addr} {dx : Addr} : init_cache_S w A₀ base h₀ outer L m mg mb mean pT looseT s R env d u gs x dx := @ec_all init_cache_P (init_cache_eq ▸ init_cache_m) { wo := fun n => [w].getD n (aWorld 1), ar := fun n => [A₀].getD n (callerA), hp := fun n => [base, h₀].getD n (default), le := fun n => [outer].getD n ([]), ad := fun n => [L, x, dx].getD n (0), mp := fun n => [m, mg, mb].getD n (fun _ => none), en := fun n => [mean].getD n (fun _ => none), pg := fun n => [pT].getD n (default), ls := fun n => [looseT].getD n ([]), sh := fun n => [s].getD n ⟨default, #[], {}, 0, {}⟩, rs := fun n => [R].getD n (fun _ _ => True), sr := fun _ => (default), sc := fun _ => (default), va := fun _ => (.none), nt := fun n => [d, u].getD n (0), oc := fun n => [gs].getD n (none), tk := fun _ => (0), ob := fun _ => (default), iz := fun _ => (0), lv := fun _ => ([]), ll := fun _ => ([]), oa := fun _ => (none), fd := fun _ => (default), av := fun _ => (#[]), li := fun _ => ([]), aw := fun _ => (#[]), ev := fun n => [env].getD n (default) }
theorem init_cache_use {w : World} {A₀ : Around} {base h₀ : Heap} {outer : List Env} {L : Addr} {m mg mb : Str → Option Value} {mean : ExcName → Option Value} {pT : Program} {looseT : List Str} {s : Shared} {R : Result → Shared → Prop}
    {env : Env} {d u : Nat} {gs : Option (List Code)}
    {x dx : Addr}  {g : Obj → List (Addr × Obj)} {full : List (Addr × Obj)}
    (B : Below A₀ base outer h₀) (F : Fr h₀ L s.heap m) (X₀ : (hd.heap_1 w.params).In h₀) (N : News h₀ L s.heap full) (T : Top pT looseT mean mg mb h₀)
    (hke : env.scope.kind = .function ∧ env.frame = some L) (hroom : d < 900) (hun : u < 4000)
    (hxd : @Ne Nat x dx) (U : UpdF dx (dictOf [] 0) full g) (hz : ∀ p ∈ full, @LE.le Nat _ p.1 x) (hsub : ∀ p ∈ ((x, (⟨.ref 656, some dx, .plain, #[]⟩ : Obj)) :: (dx, dictOf [] 0) :: []), p ∈ full)
    (k : ∀ h' tk u0 w0 u1 a1 b1, Fr h₀ L h' m → News h₀ L h' ((a1, b1) :: g (dictOf [⟨PyData.keyHash w.params (Str.ofString "generation"), .str (Str.ofString "generation") u0, .int (-1) w0⟩, ⟨PyData.keyHash w.params (Str.ofString "table"), .str (Str.ofString "table") u1, .ref a1⟩] 2)) → (∀ p ∈ full, p.1 < a1) → (a1 == sysModules) = false → b1.IsDictOf (strKind PySem.Challenge.rw_qz0130_01.row.prog w) [] → PyProof.V.FlatPairs PyData.str [] [] → R (.ok (.ret .none)) { s with heap := h', toks := tk }) :
    codeAny (model PySem.Challenge.rw_qz0130_01.row.prog w) (Around.mk none d (some (env :: outer)) gs u) (.call (.ref 646) ⟨[.ref x], []⟩) R s :=
  init_cache B F X₀ (news_sub N hsub) T hke hroom hun hxd fun h' tk u0 w0 u1 a1 b1 F' N' K l0 df0 df1 df2 => by
    have y := keep_but (d := dx) (o := dictOf [] 0) (o' := dictOf [⟨PyData.keyHash w.params (Str.ofString "generation"), .str (Str.ofString "generation") u0, .int (-1) w0⟩, ⟨PyData.keyHash w.params (Str.ofString "table"), .str (Str.ofString "table") u1, .ref a1⟩] 2) (news_sub N hsub) (by k_updF) (news_sub N' (by k_allIn)) K
    exact k h' tk u0 w0 u1 a1 b1 F' (news_two (a := (a1, b1) :: []) (news_sub N' (by k_allIn)) (news_upd N U y.1 y.2)) (fun p hp => Nat.lt_of_le_of_lt (hz p hp) l0) df0 df1 df2

def init_frame_S (w : World) (A₀ : Around) (base : Heap) (h₀ : Heap) (outer : List Env) (L : Addr) (m : Str → Option Value) (mg : Str → Option Value) (mb : Str → Option Value) (mean : ExcName → Option Value) (pT : Program) (looseT : List Str) (s : Shared) (R : Result → Shared → Prop) (env : Env) (d : Nat) (u : Nat) (gs : Option (List Code)) (x : Addr) (dx : Addr) (pd : Addr) (ar : Addr) (ta : Tok) (tb : Tok) (tc : Tok) : Prop := ∀ (B : Below A₀ base outer h₀) (F : Fr h₀ L s.heap m) (X₀ : (hd.heap_1 w.params).In h₀) (N : News h₀ L s.heap ((x, (⟨.ref 538, some dx, .plain, #[]⟩ : Obj)) :: (dx, dictOf [] 0) :: [])) (T : Top pT looseT mean mg mb h₀) (hke : env.scope.kind = .function ∧ env.frame = some L) (hroom : d < 900) (hun : u < 4000) (hxd : @Ne Nat x dx) (k : ∀ h' tk u0 u1 u2 u3 u4 u5  , Fr h₀ L h' m → News h₀ L h' ((dx, dictOf [⟨PyData.keyHash w.params (Str.ofString "pad"), .str (Str.ofString "pad") u0, .ref pd⟩, ⟨PyData.keyHash w.params (Str.ofString "args"), .str (Str.ofString "args") u1, .ref ar⟩, ⟨PyData.keyHash w.params (Str.ofString "want"), .str (Str.ofString "want") u2, .int 0 ta⟩, ⟨PyData.keyHash w.params (Str.ofString "code"), .str (Str.ofString "code") u3, .none⟩, ⟨PyData.keyHash w.params (Str.ofString "package"), .str (Str.ofString "package") u4, .str (Str.ofString "main") tb⟩, ⟨PyData.keyHash w.params (Str.ofString "line"), .str (Str.ofString "line") u5, .int 1 tc⟩] 6) :: (x, (⟨.ref 538, some dx, .plain, #[]⟩ : Obj)) :: []) → (∀ b o, s.heap.get? b = some o → b ∉ [x, dx] → h'.get? b = some o) → R (.ok (.ret .none)) { s with heap := h', toks := tk }), codeAny (model PySem.Challenge.rw_qz0130_01.row.prog w) (Around.mk none d (some (env :: outer)) gs u) (.call (.ref 535) ⟨[.ref x, .ref pd, .ref ar, .int 0 ta, .none, .str (Str.ofString "main") tb, .int 1 tc], []⟩) R s
def init_frame_P (c : EC) : Prop := init_frame_S (c.wo 0) (c.ar 0) (c.hp 0) (c.hp 1) (c.le 0) (c.ad 0) (c.mp 0) (c.mp 1) (c.mp 2) (c.en 0) (c.pg 0) (c.ls 0) (c.sh 0) (c.rs 0) (c.ev 0) (c.nt 0) (c.nt 1) (c.oc 0) (c.ad 1) (c.ad 2) (c.ad 3) (c.ad 4) (c.tk 0) (c.tk 1) (c.tk 2)
@[irreducible] noncomputable def init_frame_e : EC := @Classical.epsilon EC EC.ne fun c => ¬ init_frame_P c
theorem init_frame_eq : init_frame_e = @Classical.epsilon EC EC.ne fun c => ¬ init_frame_P c := by unfold init_frame_e; rfl
theorem init_frame_m : init_frame_P init_frame_e := by
  unfold init_frame_P init_frame_S
  intro B F X₀ N T hke hroom hun hxd k
  revert X₀
  k_fill
  intro X₀
  refine' code_keepF B F X₀ N T rfl hke.2 hke.1 ?k6 ?k7 ?k8 ?kn ?k9 ?kB ?_ ?c2 ?c3 ?c4 ?c5
  case k6 => k_is
  case k7 => k_is
  case k8 => k_room
  case k9 => exact BindsTo.of_eq rfl
  case kB => exact locs rfl
  case kn => first | exact (rfl : _ = 1) | exact (rfl : _ = 2) | exact (rfl : _ = 3) | exact (rfl : _ = 4) | exact (rfl : _ = 5) | exact (rfl : _ = 6) | exact (rfl : _ = 7)
  case c2 => exact rfl
  case c3 => exact rfl
  case c4 => exact rfl
  case c5 => decide
  intro h' FG' F' N' B' X' T' hkeep
  clear B F X₀ N T
  (try dsimp only)
  repeat' (first | (k_unfold; (try dsimp only)) | (k_end; wrow_close) | (with_reducible ((with_reducible show wpAny _ _ (setAttr (Value.ref _) _ _) _ _ _); k_dflt (refine' set_dictT ?k1q ?k2q ?k3q ?k4q ?k5q ?k6q ?k7q ?k8q ?k9q ?k10q ?k11q ?k12q ?k13q ?_; (case k1q => k_asm); (case k2q => k_asm); (case k3q => k_asm); (case k4q => k_inst); (case k5q => exact rfl); (case k6q => k_is); (case k7q => k_is); (case k8q => k_is); (case k9q => k_is); (case k10q => k_get); (case k11q => k_put); (case k12q => k_upd); (case k13q => exact Nat.le_of_ble_eq_true rfl); k_whole; intro h'9 F'9 N'9; (try k_sweep)))) | walk1 | dsimp only | (leave1; (try dsimp only)) | fail "no step")
  all_goals (try dsimp only)
  all_goals (refine' leaveK_ ?k1 ?k2 ?_; (case k1 => assumption); (case k2 => assumption); intro kF kN)
  all_goals (have hkeep' := fun b o e q => Fr.keep (by assumption : Fr (gOf _ _) (LOf _) _ _) b o (hkeep b o e q))
  all_goals (refine k _ _ _ _ _ _ _ _ kF (news_sub kN (by k_allIn)) hkeep')
theorem init_frame {w : World} {A₀ : Around} {base : Heap} {h₀ : Heap} {outer : List Env} {L : Addr} {m : Str → Option Value} {mg : Str → Option Value} {mb : Str → Option Value} {mean : ExcName → Option Value} {pT : Program} {looseT : List Str} {s : Shared} {R : Result → Shared → Prop} {env : Env} {d : Nat} {u : Nat} {gs : Option (List Code)} {x : Addr} {dx : Addr} {pd : Addr} {ar : Addr} {ta : Tok} {tb : Tok} {tc : Tok} : init_frame_S w A₀ base h₀ outer L m mg mb mean pT looseT s R env d u gs x dx pd ar ta tb tc := @ec_all init_frame_P (init_frame_eq ▸ init_frame_m) { wo := fun n => [w].getD n (aWorld 1), ar := fun n => [A₀].getD n (callerA), hp := fun n => [base, h₀].getD n (default), le := fun n => [outer].getD n ([]), ad := fun n => [L, x, dx, pd, ar].getD n (0), mp := fun n => [m, mg, mb].getD n (fun _ => none), en := fun n => [mean].getD n (fun _ => none), pg := fun n => [pT].getD n (default), ls := fun n => [looseT].getD n ([]), sh := fun n => [s].getD n ⟨default, #[], {}, 0, {}⟩, rs := fun n => [R].getD n (fun _ _ => True), sr := fun _ => (default), sc := fun _ => (default), va := fun _ => (.none), nt := fun n => [d, u].getD n (0), oc := fun n => [gs].getD n (none), tk := fun n => [ta, tb, tc].getD n (0), ob := fun _ => (default), iz := fun _ => (0), lv := fun _ => ([]), ll := fun _ => ([]), oa := fun _ => (none), fd := fun _ => (default), av := fun _ => (#[]), li := fun _ => ([]), aw := fun _ => (#[]), ev := fun n => [env].getD n (default) }
theorem init_frame_use {w : World} {A₀ : Around} {base h₀ : Heap} {outer : List Env} {L : Addr} {m mg mb : Str → Option Value} {mean : ExcName → Option Value} {pT : Program} {looseT : List Str} {s : Shared} {R : Result → Shared → Prop}
    {env : Env} {d u : Nat} {gs : Option (List Code)}
    {x dx : Addr} {pd ar : Addr} {ta tb tc : Tok} {g : Obj → List (Addr × Obj)} {full : List (Addr × Obj)}
    (B : Below A₀ base outer h₀) (F : Fr h₀ L s.heap m) (X₀ : (hd.heap_1 w.params).In h₀) (N : News h₀ L s.heap full) (T : Top pT looseT mean mg mb h₀)
    (hke : env.scope.kind = .function ∧ env.frame = some L) (hroom : d < 900) (hun : u < 4000)
    (hxd : @Ne Nat x dx) (U : UpdF dx (dictOf [] 0) full g) (hsub : ∀ p ∈ ((x, (⟨.ref 538, some dx, .plain, #[]⟩ : Obj)) :: (dx, dictOf [] 0) :: []), p ∈ full)
    (k : ∀ h' tk u0 u1 u2 u3 u4 u5  , Fr h₀ L h' m → News h₀ L h' (g (dictOf [⟨PyData.keyHash w.params (Str.ofString "pad"), .str (Str.ofString "pad") u0, .ref pd⟩, ⟨PyData.keyHash w.params (Str.ofString "args"), .str (Str.ofString "args") u1, .ref ar⟩, ⟨PyData.keyHash w.params (Str.ofString "want"), .str (Str.ofString "want") u2, .int 0 ta⟩, ⟨PyData.keyHash w.params (Str.ofString "code"), .str (Str.ofString "code") u3, .none⟩, ⟨PyData.keyHash w.params (Str.ofString "package"), .str (Str.ofString "package") u4, .str (Str.ofString "main") tb⟩, ⟨PyData.keyHash w.params (Str.ofString "line"), .str (Str.ofString "line") u5, .int 1 tc⟩] 6)) → R (.ok (.ret .none)) { s with heap := h', toks := tk }) :
    codeAny (model PySem.Challenge.rw_qz0130_01.row.prog w) (Around.mk none d (some (env :: outer)) gs u) (.call (.ref 535) ⟨[.ref x, .ref pd, .ref ar, .int 0 ta, .none, .str (Str.ofString "main") tb, .int 1 tc], []⟩) R s :=
  init_frame B F X₀ (news_sub N hsub) T hke hroom hun hxd fun h' tk u0 u1 u2 u3 u4 u5   F' N' K  => by
    have y := keep_but (d := dx) (o := dictOf [] 0) (o' := dictOf [⟨PyData.keyHash w.params (Str.ofString "pad"), .str (Str.ofString "pad") u0, .ref pd⟩, ⟨PyData.keyHash w.params (Str.ofString "args"), .str (Str.ofString "args") u1, .ref ar⟩, ⟨PyData.keyHash w.params (Str.ofString "want"), .str (Str.ofString "want") u2, .int 0 ta⟩, ⟨PyData.keyHash w.params (Str.ofString "code"), .str (Str.ofString "code") u3, .none⟩, ⟨PyData.keyHash w.params (Str.ofString "package"), .str (Str.ofString "package") u4, .str (Str.ofString "main") tb⟩, ⟨PyData.keyHash w.params (Str.ofString "line"), .str (Str.ofString "line") u5, .int 1 tc⟩] 6) (news_sub N hsub) (by k_updF) (news_sub N' (by k_allIn)) K
    exact k h' tk u0 u1 u2 u3 u4 u5   F' ((news_upd N U y.1 y.2))
end
section
def init_code_S (w : World) (A₀ : Around) (base : Heap) (h₀ : Heap) (outer : List Env) (L : Addr) (m : Str → Option Value) (mg : Str → Option Value) (mb : Str → Option Value) (mean : ExcName → Option Value) (pT : Program) (looseT : List Str) (s : Shared) (R : Result → Shared → Prop) (env : Env) (d : Nat) (u : Nat) (gs : Option (List Code)) (x : Addr) (dx : Addr) (cap : Addr) (ta : Tok) (num : Int) : Prop := ∀ (B : Below A₀ base outer h₀) (F : Fr h₀ L s.heap m) (X₀ : (hd.heap_1 w.params).In h₀) (N : News h₀ L s.heap ((x, (⟨.ref 123, some dx, .plain, #[]⟩ : Obj)) :: (dx, dictOf [] 0) :: [])) (T : Top pT looseT mean mg mb h₀) (hke : env.scope.kind = .function ∧ env.frame = some L) (hroom : d < 900) (hun : u < 4000) (hxd : @Ne Nat x dx) (k : ∀ h' tk u0 u1 w1 u2 u3 u4 u5 u6 u7 u8 u9 w9 a3 , Fr h₀ L h' m → News h₀ L h' ((dx, dictOf [⟨PyData.keyHash w.params (Str.ofString "number"), .str (Str.ofString "number") u0, .int num ta⟩, ⟨PyData.keyHash w.params (Str.ofString "count"), .str (Str.ofString "count") u1, .int 0 w1⟩, ⟨PyData.keyHash w.params (Str.ofString "blessed"), .str (Str.ofString "blessed") u2, .none⟩, ⟨PyData.keyHash w.params (Str.ofString "weak"), .str (Str.ofString "weak") u3, .ref a3⟩, ⟨PyData.keyHash w.params (Str.ofString "is_destroyed"), .str (Str.ofString "is_destroyed") u4, .bool false⟩, ⟨PyData.keyHash w.params (Str.ofString "is_freed"), .str (Str.ofString "is_freed") u5, .bool false⟩, ⟨PyData.keyHash w.params (Str.ofString "sub"), .str (Str.ofString "sub") u6, .none⟩, ⟨PyData.keyHash w.params (Str.ofString "captures"), .str (Str.ofString "captures") u7, .ref cap⟩, ⟨PyData.keyHash w.params (Str.ofString "builtin"), .str (Str.ofString "builtin") u8, .none⟩, ⟨PyData.keyHash w.params (Str.ofString "package"), .str (Str.ofString "package") u9, .str (Str.ofString "main") w9⟩] 10) :: (x, (⟨.ref 123, some dx, .plain, #[]⟩ : Obj)) :: (a3, listOf #[] 0) :: []) → (∀ b o, s.heap.get? b = some o → b ∉ [x, dx] → h'.get? b = some o) → @LT.lt Nat _ x a3 → R (.ok (.ret .none)) { s with heap := h', toks := tk }), codeAny (model PySem.Challenge.rw_qz0130_01.row.prog w) (Around.mk none d (some (env :: outer)) gs u) (.call (.ref 120) ⟨[.ref x, .int num ta, .none, .ref cap], []⟩) R s
def init_code_P (c : EC) : Prop := ∀ (num : Int), init_code_S (c.wo 0) (c.ar 0) (c.hp 0) (c.hp 1) (c.le 0) (c.ad 0) (c.mp 0) (c.mp 1) (c.mp 2) (c.en 0) (c.pg 0) (c.ls 0) (c.sh 0) (c.rs 0) (c.ev 0) (c.nt 0) (c.nt 1) (c.oc 0) (c.ad 1) (c.ad 2) (c.ad 3) (c.tk 0) num
@[irreducible] noncomputable def init_code_e : EC := @Classical.epsilon EC EC.ne fun c => ¬ init_code_P c
theorem init_code_eq : init_code_e = @Classical.epsilon EC EC.ne fun c => ¬ init_code_P c := by unfold init_code_e; rfl
theorem init_code_m : init_code_P init_code_e := by
  unfold init_code_P init_code_S
  intro num B F X₀ N T hke hroom hun hxd k
  revert X₀
  k_fill
  intro X₀
  refine' code_keepF B F X₀ N T rfl hke.2 hke.1 ?k6 ?k7 ?k8 ?kn ?k9 ?kB ?_ ?c2 ?c3 ?c4 ?c5
  case k6 => k_is
  case k7 => k_is
  case k8 => k_room
  case k9 => exact BindsTo.of_eq rfl
  case kB => exact locs rfl
  case kn => first | exact (rfl : _ = 1) | exact (rfl : _ = 2) | exact (rfl : _ = 3) | exact (rfl : _ = 4) | exact (rfl : _ = 5) | exact (rfl : _ = 6) | exact (rfl : _ = 7)
  case c2 => exact rfl
  case c3 => exact rfl
  case c4 => exact rfl
  case c5 => decide
  intro h' FG' F' N' B' X' T' hkeep
  clear B F X₀ N T
  (try dsimp only)
  repeat' (first | (k_unfold; (try dsimp only)) | (k_end; wrow_close) | (with_reducible ((with_reducible show wpAny _ _ (setAttr (Value.ref _) _ _) _ _ _); k_dflt (refine' set_dictT ?k1q ?k2q ?k3q ?k4q ?k5q ?k6q ?k7q ?k8q ?k9q ?k10q ?k11q ?k12q ?k13q ?_; (case k1q => k_asm); (case k2q => k_asm); (case k3q => k_asm); (case k4q => k_inst); (case k5q => exact rfl); (case k6q => k_is); (case k7q => k_is); (case k8q => k_is); (case k9q => k_is); (case k10q => k_get); (case k11q => k_put); (case k12q => k_upd); (case k13q => exact Nat.le_of_ble_eq_true rfl); k_whole; intro h'9 F'9 N'9; (try k_sweep)))) | walk1 | dsimp only | (leave1; (try dsimp only)) | fail "no step")
  all_goals (try dsimp only)
  all_goals (refine' leaveK_ ?k1 ?k2 ?_; (case k1 => assumption); (case k2 => assumption); intro kF kN)
  all_goals (have hkeep' := fun b o e q => Fr.keep (by assumption : Fr (gOf _ _) (LOf _) _ _) b o (hkeep b o e q))
  all_goals (refine k _ _ _ _ _ _ _ _ _ _ _ _ _ _ _ kF (news_sub kN (by k_allIn)) hkeep' (lt_all (by with_reducible assumption) (by k_mem)))
theorem init_code {w : World} {A₀ : Around} {base : Heap} {h₀ : Heap} {outer : List Env} {L : Addr} {m : Str → Option Value} {mg : Str → Option Value} {mb : Str → Option Value} {mean : ExcName → Option Value} {pT : Program} {looseT : List Str} {s : Shared} {R : Result → Shared → Prop} {env : Env} {d : Nat} {u : Nat} {gs : Option (List Code)} {x : Addr} {dx : Addr} {cap : Addr} {ta : Tok} {num : Int} : init_code_S w A₀ base h₀ outer L m mg mb mean pT looseT s R env d u gs x dx cap ta num := @ec_all init_code_P (init_code_eq ▸ init_code_m) { wo := fun n => [w].getD n (aWorld 1), ar := fun n => [A₀].getD n (callerA), hp := fun n => [base, h₀].getD n (default), le := fun n => [outer].getD n ([]), ad := fun n => [L, x, dx, cap].getD n (0), mp := fun n => [m, mg, mb].getD n (fun _ => none), en := fun n => [mean].getD n (fun _ => none), pg := fun n => [pT].getD n (default), ls := fun n => [looseT].getD n ([]), sh := fun n => [s].getD n ⟨default, #[], {}, 0, {}⟩, rs := fun n => [R].getD n (fun _ _ => True), sr := fun _ => (default), sc := fun _ => (default), va := fun _ => (.none), nt := fun n => [d, u].getD n (0), oc := fun n => [gs].getD n (none), tk := fun n => [ta].getD n (0), ob := fun _ => (default), iz := fun _ => (0), lv := fun _ => ([]), ll := fun _ => ([]), oa := fun _ => (none), fd := fun _ => (default), av := fun _ => (#[]), li := fun _ => ([]), aw := fun _ => (#[]), ev := fun n => [env].getD n (default) } num
theorem init_code_use {w : World} {A₀ : Around} {base h₀ : Heap} {outer : List Env} {L : Addr} {m mg mb : Str → Option Value} {mean : ExcName → Option Value} {pT : Program} {looseT : List Str} {s : Shared} {R : Result → Shared → Prop}
    {env : Env} {d u : Nat} {gs : Option (List Code)}
    {x dx : Addr} {cap : Addr} {ta : Tok} {num : Int} {g : Obj → List (Addr × Obj)} {full : List (Addr × Obj)}
    (B : Below A₀ base outer h₀) (F : Fr h₀ L s.heap m) (X₀ : (hd.heap_1 w.params).In h₀) (N : News h₀ L s.heap full) (T : Top pT looseT mean mg mb h₀)
    (hke : env.scope.kind = .function ∧ env.frame = some L) (hroom : d < 900) (hun : u < 4000)
    (hxd : @Ne Nat x dx) (U : UpdF dx (dictOf [] 0) full g) (hz : ∀ p ∈ full, @LE.le Nat _ p.1 x) (hsub : ∀ p ∈ ((x, (⟨.ref 123, some dx, .plain, #[]⟩ : Obj)) :: (dx, dictOf [] 0) :: []), p ∈ full)
    (k : ∀ h' tk u0 u1 w1 u2 u3 u4 u5 u6 u7 u8 u9 w9 a3 , Fr h₀ L h' m → News h₀ L h' ((a3, listOf #[] 0) :: g (dictOf [⟨PyData.keyHash w.params (Str.ofString "number"), .str (Str.ofString "number") u0, .int num ta⟩, ⟨PyData.keyHash w.params (Str.ofString "count"), .str (Str.ofString "count") u1, .int 0 w1⟩, ⟨PyData.keyHash w.params (Str.ofString "blessed"), .str (Str.ofString "blessed") u2, .none⟩, ⟨PyData.keyHash w.params (Str.ofString "weak"), .str (Str.ofString "weak") u3, .ref a3⟩, ⟨PyData.keyHash w.params (Str.ofString "is_destroyed"), .str (Str.ofString "is_destroyed") u4, .bool false⟩, ⟨PyData.keyHash w.params (Str.ofString "is_freed"), .str (Str.ofString "is_freed") u5, .bool false⟩, ⟨PyData.keyHash w.params (Str.ofString "sub"), .str (Str.ofString "sub") u6, .none⟩, ⟨PyData.keyHash w.params (Str.ofString "captures"), .str (Str.ofString "captures") u7, .ref cap⟩, ⟨PyData.keyHash w.params (Str.ofString "builtin"), .str (Str.ofString "builtin") u8, .none⟩, ⟨PyData.keyHash w.params (Str.ofString "package"), .str (Str.ofString "package") u9, .str (Str.ofString "main") w9⟩] 10)) → (∀ p ∈ full, p.1 < a3) → R (.ok (.ret .none)) { s with heap := h', toks := tk }) :
    codeAny (model PySem.Challenge.rw_qz0130_01.row.prog w) (Around.mk none d (some (env :: outer)) gs u) (.call (.ref 120) ⟨[.ref x, .int num ta, .none, .ref cap], []⟩) R s :=
  init_code B F X₀ (news_sub N hsub) T hke hroom hun hxd fun h' tk u0 u1 w1 u2 u3 u4 u5 u6 u7 u8 u9 w9 a3  F' N' K l0 => by
    have y := keep_but (d := dx) (o := dictOf [] 0) (o' := dictOf [⟨PyData.keyHash w.params (Str.ofString "number"), .str (Str.ofString "number") u0, .int num ta⟩, ⟨PyData.keyHash w.params (Str.ofString "count"), .str (Str.ofString "count") u1, .int 0 w1⟩, ⟨PyData.keyHash w.params (Str.ofString "blessed"), .str (Str.ofString "blessed") u2, .none⟩, ⟨PyData.keyHash w.params (Str.ofString "weak"), .str (Str.ofString "weak") u3, .ref a3⟩, ⟨PyData.keyHash w.params (Str.ofString "is_destroyed"), .str (Str.ofString "is_destroyed") u4, .bool false⟩, ⟨PyData.keyHash w.params (Str.ofString "is_freed"), .str (Str.ofString "is_freed") u5, .bool false⟩, ⟨PyData.keyHash w.params (Str.ofString "sub"), .str (Str.ofString "sub") u6, .none⟩, ⟨PyData.keyHash w.params (Str.ofString "captures"), .str (Str.ofString "captures") u7, .ref cap⟩, ⟨PyData.keyHash w.params (Str.ofString "builtin"), .str (Str.ofString "builtin") u8, .none⟩, ⟨PyData.keyHash w.params (Str.ofString "package"), .str (Str.ofString "package") u9, .str (Str.ofString "main") w9⟩] 10) (news_sub N hsub) (by k_updF) (news_sub N' (by k_allIn)) K
    exact k h' tk u0 u1 w1 u2 u3 u4 u5 u6 u7 u8 u9 w9 a3  F' (news_two (a := (a3, listOf #[] 0) :: []) (news_sub N' (by k_allIn)) (news_upd N U y.1 y.2)) (fun p hp => Nat.lt_of_le_of_lt (hz p hp) l0)

def init_glob_S (w : World) (A₀ : Around) (base : Heap) (h₀ : Heap) (outer : List Env) (L : Addr) (m : Str → Option Value) (mg : Str → Option Value) (mb : Str → Option Value) (mean : ExcName → Option Value) (pT : Program) (looseT : List Str) (s : Shared) (R : Result → Shared → Prop) (env : Env) (d : Nat) (u : Nat) (gs : Option (List Code)) (x : Addr) (dx : Addr) (ta : Tok) (tb : Tok) (num : Int) (nm : Str) : Prop := ∀ (B : Below A₀ base outer h₀) (F : Fr h₀ L s.heap m) (X₀ : (hd.heap_1 w.params).In h₀) (N : News h₀ L s.heap ((x, (⟨.ref 142, some dx, .plain, #[]⟩ : Obj)) :: (dx, dictOf [] 0) :: [])) (T : Top pT looseT mean mg mb h₀) (hke : env.scope.kind = .function ∧ env.frame = some L) (hroom : d < 900) (hun : u < 4000) (hxd : @Ne Nat x dx) (k : ∀ h' tk u0 u1 w1 u2 u3 u4 u5 u6 u7 u8 u9 u10 a3 , Fr h₀ L h' m → News h₀ L h' ((dx, dictOf [⟨PyData.keyHash w.params (Str.ofString "number"), .str (Str.ofString "number") u0, .int num ta⟩, ⟨PyData.keyHash w.params (Str.ofString "count"), .str (Str.ofString "count") u1, .int 0 w1⟩, ⟨PyData.keyHash w.params (Str.ofString "blessed"), .str (Str.ofString "blessed") u2, .none⟩, ⟨PyData.keyHash w.params (Str.ofString "weak"), .str (Str.ofString "weak") u3, .ref a3⟩, ⟨PyData.keyHash w.params (Str.ofString "is_destroyed"), .str (Str.ofString "is_destroyed") u4, .bool false⟩, ⟨PyData.keyHash w.params (Str.ofString "is_freed"), .str (Str.ofString "is_freed") u5, .bool false⟩, ⟨PyData.keyHash w.params (Str.ofString "name"), .str (Str.ofString "name") u6, .str nm tb⟩, ⟨PyData.keyHash w.params (Str.ofString "scalar"), .str (Str.ofString "scalar") u7, .none⟩, ⟨PyData.keyHash w.params (Str.ofString "array"), .str (Str.ofString "array") u8, .none⟩, ⟨PyData.keyHash w.params (Str.ofString "hash"), .str (Str.ofString "hash") u9, .none⟩, ⟨PyData.keyHash w.params (Str.ofString "code"), .str (Str.ofString "code") u10, .none⟩] 11) :: (x, (⟨.ref 142, some dx, .plain, #[]⟩ : Obj)) :: (a3, listOf #[] 0) :: []) → (∀ b o, s.heap.get? b = some o → b ∉ [x, dx] → h'.get? b = some o) → @LT.lt Nat _ x a3 → R (.ok (.ret .none)) { s with heap := h', toks := tk }), codeAny (model PySem.Challenge.rw_qz0130_01.row.prog w) (Around.mk none d (some (env :: outer)) gs u) (.call (.ref 139) ⟨[.ref x, .int num ta, .str nm tb], []⟩) R s
def init_glob_P (c : EC) : Prop := ∀ (num : Int), init_glob_S (c.wo 0) (c.ar 0) (c.hp 0) (c.hp 1) (c.le 0) (c.ad 0) (c.mp 0) (c.mp 1) (c.mp 2) (c.en 0) (c.pg 0) (c.ls 0) (c.sh 0) (c.rs 0) (c.ev 0) (c.nt 0) (c.nt 1) (c.oc 0) (c.ad 1) (c.ad 2) (c.tk 0) (c.tk 1) num (c.sr 0)
@[irreducible] noncomputable def init_glob_e : EC := @Classical.epsilon EC EC.ne fun c => ¬ init_glob_P c
theorem init_glob_eq : init_glob_e = @Classical.epsilon EC EC.ne fun c => ¬ init_glob_P c := by unfold init_glob_e; rfl
theorem init_glob_m : init_glob_P init_glob_e := by
  unfold init_glob_P init_glob_S
  intro num B F X₀ N T hke hroom hun hxd k
  revert X₀
  k_fill
  intro X₀
  refine' code_keepF B F X₀ N T rfl hke.2 hke.1 ?k6 ?k7 ?k8 ?kn ?k9 ?kB ?_ ?c2 ?c3 ?c4 ?c5
  case k6 => k_is
  case k7 => k_is
  case k8 => k_room
  case k9 => exact BindsTo.of_eq rfl
  case kB => exact locs rfl
  case kn => first | exact (rfl : _ = 1) | exact (rfl : _ = 2) | exact (rfl : _ = 3) | exact (rfl : _ = 4) | exact (rfl : _ = 5) | exact (rfl : _ = 6) | exact (rfl : _ = 7)
  case c2 => exact rfl
  case c3 => exact rfl
  case c4 => exact rfl
  case c5 => decide
  intro h' FG' F' N' B' X' T' hkeep
  clear B F X₀ N T
  (try dsimp only)
  repeat' (first | (k_unfold; (try dsimp only)) | (k_end; wrow_close) | (with_reducible ((with_reducible show wpAny _ _ (setAttr (Value.ref _) _ _) _ _ _); k_dflt (refine' set_dictT ?k1q ?k2q ?k3q ?k4q ?k5q ?k6q ?k7q ?k8q ?k9q ?k10q ?k11q ?k12q ?k13q ?_; (case k1q => k_asm); (case k2q => k_asm); (case k3q => k_asm); (case k4q => k_inst); (case k5q => exact rfl); (case k6q => k_is); (case k7q => k_is); (case k8q => k_is); (case k9q => k_is); (case k10q => k_get); (case k11q => k_put); (case k12q => k_upd); (case k13q => exact Nat.le_of_ble_eq_true rfl); k_whole; intro h'9 F'9 N'9; (try k_sweep)))) | walk1 | dsimp only | (leave1; (try dsimp only)) | fail "no step")
  all_goals (try dsimp only)
  all_goals (refine' leaveK_ ?k1 ?k2 ?_; (case k1 => assumption); (case k2 => assumption); intro kF kN)
  all_goals (have hkeep' := fun b o e q => Fr.keep (by assumption : Fr (gOf _ _) (LOf _) _ _) b o (hkeep b o e q))
  all_goals (refine k _ _ _ _ _ _ _ _ _ _ _ _ _ _ _ kF (news_sub kN (by k_allIn)) hkeep' (lt_all (by with_reducible assumption) (by k_mem)))
theorem init_glob {w : World} {A₀ : Around} {base : Heap} {h₀ : Heap} {outer : List Env} {L : Addr} {m : Str → Option Value} {mg : Str → Option Value} {mb : Str → Option Value} {mean : ExcName → Option Value} {pT : Program} {looseT : List Str} {s : Shared} {R : Result → Shared → Prop} {env : Env} {d : Nat} {u : Nat} {gs : Option (List Code)} {x : Addr} {dx : Addr} {ta : Tok} {tb : Tok} {num : Int} {nm : Str} : init_glob_S w A₀ base h₀ outer L m mg mb mean pT looseT s R env d u gs x dx ta tb num nm := @ec_all init_glob_P (init_glob_eq ▸ init_glob_m) { wo := fun n => [w].getD n (aWorld 1), ar := fun n => [A₀].getD n (callerA), hp := fun n => [base, h₀].getD n (default), le := fun n => [outer].getD n ([]), ad := fun n => [L, x, dx].getD n (0), mp := fun n => [m, mg, mb].getD n (fun _ => none), en := fun n => [mean].getD n (fun _ => none), pg := fun n => [pT].getD n (default), ls := fun n => [looseT].getD n ([]), sh := fun n => [s].getD n ⟨default, #[], {}, 0, {}⟩, rs := fun n => [R].getD n (fun _ _ => True), sr := fun n => [nm].getD n (default), sc := fun _ => (default), va := fun _ => (.none), nt := fun n => [d, u].getD n (0), oc := fun n => [gs].getD n (none), tk := fun n => [ta, tb].getD n (0), ob := fun _ => (default), iz := fun _ => (0), lv := fun _ => ([]), ll := fun _ => ([]), oa := fun _ => (none), fd := fun _ => (default), av := fun _ => (#[]), li := fun _ => ([]), aw := fun _ => (#[]), ev := fun n => [env].getD n (default) } num
theorem init_glob_use {w : World} {A₀ : Around} {base h₀ : Heap} {outer : List Env} {L : Addr} {m mg mb : Str → Option Value} {mean : ExcName → Option Value} {pT : Program} {looseT : List Str} {s : Shared} {R : Result → Shared → Prop}
    {env : Env} {d u : Nat} {gs : Option (List Code)}
    {x dx : Addr} {ta tb : Tok} {num : Int} {nm : Str} {g : Obj → List (Addr × Obj)} {full : List (Addr × Obj)}
    (B : Below A₀ base outer h₀) (F : Fr h₀ L s.heap m) (X₀ : (hd.heap_1 w.params).In h₀) (N : News h₀ L s.heap full) (T : Top pT looseT mean mg mb h₀)
    (hke : env.scope.kind = .function ∧ env.frame = some L) (hroom : d < 900) (hun : u < 4000)
    (hxd : @Ne Nat x dx) (U : UpdF dx (dictOf [] 0) full g) (hz : ∀ p ∈ full, @LE.le Nat _ p.1 x) (hsub : ∀ p ∈ ((x, (⟨.ref 142, some dx, .plain, #[]⟩ : Obj)) :: (dx, dictOf [] 0) :: []), p ∈ full)
    (k : ∀ h' tk u0 u1 w1 u2 u3 u4 u5 u6 u7 u8 u9 u10 a3 , Fr h₀ L h' m → News h₀ L h' ((a3, listOf #[] 0) :: g (dictOf [⟨PyData.keyHash w.params (Str.ofString "number"), .str (Str.ofString "number") u0, .int num ta⟩, ⟨PyData.keyHash w.params (Str.ofString "count"), .str (Str.ofString "count") u1, .int 0 w1⟩, ⟨PyData.keyHash w.params (Str.ofString "blessed"), .str (Str.ofString "blessed") u2, .none⟩, ⟨PyData.keyHash w.params (Str.ofString "weak"), .str (Str.ofString "weak") u3, .ref a3⟩, ⟨PyData.keyHash w.params (Str.ofString "is_destroyed"), .str (Str.ofString "is_destroyed") u4, .bool false⟩, ⟨PyData.keyHash w.params (Str.ofString "is_freed"), .str (Str.ofString "is_freed") u5, .bool false⟩, ⟨PyData.keyHash w.params (Str.ofString "name"), .str (Str.ofString "name") u6, .str nm tb⟩, ⟨PyData.keyHash w.params (Str.ofString "scalar"), .str (Str.ofString "scalar") u7, .none⟩, ⟨PyData.keyHash w.params (Str.ofString "array"), .str (Str.ofString "array") u8, .none⟩, ⟨PyData.keyHash w.params (Str.ofString "hash"), .str (Str.ofString "hash") u9, .none⟩, ⟨PyData.keyHash w.params (Str.ofString "code"), .str (Str.ofString "code") u10, .none⟩] 11)) → (∀ p ∈ full, p.1 < a3) → R (.ok (.ret .none)) { s with heap := h', toks := tk }) :
    codeAny (model PySem.Challenge.rw_qz0130_01.row.prog w) (Around.mk none d (some (env :: outer)) gs u) (.call (.ref 139) ⟨[.ref x, .int num ta, .str nm tb], []⟩) R s :=
  init_glob B F X₀ (news_sub N hsub) T hke hroom hun hxd fun h' tk u0 u1 w1 u2 u3 u4 u5 u6 u7 u8 u9 u10 a3  F' N' K l0 => by
    have y := keep_but (d := dx) (o := dictOf [] 0) (o' := dictOf [⟨PyData.keyHash w.params (Str.ofString "number"), .str (Str.ofString "number") u0, .int num ta⟩, ⟨PyData.keyHash w.params (Str.ofString "count"), .str (Str.ofString "count") u1, .int 0 w1⟩, ⟨PyData.keyHash w.params (Str.ofString "blessed"), .str (Str.ofString "blessed") u2, .none⟩, ⟨PyData.keyHash w.params (Str.ofString "weak"), .str (Str.ofString "weak") u3, .ref a3⟩, ⟨PyData.keyHash w.params (Str.ofString "is_destroyed"), .str (Str.ofString "is_destroyed") u4, .bool false⟩, ⟨PyData.keyHash w.params (Str.ofString "is_freed"), .str (Str.ofString "is_freed") u5, .bool false⟩, ⟨PyData.keyHash w.params (Str.ofString "name"), .str (Str.ofString "name") u6, .str nm tb⟩, ⟨PyData.keyHash w.params (Str.ofString "scalar"), .str (Str.ofString "scalar") u7, .none⟩, ⟨PyData.keyHash w.params (Str.ofString "array"), .str (Str.ofString "array") u8, .none⟩, ⟨PyData.keyHash w.params (Str.ofString "hash"), .str (Str.ofString "hash") u9, .none⟩, ⟨PyData.keyHash w.params (Str.ofString "code"), .str (Str.ofString "code") u10, .none⟩] 11) (news_sub N hsub) (by k_updF) (news_sub N' (by k_allIn)) K
    exact k h' tk u0 u1 w1 u2 u3 u4 u5 u6 u7 u8 u9 u10 a3  F' (news_two (a := (a3, listOf #[] 0) :: []) (news_sub N' (by k_allIn)) (news_upd N U y.1 y.2)) (fun p hp => Nat.lt_of_le_of_lt (hz p hp) l0)

def init_array_S (w : World) (A₀ : Around) (base : Heap) (h₀ : Heap) (outer : List Env) (L : Addr) (m : Str → Option Value) (mg : Str → Option Value) (mb : Str → Option Value) (mean : ExcName → Option Value) (pT : Program) (looseT : List Str) (s : Shared) (R : Result → Shared → Prop) (env : Env) (d : Nat) (u : Nat) (gs : Option (List Code)) (x : Addr) (dx : Addr) (ta : Tok) (num : Int) : Prop := ∀ (B : Below A₀ base outer h₀) (F : Fr h₀ L s.heap m) (X₀ : (hd.heap_1 w.params).In h₀) (N : News h₀ L s.heap ((x, (⟨.ref 85, some dx, .plain, #[]⟩ : Obj)) :: (dx, dictOf [] 0) :: [])) (T : Top pT looseT mean mg mb h₀) (hke : env.scope.kind = .function ∧ env.frame = some L) (hroom : d < 900) (hun : u < 4000) (hxd : @Ne Nat x dx) (k : ∀ h' tk u0 u1 w1 u2 u3 u4 u5 u6 u7 a3 a6 , Fr h₀ L h' m → News h₀ L h' ((dx, dictOf [⟨PyData.keyHash w.params (Str.ofString "number"), .str (Str.ofString "number") u0, .int num ta⟩, ⟨PyData.keyHash w.params (Str.ofString "count"), .str (Str.ofString "count") u1, .int 0 w1⟩, ⟨PyData.keyHash w.params (Str.ofString "blessed"), .str (Str.ofString "blessed") u2, .none⟩, ⟨PyData.keyHash w.params (Str.ofString "weak"), .str (Str.ofString "weak") u3, .ref a3⟩, ⟨PyData.keyHash w.params (Str.ofString "is_destroyed"), .str (Str.ofString "is_destroyed") u4, .bool false⟩, ⟨PyData.keyHash w.params (Str.ofString "is_freed"), .str (Str.ofString "is_freed") u5, .bool false⟩, ⟨PyData.keyHash w.params (Str.ofString "items"), .str (Str.ofString "items") u6, .ref a6⟩, ⟨PyData.keyHash w.params (Str.ofString "tied"), .str (Str.ofString "tied") u7, .none⟩] 8) :: (x, (⟨.ref 85, some dx, .plain, #[]⟩ : Obj)) :: (a6, listOf #[] 0) :: (a3, listOf #[] 0) :: []) → (∀ b o, s.heap.get? b = some o → b ∉ [x, dx] → h'.get? b = some o) → @LT.lt Nat _ x a3 → @LT.lt Nat _ a3 a6 → R (.ok (.ret .none)) { s with heap := h', toks := tk }), codeAny (model PySem.Challenge.rw_qz0130_01.row.prog w) (Around.mk none d (some (env :: outer)) gs u) (.call (.ref 82) ⟨[.ref x, .int num ta], []⟩) R s
def init_array_P (c : EC) : Prop := ∀ (num : Int), init_array_S (c.wo 0) (c.ar 0) (c.hp 0) (c.hp 1) (c.le 0) (c.ad 0) (c.mp 0) (c.mp 1) (c.mp 2) (c.en 0) (c.pg 0) (c.ls 0) (c.sh 0) (c.rs 0) (c.ev 0) (c.nt 0) (c.nt 1) (c.oc 0) (c.ad 1) (c.ad 2) (c.tk 0) num
@[irreducible] noncomputable def init_array_e : EC := @Classical.epsilon EC EC.ne fun c => ¬ init_array_P c
theorem init_array_eq : init_array_e = @Classical.epsilon EC EC.ne fun c => ¬ init_array_P c := by unfold init_array_e; rfl
theorem init_array_m : init_array_P init_array_e := by
  unfold init_array_P init_array_S
  intro num B F X₀ N T hke hroom hun hxd k
  revert X₀
  k_fill
  intro X₀
  refine' code_keepF B F X₀ N T rfl hke.2 hke.1 ?k6 ?k7 ?k8 ?kn ?k9 ?kB ?_ ?c2 ?c3 ?c4 ?c5
  case k6 => k_is
  case k7 => k_is
  case k8 => k_room
  case k9 => exact BindsTo.of_eq rfl
  case kB => exact locs rfl
  case kn => first | exact (rfl : _ = 1) | exact (rfl : _ = 2) | exact (rfl : _ = 3) | exact (rfl : _ = 4) | exact (rfl : _ = 5) | exact (rfl : _ = 6) | exact (rfl : _ = 7)
  case c2 => exact rfl
  case c3 => exact rfl
  case c4 => exact rfl
  case c5 => decide
  intro h' FG' F' N' B' X' T' hkeep
  clear B F X₀ N T
  (try dsimp only)
  repeat' (first | (k_unfold; (try dsimp only)) | (k_end; wrow_close) | (with_reducible ((with_reducible show wpAny _ _ (setAttr (Value.ref _) _ _) _ _ _); k_dflt (refine' set_dictT ?k1q ?k2q ?k3q ?k4q ?k5q ?k6q ?k7q ?k8q ?k9q ?k10q ?k11q ?k12q ?k13q ?_; (case k1q => k_asm); (case k2q => k_asm); (case k3q => k_asm); (case k4q => k_inst); (case k5q => exact rfl); (case k6q => k_is); (case k7q => k_is); (case k8q => k_is); (case k9q => k_is); (case k10q => k_get); (case k11q => k_put); (case k12q => k_upd); (case k13q => exact Nat.le_of_ble_eq_true rfl); k_whole; intro h'9 F'9 N'9; (try k_sweep)))) | walk1 | dsimp only | (leave1; (try dsimp only)) | fail "no step")
  all_goals (try dsimp only)
  all_goals (refine' leaveK_ ?k1 ?k2 ?_; (case k1 => assumption); (case k2 => assumption); intro kF kN)
  all_goals (have hkeep' := fun b o e q => Fr.keep (by assumption : Fr (gOf _ _) (LOf _) _ _) b o (hkeep b o e q))
  all_goals (refine k _ _ _ _ _ _ _ _ _ _ _ _ _ kF (news_sub kN (by k_allIn)) hkeep' (lt_all (by with_reducible assumption) (by k_mem)) (lt_all (by with_reducible assumption) (by k_mem)))
theorem init_array {w : World} {A₀ : Around} {base : Heap} {h₀ : Heap} {outer : List Env} {L : Addr} {m : Str → Option Value} {mg : Str → Option Value} {mb : Str → Option Value} {mean : ExcName → Option Value} {pT : Program} {looseT : List Str} {s : Shared} {R : Result → Shared → Prop} {env : Env} {d : Nat} {u : Nat} {gs : Option (List Code)} {x : Addr} {dx : Addr} {ta : Tok} {num : Int} : init_array_S w A₀ base h₀ outer L m mg mb mean pT looseT s R env d u gs x dx ta num := @ec_all init_array_P (init_array_eq ▸ init_array_m) { wo := fun n => [w].getD n (aWorld 1), ar := fun n => [A₀].getD n (callerA), hp := fun n => [base, h₀].getD n (default), le := fun n => [outer].getD n ([]), ad := fun n => [L, x, dx].getD n (0), mp := fun n => [m, mg, mb].getD n (fun _ => none), en := fun n => [mean].getD n (fun _ => none), pg := fun n => [pT].getD n (default), ls := fun n => [looseT].getD n ([]), sh := fun n => [s].getD n ⟨default, #[], {}, 0, {}⟩, rs := fun n => [R].getD n (fun _ _ => True), sr := fun _ => (default), sc := fun _ => (default), va := fun _ => (.none), nt := fun n => [d, u].getD n (0), oc := fun n => [gs].getD n (none), tk := fun n => [ta].getD n (0), ob := fun _ => (default), iz := fun _ => (0), lv := fun _ => ([]), ll := fun _ => ([]), oa := fun _ => (none), fd := fun _ => (default), av := fun _ => (#[]), li := fun _ => ([]), aw := fun _ => (#[]), ev := fun n => [env].getD n (default) } num
theorem init_array_use {w : World} {A₀ : Around} {base h₀ : Heap} {outer : List Env} {L : Addr} {m mg mb : Str → Option Value} {mean : ExcName → Option Value} {pT : Program} {looseT : List Str} {s : Shared} {R : Result → Shared → Prop}
    {env : Env} {d u : Nat} {gs : Option (List Code)}
    {x dx : Addr} {ta : Tok} {num : Int} {g : Obj → List (Addr × Obj)} {full : List (Addr × Obj)}
    (B : Below A₀ base outer h₀) (F : Fr h₀ L s.heap m) (X₀ : (hd.heap_1 w.params).In h₀) (N : News h₀ L s.heap full) (T : Top pT looseT mean mg mb h₀)
    (hke : env.scope.kind = .function ∧ env.frame = some L) (hroom : d < 900) (hun : u < 4000)
    (hxd : @Ne Nat x dx) (U : UpdF dx (dictOf [] 0) full g) (hz : ∀ p ∈ full, @LE.le Nat _ p.1 x) (hsub : ∀ p ∈ ((x, (⟨.ref 85, some dx, .plain, #[]⟩ : Obj)) :: (dx, dictOf [] 0) :: []), p ∈ full)
    (k : ∀ h' tk u0 u1 w1 u2 u3 u4 u5 u6 u7 a3 a6 , Fr h₀ L h' m → News h₀ L h' ((a6, listOf #[] 0) :: (a3, listOf #[] 0) :: g (dictOf [⟨PyData.keyHash w.params (Str.ofString "number"), .str (Str.ofString "number") u0, .int num ta⟩, ⟨PyData.keyHash w.params (Str.ofString "count"), .str (Str.ofString "count") u1, .int 0 w1⟩, ⟨PyData.keyHash w.params (Str.ofString "blessed"), .str (Str.ofString "blessed") u2, .none⟩, ⟨PyData.keyHash w.params (Str.ofString "weak"), .str (Str.ofString "weak") u3, .ref a3⟩, ⟨PyData.keyHash w.params (Str.ofString "is_destroyed"), .str (Str.ofString "is_destroyed") u4, .bool false⟩, ⟨PyData.keyHash w.params (Str.ofString "is_freed"), .str (Str.ofString "is_freed") u5, .bool false⟩, ⟨PyData.keyHash w.params (Str.ofString "items"), .str (Str.ofString "items") u6, .ref a6⟩, ⟨PyData.keyHash w.params (Str.ofString "tied"), .str (Str.ofString "tied") u7, .none⟩] 8)) → (∀ p ∈ full, p.1 < a3) → @LT.lt Nat _ a3 a6 → R (.ok (.ret .none)) { s with heap := h', toks := tk }) :
    codeAny (model PySem.Challenge.rw_qz0130_01.row.prog w) (Around.mk none d (some (env :: outer)) gs u) (.call (.ref 82) ⟨[.ref x, .int num ta], []⟩) R s :=
  init_array B F X₀ (news_sub N hsub) T hke hroom hun hxd fun h' tk u0 u1 w1 u2 u3 u4 u5 u6 u7 a3 a6  F' N' K l0 l1 => by
    have y := keep_but (d := dx) (o := dictOf [] 0) (o' := dictOf [⟨PyData.keyHash w.params (Str.ofString "number"), .str (Str.ofString "number") u0, .int num ta⟩, ⟨PyData.keyHash w.params (Str.ofString "count"), .str (Str.ofString "count") u1, .int 0 w1⟩, ⟨PyData.keyHash w.params (Str.ofString "blessed"), .str (Str.ofString "blessed") u2, .none⟩, ⟨PyData.keyHash w.params (Str.ofString "weak"), .str (Str.ofString "weak") u3, .ref a3⟩, ⟨PyData.keyHash w.params (Str.ofString "is_destroyed"), .str (Str.ofString "is_destroyed") u4, .bool false⟩, ⟨PyData.keyHash w.params (Str.ofString "is_freed"), .str (Str.ofString "is_freed") u5, .bool false⟩, ⟨PyData.keyHash w.params (Str.ofString "items"), .str (Str.ofString "items") u6, .ref a6⟩, ⟨PyData.keyHash w.params (Str.ofString "tied"), .str (Str.ofString "tied") u7, .none⟩] 8) (news_sub N hsub) (by k_updF) (news_sub N' (by k_allIn)) K
    exact k h' tk u0 u1 w1 u2 u3 u4 u5 u6 u7 a3 a6  F' (news_two (a := (a6, listOf #[] 0) :: (a3, listOf #[] 0) :: []) (news_sub N' (by k_allIn)) (news_upd N U y.1 y.2)) (fun p hp => Nat.lt_of_le_of_lt (hz p hp) l0) l1
end
section
def init_run_S (w : World) (A₀ : Around) (base : Heap) (h₀ : Heap) (outer : List Env) (L : Addr) (m : Str → Option Value) (mg : Str → Option Value) (mb : Str → Option Value) (mean : ExcName → Option Value) (pT : Program) (looseT : List Str) (s : Shared) (R : Result → Shared → Prop) (env : Env) (d : Nat) (u : Nat) (gs : Option (List Code)) (x : Addr) (dx : Addr) (hp : Addr) (ct : Addr) (st : Addr) (lm : Addr) : Prop := ∀ (B : Below A₀ base outer h₀) (F : Fr h₀ L s.heap m) (X₀ : (hd.heap_1 w.params).In h₀) (N : News h₀ L s.heap ((x, (⟨.ref 559, some dx, .plain, #[]⟩ : Obj)) :: (dx, dictOf [] 0) :: [])) (T : Top pT looseT mean mg mb h₀) (hke : env.scope.kind = .function ∧ env.frame = some L) (hroom : d < 900) (hun : u < 4000) (hxd : @Ne Nat x dx) (k : ∀ h' tk u0 u1 u2 u3 u4 u5 u6 u7 u8 u9 u10 u11 u12 u13 u14 u15 w15 u16 u17 u18 a4 a5 a6 a7 a8 a9 a10 a11 a12 a14 b4 b5 b6 b7 b8 b14, Fr h₀ L h' m → News h₀ L h' ((dx, dictOf [⟨PyData.keyHash w.params (Str.ofString "heap"), .str (Str.ofString "heap") u0, .ref hp⟩, ⟨PyData.keyHash w.params (Str.ofString "counter"), .str (Str.ofString "counter") u1, .ref ct⟩, ⟨PyData.keyHash w.params (Str.ofString "stash"), .str (Str.ofString "stash") u2, .ref st⟩, ⟨PyData.keyHash w.params (Str.ofString "limits"), .str (Str.ofString "limits") u3, .ref lm⟩, ⟨PyData.keyHash w.params (Str.ofString "nodes"), .str (Str.ofString "nodes") u4, .ref a4⟩, ⟨PyData.keyHash w.params (Str.ofString "lvs"), .str (Str.ofString "lvs") u5, .ref a5⟩, ⟨PyData.keyHash w.params (Str.ofString "statements"), .str (Str.ofString "statements") u6, .ref a6⟩, ⟨PyData.keyHash w.params (Str.ofString "funcs"), .str (Str.ofString "funcs") u7, .ref a7⟩, ⟨PyData.keyHash w.params (Str.ofString "operators"), .str (Str.ofString "operators") u8, .ref a8⟩, ⟨PyData.keyHash w.params (Str.ofString "out"), .str (Str.ofString "out") u9, .ref a9⟩, ⟨PyData.keyHash w.params (Str.ofString "err"), .str (Str.ofString "err") u10, .ref a10⟩, ⟨PyData.keyHash w.params (Str.ofString "saves"), .str (Str.ofString "saves") u11, .ref a11⟩, ⟨PyData.keyHash w.params (Str.ofString "frames"), .str (Str.ofString "frames") u12, .ref a12⟩, ⟨PyData.keyHash w.params (Str.ofString "match"), .str (Str.ofString "match") u13, .none⟩, ⟨PyData.keyHash w.params (Str.ofString "patterns"), .str (Str.ofString "patterns") u14, .ref a14⟩, ⟨PyData.keyHash w.params (Str.ofString "steps"), .str (Str.ofString "steps") u15, .int 0 w15⟩, ⟨PyData.keyHash w.params (Str.ofString "methods"), .str (Str.ofString "methods") u16, .none⟩, ⟨PyData.keyHash w.params (Str.ofString "call_code"), .str (Str.ofString "call_code") u17, .none⟩, ⟨PyData.keyHash w.params (Str.ofString "compile_text"), .str (Str.ofString "compile_text") u18, .none⟩] 19) :: (x, (⟨.ref 559, some dx, .plain, #[]⟩ : Obj)) :: (a14, b14) :: (a12, listOf #[] 0) :: (a11, listOf #[] 0) :: (a10, listOf #[] 0) :: (a9, listOf #[] 0) :: (a8, b8) :: (a7, b7) :: (a6, b6) :: (a5, b5) :: (a4, b4) :: []) → (∀ b o, s.heap.get? b = some o → b ∉ [x, dx] → h'.get? b = some o) → @LT.lt Nat _ x a4 → @LT.lt Nat _ a4 a5 → @LT.lt Nat _ a5 a6 → @LT.lt Nat _ a6 a7 → @LT.lt Nat _ a7 a8 → @LT.lt Nat _ a8 a9 → @LT.lt Nat _ a9 a10 → @LT.lt Nat _ a10 a11 → @LT.lt Nat _ a11 a12 → @LT.lt Nat _ a12 a14 → R (.ok (.ret .none)) { s with heap := h', toks := tk }), codeAny (model PySem.Challenge.rw_qz0130_01.row.prog w) (Around.mk none d (some (env :: outer)) gs u) (.call (.ref 556) ⟨[.ref x, .ref hp, .ref ct, .ref st, .ref lm], []⟩) R s
def init_run_P (c : EC) : Prop := init_run_S (c.wo 0) (c.ar 0) (c.hp 0) (c.hp 1) (c.le 0) (c.ad 0) (c.mp 0) (c.mp 1) (c.mp 2) (c.en 0) (c.pg 0) (c.ls 0) (c.sh 0) (c.rs 0) (c.ev 0) (c.nt 0) (c.nt 1) (c.oc 0) (c.ad 1) (c.ad 2) (c.ad 3) (c.ad 4) (c.ad 5) (c.ad 6)
@[irreducible] noncomputable def init_run_e : EC := @Classical.epsilon EC EC.ne fun c => ¬ init_run_P c
theorem init_run_eq : init_run_e = @Classical.epsilon EC EC.ne fun c => ¬ init_run_P c := by unfold init_run_e; rfl
theorem init_run_m : init_run_P init_run_e := by
  unfold init_run_P init_run_S
  intro B F X₀ N T hke hroom hun hxd k
  revert X₀
  k_fill
  intro X₀
  refine' code_keepF B F X₀ N T rfl hke.2 hke.1 ?k6 ?k7 ?k8 ?kn ?k9 ?kB ?_ ?c2 ?c3 ?c4 ?c5
  case k6 => k_is
  case k7 => k_is
  case k8 => k_room
  case k9 => exact BindsTo.of_eq rfl
  case kB => exact locs rfl
  case kn => first | exact (rfl : _ = 1) | exact (rfl : _ = 2) | exact (rfl : _ = 3) | exact (rfl : _ = 4) | exact (rfl : _ = 5) | exact (rfl : _ = 6) | exact (rfl : _ = 7)
  case c2 => exact rfl
  case c3 => exact rfl
  case c4 => exact rfl
  case c5 => decide
  intro h' FG' F' N' B' X' T' hkeep
  clear B F X₀ N T
  (try dsimp only)
  repeat' (first | (k_unfold; (try dsimp only)) | (k_end; wrow_close) | (with_reducible ((with_reducible show wpAny _ _ (setAttr (Value.ref _) _ _) _ _ _); k_dflt (refine' set_dictT ?k1q ?k2q ?k3q ?k4q ?k5q ?k6q ?k7q ?k8q ?k9q ?k10q ?k11q ?k12q ?k13q ?_; (case k1q => k_asm); (case k2q => k_asm); (case k3q => k_asm); (case k4q => k_inst); (case k5q => exact rfl); (case k6q => k_is); (case k7q => k_is); (case k8q => k_is); (case k9q => k_is); (case k10q => k_get); (case k11q => k_put); (case k12q => k_upd); (case k13q => exact Nat.le_of_ble_eq_true rfl); k_whole; intro h'9 F'9 N'9; (try k_sweep)))) | walk1 | dsimp only | (leave1; (try dsimp only)) | fail "no step")
  all_goals (try dsimp only)
  all_goals (refine' leaveK_ ?k1 ?k2 ?_; (case k1 => assumption); (case k2 => assumption); intro kF kN)
  all_goals (have hkeep' := fun b o e q => Fr.keep (by assumption : Fr (gOf _ _) (LOf _) _ _) b o (hkeep b o e q))
  all_goals (refine k _ _ _ _ _ _ _ _ _ _ _ _ _ _ _ _ _ _ _ _ _ _ _ _ _ _ _ _ _ _ _ _ _ _ _ _ _ _ kF (news_sub kN (by k_allIn)) hkeep' (lt_all (by with_reducible assumption) (by k_mem)) (lt_all (by with_reducible assumption) (by k_mem)) (lt_all (by with_reducible assumption) (by k_mem)) (lt_all (by with_reducible assumption) (by k_mem)) (lt_all (by with_reducible assumption) (by k_mem)) (lt_all (by with_reducible assumption) (by k_mem)) (lt_all (by with_reducible assumption) (by k_mem)) (lt_all (by with_reducible assumption) (by k_mem)) (lt_all (by with_reducible assumption) (by k_mem)) (lt_all (by with_reducible assumption) (by k_mem)))
theorem init_run {w : World} {A₀ : Around} {base : Heap} {h₀ : Heap} {outer : List Env} {L : Addr} {m : Str → Option Value} {mg : Str → Option Value} {mb : Str → Option Value} {mean : ExcName → Option Value} {pT : Program} {looseT : List Str} {s : Shared} {R : Result → Shared → Prop} {env : Env} {d : Nat} {u : Nat} {gs : Option (List Code)} {x : Addr} {dx : Addr} {hp : Addr} {ct : Addr} {st : Addr} {lm : Addr} : init_run_S w A₀ base h₀ outer L m mg mb mean pT looseT s R env d u gs x dx hp ct st lm := @ec_all init_run_P (init_run_eq ▸ init_run_m) { wo := fun n => [w].getD n (aWorld 1), ar := fun n => [A₀].getD n (callerA), hp := fun n => [base, h₀].getD n (default), le := fun n => [outer].getD n ([]), ad := fun n => [L, x, dx, hp, ct, st, lm].getD n (0), mp := fun n => [m, mg, mb].getD n (fun _ => none), en := fun n => [mean].getD n (fun _ => none), pg := fun n => [pT].getD n (default), ls := fun n => [looseT].getD n ([]), sh := fun n => [s].getD n ⟨default, #[], {}, 0, {}⟩, rs := fun n => [R].getD n (fun _ _ => True), sr := fun _ => (default), sc := fun _ => (default), va := fun _ => (.none), nt := fun n => [d, u].getD n (0), oc := fun n => [gs].getD n (none), tk := fun _ => (0), ob := fun _ => (default), iz := fun _ => (0), lv := fun _ => ([]), ll := fun _ => ([]), oa := fun _ => (none), fd := fun _ => (default), av := fun _ => (#[]), li := fun _ => ([]), aw := fun _ => (#[]), ev := fun n => [env].getD n (default) }
theorem init_run_use {w : World} {A₀ : Around} {base h₀ : Heap} {outer : List Env} {L : Addr} {m mg mb : Str → Option Value} {mean : ExcName → Option Value} {pT : Program} {looseT : List Str} {s : Shared} {R : Result → Shared → Prop}
    {env : Env} {d u : Nat} {gs : Option (List Code)}
    {x dx : Addr} {hp ct st lm : Addr} {g : Obj → List (Addr × Obj)} {full : List (Addr × Obj)}
    (B : Below A₀ base outer h₀) (F : Fr h₀ L s.heap m) (X₀ : (hd.heap_1 w.params).In h₀) (N : News h₀ L s.heap full) (T : Top pT looseT mean mg mb h₀)
    (hke : env.scope.kind = .function ∧ env.frame = some L) (hroom : d < 900) (hun : u < 4000)
    (hxd : @Ne Nat x dx) (U : UpdF dx (dictOf [] 0) full g) (hz : ∀ p ∈ full, @LE.le Nat _ p.1 x) (hsub : ∀ p ∈ ((x, (⟨.ref 559, some dx, .plain, #[]⟩ : Obj)) :: (dx, dictOf [] 0) :: []), p ∈ full)
    (k : ∀ h' tk u0 u1 u2 u3 u4 u5 u6 u7 u8 u9 u10 u11 u12 u13 u14 u15 w15 u16 u17 u18 a4 a5 a6 a7 a8 a9 a10 a11 a12 a14 b4 b5 b6 b7 b8 b14, Fr h₀ L h' m → News h₀ L h' ((a14, b14) :: (a12, listOf #[] 0) :: (a11, listOf #[] 0) :: (a10, listOf #[] 0) :: (a9, listOf #[] 0) :: (a8, b8) :: (a7, b7) :: (a6, b6) :: (a5, b5) :: (a4, b4) :: g (dictOf [⟨PyData.keyHash w.params (Str.ofString "heap"), .str (Str.ofString "heap") u0, .ref hp⟩, ⟨PyData.keyHash w.params (Str.ofString "counter"), .str (Str.ofString "counter") u1, .ref ct⟩, ⟨PyData.keyHash w.params (Str.ofString "stash"), .str (Str.ofString "stash") u2, .ref st⟩, ⟨PyData.keyHash w.params (Str.ofString "limits"), .str (Str.ofString "limits") u3, .ref lm⟩, ⟨PyData.keyHash w.params (Str.ofString "nodes"), .str (Str.ofString "nodes") u4, .ref a4⟩, ⟨PyData.keyHash w.params (Str.ofString "lvs"), .str (Str.ofString "lvs") u5, .ref a5⟩, ⟨PyData.keyHash w.params (Str.ofString "statements"), .str (Str.ofString "statements") u6, .ref a6⟩, ⟨PyData.keyHash w.params (Str.ofString "funcs"), .str (Str.ofString "funcs") u7, .ref a7⟩, ⟨PyData.keyHash w.params (Str.ofString "operators"), .str (Str.ofString "operators") u8, .ref a8⟩, ⟨PyData.keyHash w.params (Str.ofString "out"), .str (Str.ofString "out") u9, .ref a9⟩, ⟨PyData.keyHash w.params (Str.ofString "err"), .str (Str.ofString "err") u10, .ref a10⟩, ⟨PyData.keyHash w.params (Str.ofString "saves"), .str (Str.ofString "saves") u11, .ref a11⟩, ⟨PyData.keyHash w.params (Str.ofString "frames"), .str (Str.ofString "frames") u12, .ref a12⟩, ⟨PyData.keyHash w.params (Str.ofString "match"), .str (Str.ofString "match") u13, .none⟩, ⟨PyData.keyHash w.params (Str.ofString "patterns"), .str (Str.ofString "patterns") u14, .ref a14⟩, ⟨PyData.keyHash w.params (Str.ofString "steps"), .str (Str.ofString "steps") u15, .int 0 w15⟩, ⟨PyData.keyHash w.params (Str.ofString "methods"), .str (Str.ofString "methods") u16, .none⟩, ⟨PyData.keyHash w.params (Str.ofString "call_code"), .str (Str.ofString "call_code") u17, .none⟩, ⟨PyData.keyHash w.params (Str.ofString "compile_text"), .str (Str.ofString "compile_text") u18, .none⟩] 19)) → (∀ p ∈ full, p.1 < a4) → @LT.lt Nat _ a4 a5 → @LT.lt Nat _ a5 a6 → @LT.lt Nat _ a6 a7 → @LT.lt Nat _ a7 a8 → @LT.lt Nat _ a8 a9 → @LT.lt Nat _ a9 a10 → @LT.lt Nat _ a10 a11 → @LT.lt Nat _ a11 a12 → @LT.lt Nat _ a12 a14 → R (.ok (.ret .none)) { s with heap := h', toks := tk }) :
    codeAny (model PySem.Challenge.rw_qz0130_01.row.prog w) (Around.mk none d (some (env :: outer)) gs u) (.call (.ref 556) ⟨[.ref x, .ref hp, .ref ct, .ref st, .ref lm], []⟩) R s :=
  init_run B F X₀ (news_sub N hsub) T hke hroom hun hxd fun h' tk u0 u1 u2 u3 u4 u5 u6 u7 u8 u9 u10 u11 u12 u13 u14 u15 w15 u16 u17 u18 a4 a5 a6 a7 a8 a9 a10 a11 a12 a14 b4 b5 b6 b7 b8 b14 F' N' K l0 l1 l2 l3 l4 l5 l6 l7 l8 l9 => by
    have y := keep_but (d := dx) (o := dictOf [] 0) (o' := dictOf [⟨PyData.keyHash w.params (Str.ofString "heap"), .str (Str.ofString "heap") u0, .ref hp⟩, ⟨PyData.keyHash w.params (Str.ofString "counter"), .str (Str.ofString "counter") u1, .ref ct⟩, ⟨PyData.keyHash w.params (Str.ofString "stash"), .str (Str.ofString "stash") u2, .ref st⟩, ⟨PyData.keyHash w.params (Str.ofString "limits"), .str (Str.ofString "limits") u3, .ref lm⟩, ⟨PyData.keyHash w.params (Str.ofString "nodes"), .str (Str.ofString "nodes") u4, .ref a4⟩, ⟨PyData.keyHash w.params (Str.ofString "lvs"), .str (Str.ofString "lvs") u5, .ref a5⟩, ⟨PyData.keyHash w.params (Str.ofString "statements"), .str (Str.ofString "statements") u6, .ref a6⟩, ⟨PyData.keyHash w.params (Str.ofString "funcs"), .str (Str.ofString "funcs") u7, .ref a7⟩, ⟨PyData.keyHash w.params (Str.ofString "operators"), .str (Str.ofString "operators") u8, .ref a8⟩, ⟨PyData.keyHash w.params (Str.ofString "out"), .str (Str.ofString "out") u9, .ref a9⟩, ⟨PyData.keyHash w.params (Str.ofString "err"), .str (Str.ofString "err") u10, .ref a10⟩, ⟨PyData.keyHash w.params (Str.ofString "saves"), .str (Str.ofString "saves") u11, .ref a11⟩, ⟨PyData.keyHash w.params (Str.ofString "frames"), .str (Str.ofString "frames") u12, .ref a12⟩, ⟨PyData.keyHash w.params (Str.ofString "match"), .str (Str.ofString "match") u13, .none⟩, ⟨PyData.keyHash w.params (Str.ofString "patterns"), .str (Str.ofString "patterns") u14, .ref a14⟩, ⟨PyData.keyHash w.params (Str.ofString "steps"), .str (Str.ofString "steps") u15, .int 0 w15⟩, ⟨PyData.keyHash w.params (Str.ofString "methods"), .str (Str.ofString "methods") u16, .none⟩, ⟨PyData.keyHash w.params (Str.ofString "call_code"), .str (Str.ofString "call_code") u17, .none⟩, ⟨PyData.keyHash w.params (Str.ofString "compile_text"), .str (Str.ofString "compile_text") u18, .none⟩] 19) (news_sub N hsub) (by k_updF) (news_sub N' (by k_allIn)) K
    exact k h' tk u0 u1 u2 u3 u4 u5 u6 u7 u8 u9 u10 u11 u12 u13 u14 u15 w15 u16 u17 u18 a4 a5 a6 a7 a8 a9 a10 a11 a12 a14 b4 b5 b6 b7 b8 b14 F' (news_two (a := (a14, b14) :: (a12, listOf #[] 0) :: (a11, listOf #[] 0) :: (a10, listOf #[] 0) :: (a9, listOf #[] 0) :: (a8, b8) :: (a7, b7) :: (a6, b6) :: (a5, b5) :: (a4, b4) :: []) (news_sub N' (by k_allIn)) (news_upd N U y.1 y.2)) (fun p hp => Nat.lt_of_le_of_lt (hz p hp) l0) l1 l2 l3 l4 l5 l6 l7 l8 l9
end
section
theorem find_any_use {w : World} {A₀ : Around} {base h₀ : Heap} {outer : List Env} {L : Addr} {m mg mb : Str → Option Value} {mean : ExcName → Option Value} {pT : Program} {looseT : List Str} {s : Shared} {R : Result → Shared → Prop}
    {cn : Str} {cs : Scope} {ca : Addr} {ccd : Value} {d u : Nat} {gs : Option (List Code)}
    {t ta tb1 tc td tp tu gaa gab gac gad gae gaf gag gah gai gaj gak gal gam gao : Tok} {st dst hp gl mc dmc c1 c2 c3 c4 g1 dg1 gaw cd g0 ln z : Addr} {nst ng1 nu : Nat} {og odmc o1 o2 o3 o4 oz : Obj} {gan0 gan : Int} {g : Obj → List (Addr × Obj)} {full : List (Addr × Obj)}
    (B : Below A₀ base outer h₀) (F : Fr h₀ L s.heap m) (X₀ : (hd.heap_1 w.params).In h₀) (N : News h₀ L s.heap full) (T : Top pT looseT mean mg mb h₀)
    (hke : cs.kind = .function) (hroom : d < 700) (hun : u < 2000)
    (lo : (gl == sysModules) = false) (hog : og.IsDictOf (strKind PySem.Challenge.rw_qz0130_01.row.prog w) [(Str.ofString "P::go", .ref g1), (Str.ofString "main::_", .ref g0)]) (hC : CacheSt w cd odmc c1 c2 c3 c4 o1 o2 o3 o4) (oc1 : @LT.lt Nat _ dmc c1) (oc2 : @LT.lt Nat _ dmc c2) (oc3 : @LT.lt Nat _ dmc c3) (oc4 : @LT.lt Nat _ dmc c4) (n1 : @Ne Nat st dmc) (n2 : @Ne Nat dst dmc) (n3 : @Ne Nat gl dmc) (n4 : @Ne Nat g1 dmc) (n5 : @Ne Nat dg1 dmc) (n6 : @Ne Nat mc dmc) (n7 : @Ne Nat ln dmc) (n8 : @Ne Nat z dmc) (hsub : ∀ p ∈ ((mc, (⟨.ref 656, some dmc, .plain, #[]⟩ : Obj)) :: (dmc, odmc) :: (c1, o1) :: (c2, o2) :: (c3, o3) :: (c4, o4) :: (st, (⟨.ref 1139, some dst, .plain, #[]⟩ : Obj)) :: (dst, dictOf [⟨PyData.keyHash w.params (Str.ofString "heap"), .str (Str.ofString "heap") ta, .ref hp⟩, ⟨PyData.keyHash w.params (Str.ofString "globs"), .str (Str.ofString "globs") tb1, .ref gl⟩, ⟨PyData.keyHash w.params (Str.ofString "generation"), .str (Str.ofString "generation") tc, .int 1 td⟩] nst) :: (gl, og) :: (g1, (⟨.ref 142, some dg1, .plain, #[]⟩ : Obj)) :: (dg1, dictOf [⟨PyData.keyHash w.params (Str.ofString "number"), .str (Str.ofString "number") gaa, .int gan0 gab⟩, ⟨PyData.keyHash w.params (Str.ofString "count"), .str (Str.ofString "count") gac, .int gan gad⟩, ⟨PyData.keyHash w.params (Str.ofString "blessed"), .str (Str.ofString "blessed") gae, .none⟩, ⟨PyData.keyHash w.params (Str.ofString "weak"), .str (Str.ofString "weak") gaf, .ref gaw⟩, ⟨PyData.keyHash w.params (Str.ofString "is_destroyed"), .str (Str.ofString "is_destroyed") gag, .bool false⟩, ⟨PyData.keyHash w.params (Str.ofString "is_freed"), .str (Str.ofString "is_freed") gah, .bool false⟩, ⟨PyData.keyHash w.params (Str.ofString "name"), .str (Str.ofString "name") gai, .str (Str.ofString "P::go") gaj⟩, ⟨PyData.keyHash w.params (Str.ofString "scalar"), .str (Str.ofString "scalar") gak, .none⟩, ⟨PyData.keyHash w.params (Str.ofString "array"), .str (Str.ofString "array") gal, .none⟩, ⟨PyData.keyHash w.params (Str.ofString "hash"), .str (Str.ofString "hash") gam, .none⟩, ⟨PyData.keyHash w.params (Str.ofString "code"), .str (Str.ofString "code") gao, .ref cd⟩] ng1) :: (ln, listOf #[.str (Str.ofString "P") tp, .str (Str.ofString "UNIVERSAL") tu] nu) :: (z, oz) :: []), p ∈ full) (U : UpdF dmc odmc full g) (hz : ∀ p ∈ full, @LE.le Nat _ p.1 z)
    (k : ∀ h' tk odmc' c1' c2' c3' c4' o1' o2' o3' ktv, Fr h₀ L h' m → News h₀ L h' ((c1', o1') :: (c2', o2') :: (c3', o3') :: (c4', (⟨.type "tuple", none, .seq #[.ref cd, .str (Str.ofString "P") ktv], #[]⟩ : Obj)) :: g odmc') → CacheSt w cd odmc' c1' c2' c3' c4' o1' o2' o3' (⟨.type "tuple", none, .seq #[.ref cd, .str (Str.ofString "P") ktv], #[]⟩ : Obj) → @LT.lt Nat _ dmc c1' → @LT.lt Nat _ dmc c2' → @LT.lt Nat _ dmc c3' → @LT.lt Nat _ dmc c4' → R (.ok (.ret (.ref c4'))) { s with heap := h', toks := tk }) :
    codeAny (model PySem.Challenge.rw_qz0130_01.row.prog w) (Around.mk none d (some (envOf cn cs L ca ccd :: outer)) gs u) (.call (.ref 653) ⟨[.ref mc, .ref st, .ref ln, .str (Str.ofString "go") t], []⟩) R s := by
  have hC0 := hC
  obtain ⟨lo2, hC⟩ := hC
  rcases hC with ⟨va, vb, vc, e0, hb1⟩ | ⟨va, vb, vc, ktv, ktt, ktp, ktu, e0, hmt, e2, e3, e4⟩
  · subst e0
    refine find_fresh_use (g := g) (z := z) (oz := oz) (full := full) B F X₀ N T hke hroom hun lo hog lo2 hb1 n1 n2 n3 n4 n5 n6 (Nat.ne_of_gt oc1) n7 n8 U hz (sub_trans hsub (by k_allIn)) ?_
    intro h' tk tb2 otb2 kv kt kd ktv ktt ktp ktu F' N' y1 y2 l1 l2 l3 l4
    have q1 : @LT.lt Nat _ dmc tb2 := l1 (dmc, _) (hsub _ mem1)
    have q2 := Nat.lt_trans q1 l2
    have q3 := Nat.lt_trans q2 l3
    exact k h' tk (dictOf [⟨PyData.keyHash w.params (Str.ofString "generation"), .str (Str.ofString "generation") va, .int 1 td⟩, ⟨PyData.keyHash w.params (Str.ofString "table"), .str (Str.ofString "table") vc, .ref tb2⟩] 2) tb2 kd kt kv otb2 _ _ _ F' (news_sub N' (in4 mem3 mem2 mem1 mem0 fun _ hp => .tail _ (.tail _ (.tail _ (.tail _ hp))))) ⟨y2, .inr ⟨va, td, vc, ktv, ktt, ktp, ktu, rfl, y1, rfl, rfl, rfl⟩⟩ q1 q2 q3 (Nat.lt_trans q3 l4)
  · subst e0 e2 e3 e4
    refine find_kept_use (full := full) B F X₀ N T hke hroom hun lo hog lo2 hmt (sub_trans hsub (by k_allIn)) ?_
    intro h' tk F' N'
    have hg : ∀ q ∈ g (dictOf [⟨PyData.keyHash w.params (Str.ofString "generation"), .str (Str.ofString "generation") va, .int 1 vb⟩, ⟨PyData.keyHash w.params (Str.ofString "table"), .str (Str.ofString "table") vc, .ref c1⟩] 2), q ∈ full := by
      obtain ⟨pre, post, e1, e2, _⟩ := U.split
      intro q hq
      rw [e2] at hq
      rw [e1]; exact hq
    exact k h' tk _ c1 c2 c3 c4 _ _ _ _ F' (news_sub N' (in4 (hsub _ mem2) (hsub _ mem3) (hsub _ mem4) (hsub _ mem5) hg)) hC0 oc1 oc2 oc3 oc4
end
section
theorem method_instD {prog : Program} {w : World} {A : Around} {E : Value → Shared → Prop} {s : Shared} {h₀ : Heap} {L x C : Addr} {m : Str → Option Value} {K : Frag} {ox od : Obj} {name : Str} {pl : Sem Bool} {Q : Value × List Value → Shared → Prop} {f : Addr} (F : Fr h₀ L s.heap m) (X₀ : K.In h₀) (I : InstAt s.heap x ox C (some od)) (hg : plainGet K C name = true)
    (hf : findIn K (.ref C) name = some (some (.ref f))) (ht : isFn K (.ref f) = true) (hl : lookIn name od = some none) (h : Q (.ref f, [.ref x]) s) : wpAny (model prog w) A (getMethod (.ref x) name pl) Q E s :=
  method_fn (X₀.keeps F.keep) I (plainGet_of hg).1 (plainGet_of hg).2 hf (beq_iff_eq.mp ht) (by show (lookIn name od).map _ = _; rw [hl]; rfl) h
theorem cache_look {w : World} {cd c1 c2 c3 c4 : Addr} {odmc o1 o2 o3 o4 : Obj} (C : CacheSt w cd odmc c1 c2 c3 c4 o1 o2 o3 o4) : lookIn (Str.ofString "find") odmc = some none := by
  obtain ⟨_, ⟨_, _, _, rfl, _⟩ | ⟨_, _, _, _, _, _, _, rfl, _⟩⟩ := C <;> rfl
def method_for_any_S (w : World) (A₀ : Around) (base : Heap) (h₀ : Heap) (outer : List Env) (L : Addr) (m : Str → Option Value) (mg : Str → Option Value) (mb : Str → Option Value) (mean : ExcName → Option Value) (pT : Program) (looseT : List Str) (s : Shared) (R : Result → Shared → Prop) (cn : Str) (cs : Scope) (ca : Addr) (ccd : Value) (d : Nat) (u : Nat) (gs : Option (List Code)) (r0 : Tok) (r1 : Tok) (r2 : Tok) (r3 : Tok) (r4 : Tok) (r5 : Tok) (r6 : Tok) (r7 : Tok) (r8 : Tok) (r9 : Tok) (r10 : Tok) (r11 : Tok) (r12 : Tok) (r13 : Tok) (r14 : Tok) (r15 : Tok) (r16 : Tok) (r17 : Tok) (r18 : Tok) (q0 : Tok) (ta : Tok) (tb1 : Tok) (tc : Tok) (td : Tok) (gab : Tok) (gac : Tok) (gad : Tok) (gae : Tok) (gaf : Tok) (gag : Tok) (gah : Tok) (gai : Tok) (gaj : Tok) (gak : Tok) (gal : Tok) (gam : Tok) (gao : Tok) (gaa : Tok) (t : Tok) (t2 : Tok) (run : Addr) (drun : Addr) (hp : Addr) (ct : Addr) (st : Addr) (dst : Addr) (gl : Addr) (lm : Addr) (nd : Addr) (mc : Addr) (dmc : Addr) (c1 : Addr) (c2 : Addr) (c3 : Addr) (c4 : Addr) (g1 : Addr) (dg1 : Addr) (gaw : Addr) (cd : Addr) (g0 : Addr) (x5 : Addr) (x6 : Addr) (x7 : Addr) (x8 : Addr) (x9 : Addr) (x10 : Addr) (x11 : Addr) (x12 : Addr) (x14 : Addr) (nrun : Nat) (nst : Nat) (ng1 : Nat) (og : Obj) (odmc : Obj) (o1 : Obj) (o2 : Obj) (o3 : Obj) (o4 : Obj) (gan0 : Int) (gan : Int) : Prop := ∀ (B : Below A₀ base outer h₀) (F : Fr h₀ L s.heap m) (X₀ : (hd.heap_1 w.params).In h₀) (N : News h₀ L s.heap ((run, (⟨.ref 559, some drun, .plain, #[]⟩ : Obj)) :: (drun, dictOf [⟨PyData.keyHash w.params (Str.ofString "heap"), .str (Str.ofString "heap") r0, .ref hp⟩, ⟨PyData.keyHash w.params (Str.ofString "counter"), .str (Str.ofString "counter") r1, .ref ct⟩, ⟨PyData.keyHash w.params (Str.ofString "stash"), .str (Str.ofString "stash") r2, .ref st⟩, ⟨PyData.keyHash w.params (Str.ofString "limits"), .str (Str.ofString "limits") r3, .ref lm⟩, ⟨PyData.keyHash w.params (Str.ofString "nodes"), .str (Str.ofString "nodes") r4, .ref nd⟩, ⟨PyData.keyHash w.params (Str.ofString "lvs"), .str (Str.ofString "lvs") r5, .ref x5⟩, ⟨PyData.keyHash w.params (Str.ofString "statements"), .str (Str.ofString "statements") r6, .ref x6⟩, ⟨PyData.keyHash w.params (Str.ofString "funcs"), .str (Str.ofString "funcs") r7, .ref x7⟩, ⟨PyData.keyHash w.params (Str.ofString "operators"), .str (Str.ofString "operators") r8, .ref x8⟩, ⟨PyData.keyHash w.params (Str.ofString "out"), .str (Str.ofString "out") r9, .ref x9⟩, ⟨PyData.keyHash w.params (Str.ofString "err"), .str (Str.ofString "err") r10, .ref x10⟩, ⟨PyData.keyHash w.params (Str.ofString "saves"), .str (Str.ofString "saves") r11, .ref x11⟩, ⟨PyData.keyHash w.params (Str.ofString "frames"), .str (Str.ofString "frames") r12, .ref x12⟩, ⟨PyData.keyHash w.params (Str.ofString "match"), .str (Str.ofString "match") r13, .none⟩, ⟨PyData.keyHash w.params (Str.ofString "patterns"), .str (Str.ofString "patterns") r14, .ref x14⟩, ⟨PyData.keyHash w.params (Str.ofString "steps"), .str (Str.ofString "steps") r15, .int 0 q0⟩, ⟨PyData.keyHash w.params (Str.ofString "methods"), .str (Str.ofString "methods") r16, .ref mc⟩, ⟨PyData.keyHash w.params (Str.ofString "call_code"), .str (Str.ofString "call_code") r17, .none⟩, ⟨PyData.keyHash w.params (Str.ofString "compile_text"), .str (Str.ofString "compile_text") r18, .none⟩] nrun) :: (st, (⟨.ref 1139, some dst, .plain, #[]⟩ : Obj)) :: (dst, dictOf [⟨PyData.keyHash w.params (Str.ofString "heap"), .str (Str.ofString "heap") ta, .ref hp⟩, ⟨PyData.keyHash w.params (Str.ofString "globs"), .str (Str.ofString "globs") tb1, .ref gl⟩, ⟨PyData.keyHash w.params (Str.ofString "generation"), .str (Str.ofString "generation") tc, .int 1 td⟩] nst) :: (gl, og) :: (g1, (⟨.ref 142, some dg1, .plain, #[]⟩ : Obj)) :: (dg1, dictOf [⟨PyData.keyHash w.params (Str.ofString "number"), .str (Str.ofString "number") gaa, .int gan0 gab⟩, ⟨PyData.keyHash w.params (Str.ofString "count"), .str (Str.ofString "count") gac, .int gan gad⟩, ⟨PyData.keyHash w.params (Str.ofString "blessed"), .str (Str.ofString "blessed") gae, .none⟩, ⟨PyData.keyHash w.params (Str.ofString "weak"), .str (Str.ofString "weak") gaf, .ref gaw⟩, ⟨PyData.keyHash w.params (Str.ofString "is_destroyed"), .str (Str.ofString "is_destroyed") gag, .bool false⟩, ⟨PyData.keyHash w.params (Str.ofString "is_freed"), .str (Str.ofString "is_freed") gah, .bool false⟩, ⟨PyData.keyHash w.params (Str.ofString "name"), .str (Str.ofString "name") gai, .str (Str.ofString "P::go") gaj⟩, ⟨PyData.keyHash w.params (Str.ofString "scalar"), .str (Str.ofString "scalar") gak, .none⟩, ⟨PyData.keyHash w.params (Str.ofString "array"), .str (Str.ofString "array") gal, .none⟩, ⟨PyData.keyHash w.params (Str.ofString "hash"), .str (Str.ofString "hash") gam, .none⟩, ⟨PyData.keyHash w.params (Str.ofString "code"), .str (Str.ofString "code") gao, .ref cd⟩] ng1) :: (mc, (⟨.ref 656, some dmc, .plain, #[]⟩ : Obj)) :: (dmc, odmc) :: (c1, o1) :: (c2, o2) :: (c3, o3) :: (c4, o4) :: [])) (T : Top pT looseT mean mg mb h₀) (hke : cs.kind = .function) (hroom : d < 600) (hun : u < 1000) (lo : (gl == sysModules) = false) (hog : og.IsDictOf (strKind PySem.Challenge.rw_qz0130_01.row.prog w) [(Str.ofString "P::go", .ref g1), (Str.ofString "main::_", .ref g0)]) (hC : CacheSt w cd odmc c1 c2 c3 c4 o1 o2 o3 o4) (o1n : @Ne Nat run dmc) (o2n : @Ne Nat drun dmc) (o3n : @Ne Nat st dmc) (o4n : @Ne Nat dst dmc) (o5n : @Ne Nat gl dmc) (o6n : @Ne Nat g1 dmc) (o7n : @Ne Nat dg1 dmc) (o8n : @Ne Nat mc dmc) (oc1 : @LT.lt Nat _ dmc c1) (oc2 : @LT.lt Nat _ dmc c2) (oc3 : @LT.lt Nat _ dmc c3) (oc4 : @LT.lt Nat _ dmc c4) (k : ∀ h' tk odmc' c1' c2' c3' c4' o1' o2' o3' o4', Fr h₀ L h' m → News h₀ L h' ((c1', o1') :: (c2', o2') :: (c3', o3') :: (c4', o4') :: (run, (⟨.ref 559, some drun, .plain, #[]⟩ : Obj)) :: (drun, dictOf [⟨PyData.keyHash w.params (Str.ofString "heap"), .str (Str.ofString "heap") r0, .ref hp⟩, ⟨PyData.keyHash w.params (Str.ofString "counter"), .str (Str.ofString "counter") r1, .ref ct⟩, ⟨PyData.keyHash w.params (Str.ofString "stash"), .str (Str.ofString "stash") r2, .ref st⟩, ⟨PyData.keyHash w.params (Str.ofString "limits"), .str (Str.ofString "limits") r3, .ref lm⟩, ⟨PyData.keyHash w.params (Str.ofString "nodes"), .str (Str.ofString "nodes") r4, .ref nd⟩, ⟨PyData.keyHash w.params (Str.ofString "lvs"), .str (Str.ofString "lvs") r5, .ref x5⟩, ⟨PyData.keyHash w.params (Str.ofString "statements"), .str (Str.ofString "statements") r6, .ref x6⟩, ⟨PyData.keyHash w.params (Str.ofString "funcs"), .str (Str.ofString "funcs") r7, .ref x7⟩, ⟨PyData.keyHash w.params (Str.ofString "operators"), .str (Str.ofString "operators") r8, .ref x8⟩, ⟨PyData.keyHash w.params (Str.ofString "out"), .str (Str.ofString "out") r9, .ref x9⟩, ⟨PyData.keyHash w.params (Str.ofString "err"), .str (Str.ofString "err") r10, .ref x10⟩, ⟨PyData.keyHash w.params (Str.ofString "saves"), .str (Str.ofString "saves") r11, .ref x11⟩, ⟨PyData.keyHash w.params (Str.ofString "frames"), .str (Str.ofString "frames") r12, .ref x12⟩, ⟨PyData.keyHash w.params (Str.ofString "match"), .str (Str.ofString "match") r13, .none⟩, ⟨PyData.keyHash w.params (Str.ofString "patterns"), .str (Str.ofString "patterns") r14, .ref x14⟩, ⟨PyData.keyHash w.params (Str.ofString "steps"), .str (Str.ofString "steps") r15, .int 0 q0⟩, ⟨PyData.keyHash w.params (Str.ofString "methods"), .str (Str.ofString "methods") r16, .ref mc⟩, ⟨PyData.keyHash w.params (Str.ofString "call_code"), .str (Str.ofString "call_code") r17, .none⟩, ⟨PyData.keyHash w.params (Str.ofString "compile_text"), .str (Str.ofString "compile_text") r18, .none⟩] nrun) :: (st, (⟨.ref 1139, some dst, .plain, #[]⟩ : Obj)) :: (dst, dictOf [⟨PyData.keyHash w.params (Str.ofString "heap"), .str (Str.ofString "heap") ta, .ref hp⟩, ⟨PyData.keyHash w.params (Str.ofString "globs"), .str (Str.ofString "globs") tb1, .ref gl⟩, ⟨PyData.keyHash w.params (Str.ofString "generation"), .str (Str.ofString "generation") tc, .int 1 td⟩] nst) :: (gl, og) :: (g1, (⟨.ref 142, some dg1, .plain, #[]⟩ : Obj)) :: (dg1, dictOf [⟨PyData.keyHash w.params (Str.ofString "number"), .str (Str.ofString "number") gaa, .int gan0 gab⟩, ⟨PyData.keyHash w.params (Str.ofString "count"), .str (Str.ofString "count") gac, .int gan gad⟩, ⟨PyData.keyHash w.params (Str.ofString "blessed"), .str (Str.ofString "blessed") gae, .none⟩, ⟨PyData.keyHash w.params (Str.ofString "weak"), .str (Str.ofString "weak") gaf, .ref gaw⟩, ⟨PyData.keyHash w.params (Str.ofString "is_destroyed"), .str (Str.ofString "is_destroyed") gag, .bool false⟩, ⟨PyData.keyHash w.params (Str.ofString "is_freed"), .str (Str.ofString "is_freed") gah, .bool false⟩, ⟨PyData.keyHash w.params (Str.ofString "name"), .str (Str.ofString "name") gai, .str (Str.ofString "P::go") gaj⟩, ⟨PyData.keyHash w.params (Str.ofString "scalar"), .str (Str.ofString "scalar") gak, .none⟩, ⟨PyData.keyHash w.params (Str.ofString "array"), .str (Str.ofString "array") gal, .none⟩, ⟨PyData.keyHash w.params (Str.ofString "hash"), .str (Str.ofString "hash") gam, .none⟩, ⟨PyData.keyHash w.params (Str.ofString "code"), .str (Str.ofString "code") gao, .ref cd⟩] ng1) :: (mc, (⟨.ref 656, some dmc, .plain, #[]⟩ : Obj)) :: (dmc, odmc') :: (c1, o1) :: (c2, o2) :: (c3, o3) :: (c4, o4) :: []) → (∀ b o, s.heap.get? b = some o → b ∉ [run, drun, st, dst, gl, g1, dg1, mc, dmc, c1, c2, c3, c4] → h'.get? b = some o) → CacheSt w cd odmc' c1' c2' c3' c4' o1' o2' o3' o4' → @LT.lt Nat _ dmc c1' → @LT.lt Nat _ dmc c2' → @LT.lt Nat _ dmc c3' → @LT.lt Nat _ dmc c4' → R (.ok (.ret (.ref cd))) { s with heap := h', toks := tk }), codeAny (model PySem.Challenge.rw_qz0130_01.row.prog w) (Around.mk none d (some (envOf cn cs L ca ccd :: outer)) gs u) (.call (.ref 702) ⟨[.ref run, .str (Str.ofString "P") t, .str (Str.ofString "go") t2, .none], []⟩) R s
def method_for_any_P (c : EC) : Prop := ∀ (gan0 : Int) (gan : Int), method_for_any_S (c.wo 0) (c.ar 0) (c.hp 0) (c.hp 1) (c.le 0) (c.ad 0) (c.mp 0) (c.mp 1) (c.mp 2) (c.en 0) (c.pg 0) (c.ls 0) (c.sh 0) (c.rs 0) (c.sr 0) (c.sc 0) (c.ad 1) (c.va 0) (c.nt 0) (c.nt 1) (c.oc 0) (c.tk 0) (c.tk 1) (c.tk 2) (c.tk 3) (c.tk 4) (c.tk 5) (c.tk 6) (c.tk 7) (c.tk 8) (c.tk 9) (c.tk 10) (c.tk 11) (c.tk 12) (c.tk 13) (c.tk 14) (c.tk 15) (c.tk 16) (c.tk 17) (c.tk 18) (c.tk 19) (c.tk 20) (c.tk 21) (c.tk 22) (c.tk 23) (c.tk 24) (c.tk 25) (c.tk 26) (c.tk 27) (c.tk 28) (c.tk 29) (c.tk 30) (c.tk 31) (c.tk 32) (c.tk 33) (c.tk 34) (c.tk 35) (c.tk 36) (c.tk 37) (c.tk 38) (c.tk 39) (c.ad 2) (c.ad 3) (c.ad 4) (c.ad 5) (c.ad 6) (c.ad 7) (c.ad 8) (c.ad 9) (c.ad 10) (c.ad 11) (c.ad 12) (c.ad 13) (c.ad 14) (c.ad 15) (c.ad 16) (c.ad 17) (c.ad 18) (c.ad 19) (c.ad 20) (c.ad 21) (c.ad 22) (c.ad 23) (c.ad 24) (c.ad 25) (c.ad 26) (c.ad 27) (c.ad 28) (c.ad 29) (c.ad 30) (c.nt 2) (c.nt 3) (c.nt 4) (c.ob 0) (c.ob 1) (c.ob 2) (c.ob 3) (c.ob 4) (c.ob 5) gan0 gan
@[irreducible] noncomputable def method_for_any_e : EC := @Classical.epsilon EC EC.ne fun c => ¬ method_for_any_P c
theorem method_for_any_eq : method_for_any_e = @Classical.epsilon EC EC.ne fun c => ¬ method_for_any_P c := by unfold method_for_any_e; rfl
theorem method_for_any_m : method_for_any_P method_for_any_e := by
  unfold method_for_any_P method_for_any_S
  intro gan0 gan B F X₀ N T hke hroom hun lo hog hC o1n o2n o3n o4n o5n o6n o7n o8n oc1 oc2 oc3 oc4 k
  revert X₀
  k_fill
  intro X₀
  refine' code_keepG B F X₀ N T rfl hke ?k6 ?k7 ?k8 ?kn ?k9 ?kB ?_ ?c2 ?c3 ?c4 ?c5
  case k6 => k_is
  case k7 => k_is
  case k8 => k_room
  case k9 => exact BindsTo.of_eq rfl
  case kB => exact locs rfl
  case kn => first | exact (rfl : _ = 1) | exact (rfl : _ = 2) | exact (rfl : _ = 3) | exact (rfl : _ = 4) | exact (rfl : _ = 5) | exact (rfl : _ = 6) | exact (rfl : _ = 7)
  case c2 => exact rfl
  case c3 => exact rfl
  case c4 => exact rfl
  case c5 => decide
  intro h' FG' F' N' B' X' T' hkeep
  clear B F X₀ N T
  (try dsimp only)
  have hlk := cache_look hC
  repeat' (first | (k_unfold; (try dsimp only)) | (k_end; wrow_close) | (with_reducible ((with_reducible show wpAny _ _ (getMethod (Value.ref _) _ _) _ _ _); k_dflt (refine' method_instD ?k1 ?k2 ?k3 ?k4 ?k5 ?k6 ?k7 ?_; (case k1 => k_asm); (case k2 => k_asm); (case k3 => k_inst); (case k4 => k_is); (case k5 => k_is); (case k6 => k_is); (case k7 => with_reducible assumption); k_whole))) | ((with_reducible show wpAny _ _ (call (Value.ref _) _ _) _ _ _); k_dflt ((refine wpAny_call ?_); (first | (refine' cut_go_use ?fB ?fF ?fX ?fN ?fT ?fk ?fd ?fu ?hz ?hsub ?_; (case fN => k_asm); (case hsub => k_allIn); (case hz => (first | exact hz_head (by with_reducible assumption) | assumption)); (case fB => k_asm); (case fF => k_asm); (case fX => k_asm); (case fT => k_asm); (case fk => exact rfl); (case fd => ((try simp only [depth_under_make, depth_under_kw, depth_in1, depth_deeper, depth_caller]); (try dsimp only [Around.deeper, Around.in1, Around.mark]); first | walk_at "room" | decide)); (case fu => k_units); k_whole; intro h'9 tk9 l9 t19 t29 F'9 N'9 l19; (try dsimp only at N'9); (try dsimp only); (try k_sweep)) | (refine' whole_P_use ?fB ?fF ?fX ?fN ?fT ?fk ?fd ?fu ?lo ?hog ?hz ?hsub ?_; (case fN => k_asm); (case hsub => k_allIn); (case hz => (first | exact hz_head (by with_reducible assumption) | assumption)); (case lo => first | k_asm | k_ne | omega); (case hog => first | k_asm | k_ne | omega); (case fB => k_asm); (case fF => k_asm); (case fX => k_asm); (case fT => k_asm); (case fk => exact rfl); (case fd => ((try simp only [depth_under_make, depth_under_kw, depth_in1, depth_deeper, depth_caller]); (try dsimp only [Around.deeper, Around.in1, Around.mark]); first | walk_at "room" | decide)); (case fu => k_units); k_whole; intro h'9 tk9 l9 tu9 nu9 F'9 N'9 l19; (try dsimp only at N'9); (try dsimp only); (try k_sweep)) | (refine' find_any_use ?fB ?fF ?fX ?fN ?fT ?fk ?fd ?fu ?lo ?hog ?hC ?oc1 ?oc2 ?oc3 ?oc4 ?n1 ?n2 ?n3 ?n4 ?n5 ?n6 ?n7 ?n8 ?hsub ?U ?hz ?_; (case fN => k_asm); (case hC => k_asm); (case hsub => k_allIn); (case hz => (first | exact hz_head (by with_reducible assumption) | assumption)); (case lo => first | k_asm | k_ne | omega); (case hog => first | k_asm | k_ne | omega); (case oc1 => first | k_asm | k_ne | omega); (case oc2 => first | k_asm | k_ne | omega); (case oc3 => first | k_asm | k_ne | omega); (case oc4 => first | k_asm | k_ne | omega); (case n1 => first | k_asm | k_ne | omega); (case n2 => first | k_asm | k_ne | omega); (case n3 => first | k_asm | k_ne | omega); (case n4 => first | k_asm | k_ne | omega); (case n5 => first | k_asm | k_ne | omega); (case n6 => first | k_asm | k_ne | omega); (case n7 => first | k_asm | k_ne | omega); (case n8 => first | k_asm | k_ne | omega); (case U => k_updF); (case fB => k_asm); (case fF => k_asm); (case fX => k_asm); (case fT => k_asm); (case fk => exact rfl); (case fd => ((try simp only [depth_under_make, depth_under_kw, depth_in1, depth_deeper, depth_caller]); (try dsimp only [Around.deeper, Around.in1, Around.mark]); first | walk_at "room" | decide)); (case fu => k_units); k_whole; intro h'9 tk9 odmc'9 c1'9 c2'9 c3'9 c4'9 o1'9 o2'9 o3'9 ktv9 F'9 N'9 hC'9 q19 q29 q39 q49; (try dsimp only at N'9); (try dsimp only); (try k_sweep))))) | (walk1; (try (with_reducible refine tok3 ?_; intro tk))) | dsimp only | (leave1; (try dsimp only)) | fail "no step")
  all_goals (try dsimp only)
  all_goals (refine' leaveK_ ?k1 ?k2 ?_; (case k1 => assumption); (case k2 => assumption); intro kF kN)
  all_goals (have hkeep' := fun b o e q => Fr.keep (by assumption : Fr (gOf _ _) (LOf _) _ _) b o (hkeep b o e q))
  all_goals (refine' k _ _ _ _ _ _ _ _ _ _ _ kF ?kn hkeep' ?kc ?q1 ?q2 ?q3 ?q4; (case kc => assumption); (case kn => exact news_sub kN (by k_allIn)); (case q1 => with_reducible assumption); (case q2 => with_reducible assumption); (case q3 => with_reducible assumption); (case q4 => with_reducible assumption))
theorem method_for_any {w : World} {A₀ : Around} {base : Heap} {h₀ : Heap} {outer : List Env} {L : Addr} {m : Str → Option Value} {mg : Str → Option Value} {mb : Str → Option Value} {mean : ExcName → Option Value} {pT : Program} {looseT : List Str} {s : Shared} {R : Result → Shared → Prop} {cn : Str} {cs : Scope} {ca : Addr} {ccd : Value} {d : Nat} {u : Nat} {gs : Option (List Code)} {r0 : Tok} {r1 : Tok} {r2 : Tok} {r3 : Tok} {r4 : Tok} {r5 : Tok} {r6 : Tok} {r7 : Tok} {r8 : Tok} {r9 : Tok} {r10 : Tok} {r11 : Tok} {r12 : Tok} {r13 : Tok} {r14 : Tok} {r15 : Tok} {r16 : Tok} {r17 : Tok} {r18 : Tok} {q0 : Tok} {ta : Tok} {tb1 : Tok} {tc : Tok} {td : Tok} {gab : Tok} {gac : Tok} {gad : Tok} {gae : Tok} {gaf : Tok} {gag : Tok} {gah : Tok} {gai : Tok} {gaj : Tok} {gak : Tok} {gal : Tok} {gam : Tok} {gao : Tok} {gaa : Tok} {t : Tok} {t2 : Tok} {run : Addr} {drun : Addr} {hp : Addr} {ct : Addr} {st : Addr} {dst : Addr} {gl : Addr} {lm : Addr} {nd : Addr} {mc : Addr} {dmc : Addr} {c1 : Addr} {c2 : Addr} {c3 : Addr} {c4 : Addr} {g1 : Addr} {dg1 : Addr} {gaw : Addr} {cd : Addr} {g0 : Addr} {x5 : Addr} {x6 : Addr} {x7 : Addr} {x8 : Addr} {x9 : Addr} {x10 : Addr} {x11 : Addr} {x12 : Addr} {x14 : Addr} {nrun : Nat} {nst : Nat} {ng1 : Nat} {og : Obj} {odmc : Obj} {o1 : Obj} {o2 : Obj} {o3 : Obj} {o4 : Obj} {gan0 : Int} {gan : Int} : method_for_any_S w A₀ base h₀ outer L m mg mb mean pT looseT s R cn cs ca ccd d u gs r0 r1 r2 r3 r4 r5 r6 r7 r8 r9 r10 r11 r12 r13 r14 r15 r16 r17 r18 q0 ta tb1 tc td gab gac gad gae gaf gag gah gai gaj gak gal gam gao gaa t t2 run drun hp ct st dst gl lm nd mc dmc c1 c2 c3 c4 g1 dg1 gaw cd g0 x5 x6 x7 x8 x9 x10 x11 x12 x14 nrun nst ng1 og odmc o1 o2 o3 o4 gan0 gan := @ec_all method_for_any_P (method_for_any_eq ▸ method_for_any_m) { wo := fun n => [w].getD n (aWorld 1), ar := fun n => [A₀].getD n (callerA), hp := fun n => [base, h₀].getD n (default), le := fun n => [outer].getD n ([]), ad := fun n => [L, ca, run, drun, hp, ct, st, dst, gl, lm, nd, mc, dmc, c1, c2, c3, c4, g1, dg1, gaw, cd, g0, x5, x6, x7, x8, x9, x10, x11, x12, x14].getD n (0), mp := fun n => [m, mg, mb].getD n (fun _ => none), en := fun n => [mean].getD n (fun _ => none), pg := fun n => [pT].getD n (default), ls := fun n => [looseT].getD n ([]), sh := fun n => [s].getD n ⟨default, #[], {}, 0, {}⟩, rs := fun n => [R].getD n (fun _ _ => True), sr := fun n => [cn].getD n (default), sc := fun n => [cs].getD n (default), va := fun n => [ccd].getD n (.none), nt := fun n => [d, u, nrun, nst, ng1].getD n (0), oc := fun n => [gs].getD n (none), tk := fun n => [r0, r1, r2, r3, r4, r5, r6, r7, r8, r9, r10, r11, r12, r13, r14, r15, r16, r17, r18, q0, ta, tb1, tc, td, gab, gac, gad, gae, gaf, gag, gah, gai, gaj, gak, gal, gam, gao, gaa, t, t2].getD n (0), ob := fun n => [og, odmc, o1, o2, o3, o4].getD n (default), iz := fun _ => (0), lv := fun _ => ([]), ll := fun _ => ([]), oa := fun _ => (none), fd := fun _ => (default), av := fun _ => (#[]), li := fun _ => ([]), aw := fun _ => (#[]), ev := fun _ => (default) } gan0 gan
theorem method_for_any_use {w : World} {A₀ : Around} {base h₀ : Heap} {outer : List Env} {L : Addr} {m mg mb : Str → Option Value} {mean : ExcName → Option Value} {pT : Program} {looseT : List Str} {s : Shared} {R : Result → Shared → Prop}
    {cn : Str} {cs : Scope} {ca : Addr} {ccd : Value} {d u : Nat} {gs : Option (List Code)}
    {r0 r1 r2 r3 r4 r5 r6 r7 r8 r9 r10 r11 r12 r13 r14 r15 r16 r17 r18 q0 ta tb1 tc td gab gac gad gae gaf gag gah gai gaj gak gal gam gao gaa t t2 : Tok} {run drun hp ct st dst gl lm nd mc dmc c1 c2 c3 c4 g1 dg1 gaw cd g0 x5 x6 x7 x8 x9 x10 x11 x12 x14 : Addr} {nrun nst ng1 : Nat} {og odmc o1 o2 o3 o4 : Obj} {gan0 gan : Int} {g : Obj → List (Addr × Obj)} {full : List (Addr × Obj)}
    (B : Below A₀ base outer h₀) (F : Fr h₀ L s.heap m) (X₀ : (hd.heap_1 w.params).In h₀) (N : News h₀ L s.heap full) (T : Top pT looseT mean mg mb h₀)
    (hke : cs.kind = .function) (hroom : d < 600) (hun : u < 1000)
    (lo : (gl == sysModules) = false) (hog : og.IsDictOf (strKind PySem.Challenge.rw_qz0130_01.row.prog w) [(Str.ofString "P::go", .ref g1), (Str.ofString "main::_", .ref g0)]) (hC : CacheSt w cd odmc c1 c2 c3 c4 o1 o2 o3 o4) (o1n : @Ne Nat run dmc) (o2n : @Ne Nat drun dmc) (o3n : @Ne Nat st dmc) (o4n : @Ne Nat dst dmc) (o5n : @Ne Nat gl dmc) (o6n : @Ne Nat g1 dmc) (o7n : @Ne Nat dg1 dmc) (o8n : @Ne Nat mc dmc) (oc1 : @LT.lt Nat _ dmc c1) (oc2 : @LT.lt Nat _ dmc c2) (oc3 : @LT.lt Nat _ dmc c3) (oc4 : @LT.lt Nat _ dmc c4) (U : UpdF dmc odmc full g) (hsub : ∀ p ∈ ((run, (⟨.ref 559, some drun, .plain, #[]⟩ : Obj)) :: (drun, dictOf [⟨PyData.keyHash w.params (Str.ofString "heap"), .str (Str.ofString "heap") r0, .ref hp⟩, ⟨PyData.keyHash w.params (Str.ofString "counter"), .str (Str.ofString "counter") r1, .ref ct⟩, ⟨PyData.keyHash w.params (Str.ofString "stash"), .str (Str.ofString "stash") r2, .ref st⟩, ⟨PyData.keyHash w.params (Str.ofString "limits"), .str (Str.ofString "limits") r3, .ref lm⟩, ⟨PyData.keyHash w.params (Str.ofString "nodes"), .str (Str.ofString "nodes") r4, .ref nd⟩, ⟨PyData.keyHash w.params (Str.ofString "lvs"), .str (Str.ofString "lvs") r5, .ref x5⟩, ⟨PyData.keyHash w.params (Str.ofString "statements"), .str (Str.ofString "statements") r6, .ref x6⟩, ⟨PyData.keyHash w.params (Str.ofString "funcs"), .str (Str.ofString "funcs") r7, .ref x7⟩, ⟨PyData.keyHash w.params (Str.ofString "operators"), .str (Str.ofString "operators") r8, .ref x8⟩, ⟨PyData.keyHash w.params (Str.ofString "out"), .str (Str.ofString "out") r9, .ref x9⟩, ⟨PyData.keyHash w.params (Str.ofString "err"), .str (Str.ofString "err") r10, .ref x10⟩, ⟨PyData.keyHash w.params (Str.ofString "saves"), .str (Str.ofString "saves") r11, .ref x11⟩, ⟨PyData.keyHash w.params (Str.ofString "frames"), .str (Str.ofString "frames") r12, .ref x12⟩, ⟨PyData.keyHash w.params (Str.ofString "match"), .str (Str.ofString "match") r13, .none⟩, ⟨PyData.keyHash w.params (Str.ofString "patterns"), .str (Str.ofString "patterns") r14, .ref x14⟩, ⟨PyData.keyHash w.params (Str.ofString "steps"), .str (Str.ofString "steps") r15, .int 0 q0⟩, ⟨PyData.keyHash w.params (Str.ofString "methods"), .str (Str.ofString "methods") r16, .ref mc⟩, ⟨PyData.keyHash w.params (Str.ofString "call_code"), .str (Str.ofString "call_code") r17, .none⟩, ⟨PyData.keyHash w.params (Str.ofString "compile_text"), .str (Str.ofString "compile_text") r18, .none⟩] nrun) :: (st, (⟨.ref 1139, some dst, .plain, #[]⟩ : Obj)) :: (dst, dictOf [⟨PyData.keyHash w.params (Str.ofString "heap"), .str (Str.ofString "heap") ta, .ref hp⟩, ⟨PyData.keyHash w.params (Str.ofString "globs"), .str (Str.ofString "globs") tb1, .ref gl⟩, ⟨PyData.keyHash w.params (Str.ofString "generation"), .str (Str.ofString "generation") tc, .int 1 td⟩] nst) :: (gl, og) :: (g1, (⟨.ref 142, some dg1, .plain, #[]⟩ : Obj)) :: (dg1, dictOf [⟨PyData.keyHash w.params (Str.ofString "number"), .str (Str.ofString "number") gaa, .int gan0 gab⟩, ⟨PyData.keyHash w.params (Str.ofString "count"), .str (Str.ofString "count") gac, .int gan gad⟩, ⟨PyData.keyHash w.params (Str.ofString "blessed"), .str (Str.ofString "blessed") gae, .none⟩, ⟨PyData.keyHash w.params (Str.ofString "weak"), .str (Str.ofString "weak") gaf, .ref gaw⟩, ⟨PyData.keyHash w.params (Str.ofString "is_destroyed"), .str (Str.ofString "is_destroyed") gag, .bool false⟩, ⟨PyData.keyHash w.params (Str.ofString "is_freed"), .str (Str.ofString "is_freed") gah, .bool false⟩, ⟨PyData.keyHash w.params (Str.ofString "name"), .str (Str.ofString "name") gai, .str (Str.ofString "P::go") gaj⟩, ⟨PyData.keyHash w.params (Str.ofString "scalar"), .str (Str.ofString "scalar") gak, .none⟩, ⟨PyData.keyHash w.params (Str.ofString "array"), .str (Str.ofString "array") gal, .none⟩, ⟨PyData.keyHash w.params (Str.ofString "hash"), .str (Str.ofString "hash") gam, .none⟩, ⟨PyData.keyHash w.params (Str.ofString "code"), .str (Str.ofString "code") gao, .ref cd⟩] ng1) :: (mc, (⟨.ref 656, some dmc, .plain, #[]⟩ : Obj)) :: (dmc, odmc) :: (c1, o1) :: (c2, o2) :: (c3, o3) :: (c4, o4) :: []), p ∈ full)
    (k : ∀ h' tk odmc' c1' c2' c3' c4' o1' o2' o3' o4', Fr h₀ L h' m → News h₀ L h' ((c1', o1') :: (c2', o2') :: (c3', o3') :: (c4', o4') :: g odmc') → CacheSt w cd odmc' c1' c2' c3' c4' o1' o2' o3' o4' → @LT.lt Nat _ dmc c1' → @LT.lt Nat _ dmc c2' → @LT.lt Nat _ dmc c3' → @LT.lt Nat _ dmc c4' → R (.ok (.ret (.ref cd))) { s with heap := h', toks := tk }) :
    codeAny (model PySem.Challenge.rw_qz0130_01.row.prog w) (Around.mk none d (some (envOf cn cs L ca ccd :: outer)) gs u) (.call (.ref 702) ⟨[.ref run, .str (Str.ofString "P") t, .str (Str.ofString "go") t2, .none], []⟩) R s :=
  method_for_any B F X₀ (news_sub N hsub) T hke hroom hun lo hog hC o1n o2n o3n o4n o5n o6n o7n o8n oc1 oc2 oc3 oc4 fun h' tk odmc' c1' c2' c3' c4' o1' o2' o3' o4' F' N' K hC' q1 q2 q3 q4 => by
    have y := keep_but (d := dmc) (o := odmc) (o' := odmc') (news_sub N hsub) (by k_updF) (news_sub N' (by k_allIn)) K
    exact k h' tk odmc' c1' c2' c3' c4' o1' o2' o3' o4' F' (news_two (a := (c1', o1') :: (c2', o2') :: (c3', o3') :: (c4', o4') :: []) (news_sub N' (by k_allIn)) (news_upd N U y.1 y.2)) hC' q1 q2 q3 q4
end
end Mine
local macro_rules | `(tactic| k_lt $h:ident) => `(tactic| (try (have sdX := sd_cons (by with_reducible assumption) (lt_all $h (by k_mem)))))
namespace Mine
section
theorem leN {a b : Nat} (h : a ≤ b) : a ≤ b := h
def eval_none_S (w : World) (A₀ : Around) (base : Heap) (h₀ : Heap) (outer : List Env) (L : Addr) (m : Str → Option Value) (mg : Str → Option Value) (mb : Str → Option Value) (mean : ExcName → Option Value) (pT : Program) (looseT : List Str) (s : Shared) (R : Result → Shared → Prop) (cn : Str) (cs : Scope) (ca : Addr) (ccd : Value) (d : Nat) (u : Nat) (gs : Option (List Code)) (r0 : Tok) (r1 : Tok) (r2 : Tok) (r3 : Tok) (r4 : Tok) (r5 : Tok) (r6 : Tok) (r7 : Tok) (r8 : Tok) (r9 : Tok) (r10 : Tok) (r11 : Tok) (r12 : Tok) (r13 : Tok) (r14 : Tok) (r15 : Tok) (r16 : Tok) (r17 : Tok) (r18 : Tok) (q0 : Tok) (ta : Tok) (tb1 : Tok) (tc : Tok) (td : Tok) (gab : Tok) (gac : Tok) (gad : Tok) (gae : Tok) (gaf : Tok) (gag : Tok) (gah : Tok) (gai : Tok) (gaj : Tok) (gak : Tok) (gal : Tok) (gam : Tok) (gao : Tok) (gaa : Tok) (tq : Tok) (tm : Tok) (tg : Tok) (tw : Tok) (coa : Tok) (cob : Tok) (coc : Tok) (cod : Tok) (coe : Tok) (cof : Tok) (cog : Tok) (coh : Tok) (coi : Tok) (coj : Tok) (cok : Tok) (con1 : Tok) (con2 : Tok) (run : Addr) (drun : Addr) (hp : Addr) (ct : Addr) (st : Addr) (dst : Addr) (gl : Addr) (lm : Addr) (nd : Addr) (mc : Addr) (dmc : Addr) (c1 : Addr) (c2 : Addr) (c3 : Addr) (c4 : Addr) (g1 : Addr) (dg1 : Addr) (gaw : Addr) (cd : Addr) (dcd : Addr) (cap : Addr) (cow : Addr) (g0 : Addr) (fa : Addr) (ca2 : Addr) (fs : Addr) (fw : Addr) (ca3 : Addr) (ce : Addr) (he : Addr) (na : Addr) (tn : Addr) (x5 : Addr) (x6 : Addr) (x7 : Addr) (x8 : Addr) (x9 : Addr) (x10 : Addr) (x11 : Addr) (x12 : Addr) (x14 : Addr) (nrun : Nat) (nst : Nat) (ng1 : Nat) (ncd : Nat) (nh : Nat) (og : Obj) (odmc : Obj) (o1 : Obj) (o2 : Obj) (o3 : Obj) (o4 : Obj) (ond : Obj) (ocA : Obj) (ocW : Obj) (oce : Obj) (gan0 : Int) (gan : Int) (con : Int) (con0 : Int) (oca : Value) (ocw : Value) (oda : Option Addr) (odw : Option Addr) (fda : FuncData) (fdw : FuncData) (sla : Array (Option Value)) (slw : Array (Option Value)) (hs : List Value) : Prop := ∀ (B : Below A₀ base outer h₀) (F : Fr h₀ L s.heap m) (X₀ : (hd.heap_1 w.params).In h₀) (N : News h₀ L s.heap ((run, (⟨.ref 559, some drun, .plain, #[]⟩ : Obj)) :: (drun, dictOf [⟨PyData.keyHash w.params (Str.ofString "heap"), .str (Str.ofString "heap") r0, .ref hp⟩, ⟨PyData.keyHash w.params (Str.ofString "counter"), .str (Str.ofString "counter") r1, .ref ct⟩, ⟨PyData.keyHash w.params (Str.ofString "stash"), .str (Str.ofString "stash") r2, .ref st⟩, ⟨PyData.keyHash w.params (Str.ofString "limits"), .str (Str.ofString "limits") r3, .ref lm⟩, ⟨PyData.keyHash w.params (Str.ofString "nodes"), .str (Str.ofString "nodes") r4, .ref nd⟩, ⟨PyData.keyHash w.params (Str.ofString "lvs"), .str (Str.ofString "lvs") r5, .ref x5⟩, ⟨PyData.keyHash w.params (Str.ofString "statements"), .str (Str.ofString "statements") r6, .ref x6⟩, ⟨PyData.keyHash w.params (Str.ofString "funcs"), .str (Str.ofString "funcs") r7, .ref x7⟩, ⟨PyData.keyHash w.params (Str.ofString "operators"), .str (Str.ofString "operators") r8, .ref x8⟩, ⟨PyData.keyHash w.params (Str.ofString "out"), .str (Str.ofString "out") r9, .ref x9⟩, ⟨PyData.keyHash w.params (Str.ofString "err"), .str (Str.ofString "err") r10, .ref x10⟩, ⟨PyData.keyHash w.params (Str.ofString "saves"), .str (Str.ofString "saves") r11, .ref x11⟩, ⟨PyData.keyHash w.params (Str.ofString "frames"), .str (Str.ofString "frames") r12, .ref x12⟩, ⟨PyData.keyHash w.params (Str.ofString "match"), .str (Str.ofString "match") r13, .none⟩, ⟨PyData.keyHash w.params (Str.ofString "patterns"), .str (Str.ofString "patterns") r14, .ref x14⟩, ⟨PyData.keyHash w.params (Str.ofString "steps"), .str (Str.ofString "steps") r15, .int 0 q0⟩, ⟨PyData.keyHash w.params (Str.ofString "methods"), .str (Str.ofString "methods") r16, .ref mc⟩, ⟨PyData.keyHash w.params (Str.ofString "call_code"), .str (Str.ofString "call_code") r17, .none⟩, ⟨PyData.keyHash w.params (Str.ofString "compile_text"), .str (Str.ofString "compile_text") r18, .none⟩] nrun) :: (nd, ond) :: (fa, (⟨oca, oda, .func fda, sla⟩ : Obj)) :: (ca2, ocA) :: (st, (⟨.ref 1139, some dst, .plain, #[]⟩ : Obj)) :: (dst, dictOf [⟨PyData.keyHash w.params (Str.ofString "heap"), .str (Str.ofString "heap") ta, .ref hp⟩, ⟨PyData.keyHash w.params (Str.ofString "globs"), .str (Str.ofString "globs") tb1, .ref gl⟩, ⟨PyData.keyHash w.params (Str.ofString "generation"), .str (Str.ofString "generation") tc, .int 1 td⟩] nst) :: (gl, og) :: (g1, (⟨.ref 142, some dg1, .plain, #[]⟩ : Obj)) :: (dg1, dictOf [⟨PyData.keyHash w.params (Str.ofString "number"), .str (Str.ofString "number") gaa, .int gan0 gab⟩, ⟨PyData.keyHash w.params (Str.ofString "count"), .str (Str.ofString "count") gac, .int gan gad⟩, ⟨PyData.keyHash w.params (Str.ofString "blessed"), .str (Str.ofString "blessed") gae, .none⟩, ⟨PyData.keyHash w.params (Str.ofString "weak"), .str (Str.ofString "weak") gaf, .ref gaw⟩, ⟨PyData.keyHash w.params (Str.ofString "is_destroyed"), .str (Str.ofString "is_destroyed") gag, .bool false⟩, ⟨PyData.keyHash w.params (Str.ofString "is_freed"), .str (Str.ofString "is_freed") gah, .bool false⟩, ⟨PyData.keyHash w.params (Str.ofString "name"), .str (Str.ofString "name") gai, .str (Str.ofString "P::go") gaj⟩, ⟨PyData.keyHash w.params (Str.ofString "scalar"), .str (Str.ofString "scalar") gak, .none⟩, ⟨PyData.keyHash w.params (Str.ofString "array"), .str (Str.ofString "array") gal, .none⟩, ⟨PyData.keyHash w.params (Str.ofString "hash"), .str (Str.ofString "hash") gam, .none⟩, ⟨PyData.keyHash w.params (Str.ofString "code"), .str (Str.ofString "code") gao, .ref cd⟩] ng1) :: (mc, (⟨.ref 656, some dmc, .plain, #[]⟩ : Obj)) :: (dmc, odmc) :: (cd, (⟨.ref 123, some dcd, .plain, #[]⟩ : Obj)) :: (dcd, dictOf [⟨PyData.keyHash w.params (Str.ofString "number"), .str (Str.ofString "number") coa, .int con0 cob⟩, ⟨PyData.keyHash w.params (Str.ofString "count"), .str (Str.ofString "count") coc, .int con cod⟩, ⟨PyData.keyHash w.params (Str.ofString "blessed"), .str (Str.ofString "blessed") coe, .none⟩, ⟨PyData.keyHash w.params (Str.ofString "weak"), .str (Str.ofString "weak") cof, .ref cow⟩, ⟨PyData.keyHash w.params (Str.ofString "is_destroyed"), .str (Str.ofString "is_destroyed") cog, .bool false⟩, ⟨PyData.keyHash w.params (Str.ofString "is_freed"), .str (Str.ofString "is_freed") coh, .bool false⟩, ⟨PyData.keyHash w.params (Str.ofString "sub"), .str (Str.ofString "sub") coi, .none⟩, ⟨PyData.keyHash w.params (Str.ofString "captures"), .str (Str.ofString "captures") coj, .ref cap⟩, ⟨PyData.keyHash w.params (Str.ofString "builtin"), .str (Str.ofString "builtin") cok, .ref fw⟩, ⟨PyData.keyHash w.params (Str.ofString "package"), .str (Str.ofString "package") con1, .str (Str.ofString "main") con2⟩] ncd) :: (fw, (⟨ocw, odw, .func fdw, slw⟩ : Obj)) :: (ca3, ocW) :: (ce, oce) :: (he, listOf hs.toArray nh) :: (na, (⟨.type "tuple", none, .seq #[.str (Str.ofString "asked") tq], #[]⟩ : Obj)) :: (tn, (⟨.type "tuple", none, .seq #[.str (Str.ofString "method") tm, .ref na, .str (Str.ofString "go") tg, .none, .none], #[]⟩ : Obj)) :: (c1, o1) :: (c2, o2) :: (c3, o3) :: (c4, o4) :: [])) (T : Top pT looseT mean mg mb h₀) (hke : cs.kind = .function) (hroom : d < 590) (hun : u < 900) (lo : (nd == sysModules) = false) (hnd : ond.IsDictOf (strKind PySem.Challenge.rw_qz0130_01.row.prog w) [(Str.ofString "some", .ref fs), (Str.ofString "asked", .ref fa)]) (hA : CallsA w fa ca2 ⟨oca, oda, .func fda, sla⟩ ocA) (logl : (gl == sysModules) = false) (hog : og.IsDictOf (strKind PySem.Challenge.rw_qz0130_01.row.prog w) [(Str.ofString "P::go", .ref g1), (Str.ofString "main::_", .ref g0)]) (hC : CacheSt w cd odmc c1 c2 c3 c4 o1 o2 o3 o4) (oc1 : @LT.lt Nat _ dmc c1) (oc2 : @LT.lt Nat _ dmc c2) (oc3 : @LT.lt Nat _ dmc c3) (oc4 : @LT.lt Nat _ dmc c4) (hhs : hs.length ≤ 10) (hW : CallsW w fw ca3 ce he ⟨ocw, odw, .func fdw, slw⟩ ocW oce) (ch0 : @LT.lt Nat _ he ce) (ch1 : @LT.lt Nat _ ce dst) (ch2 : @LT.lt Nat _ dst st) (ch3 : @LT.lt Nat _ st gl) (ch4 : @LT.lt Nat _ gl drun) (ch5 : @LT.lt Nat _ drun run) (ch6 : @LT.lt Nat _ run dmc) (ch7 : @LT.lt Nat _ dmc mc) (ch8 : @LT.lt Nat _ mc ca2) (ch9 : @LT.lt Nat _ ca2 fa) (ch10 : @LT.lt Nat _ fa ca3) (ch11 : @LT.lt Nat _ ca3 fw) (ch12 : @LT.lt Nat _ fw nd) (ch13 : @LT.lt Nat _ nd dcd) (ch14 : @LT.lt Nat _ dcd cd) (ch15 : @LT.lt Nat _ cd dg1) (ch16 : @LT.lt Nat _ dg1 g1) (ch17 : @LT.lt Nat _ g1 na) (ch18 : @LT.lt Nat _ na tn) (k : ∀ h' tk t tp ml nm nn odmc' c1' c2' c3' c4' o1' o2' o3' o4', Fr h₀ L h' m → News h₀ L h' ((ml, listOf #[Value.str (Str.ofString "P") tp] nm) :: (c1', o1') :: (c2', o2') :: (c3', o3') :: (c4', o4') :: (run, (⟨.ref 559, some drun, .plain, #[]⟩ : Obj)) :: (drun, dictOf [⟨PyData.keyHash w.params (Str.ofString "heap"), .str (Str.ofString "heap") r0, .ref hp⟩, ⟨PyData.keyHash w.params (Str.ofString "counter"), .str (Str.ofString "counter") r1, .ref ct⟩, ⟨PyData.keyHash w.params (Str.ofString "stash"), .str (Str.ofString "stash") r2, .ref st⟩, ⟨PyData.keyHash w.params (Str.ofString "limits"), .str (Str.ofString "limits") r3, .ref lm⟩, ⟨PyData.keyHash w.params (Str.ofString "nodes"), .str (Str.ofString "nodes") r4, .ref nd⟩, ⟨PyData.keyHash w.params (Str.ofString "lvs"), .str (Str.ofString "lvs") r5, .ref x5⟩, ⟨PyData.keyHash w.params (Str.ofString "statements"), .str (Str.ofString "statements") r6, .ref x6⟩, ⟨PyData.keyHash w.params (Str.ofString "funcs"), .str (Str.ofString "funcs") r7, .ref x7⟩, ⟨PyData.keyHash w.params (Str.ofString "operators"), .str (Str.ofString "operators") r8, .ref x8⟩, ⟨PyData.keyHash w.params (Str.ofString "out"), .str (Str.ofString "out") r9, .ref x9⟩, ⟨PyData.keyHash w.params (Str.ofString "err"), .str (Str.ofString "err") r10, .ref x10⟩, ⟨PyData.keyHash w.params (Str.ofString "saves"), .str (Str.ofString "saves") r11, .ref x11⟩, ⟨PyData.keyHash w.params (Str.ofString "frames"), .str (Str.ofString "frames") r12, .ref x12⟩, ⟨PyData.keyHash w.params (Str.ofString "match"), .str (Str.ofString "match") r13, .none⟩, ⟨PyData.keyHash w.params (Str.ofString "patterns"), .str (Str.ofString "patterns") r14, .ref x14⟩, ⟨PyData.keyHash w.params (Str.ofString "steps"), .str (Str.ofString "steps") r15, .int 0 q0⟩, ⟨PyData.keyHash w.params (Str.ofString "methods"), .str (Str.ofString "methods") r16, .ref mc⟩, ⟨PyData.keyHash w.params (Str.ofString "call_code"), .str (Str.ofString "call_code") r17, .none⟩, ⟨PyData.keyHash w.params (Str.ofString "compile_text"), .str (Str.ofString "compile_text") r18, .none⟩] nrun) :: (nd, ond) :: (fa, (⟨oca, oda, .func fda, sla⟩ : Obj)) :: (ca2, ocA) :: (st, (⟨.ref 1139, some dst, .plain, #[]⟩ : Obj)) :: (dst, dictOf [⟨PyData.keyHash w.params (Str.ofString "heap"), .str (Str.ofString "heap") ta, .ref hp⟩, ⟨PyData.keyHash w.params (Str.ofString "globs"), .str (Str.ofString "globs") tb1, .ref gl⟩, ⟨PyData.keyHash w.params (Str.ofString "generation"), .str (Str.ofString "generation") tc, .int 1 td⟩] nst) :: (gl, og) :: (g1, (⟨.ref 142, some dg1, .plain, #[]⟩ : Obj)) :: (dg1, dictOf [⟨PyData.keyHash w.params (Str.ofString "number"), .str (Str.ofString "number") gaa, .int gan0 gab⟩, ⟨PyData.keyHash w.params (Str.ofString "count"), .str (Str.ofString "count") gac, .int gan gad⟩, ⟨PyData.keyHash w.params (Str.ofString "blessed"), .str (Str.ofString "blessed") gae, .none⟩, ⟨PyData.keyHash w.params (Str.ofString "weak"), .str (Str.ofString "weak") gaf, .ref gaw⟩, ⟨PyData.keyHash w.params (Str.ofString "is_destroyed"), .str (Str.ofString "is_destroyed") gag, .bool false⟩, ⟨PyData.keyHash w.params (Str.ofString "is_freed"), .str (Str.ofString "is_freed") gah, .bool false⟩, ⟨PyData.keyHash w.params (Str.ofString "name"), .str (Str.ofString "name") gai, .str (Str.ofString "P::go") gaj⟩, ⟨PyData.keyHash w.params (Str.ofString "scalar"), .str (Str.ofString "scalar") gak, .none⟩, ⟨PyData.keyHash w.params (Str.ofString "array"), .str (Str.ofString "array") gal, .none⟩, ⟨PyData.keyHash w.params (Str.ofString "hash"), .str (Str.ofString "hash") gam, .none⟩, ⟨PyData.keyHash w.params (Str.ofString "code"), .str (Str.ofString "code") gao, .ref cd⟩] ng1) :: (mc, (⟨.ref 656, some dmc, .plain, #[]⟩ : Obj)) :: (dmc, odmc') :: (cd, (⟨.ref 123, some dcd, .plain, #[]⟩ : Obj)) :: (dcd, dictOf [⟨PyData.keyHash w.params (Str.ofString "number"), .str (Str.ofString "number") coa, .int con0 cob⟩, ⟨PyData.keyHash w.params (Str.ofString "count"), .str (Str.ofString "count") coc, .int con cod⟩, ⟨PyData.keyHash w.params (Str.ofString "blessed"), .str (Str.ofString "blessed") coe, .none⟩, ⟨PyData.keyHash w.params (Str.ofString "weak"), .str (Str.ofString "weak") cof, .ref cow⟩, ⟨PyData.keyHash w.params (Str.ofString "is_destroyed"), .str (Str.ofString "is_destroyed") cog, .bool false⟩, ⟨PyData.keyHash w.params (Str.ofString "is_freed"), .str (Str.ofString "is_freed") coh, .bool false⟩, ⟨PyData.keyHash w.params (Str.ofString "sub"), .str (Str.ofString "sub") coi, .none⟩, ⟨PyData.keyHash w.params (Str.ofString "captures"), .str (Str.ofString "captures") coj, .ref cap⟩, ⟨PyData.keyHash w.params (Str.ofString "builtin"), .str (Str.ofString "builtin") cok, .ref fw⟩, ⟨PyData.keyHash w.params (Str.ofString "package"), .str (Str.ofString "package") con1, .str (Str.ofString "main") con2⟩] ncd) :: (fw, (⟨ocw, odw, .func fdw, slw⟩ : Obj)) :: (ca3, ocW) :: (ce, oce) :: (he, listOf (hs ++ [Value.ref ml]).toArray nn) :: (na, (⟨.type "tuple", none, .seq #[.str (Str.ofString "asked") tq], #[]⟩ : Obj)) :: (tn, (⟨.type "tuple", none, .seq #[.str (Str.ofString "method") tm, .ref na, .str (Str.ofString "go") tg, .none, .none], #[]⟩ : Obj)) :: (c1, o1) :: (c2, o2) :: (c3, o3) :: (c4, o4) :: []) → (∀ b o, s.heap.get? b = some o → b ∉ [run, drun, nd, fa, ca2, st, dst, gl, g1, dg1, mc, dmc, cd, dcd, fw, ca3, ce, he, na, tn, c1, c2, c3, c4] → h'.get? b = some o) → @LT.lt Nat _ tn ml → CacheSt w cd odmc' c1' c2' c3' c4' o1' o2' o3' o4' → @LT.lt Nat _ dmc c1' → @LT.lt Nat _ dmc c2' → @LT.lt Nat _ dmc c3' → @LT.lt Nat _ dmc c4' → R (.ok (.ret (.int ([Value.str (Str.ofString "P") tp].length : Int) t))) { s with heap := h', toks := tk }), codeAny (model PySem.Challenge.rw_qz0130_01.row.prog w) (Around.mk none d (some (envOf cn cs L ca ccd :: outer)) gs u) (.call (.ref 917) ⟨[.ref run, .ref tn, .int 1 tw], []⟩) R s
def eval_none_P (c : EC) : Prop := ∀ (gan0 : Int) (gan : Int) (con : Int) (con0 : Int) (hs : List Value), eval_none_S (c.wo 0) (c.ar 0) (c.hp 0) (c.hp 1) (c.le 0) (c.ad 0) (c.mp 0) (c.mp 1) (c.mp 2) (c.en 0) (c.pg 0) (c.ls 0) (c.sh 0) (c.rs 0) (c.sr 0) (c.sc 0) (c.ad 1) (c.va 0) (c.nt 0) (c.nt 1) (c.oc 0) (c.tk 0) (c.tk 1) (c.tk 2) (c.tk 3) (c.tk 4) (c.tk 5) (c.tk 6) (c.tk 7) (c.tk 8) (c.tk 9) (c.tk 10) (c.tk 11) (c.tk 12) (c.tk 13) (c.tk 14) (c.tk 15) (c.tk 16) (c.tk 17) (c.tk 18) (c.tk 19) (c.tk 20) (c.tk 21) (c.tk 22) (c.tk 23) (c.tk 24) (c.tk 25) (c.tk 26) (c.tk 27) (c.tk 28) (c.tk 29) (c.tk 30) (c.tk 31) (c.tk 32) (c.tk 33) (c.tk 34) (c.tk 35) (c.tk 36) (c.tk 37) (c.tk 38) (c.tk 39) (c.tk 40) (c.tk 41) (c.tk 42) (c.tk 43) (c.tk 44) (c.tk 45) (c.tk 46) (c.tk 47) (c.tk 48) (c.tk 49) (c.tk 50) (c.tk 51) (c.tk 52) (c.tk 53) (c.tk 54) (c.ad 2) (c.ad 3) (c.ad 4) (c.ad 5) (c.ad 6) (c.ad 7) (c.ad 8) (c.ad 9) (c.ad 10) (c.ad 11) (c.ad 12) (c.ad 13) (c.ad 14) (c.ad 15) (c.ad 16) (c.ad 17) (c.ad 18) (c.ad 19) (c.ad 20) (c.ad 21) (c.ad 22) (c.ad 23) (c.ad 24) (c.ad 25) (c.ad 26) (c.ad 27) (c.ad 28) (c.ad 29) (c.ad 30) (c.ad 31) (c.ad 32) (c.ad 33) (c.ad 34) (c.ad 35) (c.ad 36) (c.ad 37) (c.ad 38) (c.ad 39) (c.ad 40) (c.ad 41) (c.ad 42) (c.nt 2) (c.nt 3) (c.nt 4) (c.nt 5) (c.nt 6) (c.ob 0) (c.ob 1) (c.ob 2) (c.ob 3) (c.ob 4) (c.ob 5) (c.ob 6) (c.ob 7) (c.ob 8) (c.ob 9) gan0 gan con con0 (c.va 1) (c.va 2) (c.oa 0) (c.oa 1) (c.fd 0) (c.fd 1) (c.av 0) (c.av 1) hs
@[irreducible] noncomputable def eval_none_e : EC := @Classical.epsilon EC EC.ne fun c => ¬ eval_none_P c
theorem eval_none_eq : eval_none_e = @Classical.epsilon EC EC.ne fun c => ¬ eval_none_P c := by unfold eval_none_e; rfl
theorem eval_none_m : eval_none_P eval_none_e := by
  unfold eval_none_P eval_none_S
  intro gan0 gan con con0 hs B F X₀ N T hke hroom hun lo hnd hA logl hog hC oc1 oc2 oc3 oc4 hhs hW ch0 ch1 ch2 ch3 ch4 ch5 ch6 ch7 ch8 ch9 ch10 ch11 ch12 ch13 ch14 ch15 ch16 ch17 ch18 k
  have sd0 := sd_cons (sd_cons (sd_cons (sd_cons (sd_cons (sd_cons (sd_cons (sd_cons (sd_cons (sd_cons (sd_cons (sd_cons (sd_cons (sd_cons (sd_cons (sd_cons (sd_cons (sd_cons (sd_cons (sd_one _) ch0) ch1) ch2) ch3) ch4) ch5) ch6) ch7) ch8) ch9) ch10) ch11) ch12) ch13) ch14) ch15) ch16) ch17) ch18
  revert X₀
  k_fill
  intro X₀
  refine' code_keepG B F X₀ N T rfl hke ?k6 ?k7 ?k8 ?kn ?k9 ?kB ?_ ?c2 ?c3 ?c4 ?c5
  case k6 => k_is
  case k7 => k_is
  case k8 => k_room
  case k9 => exact BindsTo.of_eq rfl
  case kB => exact locs rfl
  case kn => first | exact (rfl : _ = 1) | exact (rfl : _ = 2) | exact (rfl : _ = 3) | exact (rfl : _ = 4) | exact (rfl : _ = 5) | exact (rfl : _ = 6) | exact (rfl : _ = 7)
  case c2 => exact rfl
  case c3 => exact rfl
  case c4 => exact rfl
  case c5 => decide
  intro h' FG' F' N' B' X' T' hkeep
  clear B F X₀ N T
  (try dsimp only)
  repeat' (first | (k_unfold; (try dsimp only)) | (k_end; wrow_close) | (with_reducible ((with_reducible show wpAny _ _ (compareOp CmpOp.In (Value.str _ _) (Value.ref _)) _ _ _); (with_unfolding_all refine' in_tuple_strs ?k1q ?k2q ?_; (case k1q => exact Fr.tup (by k_asm) (tupK (by k_asm) (by k_is))); (case k2q => kde_strs); k_whole))) | ((with_reducible show wpAny _ _ (call (Value.ref _) _ _) _ _ _); k_dflt ((refine wpAny_call ?_); (first | (refine' value_in_asked_use ?fB ?fF ?fX ?fN ?fT ?fk ?fd ?fu ?lo ?hnd ?hA ?hsub ?_; (case fN => k_asm); (case hA => k_asm); (case hsub => k_allIn); (case lo => first | k_asm | walk_at "ord" | (refine Nat.le_trans (Nat.le_of_eq (IntsAre.length (by assumption))) ?_; omega) | (simp only [List.length_append, List.length_cons, List.length_nil]; omega)); (case hnd => first | k_asm | walk_at "ord" | (refine Nat.le_trans (Nat.le_of_eq (IntsAre.length (by assumption))) ?_; omega) | (simp only [List.length_append, List.length_cons, List.length_nil]; omega)); (case fB => k_asm); (case fF => k_asm); (case fX => k_asm); (case fT => k_asm); (case fk => exact rfl); (case fd => ((try simp only [depth_under_make, depth_under_kw, depth_in1, depth_deeper, depth_caller]); (try dsimp only [Around.deeper, Around.in1, Around.mark]); first | walk_at "room" | decide)); (case fu => k_units); k_whole; walk_say "USE value_in_asked_use"; intro h'9 tk9 t9 F'9 N'9; (try dsimp only at N'9); (try dsimp only); (try k_sweep)) | (refine' method_for_any_use ?fB ?fF ?fX ?fN ?fT ?fk ?fd ?fu ?lo ?hog ?hC ?o1n ?o2n ?o3n ?o4n ?o5n ?o6n ?o7n ?o8n ?oc1 ?oc2 ?oc3 ?oc4 ?U ?hsub ?_; (case fN => k_asm); (case hC => k_asm); (case hsub => k_allIn); (case lo => first | k_asm | walk_at "ord" | (refine Nat.le_trans (Nat.le_of_eq (IntsAre.length (by assumption))) ?_; omega) | (simp only [List.length_append, List.length_cons, List.length_nil]; omega)); (case hog => first | k_asm | walk_at "ord" | (refine Nat.le_trans (Nat.le_of_eq (IntsAre.length (by assumption))) ?_; omega) | (simp only [List.length_append, List.length_cons, List.length_nil]; omega)); (case o1n => first | k_asm | walk_at "ord" | (refine Nat.le_trans (Nat.le_of_eq (IntsAre.length (by assumption))) ?_; omega) | (simp only [List.length_append, List.length_cons, List.length_nil]; omega)); (case o2n => first | k_asm | walk_at "ord" | (refine Nat.le_trans (Nat.le_of_eq (IntsAre.length (by assumption))) ?_; omega) | (simp only [List.length_append, List.length_cons, List.length_nil]; omega)); (case o3n => first | k_asm | walk_at "ord" | (refine Nat.le_trans (Nat.le_of_eq (IntsAre.length (by assumption))) ?_; omega) | (simp only [List.length_append, List.length_cons, List.length_nil]; omega)); (case o4n => first | k_asm | walk_at "ord" | (refine Nat.le_trans (Nat.le_of_eq (IntsAre.length (by assumption))) ?_; omega) | (simp only [List.length_append, List.length_cons, List.length_nil]; omega)); (case o5n => first | k_asm | walk_at "ord" | (refine Nat.le_trans (Nat.le_of_eq (IntsAre.length (by assumption))) ?_; omega) | (simp only [List.length_append, List.length_cons, List.length_nil]; omega)); (case o6n => first | k_asm | walk_at "ord" | (refine Nat.le_trans (Nat.le_of_eq (IntsAre.length (by assumption))) ?_; omega) | (simp only [List.length_append, List.length_cons, List.length_nil]; omega)); (case o7n => first | k_asm | walk_at "ord" | (refine Nat.le_trans (Nat.le_of_eq (IntsAre.length (by assumption))) ?_; omega) | (simp only [List.length_append, List.length_cons, List.length_nil]; omega)); (case o8n => first | k_asm | walk_at "ord" | (refine Nat.le_trans (Nat.le_of_eq (IntsAre.length (by assumption))) ?_; omega) | (simp only [List.length_append, List.length_cons, List.length_nil]; omega)); (case oc1 => first | k_asm | walk_at "ord" | (refine Nat.le_trans (Nat.le_of_eq (IntsAre.length (by assumption))) ?_; omega) | (simp only [List.length_append, List.length_cons, List.length_nil]; omega)); (case oc2 => first | k_asm | walk_at "ord" | (refine Nat.le_trans (Nat.le_of_eq (IntsAre.length (by assumption))) ?_; omega) | (simp only [List.length_append, List.length_cons, List.length_nil]; omega)); (case oc3 => first | k_asm | walk_at "ord" | (refine Nat.le_trans (Nat.le_of_eq (IntsAre.length (by assumption))) ?_; omega) | (simp only [List.length_append, List.length_cons, List.length_nil]; omega)); (case oc4 => first | k_asm | walk_at "ord" | (refine Nat.le_trans (Nat.le_of_eq (IntsAre.length (by assumption))) ?_; omega) | (simp only [List.length_append, List.length_cons, List.length_nil]; omega)); (case U => k_updF); (case fB => k_asm); (case fF => k_asm); (case fX => k_asm); (case fT => k_asm); (case fk => exact rfl); (case fd => ((try simp only [depth_under_make, depth_under_kw, depth_in1, depth_deeper, depth_caller]); (try dsimp only [Around.deeper, Around.in1, Around.mark]); first | walk_at "room" | decide)); (case fu => k_units); k_whole; walk_say "USE method_for_any_use"; intro h'9 tk9 odmc'9 c1'9 c2'9 c3'9 c4'9 o1'9 o2'9 o3'9 o4'9 F'9 N'9 hC'9 oc1'9 oc2'9 oc3'9 oc4'9; (try dsimp only at N'9); (try dsimp only); (try k_sweep)) | (refine' call_code_went_use ?fB ?fF ?fX ?fN ?fT ?fk ?fd ?fu ?hlen ?hhs ?hW ?o1n ?o2n ?o3n ?o4n ?o5n ?o6n ?o7n ?o8n ?U ?hsub ?_; (case fN => k_asm); (case hW => k_asm); (case hsub => k_allIn); (case hlen => first | k_asm | walk_at "ord" | (refine Nat.le_trans (Nat.le_of_eq (IntsAre.length (by assumption))) ?_; omega) | (simp only [List.length_append, List.length_cons, List.length_nil]; omega)); (case hhs => first | k_asm | walk_at "ord" | (refine Nat.le_trans (Nat.le_of_eq (IntsAre.length (by assumption))) ?_; omega) | (simp only [List.length_append, List.length_cons, List.length_nil]; omega)); (case o1n => first | k_asm | walk_at "ord" | (refine Nat.le_trans (Nat.le_of_eq (IntsAre.length (by assumption))) ?_; omega) | (simp only [List.length_append, List.length_cons, List.length_nil]; omega)); (case o2n => first | k_asm | walk_at "ord" | (refine Nat.le_trans (Nat.le_of_eq (IntsAre.length (by assumption))) ?_; omega) | (simp only [List.length_append, List.length_cons, List.length_nil]; omega)); (case o3n => first | k_asm | walk_at "ord" | (refine Nat.le_trans (Nat.le_of_eq (IntsAre.length (by assumption))) ?_; omega) | (simp only [List.length_append, List.length_cons, List.length_nil]; omega)); (case o4n => first | k_asm | walk_at "ord" | (refine Nat.le_trans (Nat.le_of_eq (IntsAre.length (by assumption))) ?_; omega) | (simp only [List.length_append, List.length_cons, List.length_nil]; omega)); (case o5n => first | k_asm | walk_at "ord" | (refine Nat.le_trans (Nat.le_of_eq (IntsAre.length (by assumption))) ?_; omega) | (simp only [List.length_append, List.length_cons, List.length_nil]; omega)); (case o6n => first | k_asm | walk_at "ord" | (refine Nat.le_trans (Nat.le_of_eq (IntsAre.length (by assumption))) ?_; omega) | (simp only [List.length_append, List.length_cons, List.length_nil]; omega)); (case o7n => first | k_asm | walk_at "ord" | (refine Nat.le_trans (Nat.le_of_eq (IntsAre.length (by assumption))) ?_; omega) | (simp only [List.length_append, List.length_cons, List.length_nil]; omega)); (case o8n => first | k_asm | walk_at "ord" | (refine Nat.le_trans (Nat.le_of_eq (IntsAre.length (by assumption))) ?_; omega) | (simp only [List.length_append, List.length_cons, List.length_nil]; omega)); (case U => k_updF); (case fB => k_asm); (case fF => k_asm); (case fX => k_asm); (case fT => k_asm); (case fk => exact rfl); (case fd => ((try simp only [depth_under_make, depth_under_kw, depth_in1, depth_deeper, depth_caller]); (try dsimp only [Around.deeper, Around.in1, Around.mark]); first | walk_at "room" | decide)); (case fu => k_units); k_whole; walk_say "USE call_code_went_use"; intro h'9 tk9 t9 nn9 F'9 N'9; (try dsimp only at N'9); (try dsimp only); (try k_sweep))))) | (walk1; (try (with_reducible refine tok3 ?_; intro tk))) | dsimp only | (leave1; (try dsimp only)) | fail "no step")
  all_goals (try dsimp only)
  all_goals (refine' leaveK_ ?k1 ?k2 ?_; (case k1 => assumption); (case k2 => assumption); intro kF kN)
  all_goals (have hkeep' := fun b o e q => Fr.keep (by assumption : Fr (gOf _ _) (LOf _) _ _) b o (hkeep b o e q))
  all_goals (refine' k _ _ _ _ _ _ _ _ _ _ _ _ _ _ _ _ kF ?kn hkeep' ?kl ?kc ?q1 ?q2 ?q3 ?q4; (case kc => assumption); (case kn => exact news_sub kN (by k_allIn)); (case kl => walk_at "ord"); (case q1 => walk_at "ord"); (case q2 => walk_at "ord"); (case q3 => walk_at "ord"); (case q4 => walk_at "ord"))
theorem eval_none {w : World} {A₀ : Around} {base : Heap} {h₀ : Heap} {outer : List Env} {L : Addr} {m : Str → Option Value} {mg : Str → Option Value} {mb : Str → Option Value} {mean : ExcName → Option Value} {pT : Program} {looseT : List Str} {s : Shared} {R : Result → Shared → Prop} {cn : Str} {cs : Scope} {ca : Addr} {ccd : Value} {d : Nat} {u : Nat} {gs : Option (List Code)} {r0 : Tok} {r1 : Tok} {r2 : Tok} {r3 : Tok} {r4 : Tok} {r5 : Tok} {r6 : Tok} {r7 : Tok} {r8 : Tok} {r9 : Tok} {r10 : Tok} {r11 : Tok} {r12 : Tok} {r13 : Tok} {r14 : Tok} {r15 : Tok} {r16 : Tok} {r17 : Tok} {r18 : Tok} {q0 : Tok} {ta : Tok} {tb1 : Tok} {tc : Tok} {td : Tok} {gab : Tok} {gac : Tok} {gad : Tok} {gae : Tok} {gaf : Tok} {gag : Tok} {gah : Tok} {gai : Tok} {gaj : Tok} {gak : Tok} {gal : Tok} {gam : Tok} {gao : Tok} {gaa : Tok} {tq : Tok} {tm : Tok} {tg : Tok} {tw : Tok} {coa : Tok} {cob : Tok} {coc : Tok} {cod : Tok} {coe : Tok} {cof : Tok} {cog : Tok} {coh : Tok} {coi : Tok} {coj : Tok} {cok : Tok} {con1 : Tok} {con2 : Tok} {run : Addr} {drun : Addr} {hp : Addr} {ct : Addr} {st : Addr} {dst : Addr} {gl : Addr} {lm : Addr} {nd : Addr} {mc : Addr} {dmc : Addr} {c1 : Addr} {c2 : Addr} {c3 : Addr} {c4 : Addr} {g1 : Addr} {dg1 : Addr} {gaw : Addr} {cd : Addr} {dcd : Addr} {cap : Addr} {cow : Addr} {g0 : Addr} {fa : Addr} {ca2 : Addr} {fs : Addr} {fw : Addr} {ca3 : Addr} {ce : Addr} {he : Addr} {na : Addr} {tn : Addr} {x5 : Addr} {x6 : Addr} {x7 : Addr} {x8 : Addr} {x9 : Addr} {x10 : Addr} {x11 : Addr} {x12 : Addr} {x14 : Addr} {nrun : Nat} {nst : Nat} {ng1 : Nat} {ncd : Nat} {nh : Nat} {og : Obj} {odmc : Obj} {o1 : Obj} {o2 : Obj} {o3 : Obj} {o4 : Obj} {ond : Obj} {ocA : Obj} {ocW : Obj} {oce : Obj} {gan0 : Int} {gan : Int} {con : Int} {con0 : Int} {oca : Value} {ocw : Value} {oda : Option Addr} {odw : Option Addr} {fda : FuncData} {fdw : FuncData} {sla : Array (Option Value)} {slw : Array (Option Value)} {hs : List Value} : eval_none_S w A₀ base h₀ outer L m mg mb mean pT looseT s R cn cs ca ccd d u gs r0 r1 r2 r3 r4 r5 r6 r7 r8 r9 r10 r11 r12 r13 r14 r15 r16 r17 r18 q0 ta tb1 tc td gab gac gad gae gaf gag gah gai gaj gak gal gam gao gaa tq tm tg tw coa cob coc cod coe cof cog coh coi coj cok con1 con2 run drun hp ct st dst gl lm nd mc dmc c1 c2 c3 c4 g1 dg1 gaw cd dcd cap cow g0 fa ca2 fs fw ca3 ce he na tn x5 x6 x7 x8 x9 x10 x11 x12 x14 nrun nst ng1 ncd nh og odmc o1 o2 o3 o4 ond ocA ocW oce gan0 gan con con0 oca ocw oda odw fda fdw sla slw hs := @ec_all eval_none_P (eval_none_eq ▸ eval_none_m) { wo := fun n => [w].getD n (aWorld 1), ar := fun n => [A₀].getD n (callerA), hp := fun n => [base, h₀].getD n (default), le := fun n => [outer].getD n ([]), ad := fun n => [L, ca, run, drun, hp, ct, st, dst, gl, lm, nd, mc, dmc, c1, c2, c3, c4, g1, dg1, gaw, cd, dcd, cap, cow, g0, fa, ca2, fs, fw, ca3, ce, he, na, tn, x5, x6, x7, x8, x9, x10, x11, x12, x14].getD n (0), mp := fun n => [m, mg, mb].getD n (fun _ => none), en := fun n => [mean].getD n (fun _ => none), pg := fun n => [pT].getD n (default), ls := fun n => [looseT].getD n ([]), sh := fun n => [s].getD n ⟨default, #[], {}, 0, {}⟩, rs := fun n => [R].getD n (fun _ _ => True), sr := fun n => [cn].getD n (default), sc := fun n => [cs].getD n (default), va := fun n => [ccd, oca, ocw].getD n (.none), nt := fun n => [d, u, nrun, nst, ng1, ncd, nh].getD n (0), oc := fun n => [gs].getD n (none), tk := fun n => [r0, r1, r2, r3, r4, r5, r6, r7, r8, r9, r10, r11, r12, r13, r14, r15, r16, r17, r18, q0, ta, tb1, tc, td, gab, gac, gad, gae, gaf, gag, gah, gai, gaj, gak, gal, gam, gao, gaa, tq, tm, tg, tw, coa, cob, coc, cod, coe, cof, cog, coh, coi, coj, cok, con1, con2].getD n (0), ob := fun n => [og, odmc, o1, o2, o3, o4, ond, ocA, ocW, oce].getD n (default), iz := fun _ => (0), lv := fun _ => ([]), ll := fun _ => ([]), oa := fun n => [oda, odw].getD n (none), fd := fun n => [fda, fdw].getD n (default), av := fun n => [sla, slw].getD n (#[]), li := fun _ => ([]), aw := fun _ => (#[]), ev := fun _ => (default) } gan0 gan con con0 hs
theorem eval_none_use {w : World} {A₀ : Around} {base h₀ : Heap} {outer : List Env} {L : Addr} {m mg mb : Str → Option Value} {mean : ExcName → Option Value} {pT : Program} {looseT : List Str} {s : Shared} {R : Result → Shared → Prop}
    {cn : Str} {cs : Scope} {ca : Addr} {ccd : Value} {d u : Nat} {gs : Option (List Code)}
    {r0 r1 r2 r3 r4 r5 r6 r7 r8 r9 r10 r11 r12 r13 r14 r15 r16 r17 r18 q0 ta tb1 tc td gab gac gad gae gaf gag gah gai gaj gak gal gam gao gaa tq tm tg tw coa cob coc cod coe cof cog coh coi coj cok con1 con2 : Tok} {run drun hp ct st dst gl lm nd mc dmc c1 c2 c3 c4 g1 dg1 gaw cd dcd cap cow g0 fa ca2 fs fw ca3 ce he na tn x5 x6 x7 x8 x9 x10 x11 x12 x14 : Addr} {nrun nst ng1 ncd nh : Nat} {og odmc o1 o2 o3 o4 ond ocA ocW oce : Obj} {gan0 gan con con0 : Int} {oca ocw : Value} {oda odw : Option Addr} {fda fdw : FuncData} {sla slw : Array (Option Value)} {hs : List Value} {gA : Obj → List (Addr × Obj)} {gB : Obj → Obj → List (Addr × Obj)} {full : List (Addr × Obj)}
    (B : Below A₀ base outer h₀) (F : Fr h₀ L s.heap m) (X₀ : (hd.heap_1 w.params).In h₀) (N : News h₀ L s.heap full) (T : Top pT looseT mean mg mb h₀)
    (hke : cs.kind = .function) (hroom : d < 590) (hun : u < 900)
    (lo : (nd == sysModules) = false) (hnd : ond.IsDictOf (strKind PySem.Challenge.rw_qz0130_01.row.prog w) [(Str.ofString "some", .ref fs), (Str.ofString "asked", .ref fa)]) (hA : CallsA w fa ca2 ⟨oca, oda, .func fda, sla⟩ ocA) (logl : (gl == sysModules) = false) (hog : og.IsDictOf (strKind PySem.Challenge.rw_qz0130_01.row.prog w) [(Str.ofString "P::go", .ref g1), (Str.ofString "main::_", .ref g0)]) (hC : CacheSt w cd odmc c1 c2 c3 c4 o1 o2 o3 o4) (oc1 : @LT.lt Nat _ dmc c1) (oc2 : @LT.lt Nat _ dmc c2) (oc3 : @LT.lt Nat _ dmc c3) (oc4 : @LT.lt Nat _ dmc c4) (hhs : hs.length ≤ 10) (hW : CallsW w fw ca3 ce he ⟨ocw, odw, .func fdw, slw⟩ ocW oce) (ch0 : @LT.lt Nat _ he ce) (ch1 : @LT.lt Nat _ ce dst) (ch2 : @LT.lt Nat _ dst st) (ch3 : @LT.lt Nat _ st gl) (ch4 : @LT.lt Nat _ gl drun) (ch5 : @LT.lt Nat _ drun run) (ch6 : @LT.lt Nat _ run dmc) (ch7 : @LT.lt Nat _ dmc mc) (ch8 : @LT.lt Nat _ mc ca2) (ch9 : @LT.lt Nat _ ca2 fa) (ch10 : @LT.lt Nat _ fa ca3) (ch11 : @LT.lt Nat _ ca3 fw) (ch12 : @LT.lt Nat _ fw nd) (ch13 : @LT.lt Nat _ nd dcd) (ch14 : @LT.lt Nat _ dcd cd) (ch15 : @LT.lt Nat _ cd dg1) (ch16 : @LT.lt Nat _ dg1 g1) (ch17 : @LT.lt Nat _ g1 na) (ch18 : @LT.lt Nat _ na tn) (hsub : ∀ p ∈ ((run, (⟨.ref 559, some drun, .plain, #[]⟩ : Obj)) :: (drun, dictOf [⟨PyData.keyHash w.params (Str.ofString "heap"), .str (Str.ofString "heap") r0, .ref hp⟩, ⟨PyData.keyHash w.params (Str.ofString "counter"), .str (Str.ofString "counter") r1, .ref ct⟩, ⟨PyData.keyHash w.params (Str.ofString "stash"), .str (Str.ofString "stash") r2, .ref st⟩, ⟨PyData.keyHash w.params (Str.ofString "limits"), .str (Str.ofString "limits") r3, .ref lm⟩, ⟨PyData.keyHash w.params (Str.ofString "nodes"), .str (Str.ofString "nodes") r4, .ref nd⟩, ⟨PyData.keyHash w.params (Str.ofString "lvs"), .str (Str.ofString "lvs") r5, .ref x5⟩, ⟨PyData.keyHash w.params (Str.ofString "statements"), .str (Str.ofString "statements") r6, .ref x6⟩, ⟨PyData.keyHash w.params (Str.ofString "funcs"), .str (Str.ofString "funcs") r7, .ref x7⟩, ⟨PyData.keyHash w.params (Str.ofString "operators"), .str (Str.ofString "operators") r8, .ref x8⟩, ⟨PyData.keyHash w.params (Str.ofString "out"), .str (Str.ofString "out") r9, .ref x9⟩, ⟨PyData.keyHash w.params (Str.ofString "err"), .str (Str.ofString "err") r10, .ref x10⟩, ⟨PyData.keyHash w.params (Str.ofString "saves"), .str (Str.ofString "saves") r11, .ref x11⟩, ⟨PyData.keyHash w.params (Str.ofString "frames"), .str (Str.ofString "frames") r12, .ref x12⟩, ⟨PyData.keyHash w.params (Str.ofString "match"), .str (Str.ofString "match") r13, .none⟩, ⟨PyData.keyHash w.params (Str.ofString "patterns"), .str (Str.ofString "patterns") r14, .ref x14⟩, ⟨PyData.keyHash w.params (Str.ofString "steps"), .str (Str.ofString "steps") r15, .int 0 q0⟩, ⟨PyData.keyHash w.params (Str.ofString "methods"), .str (Str.ofString "methods") r16, .ref mc⟩, ⟨PyData.keyHash w.params (Str.ofString "call_code"), .str (Str.ofString "call_code") r17, .none⟩, ⟨PyData.keyHash w.params (Str.ofString "compile_text"), .str (Str.ofString "compile_text") r18, .none⟩] nrun) :: (nd, ond) :: (fa, (⟨oca, oda, .func fda, sla⟩ : Obj)) :: (ca2, ocA) :: (st, (⟨.ref 1139, some dst, .plain, #[]⟩ : Obj)) :: (dst, dictOf [⟨PyData.keyHash w.params (Str.ofString "heap"), .str (Str.ofString "heap") ta, .ref hp⟩, ⟨PyData.keyHash w.params (Str.ofString "globs"), .str (Str.ofString "globs") tb1, .ref gl⟩, ⟨PyData.keyHash w.params (Str.ofString "generation"), .str (Str.ofString "generation") tc, .int 1 td⟩] nst) :: (gl, og) :: (g1, (⟨.ref 142, some dg1, .plain, #[]⟩ : Obj)) :: (dg1, dictOf [⟨PyData.keyHash w.params (Str.ofString "number"), .str (Str.ofString "number") gaa, .int gan0 gab⟩, ⟨PyData.keyHash w.params (Str.ofString "count"), .str (Str.ofString "count") gac, .int gan gad⟩, ⟨PyData.keyHash w.params (Str.ofString "blessed"), .str (Str.ofString "blessed") gae, .none⟩, ⟨PyData.keyHash w.params (Str.ofString "weak"), .str (Str.ofString "weak") gaf, .ref gaw⟩, ⟨PyData.keyHash w.params (Str.ofString "is_destroyed"), .str (Str.ofString "is_destroyed") gag, .bool false⟩, ⟨PyData.keyHash w.params (Str.ofString "is_freed"), .str (Str.ofString "is_freed") gah, .bool false⟩, ⟨PyData.keyHash w.params (Str.ofString "name"), .str (Str.ofString "name") gai, .str (Str.ofString "P::go") gaj⟩, ⟨PyData.keyHash w.params (Str.ofString "scalar"), .str (Str.ofString "scalar") gak, .none⟩, ⟨PyData.keyHash w.params (Str.ofString "array"), .str (Str.ofString "array") gal, .none⟩, ⟨PyData.keyHash w.params (Str.ofString "hash"), .str (Str.ofString "hash") gam, .none⟩, ⟨PyData.keyHash w.params (Str.ofString "code"), .str (Str.ofString "code") gao, .ref cd⟩] ng1) :: (mc, (⟨.ref 656, some dmc, .plain, #[]⟩ : Obj)) :: (dmc, odmc) :: (cd, (⟨.ref 123, some dcd, .plain, #[]⟩ : Obj)) :: (dcd, dictOf [⟨PyData.keyHash w.params (Str.ofString "number"), .str (Str.ofString "number") coa, .int con0 cob⟩, ⟨PyData.keyHash w.params (Str.ofString "count"), .str (Str.ofString "count") coc, .int con cod⟩, ⟨PyData.keyHash w.params (Str.ofString "blessed"), .str (Str.ofString "blessed") coe, .none⟩, ⟨PyData.keyHash w.params (Str.ofString "weak"), .str (Str.ofString "weak") cof, .ref cow⟩, ⟨PyData.keyHash w.params (Str.ofString "is_destroyed"), .str (Str.ofString "is_destroyed") cog, .bool false⟩, ⟨PyData.keyHash w.params (Str.ofString "is_freed"), .str (Str.ofString "is_freed") coh, .bool false⟩, ⟨PyData.keyHash w.params (Str.ofString "sub"), .str (Str.ofString "sub") coi, .none⟩, ⟨PyData.keyHash w.params (Str.ofString "captures"), .str (Str.ofString "captures") coj, .ref cap⟩, ⟨PyData.keyHash w.params (Str.ofString "builtin"), .str (Str.ofString "builtin") cok, .ref fw⟩, ⟨PyData.keyHash w.params (Str.ofString "package"), .str (Str.ofString "package") con1, .str (Str.ofString "main") con2⟩] ncd) :: (fw, (⟨ocw, odw, .func fdw, slw⟩ : Obj)) :: (ca3, ocW) :: (ce, oce) :: (he, listOf hs.toArray nh) :: (na, (⟨.type "tuple", none, .seq #[.str (Str.ofString "asked") tq], #[]⟩ : Obj)) :: (tn, (⟨.type "tuple", none, .seq #[.str (Str.ofString "method") tm, .ref na, .str (Str.ofString "go") tg, .none, .none], #[]⟩ : Obj)) :: (c1, o1) :: (c2, o2) :: (c3, o3) :: (c4, o4) :: []), p ∈ full) (U1 : UpdF dmc odmc full gA) (U2 : ∀ o, UpdF he (listOf hs.toArray nh) (gA o) (gB o)) (hz : ∀ p ∈ full, @LE.le Nat _ p.1 tn)
    (k : ∀ h' tk t tp ml nm nn odmc' c1' c2' c3' c4' o1' o2' o3' o4', Fr h₀ L h' m → News h₀ L h' ((ml, listOf #[Value.str (Str.ofString "P") tp] nm) :: (c1', o1') :: (c2', o2') :: (c3', o3') :: (c4', o4') :: gB odmc' (listOf (hs ++ [Value.ref ml]).toArray nn)) → (∀ p ∈ full, @LT.lt Nat _ p.1 ml) → CacheSt w cd odmc' c1' c2' c3' c4' o1' o2' o3' o4' → @LT.lt Nat _ dmc c1' → @LT.lt Nat _ dmc c2' → @LT.lt Nat _ dmc c3' → @LT.lt Nat _ dmc c4' → R (.ok (.ret (.int ([Value.str (Str.ofString "P") tp].length : Int) t))) { s with heap := h', toks := tk }) :
    codeAny (model PySem.Challenge.rw_qz0130_01.row.prog w) (Around.mk none d (some (envOf cn cs L ca ccd :: outer)) gs u) (.call (.ref 917) ⟨[.ref run, .ref tn, .int 1 tw], []⟩) R s :=
  eval_none B F X₀ (news_sub N hsub) T hke hroom hun lo hnd hA logl hog hC oc1 oc2 oc3 oc4 hhs hW ch0 ch1 ch2 ch3 ch4 ch5 ch6 ch7 ch8 ch9 ch10 ch11 ch12 ch13 ch14 ch15 ch16 ch17 ch18 fun h' tk t tp ml nm nn odmc' c1' c2' c3' c4' o1' o2' o3' o4' F' N' K l C q1 q2 q3 q4 => by
    have y := keep_but2 (d1 := dmc) (d2 := he) (news_sub N hsub) (by repeat' (first | exact List.forall_mem_nil _ | (refine List.forall_mem_cons.mpr ⟨by first | exact .inl rfl | exact .inr (.inl rfl) | exact .inr (.inr (N' _ (by k_mem)).1), ?_⟩))) K
    have z := news_upd2 N U1 U2 (N' (dmc, odmc') (by k_mem)).1 (N' (he, _) (by k_mem)).1 y
    refine k h' tk t tp ml nm nn odmc' c1' c2' c3' c4' o1' o2' o3' o4' F' (news_two (a := (ml, listOf #[Value.str (Str.ofString "P") tp] nm) :: (c1', o1') :: (c2', o2') :: (c3', o3') :: (c4', o4') :: []) (news_sub N' (by k_allIn)) z) (fun p hp => Nat.lt_of_le_of_lt (hz p hp) l) C q1 q2 q3 q4
end
section
def eval_list_S (w : World) (A₀ : Around) (base : Heap) (h₀ : Heap) (outer : List Env) (L : Addr) (m : Str → Option Value) (mg : Str → Option Value) (mb : Str → Option Value) (mean : ExcName → Option Value) (pT : Program) (looseT : List Str) (s : Shared) (R : Result → Shared → Prop) (cn : Str) (cs : Scope) (ca : Addr) (ccd : Value) (d : Nat) (u : Nat) (gs : Option (List Code)) (r0 : Tok) (r1 : Tok) (r2 : Tok) (r3 : Tok) (r4 : Tok) (r5 : Tok) (r6 : Tok) (r7 : Tok) (r8 : Tok) (r9 : Tok) (r10 : Tok) (r11 : Tok) (r12 : Tok) (r13 : Tok) (r14 : Tok) (r15 : Tok) (r16 : Tok) (r17 : Tok) (r18 : Tok) (q0 : Tok) (ta : Tok) (tb1 : Tok) (tc : Tok) (td : Tok) (gab : Tok) (gac : Tok) (gad : Tok) (gae : Tok) (gaf : Tok) (gag : Tok) (gah : Tok) (gai : Tok) (gaj : Tok) (gak : Tok) (gal : Tok) (gam : Tok) (gao : Tok) (gaa : Tok) (tq : Tok) (tm : Tok) (tg : Tok) (tso : Tok) (tw : Tok) (la : Tok) (lb : Tok) (lc : Tok) (ld : Tok) (le : Tok) (na1 : Tok) (nb : Tok) (nc : Tok) (nd1 : Tok) (ne : Tok) (coa : Tok) (cob : Tok) (coc : Tok) (cod : Tok) (coe : Tok) (cof : Tok) (cog : Tok) (coh : Tok) (coi : Tok) (coj : Tok) (cok : Tok) (con1 : Tok) (con2 : Tok) (run : Addr) (drun : Addr) (hp : Addr) (ct : Addr) (st : Addr) (dst : Addr) (gl : Addr) (lm : Addr) (dlm : Addr) (nd : Addr) (mc : Addr) (dmc : Addr) (c1 : Addr) (c2 : Addr) (c3 : Addr) (c4 : Addr) (g1 : Addr) (dg1 : Addr) (gaw : Addr) (cd : Addr) (dcd : Addr) (cap : Addr) (cow : Addr) (g0 : Addr) (fa : Addr) (ca2 : Addr) (fs : Addr) (ca1 : Addr) (fw : Addr) (ca3 : Addr) (ce : Addr) (he : Addr) (na : Addr) (tn : Addr) (ts : Addr) (vl : Addr) (x5 : Addr) (x6 : Addr) (x7 : Addr) (x8 : Addr) (x9 : Addr) (x10 : Addr) (x11 : Addr) (x12 : Addr) (x14 : Addr) (nrun : Nat) (nst : Nat) (ng1 : Nat) (ncd : Nat) (nh : Nat) (n0 : Nat) (nlm : Nat) (og : Obj) (odmc : Obj) (o1 : Obj) (o2 : Obj) (o3 : Obj) (o4 : Obj) (ond : Obj) (ocA : Obj) (ocS : Obj) (ocW : Obj) (oce : Obj) (gan0 : Int) (gan : Int) (con : Int) (con0 : Int) (bd : Int) (oca : Value) (ocs : Value) (ocw : Value) (oda : Option Addr) (ods : Option Addr) (odw : Option Addr) (fda : FuncData) (fds : FuncData) (fdw : FuncData) (sla : Array (Option Value)) (sls : Array (Option Value)) (slw : Array (Option Value)) (vs : List Value) (hs : List Value) : Prop := ∀ (B : Below A₀ base outer h₀) (F : Fr h₀ L s.heap m) (X₀ : (hd.heap_1 w.params).In h₀) (N : News h₀ L s.heap ((run, (⟨.ref 559, some drun, .plain, #[]⟩ : Obj)) :: (drun, dictOf [⟨PyData.keyHash w.params (Str.ofString "heap"), .str (Str.ofString "heap") r0, .ref hp⟩, ⟨PyData.keyHash w.params (Str.ofString "counter"), .str (Str.ofString "counter") r1, .ref ct⟩, ⟨PyData.keyHash w.params (Str.ofString "stash"), .str (Str.ofString "stash") r2, .ref st⟩, ⟨PyData.keyHash w.params (Str.ofString "limits"), .str (Str.ofString "limits") r3, .ref lm⟩, ⟨PyData.keyHash w.params (Str.ofString "nodes"), .str (Str.ofString "nodes") r4, .ref nd⟩, ⟨PyData.keyHash w.params (Str.ofString "lvs"), .str (Str.ofString "lvs") r5, .ref x5⟩, ⟨PyData.keyHash w.params (Str.ofString "statements"), .str (Str.ofString "statements") r6, .ref x6⟩, ⟨PyData.keyHash w.params (Str.ofString "funcs"), .str (Str.ofString "funcs") r7, .ref x7⟩, ⟨PyData.keyHash w.params (Str.ofString "operators"), .str (Str.ofString "operators") r8, .ref x8⟩, ⟨PyData.keyHash w.params (Str.ofString "out"), .str (Str.ofString "out") r9, .ref x9⟩, ⟨PyData.keyHash w.params (Str.ofString "err"), .str (Str.ofString "err") r10, .ref x10⟩, ⟨PyData.keyHash w.params (Str.ofString "saves"), .str (Str.ofString "saves") r11, .ref x11⟩, ⟨PyData.keyHash w.params (Str.ofString "frames"), .str (Str.ofString "frames") r12, .ref x12⟩, ⟨PyData.keyHash w.params (Str.ofString "match"), .str (Str.ofString "match") r13, .none⟩, ⟨PyData.keyHash w.params (Str.ofString "patterns"), .str (Str.ofString "patterns") r14, .ref x14⟩, ⟨PyData.keyHash w.params (Str.ofString "steps"), .str (Str.ofString "steps") r15, .int 0 q0⟩, ⟨PyData.keyHash w.params (Str.ofString "methods"), .str (Str.ofString "methods") r16, .ref mc⟩, ⟨PyData.keyHash w.params (Str.ofString "call_code"), .str (Str.ofString "call_code") r17, .none⟩, ⟨PyData.keyHash w.params (Str.ofString "compile_text"), .str (Str.ofString "compile_text") r18, .none⟩] nrun) :: (nd, ond) :: (fa, (⟨oca, oda, .func fda, sla⟩ : Obj)) :: (ca2, ocA) :: (st, (⟨.ref 1139, some dst, .plain, #[]⟩ : Obj)) :: (dst, dictOf [⟨PyData.keyHash w.params (Str.ofString "heap"), .str (Str.ofString "heap") ta, .ref hp⟩, ⟨PyData.keyHash w.params (Str.ofString "globs"), .str (Str.ofString "globs") tb1, .ref gl⟩, ⟨PyData.keyHash w.params (Str.ofString "generation"), .str (Str.ofString "generation") tc, .int 1 td⟩] nst) :: (gl, og) :: (g1, (⟨.ref 142, some dg1, .plain, #[]⟩ : Obj)) :: (dg1, dictOf [⟨PyData.keyHash w.params (Str.ofString "number"), .str (Str.ofString "number") gaa, .int gan0 gab⟩, ⟨PyData.keyHash w.params (Str.ofString "count"), .str (Str.ofString "count") gac, .int gan gad⟩, ⟨PyData.keyHash w.params (Str.ofString "blessed"), .str (Str.ofString "blessed") gae, .none⟩, ⟨PyData.keyHash w.params (Str.ofString "weak"), .str (Str.ofString "weak") gaf, .ref gaw⟩, ⟨PyData.keyHash w.params (Str.ofString "is_destroyed"), .str (Str.ofString "is_destroyed") gag, .bool false⟩, ⟨PyData.keyHash w.params (Str.ofString "is_freed"), .str (Str.ofString "is_freed") gah, .bool false⟩, ⟨PyData.keyHash w.params (Str.ofString "name"), .str (Str.ofString "name") gai, .str (Str.ofString "P::go") gaj⟩, ⟨PyData.keyHash w.params (Str.ofString "scalar"), .str (Str.ofString "scalar") gak, .none⟩, ⟨PyData.keyHash w.params (Str.ofString "array"), .str (Str.ofString "array") gal, .none⟩, ⟨PyData.keyHash w.params (Str.ofString "hash"), .str (Str.ofString "hash") gam, .none⟩, ⟨PyData.keyHash w.params (Str.ofString "code"), .str (Str.ofString "code") gao, .ref cd⟩] ng1) :: (mc, (⟨.ref 656, some dmc, .plain, #[]⟩ : Obj)) :: (dmc, odmc) :: (cd, (⟨.ref 123, some dcd, .plain, #[]⟩ : Obj)) :: (dcd, dictOf [⟨PyData.keyHash w.params (Str.ofString "number"), .str (Str.ofString "number") coa, .int con0 cob⟩, ⟨PyData.keyHash w.params (Str.ofString "count"), .str (Str.ofString "count") coc, .int con cod⟩, ⟨PyData.keyHash w.params (Str.ofString "blessed"), .str (Str.ofString "blessed") coe, .none⟩, ⟨PyData.keyHash w.params (Str.ofString "weak"), .str (Str.ofString "weak") cof, .ref cow⟩, ⟨PyData.keyHash w.params (Str.ofString "is_destroyed"), .str (Str.ofString "is_destroyed") cog, .bool false⟩, ⟨PyData.keyHash w.params (Str.ofString "is_freed"), .str (Str.ofString "is_freed") coh, .bool false⟩, ⟨PyData.keyHash w.params (Str.ofString "sub"), .str (Str.ofString "sub") coi, .none⟩, ⟨PyData.keyHash w.params (Str.ofString "captures"), .str (Str.ofString "captures") coj, .ref cap⟩, ⟨PyData.keyHash w.params (Str.ofString "builtin"), .str (Str.ofString "builtin") cok, .ref fw⟩, ⟨PyData.keyHash w.params (Str.ofString "package"), .str (Str.ofString "package") con1, .str (Str.ofString "main") con2⟩] ncd) :: (fw, (⟨ocw, odw, .func fdw, slw⟩ : Obj)) :: (ca3, ocW) :: (ce, oce) :: (he, listOf hs.toArray nh) :: (fs, (⟨ocs, ods, .func fds, sls⟩ : Obj)) :: (ca1, ocS) :: (na, (⟨.type "tuple", none, .seq #[.str (Str.ofString "asked") tq], #[]⟩ : Obj)) :: (tn, (⟨.type "tuple", none, .seq #[.str (Str.ofString "method") tm, .ref na, .str (Str.ofString "go") tg, .ref ts, .none], #[]⟩ : Obj)) :: (ts, (⟨.type "tuple", none, .seq #[.str (Str.ofString "some") tso, .ref vl], #[]⟩ : Obj)) :: (vl, listOf vs.toArray n0) :: (lm, (⟨.ref 1076, some dlm, .plain, #[]⟩ : Obj)) :: (dlm, dictOf [⟨PyData.keyHash w.params (Str.ofString "width"), .str (Str.ofString "width") la, .int 64 na1⟩, ⟨PyData.keyHash w.params (Str.ofString "depth"), .str (Str.ofString "depth") lb, .int 50 nb⟩, ⟨PyData.keyHash w.params (Str.ofString "steps"), .str (Str.ofString "steps") lc, .int 1000000 nc⟩, ⟨PyData.keyHash w.params (Str.ofString "text"), .str (Str.ofString "text") ld, .int 100000 nd1⟩, ⟨PyData.keyHash w.params (Str.ofString "items"), .str (Str.ofString "items") le, .int bd ne⟩] nlm) :: (c1, o1) :: (c2, o2) :: (c3, o3) :: (c4, o4) :: [])) (T : Top pT looseT mean mg mb h₀) (hke : cs.kind = .function) (hroom : d < 590) (hun : u < 900) (lo : (nd == sysModules) = false) (hnd : ond.IsDictOf (strKind PySem.Challenge.rw_qz0130_01.row.prog w) [(Str.ofString "some", .ref fs), (Str.ofString "asked", .ref fa)]) (hA : CallsA w fa ca2 ⟨oca, oda, .func fda, sla⟩ ocA) (logl : (gl == sysModules) = false) (hog : og.IsDictOf (strKind PySem.Challenge.rw_qz0130_01.row.prog w) [(Str.ofString "P::go", .ref g1), (Str.ofString "main::_", .ref g0)]) (hC : CacheSt w cd odmc c1 c2 c3 c4 o1 o2 o3 o4) (oc1 : @LT.lt Nat _ dmc c1) (oc2 : @LT.lt Nat _ dmc c2) (oc3 : @LT.lt Nat _ dmc c3) (oc4 : @LT.lt Nat _ dmc c4) (hhs : hs.length ≤ 10) (hW : CallsW w fw ca3 ce he ⟨ocw, odw, .func fdw, slw⟩ ocW oce) (hlen : vs.length ≤ 9) (hS : CallsS w fs ca1 ⟨ocs, ods, .func fds, sls⟩ ocS) (hbd : ¬ (bd < 1 + (vs.length : Int))) (ch0 : @LT.lt Nat _ he dlm) (ch1 : @LT.lt Nat _ dlm lm) (ch2 : @LT.lt Nat _ lm ce) (ch3 : @LT.lt Nat _ ce dst) (ch4 : @LT.lt Nat _ dst st) (ch5 : @LT.lt Nat _ st gl) (ch6 : @LT.lt Nat _ gl drun) (ch7 : @LT.lt Nat _ drun run) (ch8 : @LT.lt Nat _ run dmc) (ch9 : @LT.lt Nat _ dmc mc) (ch10 : @LT.lt Nat _ mc ca1) (ch11 : @LT.lt Nat _ ca1 fs) (ch12 : @LT.lt Nat _ fs ca2) (ch13 : @LT.lt Nat _ ca2 fa) (ch14 : @LT.lt Nat _ fa ca3) (ch15 : @LT.lt Nat _ ca3 fw) (ch16 : @LT.lt Nat _ fw nd) (ch17 : @LT.lt Nat _ nd dcd) (ch18 : @LT.lt Nat _ dcd cd) (ch19 : @LT.lt Nat _ cd dg1) (ch20 : @LT.lt Nat _ dg1 g1) (ch21 : @LT.lt Nat _ g1 ts) (ch22 : @LT.lt Nat _ ts na) (ch23 : @LT.lt Nat _ na tn) (cv1 : @LT.lt Nat _ vl ts) (cv2 : @Ne Nat vl dmc) (cv3 : @Ne Nat vl he) (k : ∀ h' tk t tp ml nm nn odmc' c1' c2' c3' c4' o1' o2' o3' o4', Fr h₀ L h' m → News h₀ L h' ((ml, listOf (Value.str (Str.ofString "P") tp :: vs).toArray nm) :: (c1', o1') :: (c2', o2') :: (c3', o3') :: (c4', o4') :: (run, (⟨.ref 559, some drun, .plain, #[]⟩ : Obj)) :: (drun, dictOf [⟨PyData.keyHash w.params (Str.ofString "heap"), .str (Str.ofString "heap") r0, .ref hp⟩, ⟨PyData.keyHash w.params (Str.ofString "counter"), .str (Str.ofString "counter") r1, .ref ct⟩, ⟨PyData.keyHash w.params (Str.ofString "stash"), .str (Str.ofString "stash") r2, .ref st⟩, ⟨PyData.keyHash w.params (Str.ofString "limits"), .str (Str.ofString "limits") r3, .ref lm⟩, ⟨PyData.keyHash w.params (Str.ofString "nodes"), .str (Str.ofString "nodes") r4, .ref nd⟩, ⟨PyData.keyHash w.params (Str.ofString "lvs"), .str (Str.ofString "lvs") r5, .ref x5⟩, ⟨PyData.keyHash w.params (Str.ofString "statements"), .str (Str.ofString "statements") r6, .ref x6⟩, ⟨PyData.keyHash w.params (Str.ofString "funcs"), .str (Str.ofString "funcs") r7, .ref x7⟩, ⟨PyData.keyHash w.params (Str.ofString "operators"), .str (Str.ofString "operators") r8, .ref x8⟩, ⟨PyData.keyHash w.params (Str.ofString "out"), .str (Str.ofString "out") r9, .ref x9⟩, ⟨PyData.keyHash w.params (Str.ofString "err"), .str (Str.ofString "err") r10, .ref x10⟩, ⟨PyData.keyHash w.params (Str.ofString "saves"), .str (Str.ofString "saves") r11, .ref x11⟩, ⟨PyData.keyHash w.params (Str.ofString "frames"), .str (Str.ofString "frames") r12, .ref x12⟩, ⟨PyData.keyHash w.params (Str.ofString "match"), .str (Str.ofString "match") r13, .none⟩, ⟨PyData.keyHash w.params (Str.ofString "patterns"), .str (Str.ofString "patterns") r14, .ref x14⟩, ⟨PyData.keyHash w.params (Str.ofString "steps"), .str (Str.ofString "steps") r15, .int 0 q0⟩, ⟨PyData.keyHash w.params (Str.ofString "methods"), .str (Str.ofString "methods") r16, .ref mc⟩, ⟨PyData.keyHash w.params (Str.ofString "call_code"), .str (Str.ofString "call_code") r17, .none⟩, ⟨PyData.keyHash w.params (Str.ofString "compile_text"), .str (Str.ofString "compile_text") r18, .none⟩] nrun) :: (nd, ond) :: (fa, (⟨oca, oda, .func fda, sla⟩ : Obj)) :: (ca2, ocA) :: (st, (⟨.ref 1139, some dst, .plain, #[]⟩ : Obj)) :: (dst, dictOf [⟨PyData.keyHash w.params (Str.ofString "heap"), .str (Str.ofString "heap") ta, .ref hp⟩, ⟨PyData.keyHash w.params (Str.ofString "globs"), .str (Str.ofString "globs") tb1, .ref gl⟩, ⟨PyData.keyHash w.params (Str.ofString "generation"), .str (Str.ofString "generation") tc, .int 1 td⟩] nst) :: (gl, og) :: (g1, (⟨.ref 142, some dg1, .plain, #[]⟩ : Obj)) :: (dg1, dictOf [⟨PyData.keyHash w.params (Str.ofString "number"), .str (Str.ofString "number") gaa, .int gan0 gab⟩, ⟨PyData.keyHash w.params (Str.ofString "count"), .str (Str.ofString "count") gac, .int gan gad⟩, ⟨PyData.keyHash w.params (Str.ofString "blessed"), .str (Str.ofString "blessed") gae, .none⟩, ⟨PyData.keyHash w.params (Str.ofString "weak"), .str (Str.ofString "weak") gaf, .ref gaw⟩, ⟨PyData.keyHash w.params (Str.ofString "is_destroyed"), .str (Str.ofString "is_destroyed") gag, .bool false⟩, ⟨PyData.keyHash w.params (Str.ofString "is_freed"), .str (Str.ofString "is_freed") gah, .bool false⟩, ⟨PyData.keyHash w.params (Str.ofString "name"), .str (Str.ofString "name") gai, .str (Str.ofString "P::go") gaj⟩, ⟨PyData.keyHash w.params (Str.ofString "scalar"), .str (Str.ofString "scalar") gak, .none⟩, ⟨PyData.keyHash w.params (Str.ofString "array"), .str (Str.ofString "array") gal, .none⟩, ⟨PyData.keyHash w.params (Str.ofString "hash"), .str (Str.ofString "hash") gam, .none⟩, ⟨PyData.keyHash w.params (Str.ofString "code"), .str (Str.ofString "code") gao, .ref cd⟩] ng1) :: (mc, (⟨.ref 656, some dmc, .plain, #[]⟩ : Obj)) :: (dmc, odmc') :: (cd, (⟨.ref 123, some dcd, .plain, #[]⟩ : Obj)) :: (dcd, dictOf [⟨PyData.keyHash w.params (Str.ofString "number"), .str (Str.ofString "number") coa, .int con0 cob⟩, ⟨PyData.keyHash w.params (Str.ofString "count"), .str (Str.ofString "count") coc, .int con cod⟩, ⟨PyData.keyHash w.params (Str.ofString "blessed"), .str (Str.ofString "blessed") coe, .none⟩, ⟨PyData.keyHash w.params (Str.ofString "weak"), .str (Str.ofString "weak") cof, .ref cow⟩, ⟨PyData.keyHash w.params (Str.ofString "is_destroyed"), .str (Str.ofString "is_destroyed") cog, .bool false⟩, ⟨PyData.keyHash w.params (Str.ofString "is_freed"), .str (Str.ofString "is_freed") coh, .bool false⟩, ⟨PyData.keyHash w.params (Str.ofString "sub"), .str (Str.ofString "sub") coi, .none⟩, ⟨PyData.keyHash w.params (Str.ofString "captures"), .str (Str.ofString "captures") coj, .ref cap⟩, ⟨PyData.keyHash w.params (Str.ofString "builtin"), .str (Str.ofString "builtin") cok, .ref fw⟩, ⟨PyData.keyHash w.params (Str.ofString "package"), .str (Str.ofString "package") con1, .str (Str.ofString "main") con2⟩] ncd) :: (fw, (⟨ocw, odw, .func fdw, slw⟩ : Obj)) :: (ca3, ocW) :: (ce, oce) :: (he, listOf (hs ++ [Value.ref ml]).toArray nn) :: (fs, (⟨ocs, ods, .func fds, sls⟩ : Obj)) :: (ca1, ocS) :: (na, (⟨.type "tuple", none, .seq #[.str (Str.ofString "asked") tq], #[]⟩ : Obj)) :: (tn, (⟨.type "tuple", none, .seq #[.str (Str.ofString "method") tm, .ref na, .str (Str.ofString "go") tg, .ref ts, .none], #[]⟩ : Obj)) :: (ts, (⟨.type "tuple", none, .seq #[.str (Str.ofString "some") tso, .ref vl], #[]⟩ : Obj)) :: (vl, listOf vs.toArray n0) :: (lm, (⟨.ref 1076, some dlm, .plain, #[]⟩ : Obj)) :: (dlm, dictOf [⟨PyData.keyHash w.params (Str.ofString "width"), .str (Str.ofString "width") la, .int 64 na1⟩, ⟨PyData.keyHash w.params (Str.ofString "depth"), .str (Str.ofString "depth") lb, .int 50 nb⟩, ⟨PyData.keyHash w.params (Str.ofString "steps"), .str (Str.ofString "steps") lc, .int 1000000 nc⟩, ⟨PyData.keyHash w.params (Str.ofString "text"), .str (Str.ofString "text") ld, .int 100000 nd1⟩, ⟨PyData.keyHash w.params (Str.ofString "items"), .str (Str.ofString "items") le, .int bd ne⟩] nlm) :: (c1, o1) :: (c2, o2) :: (c3, o3) :: (c4, o4) :: []) → (∀ b o, s.heap.get? b = some o → b ∉ [run, drun, nd, fa, ca2, st, dst, gl, g1, dg1, mc, dmc, cd, dcd, fw, ca3, ce, he, fs, ca1, na, tn, ts, vl, lm, dlm, c1, c2, c3, c4] → h'.get? b = some o) → @LT.lt Nat _ tn ml → CacheSt w cd odmc' c1' c2' c3' c4' o1' o2' o3' o4' → @LT.lt Nat _ dmc c1' → @LT.lt Nat _ dmc c2' → @LT.lt Nat _ dmc c3' → @LT.lt Nat _ dmc c4' → R (.ok (.ret (.int ((Value.str (Str.ofString "P") tp :: vs).length : Int) t))) { s with heap := h', toks := tk }), codeAny (model PySem.Challenge.rw_qz0130_01.row.prog w) (Around.mk none d (some (envOf cn cs L ca ccd :: outer)) gs u) (.call (.ref 917) ⟨[.ref run, .ref tn, .int 1 tw], []⟩) R s
def eval_list_P (c : EC) : Prop := ∀ (gan0 : Int) (gan : Int) (con : Int) (con0 : Int) (bd : Int) (vs : List Value) (hs : List Value), eval_list_S (c.wo 0) (c.ar 0) (c.hp 0) (c.hp 1) (c.le 0) (c.ad 0) (c.mp 0) (c.mp 1) (c.mp 2) (c.en 0) (c.pg 0) (c.ls 0) (c.sh 0) (c.rs 0) (c.sr 0) (c.sc 0) (c.ad 1) (c.va 0) (c.nt 0) (c.nt 1) (c.oc 0) (c.tk 0) (c.tk 1) (c.tk 2) (c.tk 3) (c.tk 4) (c.tk 5) (c.tk 6) (c.tk 7) (c.tk 8) (c.tk 9) (c.tk 10) (c.tk 11) (c.tk 12) (c.tk 13) (c.tk 14) (c.tk 15) (c.tk 16) (c.tk 17) (c.tk 18) (c.tk 19) (c.tk 20) (c.tk 21) (c.tk 22) (c.tk 23) (c.tk 24) (c.tk 25) (c.tk 26) (c.tk 27) (c.tk 28) (c.tk 29) (c.tk 30) (c.tk 31) (c.tk 32) (c.tk 33) (c.tk 34) (c.tk 35) (c.tk 36) (c.tk 37) (c.tk 38) (c.tk 39) (c.tk 40) (c.tk 41) (c.tk 42) (c.tk 43) (c.tk 44) (c.tk 45) (c.tk 46) (c.tk 47) (c.tk 48) (c.tk 49) (c.tk 50) (c.tk 51) (c.tk 52) (c.tk 53) (c.tk 54) (c.tk 55) (c.tk 56) (c.tk 57) (c.tk 58) (c.tk 59) (c.tk 60) (c.tk 61) (c.tk 62) (c.tk 63) (c.tk 64) (c.tk 65) (c.ad 2) (c.ad 3) (c.ad 4) (c.ad 5) (c.ad 6) (c.ad 7) (c.ad 8) (c.ad 9) (c.ad 10) (c.ad 11) (c.ad 12) (c.ad 13) (c.ad 14) (c.ad 15) (c.ad 16) (c.ad 17) (c.ad 18) (c.ad 19) (c.ad 20) (c.ad 21) (c.ad 22) (c.ad 23) (c.ad 24) (c.ad 25) (c.ad 26) (c.ad 27) (c.ad 28) (c.ad 29) (c.ad 30) (c.ad 31) (c.ad 32) (c.ad 33) (c.ad 34) (c.ad 35) (c.ad 36) (c.ad 37) (c.ad 38) (c.ad 39) (c.ad 40) (c.ad 41) (c.ad 42) (c.ad 43) (c.ad 44) (c.ad 45) (c.ad 46) (c.nt 2) (c.nt 3) (c.nt 4) (c.nt 5) (c.nt 6) (c.nt 7) (c.nt 8) (c.ob 0) (c.ob 1) (c.ob 2) (c.ob 3) (c.ob 4) (c.ob 5) (c.ob 6) (c.ob 7) (c.ob 8) (c.ob 9) (c.ob 10) gan0 gan con con0 bd (c.va 1) (c.va 2) (c.va 3) (c.oa 0) (c.oa 1) (c.oa 2) (c.fd 0) (c.fd 1) (c.fd 2) (c.av 0) (c.av 1) (c.av 2) vs hs
@[irreducible] noncomputable def eval_list_e : EC := @Classical.epsilon EC EC.ne fun c => ¬ eval_list_P c
theorem eval_list_eq : eval_list_e = @Classical.epsilon EC EC.ne fun c => ¬ eval_list_P c := by unfold eval_list_e; rfl
theorem eval_list_m : eval_list_P eval_list_e := by
  unfold eval_list_P eval_list_S
  intro gan0 gan con con0 bd vs hs B F X₀ N T hke hroom hun lo hnd hA logl hog hC oc1 oc2 oc3 oc4 hhs hW hlen hS hbd ch0 ch1 ch2 ch3 ch4 ch5 ch6 ch7 ch8 ch9 ch10 ch11 ch12 ch13 ch14 ch15 ch16 ch17 ch18 ch19 ch20 ch21 ch22 ch23 cv1 cv2 cv3 k
  have sd0 := sd_cons (sd_cons (sd_cons (sd_cons (sd_cons (sd_cons (sd_cons (sd_cons (sd_cons (sd_cons (sd_cons (sd_cons (sd_cons (sd_cons (sd_cons (sd_cons (sd_cons (sd_cons (sd_cons (sd_cons (sd_cons (sd_cons (sd_cons (sd_cons (sd_one _) ch0) ch1) ch2) ch3) ch4) ch5) ch6) ch7) ch8) ch9) ch10) ch11) ch12) ch13) ch14) ch15) ch16) ch17) ch18) ch19) ch20) ch21) ch22) ch23
  revert X₀
  k_fill
  intro X₀
  refine' code_keepG B F X₀ N T rfl hke ?k6 ?k7 ?k8 ?kn ?k9 ?kB ?_ ?c2 ?c3 ?c4 ?c5
  case k6 => k_is
  case k7 => k_is
  case k8 => k_room
  case k9 => exact BindsTo.of_eq rfl
  case kB => exact locs rfl
  case kn => first | exact (rfl : _ = 1) | exact (rfl : _ = 2) | exact (rfl : _ = 3) | exact (rfl : _ = 4) | exact (rfl : _ = 5) | exact (rfl : _ = 6) | exact (rfl : _ = 7)
  case c2 => exact rfl
  case c3 => exact rfl
  case c4 => exact rfl
  case c5 => decide
  intro h' FG' F' N' B' X' T' hkeep
  clear B F X₀ N T
  (try dsimp only)
  repeat' (first | (k_unfold; (try dsimp only)) | (k_end; wrow_close) | (with_reducible ((with_reducible show wpAny _ _ (compareOp CmpOp.In (Value.str _ _) (Value.ref _)) _ _ _); (with_unfolding_all refine' in_tuple_strs ?k1q ?k2q ?_; (case k1q => exact Fr.tup (by k_asm) (tupK (by k_asm) (by k_is))); (case k2q => kde_strs); k_whole))) | (with_reducible ((with_reducible show wpAny _ _ (binaryOp Operator.Add (Value.ref _) (Value.ref _)) _ _ _); k_dflt (refine' add_lt ?k1q ?k2q ?k3q ?k4q ?k5q ?_; (case k1q => k_asm); (case k2q => k_asm); (case k3q => k_mem); (case k4q => k_mem); (case k5q => rw [PySem.sizeLine_eq]; (simp only [List.length_cons, List.length_nil]); omega); k_whole); intro l'9 h'9 F'9 N'9 l19; (try simp only [List.cons_append, List.nil_append] at N'9); (try k_lt l19); (try k_sweep))) | (with_reducible ((with_reducible show wpAny _ _ (pyIter (Value.ref _)) (fun it s₂ => LoopAtV _ _ _ _ _ _ _ _ _ it s₂) _ _); k_listUnr)) | (with_reducible ((with_reducible show wpAny _ _ (call (Value.builtin _) [Value.ref _, _]) _ _ _); k_dflt (refine' append_K ?k1q ?k2q ?k3q ?_ ?zq; (case k1q => k_asm); (case k2q => k_asm); (case k3q => k_upd); (case zq => size_fits); k_whole); intro h'9 F'9 N'9; (try simp only [List.push_toArray, List.cons_append, List.nil_append] at N'9); (try k_sweep))) | ((with_reducible show wpAny _ _ (call (Value.ref _) _ _) _ _ _); k_dflt ((refine wpAny_call ?_); (first | (refine' value_in_asked_use ?fB ?fF ?fX ?fN ?fT ?fk ?fd ?fu ?lo ?hnd ?hA ?hsub ?_; (case fN => k_asm); (case hA => k_asm); (case hsub => k_allIn); (case lo => first | k_asm | walk_at "ord" | (refine Nat.le_trans (Nat.le_of_eq (IntsAre.length (by assumption))) ?_; omega) | (simp only [List.length_append, List.length_cons, List.length_nil]; omega)); (case hnd => first | k_asm | walk_at "ord" | (refine Nat.le_trans (Nat.le_of_eq (IntsAre.length (by assumption))) ?_; omega) | (simp only [List.length_append, List.length_cons, List.length_nil]; omega)); (case fB => k_asm); (case fF => k_asm); (case fX => k_asm); (case fT => k_asm); (case fk => exact rfl); (case fd => ((try simp only [depth_under_make, depth_under_kw, depth_in1, depth_deeper, depth_caller]); (try dsimp only [Around.deeper, Around.in1, Around.mark]); first | walk_at "room" | decide)); (case fu => k_units); k_whole; walk_say "USE value_in_asked_use"; intro h'9 tk9 t9 F'9 N'9; (try dsimp only at N'9); (try dsimp only); (try k_sweep)) | (refine' listed_some_use ?fB ?fF ?fX ?fN ?fT ?fk ?fd ?fu ?lo ?hnd ?hlen ?hS ?hz ?hsub ?_; (case fN => k_asm); (case hS => k_asm); (case hsub => k_allIn); (case hz => (first | exact hz_head (by with_reducible assumption) | (repeat' (first | exact le0 | (refine le1 (by (refine Mine.leN ?_; (try dsimp only); walk_at "ord")) ?_))))); (case lo => first | k_asm | walk_at "ord" | (refine Nat.le_trans (Nat.le_of_eq (IntsAre.length (by assumption))) ?_; omega) | (simp only [List.length_append, List.length_cons, List.length_nil]; omega)); (case hnd => first | k_asm | walk_at "ord" | (refine Nat.le_trans (Nat.le_of_eq (IntsAre.length (by assumption))) ?_; omega) | (simp only [List.length_append, List.length_cons, List.length_nil]; omega)); (case hlen => first | k_asm | walk_at "ord" | (refine Nat.le_trans (Nat.le_of_eq (IntsAre.length (by assumption))) ?_; omega) | (simp only [List.length_append, List.length_cons, List.length_nil]; omega)); (case fB => k_asm); (case fF => k_asm); (case fX => k_asm); (case fT => k_asm); (case fk => exact rfl); (case fd => ((try simp only [depth_under_make, depth_under_kw, depth_in1, depth_deeper, depth_caller]); (try dsimp only [Around.deeper, Around.in1, Around.mark]); first | walk_at "room" | decide)); (case fu => k_units); k_whole; walk_say "USE listed_some_use"; intro l'9 h'9 tk9 n'9 F'9 N'9 l19; (try k_lt l19); (try dsimp only at N'9); (try dsimp only); (try k_sweep)) | (refine' within_ok_use ?fB ?fF ?fX ?fN ?fT ?fk ?fd ?fu ?hlen ?hbd ?hsub ?_; (case fN => k_asm); (case hsub => k_allIn); (case hlen => first | k_asm | walk_at "ord" | (refine Nat.le_trans (Nat.le_of_eq (IntsAre.length (by assumption))) ?_; omega) | (simp only [List.length_append, List.length_cons, List.length_nil]; omega)); (case hbd => first | k_asm | walk_at "ord" | (refine Nat.le_trans (Nat.le_of_eq (IntsAre.length (by assumption))) ?_; omega) | (simp only [List.length_append, List.length_cons, List.length_nil]; omega)); (case fB => k_asm); (case fF => k_asm); (case fX => k_asm); (case fT => k_asm); (case fk => exact rfl); (case fd => ((try simp only [depth_under_make, depth_under_kw, depth_in1, depth_deeper, depth_caller]); (try dsimp only [Around.deeper, Around.in1, Around.mark]); first | walk_at "room" | decide)); (case fu => k_units); k_whole; walk_say "USE within_ok_use"; intro h'9 tk9 F'9 N'9; (try dsimp only at N'9); (try dsimp only); (try k_sweep)) | (refine' method_for_any_use ?fB ?fF ?fX ?fN ?fT ?fk ?fd ?fu ?lo ?hog ?hC ?o1n ?o2n ?o3n ?o4n ?o5n ?o6n ?o7n ?o8n ?oc1 ?oc2 ?oc3 ?oc4 ?U ?hsub ?_; (case fN => k_asm); (case hC => k_asm); (case hsub => k_allIn); (case lo => first | k_asm | walk_at "ord" | (refine Nat.le_trans (Nat.le_of_eq (IntsAre.length (by assumption))) ?_; omega) | (simp only [List.length_append, List.length_cons, List.length_nil]; omega)); (case hog => first | k_asm | walk_at "ord" | (refine Nat.le_trans (Nat.le_of_eq (IntsAre.length (by assumption))) ?_; omega) | (simp only [List.length_append, List.length_cons, List.length_nil]; omega)); (case o1n => first | k_asm | walk_at "ord" | (refine Nat.le_trans (Nat.le_of_eq (IntsAre.length (by assumption))) ?_; omega) | (simp only [List.length_append, List.length_cons, List.length_nil]; omega)); (case o2n => first | k_asm | walk_at "ord" | (refine Nat.le_trans (Nat.le_of_eq (IntsAre.length (by assumption))) ?_; omega) | (simp only [List.length_append, List.length_cons, List.length_nil]; omega)); (case o3n => first | k_asm | walk_at "ord" | (refine Nat.le_trans (Nat.le_of_eq (IntsAre.length (by assumption))) ?_; omega) | (simp only [List.length_append, List.length_cons, List.length_nil]; omega)); (case o4n => first | k_asm | walk_at "ord" | (refine Nat.le_trans (Nat.le_of_eq (IntsAre.length (by assumption))) ?_; omega) | (simp only [List.length_append, List.length_cons, List.length_nil]; omega)); (case o5n => first | k_asm | walk_at "ord" | (refine Nat.le_trans (Nat.le_of_eq (IntsAre.length (by assumption))) ?_; omega) | (simp only [List.length_append, List.length_cons, List.length_nil]; omega)); (case o6n => first | k_asm | walk_at "ord" | (refine Nat.le_trans (Nat.le_of_eq (IntsAre.length (by assumption))) ?_; omega) | (simp only [List.length_append, List.length_cons, List.length_nil]; omega)); (case o7n => first | k_asm | walk_at "ord" | (refine Nat.le_trans (Nat.le_of_eq (IntsAre.length (by assumption))) ?_; omega) | (simp only [List.length_append, List.length_cons, List.length_nil]; omega)); (case o8n => first | k_asm | walk_at "ord" | (refine Nat.le_trans (Nat.le_of_eq (IntsAre.length (by assumption))) ?_; omega) | (simp only [List.length_append, List.length_cons, List.length_nil]; omega)); (case oc1 => first | k_asm | walk_at "ord" | (refine Nat.le_trans (Nat.le_of_eq (IntsAre.length (by assumption))) ?_; omega) | (simp only [List.length_append, List.length_cons, List.length_nil]; omega)); (case oc2 => first | k_asm | walk_at "ord" | (refine Nat.le_trans (Nat.le_of_eq (IntsAre.length (by assumption))) ?_; omega) | (simp only [List.length_append, List.length_cons, List.length_nil]; omega)); (case oc3 => first | k_asm | walk_at "ord" | (refine Nat.le_trans (Nat.le_of_eq (IntsAre.length (by assumption))) ?_; omega) | (simp only [List.length_append, List.length_cons, List.length_nil]; omega)); (case oc4 => first | k_asm | walk_at "ord" | (refine Nat.le_trans (Nat.le_of_eq (IntsAre.length (by assumption))) ?_; omega) | (simp only [List.length_append, List.length_cons, List.length_nil]; omega)); (case U => k_updF); (case fB => k_asm); (case fF => k_asm); (case fX => k_asm); (case fT => k_asm); (case fk => exact rfl); (case fd => ((try simp only [depth_under_make, depth_under_kw, depth_in1, depth_deeper, depth_caller]); (try dsimp only [Around.deeper, Around.in1, Around.mark]); first | walk_at "room" | decide)); (case fu => k_units); k_whole; walk_say "USE method_for_any_use"; intro h'9 tk9 odmc'9 c1'9 c2'9 c3'9 c4'9 o1'9 o2'9 o3'9 o4'9 F'9 N'9 hC'9 oc1'9 oc2'9 oc3'9 oc4'9; (try dsimp only at N'9); (try dsimp only); (try k_sweep)) | (refine' call_code_went_use ?fB ?fF ?fX ?fN ?fT ?fk ?fd ?fu ?hlen ?hhs ?hW ?o1n ?o2n ?o3n ?o4n ?o5n ?o6n ?o7n ?o8n ?U ?hsub ?_; (case fN => k_asm); (case hW => k_asm); (case hsub => k_allIn); (case hlen => first | k_asm | walk_at "ord" | (refine Nat.le_trans (Nat.le_of_eq (IntsAre.length (by assumption))) ?_; omega) | (simp only [List.length_append, List.length_cons, List.length_nil]; omega)); (case hhs => first | k_asm | walk_at "ord" | (refine Nat.le_trans (Nat.le_of_eq (IntsAre.length (by assumption))) ?_; omega) | (simp only [List.length_append, List.length_cons, List.length_nil]; omega)); (case o1n => first | k_asm | walk_at "ord" | (refine Nat.le_trans (Nat.le_of_eq (IntsAre.length (by assumption))) ?_; omega) | (simp only [List.length_append, List.length_cons, List.length_nil]; omega)); (case o2n => first | k_asm | walk_at "ord" | (refine Nat.le_trans (Nat.le_of_eq (IntsAre.length (by assumption))) ?_; omega) | (simp only [List.length_append, List.length_cons, List.length_nil]; omega)); (case o3n => first | k_asm | walk_at "ord" | (refine Nat.le_trans (Nat.le_of_eq (IntsAre.length (by assumption))) ?_; omega) | (simp only [List.length_append, List.length_cons, List.length_nil]; omega)); (case o4n => first | k_asm | walk_at "ord" | (refine Nat.le_trans (Nat.le_of_eq (IntsAre.length (by assumption))) ?_; omega) | (simp only [List.length_append, List.length_cons, List.length_nil]; omega)); (case o5n => first | k_asm | walk_at "ord" | (refine Nat.le_trans (Nat.le_of_eq (IntsAre.length (by assumption))) ?_; omega) | (simp only [List.length_append, List.length_cons, List.length_nil]; omega)); (case o6n => first | k_asm | walk_at "ord" | (refine Nat.le_trans (Nat.le_of_eq (IntsAre.length (by assumption))) ?_; omega) | (simp only [List.length_append, List.length_cons, List.length_nil]; omega)); (case o7n => first | k_asm | walk_at "ord" | (refine Nat.le_trans (Nat.le_of_eq (IntsAre.length (by assumption))) ?_; omega) | (simp only [List.length_append, List.length_cons, List.length_nil]; omega)); (case o8n => first | k_asm | walk_at "ord" | (refine Nat.le_trans (Nat.le_of_eq (IntsAre.length (by assumption))) ?_; omega) | (simp only [List.length_append, List.length_cons, List.length_nil]; omega)); (case U => k_updF); (case fB => k_asm); (case fF => k_asm); (case fX => k_asm); (case fT => k_asm); (case fk => exact rfl); (case fd => ((try simp only [depth_under_make, depth_under_kw, depth_in1, depth_deeper, depth_caller]); (try dsimp only [Around.deeper, Around.in1, Around.mark]); first | walk_at "room" | decide)); (case fu => k_units); k_whole; walk_say "USE call_code_went_use"; intro h'9 tk9 t9 nn9 F'9 N'9; (try dsimp only at N'9); (try dsimp only); (try k_sweep))))) | (walk1; (try (with_reducible refine tok3 ?_; intro tk))) | dsimp only | (leave1; (try dsimp only)) | fail "no step")
  all_goals (try dsimp only)
  all_goals (refine' leaveK_ ?k1 ?k2 ?_; (case k1 => assumption); (case k2 => assumption); intro kF kN)
  all_goals (have hkeep' := fun b o e q => Fr.keep (by assumption : Fr (gOf _ _) (LOf _) _ _) b o (hkeep b o e q))
  all_goals (refine' k _ _ _ _ _ _ _ _ _ _ _ _ _ _ _ _ kF ?kn hkeep' ?kl ?kc ?q1 ?q2 ?q3 ?q4; (case kc => assumption); (case kn => exact news_sub kN (by k_allIn)); (case kl => walk_at "ord"); (case q1 => walk_at "ord"); (case q2 => walk_at "ord"); (case q3 => walk_at "ord"); (case q4 => walk_at "ord"))
theorem eval_list {w : World} {A₀ : Around} {base : Heap} {h₀ : Heap} {outer : List Env} {L : Addr} {m : Str → Option Value} {mg : Str → Option Value} {mb : Str → Option Value} {mean : ExcName → Option Value} {pT : Program} {looseT : List Str} {s : Shared} {R : Result → Shared → Prop} {cn : Str} {cs : Scope} {ca : Addr} {ccd : Value} {d : Nat} {u : Nat} {gs : Option (List Code)} {r0 : Tok} {r1 : Tok} {r2 : Tok} {r3 : Tok} {r4 : Tok} {r5 : Tok} {r6 : Tok} {r7 : Tok} {r8 : Tok} {r9 : Tok} {r10 : Tok} {r11 : Tok} {r12 : Tok} {r13 : Tok} {r14 : Tok} {r15 : Tok} {r16 : Tok} {r17 : Tok} {r18 : Tok} {q0 : Tok} {ta : Tok} {tb1 : Tok} {tc : Tok} {td : Tok} {gab : Tok} {gac : Tok} {gad : Tok} {gae : Tok} {gaf : Tok} {gag : Tok} {gah : Tok} {gai : Tok} {gaj : Tok} {gak : Tok} {gal : Tok} {gam : Tok} {gao : Tok} {gaa : Tok} {tq : Tok} {tm : Tok} {tg : Tok} {tso : Tok} {tw : Tok} {la : Tok} {lb : Tok} {lc : Tok} {ld : Tok} {le : Tok} {na1 : Tok} {nb : Tok} {nc : Tok} {nd1 : Tok} {ne : Tok} {coa : Tok} {cob : Tok} {coc : Tok} {cod : Tok} {coe : Tok} {cof : Tok} {cog : Tok} {coh : Tok} {coi : Tok} {coj : Tok} {cok : Tok} {con1 : Tok} {con2 : Tok} {run : Addr} {drun : Addr} {hp : Addr} {ct : Addr} {st : Addr} {dst : Addr} {gl : Addr} {lm : Addr} {dlm : Addr} {nd : Addr} {mc : Addr} {dmc : Addr} {c1 : Addr} {c2 : Addr} {c3 : Addr} {c4 : Addr} {g1 : Addr} {dg1 : Addr} {gaw : Addr} {cd : Addr} {dcd : Addr} {cap : Addr} {cow : Addr} {g0 : Addr} {fa : Addr} {ca2 : Addr} {fs : Addr} {ca1 : Addr} {fw : Addr} {ca3 : Addr} {ce : Addr} {he : Addr} {na : Addr} {tn : Addr} {ts : Addr} {vl : Addr} {x5 : Addr} {x6 : Addr} {x7 : Addr} {x8 : Addr} {x9 : Addr} {x10 : Addr} {x11 : Addr} {x12 : Addr} {x14 : Addr} {nrun : Nat} {nst : Nat} {ng1 : Nat} {ncd : Nat} {nh : Nat} {n0 : Nat} {nlm : Nat} {og : Obj} {odmc : Obj} {o1 : Obj} {o2 : Obj} {o3 : Obj} {o4 : Obj} {ond : Obj} {ocA : Obj} {ocS : Obj} {ocW : Obj} {oce : Obj} {gan0 : Int} {gan : Int} {con : Int} {con0 : Int} {bd : Int} {oca : Value} {ocs : Value} {ocw : Value} {oda : Option Addr} {ods : Option Addr} {odw : Option Addr} {fda : FuncData} {fds : FuncData} {fdw : FuncData} {sla : Array (Option Value)} {sls : Array (Option Value)} {slw : Array (Option Value)} {vs : List Value} {hs : List Value} : eval_list_S w A₀ base h₀ outer L m mg mb mean pT looseT s R cn cs ca ccd d u gs r0 r1 r2 r3 r4 r5 r6 r7 r8 r9 r10 r11 r12 r13 r14 r15 r16 r17 r18 q0 ta tb1 tc td gab gac gad gae gaf gag gah gai gaj gak gal gam gao gaa tq tm tg tso tw la lb lc ld le na1 nb nc nd1 ne coa cob coc cod coe cof cog coh coi coj cok con1 con2 run drun hp ct st dst gl lm dlm nd mc dmc c1 c2 c3 c4 g1 dg1 gaw cd dcd cap cow g0 fa ca2 fs ca1 fw ca3 ce he na tn ts vl x5 x6 x7 x8 x9 x10 x11 x12 x14 nrun nst ng1 ncd nh n0 nlm og odmc o1 o2 o3 o4 ond ocA ocS ocW oce gan0 gan con con0 bd oca ocs ocw oda ods odw fda fds fdw sla sls slw vs hs := @ec_all eval_list_P (eval_list_eq ▸ eval_list_m) { wo := fun n => [w].getD n (aWorld 1), ar := fun n => [A₀].getD n (callerA), hp := fun n => [base, h₀].getD n (default), le := fun n => [outer].getD n ([]), ad := fun n => [L, ca, run, drun, hp, ct, st, dst, gl, lm, dlm, nd, mc, dmc, c1, c2, c3, c4, g1, dg1, gaw, cd, dcd, cap, cow, g0, fa, ca2, fs, ca1, fw, ca3, ce, he, na, tn, ts, vl, x5, x6, x7, x8, x9, x10, x11, x12, x14].getD n (0), mp := fun n => [m, mg, mb].getD n (fun _ => none), en := fun n => [mean].getD n (fun _ => none), pg := fun n => [pT].getD n (default), ls := fun n => [looseT].getD n ([]), sh := fun n => [s].getD n ⟨default, #[], {}, 0, {}⟩, rs := fun n => [R].getD n (fun _ _ => True), sr := fun n => [cn].getD n (default), sc := fun n => [cs].getD n (default), va := fun n => [ccd, oca, ocs, ocw].getD n (.none), nt := fun n => [d, u, nrun, nst, ng1, ncd, nh, n0, nlm].getD n (0), oc := fun n => [gs].getD n (none), tk := fun n => [r0, r1, r2, r3, r4, r5, r6, r7, r8, r9, r10, r11, r12, r13, r14, r15, r16, r17, r18, q0, ta, tb1, tc, td, gab, gac, gad, gae, gaf, gag, gah, gai, gaj, gak, gal, gam, gao, gaa, tq, tm, tg, tso, tw, la, lb, lc, ld, le, na1, nb, nc, nd1, ne, coa, cob, coc, cod, coe, cof, cog, coh, coi, coj, cok, con1, con2].getD n (0), ob := fun n => [og, odmc, o1, o2, o3, o4, ond, ocA, ocS, ocW, oce].getD n (default), iz := fun _ => (0), lv := fun _ => ([]), ll := fun _ => ([]), oa := fun n => [oda, ods, odw].getD n (none), fd := fun n => [fda, fds, fdw].getD n (default), av := fun n => [sla, sls, slw].getD n (#[]), li := fun _ => ([]), aw := fun _ => (#[]), ev := fun _ => (default) } gan0 gan con con0 bd vs hs
theorem eval_list_use {w : World} {A₀ : Around} {base h₀ : Heap} {outer : List Env} {L : Addr} {m mg mb : Str → Option Value} {mean : ExcName → Option Value} {pT : Program} {looseT : List Str} {s : Shared} {R : Result → Shared → Prop}
    {cn : Str} {cs : Scope} {ca : Addr} {ccd : Value} {d u : Nat} {gs : Option (List Code)}
    {r0 r1 r2 r3 r4 r5 r6 r7 r8 r9 r10 r11 r12 r13 r14 r15 r16 r17 r18 q0 ta tb1 tc td gab gac gad gae gaf gag gah gai gaj gak gal gam gao gaa tq tm tg tso tw la lb lc ld le na1 nb nc nd1 ne coa cob coc cod coe cof cog coh coi coj cok con1 con2 : Tok} {run drun hp ct st dst gl lm dlm nd mc dmc c1 c2 c3 c4 g1 dg1 gaw cd dcd cap cow g0 fa ca2 fs ca1 fw ca3 ce he na tn ts vl x5 x6 x7 x8 x9 x10 x11 x12 x14 : Addr} {nrun nst ng1 ncd nh n0 nlm : Nat} {og odmc o1 o2 o3 o4 ond ocA ocS ocW oce : Obj} {gan0 gan con con0 bd : Int} {oca ocs ocw : Value} {oda ods odw : Option Addr} {fda fds fdw : FuncData} {sla sls slw : Array (Option Value)} {vs hs : List Value} {gA : Obj → List (Addr × Obj)} {gB : Obj → Obj → List (Addr × Obj)} {full : List (Addr × Obj)}
    (B : Below A₀ base outer h₀) (F : Fr h₀ L s.heap m) (X₀ : (hd.heap_1 w.params).In h₀) (N : News h₀ L s.heap full) (T : Top pT looseT mean mg mb h₀)
    (hke : cs.kind = .function) (hroom : d < 590) (hun : u < 900)
    (lo : (nd == sysModules) = false) (hnd : ond.IsDictOf (strKind PySem.Challenge.rw_qz0130_01.row.prog w) [(Str.ofString "some", .ref fs), (Str.ofString "asked", .ref fa)]) (hA : CallsA w fa ca2 ⟨oca, oda, .func fda, sla⟩ ocA) (logl : (gl == sysModules) = false) (hog : og.IsDictOf (strKind PySem.Challenge.rw_qz0130_01.row.prog w) [(Str.ofString "P::go", .ref g1), (Str.ofString "main::_", .ref g0)]) (hC : CacheSt w cd odmc c1 c2 c3 c4 o1 o2 o3 o4) (oc1 : @LT.lt Nat _ dmc c1) (oc2 : @LT.lt Nat _ dmc c2) (oc3 : @LT.lt Nat _ dmc c3) (oc4 : @LT.lt Nat _ dmc c4) (hhs : hs.length ≤ 10) (hW : CallsW w fw ca3 ce he ⟨ocw, odw, .func fdw, slw⟩ ocW oce) (hlen : vs.length ≤ 9) (hS : CallsS w fs ca1 ⟨ocs, ods, .func fds, sls⟩ ocS) (hbd : ¬ (bd < 1 + (vs.length : Int))) (ch0 : @LT.lt Nat _ he dlm) (ch1 : @LT.lt Nat _ dlm lm) (ch2 : @LT.lt Nat _ lm ce) (ch3 : @LT.lt Nat _ ce dst) (ch4 : @LT.lt Nat _ dst st) (ch5 : @LT.lt Nat _ st gl) (ch6 : @LT.lt Nat _ gl drun) (ch7 : @LT.lt Nat _ drun run) (ch8 : @LT.lt Nat _ run dmc) (ch9 : @LT.lt Nat _ dmc mc) (ch10 : @LT.lt Nat _ mc ca1) (ch11 : @LT.lt Nat _ ca1 fs) (ch12 : @LT.lt Nat _ fs ca2) (ch13 : @LT.lt Nat _ ca2 fa) (ch14 : @LT.lt Nat _ fa ca3) (ch15 : @LT.lt Nat _ ca3 fw) (ch16 : @LT.lt Nat _ fw nd) (ch17 : @LT.lt Nat _ nd dcd) (ch18 : @LT.lt Nat _ dcd cd) (ch19 : @LT.lt Nat _ cd dg1) (ch20 : @LT.lt Nat _ dg1 g1) (ch21 : @LT.lt Nat _ g1 ts) (ch22 : @LT.lt Nat _ ts na) (ch23 : @LT.lt Nat _ na tn) (cv1 : @LT.lt Nat _ vl ts) (cv2 : @Ne Nat vl dmc) (cv3 : @Ne Nat vl he) (hsub : ∀ p ∈ ((run, (⟨.ref 559, some drun, .plain, #[]⟩ : Obj)) :: (drun, dictOf [⟨PyData.keyHash w.params (Str.ofString "heap"), .str (Str.ofString "heap") r0, .ref hp⟩, ⟨PyData.keyHash w.params (Str.ofString "counter"), .str (Str.ofString "counter") r1, .ref ct⟩, ⟨PyData.keyHash w.params (Str.ofString "stash"), .str (Str.ofString "stash") r2, .ref st⟩, ⟨PyData.keyHash w.params (Str.ofString "limits"), .str (Str.ofString "limits") r3, .ref lm⟩, ⟨PyData.keyHash w.params (Str.ofString "nodes"), .str (Str.ofString "nodes") r4, .ref nd⟩, ⟨PyData.keyHash w.params (Str.ofString "lvs"), .str (Str.ofString "lvs") r5, .ref x5⟩, ⟨PyData.keyHash w.params (Str.ofString "statements"), .str (Str.ofString "statements") r6, .ref x6⟩, ⟨PyData.keyHash w.params (Str.ofString "funcs"), .str (Str.ofString "funcs") r7, .ref x7⟩, ⟨PyData.keyHash w.params (Str.ofString "operators"), .str (Str.ofString "operators") r8, .ref x8⟩, ⟨PyData.keyHash w.params (Str.ofString "out"), .str (Str.ofString "out") r9, .ref x9⟩, ⟨PyData.keyHash w.params (Str.ofString "err"), .str (Str.ofString "err") r10, .ref x10⟩, ⟨PyData.keyHash w.params (Str.ofString "saves"), .str (Str.ofString "saves") r11, .ref x11⟩, ⟨PyData.keyHash w.params (Str.ofString "frames"), .str (Str.ofString "frames") r12, .ref x12⟩, ⟨PyData.keyHash w.params (Str.ofString "match"), .str (Str.ofString "match") r13, .none⟩, ⟨PyData.keyHash w.params (Str.ofString "patterns"), .str (Str.ofString "patterns") r14, .ref x14⟩, ⟨PyData.keyHash w.params (Str.ofString "steps"), .str (Str.ofString "steps") r15, .int 0 q0⟩, ⟨PyData.keyHash w.params (Str.ofString "methods"), .str (Str.ofString "methods") r16, .ref mc⟩, ⟨PyData.keyHash w.params (Str.ofString "call_code"), .str (Str.ofString "call_code") r17, .none⟩, ⟨PyData.keyHash w.params (Str.ofString "compile_text"), .str (Str.ofString "compile_text") r18, .none⟩] nrun) :: (nd, ond) :: (fa, (⟨oca, oda, .func fda, sla⟩ : Obj)) :: (ca2, ocA) :: (st, (⟨.ref 1139, some dst, .plain, #[]⟩ : Obj)) :: (dst, dictOf [⟨PyData.keyHash w.params (Str.ofString "heap"), .str (Str.ofString "heap") ta, .ref hp⟩, ⟨PyData.keyHash w.params (Str.ofString "globs"), .str (Str.ofString "globs") tb1, .ref gl⟩, ⟨PyData.keyHash w.params (Str.ofString "generation"), .str (Str.ofString "generation") tc, .int 1 td⟩] nst) :: (gl, og) :: (g1, (⟨.ref 142, some dg1, .plain, #[]⟩ : Obj)) :: (dg1, dictOf [⟨PyData.keyHash w.params (Str.ofString "number"), .str (Str.ofString "number") gaa, .int gan0 gab⟩, ⟨PyData.keyHash w.params (Str.ofString "count"), .str (Str.ofString "count") gac, .int gan gad⟩, ⟨PyData.keyHash w.params (Str.ofString "blessed"), .str (Str.ofString "blessed") gae, .none⟩, ⟨PyData.keyHash w.params (Str.ofString "weak"), .str (Str.ofString "weak") gaf, .ref gaw⟩, ⟨PyData.keyHash w.params (Str.ofString "is_destroyed"), .str (Str.ofString "is_destroyed") gag, .bool false⟩, ⟨PyData.keyHash w.params (Str.ofString "is_freed"), .str (Str.ofString "is_freed") gah, .bool false⟩, ⟨PyData.keyHash w.params (Str.ofString "name"), .str (Str.ofString "name") gai, .str (Str.ofString "P::go") gaj⟩, ⟨PyData.keyHash w.params (Str.ofString "scalar"), .str (Str.ofString "scalar") gak, .none⟩, ⟨PyData.keyHash w.params (Str.ofString "array"), .str (Str.ofString "array") gal, .none⟩, ⟨PyData.keyHash w.params (Str.ofString "hash"), .str (Str.ofString "hash") gam, .none⟩, ⟨PyData.keyHash w.params (Str.ofString "code"), .str (Str.ofString "code") gao, .ref cd⟩] ng1) :: (mc, (⟨.ref 656, some dmc, .plain, #[]⟩ : Obj)) :: (dmc, odmc) :: (cd, (⟨.ref 123, some dcd, .plain, #[]⟩ : Obj)) :: (dcd, dictOf [⟨PyData.keyHash w.params (Str.ofString "number"), .str (Str.ofString "number") coa, .int con0 cob⟩, ⟨PyData.keyHash w.params (Str.ofString "count"), .str (Str.ofString "count") coc, .int con cod⟩, ⟨PyData.keyHash w.params (Str.ofString "blessed"), .str (Str.ofString "blessed") coe, .none⟩, ⟨PyData.keyHash w.params (Str.ofString "weak"), .str (Str.ofString "weak") cof, .ref cow⟩, ⟨PyData.keyHash w.params (Str.ofString "is_destroyed"), .str (Str.ofString "is_destroyed") cog, .bool false⟩, ⟨PyData.keyHash w.params (Str.ofString "is_freed"), .str (Str.ofString "is_freed") coh, .bool false⟩, ⟨PyData.keyHash w.params (Str.ofString "sub"), .str (Str.ofString "sub") coi, .none⟩, ⟨PyData.keyHash w.params (Str.ofString "captures"), .str (Str.ofString "captures") coj, .ref cap⟩, ⟨PyData.keyHash w.params (Str.ofString "builtin"), .str (Str.ofString "builtin") cok, .ref fw⟩, ⟨PyData.keyHash w.params (Str.ofString "package"), .str (Str.ofString "package") con1, .str (Str.ofString "main") con2⟩] ncd) :: (fw, (⟨ocw, odw, .func fdw, slw⟩ : Obj)) :: (ca3, ocW) :: (ce, oce) :: (he, listOf hs.toArray nh) :: (fs, (⟨ocs, ods, .func fds, sls⟩ : Obj)) :: (ca1, ocS) :: (na, (⟨.type "tuple", none, .seq #[.str (Str.ofString "asked") tq], #[]⟩ : Obj)) :: (tn, (⟨.type "tuple", none, .seq #[.str (Str.ofString "method") tm, .ref na, .str (Str.ofString "go") tg, .ref ts, .none], #[]⟩ : Obj)) :: (ts, (⟨.type "tuple", none, .seq #[.str (Str.ofString "some") tso, .ref vl], #[]⟩ : Obj)) :: (vl, listOf vs.toArray n0) :: (lm, (⟨.ref 1076, some dlm, .plain, #[]⟩ : Obj)) :: (dlm, dictOf [⟨PyData.keyHash w.params (Str.ofString "width"), .str (Str.ofString "width") la, .int 64 na1⟩, ⟨PyData.keyHash w.params (Str.ofString "depth"), .str (Str.ofString "depth") lb, .int 50 nb⟩, ⟨PyData.keyHash w.params (Str.ofString "steps"), .str (Str.ofString "steps") lc, .int 1000000 nc⟩, ⟨PyData.keyHash w.params (Str.ofString "text"), .str (Str.ofString "text") ld, .int 100000 nd1⟩, ⟨PyData.keyHash w.params (Str.ofString "items"), .str (Str.ofString "items") le, .int bd ne⟩] nlm) :: (c1, o1) :: (c2, o2) :: (c3, o3) :: (c4, o4) :: []), p ∈ full) (U1 : UpdF dmc odmc full gA) (U2 : ∀ o, UpdF he (listOf hs.toArray nh) (gA o) (gB o)) (hz : ∀ p ∈ full, @LE.le Nat _ p.1 tn)
    (k : ∀ h' tk t tp ml nm nn odmc' c1' c2' c3' c4' o1' o2' o3' o4', Fr h₀ L h' m → News h₀ L h' ((ml, listOf (Value.str (Str.ofString "P") tp :: vs).toArray nm) :: (c1', o1') :: (c2', o2') :: (c3', o3') :: (c4', o4') :: gB odmc' (listOf (hs ++ [Value.ref ml]).toArray nn)) → (∀ p ∈ full, @LT.lt Nat _ p.1 ml) → CacheSt w cd odmc' c1' c2' c3' c4' o1' o2' o3' o4' → @LT.lt Nat _ dmc c1' → @LT.lt Nat _ dmc c2' → @LT.lt Nat _ dmc c3' → @LT.lt Nat _ dmc c4' → R (.ok (.ret (.int ((Value.str (Str.ofString "P") tp :: vs).length : Int) t))) { s with heap := h', toks := tk }) :
    codeAny (model PySem.Challenge.rw_qz0130_01.row.prog w) (Around.mk none d (some (envOf cn cs L ca ccd :: outer)) gs u) (.call (.ref 917) ⟨[.ref run, .ref tn, .int 1 tw], []⟩) R s :=
  eval_list B F X₀ (news_sub N hsub) T hke hroom hun lo hnd hA logl hog hC oc1 oc2 oc3 oc4 hhs hW hlen hS hbd ch0 ch1 ch2 ch3 ch4 ch5 ch6 ch7 ch8 ch9 ch10 ch11 ch12 ch13 ch14 ch15 ch16 ch17 ch18 ch19 ch20 ch21 ch22 ch23 cv1 cv2 cv3 fun h' tk t tp ml nm nn odmc' c1' c2' c3' c4' o1' o2' o3' o4' F' N' K l C q1 q2 q3 q4 => by
    have y := keep_but2 (d1 := dmc) (d2 := he) (news_sub N hsub) (by repeat' (first | exact List.forall_mem_nil _ | (refine List.forall_mem_cons.mpr ⟨by first | exact .inl rfl | exact .inr (.inl rfl) | exact .inr (.inr (N' _ (by k_mem)).1), ?_⟩))) K
    have z := news_upd2 N U1 U2 (N' (dmc, odmc') (by k_mem)).1 (N' (he, _) (by k_mem)).1 y
    refine k h' tk t tp ml nm nn odmc' c1' c2' c3' c4' o1' o2' o3' o4' F' (news_two (a := (ml, listOf (Value.str (Str.ofString "P") tp :: vs).toArray nm) :: (c1', o1') :: (c2', o2') :: (c3', o3') :: (c4', o4') :: []) (news_sub N' (by k_allIn)) z) (fun p hp => Nat.lt_of_le_of_lt (hz p hp) l) C q1 q2 q3 q4
end
section
def eval_die_S (w : World) (A₀ : Around) (base : Heap) (h₀ : Heap) (outer : List Env) (L : Addr) (m : Str → Option Value) (mg : Str → Option Value) (mb : Str → Option Value) (mean : ExcName → Option Value) (pT : Program) (looseT : List Str) (s : Shared) (R : Result → Shared → Prop) (cn : Str) (cs : Scope) (ca : Addr) (ccd : Value) (d : Nat) (u : Nat) (gs : Option (List Code)) (r0 : Tok) (r1 : Tok) (r2 : Tok) (r3 : Tok) (r4 : Tok) (r5 : Tok) (r6 : Tok) (r7 : Tok) (r8 : Tok) (r9 : Tok) (r10 : Tok) (r11 : Tok) (r12 : Tok) (r13 : Tok) (r14 : Tok) (r15 : Tok) (r16 : Tok) (r17 : Tok) (r18 : Tok) (q0 : Tok) (tq : Tok) (tm : Tok) (tg : Tok) (tso : Tok) (tw : Tok) (la : Tok) (lb : Tok) (lc : Tok) (ld : Tok) (le : Tok) (na1 : Tok) (nb : Tok) (nc : Tok) (nd1 : Tok) (ne : Tok) (run : Addr) (drun : Addr) (hp : Addr) (ct : Addr) (st : Addr) (lm : Addr) (dlm : Addr) (nd : Addr) (mc : Addr) (fa : Addr) (ca2 : Addr) (fs : Addr) (ca1 : Addr) (na : Addr) (tn : Addr) (ts : Addr) (vl : Addr) (x5 : Addr) (x6 : Addr) (x7 : Addr) (x8 : Addr) (x9 : Addr) (x10 : Addr) (x11 : Addr) (x12 : Addr) (x14 : Addr) (nrun : Nat) (n0 : Nat) (nlm : Nat) (ond : Obj) (ocA : Obj) (ocS : Obj) (bd : Int) (oca : Value) (ocs : Value) (oda : Option Addr) (ods : Option Addr) (fda : FuncData) (fds : FuncData) (sla : Array (Option Value)) (sls : Array (Option Value)) (vs : List Value) : Prop := ∀ (B : Below A₀ base outer h₀) (F : Fr h₀ L s.heap m) (X₀ : (hd.heap_1 w.params).In h₀) (N : News h₀ L s.heap ((run, (⟨.ref 559, some drun, .plain, #[]⟩ : Obj)) :: (drun, dictOf [⟨PyData.keyHash w.params (Str.ofString "heap"), .str (Str.ofString "heap") r0, .ref hp⟩, ⟨PyData.keyHash w.params (Str.ofString "counter"), .str (Str.ofString "counter") r1, .ref ct⟩, ⟨PyData.keyHash w.params (Str.ofString "stash"), .str (Str.ofString "stash") r2, .ref st⟩, ⟨PyData.keyHash w.params (Str.ofString "limits"), .str (Str.ofString "limits") r3, .ref lm⟩, ⟨PyData.keyHash w.params (Str.ofString "nodes"), .str (Str.ofString "nodes") r4, .ref nd⟩, ⟨PyData.keyHash w.params (Str.ofString "lvs"), .str (Str.ofString "lvs") r5, .ref x5⟩, ⟨PyData.keyHash w.params (Str.ofString "statements"), .str (Str.ofString "statements") r6, .ref x6⟩, ⟨PyData.keyHash w.params (Str.ofString "funcs"), .str (Str.ofString "funcs") r7, .ref x7⟩, ⟨PyData.keyHash w.params (Str.ofString "operators"), .str (Str.ofString "operators") r8, .ref x8⟩, ⟨PyData.keyHash w.params (Str.ofString "out"), .str (Str.ofString "out") r9, .ref x9⟩, ⟨PyData.keyHash w.params (Str.ofString "err"), .str (Str.ofString "err") r10, .ref x10⟩, ⟨PyData.keyHash w.params (Str.ofString "saves"), .str (Str.ofString "saves") r11, .ref x11⟩, ⟨PyData.keyHash w.params (Str.ofString "frames"), .str (Str.ofString "frames") r12, .ref x12⟩, ⟨PyData.keyHash w.params (Str.ofString "match"), .str (Str.ofString "match") r13, .none⟩, ⟨PyData.keyHash w.params (Str.ofString "patterns"), .str (Str.ofString "patterns") r14, .ref x14⟩, ⟨PyData.keyHash w.params (Str.ofString "steps"), .str (Str.ofString "steps") r15, .int 0 q0⟩, ⟨PyData.keyHash w.params (Str.ofString "methods"), .str (Str.ofString "methods") r16, .ref mc⟩, ⟨PyData.keyHash w.params (Str.ofString "call_code"), .str (Str.ofString "call_code") r17, .none⟩, ⟨PyData.keyHash w.params (Str.ofString "compile_text"), .str (Str.ofString "compile_text") r18, .none⟩] nrun) :: (nd, ond) :: (fa, (⟨oca, oda, .func fda, sla⟩ : Obj)) :: (ca2, ocA) :: (fs, (⟨ocs, ods, .func fds, sls⟩ : Obj)) :: (ca1, ocS) :: (na, (⟨.type "tuple", none, .seq #[.str (Str.ofString "asked") tq], #[]⟩ : Obj)) :: (tn, (⟨.type "tuple", none, .seq #[.str (Str.ofString "method") tm, .ref na, .str (Str.ofString "go") tg, .ref ts, .none], #[]⟩ : Obj)) :: (ts, (⟨.type "tuple", none, .seq #[.str (Str.ofString "some") tso, .ref vl], #[]⟩ : Obj)) :: (vl, listOf vs.toArray n0) :: (lm, (⟨.ref 1076, some dlm, .plain, #[]⟩ : Obj)) :: (dlm, dictOf [⟨PyData.keyHash w.params (Str.ofString "width"), .str (Str.ofString "width") la, .int 64 na1⟩, ⟨PyData.keyHash w.params (Str.ofString "depth"), .str (Str.ofString "depth") lb, .int 50 nb⟩, ⟨PyData.keyHash w.params (Str.ofString "steps"), .str (Str.ofString "steps") lc, .int 1000000 nc⟩, ⟨PyData.keyHash w.params (Str.ofString "text"), .str (Str.ofString "text") ld, .int 100000 nd1⟩, ⟨PyData.keyHash w.params (Str.ofString "items"), .str (Str.ofString "items") le, .int bd ne⟩] nlm) :: [])) (T : Top pT looseT mean mg mb h₀) (hke : cs.kind = .function) (hroom : d < 590) (hun : u < 900) (lo : (nd == sysModules) = false) (hnd : ond.IsDictOf (strKind PySem.Challenge.rw_qz0130_01.row.prog w) [(Str.ofString "some", .ref fs), (Str.ofString "asked", .ref fa)]) (hA : CallsA w fa ca2 ⟨oca, oda, .func fda, sla⟩ ocA) (hlen : vs.length ≤ 9) (hS : CallsS w fs ca1 ⟨ocs, ods, .func fds, sls⟩ ocS) (hbd : bd < 1 + (vs.length : Int)) (ch0 : @LT.lt Nat _ dlm lm) (ch1 : @LT.lt Nat _ lm drun) (ch2 : @LT.lt Nat _ drun run) (ch3 : @LT.lt Nat _ run ca1) (ch4 : @LT.lt Nat _ ca1 fs) (ch5 : @LT.lt Nat _ fs ca2) (ch6 : @LT.lt Nat _ ca2 fa) (ch7 : @LT.lt Nat _ fa nd) (ch8 : @LT.lt Nat _ nd ts) (ch9 : @LT.lt Nat _ ts na) (ch10 : @LT.lt Nat _ na tn) (cv1 : @LT.lt Nat _ vl ts) (k : ∀ h' tk e, DieAt base (envOf cn cs L ca ccd :: outer) s.heap e h' → R (.error (.ref e)) { s with heap := h', toks := tk }), codeAny (model PySem.Challenge.rw_qz0130_01.row.prog w) (Around.mk none d (some (envOf cn cs L ca ccd :: outer)) gs u) (.call (.ref 917) ⟨[.ref run, .ref tn, .int 1 tw], []⟩) R s
def eval_die_P (c : EC) : Prop := ∀ (bd : Int) (vs : List Value), eval_die_S (c.wo 0) (c.ar 0) (c.hp 0) (c.hp 1) (c.le 0) (c.ad 0) (c.mp 0) (c.mp 1) (c.mp 2) (c.en 0) (c.pg 0) (c.ls 0) (c.sh 0) (c.rs 0) (c.sr 0) (c.sc 0) (c.ad 1) (c.va 0) (c.nt 0) (c.nt 1) (c.oc 0) (c.tk 0) (c.tk 1) (c.tk 2) (c.tk 3) (c.tk 4) (c.tk 5) (c.tk 6) (c.tk 7) (c.tk 8) (c.tk 9) (c.tk 10) (c.tk 11) (c.tk 12) (c.tk 13) (c.tk 14) (c.tk 15) (c.tk 16) (c.tk 17) (c.tk 18) (c.tk 19) (c.tk 20) (c.tk 21) (c.tk 22) (c.tk 23) (c.tk 24) (c.tk 25) (c.tk 26) (c.tk 27) (c.tk 28) (c.tk 29) (c.tk 30) (c.tk 31) (c.tk 32) (c.tk 33) (c.tk 34) (c.ad 2) (c.ad 3) (c.ad 4) (c.ad 5) (c.ad 6) (c.ad 7) (c.ad 8) (c.ad 9) (c.ad 10) (c.ad 11) (c.ad 12) (c.ad 13) (c.ad 14) (c.ad 15) (c.ad 16) (c.ad 17) (c.ad 18) (c.ad 19) (c.ad 20) (c.ad 21) (c.ad 22) (c.ad 23) (c.ad 24) (c.ad 25) (c.ad 26) (c.ad 27) (c.nt 2) (c.nt 3) (c.nt 4) (c.ob 0) (c.ob 1) (c.ob 2) bd (c.va 1) (c.va 2) (c.oa 0) (c.oa 1) (c.fd 0) (c.fd 1) (c.av 0) (c.av 1) vs
@[irreducible] noncomputable def eval_die_e : EC := @Classical.epsilon EC EC.ne fun c => ¬ eval_die_P c
theorem eval_die_eq : eval_die_e = @Classical.epsilon EC EC.ne fun c => ¬ eval_die_P c := by unfold eval_die_e; rfl
theorem eval_die_m : eval_die_P eval_die_e := by
  unfold eval_die_P eval_die_S
  intro bd vs B F X₀ N T hke hroom hun lo hnd hA hlen hS hbd ch0 ch1 ch2 ch3 ch4 ch5 ch6 ch7 ch8 ch9 ch10 cv1 k
  have sd0 := sd_cons (sd_cons (sd_cons (sd_cons (sd_cons (sd_cons (sd_cons (sd_cons (sd_cons (sd_cons (sd_cons (sd_one _) ch0) ch1) ch2) ch3) ch4) ch5) ch6) ch7) ch8) ch9) ch10
  revert X₀
  k_fill
  intro X₀
  refine' code_keepG B F X₀ N T rfl hke ?k6 ?k7 ?k8 ?kn ?k9 ?kB ?_ ?c2 ?c3 ?c4 ?c5
  case k6 => k_is
  case k7 => k_is
  case k8 => k_room
  case k9 => exact BindsTo.of_eq rfl
  case kB => exact locs rfl
  case kn => first | exact (rfl : _ = 1) | exact (rfl : _ = 2) | exact (rfl : _ = 3) | exact (rfl : _ = 4) | exact (rfl : _ = 5) | exact (rfl : _ = 6) | exact (rfl : _ = 7)
  case c2 => exact rfl
  case c3 => exact rfl
  case c4 => exact rfl
  case c5 => decide
  intro h' FG' F' N' B' X' T' hkeep
  have N0 : Box (News (eval_die_e.hp 1) (eval_die_e.ad 0) (eval_die_e.sh 0).heap (((eval_die_e.ad 2), (⟨.ref 559, some (eval_die_e.ad 3), .plain, #[]⟩ : Obj)) :: ((eval_die_e.ad 3), dictOf [⟨PyData.keyHash (eval_die_e.wo 0).params (Str.ofString "heap"), .str (Str.ofString "heap") (eval_die_e.tk 0), .ref (eval_die_e.ad 4)⟩, ⟨PyData.keyHash (eval_die_e.wo 0).params (Str.ofString "counter"), .str (Str.ofString "counter") (eval_die_e.tk 1), .ref (eval_die_e.ad 5)⟩, ⟨PyData.keyHash (eval_die_e.wo 0).params (Str.ofString "stash"), .str (Str.ofString "stash") (eval_die_e.tk 2), .ref (eval_die_e.ad 6)⟩, ⟨PyData.keyHash (eval_die_e.wo 0).params (Str.ofString "limits"), .str (Str.ofString "limits") (eval_die_e.tk 3), .ref (eval_die_e.ad 7)⟩, ⟨PyData.keyHash (eval_die_e.wo 0).params (Str.ofString "nodes"), .str (Str.ofString "nodes") (eval_die_e.tk 4), .ref (eval_die_e.ad 9)⟩, ⟨PyData.keyHash (eval_die_e.wo 0).params (Str.ofString "lvs"), .str (Str.ofString "lvs") (eval_die_e.tk 5), .ref (eval_die_e.ad 19)⟩, ⟨PyData.keyHash (eval_die_e.wo 0).params (Str.ofString "statements"), .str (Str.ofString "statements") (eval_die_e.tk 6), .ref (eval_die_e.ad 20)⟩, ⟨PyData.keyHash (eval_die_e.wo 0).params (Str.ofString "funcs"), .str (Str.ofString "funcs") (eval_die_e.tk 7), .ref (eval_die_e.ad 21)⟩, ⟨PyData.keyHash (eval_die_e.wo 0).params (Str.ofString "operators"), .str (Str.ofString "operators") (eval_die_e.tk 8), .ref (eval_die_e.ad 22)⟩, ⟨PyData.keyHash (eval_die_e.wo 0).params (Str.ofString "out"), .str (Str.ofString "out") (eval_die_e.tk 9), .ref (eval_die_e.ad 23)⟩, ⟨PyData.keyHash (eval_die_e.wo 0).params (Str.ofString "err"), .str (Str.ofString "err") (eval_die_e.tk 10), .ref (eval_die_e.ad 24)⟩, ⟨PyData.keyHash (eval_die_e.wo 0).params (Str.ofString "saves"), .str (Str.ofString "saves") (eval_die_e.tk 11), .ref (eval_die_e.ad 25)⟩, ⟨PyData.keyHash (eval_die_e.wo 0).params (Str.ofString "frames"), .str (Str.ofString "frames") (eval_die_e.tk 12), .ref (eval_die_e.ad 26)⟩, ⟨PyData.keyHash (eval_die_e.wo 0).params (Str.ofString "match"), .str (Str.ofString "match") (eval_die_e.tk 13), .none⟩, ⟨PyData.keyHash (eval_die_e.wo 0).params (Str.ofString "patterns"), .str (Str.ofString "patterns") (eval_die_e.tk 14), .ref (eval_die_e.ad 27)⟩, ⟨PyData.keyHash (eval_die_e.wo 0).params (Str.ofString "steps"), .str (Str.ofString "steps") (eval_die_e.tk 15), .int 0 (eval_die_e.tk 19)⟩, ⟨PyData.keyHash (eval_die_e.wo 0).params (Str.ofString "methods"), .str (Str.ofString "methods") (eval_die_e.tk 16), .ref (eval_die_e.ad 10)⟩, ⟨PyData.keyHash (eval_die_e.wo 0).params (Str.ofString "call_code"), .str (Str.ofString "call_code") (eval_die_e.tk 17), .none⟩, ⟨PyData.keyHash (eval_die_e.wo 0).params (Str.ofString "compile_text"), .str (Str.ofString "compile_text") (eval_die_e.tk 18), .none⟩] (eval_die_e.nt 2)) :: ((eval_die_e.ad 9), (eval_die_e.ob 0)) :: ((eval_die_e.ad 11), (⟨(eval_die_e.va 1), (eval_die_e.oa 0), .func (eval_die_e.fd 0), (eval_die_e.av 0)⟩ : Obj)) :: ((eval_die_e.ad 12), (eval_die_e.ob 1)) :: ((eval_die_e.ad 13), (⟨(eval_die_e.va 2), (eval_die_e.oa 1), .func (eval_die_e.fd 1), (eval_die_e.av 1)⟩ : Obj)) :: ((eval_die_e.ad 14), (eval_die_e.ob 2)) :: ((eval_die_e.ad 15), (⟨.type "tuple", none, .seq #[.str (Str.ofString "asked") (eval_die_e.tk 20)], #[]⟩ : Obj)) :: ((eval_die_e.ad 16), (⟨.type "tuple", none, .seq #[.str (Str.ofString "method") (eval_die_e.tk 21), .ref (eval_die_e.ad 15), .str (Str.ofString "go") (eval_die_e.tk 22), .ref (eval_die_e.ad 17), .none], #[]⟩ : Obj)) :: ((eval_die_e.ad 17), (⟨.type "tuple", none, .seq #[.str (Str.ofString "some") (eval_die_e.tk 23), .ref (eval_die_e.ad 18)], #[]⟩ : Obj)) :: ((eval_die_e.ad 18), listOf vs.toArray (eval_die_e.nt 3)) :: ((eval_die_e.ad 7), (⟨.ref 1076, some (eval_die_e.ad 8), .plain, #[]⟩ : Obj)) :: ((eval_die_e.ad 8), dictOf [⟨PyData.keyHash (eval_die_e.wo 0).params (Str.ofString "width"), .str (Str.ofString "width") (eval_die_e.tk 25), .int 64 (eval_die_e.tk 30)⟩, ⟨PyData.keyHash (eval_die_e.wo 0).params (Str.ofString "depth"), .str (Str.ofString "depth") (eval_die_e.tk 26), .int 50 (eval_die_e.tk 31)⟩, ⟨PyData.keyHash (eval_die_e.wo 0).params (Str.ofString "steps"), .str (Str.ofString "steps") (eval_die_e.tk 27), .int 1000000 (eval_die_e.tk 32)⟩, ⟨PyData.keyHash (eval_die_e.wo 0).params (Str.ofString "text"), .str (Str.ofString "text") (eval_die_e.tk 28), .int 100000 (eval_die_e.tk 33)⟩, ⟨PyData.keyHash (eval_die_e.wo 0).params (Str.ofString "items"), .str (Str.ofString "items") (eval_die_e.tk 29), .int bd (eval_die_e.tk 34)⟩] (eval_die_e.nt 4)) :: [])) := N
  clear B F X₀ N T
  (try dsimp only)
  repeat' (first | (k_unfold; (try dsimp only)) | (k_end; wrow_close) | (with_reducible ((with_reducible show wpAny _ _ (compareOp CmpOp.In (Value.str _ _) (Value.ref _)) _ _ _); (with_unfolding_all refine' in_tuple_strs ?k1q ?k2q ?_; (case k1q => exact Fr.tup (by k_asm) (tupK (by k_asm) (by k_is))); (case k2q => kde_strs); k_whole))) | (with_reducible ((with_reducible show wpAny _ _ (binaryOp Operator.Add (Value.ref _) (Value.ref _)) _ _ _); k_dflt (refine' add_lt ?k1q ?k2q ?k3q ?k4q ?k5q ?_; (case k1q => k_asm); (case k2q => k_asm); (case k3q => k_mem); (case k4q => k_mem); (case k5q => rw [PySem.sizeLine_eq]; (simp only [List.length_cons, List.length_nil]); omega); k_whole); intro l'9 h'9 F'9 N'9 l19; (try simp only [List.cons_append, List.nil_append] at N'9); (try k_lt l19); (try k_sweep))) | ((with_reducible show wpAny _ _ (call (Value.ref _) _ _) _ _ _); k_dflt ((refine wpAny_call ?_); (first | (refine' value_in_asked_use ?fB ?fF ?fX ?fN ?fT ?fk ?fd ?fu ?lo ?hnd ?hA ?hsub ?_; (case fN => k_asm); (case hA => k_asm); (case hsub => k_allIn); (case lo => first | k_asm | walk_at "ord" | (refine Nat.le_trans (Nat.le_of_eq (IntsAre.length (by assumption))) ?_; omega) | (simp only [List.length_append, List.length_cons, List.length_nil]; omega)); (case hnd => first | k_asm | walk_at "ord" | (refine Nat.le_trans (Nat.le_of_eq (IntsAre.length (by assumption))) ?_; omega) | (simp only [List.length_append, List.length_cons, List.length_nil]; omega)); (case fB => k_asm); (case fF => k_asm); (case fX => k_asm); (case fT => k_asm); (case fk => exact rfl); (case fd => ((try simp only [depth_under_make, depth_under_kw, depth_in1, depth_deeper, depth_caller]); (try dsimp only [Around.deeper, Around.in1, Around.mark]); first | walk_at "room" | decide)); (case fu => k_units); k_whole; walk_say "USE value_in_asked_use"; intro h'9 tk9 t9 F'9 N'9; (try dsimp only at N'9); (try dsimp only); (try k_sweep)) | (refine' listed_some_use ?fB ?fF ?fX ?fN ?fT ?fk ?fd ?fu ?lo ?hnd ?hlen ?hS ?hz ?hsub ?_; (case fN => k_asm); (case hS => k_asm); (case hsub => k_allIn); (case hz => (first | exact hz_head (by with_reducible assumption) | (repeat' (first | exact le0 | (refine le1 (by (refine Mine.leN ?_; (try dsimp only); walk_at "ord")) ?_))))); (case lo => first | k_asm | walk_at "ord" | (refine Nat.le_trans (Nat.le_of_eq (IntsAre.length (by assumption))) ?_; omega) | (simp only [List.length_append, List.length_cons, List.length_nil]; omega)); (case hnd => first | k_asm | walk_at "ord" | (refine Nat.le_trans (Nat.le_of_eq (IntsAre.length (by assumption))) ?_; omega) | (simp only [List.length_append, List.length_cons, List.length_nil]; omega)); (case hlen => first | k_asm | walk_at "ord" | (refine Nat.le_trans (Nat.le_of_eq (IntsAre.length (by assumption))) ?_; omega) | (simp only [List.length_append, List.length_cons, List.length_nil]; omega)); (case fB => k_asm); (case fF => k_asm); (case fX => k_asm); (case fT => k_asm); (case fk => exact rfl); (case fd => ((try simp only [depth_under_make, depth_under_kw, depth_in1, depth_deeper, depth_caller]); (try dsimp only [Around.deeper, Around.in1, Around.mark]); first | walk_at "room" | decide)); (case fu => k_units); k_whole; walk_say "USE listed_some_use"; intro l'9 h'9 tk9 n'9 F'9 N'9 l19; (try k_lt l19); (try dsimp only at N'9); (try dsimp only); (try k_sweep)) | (refine' within_die_use ?fB ?fF ?fX ?fN ?fT ?fk ?fd ?fu ?hlen ?hbd ?hsub ?_; (case fN => k_asm); (case hsub => k_allIn); (case hlen => first | k_asm | walk_at "ord" | (refine Nat.le_trans (Nat.le_of_eq (IntsAre.length (by assumption))) ?_; omega) | (simp only [List.length_append, List.length_cons, List.length_nil]; omega)); (case hbd => first | k_asm | walk_at "ord" | (refine Nat.le_trans (Nat.le_of_eq (IntsAre.length (by assumption))) ?_; omega) | (simp only [List.length_append, List.length_cons, List.length_nil]; omega)); (case fB => k_asm); (case fF => k_asm); (case fX => k_asm); (case fT => k_asm); (case fk => exact rfl); (case fd => ((try simp only [depth_under_make, depth_under_kw, depth_in1, depth_deeper, depth_caller]); (try dsimp only [Around.deeper, Around.in1, Around.mark]); first | walk_at "room" | decide)); (case fu => k_units); k_whole; walk_say "USE within_die_use"; intro h'9 tk9 e9 D9; (try dsimp only))))) | (walk1; (try (with_reducible refine tok3 ?_; intro tk))) | dsimp only | (leave1; (try dsimp only)) | fail "no step")
  rename DieAt _ _ _ _ _ => D
  rename News (gOf _ _) (LOf _) _ _ => kN
  rename Fr (gOf _ _) (LOf _) _ _ => kF
  have kN' : News (gOf _ _) (LOf _) _ (((eval_die_e.ad 2), (⟨.ref 559, some (eval_die_e.ad 3), .plain, #[]⟩ : Obj)) :: ((eval_die_e.ad 3), dictOf [⟨PyData.keyHash (eval_die_e.wo 0).params (Str.ofString "heap"), .str (Str.ofString "heap") (eval_die_e.tk 0), .ref (eval_die_e.ad 4)⟩, ⟨PyData.keyHash (eval_die_e.wo 0).params (Str.ofString "counter"), .str (Str.ofString "counter") (eval_die_e.tk 1), .ref (eval_die_e.ad 5)⟩, ⟨PyData.keyHash (eval_die_e.wo 0).params (Str.ofString "stash"), .str (Str.ofString "stash") (eval_die_e.tk 2), .ref (eval_die_e.ad 6)⟩, ⟨PyData.keyHash (eval_die_e.wo 0).params (Str.ofString "limits"), .str (Str.ofString "limits") (eval_die_e.tk 3), .ref (eval_die_e.ad 7)⟩, ⟨PyData.keyHash (eval_die_e.wo 0).params (Str.ofString "nodes"), .str (Str.ofString "nodes") (eval_die_e.tk 4), .ref (eval_die_e.ad 9)⟩, ⟨PyData.keyHash (eval_die_e.wo 0).params (Str.ofString "lvs"), .str (Str.ofString "lvs") (eval_die_e.tk 5), .ref (eval_die_e.ad 19)⟩, ⟨PyData.keyHash (eval_die_e.wo 0).params (Str.ofString "statements"), .str (Str.ofString "statements") (eval_die_e.tk 6), .ref (eval_die_e.ad 20)⟩, ⟨PyData.keyHash (eval_die_e.wo 0).params (Str.ofString "funcs"), .str (Str.ofString "funcs") (eval_die_e.tk 7), .ref (eval_die_e.ad 21)⟩, ⟨PyData.keyHash (eval_die_e.wo 0).params (Str.ofString "operators"), .str (Str.ofString "operators") (eval_die_e.tk 8), .ref (eval_die_e.ad 22)⟩, ⟨PyData.keyHash (eval_die_e.wo 0).params (Str.ofString "out"), .str (Str.ofString "out") (eval_die_e.tk 9), .ref (eval_die_e.ad 23)⟩, ⟨PyData.keyHash (eval_die_e.wo 0).params (Str.ofString "err"), .str (Str.ofString "err") (eval_die_e.tk 10), .ref (eval_die_e.ad 24)⟩, ⟨PyData.keyHash (eval_die_e.wo 0).params (Str.ofString "saves"), .str (Str.ofString "saves") (eval_die_e.tk 11), .ref (eval_die_e.ad 25)⟩, ⟨PyData.keyHash (eval_die_e.wo 0).params (Str.ofString "frames"), .str (Str.ofString "frames") (eval_die_e.tk 12), .ref (eval_die_e.ad 26)⟩, ⟨PyData.keyHash (eval_die_e.wo 0).params (Str.ofString "match"), .str (Str.ofString "match") (eval_die_e.tk 13), .none⟩, ⟨PyData.keyHash (eval_die_e.wo 0).params (Str.ofString "patterns"), .str (Str.ofString "patterns") (eval_die_e.tk 14), .ref (eval_die_e.ad 27)⟩, ⟨PyData.keyHash (eval_die_e.wo 0).params (Str.ofString "steps"), .str (Str.ofString "steps") (eval_die_e.tk 15), .int 0 (eval_die_e.tk 19)⟩, ⟨PyData.keyHash (eval_die_e.wo 0).params (Str.ofString "methods"), .str (Str.ofString "methods") (eval_die_e.tk 16), .ref (eval_die_e.ad 10)⟩, ⟨PyData.keyHash (eval_die_e.wo 0).params (Str.ofString "call_code"), .str (Str.ofString "call_code") (eval_die_e.tk 17), .none⟩, ⟨PyData.keyHash (eval_die_e.wo 0).params (Str.ofString "compile_text"), .str (Str.ofString "compile_text") (eval_die_e.tk 18), .none⟩] (eval_die_e.nt 2)) :: ((eval_die_e.ad 9), (eval_die_e.ob 0)) :: ((eval_die_e.ad 11), (⟨(eval_die_e.va 1), (eval_die_e.oa 0), .func (eval_die_e.fd 0), (eval_die_e.av 0)⟩ : Obj)) :: ((eval_die_e.ad 12), (eval_die_e.ob 1)) :: ((eval_die_e.ad 13), (⟨(eval_die_e.va 2), (eval_die_e.oa 1), .func (eval_die_e.fd 1), (eval_die_e.av 1)⟩ : Obj)) :: ((eval_die_e.ad 14), (eval_die_e.ob 2)) :: ((eval_die_e.ad 15), (⟨.type "tuple", none, .seq #[.str (Str.ofString "asked") (eval_die_e.tk 20)], #[]⟩ : Obj)) :: ((eval_die_e.ad 16), (⟨.type "tuple", none, .seq #[.str (Str.ofString "method") (eval_die_e.tk 21), .ref (eval_die_e.ad 15), .str (Str.ofString "go") (eval_die_e.tk 22), .ref (eval_die_e.ad 17), .none], #[]⟩ : Obj)) :: ((eval_die_e.ad 17), (⟨.type "tuple", none, .seq #[.str (Str.ofString "some") (eval_die_e.tk 23), .ref (eval_die_e.ad 18)], #[]⟩ : Obj)) :: ((eval_die_e.ad 18), listOf vs.toArray (eval_die_e.nt 3)) :: ((eval_die_e.ad 7), (⟨.ref 1076, some (eval_die_e.ad 8), .plain, #[]⟩ : Obj)) :: ((eval_die_e.ad 8), dictOf [⟨PyData.keyHash (eval_die_e.wo 0).params (Str.ofString "width"), .str (Str.ofString "width") (eval_die_e.tk 25), .int 64 (eval_die_e.tk 30)⟩, ⟨PyData.keyHash (eval_die_e.wo 0).params (Str.ofString "depth"), .str (Str.ofString "depth") (eval_die_e.tk 26), .int 50 (eval_die_e.tk 31)⟩, ⟨PyData.keyHash (eval_die_e.wo 0).params (Str.ofString "steps"), .str (Str.ofString "steps") (eval_die_e.tk 27), .int 1000000 (eval_die_e.tk 32)⟩, ⟨PyData.keyHash (eval_die_e.wo 0).params (Str.ofString "text"), .str (Str.ofString "text") (eval_die_e.tk 28), .int 100000 (eval_die_e.tk 33)⟩, ⟨PyData.keyHash (eval_die_e.wo 0).params (Str.ofString "items"), .str (Str.ofString "items") (eval_die_e.tk 29), .int bd (eval_die_e.tk 34)⟩] (eval_die_e.nt 4)) :: []) := news_sub kN (by k_allIn)
  have hkeep' := fun b o e q => kF.keep b o (hkeep b o e q)
  refine' leave_onD ?K D (keep_allD N0 kN' hkeep') (no_L kF kN' hkeep) ?_
  case K => assumption
  intro h' D'
  exact k _ _ _ D'
theorem eval_die {w : World} {A₀ : Around} {base : Heap} {h₀ : Heap} {outer : List Env} {L : Addr} {m : Str → Option Value} {mg : Str → Option Value} {mb : Str → Option Value} {mean : ExcName → Option Value} {pT : Program} {looseT : List Str} {s : Shared} {R : Result → Shared → Prop} {cn : Str} {cs : Scope} {ca : Addr} {ccd : Value} {d : Nat} {u : Nat} {gs : Option (List Code)} {r0 : Tok} {r1 : Tok} {r2 : Tok} {r3 : Tok} {r4 : Tok} {r5 : Tok} {r6 : Tok} {r7 : Tok} {r8 : Tok} {r9 : Tok} {r10 : Tok} {r11 : Tok} {r12 : Tok} {r13 : Tok} {r14 : Tok} {r15 : Tok} {r16 : Tok} {r17 : Tok} {r18 : Tok} {q0 : Tok} {tq : Tok} {tm : Tok} {tg : Tok} {tso : Tok} {tw : Tok} {la : Tok} {lb : Tok} {lc : Tok} {ld : Tok} {le : Tok} {na1 : Tok} {nb : Tok} {nc : Tok} {nd1 : Tok} {ne : Tok} {run : Addr} {drun : Addr} {hp : Addr} {ct : Addr} {st : Addr} {lm : Addr} {dlm : Addr} {nd : Addr} {mc : Addr} {fa : Addr} {ca2 : Addr} {fs : Addr} {ca1 : Addr} {na : Addr} {tn : Addr} {ts : Addr} {vl : Addr} {x5 : Addr} {x6 : Addr} {x7 : Addr} {x8 : Addr} {x9 : Addr} {x10 : Addr} {x11 : Addr} {x12 : Addr} {x14 : Addr} {nrun : Nat} {n0 : Nat} {nlm : Nat} {ond : Obj} {ocA : Obj} {ocS : Obj} {bd : Int} {oca : Value} {ocs : Value} {oda : Option Addr} {ods : Option Addr} {fda : FuncData} {fds : FuncData} {sla : Array (Option Value)} {sls : Array (Option Value)} {vs : List Value} : eval_die_S w A₀ base h₀ outer L m mg mb mean pT looseT s R cn cs ca ccd d u gs r0 r1 r2 r3 r4 r5 r6 r7 r8 r9 r10 r11 r12 r13 r14 r15 r16 r17 r18 q0 tq tm tg tso tw la lb lc ld le na1 nb nc nd1 ne run drun hp ct st lm dlm nd mc fa ca2 fs ca1 na tn ts vl x5 x6 x7 x8 x9 x10 x11 x12 x14 nrun n0 nlm ond ocA ocS bd oca ocs oda ods fda fds sla sls vs := @ec_all eval_die_P (eval_die_eq ▸ eval_die_m) { wo := fun n => [w].getD n (aWorld 1), ar := fun n => [A₀].getD n (callerA), hp := fun n => [base, h₀].getD n (default), le := fun n => [outer].getD n ([]), ad := fun n => [L, ca, run, drun, hp, ct, st, lm, dlm, nd, mc, fa, ca2, fs, ca1, na, tn, ts, vl, x5, x6, x7, x8, x9, x10, x11, x12, x14].getD n (0), mp := fun n => [m, mg, mb].getD n (fun _ => none), en := fun n => [mean].getD n (fun _ => none), pg := fun n => [pT].getD n (default), ls := fun n => [looseT].getD n ([]), sh := fun n => [s].getD n ⟨default, #[], {}, 0, {}⟩, rs := fun n => [R].getD n (fun _ _ => True), sr := fun n => [cn].getD n (default), sc := fun n => [cs].getD n (default), va := fun n => [ccd, oca, ocs].getD n (.none), nt := fun n => [d, u, nrun, n0, nlm].getD n (0), oc := fun n => [gs].getD n (none), tk := fun n => [r0, r1, r2, r3, r4, r5, r6, r7, r8, r9, r10, r11, r12, r13, r14, r15, r16, r17, r18, q0, tq, tm, tg, tso, tw, la, lb, lc, ld, le, na1, nb, nc, nd1, ne].getD n (0), ob := fun n => [ond, ocA, ocS].getD n (default), iz := fun _ => (0), lv := fun _ => ([]), ll := fun _ => ([]), oa := fun n => [oda, ods].getD n (none), fd := fun n => [fda, fds].getD n (default), av := fun n => [sla, sls].getD n (#[]), li := fun _ => ([]), aw := fun _ => (#[]), ev := fun _ => (default) } bd vs
theorem eval_die_use {w : World} {A₀ : Around} {base h₀ : Heap} {outer : List Env} {L : Addr} {m mg mb : Str → Option Value} {mean : ExcName → Option Value} {pT : Program} {looseT : List Str} {s : Shared} {R : Result → Shared → Prop}
    {cn : Str} {cs : Scope} {ca : Addr} {ccd : Value} {d u : Nat} {gs : Option (List Code)}
    {r0 r1 r2 r3 r4 r5 r6 r7 r8 r9 r10 r11 r12 r13 r14 r15 r16 r17 r18 q0 tq tm tg tso tw la lb lc ld le na1 nb nc nd1 ne : Tok} {run drun hp ct st lm dlm nd mc fa ca2 fs ca1 na tn ts vl x5 x6 x7 x8 x9 x10 x11 x12 x14 : Addr} {nrun n0 nlm : Nat} {ond ocA ocS : Obj} {bd : Int} {oca ocs : Value} {oda ods : Option Addr} {fda fds : FuncData} {sla sls : Array (Option Value)} {vs : List Value} {full : List (Addr × Obj)}
    (B : Below A₀ base outer h₀) (F : Fr h₀ L s.heap m) (X₀ : (hd.heap_1 w.params).In h₀) (N : News h₀ L s.heap full) (T : Top pT looseT mean mg mb h₀)
    (hke : cs.kind = .function) (hroom : d < 590) (hun : u < 900)
    (lo : (nd == sysModules) = false) (hnd : ond.IsDictOf (strKind PySem.Challenge.rw_qz0130_01.row.prog w) [(Str.ofString "some", .ref fs), (Str.ofString "asked", .ref fa)]) (hA : CallsA w fa ca2 ⟨oca, oda, .func fda, sla⟩ ocA) (hlen : vs.length ≤ 9) (hS : CallsS w fs ca1 ⟨ocs, ods, .func fds, sls⟩ ocS) (hbd : bd < 1 + (vs.length : Int)) (ch0 : @LT.lt Nat _ dlm lm) (ch1 : @LT.lt Nat _ lm drun) (ch2 : @LT.lt Nat _ drun run) (ch3 : @LT.lt Nat _ run ca1) (ch4 : @LT.lt Nat _ ca1 fs) (ch5 : @LT.lt Nat _ fs ca2) (ch6 : @LT.lt Nat _ ca2 fa) (ch7 : @LT.lt Nat _ fa nd) (ch8 : @LT.lt Nat _ nd ts) (ch9 : @LT.lt Nat _ ts na) (ch10 : @LT.lt Nat _ na tn) (cv1 : @LT.lt Nat _ vl ts) (hsub : ∀ p ∈ ((run, (⟨.ref 559, some drun, .plain, #[]⟩ : Obj)) :: (drun, dictOf [⟨PyData.keyHash w.params (Str.ofString "heap"), .str (Str.ofString "heap") r0, .ref hp⟩, ⟨PyData.keyHash w.params (Str.ofString "counter"), .str (Str.ofString "counter") r1, .ref ct⟩, ⟨PyData.keyHash w.params (Str.ofString "stash"), .str (Str.ofString "stash") r2, .ref st⟩, ⟨PyData.keyHash w.params (Str.ofString "limits"), .str (Str.ofString "limits") r3, .ref lm⟩, ⟨PyData.keyHash w.params (Str.ofString "nodes"), .str (Str.ofString "nodes") r4, .ref nd⟩, ⟨PyData.keyHash w.params (Str.ofString "lvs"), .str (Str.ofString "lvs") r5, .ref x5⟩, ⟨PyData.keyHash w.params (Str.ofString "statements"), .str (Str.ofString "statements") r6, .ref x6⟩, ⟨PyData.keyHash w.params (Str.ofString "funcs"), .str (Str.ofString "funcs") r7, .ref x7⟩, ⟨PyData.keyHash w.params (Str.ofString "operators"), .str (Str.ofString "operators") r8, .ref x8⟩, ⟨PyData.keyHash w.params (Str.ofString "out"), .str (Str.ofString "out") r9, .ref x9⟩, ⟨PyData.keyHash w.params (Str.ofString "err"), .str (Str.ofString "err") r10, .ref x10⟩, ⟨PyData.keyHash w.params (Str.ofString "saves"), .str (Str.ofString "saves") r11, .ref x11⟩, ⟨PyData.keyHash w.params (Str.ofString "frames"), .str (Str.ofString "frames") r12, .ref x12⟩, ⟨PyData.keyHash w.params (Str.ofString "match"), .str (Str.ofString "match") r13, .none⟩, ⟨PyData.keyHash w.params (Str.ofString "patterns"), .str (Str.ofString "patterns") r14, .ref x14⟩, ⟨PyData.keyHash w.params (Str.ofString "steps"), .str (Str.ofString "steps") r15, .int 0 q0⟩, ⟨PyData.keyHash w.params (Str.ofString "methods"), .str (Str.ofString "methods") r16, .ref mc⟩, ⟨PyData.keyHash w.params (Str.ofString "call_code"), .str (Str.ofString "call_code") r17, .none⟩, ⟨PyData.keyHash w.params (Str.ofString "compile_text"), .str (Str.ofString "compile_text") r18, .none⟩] nrun) :: (nd, ond) :: (fa, (⟨oca, oda, .func fda, sla⟩ : Obj)) :: (ca2, ocA) :: (fs, (⟨ocs, ods, .func fds, sls⟩ : Obj)) :: (ca1, ocS) :: (na, (⟨.type "tuple", none, .seq #[.str (Str.ofString "asked") tq], #[]⟩ : Obj)) :: (tn, (⟨.type "tuple", none, .seq #[.str (Str.ofString "method") tm, .ref na, .str (Str.ofString "go") tg, .ref ts, .none], #[]⟩ : Obj)) :: (ts, (⟨.type "tuple", none, .seq #[.str (Str.ofString "some") tso, .ref vl], #[]⟩ : Obj)) :: (vl, listOf vs.toArray n0) :: (lm, (⟨.ref 1076, some dlm, .plain, #[]⟩ : Obj)) :: (dlm, dictOf [⟨PyData.keyHash w.params (Str.ofString "width"), .str (Str.ofString "width") la, .int 64 na1⟩, ⟨PyData.keyHash w.params (Str.ofString "depth"), .str (Str.ofString "depth") lb, .int 50 nb⟩, ⟨PyData.keyHash w.params (Str.ofString "steps"), .str (Str.ofString "steps") lc, .int 1000000 nc⟩, ⟨PyData.keyHash w.params (Str.ofString "text"), .str (Str.ofString "text") ld, .int 100000 nd1⟩, ⟨PyData.keyHash w.params (Str.ofString "items"), .str (Str.ofString "items") le, .int bd ne⟩] nlm) :: []), p ∈ full)
    (k : ∀ h' tk e, DieAt base (envOf cn cs L ca ccd :: outer) s.heap e h' → R (.error (.ref e)) { s with heap := h', toks := tk }) :
    codeAny (model PySem.Challenge.rw_qz0130_01.row.prog w) (Around.mk none d (some (envOf cn cs L ca ccd :: outer)) gs u) (.call (.ref 917) ⟨[.ref run, .ref tn, .int 1 tw], []⟩) R s :=
  eval_die B F X₀ (news_sub N hsub) T hke hroom hun lo hnd hA hlen hS hbd ch0 ch1 ch2 ch3 ch4 ch5 ch6 ch7 ch8 ch9 ch10 cv1 k
end
section
theorem hz_head2 {x d : Addr} {o o2 : Obj} {l : List (Addr × Obj)} (h : ∀ p ∈ l, p.1 < d) (h2 : d < x) : ∀ p ∈ (x, o) :: (d, o2) :: l, @LE.le Nat _ p.1 x := fun p m => by
  rcases List.mem_cons.mp m with rfl | m
  · exact Nat.le_refl _
  rcases List.mem_cons.mp m with rfl | m
  · exact Nat.le_of_lt h2
  · exact Nat.le_of_lt (Nat.lt_trans (h p m) h2)
def set_code_new_S (w : World) (A₀ : Around) (base : Heap) (h₀ : Heap) (outer : List Env) (L : Addr) (m : Str → Option Value) (mg : Str → Option Value) (mb : Str → Option Value) (mean : ExcName → Option Value) (pT : Program) (looseT : List Str) (s : Shared) (R : Result → Shared → Prop) (env : Env) (d : Nat) (u : Nat) (gs : Option (List Code)) (st : Addr) (dst : Addr) (gl : Addr) (hp : Addr) (dhp : Addr) (lm : Addr) (zl : Addr) (ct : Addr) (dct : Addr) (pl : Addr) (em : Addr) (cd : Addr) (dcd : Addr) (cw : Addr) (cap : Addr) (fw : Addr) (z : Addr) (t : Tok) (s0 : Tok) (s1 : Tok) (s2 : Tok) (s3 : Tok) (e0 : Tok) (e1 : Tok) (e2 : Tok) (e3 : Tok) (f0 : Tok) (f1 : Tok) (f2 : Tok) (f3 : Tok) (c0 : Tok) (c1 : Tok) (c2 : Tok) (c3 : Tok) (c4 : Tok) (c5 : Tok) (c6 : Tok) (c7 : Tok) (c8 : Tok) (c9 : Tok) (c10 : Tok) (cx : Tok) (cy : Tok) (num : Int) (kn : Int) (cn : Int) (og : Obj) (oz : Obj) : Prop := ∀ (B : Below A₀ base outer h₀) (F : Fr h₀ L s.heap m) (X₀ : (hd.heap_1 w.params).In h₀) (N : News h₀ L s.heap ((st, (⟨.ref 1139, some dst, .plain, #[]⟩ : Obj)) :: (dst, dictOf [⟨PyData.keyHash w.params (Str.ofString "heap"), .str (Str.ofString "heap") s0, .ref hp⟩, ⟨PyData.keyHash w.params (Str.ofString "globs"), .str (Str.ofString "globs") s1, .ref gl⟩, ⟨PyData.keyHash w.params (Str.ofString "generation"), .str (Str.ofString "generation") s2, .int 0 s3⟩] 3) :: (gl, og) :: (hp, (⟨.ref 225, some dhp, .plain, #[]⟩ : Obj)) :: (dhp, dictOf [⟨PyData.keyHash w.params (Str.ofString "limits"), .str (Str.ofString "limits") e0, .ref lm⟩, ⟨PyData.keyHash w.params (Str.ofString "last"), .str (Str.ofString "last") e1, .int num e3⟩, ⟨PyData.keyHash w.params (Str.ofString "zero"), .str (Str.ofString "zero") e2, .ref zl⟩] 3) :: (ct, (⟨.ref 1054, some dct, .plain, #[]⟩ : Obj)) :: (dct, dictOf [⟨PyData.keyHash w.params (Str.ofString "heap"), .str (Str.ofString "heap") f0, .ref hp⟩, ⟨PyData.keyHash w.params (Str.ofString "destroy"), .str (Str.ofString "destroy") f1, .none⟩, ⟨PyData.keyHash w.params (Str.ofString "places"), .str (Str.ofString "places") f2, .ref pl⟩, ⟨PyData.keyHash w.params (Str.ofString "empties"), .str (Str.ofString "empties") f3, .ref em⟩] 4) :: (cd, (⟨.ref 123, some dcd, .plain, #[]⟩ : Obj)) :: (dcd, dictOf [⟨PyData.keyHash w.params (Str.ofString "number"), .str (Str.ofString "number") c0, .int cn cx⟩, ⟨PyData.keyHash w.params (Str.ofString "count"), .str (Str.ofString "count") c1, .int kn c10⟩, ⟨PyData.keyHash w.params (Str.ofString "blessed"), .str (Str.ofString "blessed") c2, .none⟩, ⟨PyData.keyHash w.params (Str.ofString "weak"), .str (Str.ofString "weak") c3, .ref cw⟩, ⟨PyData.keyHash w.params (Str.ofString "is_destroyed"), .str (Str.ofString "is_destroyed") c4, .bool false⟩, ⟨PyData.keyHash w.params (Str.ofString "is_freed"), .str (Str.ofString "is_freed") c5, .bool false⟩, ⟨PyData.keyHash w.params (Str.ofString "sub"), .str (Str.ofString "sub") c6, .none⟩, ⟨PyData.keyHash w.params (Str.ofString "captures"), .str (Str.ofString "captures") c7, .ref cap⟩, ⟨PyData.keyHash w.params (Str.ofString "builtin"), .str (Str.ofString "builtin") c8, .ref fw⟩, ⟨PyData.keyHash w.params (Str.ofString "package"), .str (Str.ofString "package") c9, .str (Str.ofString "main") cy⟩] 10) :: (z, oz) :: [])) (T : Top pT looseT mean mg mb h₀) (hke : env.scope.kind = .function ∧ env.frame = some L) (hroom : d < 800) (hun : u < 3000) (lo : (gl == sysModules) = false) (hog : og.IsDictOf (strKind PySem.Challenge.rw_qz0130_01.row.prog w) []) (ch0 : @LT.lt Nat _ dhp hp) (ch1 : @LT.lt Nat _ hp dct) (ch2 : @LT.lt Nat _ dct ct) (ch3 : @LT.lt Nat _ ct dst) (ch4 : @LT.lt Nat _ dst st) (ch5 : @LT.lt Nat _ st gl) (ch6 : @LT.lt Nat _ gl dcd) (ch7 : @LT.lt Nat _ dcd cd) (ch8 : @LT.lt Nat _ cd z) (k : ∀ h' tk s4 e4 c11 v0 v1 v2 v3 v4 v5 v6 v7 v8 v9 v10 v11 v12 v13 g1 dg wk og', Fr h₀ L h' m → News h₀ L h' ((dg, dictOf [⟨PyData.keyHash w.params (Str.ofString "number"), .str (Str.ofString "number") v0, .int (num + 1) v1⟩, ⟨PyData.keyHash w.params (Str.ofString "count"), .str (Str.ofString "count") v2, .int 0 v3⟩, ⟨PyData.keyHash w.params (Str.ofString "blessed"), .str (Str.ofString "blessed") v4, .none⟩, ⟨PyData.keyHash w.params (Str.ofString "weak"), .str (Str.ofString "weak") v5, .ref wk⟩, ⟨PyData.keyHash w.params (Str.ofString "is_destroyed"), .str (Str.ofString "is_destroyed") v6, .bool false⟩, ⟨PyData.keyHash w.params (Str.ofString "is_freed"), .str (Str.ofString "is_freed") v7, .bool false⟩, ⟨PyData.keyHash w.params (Str.ofString "name"), .str (Str.ofString "name") v8, .str (Str.ofString "P::go") v9⟩, ⟨PyData.keyHash w.params (Str.ofString "scalar"), .str (Str.ofString "scalar") v10, .none⟩, ⟨PyData.keyHash w.params (Str.ofString "array"), .str (Str.ofString "array") v11, .none⟩, ⟨PyData.keyHash w.params (Str.ofString "hash"), .str (Str.ofString "hash") v12, .none⟩, ⟨PyData.keyHash w.params (Str.ofString "code"), .str (Str.ofString "code") v13, .ref cd⟩] 11) :: (dst, dictOf [⟨PyData.keyHash w.params (Str.ofString "heap"), .str (Str.ofString "heap") s0, .ref hp⟩, ⟨PyData.keyHash w.params (Str.ofString "globs"), .str (Str.ofString "globs") s1, .ref gl⟩, ⟨PyData.keyHash w.params (Str.ofString "generation"), .str (Str.ofString "generation") s2, .int (0 + 1) s4⟩] 3) :: (dhp, dictOf [⟨PyData.keyHash w.params (Str.ofString "limits"), .str (Str.ofString "limits") e0, .ref lm⟩, ⟨PyData.keyHash w.params (Str.ofString "last"), .str (Str.ofString "last") e1, .int (num + 1) e4⟩, ⟨PyData.keyHash w.params (Str.ofString "zero"), .str (Str.ofString "zero") e2, .ref zl⟩] 3) :: (dcd, dictOf [⟨PyData.keyHash w.params (Str.ofString "number"), .str (Str.ofString "number") c0, .int cn cx⟩, ⟨PyData.keyHash w.params (Str.ofString "count"), .str (Str.ofString "count") c1, .int (kn + 1) c11⟩, ⟨PyData.keyHash w.params (Str.ofString "blessed"), .str (Str.ofString "blessed") c2, .none⟩, ⟨PyData.keyHash w.params (Str.ofString "weak"), .str (Str.ofString "weak") c3, .ref cw⟩, ⟨PyData.keyHash w.params (Str.ofString "is_destroyed"), .str (Str.ofString "is_destroyed") c4, .bool false⟩, ⟨PyData.keyHash w.params (Str.ofString "is_freed"), .str (Str.ofString "is_freed") c5, .bool false⟩, ⟨PyData.keyHash w.params (Str.ofString "sub"), .str (Str.ofString "sub") c6, .none⟩, ⟨PyData.keyHash w.params (Str.ofString "captures"), .str (Str.ofString "captures") c7, .ref cap⟩, ⟨PyData.keyHash w.params (Str.ofString "builtin"), .str (Str.ofString "builtin") c8, .ref fw⟩, ⟨PyData.keyHash w.params (Str.ofString "package"), .str (Str.ofString "package") c9, .str (Str.ofString "main") cy⟩] 10) :: (g1, (⟨.ref 142, some dg, .plain, #[]⟩ : Obj)) :: (wk, listOf #[] 0) :: (st, (⟨.ref 1139, some dst, .plain, #[]⟩ : Obj)) :: (gl, og') :: (hp, (⟨.ref 225, some dhp, .plain, #[]⟩ : Obj)) :: (ct, (⟨.ref 1054, some dct, .plain, #[]⟩ : Obj)) :: (dct, dictOf [⟨PyData.keyHash w.params (Str.ofString "heap"), .str (Str.ofString "heap") f0, .ref hp⟩, ⟨PyData.keyHash w.params (Str.ofString "destroy"), .str (Str.ofString "destroy") f1, .none⟩, ⟨PyData.keyHash w.params (Str.ofString "places"), .str (Str.ofString "places") f2, .ref pl⟩, ⟨PyData.keyHash w.params (Str.ofString "empties"), .str (Str.ofString "empties") f3, .ref em⟩] 4) :: (cd, (⟨.ref 123, some dcd, .plain, #[]⟩ : Obj)) :: (z, oz) :: []) → (∀ b o, s.heap.get? b = some o → b ∉ [st, dst, gl, hp, dhp, ct, dct, cd, dcd, z] → h'.get? b = some o) → og'.IsDictOf (strKind PySem.Challenge.rw_qz0130_01.row.prog w) [(Str.ofString "P::go", .ref g1)] → @LT.lt Nat _ z dg → @LT.lt Nat _ dg g1 → @LT.lt Nat _ g1 wk → R (.ok (.ret .none)) { s with heap := h', toks := tk }), codeAny (model PySem.Challenge.rw_qz0130_01.row.prog w) (Around.mk none d (some (env :: outer)) gs u) (.call (.ref 1157) ⟨[.ref st, .ref ct, .str (Str.ofString "P::go") t, .ref cd], []⟩) R s
def set_code_new_P (c : EC) : Prop := ∀ (num : Int) (kn : Int) (cn : Int), set_code_new_S (c.wo 0) (c.ar 0) (c.hp 0) (c.hp 1) (c.le 0) (c.ad 0) (c.mp 0) (c.mp 1) (c.mp 2) (c.en 0) (c.pg 0) (c.ls 0) (c.sh 0) (c.rs 0) (c.ev 0) (c.nt 0) (c.nt 1) (c.oc 0) (c.ad 1) (c.ad 2) (c.ad 3) (c.ad 4) (c.ad 5) (c.ad 6) (c.ad 7) (c.ad 8) (c.ad 9) (c.ad 10) (c.ad 11) (c.ad 12) (c.ad 13) (c.ad 14) (c.ad 15) (c.ad 16) (c.ad 17) (c.tk 0) (c.tk 1) (c.tk 2) (c.tk 3) (c.tk 4) (c.tk 5) (c.tk 6) (c.tk 7) (c.tk 8) (c.tk 9) (c.tk 10) (c.tk 11) (c.tk 12) (c.tk 13) (c.tk 14) (c.tk 15) (c.tk 16) (c.tk 17) (c.tk 18) (c.tk 19) (c.tk 20) (c.tk 21) (c.tk 22) (c.tk 23) (c.tk 24) (c.tk 25) num kn cn (c.ob 0) (c.ob 1)
@[irreducible] noncomputable def set_code_new_e : EC := @Classical.epsilon EC EC.ne fun c => ¬ set_code_new_P c
theorem set_code_new_eq : set_code_new_e = @Classical.epsilon EC EC.ne fun c => ¬ set_code_new_P c := by unfold set_code_new_e; rfl
theorem set_code_new_m : set_code_new_P set_code_new_e := by
  unfold set_code_new_P set_code_new_S
  intro num kn cn B F X₀ N T hke hroom hun lo hog ch0 ch1 ch2 ch3 ch4 ch5 ch6 ch7 ch8 k
  have sd0 := sd_cons (sd_cons (sd_cons (sd_cons (sd_cons (sd_cons (sd_cons (sd_cons (sd_cons (sd_one _) ch0) ch1) ch2) ch3) ch4) ch5) ch6) ch7) ch8
  revert X₀
  k_fill
  intro X₀
  refine' code_keepF B F X₀ N T rfl hke.2 hke.1 ?k6 ?k7 ?k8 ?kn ?k9 ?kB ?_ ?c2 ?c3 ?c4 ?c5
  case k6 => k_is
  case k7 => k_is
  case k8 => k_room
  case k9 => exact BindsTo.of_eq rfl
  case kB => exact locs rfl
  case kn => first | exact (rfl : _ = 1) | exact (rfl : _ = 2) | exact (rfl : _ = 3) | exact (rfl : _ = 4) | exact (rfl : _ = 5) | exact (rfl : _ = 6) | exact (rfl : _ = 7)
  case c2 => exact rfl
  case c3 => exact rfl
  case c4 => exact rfl
  case c5 => decide
  intro h' FG' F' N' B' X' T' hkeep
  clear B F X₀ N T
  (try dsimp only)
  repeat' (first | (k_unfold; (try dsimp only)) | (k_end; wrow_close) | (with_reducible ((with_reducible show wpAny _ _ (setAttr (Value.ref _) _ _) _ _ _); k_dflt (refine' set_dictT ?k1q ?k2q ?k3q ?k4q ?k5q ?k6q ?k7q ?k8q ?k9q ?k10q ?k11q ?k12q ?k13q ?_; (case k1q => k_asm); (case k2q => k_asm); (case k3q => k_asm); (case k4q => k_inst); (case k5q => exact rfl); (case k6q => k_is); (case k7q => k_is); (case k8q => k_is); (case k9q => k_is); (case k10q => k_get); (case k11q => k_put); (case k12q => k_upd); (case k13q => exact Nat.le_of_ble_eq_true rfl); k_whole; intro h'9 F'9 N'9; (try k_sweep)))) | ((with_reducible show wpAny _ _ (call (Value.ref _) _ _) _ _ _); k_dflt (first
  | ((with_reducible show wpAny _ _ (call (Value.ref 142) _ _) _ _ _); refine' call_cls ?k1 ?k2 ?k3 ?k4 ?k5 ?k6 ?_; (case k1 => k_asm); (case k2 => k_asm); (case k3 => k_asm); (case k4 => k_is); (case k5 => k_is); (case k6 => k_is); k_whole; intro x'9 d'9 h'9 F'9 N'9 l19 l29; (try k_lt l19); (try k_lt2 l29); (try k_sweep); refine' init_glob_use ?fB ?fF ?fX ?fN ?fT ?fk ?fd ?fu ?hxd ?U ?hz ?hsub ?_; (case fN => k_asm); (case hsub => k_allIn); (case hxd => exact Nat.ne_of_gt (by with_reducible assumption)); (case U => k_updF); (case hz => first | exact hz_head2 (by with_reducible assumption) (by with_reducible assumption) | (repeat' (first | exact List.forall_mem_nil _ | (refine List.forall_mem_cons.mpr ⟨by (try dsimp only); walk_at "ord", ?_⟩)))); (case fB => k_asm); (case fF => k_asm); (case fX => k_asm); (case fT => k_asm); (case fk => exact ⟨rfl, rfl⟩); (case fd => ((try simp only [wt_make, depth_under_make, depth_under_kw, depth_in1, depth_deeper, depth_caller]); (try dsimp only [Around.deeper, Around.in1, Around.mark]); first | walk_at "room" | decide)); (case fu => ((try simp only [cu_make]); (try dsimp only [Around.deeper, Around.in1, Around.mark]); walk_at "room")); k_whole; intro h'9 tk9 u09 u19 w19 u29 u39 u49 u59 u69 u79 u89 u99 u109 a39  F'9 N'9 l09 ; (try dsimp only at N'9); (try k_lt l09); (try dsimp only [InitBack]); (try refine ⟨rfl, ?_⟩); (try dsimp only); (try k_sweep)))) | (walk1; (try (with_reducible refine tok3 ?_; intro tk))) | dsimp only | (leave1; (try dsimp only)) | fail "no step")
  all_goals (try dsimp only)
  all_goals (refine' leaveK_ ?k1 ?k2 ?_; (case k1 => assumption); (case k2 => assumption); intro kF kN)
  all_goals (have hkeep' := fun b o e q => Fr.keep (by assumption : Fr (gOf _ _) (LOf _) _ _) b o (hkeep b o e q))
  all_goals (refine k _ _ _ _ _ _ _ _ _ _ _ _ _ _ _ _ _ _ _ _ _ _ _ kF (news_sub kN (by k_allIn)) hkeep' (by assumption) (by walk_at "ord") (by walk_at "ord") (by walk_at "ord"))
theorem set_code_new {w : World} {A₀ : Around} {base : Heap} {h₀ : Heap} {outer : List Env} {L : Addr} {m : Str → Option Value} {mg : Str → Option Value} {mb : Str → Option Value} {mean : ExcName → Option Value} {pT : Program} {looseT : List Str} {s : Shared} {R : Result → Shared → Prop} {env : Env} {d : Nat} {u : Nat} {gs : Option (List Code)} {st : Addr} {dst : Addr} {gl : Addr} {hp : Addr} {dhp : Addr} {lm : Addr} {zl : Addr} {ct : Addr} {dct : Addr} {pl : Addr} {em : Addr} {cd : Addr} {dcd : Addr} {cw : Addr} {cap : Addr} {fw : Addr} {z : Addr} {t : Tok} {s0 : Tok} {s1 : Tok} {s2 : Tok} {s3 : Tok} {e0 : Tok} {e1 : Tok} {e2 : Tok} {e3 : Tok} {f0 : Tok} {f1 : Tok} {f2 : Tok} {f3 : Tok} {c0 : Tok} {c1 : Tok} {c2 : Tok} {c3 : Tok} {c4 : Tok} {c5 : Tok} {c6 : Tok} {c7 : Tok} {c8 : Tok} {c9 : Tok} {c10 : Tok} {cx : Tok} {cy : Tok} {num : Int} {kn : Int} {cn : Int} {og : Obj} {oz : Obj} : set_code_new_S w A₀ base h₀ outer L m mg mb mean pT looseT s R env d u gs st dst gl hp dhp lm zl ct dct pl em cd dcd cw cap fw z t s0 s1 s2 s3 e0 e1 e2 e3 f0 f1 f2 f3 c0 c1 c2 c3 c4 c5 c6 c7 c8 c9 c10 cx cy num kn cn og oz := @ec_all set_code_new_P (set_code_new_eq ▸ set_code_new_m) { wo := fun n => [w].getD n (aWorld 1), ar := fun n => [A₀].getD n (callerA), hp := fun n => [base, h₀].getD n (default), le := fun n => [outer].getD n ([]), ad := fun n => [L, st, dst, gl, hp, dhp, lm, zl, ct, dct, pl, em, cd, dcd, cw, cap, fw, z].getD n (0), mp := fun n => [m, mg, mb].getD n (fun _ => none), en := fun n => [mean].getD n (fun _ => none), pg := fun n => [pT].getD n (default), ls := fun n => [looseT].getD n ([]), sh := fun n => [s].getD n ⟨default, #[], {}, 0, {}⟩, rs := fun n => [R].getD n (fun _ _ => True), sr := fun _ => (default), sc := fun _ => (default), va := fun _ => (.none), nt := fun n => [d, u].getD n (0), oc := fun n => [gs].getD n (none), tk := fun n => [t, s0, s1, s2, s3, e0, e1, e2, e3, f0, f1, f2, f3, c0, c1, c2, c3, c4, c5, c6, c7, c8, c9, c10, cx, cy].getD n (0), ob := fun n => [og, oz].getD n (default), iz := fun _ => (0), lv := fun _ => ([]), ll := fun _ => ([]), oa := fun _ => (none), fd := fun _ => (default), av := fun _ => (#[]), li := fun _ => ([]), aw := fun _ => (#[]), ev := fun n => [env].getD n (default) } num kn cn
theorem set_code_new_use {w : World} {A₀ : Around} {base h₀ : Heap} {outer : List Env} {L : Addr} {m mg mb : Str → Option Value} {mean : ExcName → Option Value} {pT : Program} {looseT : List Str} {s : Shared} {R : Result → Shared → Prop}
    {env : Env} {d u : Nat} {gs : Option (List Code)}
    {st dst gl hp dhp lm zl ct dct pl em cd dcd cw cap fw z : Addr} {t s0 s1 s2 s3 e0 e1 e2 e3 f0 f1 f2 f3 c0 c1 c2 c3 c4 c5 c6 c7 c8 c9 c10 cx cy : Tok} {num kn cn : Int} {og oz : Obj} {gA : Obj → List (Addr × Obj)} {gB : Obj → Obj → List (Addr × Obj)} {gC : Obj → Obj → Obj → List (Addr × Obj)} {gD : Obj → Obj → Obj → Obj → List (Addr × Obj)} {full : List (Addr × Obj)}
    (B : Below A₀ base outer h₀) (F : Fr h₀ L s.heap m) (X₀ : (hd.heap_1 w.params).In h₀) (N : News h₀ L s.heap full) (T : Top pT looseT mean mg mb h₀)
    (hke : env.scope.kind = .function ∧ env.frame = some L) (hroom : d < 800) (hun : u < 3000)
    (lo : (gl == sysModules) = false) (hog : og.IsDictOf (strKind PySem.Challenge.rw_qz0130_01.row.prog w) []) (ch0 : @LT.lt Nat _ dhp hp) (ch1 : @LT.lt Nat _ hp dct) (ch2 : @LT.lt Nat _ dct ct) (ch3 : @LT.lt Nat _ ct dst) (ch4 : @LT.lt Nat _ dst st) (ch5 : @LT.lt Nat _ st gl) (ch6 : @LT.lt Nat _ gl dcd) (ch7 : @LT.lt Nat _ dcd cd) (ch8 : @LT.lt Nat _ cd z) (hsub : ∀ p ∈ ((st, (⟨.ref 1139, some dst, .plain, #[]⟩ : Obj)) :: (dst, dictOf [⟨PyData.keyHash w.params (Str.ofString "heap"), .str (Str.ofString "heap") s0, .ref hp⟩, ⟨PyData.keyHash w.params (Str.ofString "globs"), .str (Str.ofString "globs") s1, .ref gl⟩, ⟨PyData.keyHash w.params (Str.ofString "generation"), .str (Str.ofString "generation") s2, .int 0 s3⟩] 3) :: (gl, og) :: (hp, (⟨.ref 225, some dhp, .plain, #[]⟩ : Obj)) :: (dhp, dictOf [⟨PyData.keyHash w.params (Str.ofString "limits"), .str (Str.ofString "limits") e0, .ref lm⟩, ⟨PyData.keyHash w.params (Str.ofString "last"), .str (Str.ofString "last") e1, .int num e3⟩, ⟨PyData.keyHash w.params (Str.ofString "zero"), .str (Str.ofString "zero") e2, .ref zl⟩] 3) :: (ct, (⟨.ref 1054, some dct, .plain, #[]⟩ : Obj)) :: (dct, dictOf [⟨PyData.keyHash w.params (Str.ofString "heap"), .str (Str.ofString "heap") f0, .ref hp⟩, ⟨PyData.keyHash w.params (Str.ofString "destroy"), .str (Str.ofString "destroy") f1, .none⟩, ⟨PyData.keyHash w.params (Str.ofString "places"), .str (Str.ofString "places") f2, .ref pl⟩, ⟨PyData.keyHash w.params (Str.ofString "empties"), .str (Str.ofString "empties") f3, .ref em⟩] 4) :: (cd, (⟨.ref 123, some dcd, .plain, #[]⟩ : Obj)) :: (dcd, dictOf [⟨PyData.keyHash w.params (Str.ofString "number"), .str (Str.ofString "number") c0, .int cn cx⟩, ⟨PyData.keyHash w.params (Str.ofString "count"), .str (Str.ofString "count") c1, .int kn c10⟩, ⟨PyData.keyHash w.params (Str.ofString "blessed"), .str (Str.ofString "blessed") c2, .none⟩, ⟨PyData.keyHash w.params (Str.ofString "weak"), .str (Str.ofString "weak") c3, .ref cw⟩, ⟨PyData.keyHash w.params (Str.ofString "is_destroyed"), .str (Str.ofString "is_destroyed") c4, .bool false⟩, ⟨PyData.keyHash w.params (Str.ofString "is_freed"), .str (Str.ofString "is_freed") c5, .bool false⟩, ⟨PyData.keyHash w.params (Str.ofString "sub"), .str (Str.ofString "sub") c6, .none⟩, ⟨PyData.keyHash w.params (Str.ofString "captures"), .str (Str.ofString "captures") c7, .ref cap⟩, ⟨PyData.keyHash w.params (Str.ofString "builtin"), .str (Str.ofString "builtin") c8, .ref fw⟩, ⟨PyData.keyHash w.params (Str.ofString "package"), .str (Str.ofString "package") c9, .str (Str.ofString "main") cy⟩] 10) :: (z, oz) :: []), p ∈ full) (U1 : UpdF dst (dictOf [⟨PyData.keyHash w.params (Str.ofString "heap"), .str (Str.ofString "heap") s0, .ref hp⟩, ⟨PyData.keyHash w.params (Str.ofString "globs"), .str (Str.ofString "globs") s1, .ref gl⟩, ⟨PyData.keyHash w.params (Str.ofString "generation"), .str (Str.ofString "generation") s2, .int 0 s3⟩] 3) full gA) (U2 : ∀ a, UpdF gl og (gA a) (gB a)) (U3 : ∀ a b, UpdF dhp (dictOf [⟨PyData.keyHash w.params (Str.ofString "limits"), .str (Str.ofString "limits") e0, .ref lm⟩, ⟨PyData.keyHash w.params (Str.ofString "last"), .str (Str.ofString "last") e1, .int num e3⟩, ⟨PyData.keyHash w.params (Str.ofString "zero"), .str (Str.ofString "zero") e2, .ref zl⟩] 3) (gB a b) (gC a b)) (U4 : ∀ a b c, UpdF dcd (dictOf [⟨PyData.keyHash w.params (Str.ofString "number"), .str (Str.ofString "number") c0, .int cn cx⟩, ⟨PyData.keyHash w.params (Str.ofString "count"), .str (Str.ofString "count") c1, .int kn c10⟩, ⟨PyData.keyHash w.params (Str.ofString "blessed"), .str (Str.ofString "blessed") c2, .none⟩, ⟨PyData.keyHash w.params (Str.ofString "weak"), .str (Str.ofString "weak") c3, .ref cw⟩, ⟨PyData.keyHash w.params (Str.ofString "is_destroyed"), .str (Str.ofString "is_destroyed") c4, .bool false⟩, ⟨PyData.keyHash w.params (Str.ofString "is_freed"), .str (Str.ofString "is_freed") c5, .bool false⟩, ⟨PyData.keyHash w.params (Str.ofString "sub"), .str (Str.ofString "sub") c6, .none⟩, ⟨PyData.keyHash w.params (Str.ofString "captures"), .str (Str.ofString "captures") c7, .ref cap⟩, ⟨PyData.keyHash w.params (Str.ofString "builtin"), .str (Str.ofString "builtin") c8, .ref fw⟩, ⟨PyData.keyHash w.params (Str.ofString "package"), .str (Str.ofString "package") c9, .str (Str.ofString "main") cy⟩] 10) (gC a b c) (gD a b c)) (hz : ∀ p ∈ full, @LE.le Nat _ p.1 z)
    (k : ∀ h' tk s4 e4 c11 v0 v1 v2 v3 v4 v5 v6 v7 v8 v9 v10 v11 v12 v13 g1 dg wk og', Fr h₀ L h' m → News h₀ L h' ((wk, listOf #[] 0) :: (g1, (⟨.ref 142, some dg, .plain, #[]⟩ : Obj)) :: (dg, dictOf [⟨PyData.keyHash w.params (Str.ofString "number"), .str (Str.ofString "number") v0, .int (num + 1) v1⟩, ⟨PyData.keyHash w.params (Str.ofString "count"), .str (Str.ofString "count") v2, .int 0 v3⟩, ⟨PyData.keyHash w.params (Str.ofString "blessed"), .str (Str.ofString "blessed") v4, .none⟩, ⟨PyData.keyHash w.params (Str.ofString "weak"), .str (Str.ofString "weak") v5, .ref wk⟩, ⟨PyData.keyHash w.params (Str.ofString "is_destroyed"), .str (Str.ofString "is_destroyed") v6, .bool false⟩, ⟨PyData.keyHash w.params (Str.ofString "is_freed"), .str (Str.ofString "is_freed") v7, .bool false⟩, ⟨PyData.keyHash w.params (Str.ofString "name"), .str (Str.ofString "name") v8, .str (Str.ofString "P::go") v9⟩, ⟨PyData.keyHash w.params (Str.ofString "scalar"), .str (Str.ofString "scalar") v10, .none⟩, ⟨PyData.keyHash w.params (Str.ofString "array"), .str (Str.ofString "array") v11, .none⟩, ⟨PyData.keyHash w.params (Str.ofString "hash"), .str (Str.ofString "hash") v12, .none⟩, ⟨PyData.keyHash w.params (Str.ofString "code"), .str (Str.ofString "code") v13, .ref cd⟩] 11) :: gD (dictOf [⟨PyData.keyHash w.params (Str.ofString "heap"), .str (Str.ofString "heap") s0, .ref hp⟩, ⟨PyData.keyHash w.params (Str.ofString "globs"), .str (Str.ofString "globs") s1, .ref gl⟩, ⟨PyData.keyHash w.params (Str.ofString "generation"), .str (Str.ofString "generation") s2, .int (0 + 1) s4⟩] 3) og' (dictOf [⟨PyData.keyHash w.params (Str.ofString "limits"), .str (Str.ofString "limits") e0, .ref lm⟩, ⟨PyData.keyHash w.params (Str.ofString "last"), .str (Str.ofString "last") e1, .int (num + 1) e4⟩, ⟨PyData.keyHash w.params (Str.ofString "zero"), .str (Str.ofString "zero") e2, .ref zl⟩] 3) (dictOf [⟨PyData.keyHash w.params (Str.ofString "number"), .str (Str.ofString "number") c0, .int cn cx⟩, ⟨PyData.keyHash w.params (Str.ofString "count"), .str (Str.ofString "count") c1, .int (kn + 1) c11⟩, ⟨PyData.keyHash w.params (Str.ofString "blessed"), .str (Str.ofString "blessed") c2, .none⟩, ⟨PyData.keyHash w.params (Str.ofString "weak"), .str (Str.ofString "weak") c3, .ref cw⟩, ⟨PyData.keyHash w.params (Str.ofString "is_destroyed"), .str (Str.ofString "is_destroyed") c4, .bool false⟩, ⟨PyData.keyHash w.params (Str.ofString "is_freed"), .str (Str.ofString "is_freed") c5, .bool false⟩, ⟨PyData.keyHash w.params (Str.ofString "sub"), .str (Str.ofString "sub") c6, .none⟩, ⟨PyData.keyHash w.params (Str.ofString "captures"), .str (Str.ofString "captures") c7, .ref cap⟩, ⟨PyData.keyHash w.params (Str.ofString "builtin"), .str (Str.ofString "builtin") c8, .ref fw⟩, ⟨PyData.keyHash w.params (Str.ofString "package"), .str (Str.ofString "package") c9, .str (Str.ofString "main") cy⟩] 10)) → og'.IsDictOf (strKind PySem.Challenge.rw_qz0130_01.row.prog w) [(Str.ofString "P::go", .ref g1)] → (∀ p ∈ full, p.1 < dg) → @LT.lt Nat _ dg g1 → @LT.lt Nat _ g1 wk → R (.ok (.ret .none)) { s with heap := h', toks := tk }) :
    codeAny (model PySem.Challenge.rw_qz0130_01.row.prog w) (Around.mk none d (some (env :: outer)) gs u) (.call (.ref 1157) ⟨[.ref st, .ref ct, .str (Str.ofString "P::go") t, .ref cd], []⟩) R s :=
  set_code_new B F X₀ (news_sub N hsub) T hke hroom hun lo hog ch0 ch1 ch2 ch3 ch4 ch5 ch6 ch7 ch8 fun h' tk s4 e4 c11 v0 v1 v2 v3 v4 v5 v6 v7 v8 v9 v10 v11 v12 v13 g1 dg wk og' F' N' K hd' l1 l2 l3 => by
    have C : Chg h' [dst, gl, dhp, dcd] full _ := .step U1 (N' (dst, dictOf [⟨PyData.keyHash w.params (Str.ofString "heap"), .str (Str.ofString "heap") s0, .ref hp⟩, ⟨PyData.keyHash w.params (Str.ofString "globs"), .str (Str.ofString "globs") s1, .ref gl⟩, ⟨PyData.keyHash w.params (Str.ofString "generation"), .str (Str.ofString "generation") s2, .int (0 + 1) s4⟩] 3) (by k_mem)).1 (.step (U2 _) (N' (gl, og') (by k_mem)).1 (.step (U3 _ _) (N' (dhp, dictOf [⟨PyData.keyHash w.params (Str.ofString "limits"), .str (Str.ofString "limits") e0, .ref lm⟩, ⟨PyData.keyHash w.params (Str.ofString "last"), .str (Str.ofString "last") e1, .int (num + 1) e4⟩, ⟨PyData.keyHash w.params (Str.ofString "zero"), .str (Str.ofString "zero") e2, .ref zl⟩] 3) (by k_mem)).1 (.step (U4 _ _ _) (N' (dcd, dictOf [⟨PyData.keyHash w.params (Str.ofString "number"), .str (Str.ofString "number") c0, .int cn cx⟩, ⟨PyData.keyHash w.params (Str.ofString "count"), .str (Str.ofString "count") c1, .int (kn + 1) c11⟩, ⟨PyData.keyHash w.params (Str.ofString "blessed"), .str (Str.ofString "blessed") c2, .none⟩, ⟨PyData.keyHash w.params (Str.ofString "weak"), .str (Str.ofString "weak") c3, .ref cw⟩, ⟨PyData.keyHash w.params (Str.ofString "is_destroyed"), .str (Str.ofString "is_destroyed") c4, .bool false⟩, ⟨PyData.keyHash w.params (Str.ofString "is_freed"), .str (Str.ofString "is_freed") c5, .bool false⟩, ⟨PyData.keyHash w.params (Str.ofString "sub"), .str (Str.ofString "sub") c6, .none⟩, ⟨PyData.keyHash w.params (Str.ofString "captures"), .str (Str.ofString "captures") c7, .ref cap⟩, ⟨PyData.keyHash w.params (Str.ofString "builtin"), .str (Str.ofString "builtin") c8, .ref fw⟩, ⟨PyData.keyHash w.params (Str.ofString "package"), .str (Str.ofString "package") c9, .str (Str.ofString "main") cy⟩] 10) (by k_mem)).1 .nil)))
    have K2 := keep_chg (ds := [dst, gl, dhp, dcd]) (news_sub N hsub) K (by repeat' (first | exact List.forall_mem_nil _ | (refine List.forall_mem_cons.mpr ⟨by first | exact .inl (.head _) | exact .inl (.tail _ (.head _)) | exact .inl (.tail _ (.tail _ (.head _))) | exact .inl (.tail _ (.tail _ (.tail _ (.head _)))) | exact .inr (N' _ (by k_mem)).1, ?_⟩)))
    exact k h' tk s4 e4 c11 v0 v1 v2 v3 v4 v5 v6 v7 v8 v9 v10 v11 v12 v13 g1 dg wk og' F' (news_two (a := (wk, listOf #[] 0) :: (g1, (⟨.ref 142, some dg, .plain, #[]⟩ : Obj)) :: (dg, dictOf [⟨PyData.keyHash w.params (Str.ofString "number"), .str (Str.ofString "number") v0, .int (num + 1) v1⟩, ⟨PyData.keyHash w.params (Str.ofString "count"), .str (Str.ofString "count") v2, .int 0 v3⟩, ⟨PyData.keyHash w.params (Str.ofString "blessed"), .str (Str.ofString "blessed") v4, .none⟩, ⟨PyData.keyHash w.params (Str.ofString "weak"), .str (Str.ofString "weak") v5, .ref wk⟩, ⟨PyData.keyHash w.params (Str.ofString "is_destroyed"), .str (Str.ofString "is_destroyed") v6, .bool false⟩, ⟨PyData.keyHash w.params (Str.ofString "is_freed"), .str (Str.ofString "is_freed") v7, .bool false⟩, ⟨PyData.keyHash w.params (Str.ofString "name"), .str (Str.ofString "name") v8, .str (Str.ofString "P::go") v9⟩, ⟨PyData.keyHash w.params (Str.ofString "scalar"), .str (Str.ofString "scalar") v10, .none⟩, ⟨PyData.keyHash w.params (Str.ofString "array"), .str (Str.ofString "array") v11, .none⟩, ⟨PyData.keyHash w.params (Str.ofString "hash"), .str (Str.ofString "hash") v12, .none⟩, ⟨PyData.keyHash w.params (Str.ofString "code"), .str (Str.ofString "code") v13, .ref cd⟩] 11) :: []) (news_sub N' (by k_allIn)) (news_chg N C K2)) hd' (fun p hp => Nat.lt_of_le_of_lt (hz p hp) l1) l2 l3
end
section
def array_of_new_S (w : World) (A₀ : Around) (base : Heap) (h₀ : Heap) (outer : List Env) (L : Addr) (m : Str → Option Value) (mg : Str → Option Value) (mb : Str → Option Value) (mean : ExcName → Option Value) (pT : Program) (looseT : List Str) (s : Shared) (R : Result → Shared → Prop) (env : Env) (d : Nat) (u : Nat) (gs : Option (List Code)) (st : Addr) (dst : Addr) (gl : Addr) (hp : Addr) (dhp : Addr) (lm : Addr) (zl : Addr) (z : Addr) (g1 : Addr) (t : Tok) (s0 : Tok) (s1 : Tok) (s2 : Tok) (s3 : Tok) (e0 : Tok) (e1 : Tok) (e2 : Tok) (e3 : Tok) (num : Int) (gn : Int) (og : Obj) (oz : Obj) : Prop := ∀ (B : Below A₀ base outer h₀) (F : Fr h₀ L s.heap m) (X₀ : (hd.heap_1 w.params).In h₀) (N : News h₀ L s.heap ((st, (⟨.ref 1139, some dst, .plain, #[]⟩ : Obj)) :: (dst, dictOf [⟨PyData.keyHash w.params (Str.ofString "heap"), .str (Str.ofString "heap") s0, .ref hp⟩, ⟨PyData.keyHash w.params (Str.ofString "globs"), .str (Str.ofString "globs") s1, .ref gl⟩, ⟨PyData.keyHash w.params (Str.ofString "generation"), .str (Str.ofString "generation") s2, .int gn s3⟩] 3) :: (gl, og) :: (hp, (⟨.ref 225, some dhp, .plain, #[]⟩ : Obj)) :: (dhp, dictOf [⟨PyData.keyHash w.params (Str.ofString "limits"), .str (Str.ofString "limits") e0, .ref lm⟩, ⟨PyData.keyHash w.params (Str.ofString "last"), .str (Str.ofString "last") e1, .int num e3⟩, ⟨PyData.keyHash w.params (Str.ofString "zero"), .str (Str.ofString "zero") e2, .ref zl⟩] 3) :: (z, oz) :: [])) (T : Top pT looseT mean mg mb h₀) (hke : env.scope.kind = .function ∧ env.frame = some L) (hroom : d < 800) (hun : u < 3000) (lo : (gl == sysModules) = false) (hog : og.IsDictOf (strKind PySem.Challenge.rw_qz0130_01.row.prog w) [(Str.ofString "P::go", .ref g1)]) (ch0 : @LT.lt Nat _ dhp hp) (ch1 : @LT.lt Nat _ hp dst) (ch2 : @LT.lt Nat _ dst st) (ch3 : @LT.lt Nat _ st gl) (ch4 : @LT.lt Nat _ gl z) (k : ∀ h' tk e4 ar g0 og', Fr h₀ L h' m → News h₀ L h' ((dhp, dictOf [⟨PyData.keyHash w.params (Str.ofString "limits"), .str (Str.ofString "limits") e0, .ref lm⟩, ⟨PyData.keyHash w.params (Str.ofString "last"), .str (Str.ofString "last") e1, .int (num + 1 + 1) e4⟩, ⟨PyData.keyHash w.params (Str.ofString "zero"), .str (Str.ofString "zero") e2, .ref zl⟩] 3) :: (st, (⟨.ref 1139, some dst, .plain, #[]⟩ : Obj)) :: (dst, dictOf [⟨PyData.keyHash w.params (Str.ofString "heap"), .str (Str.ofString "heap") s0, .ref hp⟩, ⟨PyData.keyHash w.params (Str.ofString "globs"), .str (Str.ofString "globs") s1, .ref gl⟩, ⟨PyData.keyHash w.params (Str.ofString "generation"), .str (Str.ofString "generation") s2, .int gn s3⟩] 3) :: (gl, og') :: (hp, (⟨.ref 225, some dhp, .plain, #[]⟩ : Obj)) :: (z, oz) :: []) → (∀ b o, s.heap.get? b = some o → b ∉ [st, dst, gl, hp, dhp, z] → h'.get? b = some o) → og'.IsDictOf (strKind PySem.Challenge.rw_qz0130_01.row.prog w) [(Str.ofString "P::go", .ref g1), (Str.ofString "main::_", .ref g0)] → R (.ok (.ret (.ref ar))) { s with heap := h', toks := tk }), codeAny (model PySem.Challenge.rw_qz0130_01.row.prog w) (Around.mk none d (some (env :: outer)) gs u) (.call (.ref 1115) ⟨[.ref st, .str (Str.ofString "main::_") t], []⟩) R s
def array_of_new_P (c : EC) : Prop := ∀ (num : Int) (gn : Int), array_of_new_S (c.wo 0) (c.ar 0) (c.hp 0) (c.hp 1) (c.le 0) (c.ad 0) (c.mp 0) (c.mp 1) (c.mp 2) (c.en 0) (c.pg 0) (c.ls 0) (c.sh 0) (c.rs 0) (c.ev 0) (c.nt 0) (c.nt 1) (c.oc 0) (c.ad 1) (c.ad 2) (c.ad 3) (c.ad 4) (c.ad 5) (c.ad 6) (c.ad 7) (c.ad 8) (c.ad 9) (c.tk 0) (c.tk 1) (c.tk 2) (c.tk 3) (c.tk 4) (c.tk 5) (c.tk 6) (c.tk 7) (c.tk 8) num gn (c.ob 0) (c.ob 1)
@[irreducible] noncomputable def array_of_new_e : EC := @Classical.epsilon EC EC.ne fun c => ¬ array_of_new_P c
theorem array_of_new_eq : array_of_new_e = @Classical.epsilon EC EC.ne fun c => ¬ array_of_new_P c := by unfold array_of_new_e; rfl
theorem array_of_new_m : array_of_new_P array_of_new_e := by
  unfold array_of_new_P array_of_new_S
  intro num gn B F X₀ N T hke hroom hun lo hog ch0 ch1 ch2 ch3 ch4 k
  have sd0 := sd_cons (sd_cons (sd_cons (sd_cons (sd_cons (sd_one _) ch0) ch1) ch2) ch3) ch4
  revert X₀
  k_fill
  intro X₀
  refine' code_keepF B F X₀ N T rfl hke.2 hke.1 ?k6 ?k7 ?k8 ?kn ?k9 ?kB ?_ ?c2 ?c3 ?c4 ?c5
  case k6 => k_is
  case k7 => k_is
  case k8 => k_room
  case k9 => exact BindsTo.of_eq rfl
  case kB => exact locs rfl
  case kn => first | exact (rfl : _ = 1) | exact (rfl : _ = 2) | exact (rfl : _ = 3) | exact (rfl : _ = 4) | exact (rfl : _ = 5) | exact (rfl : _ = 6) | exact (rfl : _ = 7)
  case c2 => exact rfl
  case c3 => exact rfl
  case c4 => exact rfl
  case c5 => decide
  intro h' FG' F' N' B' X' T' hkeep
  clear B F X₀ N T
  (try dsimp only)
  repeat' (first | (k_unfold; (try dsimp only)) | (k_end; wrow_close) | (with_reducible ((with_reducible show wpAny _ _ (setAttr (Value.ref _) _ _) _ _ _); k_dflt (refine' set_dictT ?k1q ?k2q ?k3q ?k4q ?k5q ?k6q ?k7q ?k8q ?k9q ?k10q ?k11q ?k12q ?k13q ?_; (case k1q => k_asm); (case k2q => k_asm); (case k3q => k_asm); (case k4q => k_inst); (case k5q => exact rfl); (case k6q => k_is); (case k7q => k_is); (case k8q => k_is); (case k9q => k_is); (case k10q => k_get); (case k11q => k_put); (case k12q => k_upd); (case k13q => exact Nat.le_of_ble_eq_true rfl); k_whole; intro h'9 F'9 N'9; (try k_sweep)))) | ((with_reducible show wpAny _ _ (call (Value.ref _) _ _) _ _ _); k_dflt (first
  | ((with_reducible show wpAny _ _ (call (Value.ref 142) _ _) _ _ _); refine' call_cls ?k1 ?k2 ?k3 ?k4 ?k5 ?k6 ?_; (case k1 => k_asm); (case k2 => k_asm); (case k3 => k_asm); (case k4 => k_is); (case k5 => k_is); (case k6 => k_is); k_whole; intro x'9 d'9 h'9 F'9 N'9 l19 l29; (try k_lt l19); (try k_lt2 l29); (try k_sweep); refine' init_glob_use ?fB ?fF ?fX ?fN ?fT ?fk ?fd ?fu ?hxd ?U ?hz ?hsub ?_; (case fN => k_asm); (case hsub => k_allIn); (case hxd => exact Nat.ne_of_gt (by with_reducible assumption)); (case U => k_updF); (case hz => first | exact hz_head2 (by with_reducible assumption) (by with_reducible assumption) | (repeat' (first | exact List.forall_mem_nil _ | (refine List.forall_mem_cons.mpr ⟨by (try dsimp only); walk_at "ord", ?_⟩)))); (case fB => k_asm); (case fF => k_asm); (case fX => k_asm); (case fT => k_asm); (case fk => exact ⟨rfl, rfl⟩); (case fd => ((try simp only [wt_make, depth_under_make, depth_under_kw, depth_in1, depth_deeper, depth_caller]); (try dsimp only [Around.deeper, Around.in1, Around.mark]); first | walk_at "room" | decide)); (case fu => ((try simp only [cu_make]); (try dsimp only [Around.deeper, Around.in1, Around.mark]); walk_at "room")); k_whole; intro h'9 tk9 u09 u19 w19 u29 u39 u49 u59 u69 u79 u89 u99 u109 a39  F'9 N'9 l09 ; (try dsimp only at N'9); (try k_lt l09); (try dsimp only [InitBack]); (try refine ⟨rfl, ?_⟩); (try dsimp only); (try k_sweep))
  | ((with_reducible show wpAny _ _ (call (Value.ref 85) _ _) _ _ _); refine' call_cls ?k1 ?k2 ?k3 ?k4 ?k5 ?k6 ?_; (case k1 => k_asm); (case k2 => k_asm); (case k3 => k_asm); (case k4 => k_is); (case k5 => k_is); (case k6 => k_is); k_whole; intro x'9 d'9 h'9 F'9 N'9 l19 l29; (try k_lt l19); (try k_lt2 l29); (try k_sweep); refine' init_array_use ?fB ?fF ?fX ?fN ?fT ?fk ?fd ?fu ?hxd ?U ?hz ?hsub ?_; (case fN => k_asm); (case hsub => k_allIn); (case hxd => exact Nat.ne_of_gt (by with_reducible assumption)); (case U => k_updF); (case hz => first | exact hz_head2 (by with_reducible assumption) (by with_reducible assumption) | (repeat' (first | exact List.forall_mem_nil _ | (refine List.forall_mem_cons.mpr ⟨by (try dsimp only); walk_at "ord", ?_⟩)))); (case fB => k_asm); (case fF => k_asm); (case fX => k_asm); (case fT => k_asm); (case fk => exact ⟨rfl, rfl⟩); (case fd => ((try simp only [wt_make, depth_under_make, depth_under_kw, depth_in1, depth_deeper, depth_caller]); (try dsimp only [Around.deeper, Around.in1, Around.mark]); first | walk_at "room" | decide)); (case fu => ((try simp only [cu_make]); (try dsimp only [Around.deeper, Around.in1, Around.mark]); walk_at "room")); k_whole; intro h'9 tk9 u09 u19 w19 u29 u39 u49 u59 u69 u79 a39 a69  F'9 N'9 l09 l19 ; (try dsimp only at N'9); (try k_lt l09); (try k_lt2 l19); (try dsimp only [InitBack]); (try refine ⟨rfl, ?_⟩); (try dsimp only); (try k_sweep)))) | (walk1; (try (with_reducible refine tok3 ?_; intro tk))) | dsimp only | (leave1; (try dsimp only)) | fail "no step")
  all_goals (try dsimp only)
  all_goals (refine' leaveK_ ?k1 ?k2 ?_; (case k1 => assumption); (case k2 => assumption); intro kF kN)
  all_goals (have hkeep' := fun b o e q => Fr.keep (by assumption : Fr (gOf _ _) (LOf _) _ _) b o (hkeep b o e q))
  all_goals (refine k _ _ _ _ _ _ kF (news_sub kN (by k_allIn)) hkeep' (by assumption))
theorem array_of_new {w : World} {A₀ : Around} {base : Heap} {h₀ : Heap} {outer : List Env} {L : Addr} {m : Str → Option Value} {mg : Str → Option Value} {mb : Str → Option Value} {mean : ExcName → Option Value} {pT : Program} {looseT : List Str} {s : Shared} {R : Result → Shared → Prop} {env : Env} {d : Nat} {u : Nat} {gs : Option (List Code)} {st : Addr} {dst : Addr} {gl : Addr} {hp : Addr} {dhp : Addr} {lm : Addr} {zl : Addr} {z : Addr} {g1 : Addr} {t : Tok} {s0 : Tok} {s1 : Tok} {s2 : Tok} {s3 : Tok} {e0 : Tok} {e1 : Tok} {e2 : Tok} {e3 : Tok} {num : Int} {gn : Int} {og : Obj} {oz : Obj} : array_of_new_S w A₀ base h₀ outer L m mg mb mean pT looseT s R env d u gs st dst gl hp dhp lm zl z g1 t s0 s1 s2 s3 e0 e1 e2 e3 num gn og oz := @ec_all array_of_new_P (array_of_new_eq ▸ array_of_new_m) { wo := fun n => [w].getD n (aWorld 1), ar := fun n => [A₀].getD n (callerA), hp := fun n => [base, h₀].getD n (default), le := fun n => [outer].getD n ([]), ad := fun n => [L, st, dst, gl, hp, dhp, lm, zl, z, g1].getD n (0), mp := fun n => [m, mg, mb].getD n (fun _ => none), en := fun n => [mean].getD n (fun _ => none), pg := fun n => [pT].getD n (default), ls := fun n => [looseT].getD n ([]), sh := fun n => [s].getD n ⟨default, #[], {}, 0, {}⟩, rs := fun n => [R].getD n (fun _ _ => True), sr := fun _ => (default), sc := fun _ => (default), va := fun _ => (.none), nt := fun n => [d, u].getD n (0), oc := fun n => [gs].getD n (none), tk := fun n => [t, s0, s1, s2, s3, e0, e1, e2, e3].getD n (0), ob := fun n => [og, oz].getD n (default), iz := fun _ => (0), lv := fun _ => ([]), ll := fun _ => ([]), oa := fun _ => (none), fd := fun _ => (default), av := fun _ => (#[]), li := fun _ => ([]), aw := fun _ => (#[]), ev := fun n => [env].getD n (default) } num gn
theorem array_of_new_use {w : World} {A₀ : Around} {base h₀ : Heap} {outer : List Env} {L : Addr} {m mg mb : Str → Option Value} {mean : ExcName → Option Value} {pT : Program} {looseT : List Str} {s : Shared} {R : Result → Shared → Prop}
    {env : Env} {d u : Nat} {gs : Option (List Code)}
    {st dst gl hp dhp lm zl z g1 : Addr} {t s0 s1 s2 s3 e0 e1 e2 e3 : Tok} {num gn : Int} {og oz : Obj} {gA : Obj → List (Addr × Obj)} {gB : Obj → Obj → List (Addr × Obj)} {full : List (Addr × Obj)}
    (B : Below A₀ base outer h₀) (F : Fr h₀ L s.heap m) (X₀ : (hd.heap_1 w.params).In h₀) (N : News h₀ L s.heap full) (T : Top pT looseT mean mg mb h₀)
    (hke : env.scope.kind = .function ∧ env.frame = some L) (hroom : d < 800) (hun : u < 3000)
    (lo : (gl == sysModules) = false) (hog : og.IsDictOf (strKind PySem.Challenge.rw_qz0130_01.row.prog w) [(Str.ofString "P::go", .ref g1)]) (ch0 : @LT.lt Nat _ dhp hp) (ch1 : @LT.lt Nat _ hp dst) (ch2 : @LT.lt Nat _ dst st) (ch3 : @LT.lt Nat _ st gl) (ch4 : @LT.lt Nat _ gl z) (hsub : ∀ p ∈ ((st, (⟨.ref 1139, some dst, .plain, #[]⟩ : Obj)) :: (dst, dictOf [⟨PyData.keyHash w.params (Str.ofString "heap"), .str (Str.ofString "heap") s0, .ref hp⟩, ⟨PyData.keyHash w.params (Str.ofString "globs"), .str (Str.ofString "globs") s1, .ref gl⟩, ⟨PyData.keyHash w.params (Str.ofString "generation"), .str (Str.ofString "generation") s2, .int gn s3⟩] 3) :: (gl, og) :: (hp, (⟨.ref 225, some dhp, .plain, #[]⟩ : Obj)) :: (dhp, dictOf [⟨PyData.keyHash w.params (Str.ofString "limits"), .str (Str.ofString "limits") e0, .ref lm⟩, ⟨PyData.keyHash w.params (Str.ofString "last"), .str (Str.ofString "last") e1, .int num e3⟩, ⟨PyData.keyHash w.params (Str.ofString "zero"), .str (Str.ofString "zero") e2, .ref zl⟩] 3) :: (z, oz) :: []), p ∈ full) (U1 : UpdF gl og full gA) (U2 : ∀ a, UpdF dhp (dictOf [⟨PyData.keyHash w.params (Str.ofString "limits"), .str (Str.ofString "limits") e0, .ref lm⟩, ⟨PyData.keyHash w.params (Str.ofString "last"), .str (Str.ofString "last") e1, .int num e3⟩, ⟨PyData.keyHash w.params (Str.ofString "zero"), .str (Str.ofString "zero") e2, .ref zl⟩] 3) (gA a) (gB a))
    (k : ∀ h' tk e4 ar g0 og', Fr h₀ L h' m → News h₀ L h' (gB og' (dictOf [⟨PyData.keyHash w.params (Str.ofString "limits"), .str (Str.ofString "limits") e0, .ref lm⟩, ⟨PyData.keyHash w.params (Str.ofString "last"), .str (Str.ofString "last") e1, .int (num + 1 + 1) e4⟩, ⟨PyData.keyHash w.params (Str.ofString "zero"), .str (Str.ofString "zero") e2, .ref zl⟩] 3)) → og'.IsDictOf (strKind PySem.Challenge.rw_qz0130_01.row.prog w) [(Str.ofString "P::go", .ref g1), (Str.ofString "main::_", .ref g0)] → R (.ok (.ret (.ref ar))) { s with heap := h', toks := tk }) :
    codeAny (model PySem.Challenge.rw_qz0130_01.row.prog w) (Around.mk none d (some (env :: outer)) gs u) (.call (.ref 1115) ⟨[.ref st, .str (Str.ofString "main::_") t], []⟩) R s :=
  array_of_new B F X₀ (news_sub N hsub) T hke hroom hun lo hog ch0 ch1 ch2 ch3 ch4 fun h' tk e4 ar g0 og' F' N' K hd' => by
    have C : Chg h' [gl, dhp] full _ := .step U1 (N' (gl, og') (by k_mem)).1 (.step (U2 _) (N' (dhp, dictOf [⟨PyData.keyHash w.params (Str.ofString "limits"), .str (Str.ofString "limits") e0, .ref lm⟩, ⟨PyData.keyHash w.params (Str.ofString "last"), .str (Str.ofString "last") e1, .int (num + 1 + 1) e4⟩, ⟨PyData.keyHash w.params (Str.ofString "zero"), .str (Str.ofString "zero") e2, .ref zl⟩] 3) (by k_mem)).1 .nil)
    have K2 := keep_chg (ds := [gl, dhp]) (news_sub N hsub) K (by repeat' (first | exact List.forall_mem_nil _ | (refine List.forall_mem_cons.mpr ⟨by first | exact .inl (.head _) | exact .inl (.tail _ (.head _)) | exact .inr (N' _ (by k_mem)).1, ?_⟩)))
    exact k h' tk e4 ar g0 og' F' (news_chg N C K2) hd'
end
section
local macro_rules | `(tactic| k_lt $h:ident) => `(tactic| ((replace $h := lt_head $h); (try dsimp only at $h:ident); (try (have sdX := sd_cons (by with_reducible assumption) $h))))
local macro_rules | `(tactic| k_lt2 $h:ident) => `(tactic| ((replace $h := ltN $h); (try (have sdX := sd_cons (by with_reducible assumption) $h))))
local macro_rules | `(tactic| k_upd) => `(tactic| (apply upd_of_W; (focus with_reducible ((repeat (first | apply UpdW.head | apply UpdW.tail)); (repeat (first | apply AddrsOf.nil | apply AddrsOf.cons)))); (focus with_reducible assumption)))
local macro_rules | `(tactic| k_updF) => `(tactic| (apply updF_of_W; (focus with_reducible ((repeat (first | apply UpdFW.head | apply UpdFW.tail)); (repeat (first | apply AddrsOf.nil | apply AddrsOf.cons)))); (focus with_reducible assumption)))
local macro_rules | `(tactic| k_mem) => `(tactic| with_reducible assumption)
local macro_rules | `(tactic| walk_at "callWith ref") => `(tactic| (k_here; (with_reducible show wpAny _ _ (callWith _ _ _ (backTo _ (starEach [] _)) []) _ _ _); k_dflt (refine' callWith_K0 ?_ ?_ ?_; k_in; k_is; k_whole)))
local macro_rules | `(tactic| walk_at "n") => `(tactic| skip)
structure Bx (p : Prop) : Prop where out : p
theorem name_fnN {h₀ h : Heap} {L : Addr} {l : List (Addr × Obj)} (_ : News h₀ L h l) (n : Str) {f c : Addr} {q : Str} {pa : Arguments} {bo : List Stmt} {sc : Scope} {cl : List (Str × Addr)} {doc pm ct : Value} {p : Prop} (_ : (f, fnMade n q pa bo sc cl doc pm c ct) ∈ l) (h : ∀ f' c', f' = f → c' = c → p) : p := h f c rfl rfl
theorem name_tbN {h₀ h : Heap} {L : Addr} {l : List (Addr × Obj)} (_ : News h₀ L h l) {mc dmc c1 : Addr} {e1 : DictEntry} {hh : Int} {kk : Value} {n : Nat} {p : Prop} (_ : (mc, (⟨.ref 656, some dmc, .plain, #[]⟩ : Obj)) ∈ l) (_ : (dmc, dictOf [e1, ⟨hh, kk, .ref c1⟩] n) ∈ l)
    (h : ∀ mc' dmc' c1', mc' = mc → dmc' = dmc → c1' = c1 → p) : p := h _ _ _ rfl rfl rfl
def law_run_spec_S (w : World) (A₀ : Around) (base : Heap) (h₀ : Heap) (outer : List Env) (L : Addr) (m : Str → Option Value) (mg : Str → Option Value) (mb : Str → Option Value) (mean : ExcName → Option Value) (pT : Program) (looseT : List Str) (s : Shared) (R : Result → Shared → Prop) (cn : Str) (cs : Scope) (ca : Addr) (ccd : Value) (d : Nat) (u : Nat) (gs : Option (List Code)) (la : Tok) (lb : Tok) (lc : Tok) (ld : Tok) (le : Tok) (na1 : Tok) (nb : Tok) (nc : Tok) (nd1 : Tok) (ne : Tok) (lm : Addr) (dlm : Addr) (he : Addr) (bd : Int) (nlm : Nat) (nh : Nat) : Prop := ∀ (B : Below A₀ base outer h₀) (F : Fr h₀ L s.heap m) (X₀ : (hd.heap_1 w.params).In h₀) (N : News h₀ L s.heap ((lm, (⟨.ref 1076, some dlm, .plain, #[]⟩ : Obj)) :: (dlm, dictOf [⟨PyData.keyHash w.params (Str.ofString "width"), .str (Str.ofString "width") la, .int 64 na1⟩, ⟨PyData.keyHash w.params (Str.ofString "depth"), .str (Str.ofString "depth") lb, .int 50 nb⟩, ⟨PyData.keyHash w.params (Str.ofString "steps"), .str (Str.ofString "steps") lc, .int 1000000 nc⟩, ⟨PyData.keyHash w.params (Str.ofString "text"), .str (Str.ofString "text") ld, .int 100000 nd1⟩, ⟨PyData.keyHash w.params (Str.ofString "items"), .str (Str.ofString "items") le, .int bd ne⟩] nlm) :: (he, listOf #[] nh) :: (1166, tabObj #[]) :: [])) (T : Top pT looseT mean mg mb h₀) (hke : cs.kind = .function) (hroom : d < 600) (hun : u < 1000) (codeHd : CodeHd base 1170 1166) (ch0 : @LT.lt Nat _ 1166 he) (ch1 : @LT.lt Nat _ he dlm) (ch2 : @LT.lt Nat _ dlm lm) (k : ∀ h' tk ps, ∀ (run drun hp ct st dst gl nd mc dmc c1 c2 c3 c4 g1 dg1 gaw cd dcd cap cow g0 fa ca2 fs ca1 fw ca3 ce x5 x6 x7 x8 x9 x10 x11 x12 x14 : Addr) (r0 r1 r2 r3 r4 r5 r6 r7 r8 r9 r10 r11 r12 r13 r14 r15 r16 r17 r18 q0 ta tb1 tc td gab gac gad gae gaf gag gah gai gaj gak gal gam gao gaa coa cob coc cod coe cof cog coh coi coj cok con1 con2 : Tok) (nrun nst ng1 ncd : Nat) (og odmc o1 o2 o3 o4 ond ocA ocS ocW oce : Obj) (gan0 gan con con0 : Int) (oca ocs ocw : Value) (oda ods odw : Option Addr) (fda fds fdw : FuncData) (sla sls slw : Array (Option Value)), Fr h₀ L h' m → News h₀ L h' ((run, (⟨.ref 559, some drun, .plain, #[]⟩ : Obj)) :: (drun, dictOf [⟨PyData.keyHash w.params (Str.ofString "heap"), .str (Str.ofString "heap") r0, .ref hp⟩, ⟨PyData.keyHash w.params (Str.ofString "counter"), .str (Str.ofString "counter") r1, .ref ct⟩, ⟨PyData.keyHash w.params (Str.ofString "stash"), .str (Str.ofString "stash") r2, .ref st⟩, ⟨PyData.keyHash w.params (Str.ofString "limits"), .str (Str.ofString "limits") r3, .ref lm⟩, ⟨PyData.keyHash w.params (Str.ofString "nodes"), .str (Str.ofString "nodes") r4, .ref nd⟩, ⟨PyData.keyHash w.params (Str.ofString "lvs"), .str (Str.ofString "lvs") r5, .ref x5⟩, ⟨PyData.keyHash w.params (Str.ofString "statements"), .str (Str.ofString "statements") r6, .ref x6⟩, ⟨PyData.keyHash w.params (Str.ofString "funcs"), .str (Str.ofString "funcs") r7, .ref x7⟩, ⟨PyData.keyHash w.params (Str.ofString "operators"), .str (Str.ofString "operators") r8, .ref x8⟩, ⟨PyData.keyHash w.params (Str.ofString "out"), .str (Str.ofString "out") r9, .ref x9⟩, ⟨PyData.keyHash w.params (Str.ofString "err"), .str (Str.ofString "err") r10, .ref x10⟩, ⟨PyData.keyHash w.params (Str.ofString "saves"), .str (Str.ofString "saves") r11, .ref x11⟩, ⟨PyData.keyHash w.params (Str.ofString "frames"), .str (Str.ofString "frames") r12, .ref x12⟩, ⟨PyData.keyHash w.params (Str.ofString "match"), .str (Str.ofString "match") r13, .none⟩, ⟨PyData.keyHash w.params (Str.ofString "patterns"), .str (Str.ofString "patterns") r14, .ref x14⟩, ⟨PyData.keyHash w.params (Str.ofString "steps"), .str (Str.ofString "steps") r15, .int 0 q0⟩, ⟨PyData.keyHash w.params (Str.ofString "methods"), .str (Str.ofString "methods") r16, .ref mc⟩, ⟨PyData.keyHash w.params (Str.ofString "call_code"), .str (Str.ofString "call_code") r17, .none⟩, ⟨PyData.keyHash w.params (Str.ofString "compile_text"), .str (Str.ofString "compile_text") r18, .none⟩] nrun) :: (nd, ond) :: (fa, (⟨oca, oda, .func fda, sla⟩ : Obj)) :: (ca2, ocA) :: (fs, (⟨ocs, ods, .func fds, sls⟩ : Obj)) :: (ca1, ocS) :: (st, (⟨.ref 1139, some dst, .plain, #[]⟩ : Obj)) :: (dst, dictOf [⟨PyData.keyHash w.params (Str.ofString "heap"), .str (Str.ofString "heap") ta, .ref hp⟩, ⟨PyData.keyHash w.params (Str.ofString "globs"), .str (Str.ofString "globs") tb1, .ref gl⟩, ⟨PyData.keyHash w.params (Str.ofString "generation"), .str (Str.ofString "generation") tc, .int 1 td⟩] nst) :: (gl, og) :: (g1, (⟨.ref 142, some dg1, .plain, #[]⟩ : Obj)) :: (dg1, dictOf [⟨PyData.keyHash w.params (Str.ofString "number"), .str (Str.ofString "number") gaa, .int gan0 gab⟩, ⟨PyData.keyHash w.params (Str.ofString "count"), .str (Str.ofString "count") gac, .int gan gad⟩, ⟨PyData.keyHash w.params (Str.ofString "blessed"), .str (Str.ofString "blessed") gae, .none⟩, ⟨PyData.keyHash w.params (Str.ofString "weak"), .str (Str.ofString "weak") gaf, .ref gaw⟩, ⟨PyData.keyHash w.params (Str.ofString "is_destroyed"), .str (Str.ofString "is_destroyed") gag, .bool false⟩, ⟨PyData.keyHash w.params (Str.ofString "is_freed"), .str (Str.ofString "is_freed") gah, .bool false⟩, ⟨PyData.keyHash w.params (Str.ofString "name"), .str (Str.ofString "name") gai, .str (Str.ofString "P::go") gaj⟩, ⟨PyData.keyHash w.params (Str.ofString "scalar"), .str (Str.ofString "scalar") gak, .none⟩, ⟨PyData.keyHash w.params (Str.ofString "array"), .str (Str.ofString "array") gal, .none⟩, ⟨PyData.keyHash w.params (Str.ofString "hash"), .str (Str.ofString "hash") gam, .none⟩, ⟨PyData.keyHash w.params (Str.ofString "code"), .str (Str.ofString "code") gao, .ref cd⟩] ng1) :: (mc, (⟨.ref 656, some dmc, .plain, #[]⟩ : Obj)) :: (dmc, odmc) :: (cd, (⟨.ref 123, some dcd, .plain, #[]⟩ : Obj)) :: (dcd, dictOf [⟨PyData.keyHash w.params (Str.ofString "number"), .str (Str.ofString "number") coa, .int con0 cob⟩, ⟨PyData.keyHash w.params (Str.ofString "count"), .str (Str.ofString "count") coc, .int con cod⟩, ⟨PyData.keyHash w.params (Str.ofString "blessed"), .str (Str.ofString "blessed") coe, .none⟩, ⟨PyData.keyHash w.params (Str.ofString "weak"), .str (Str.ofString "weak") cof, .ref cow⟩, ⟨PyData.keyHash w.params (Str.ofString "is_destroyed"), .str (Str.ofString "is_destroyed") cog, .bool false⟩, ⟨PyData.keyHash w.params (Str.ofString "is_freed"), .str (Str.ofString "is_freed") coh, .bool false⟩, ⟨PyData.keyHash w.params (Str.ofString "sub"), .str (Str.ofString "sub") coi, .none⟩, ⟨PyData.keyHash w.params (Str.ofString "captures"), .str (Str.ofString "captures") coj, .ref cap⟩, ⟨PyData.keyHash w.params (Str.ofString "builtin"), .str (Str.ofString "builtin") cok, .ref fw⟩, ⟨PyData.keyHash w.params (Str.ofString "package"), .str (Str.ofString "package") con1, .str (Str.ofString "main") con2⟩] ncd) :: (fw, (⟨ocw, odw, .func fdw, slw⟩ : Obj)) :: (ca3, ocW) :: (ce, oce) :: (c1, o1) :: (c2, o2) :: (c3, o3) :: (c4, o4) :: (lm, (⟨.ref 1076, some dlm, .plain, #[]⟩ : Obj)) :: (dlm, dictOf [⟨PyData.keyHash w.params (Str.ofString "width"), .str (Str.ofString "width") la, .int 64 na1⟩, ⟨PyData.keyHash w.params (Str.ofString "depth"), .str (Str.ofString "depth") lb, .int 50 nb⟩, ⟨PyData.keyHash w.params (Str.ofString "steps"), .str (Str.ofString "steps") lc, .int 1000000 nc⟩, ⟨PyData.keyHash w.params (Str.ofString "text"), .str (Str.ofString "text") ld, .int 100000 nd1⟩, ⟨PyData.keyHash w.params (Str.ofString "items"), .str (Str.ofString "items") le, .int bd ne⟩] nlm) :: (he, listOf #[] nh) :: (1166, tabObj ps) :: []) → (∀ b o, s.heap.get? b = some o → b ∉ [lm, dlm, he, 1166] → h'.get? b = some o) → (∀ b o, s.heap.get? b = some o → @LT.lt Nat _ b ce) → (nd == sysModules) = false → ond.IsDictOf (strKind PySem.Challenge.rw_qz0130_01.row.prog w) [(Str.ofString "some", .ref fs), (Str.ofString "asked", .ref fa)] → CallsA w fa ca2 ⟨oca, oda, .func fda, sla⟩ ocA → (gl == sysModules) = false → og.IsDictOf (strKind PySem.Challenge.rw_qz0130_01.row.prog w) [(Str.ofString "P::go", .ref g1), (Str.ofString "main::_", .ref g0)] → CacheSt w cd odmc c1 c2 c3 c4 o1 o2 o3 o4 → @LT.lt Nat _ dmc c1 → @LT.lt Nat _ dmc c2 → @LT.lt Nat _ dmc c3 → @LT.lt Nat _ dmc c4 → @LT.lt Nat _ c1 g1 → @LT.lt Nat _ c2 g1 → @LT.lt Nat _ c3 g1 → @LT.lt Nat _ c4 g1 → CallsW w fw ca3 ce he ⟨ocw, odw, .func fdw, slw⟩ ocW oce → CallsS w fs ca1 ⟨ocs, ods, .func fds, sls⟩ ocS → @LT.lt Nat _ ce dst → @LT.lt Nat _ dst st → @LT.lt Nat _ st gl → @LT.lt Nat _ gl drun → @LT.lt Nat _ drun run → @LT.lt Nat _ run dmc → @LT.lt Nat _ dmc mc → @LT.lt Nat _ mc ca1 → @LT.lt Nat _ ca1 fs → @LT.lt Nat _ fs ca2 → @LT.lt Nat _ ca2 fa → @LT.lt Nat _ fa ca3 → @LT.lt Nat _ ca3 fw → @LT.lt Nat _ fw nd → @LT.lt Nat _ nd dcd → @LT.lt Nat _ dcd cd → @LT.lt Nat _ cd dg1 → @LT.lt Nat _ dg1 g1 → R (.ok (.ret (.ref run))) { s with heap := h', toks := tk }), codeAny (model PySem.Challenge.rw_qz0130_01.row.prog w) (Around.mk none d (some (envOf cn cs L ca ccd :: outer)) gs u) (.call (.ref 1171) ⟨[.ref lm, .ref he], []⟩) R s
def law_run_spec_P (c : EC) : Prop := ∀ (bd : Int), law_run_spec_S (c.wo 0) (c.ar 0) (c.hp 0) (c.hp 1) (c.le 0) (c.ad 0) (c.mp 0) (c.mp 1) (c.mp 2) (c.en 0) (c.pg 0) (c.ls 0) (c.sh 0) (c.rs 0) (c.sr 0) (c.sc 0) (c.ad 1) (c.va 0) (c.nt 0) (c.nt 1) (c.oc 0) (c.tk 0) (c.tk 1) (c.tk 2) (c.tk 3) (c.tk 4) (c.tk 5) (c.tk 6) (c.tk 7) (c.tk 8) (c.tk 9) (c.ad 2) (c.ad 3) (c.ad 4) bd (c.nt 2) (c.nt 3)
@[irreducible] noncomputable def law_run_spec_e : EC := @Classical.epsilon EC EC.ne fun c => ¬ law_run_spec_P c
theorem law_run_spec_eq : law_run_spec_e = @Classical.epsilon EC EC.ne fun c => ¬ law_run_spec_P c := by unfold law_run_spec_e; rfl
theorem law_run_spec_m : law_run_spec_P law_run_spec_e := by
  unfold law_run_spec_P law_run_spec_S
  intro bd B F X₀ N T hke hroom hun codeHd ch0 ch1 ch2 k
  revert X₀
  k_fill
  intro X₀
  refine' code_keepC B F X₀ N T rfl hke ?k6 ?k7 ?k8 ?k9 ?kB ?kD ?_ ?c2 ?c3 ?c4
  case k6 => k_is
  case k7 => k_is
  case k8 => k_room
  case k9 => exact BindsTo.of_eq rfl
  case kB => exact rfl
  case kD => decide +kernel
  case c2 => exact rfl
  case c3 => exact rfl
  case c4 => exact rfl
  intro g' L' h' tk' cells' FG' F' N' Y' B' X' T' hlow hkeep
  have l1' : @LT.lt Nat _ (law_run_spec_e.ad 2) L' := hlow (law_run_spec_e.ad 2) _ (N ((law_run_spec_e.ad 2), _) (by k_mem)).1
  have hlow' : ∀ b o, (law_run_spec_e.sh 0).heap.get? b = some o → @LT.lt Nat _ b (L' + 1) := fun b o e => Nat.lt_succ_of_lt (hlow b o e)
  clear B F X₀ N T hlow
  k_cells Y'
  (try simp only [List.cons_append, List.nil_append] at N')
  (try dsimp only)
  have sd0 : SD [L' + 1, (law_run_spec_e.ad 2), (law_run_spec_e.ad 3), (law_run_spec_e.ad 4), 1166] := sd_cons (sd_cons (sd_cons (sd_cons (sd_one _) ch0) ch1) ch2) (Nat.lt_succ_of_lt l1')
  repeat' (first | (k_unfold; (try dsimp only)) | ((with_reducible show LeaveK (law_run_spec_e.hp 1) (law_run_spec_e.ad 0) (law_run_spec_e.mp 0) _ (law_run_spec_e.rs 0) _ _); refine hold ?_) | (with_reducible ((with_reducible show wpAny _ _ (call (Value.builtin _) [Value.ref _, _]) _ _ _); k_dflt (refine' append_K ?k1q ?k2q ?k3q ?_ ?zq; (case k1q => k_asm); (case k2q => k_asm); (case k3q => k_upd); (case zq => size_fits); k_whole); intro h'9 F'9 N'9; (try simp only [List.push_toArray, List.cons_append, List.nil_append] at N'9); (try k_sweep))) | ((with_reducible show wpAny _ _ (call (Value.ref _) _ _) _ _ _); k_dflt (first
  | ((with_reducible show wpAny _ _ (call (Value.ref 225) _ _) _ _ _); refine' call_cls ?k1 ?k2 ?k3 ?k4 ?k5 ?k6 ?_; (case k1 => k_asm); (case k2 => k_asm); (case k3 => k_asm); (case k4 => k_is); (case k5 => k_is); (case k6 => k_is); k_whole; intro x'9 d'9 h'9 F'9 N'9 l19 l29; (try k_lt l19); (try k_lt2 l29); (try k_sweep); refine' init_heap_use ?fB ?fF ?fX ?fN ?fT ?fk ?fd ?fu ?hxd ?U ?hz ?hsub ?_; (case fN => k_asm); (case hsub => k_allIn); (case hxd => exact Nat.ne_of_gt (by with_reducible assumption)); (case U => k_updF); (case hz => exact hz_sd (by with_reducible (repeat (first | apply AddrsOf.nil | apply AddrsOf.cons))) (by with_reducible assumption)); (case fB => k_asm); (case fF => k_asm); (case fX => k_asm); (case fT => k_asm); (case fk => exact ⟨rfl, rfl⟩); (case fd => ((try simp only [wt_make, depth_under_make, depth_under_kw, depth_in1, depth_deeper, depth_caller]); (try dsimp only [Around.deeper, Around.in1, Around.mark]); first | walk_at "room" | decide)); (case fu => ((try simp only [cu_make]); (try dsimp only [Around.deeper, Around.in1, Around.mark]); walk_at "room")); k_whole; intro h'9 tk9 u09 u19 w19 u29 a29  F'9 N'9 l09 ; (try dsimp only at N'9); (try k_lt l09); (try dsimp only [InitBack]); (try refine ⟨rfl, ?_⟩); (try dsimp only); (try k_sweep))
  | ((with_reducible show wpAny _ _ (call (Value.ref 1054) _ _) _ _ _); refine' call_cls ?k1 ?k2 ?k3 ?k4 ?k5 ?k6 ?_; (case k1 => k_asm); (case k2 => k_asm); (case k3 => k_asm); (case k4 => k_is); (case k5 => k_is); (case k6 => k_is); k_whole; intro x'9 d'9 h'9 F'9 N'9 l19 l29; (try k_lt l19); (try k_lt2 l29); (try k_sweep); refine' init_counter_use ?fB ?fF ?fX ?fN ?fT ?fk ?fd ?fu ?hxd ?U ?hz ?hsub ?_; (case fN => k_asm); (case hsub => k_allIn); (case hxd => exact Nat.ne_of_gt (by with_reducible assumption)); (case U => k_updF); (case hz => exact hz_sd (by with_reducible (repeat (first | apply AddrsOf.nil | apply AddrsOf.cons))) (by with_reducible assumption)); (case fB => k_asm); (case fF => k_asm); (case fX => k_asm); (case fT => k_asm); (case fk => exact ⟨rfl, rfl⟩); (case fd => ((try simp only [wt_make, depth_under_make, depth_under_kw, depth_in1, depth_deeper, depth_caller]); (try dsimp only [Around.deeper, Around.in1, Around.mark]); first | walk_at "room" | decide)); (case fu => ((try simp only [cu_make]); (try dsimp only [Around.deeper, Around.in1, Around.mark]); walk_at "room")); k_whole; intro h'9 tk9 u09 u19 u29 u39 a29 a39 b29 b39 F'9 N'9 l09 l19 df09 df19 df29 df39 df49 df59; (try dsimp only at N'9); (try k_lt l09); (try k_lt2 l19); (try dsimp only [InitBack]); (try refine ⟨rfl, ?_⟩); (try dsimp only); (try k_sweep))
  | ((with_reducible show wpAny _ _ (call (Value.ref 1139) _ _) _ _ _); refine' call_cls ?k1 ?k2 ?k3 ?k4 ?k5 ?k6 ?_; (case k1 => k_asm); (case k2 => k_asm); (case k3 => k_asm); (case k4 => k_is); (case k5 => k_is); (case k6 => k_is); k_whole; intro x'9 d'9 h'9 F'9 N'9 l19 l29; (try k_lt l19); (try k_lt2 l29); (try k_sweep); refine' init_stash_use ?fB ?fF ?fX ?fN ?fT ?fk ?fd ?fu ?hxd ?U ?hz ?hsub ?_; (case fN => k_asm); (case hsub => k_allIn); (case hxd => exact Nat.ne_of_gt (by with_reducible assumption)); (case U => k_updF); (case hz => exact hz_sd (by with_reducible (repeat (first | apply AddrsOf.nil | apply AddrsOf.cons))) (by with_reducible assumption)); (case fB => k_asm); (case fF => k_asm); (case fX => k_asm); (case fT => k_asm); (case fk => exact ⟨rfl, rfl⟩); (case fd => ((try simp only [wt_make, depth_under_make, depth_under_kw, depth_in1, depth_deeper, depth_caller]); (try dsimp only [Around.deeper, Around.in1, Around.mark]); first | walk_at "room" | decide)); (case fu => ((try simp only [cu_make]); (try dsimp only [Around.deeper, Around.in1, Around.mark]); walk_at "room")); k_whole; intro h'9 tk9 u09 u19 u29 w29 a19 b19 F'9 N'9 l09 df09 df19 df29; (try dsimp only at N'9); (try k_lt l09); (try dsimp only [InitBack]); (try refine ⟨rfl, ?_⟩); (try dsimp only); (try k_sweep))
  | ((with_reducible show wpAny _ _ (call (Value.ref 656) _ _) _ _ _); refine' call_cls ?k1 ?k2 ?k3 ?k4 ?k5 ?k6 ?_; (case k1 => k_asm); (case k2 => k_asm); (case k3 => k_asm); (case k4 => k_is); (case k5 => k_is); (case k6 => k_is); k_whole; intro x'9 d'9 h'9 F'9 N'9 l19 l29; (try k_lt l19); (try k_lt2 l29); (try k_sweep); refine' init_cache_use ?fB ?fF ?fX ?fN ?fT ?fk ?fd ?fu ?hxd ?U ?hz ?hsub ?_; (case fN => k_asm); (case hsub => k_allIn); (case hxd => exact Nat.ne_of_gt (by with_reducible assumption)); (case U => k_updF); (case hz => exact hz_sd (by with_reducible (repeat (first | apply AddrsOf.nil | apply AddrsOf.cons))) (by with_reducible assumption)); (case fB => k_asm); (case fF => k_asm); (case fX => k_asm); (case fT => k_asm); (case fk => exact ⟨rfl, rfl⟩); (case fd => ((try simp only [wt_make, depth_under_make, depth_under_kw, depth_in1, depth_deeper, depth_caller]); (try dsimp only [Around.deeper, Around.in1, Around.mark]); first | walk_at "room" | decide)); (case fu => ((try simp only [cu_make]); (try dsimp only [Around.deeper, Around.in1, Around.mark]); walk_at "room")); k_whole; intro h'9 tk9 u09 w09 u19 a19 b19 F'9 N'9 l09 df09 df19 df29; (try dsimp only at N'9); (try k_lt l09); (try dsimp only [InitBack]); (try refine ⟨rfl, ?_⟩); (try dsimp only); (try k_sweep))
  | ((with_reducible show wpAny _ _ (call (Value.ref 538) _ _) _ _ _); refine' call_cls ?k1 ?k2 ?k3 ?k4 ?k5 ?k6 ?_; (case k1 => k_asm); (case k2 => k_asm); (case k3 => k_asm); (case k4 => k_is); (case k5 => k_is); (case k6 => k_is); k_whole; intro x'9 d'9 h'9 F'9 N'9 l19 l29; (try k_lt l19); (try k_lt2 l29); (try k_sweep); refine' init_frame_use ?fB ?fF ?fX ?fN ?fT ?fk ?fd ?fu ?hxd ?U ?hsub ?_; (case fN => k_asm); (case hsub => k_allIn); (case hxd => exact Nat.ne_of_gt (by with_reducible assumption)); (case U => k_updF); (case fB => k_asm); (case fF => k_asm); (case fX => k_asm); (case fT => k_asm); (case fk => exact ⟨rfl, rfl⟩); (case fd => ((try simp only [wt_make, depth_under_make, depth_under_kw, depth_in1, depth_deeper, depth_caller]); (try dsimp only [Around.deeper, Around.in1, Around.mark]); first | walk_at "room" | decide)); (case fu => ((try simp only [cu_make]); (try dsimp only [Around.deeper, Around.in1, Around.mark]); walk_at "room")); k_whole; intro h'9 tk9 u09 u19 u29 u39 u49 u59   F'9 N'9  ; (try dsimp only at N'9); (try dsimp only [InitBack]); (try refine ⟨rfl, ?_⟩); (try dsimp only); (try k_sweep))
  | ((with_reducible show wpAny _ _ (call (Value.ref 123) _ _) _ _ _); refine' call_cls ?k1 ?k2 ?k3 ?k4 ?k5 ?k6 ?_; (case k1 => k_asm); (case k2 => k_asm); (case k3 => k_asm); (case k4 => k_is); (case k5 => k_is); (case k6 => k_is); k_whole; intro x'9 d'9 h'9 F'9 N'9 l19 l29; (try k_lt l19); (try k_lt2 l29); (try k_sweep); refine' init_code_use ?fB ?fF ?fX ?fN ?fT ?fk ?fd ?fu ?hxd ?U ?hz ?hsub ?_; (case fN => k_asm); (case hsub => k_allIn); (case hxd => exact Nat.ne_of_gt (by with_reducible assumption)); (case U => k_updF); (case hz => exact hz_sd (by with_reducible (repeat (first | apply AddrsOf.nil | apply AddrsOf.cons))) (by with_reducible assumption)); (case fB => k_asm); (case fF => k_asm); (case fX => k_asm); (case fT => k_asm); (case fk => exact ⟨rfl, rfl⟩); (case fd => ((try simp only [wt_make, depth_under_make, depth_under_kw, depth_in1, depth_deeper, depth_caller]); (try dsimp only [Around.deeper, Around.in1, Around.mark]); first | walk_at "room" | decide)); (case fu => ((try simp only [cu_make]); (try dsimp only [Around.deeper, Around.in1, Around.mark]); walk_at "room")); k_whole; intro h'9 tk9 u09 u19 w19 u29 u39 u49 u59 u69 u79 u89 u99 w99 a39  F'9 N'9 l09 ; (try dsimp only at N'9); (try k_lt l09); (try dsimp only [InitBack]); (try refine ⟨rfl, ?_⟩); (try dsimp only); (try k_sweep))
  | ((with_reducible show wpAny _ _ (call (Value.ref 142) _ _) _ _ _); refine' call_cls ?k1 ?k2 ?k3 ?k4 ?k5 ?k6 ?_; (case k1 => k_asm); (case k2 => k_asm); (case k3 => k_asm); (case k4 => k_is); (case k5 => k_is); (case k6 => k_is); k_whole; intro x'9 d'9 h'9 F'9 N'9 l19 l29; (try k_lt l19); (try k_lt2 l29); (try k_sweep); refine' init_glob_use ?fB ?fF ?fX ?fN ?fT ?fk ?fd ?fu ?hxd ?U ?hz ?hsub ?_; (case fN => k_asm); (case hsub => k_allIn); (case hxd => exact Nat.ne_of_gt (by with_reducible assumption)); (case U => k_updF); (case hz => exact hz_sd (by with_reducible (repeat (first | apply AddrsOf.nil | apply AddrsOf.cons))) (by with_reducible assumption)); (case fB => k_asm); (case fF => k_asm); (case fX => k_asm); (case fT => k_asm); (case fk => exact ⟨rfl, rfl⟩); (case fd => ((try simp only [wt_make, depth_under_make, depth_under_kw, depth_in1, depth_deeper, depth_caller]); (try dsimp only [Around.deeper, Around.in1, Around.mark]); first | walk_at "room" | decide)); (case fu => ((try simp only [cu_make]); (try dsimp only [Around.deeper, Around.in1, Around.mark]); walk_at "room")); k_whole; intro h'9 tk9 u09 u19 w19 u29 u39 u49 u59 u69 u79 u89 u99 u109 a39  F'9 N'9 l09 ; (try dsimp only at N'9); (try k_lt l09); (try dsimp only [InitBack]); (try refine ⟨rfl, ?_⟩); (try dsimp only); (try k_sweep))
  | ((with_reducible show wpAny _ _ (call (Value.ref 85) _ _) _ _ _); refine' call_cls ?k1 ?k2 ?k3 ?k4 ?k5 ?k6 ?_; (case k1 => k_asm); (case k2 => k_asm); (case k3 => k_asm); (case k4 => k_is); (case k5 => k_is); (case k6 => k_is); k_whole; intro x'9 d'9 h'9 F'9 N'9 l19 l29; (try k_lt l19); (try k_lt2 l29); (try k_sweep); refine' init_array_use ?fB ?fF ?fX ?fN ?fT ?fk ?fd ?fu ?hxd ?U ?hz ?hsub ?_; (case fN => k_asm); (case hsub => k_allIn); (case hxd => exact Nat.ne_of_gt (by with_reducible assumption)); (case U => k_updF); (case hz => exact hz_sd (by with_reducible (repeat (first | apply AddrsOf.nil | apply AddrsOf.cons))) (by with_reducible assumption)); (case fB => k_asm); (case fF => k_asm); (case fX => k_asm); (case fT => k_asm); (case fk => exact ⟨rfl, rfl⟩); (case fd => ((try simp only [wt_make, depth_under_make, depth_under_kw, depth_in1, depth_deeper, depth_caller]); (try dsimp only [Around.deeper, Around.in1, Around.mark]); first | walk_at "room" | decide)); (case fu => ((try simp only [cu_make]); (try dsimp only [Around.deeper, Around.in1, Around.mark]); walk_at "room")); k_whole; intro h'9 tk9 u09 u19 w19 u29 u39 u49 u59 u69 u79 a39 a69  F'9 N'9 l09 l19 ; (try dsimp only at N'9); (try k_lt l09); (try k_lt2 l19); (try dsimp only [InitBack]); (try refine ⟨rfl, ?_⟩); (try dsimp only); (try k_sweep))
  | ((with_reducible show wpAny _ _ (call (Value.ref 559) _ _) _ _ _); refine' call_cls ?k1 ?k2 ?k3 ?k4 ?k5 ?k6 ?_; (case k1 => k_asm); (case k2 => k_asm); (case k3 => k_asm); (case k4 => k_is); (case k5 => k_is); (case k6 => k_is); k_whole; intro x'9 d'9 h'9 F'9 N'9 l19 l29; (try k_lt l19); (try k_lt2 l29); (try k_sweep); refine' init_run_use ?fB ?fF ?fX ?fN ?fT ?fk ?fd ?fu ?hxd ?U ?hz ?hsub ?_; (case fN => k_asm); (case hsub => k_allIn); (case hxd => exact Nat.ne_of_gt (by with_reducible assumption)); (case U => k_updF); (case hz => exact hz_sd (by with_reducible (repeat (first | apply AddrsOf.nil | apply AddrsOf.cons))) (by with_reducible assumption)); (case fB => k_asm); (case fF => k_asm); (case fX => k_asm); (case fT => k_asm); (case fk => exact ⟨rfl, rfl⟩); (case fd => ((try simp only [wt_make, depth_under_make, depth_under_kw, depth_in1, depth_deeper, depth_caller]); (try dsimp only [Around.deeper, Around.in1, Around.mark]); first | walk_at "room" | decide)); (case fu => ((try simp only [cu_make]); (try dsimp only [Around.deeper, Around.in1, Around.mark]); walk_at "room")); k_whole; intro h'9 tk9 u09 u19 u29 u39 u49 u59 u69 u79 u89 u99 u109 u119 u129 u139 u149 u159 w159 u169 u179 u189 a49 a59 a69 a79 a89 a99 a109 a119 a129 a149 b49 b59 b69 b79 b89 b149 F'9 N'9 l09 l19 l29 l39 l49 l59 l69 l79 l89 l99 ; (try dsimp only at N'9); (try k_lt l09); (try k_lt2 l19); (try k_lt2 l29); (try k_lt2 l39); (try k_lt2 l49); (try k_lt2 l59); (try k_lt2 l69); (try k_lt2 l79); (try k_lt2 l89); (try k_lt2 l99); (try dsimp only [InitBack]); (try refine ⟨rfl, ?_⟩); (try dsimp only); (try k_sweep))
  | ((with_reducible show wpAny _ _ (call (Value.ref 1157) _ _) _ _ _); refine wpAny_call ?_; refine' set_code_new_use ?fB ?fF ?fX ?fN ?fT ?fk ?fd ?fu ?lo ?hog ?ch0 ?ch1 ?ch2 ?ch3 ?ch4 ?ch5 ?ch6 ?ch7 ?ch8 ?hsub ?U1 ?U2 ?U3 ?U4 ?hz ?_; (case fN => k_asm); (case hsub => k_allIn); (case lo => k_asm); (case hog => k_asm); (case ch0 => walk_at "ord"); (case ch1 => walk_at "ord"); (case ch2 => walk_at "ord"); (case ch3 => walk_at "ord"); (case ch4 => walk_at "ord"); (case ch5 => walk_at "ord"); (case ch6 => walk_at "ord"); (case ch7 => walk_at "ord"); (case ch8 => walk_at "ord"); (case U1 => k_updF); (case U2 => intro _; k_updF); (case U3 => intro _ _; k_updF); (case U4 => intro _ _ _; k_updF); (case hz => exact hz_sd (by with_reducible (repeat (first | apply AddrsOf.nil | apply AddrsOf.cons))) (by with_reducible assumption)); (case fB => k_asm); (case fF => k_asm); (case fX => k_asm); (case fT => k_asm); (case fk => exact ⟨rfl, rfl⟩); (case fd => ((try simp only [depth_under_make, depth_under_kw, depth_in1, depth_deeper, depth_caller]); (try dsimp only [Around.deeper, Around.in1, Around.mark]); first | walk_at "room" | decide)); (case fu => k_units); k_whole; intro h'9 tk9 s49 e49 c119 v09 v19 v29 v39 v49 v59 v69 v79 v89 v99 v109 v119 v129 v139 g19 dg19 wk9 og'9 F'9 N'9 hog'9 l19 l29 l39; (try dsimp only at N'9); (try k_lt l19); (try k_lt2 l29); (try k_lt2 l39); (try dsimp only); (try k_sweep))
  | ((with_reducible show wpAny _ _ (call (Value.ref 1115) _ _) _ _ _); refine wpAny_call ?_; refine' array_of_new_use ?fB ?fF ?fX ?fN ?fT ?fk ?fd ?fu ?lo ?hog ?ch0 ?ch1 ?ch2 ?ch3 ?ch4 ?hsub ?U1 ?U2 ?_; (case fN => k_asm); (case hsub => k_allIn); (case lo => k_asm); (case hog => k_asm); (case ch0 => walk_at "ord"); (case ch1 => walk_at "ord"); (case ch2 => walk_at "ord"); (case ch3 => walk_at "ord"); (case ch4 => walk_at "ord"); (case U1 => k_updF); (case U2 => intro _; k_updF); (case fB => k_asm); (case fF => k_asm); (case fX => k_asm); (case fT => k_asm); (case fk => exact ⟨rfl, rfl⟩); (case fd => ((try simp only [depth_under_make, depth_under_kw, depth_in1, depth_deeper, depth_caller]); (try dsimp only [Around.deeper, Around.in1, Around.mark]); first | walk_at "room" | decide)); (case fu => k_units); k_whole; intro h'9 tk9 e49 ar9 g09 og'9 F'9 N'9 hog'9; (try dsimp only at N'9); (try dsimp only); (try k_sweep)))) | (walk1; (try (with_reducible refine tok3 ?_; intro tk))) | dsimp only | (leave1; (try dsimp only)) | fail "no step")
  unfold Hold
  refine' leaveK_ ?k1 ?k2 ?_
  case k1 => assumption
  case k2 => assumption
  intro kF kN
  have hkeep' := fun b o e q => Fr.keep (by assumption : Fr g' L' _ _) b o (hkeep b o e q)
  have bN : Bx (News _ _ _ _) := ⟨kN⟩
  have bF : Bx (Fr _ _ _ _) := ⟨kF⟩
  clear kN kF
  (repeat (rename Fr _ _ _ _ => hq; clear hq))
  (repeat (rename News _ _ _ _ => hq; clear hq))
  (repeat (rename SD _ => hq; clear hq))
  as_aux_lemma =>
    rename Frag.In _ _ => kX0
    revert kX0
    k_fill
    intro kX0
    have kN := bN.out
    have kF := bF.out
    clear bN bF
    (try dsimp only)
    refine name_fnN kN (Str.ofString "some") (by k_mem) ?_
    intro fs ca1 e1 e2
    subst e1
    subst e2
    refine name_fnN kN (Str.ofString "asked") (by k_mem) ?_
    intro fa ca2 e1 e2
    subst e1
    subst e2
    refine name_fnN kN (Str.ofString "went") (by k_mem) ?_
    intro fw ca3 e1 e2
    subst e1
    subst e2
    refine name_tbN kN (by k_mem) (by k_mem) ?_
    intro mc dmc c1 e1 e2 e3
    subst e1
    subst e2
    subst e3
    refine' k _ _ _ _ _ _ _ _ _ _ _ mc dmc c1 c1 c1 c1 _ _ _ _ _ _ _ _ fa ca2 fs ca1 fw ca3 _ _ _ _ _ _ _ _ _ _ _ _ _ _ _ _ _ _ _ _ _ _ _ _ _ _ _ _ _ _ _ _ _ _ _ _ _ _ _ _ _ _ _ _ _ _ _ _ _ _ _ _ _ _ _ _ _ _ _ _ _ _ _ _ _ _ _ _ _ _ _ _ _ _ _ _ _ _ _ _ _ _ _ _ _ _ _ _ _ _ _ _ kF ?fN ?fK hlow' ?lo ?hnd ?hA ?logl ?hog ?hC ?oc1 ?oc2 ?oc3 ?oc4 ?og1 ?og2 ?og3 ?og4 ?hW ?hS ?cr0 ?cr1 ?cr2 ?cr3 ?cr4 ?cr5 ?cr6 ?cr7 ?cr8 ?cr9 ?cr10 ?cr11 ?cr12 ?cr13 ?cr14 ?cr15 ?cr16 ?cr17
    case hnd => k_asm
    case hog => k_asm
    case fN => exact news_sub kN (by k_allIn)
    case fK => exact hkeep'
    case lo => k_asm
    case logl => k_asm
    case hC => exact ⟨by k_asm, Or.inl ⟨_, _, _, rfl, by k_asm⟩⟩
    case oc1 => first | with_reducible assumption | omega
    case oc2 => first | with_reducible assumption | omega
    case oc3 => first | with_reducible assumption | omega
    case oc4 => first | with_reducible assumption | omega
    case og1 => first | with_reducible assumption | omega
    case og2 => first | with_reducible assumption | omega
    case og3 => first | with_reducible assumption | omega
    case og4 => first | with_reducible assumption | omega
    case cr0 => first | with_reducible assumption | omega
    case cr1 => first | with_reducible assumption | omega
    case cr2 => first | with_reducible assumption | omega
    case cr3 => first | with_reducible assumption | omega
    case cr4 => first | with_reducible assumption | omega
    case cr5 => first | with_reducible assumption | omega
    case cr6 => first | with_reducible assumption | omega
    case cr7 => first | with_reducible assumption | omega
    case cr8 => first | with_reducible assumption | omega
    case cr9 => first | with_reducible assumption | omega
    case cr10 => first | with_reducible assumption | omega
    case cr11 => first | with_reducible assumption | omega
    case cr12 => first | with_reducible assumption | omega
    case cr13 => first | with_reducible assumption | omega
    case cr14 => first | with_reducible assumption | omega
    case cr15 => first | with_reducible assumption | omega
    case cr16 => first | with_reducible assumption | omega
    case cr17 => first | with_reducible assumption | omega
    (repeat (rename (@LT.lt Nat _ _ _) => hq; clear hq))
    case hA =>
      intro A₁ base₁ k₀ outer₁ L₁ m₁ mg₁ mb₁ mean₁ pT₁ looseT₁ s₁ R₁ cn₁ cs₁ cx₁ ccd₁ d₁ u₁ gs₁ news₁ a₁ b₁ c₁ B₁ F₁ X₁ N₁ T₁ hke₁ hd₁ hu₁ m1 m2 k₁
      revert X₁
      k_fill
      intro X₁
      refine' code_nest B₁ F₁ X₁ N₁ T₁ rfl rfl hke₁ ?k6 ?k7 ?k8 ?k9 ?kB ?_ ?c2 ?c3 ?c4 ?c5
      case k6 => k_asm
      case k7 => exact codeRec_news N₁ (by k_asm) (by assumption) (by assumption)
      case k8 => k_room
      case k9 => exact BindsTo.of_eq rfl
      case kB => exact locs rfl
      case c2 => exact rfl
      case c3 => exact rfl
      case c4 => exact rfl
      case c5 => decide
      intro g' L' h' FG' F' N' B' X' T'
      (try dsimp only)
      repeat' (first | (k_unfold; (try dsimp only)) | ((with_reducible show LeaveK k₀ L₁ m₁ _ R₁ _ _); refine hold ?_) | walk1 | (dsimp only; walk1) | (leave1; (try dsimp only)) | fail "no step")
      unfold Hold
      refine' leaveK_ ?k1 ?k2 ?_
      case k1 => assumption
      case k2 => assumption
      intro kF kN
      (try dsimp only)
      exact k₁ _ _ _ kF kN
    case hS =>
      intro A₁ base₁ k₀ outer₁ L₁ m₁ mg₁ mb₁ mean₁ pT₁ looseT₁ s₁ R₁ cn₁ cs₁ cx₁ ccd₁ d₁ u₁ n₁ gs₁ news₁ a₁ c₁ q₁ b₁ vl vs B₁ F₁ X₁ N₁ T₁ hke₁ hd₁ hu₁ m1 m2 m3 m4 m5 k₁
      revert X₁
      k_fill
      intro X₁
      refine' code_nest B₁ F₁ X₁ N₁ T₁ rfl rfl hke₁ ?k6 ?k7 ?k8 ?k9 ?kB ?_ ?c2 ?c3 ?c4 ?c5
      case k6 => k_asm
      case k7 => exact codeRec_news N₁ (by k_asm) (by assumption) (by assumption)
      case k8 => k_room
      case k9 => exact BindsTo.of_eq rfl
      case kB => exact locs rfl
      case c2 => exact rfl
      case c3 => exact rfl
      case c4 => exact rfl
      case c5 => decide
      intro g' L' h' FG' F' N' B' X' T'
      (try dsimp only)
      repeat' (first | (k_unfold; (try dsimp only)) | ((with_reducible show wpAny _ _ (call (Value.type "list") [Value.ref _]) _ _ _); refine hold ?_) | walk1 | (dsimp only; walk1) | (leave1; (try dsimp only)) | fail "no step")
      unfold Hold
      refine list_copyK (by k_asm) (by k_asm) (News.isList (by k_asm) m4) ?_ (size_16 m5)
      intro D c h' F' N' l1
      repeat' (first | (k_unfold; (try dsimp only)) | ((with_reducible show LeaveK k₀ L₁ m₁ _ R₁ _ _); refine hold ?_) | walk1 | (dsimp only; walk1) | (leave1; (try dsimp only)) | fail "no step")
      unfold Hold
      refine' leaveK_ ?k1 ?k2 ?_
      case k1 => assumption
      case k2 => assumption
      intro kF kN
      (try dsimp only)
      exact k₁ _ _ _ _ kF kN l1
    case hW =>
      intro A₁ base₁ k₀ outer₁ L₁ m₁ mg₁ mb₁ mean₁ pT₁ looseT₁ s₁ R₁ cn₁ cs₁ cx₁ ccd₁ d₁ u₁ n₁ n1 gs₁ news₁ g₁ a₁ c₁ ml vs hs B₁ F₁ X₁ N₁ T₁ hke₁ hd₁ hu₁ m1 m2 m3 m4 m5 m6 m7 m8 k₁
      have mhe := updF_self m4
      revert X₁
      k_fill
      intro X₁
      refine' code_nest B₁ F₁ X₁ N₁ T₁ rfl rfl hke₁ ?k6 ?k7 ?k8 ?k9 ?kB ?_ ?c2 ?c3 ?c4 ?c5
      case k6 => k_asm
      case k7 => exact codeRec_news N₁ (by k_asm) (by assumption) (by assumption)
      case k8 => k_room
      case k9 => exact BindsTo.of_eq rfl
      case kB => exact locs rfl
      case c2 => exact rfl
      case c3 => exact rfl
      case c4 => exact rfl
      case c5 => decide
      intro g' L' h' FG' F' N' B' X' T'
      (try dsimp only)
      repeat' (first | (k_unfold; (try dsimp only)) | ((with_reducible show wpAny _ _ (call (Value.builtin "list.append") [Value.ref _, Value.ref _]) _ _ _); refine hold ?_) | walk1 | (dsimp only; walk1) | (leave1; (try dsimp only)) | fail "no step")
      unfold Hold
      refine append_K (by k_asm) (by k_asm) (updF_upd m4 _) ?_ (size_16 m7)
      intro h' F' N'
      simp only [List.push_toArray] at N'
      have mml := updF_mem m4 (listOf (hs ++ [Value.ref ml]).toArray (n₁ + 1)) m8 m5
      repeat' (first | (k_unfold; (try dsimp only)) | ((with_reducible show LeaveK k₀ L₁ m₁ _ R₁ _ _); refine hold ?_) | walk1 | (dsimp only; walk1) | (leave1; (try dsimp only)) | fail "no step")
      unfold Hold
      refine' leaveK_ ?k1 ?k2 ?_
      case k1 => assumption
      case k2 => assumption
      intro kF kN
      (try dsimp only)
      exact k₁ _ _ _ _ kF kN
theorem law_run_spec {w : World} {A₀ : Around} {base : Heap} {h₀ : Heap} {outer : List Env} {L : Addr} {m : Str → Option Value} {mg : Str → Option Value} {mb : Str → Option Value} {mean : ExcName → Option Value} {pT : Program} {looseT : List Str} {s : Shared} {R : Result → Shared → Prop} {cn : Str} {cs : Scope} {ca : Addr} {ccd : Value} {d : Nat} {u : Nat} {gs : Option (List Code)} {la : Tok} {lb : Tok} {lc : Tok} {ld : Tok} {le : Tok} {na1 : Tok} {nb : Tok} {nc : Tok} {nd1 : Tok} {ne : Tok} {lm : Addr} {dlm : Addr} {he : Addr} {bd : Int} {nlm : Nat} {nh : Nat} : law_run_spec_S w A₀ base h₀ outer L m mg mb mean pT looseT s R cn cs ca ccd d u gs la lb lc ld le na1 nb nc nd1 ne lm dlm he bd nlm nh := @ec_all law_run_spec_P (law_run_spec_eq ▸ law_run_spec_m) { wo := fun n => [w].getD n (aWorld 1), ar := fun n => [A₀].getD n (callerA), hp := fun n => [base, h₀].getD n (default), le := fun n => [outer].getD n ([]), ad := fun n => [L, ca, lm, dlm, he].getD n (0), mp := fun n => [m, mg, mb].getD n (fun _ => none), en := fun n => [mean].getD n (fun _ => none), pg := fun n => [pT].getD n (default), ls := fun n => [looseT].getD n ([]), sh := fun n => [s].getD n ⟨default, #[], {}, 0, {}⟩, rs := fun n => [R].getD n (fun _ _ => True), sr := fun n => [cn].getD n (default), sc := fun n => [cs].getD n (default), va := fun n => [ccd].getD n (.none), nt := fun n => [d, u, nlm, nh].getD n (0), oc := fun n => [gs].getD n (none), tk := fun n => [la, lb, lc, ld, le, na1, nb, nc, nd1, ne].getD n (0), ob := fun _ => (default), iz := fun _ => (0), lv := fun _ => ([]), ll := fun _ => ([]), oa := fun _ => (none), fd := fun _ => (default), av := fun _ => (#[]), li := fun _ => ([]), aw := fun _ => (#[]), ev := fun _ => (default) } bd
end
section
theorem law_run_st {w : World} {A₀ : Around} {base h₀ : Heap} {outer : List Env} {L : Addr} {m mg mb : Str → Option Value} {mean : ExcName → Option Value} {pT : Program} {looseT : List Str} {s : Shared} {R : Result → Shared → Prop}
    {cn : Str} {cs : Scope} {ca : Addr} {ccd : Value} {d u : Nat} {gs : Option (List Code)}
    {lm dlm he z : Addr} {la lb lc ld le na1 nb nc nd1 ne : Tok} {bd : Int} {nlm nh : Nat} {oz : Obj} {gT : Obj → List (Addr × Obj)} {full : List (Addr × Obj)} {bo : Addr}
    (B : Below A₀ base outer h₀) (F : Fr h₀ L s.heap m) (X₀ : (hd.heap_1 w.params).In h₀) (N : News h₀ L s.heap full) (T : Top pT looseT mean mg mb h₀)
    (hke : cs.kind = .function) (hroom : d < 600) (hun : u < 1000)
    (codeHd : CodeHd base 1170 1166) (o66 : @LT.lt Nat _ 1166 he) (odl : @LT.lt Nat _ he dlm) (olm : @LT.lt Nat _ dlm lm) (hsub : ∀ p ∈ ((lm, (⟨.ref 1076, some dlm, .plain, #[]⟩ : Obj)) :: (dlm, dictOf [⟨PyData.keyHash w.params (Str.ofString "width"), .str (Str.ofString "width") la, .int 64 na1⟩, ⟨PyData.keyHash w.params (Str.ofString "depth"), .str (Str.ofString "depth") lb, .int 50 nb⟩, ⟨PyData.keyHash w.params (Str.ofString "steps"), .str (Str.ofString "steps") lc, .int 1000000 nc⟩, ⟨PyData.keyHash w.params (Str.ofString "text"), .str (Str.ofString "text") ld, .int 100000 nd1⟩, ⟨PyData.keyHash w.params (Str.ofString "items"), .str (Str.ofString "items") le, .int bd ne⟩] nlm) :: (he, listOf #[] nh) :: (1166, tabObj #[]) :: []), p ∈ full) (hz1 : (z, oz) ∈ full) (U : UpdF 1166 (tabObj #[]) full gT) (hz : ∀ p ∈ full, @LE.le Nat _ p.1 z) (hbo : @LT.lt Nat _ bo dlm)
    (k : ∀ h' tk ps run g1 rest, Fr h₀ L h' m → News h₀ L h' (gT (tabObj ps) ++ rest) → St w run he bd bo g1 [] [] rest → R (.ok (.ret (.ref run))) { s with heap := h', toks := tk }) :
    codeAny (model PySem.Challenge.rw_qz0130_01.row.prog w) (Around.mk none d (some (envOf cn cs L ca ccd :: outer)) gs u) (.call (.ref 1171) ⟨[.ref lm, .ref he], []⟩) R s := by
  have n_lm : lm ≠ 1166 := Nat.ne_of_gt (Nat.lt_trans (Nat.lt_trans o66 odl) olm)
  have n_dl : dlm ≠ 1166 := Nat.ne_of_gt (Nat.lt_trans o66 odl)
  refine law_run_spec (he := he) (lm := lm) (dlm := dlm) B F X₀ (news_sub N hsub) T hke hroom hun codeHd o66 odl olm ?_
  intro h' tk ps run drun hp ct st dst gl nd mc dmc c1 c2 c3 c4 g1 dg1 gaw cd dcd cap cow g0 fa ca2 fs ca1 fw ca3 ce x5 x6 x7 x8 x9 x10 x11 x12 x14 r0 r1 r2 r3 r4 r5 r6 r7 r8 r9 r10 r11 r12 r13 r14 r15 r16 r17 r18 q0 ta tb1 tc td gab gac gad gae gaf gag gah gai gaj gak gal gam gao gaa coa cob coc cod coe cof cog coh coi coj cok con1 con2 nrun nst ng1 ncd og odmc o1 o2 o3 o4 ond ocA ocS ocW oce gan0 gan con con0 oca ocs ocw oda ods odw fda fds fdw sla sls slw F' N0 K low lo hnd hA logl hog hC oc1 oc2 oc3 oc4 og1 og2 og3 og4 hW hS ch0 ch1 ch2 ch3 ch4 ch5 ch6 ch7 ch8 ch9 ch10 ch11 ch12 ch13 ch14 ch15 ch16 ch17
  have chz := low _ _ (N _ hz1).1
  have y := keep_but (d := 1166) (o := tabObj #[]) (o' := tabObj ps) (news_sub N hsub) (by k_updF) (news_sub N0 (by k_allIn)) K
  have N' := news_two (a := ((run, (⟨.ref 559, some drun, .plain, #[]⟩ : Obj)) :: (drun, dictOf [⟨PyData.keyHash w.params (Str.ofString "heap"), .str (Str.ofString "heap") r0, .ref hp⟩, ⟨PyData.keyHash w.params (Str.ofString "counter"), .str (Str.ofString "counter") r1, .ref ct⟩, ⟨PyData.keyHash w.params (Str.ofString "stash"), .str (Str.ofString "stash") r2, .ref st⟩, ⟨PyData.keyHash w.params (Str.ofString "limits"), .str (Str.ofString "limits") r3, .ref lm⟩, ⟨PyData.keyHash w.params (Str.ofString "nodes"), .str (Str.ofString "nodes") r4, .ref nd⟩, ⟨PyData.keyHash w.params (Str.ofString "lvs"), .str (Str.ofString "lvs") r5, .ref x5⟩, ⟨PyData.keyHash w.params (Str.ofString "statements"), .str (Str.ofString "statements") r6, .ref x6⟩, ⟨PyData.keyHash w.params (Str.ofString "funcs"), .str (Str.ofString "funcs") r7, .ref x7⟩, ⟨PyData.keyHash w.params (Str.ofString "operators"), .str (Str.ofString "operators") r8, .ref x8⟩, ⟨PyData.keyHash w.params (Str.ofString "out"), .str (Str.ofString "out") r9, .ref x9⟩, ⟨PyData.keyHash w.params (Str.ofString "err"), .str (Str.ofString "err") r10, .ref x10⟩, ⟨PyData.keyHash w.params (Str.ofString "saves"), .str (Str.ofString "saves") r11, .ref x11⟩, ⟨PyData.keyHash w.params (Str.ofString "frames"), .str (Str.ofString "frames") r12, .ref x12⟩, ⟨PyData.keyHash w.params (Str.ofString "match"), .str (Str.ofString "match") r13, .none⟩, ⟨PyData.keyHash w.params (Str.ofString "patterns"), .str (Str.ofString "patterns") r14, .ref x14⟩, ⟨PyData.keyHash w.params (Str.ofString "steps"), .str (Str.ofString "steps") r15, .int 0 q0⟩, ⟨PyData.keyHash w.params (Str.ofString "methods"), .str (Str.ofString "methods") r16, .ref mc⟩, ⟨PyData.keyHash w.params (Str.ofString "call_code"), .str (Str.ofString "call_code") r17, .none⟩, ⟨PyData.keyHash w.params (Str.ofString "compile_text"), .str (Str.ofString "compile_text") r18, .none⟩] nrun) :: (nd, ond) :: (fa, (⟨oca, oda, .func fda, sla⟩ : Obj)) :: (ca2, ocA) :: (fs, (⟨ocs, ods, .func fds, sls⟩ : Obj)) :: (ca1, ocS) :: (st, (⟨.ref 1139, some dst, .plain, #[]⟩ : Obj)) :: (dst, dictOf [⟨PyData.keyHash w.params (Str.ofString "heap"), .str (Str.ofString "heap") ta, .ref hp⟩, ⟨PyData.keyHash w.params (Str.ofString "globs"), .str (Str.ofString "globs") tb1, .ref gl⟩, ⟨PyData.keyHash w.params (Str.ofString "generation"), .str (Str.ofString "generation") tc, .int 1 td⟩] nst) :: (gl, og) :: (g1, (⟨.ref 142, some dg1, .plain, #[]⟩ : Obj)) :: (dg1, dictOf [⟨PyData.keyHash w.params (Str.ofString "number"), .str (Str.ofString "number") gaa, .int gan0 gab⟩, ⟨PyData.keyHash w.params (Str.ofString "count"), .str (Str.ofString "count") gac, .int gan gad⟩, ⟨PyData.keyHash w.params (Str.ofString "blessed"), .str (Str.ofString "blessed") gae, .none⟩, ⟨PyData.keyHash w.params (Str.ofString "weak"), .str (Str.ofString "weak") gaf, .ref gaw⟩, ⟨PyData.keyHash w.params (Str.ofString "is_destroyed"), .str (Str.ofString "is_destroyed") gag, .bool false⟩, ⟨PyData.keyHash w.params (Str.ofString "is_freed"), .str (Str.ofString "is_freed") gah, .bool false⟩, ⟨PyData.keyHash w.params (Str.ofString "name"), .str (Str.ofString "name") gai, .str (Str.ofString "P::go") gaj⟩, ⟨PyData.keyHash w.params (Str.ofString "scalar"), .str (Str.ofString "scalar") gak, .none⟩, ⟨PyData.keyHash w.params (Str.ofString "array"), .str (Str.ofString "array") gal, .none⟩, ⟨PyData.keyHash w.params (Str.ofString "hash"), .str (Str.ofString "hash") gam, .none⟩, ⟨PyData.keyHash w.params (Str.ofString "code"), .str (Str.ofString "code") gao, .ref cd⟩] ng1) :: (mc, (⟨.ref 656, some dmc, .plain, #[]⟩ : Obj)) :: (dmc, odmc) :: (cd, (⟨.ref 123, some dcd, .plain, #[]⟩ : Obj)) :: (dcd, dictOf [⟨PyData.keyHash w.params (Str.ofString "number"), .str (Str.ofString "number") coa, .int con0 cob⟩, ⟨PyData.keyHash w.params (Str.ofString "count"), .str (Str.ofString "count") coc, .int con cod⟩, ⟨PyData.keyHash w.params (Str.ofString "blessed"), .str (Str.ofString "blessed") coe, .none⟩, ⟨PyData.keyHash w.params (Str.ofString "weak"), .str (Str.ofString "weak") cof, .ref cow⟩, ⟨PyData.keyHash w.params (Str.ofString "is_destroyed"), .str (Str.ofString "is_destroyed") cog, .bool false⟩, ⟨PyData.keyHash w.params (Str.ofString "is_freed"), .str (Str.ofString "is_freed") coh, .bool false⟩, ⟨PyData.keyHash w.params (Str.ofString "sub"), .str (Str.ofString "sub") coi, .none⟩, ⟨PyData.keyHash w.params (Str.ofString "captures"), .str (Str.ofString "captures") coj, .ref cap⟩, ⟨PyData.keyHash w.params (Str.ofString "builtin"), .str (Str.ofString "builtin") cok, .ref fw⟩, ⟨PyData.keyHash w.params (Str.ofString "package"), .str (Str.ofString "package") con1, .str (Str.ofString "main") con2⟩] ncd) :: (fw, (⟨ocw, odw, .func fdw, slw⟩ : Obj)) :: (ca3, ocW) :: (ce, oce) :: (c1, o1) :: (c2, o2) :: (c3, o3) :: (c4, o4) :: [])) (news_sub N0 (by k_allIn)) (news_upd N U y.1 y.2)
  have hs9 : ∀ p ∈ ((c1, o1) :: (c2, o2) :: (c3, o3) :: (c4, o4) :: (g1, (⟨.ref 142, some dg1, .plain, #[]⟩ : Obj)) :: (dg1, dictOf [⟨PyData.keyHash w.params (Str.ofString "number"), .str (Str.ofString "number") gaa, .int gan0 gab⟩, ⟨PyData.keyHash w.params (Str.ofString "count"), .str (Str.ofString "count") gac, .int gan gad⟩, ⟨PyData.keyHash w.params (Str.ofString "blessed"), .str (Str.ofString "blessed") gae, .none⟩, ⟨PyData.keyHash w.params (Str.ofString "weak"), .str (Str.ofString "weak") gaf, .ref gaw⟩, ⟨PyData.keyHash w.params (Str.ofString "is_destroyed"), .str (Str.ofString "is_destroyed") gag, .bool false⟩, ⟨PyData.keyHash w.params (Str.ofString "is_freed"), .str (Str.ofString "is_freed") gah, .bool false⟩, ⟨PyData.keyHash w.params (Str.ofString "name"), .str (Str.ofString "name") gai, .str (Str.ofString "P::go") gaj⟩, ⟨PyData.keyHash w.params (Str.ofString "scalar"), .str (Str.ofString "scalar") gak, .none⟩, ⟨PyData.keyHash w.params (Str.ofString "array"), .str (Str.ofString "array") gal, .none⟩, ⟨PyData.keyHash w.params (Str.ofString "hash"), .str (Str.ofString "hash") gam, .none⟩, ⟨PyData.keyHash w.params (Str.ofString "code"), .str (Str.ofString "code") gao, .ref cd⟩] ng1) :: (cd, (⟨.ref 123, some dcd, .plain, #[]⟩ : Obj)) :: (dcd, dictOf [⟨PyData.keyHash w.params (Str.ofString "number"), .str (Str.ofString "number") coa, .int con0 cob⟩, ⟨PyData.keyHash w.params (Str.ofString "count"), .str (Str.ofString "count") coc, .int con cod⟩, ⟨PyData.keyHash w.params (Str.ofString "blessed"), .str (Str.ofString "blessed") coe, .none⟩, ⟨PyData.keyHash w.params (Str.ofString "weak"), .str (Str.ofString "weak") cof, .ref cow⟩, ⟨PyData.keyHash w.params (Str.ofString "is_destroyed"), .str (Str.ofString "is_destroyed") cog, .bool false⟩, ⟨PyData.keyHash w.params (Str.ofString "is_freed"), .str (Str.ofString "is_freed") coh, .bool false⟩, ⟨PyData.keyHash w.params (Str.ofString "sub"), .str (Str.ofString "sub") coi, .none⟩, ⟨PyData.keyHash w.params (Str.ofString "captures"), .str (Str.ofString "captures") coj, .ref cap⟩, ⟨PyData.keyHash w.params (Str.ofString "builtin"), .str (Str.ofString "builtin") cok, .ref fw⟩, ⟨PyData.keyHash w.params (Str.ofString "package"), .str (Str.ofString "package") con1, .str (Str.ofString "main") con2⟩] ncd) :: (nd, ond) :: (fw, (⟨ocw, odw, .func fdw, slw⟩ : Obj)) :: (ca3, ocW) :: (fa, (⟨oca, oda, .func fda, sla⟩ : Obj)) :: (ca2, ocA) :: (fs, (⟨ocs, ods, .func fds, sls⟩ : Obj)) :: (ca1, ocS) :: (mc, (⟨.ref 656, some dmc, .plain, #[]⟩ : Obj)) :: (dmc, odmc) :: (run, (⟨.ref 559, some drun, .plain, #[]⟩ : Obj)) :: (drun, dictOf [⟨PyData.keyHash w.params (Str.ofString "heap"), .str (Str.ofString "heap") r0, .ref hp⟩, ⟨PyData.keyHash w.params (Str.ofString "counter"), .str (Str.ofString "counter") r1, .ref ct⟩, ⟨PyData.keyHash w.params (Str.ofString "stash"), .str (Str.ofString "stash") r2, .ref st⟩, ⟨PyData.keyHash w.params (Str.ofString "limits"), .str (Str.ofString "limits") r3, .ref lm⟩, ⟨PyData.keyHash w.params (Str.ofString "nodes"), .str (Str.ofString "nodes") r4, .ref nd⟩, ⟨PyData.keyHash w.params (Str.ofString "lvs"), .str (Str.ofString "lvs") r5, .ref x5⟩, ⟨PyData.keyHash w.params (Str.ofString "statements"), .str (Str.ofString "statements") r6, .ref x6⟩, ⟨PyData.keyHash w.params (Str.ofString "funcs"), .str (Str.ofString "funcs") r7, .ref x7⟩, ⟨PyData.keyHash w.params (Str.ofString "operators"), .str (Str.ofString "operators") r8, .ref x8⟩, ⟨PyData.keyHash w.params (Str.ofString "out"), .str (Str.ofString "out") r9, .ref x9⟩, ⟨PyData.keyHash w.params (Str.ofString "err"), .str (Str.ofString "err") r10, .ref x10⟩, ⟨PyData.keyHash w.params (Str.ofString "saves"), .str (Str.ofString "saves") r11, .ref x11⟩, ⟨PyData.keyHash w.params (Str.ofString "frames"), .str (Str.ofString "frames") r12, .ref x12⟩, ⟨PyData.keyHash w.params (Str.ofString "match"), .str (Str.ofString "match") r13, .none⟩, ⟨PyData.keyHash w.params (Str.ofString "patterns"), .str (Str.ofString "patterns") r14, .ref x14⟩, ⟨PyData.keyHash w.params (Str.ofString "steps"), .str (Str.ofString "steps") r15, .int 0 q0⟩, ⟨PyData.keyHash w.params (Str.ofString "methods"), .str (Str.ofString "methods") r16, .ref mc⟩, ⟨PyData.keyHash w.params (Str.ofString "call_code"), .str (Str.ofString "call_code") r17, .none⟩, ⟨PyData.keyHash w.params (Str.ofString "compile_text"), .str (Str.ofString "compile_text") r18, .none⟩] nrun) :: (gl, og) :: (st, (⟨.ref 1139, some dst, .plain, #[]⟩ : Obj)) :: (dst, dictOf [⟨PyData.keyHash w.params (Str.ofString "heap"), .str (Str.ofString "heap") ta, .ref hp⟩, ⟨PyData.keyHash w.params (Str.ofString "globs"), .str (Str.ofString "globs") tb1, .ref gl⟩, ⟨PyData.keyHash w.params (Str.ofString "generation"), .str (Str.ofString "generation") tc, .int 1 td⟩] nst) :: (ce, oce) :: (lm, (⟨.ref 1076, some dlm, .plain, #[]⟩ : Obj)) :: (dlm, dictOf [⟨PyData.keyHash w.params (Str.ofString "width"), .str (Str.ofString "width") la, .int 64 na1⟩, ⟨PyData.keyHash w.params (Str.ofString "depth"), .str (Str.ofString "depth") lb, .int 50 nb⟩, ⟨PyData.keyHash w.params (Str.ofString "steps"), .str (Str.ofString "steps") lc, .int 1000000 nc⟩, ⟨PyData.keyHash w.params (Str.ofString "text"), .str (Str.ofString "text") ld, .int 100000 nd1⟩, ⟨PyData.keyHash w.params (Str.ofString "items"), .str (Str.ofString "items") le, .int bd ne⟩] nlm) :: []), p ∈ ((run, (⟨.ref 559, some drun, .plain, #[]⟩ : Obj)) :: (drun, dictOf [⟨PyData.keyHash w.params (Str.ofString "heap"), .str (Str.ofString "heap") r0, .ref hp⟩, ⟨PyData.keyHash w.params (Str.ofString "counter"), .str (Str.ofString "counter") r1, .ref ct⟩, ⟨PyData.keyHash w.params (Str.ofString "stash"), .str (Str.ofString "stash") r2, .ref st⟩, ⟨PyData.keyHash w.params (Str.ofString "limits"), .str (Str.ofString "limits") r3, .ref lm⟩, ⟨PyData.keyHash w.params (Str.ofString "nodes"), .str (Str.ofString "nodes") r4, .ref nd⟩, ⟨PyData.keyHash w.params (Str.ofString "lvs"), .str (Str.ofString "lvs") r5, .ref x5⟩, ⟨PyData.keyHash w.params (Str.ofString "statements"), .str (Str.ofString "statements") r6, .ref x6⟩, ⟨PyData.keyHash w.params (Str.ofString "funcs"), .str (Str.ofString "funcs") r7, .ref x7⟩, ⟨PyData.keyHash w.params (Str.ofString "operators"), .str (Str.ofString "operators") r8, .ref x8⟩, ⟨PyData.keyHash w.params (Str.ofString "out"), .str (Str.ofString "out") r9, .ref x9⟩, ⟨PyData.keyHash w.params (Str.ofString "err"), .str (Str.ofString "err") r10, .ref x10⟩, ⟨PyData.keyHash w.params (Str.ofString "saves"), .str (Str.ofString "saves") r11, .ref x11⟩, ⟨PyData.keyHash w.params (Str.ofString "frames"), .str (Str.ofString "frames") r12, .ref x12⟩, ⟨PyData.keyHash w.params (Str.ofString "match"), .str (Str.ofString "match") r13, .none⟩, ⟨PyData.keyHash w.params (Str.ofString "patterns"), .str (Str.ofString "patterns") r14, .ref x14⟩, ⟨PyData.keyHash w.params (Str.ofString "steps"), .str (Str.ofString "steps") r15, .int 0 q0⟩, ⟨PyData.keyHash w.params (Str.ofString "methods"), .str (Str.ofString "methods") r16, .ref mc⟩, ⟨PyData.keyHash w.params (Str.ofString "call_code"), .str (Str.ofString "call_code") r17, .none⟩, ⟨PyData.keyHash w.params (Str.ofString "compile_text"), .str (Str.ofString "compile_text") r18, .none⟩] nrun) :: (nd, ond) :: (fa, (⟨oca, oda, .func fda, sla⟩ : Obj)) :: (ca2, ocA) :: (fs, (⟨ocs, ods, .func fds, sls⟩ : Obj)) :: (ca1, ocS) :: (st, (⟨.ref 1139, some dst, .plain, #[]⟩ : Obj)) :: (dst, dictOf [⟨PyData.keyHash w.params (Str.ofString "heap"), .str (Str.ofString "heap") ta, .ref hp⟩, ⟨PyData.keyHash w.params (Str.ofString "globs"), .str (Str.ofString "globs") tb1, .ref gl⟩, ⟨PyData.keyHash w.params (Str.ofString "generation"), .str (Str.ofString "generation") tc, .int 1 td⟩] nst) :: (gl, og) :: (g1, (⟨.ref 142, some dg1, .plain, #[]⟩ : Obj)) :: (dg1, dictOf [⟨PyData.keyHash w.params (Str.ofString "number"), .str (Str.ofString "number") gaa, .int gan0 gab⟩, ⟨PyData.keyHash w.params (Str.ofString "count"), .str (Str.ofString "count") gac, .int gan gad⟩, ⟨PyData.keyHash w.params (Str.ofString "blessed"), .str (Str.ofString "blessed") gae, .none⟩, ⟨PyData.keyHash w.params (Str.ofString "weak"), .str (Str.ofString "weak") gaf, .ref gaw⟩, ⟨PyData.keyHash w.params (Str.ofString "is_destroyed"), .str (Str.ofString "is_destroyed") gag, .bool false⟩, ⟨PyData.keyHash w.params (Str.ofString "is_freed"), .str (Str.ofString "is_freed") gah, .bool false⟩, ⟨PyData.keyHash w.params (Str.ofString "name"), .str (Str.ofString "name") gai, .str (Str.ofString "P::go") gaj⟩, ⟨PyData.keyHash w.params (Str.ofString "scalar"), .str (Str.ofString "scalar") gak, .none⟩, ⟨PyData.keyHash w.params (Str.ofString "array"), .str (Str.ofString "array") gal, .none⟩, ⟨PyData.keyHash w.params (Str.ofString "hash"), .str (Str.ofString "hash") gam, .none⟩, ⟨PyData.keyHash w.params (Str.ofString "code"), .str (Str.ofString "code") gao, .ref cd⟩] ng1) :: (mc, (⟨.ref 656, some dmc, .plain, #[]⟩ : Obj)) :: (dmc, odmc) :: (cd, (⟨.ref 123, some dcd, .plain, #[]⟩ : Obj)) :: (dcd, dictOf [⟨PyData.keyHash w.params (Str.ofString "number"), .str (Str.ofString "number") coa, .int con0 cob⟩, ⟨PyData.keyHash w.params (Str.ofString "count"), .str (Str.ofString "count") coc, .int con cod⟩, ⟨PyData.keyHash w.params (Str.ofString "blessed"), .str (Str.ofString "blessed") coe, .none⟩, ⟨PyData.keyHash w.params (Str.ofString "weak"), .str (Str.ofString "weak") cof, .ref cow⟩, ⟨PyData.keyHash w.params (Str.ofString "is_destroyed"), .str (Str.ofString "is_destroyed") cog, .bool false⟩, ⟨PyData.keyHash w.params (Str.ofString "is_freed"), .str (Str.ofString "is_freed") coh, .bool false⟩, ⟨PyData.keyHash w.params (Str.ofString "sub"), .str (Str.ofString "sub") coi, .none⟩, ⟨PyData.keyHash w.params (Str.ofString "captures"), .str (Str.ofString "captures") coj, .ref cap⟩, ⟨PyData.keyHash w.params (Str.ofString "builtin"), .str (Str.ofString "builtin") cok, .ref fw⟩, ⟨PyData.keyHash w.params (Str.ofString "package"), .str (Str.ofString "package") con1, .str (Str.ofString "main") con2⟩] ncd) :: (fw, (⟨ocw, odw, .func fdw, slw⟩ : Obj)) :: (ca3, ocW) :: (ce, oce) :: (c1, o1) :: (c2, o2) :: (c3, o3) :: (c4, o4) :: []) ++ gT (tabObj ps) := (all_cons (List.mem_append_left _ (List.Mem.tail _ (List.Mem.tail _ (List.Mem.tail _ (List.Mem.tail _ (List.Mem.tail _ (List.Mem.tail _ (List.Mem.tail _ (List.Mem.tail _ (List.Mem.tail _ (List.Mem.tail _ (List.Mem.tail _ (List.Mem.tail _ (List.Mem.tail _ (List.Mem.tail _ (List.Mem.tail _ (List.Mem.tail _ (List.Mem.tail _ (List.Mem.tail _ (List.Mem.tail _ (List.Mem.head _))))))))))))))))))))) (all_cons (List.mem_append_left _ (List.Mem.tail _ (List.Mem.tail _ (List.Mem.tail _ (List.Mem.tail _ (List.Mem.tail _ (List.Mem.tail _ (List.Mem.tail _ (List.Mem.tail _ (List.Mem.tail _ (List.Mem.tail _ (List.Mem.tail _ (List.Mem.tail _ (List.Mem.tail _ (List.Mem.tail _ (List.Mem.tail _ (List.Mem.tail _ (List.Mem.tail _ (List.Mem.tail _ (List.Mem.tail _ (List.Mem.tail _ (List.Mem.head _)))))))))))))))))))))) (all_cons (List.mem_append_left _ (List.Mem.tail _ (List.Mem.tail _ (List.Mem.tail _ (List.Mem.tail _ (List.Mem.tail _ (List.Mem.tail _ (List.Mem.tail _ (List.Mem.tail _ (List.Mem.tail _ (List.Mem.tail _ (List.Mem.tail _ (List.Mem.tail _ (List.Mem.tail _ (List.Mem.tail _ (List.Mem.tail _ (List.Mem.tail _ (List.Mem.tail _ (List.Mem.tail _ (List.Mem.tail _ (List.Mem.tail _ (List.Mem.tail _ (List.Mem.head _))))))))))))))))))))))) (all_cons (List.mem_append_left _ (List.Mem.tail _ (List.Mem.tail _ (List.Mem.tail _ (List.Mem.tail _ (List.Mem.tail _ (List.Mem.tail _ (List.Mem.tail _ (List.Mem.tail _ (List.Mem.tail _ (List.Mem.tail _ (List.Mem.tail _ (List.Mem.tail _ (List.Mem.tail _ (List.Mem.tail _ (List.Mem.tail _ (List.Mem.tail _ (List.Mem.tail _ (List.Mem.tail _ (List.Mem.tail _ (List.Mem.tail _ (List.Mem.tail _ (List.Mem.tail _ (List.Mem.head _)))))))))))))))))))))))) (all_cons (List.mem_append_left _ (List.Mem.tail _ (List.Mem.tail _ (List.Mem.tail _ (List.Mem.tail _ (List.Mem.tail _ (List.Mem.tail _ (List.Mem.tail _ (List.Mem.tail _ (List.Mem.tail _ (List.Mem.tail _ (List.Mem.head _)))))))))))) (all_cons (List.mem_append_left _ (List.Mem.tail _ (List.Mem.tail _ (List.Mem.tail _ (List.Mem.tail _ (List.Mem.tail _ (List.Mem.tail _ (List.Mem.tail _ (List.Mem.tail _ (List.Mem.tail _ (List.Mem.tail _ (List.Mem.tail _ (List.Mem.head _))))))))))))) (all_cons (List.mem_append_left _ (List.Mem.tail _ (List.Mem.tail _ (List.Mem.tail _ (List.Mem.tail _ (List.Mem.tail _ (List.Mem.tail _ (List.Mem.tail _ (List.Mem.tail _ (List.Mem.tail _ (List.Mem.tail _ (List.Mem.tail _ (List.Mem.tail _ (List.Mem.tail _ (List.Mem.tail _ (List.Mem.head _)))))))))))))))) (all_cons (List.mem_append_left _ (List.Mem.tail _ (List.Mem.tail _ (List.Mem.tail _ (List.Mem.tail _ (List.Mem.tail _ (List.Mem.tail _ (List.Mem.tail _ (List.Mem.tail _ (List.Mem.tail _ (List.Mem.tail _ (List.Mem.tail _ (List.Mem.tail _ (List.Mem.tail _ (List.Mem.tail _ (List.Mem.tail _ (List.Mem.head _))))))))))))))))) (all_cons (List.mem_append_left _ (List.Mem.tail _ (List.Mem.tail _ (List.Mem.head _)))) (all_cons (List.mem_append_left _ (List.Mem.tail _ (List.Mem.tail _ (List.Mem.tail _ (List.Mem.tail _ (List.Mem.tail _ (List.Mem.tail _ (List.Mem.tail _ (List.Mem.tail _ (List.Mem.tail _ (List.Mem.tail _ (List.Mem.tail _ (List.Mem.tail _ (List.Mem.tail _ (List.Mem.tail _ (List.Mem.tail _ (List.Mem.tail _ (List.Mem.head _)))))))))))))))))) (all_cons (List.mem_append_left _ (List.Mem.tail _ (List.Mem.tail _ (List.Mem.tail _ (List.Mem.tail _ (List.Mem.tail _ (List.Mem.tail _ (List.Mem.tail _ (List.Mem.tail _ (List.Mem.tail _ (List.Mem.tail _ (List.Mem.tail _ (List.Mem.tail _ (List.Mem.tail _ (List.Mem.tail _ (List.Mem.tail _ (List.Mem.tail _ (List.Mem.tail _ (List.Mem.head _))))))))))))))))))) (all_cons (List.mem_append_left _ (List.Mem.tail _ (List.Mem.tail _ (List.Mem.tail _ (List.Mem.head _))))) (all_cons (List.mem_append_left _ (List.Mem.tail _ (List.Mem.tail _ (List.Mem.tail _ (List.Mem.tail _ (List.Mem.head _)))))) (all_cons (List.mem_append_left _ (List.Mem.tail _ (List.Mem.tail _ (List.Mem.tail _ (List.Mem.tail _ (List.Mem.tail _ (List.Mem.head _))))))) (all_cons (List.mem_append_left _ (List.Mem.tail _ (List.Mem.tail _ (List.Mem.tail _ (List.Mem.tail _ (List.Mem.tail _ (List.Mem.tail _ (List.Mem.head _)))))))) (all_cons (List.mem_append_left _ (List.Mem.tail _ (List.Mem.tail _ (List.Mem.tail _ (List.Mem.tail _ (List.Mem.tail _ (List.Mem.tail _ (List.Mem.tail _ (List.Mem.tail _ (List.Mem.tail _ (List.Mem.tail _ (List.Mem.tail _ (List.Mem.tail _ (List.Mem.head _)))))))))))))) (all_cons (List.mem_append_left _ (List.Mem.tail _ (List.Mem.tail _ (List.Mem.tail _ (List.Mem.tail _ (List.Mem.tail _ (List.Mem.tail _ (List.Mem.tail _ (List.Mem.tail _ (List.Mem.tail _ (List.Mem.tail _ (List.Mem.tail _ (List.Mem.tail _ (List.Mem.tail _ (List.Mem.head _))))))))))))))) (all_cons (List.mem_append_left _ (List.Mem.head _)) (all_cons (List.mem_append_left _ (List.Mem.tail _ (List.Mem.head _))) (all_cons (List.mem_append_left _ (List.Mem.tail _ (List.Mem.tail _ (List.Mem.tail _ (List.Mem.tail _ (List.Mem.tail _ (List.Mem.tail _ (List.Mem.tail _ (List.Mem.tail _ (List.Mem.tail _ (List.Mem.head _))))))))))) (all_cons (List.mem_append_left _ (List.Mem.tail _ (List.Mem.tail _ (List.Mem.tail _ (List.Mem.tail _ (List.Mem.tail _ (List.Mem.tail _ (List.Mem.tail _ (List.Mem.head _))))))))) (all_cons (List.mem_append_left _ (List.Mem.tail _ (List.Mem.tail _ (List.Mem.tail _ (List.Mem.tail _ (List.Mem.tail _ (List.Mem.tail _ (List.Mem.tail _ (List.Mem.tail _ (List.Mem.head _)))))))))) (all_cons (List.mem_append_left _ (List.Mem.tail _ (List.Mem.tail _ (List.Mem.tail _ (List.Mem.tail _ (List.Mem.tail _ (List.Mem.tail _ (List.Mem.tail _ (List.Mem.tail _ (List.Mem.tail _ (List.Mem.tail _ (List.Mem.tail _ (List.Mem.tail _ (List.Mem.tail _ (List.Mem.tail _ (List.Mem.tail _ (List.Mem.tail _ (List.Mem.tail _ (List.Mem.tail _ (List.Mem.head _)))))))))))))))))))) (all_cons (List.mem_append_right _ (updF_mem U _ n_lm (hsub _ (List.Mem.head _)))) (all_cons (List.mem_append_right _ (updF_mem U _ n_dl (hsub _ (List.Mem.tail _ (List.Mem.head _))))) (fun _ h => (List.not_mem_nil h).elim))))))))))))))))))))))))))
  refine k h' tk ps run g1 _ F' (fun p9 hp9 => N' p9 (show p9 ∈ ((run, (⟨.ref 559, some drun, .plain, #[]⟩ : Obj)) :: (drun, dictOf [⟨PyData.keyHash w.params (Str.ofString "heap"), .str (Str.ofString "heap") r0, .ref hp⟩, ⟨PyData.keyHash w.params (Str.ofString "counter"), .str (Str.ofString "counter") r1, .ref ct⟩, ⟨PyData.keyHash w.params (Str.ofString "stash"), .str (Str.ofString "stash") r2, .ref st⟩, ⟨PyData.keyHash w.params (Str.ofString "limits"), .str (Str.ofString "limits") r3, .ref lm⟩, ⟨PyData.keyHash w.params (Str.ofString "nodes"), .str (Str.ofString "nodes") r4, .ref nd⟩, ⟨PyData.keyHash w.params (Str.ofString "lvs"), .str (Str.ofString "lvs") r5, .ref x5⟩, ⟨PyData.keyHash w.params (Str.ofString "statements"), .str (Str.ofString "statements") r6, .ref x6⟩, ⟨PyData.keyHash w.params (Str.ofString "funcs"), .str (Str.ofString "funcs") r7, .ref x7⟩, ⟨PyData.keyHash w.params (Str.ofString "operators"), .str (Str.ofString "operators") r8, .ref x8⟩, ⟨PyData.keyHash w.params (Str.ofString "out"), .str (Str.ofString "out") r9, .ref x9⟩, ⟨PyData.keyHash w.params (Str.ofString "err"), .str (Str.ofString "err") r10, .ref x10⟩, ⟨PyData.keyHash w.params (Str.ofString "saves"), .str (Str.ofString "saves") r11, .ref x11⟩, ⟨PyData.keyHash w.params (Str.ofString "frames"), .str (Str.ofString "frames") r12, .ref x12⟩, ⟨PyData.keyHash w.params (Str.ofString "match"), .str (Str.ofString "match") r13, .none⟩, ⟨PyData.keyHash w.params (Str.ofString "patterns"), .str (Str.ofString "patterns") r14, .ref x14⟩, ⟨PyData.keyHash w.params (Str.ofString "steps"), .str (Str.ofString "steps") r15, .int 0 q0⟩, ⟨PyData.keyHash w.params (Str.ofString "methods"), .str (Str.ofString "methods") r16, .ref mc⟩, ⟨PyData.keyHash w.params (Str.ofString "call_code"), .str (Str.ofString "call_code") r17, .none⟩, ⟨PyData.keyHash w.params (Str.ofString "compile_text"), .str (Str.ofString "compile_text") r18, .none⟩] nrun) :: (nd, ond) :: (fa, (⟨oca, oda, .func fda, sla⟩ : Obj)) :: (ca2, ocA) :: (fs, (⟨ocs, ods, .func fds, sls⟩ : Obj)) :: (ca1, ocS) :: (st, (⟨.ref 1139, some dst, .plain, #[]⟩ : Obj)) :: (dst, dictOf [⟨PyData.keyHash w.params (Str.ofString "heap"), .str (Str.ofString "heap") ta, .ref hp⟩, ⟨PyData.keyHash w.params (Str.ofString "globs"), .str (Str.ofString "globs") tb1, .ref gl⟩, ⟨PyData.keyHash w.params (Str.ofString "generation"), .str (Str.ofString "generation") tc, .int 1 td⟩] nst) :: (gl, og) :: (g1, (⟨.ref 142, some dg1, .plain, #[]⟩ : Obj)) :: (dg1, dictOf [⟨PyData.keyHash w.params (Str.ofString "number"), .str (Str.ofString "number") gaa, .int gan0 gab⟩, ⟨PyData.keyHash w.params (Str.ofString "count"), .str (Str.ofString "count") gac, .int gan gad⟩, ⟨PyData.keyHash w.params (Str.ofString "blessed"), .str (Str.ofString "blessed") gae, .none⟩, ⟨PyData.keyHash w.params (Str.ofString "weak"), .str (Str.ofString "weak") gaf, .ref gaw⟩, ⟨PyData.keyHash w.params (Str.ofString "is_destroyed"), .str (Str.ofString "is_destroyed") gag, .bool false⟩, ⟨PyData.keyHash w.params (Str.ofString "is_freed"), .str (Str.ofString "is_freed") gah, .bool false⟩, ⟨PyData.keyHash w.params (Str.ofString "name"), .str (Str.ofString "name") gai, .str (Str.ofString "P::go") gaj⟩, ⟨PyData.keyHash w.params (Str.ofString "scalar"), .str (Str.ofString "scalar") gak, .none⟩, ⟨PyData.keyHash w.params (Str.ofString "array"), .str (Str.ofString "array") gal, .none⟩, ⟨PyData.keyHash w.params (Str.ofString "hash"), .str (Str.ofString "hash") gam, .none⟩, ⟨PyData.keyHash w.params (Str.ofString "code"), .str (Str.ofString "code") gao, .ref cd⟩] ng1) :: (mc, (⟨.ref 656, some dmc, .plain, #[]⟩ : Obj)) :: (dmc, odmc) :: (cd, (⟨.ref 123, some dcd, .plain, #[]⟩ : Obj)) :: (dcd, dictOf [⟨PyData.keyHash w.params (Str.ofString "number"), .str (Str.ofString "number") coa, .int con0 cob⟩, ⟨PyData.keyHash w.params (Str.ofString "count"), .str (Str.ofString "count") coc, .int con cod⟩, ⟨PyData.keyHash w.params (Str.ofString "blessed"), .str (Str.ofString "blessed") coe, .none⟩, ⟨PyData.keyHash w.params (Str.ofString "weak"), .str (Str.ofString "weak") cof, .ref cow⟩, ⟨PyData.keyHash w.params (Str.ofString "is_destroyed"), .str (Str.ofString "is_destroyed") cog, .bool false⟩, ⟨PyData.keyHash w.params (Str.ofString "is_freed"), .str (Str.ofString "is_freed") coh, .bool false⟩, ⟨PyData.keyHash w.params (Str.ofString "sub"), .str (Str.ofString "sub") coi, .none⟩, ⟨PyData.keyHash w.params (Str.ofString "captures"), .str (Str.ofString "captures") coj, .ref cap⟩, ⟨PyData.keyHash w.params (Str.ofString "builtin"), .str (Str.ofString "builtin") cok, .ref fw⟩, ⟨PyData.keyHash w.params (Str.ofString "package"), .str (Str.ofString "package") con1, .str (Str.ofString "main") con2⟩] ncd) :: (fw, (⟨ocw, odw, .func fdw, slw⟩ : Obj)) :: (ca3, ocW) :: (ce, oce) :: (c1, o1) :: (c2, o2) :: (c3, o3) :: (c4, o4) :: []) ++ gT (tabObj ps) from ?_)) (St.mk (pl := []) (ec := { wo := fun _ => (aWorld 1), ar := fun _ => (callerA), hp := fun _ => (default), le := fun _ => ([]), ad := fun n => [drun, hp, ct, st, dst, gl, lm, dlm, nd, mc, dmc, dg1, gaw, cd, dcd, cap, cow, g0, fa, ca2, fs, ca1, fw, ca3, ce, x5, x6, x7, x8, x9, x10, x11, x12, x14].getD n (0), mp := fun _ => (fun _ => none), en := fun _ => (fun _ => none), pg := fun _ => (default), ls := fun _ => ([]), sh := fun _ => ⟨default, #[], {}, 0, {}⟩, rs := fun _ => (fun _ _ => True), sr := fun _ => (default), sc := fun _ => (default), va := fun n => [oca, ocs, ocw].getD n (.none), nt := fun n => [nrun, nst, ng1, ncd, nlm].getD n (0), oc := fun _ => (none), tk := fun n => [r0, r1, r2, r3, r4, r5, r6, r7, r8, r9, r10, r11, r12, r13, r14, r15, r16, r17, r18, q0, ta, tb1, tc, td, gab, gac, gad, gae, gaf, gag, gah, gai, gaj, gak, gal, gam, gao, gaa, la, lb, lc, ld, le, na1, nb, nc, nd1, ne, coa, cob, coc, cod, coe, cof, cog, coh, coi, coj, cok, con1, con2].getD n (0), ob := fun n => [og, ond, ocA, ocS, ocW, oce].getD n (default), iz := fun n => [gan0, gan, con, con0].getD n (0), lv := fun _ => ([]), ll := fun _ => ([]), oa := fun n => [oda, ods, odw].getD n (none), fd := fun n => [fda, fds, fdw].getD n (default), av := fun n => [sla, sls, slw].getD n (#[]), li := fun _ => ([]), aw := fun _ => (#[]), ev := fun _ => (default) }) (c1 := c1) (c2 := c2) (c3 := c3) (c4 := c4) (odmc := odmc) (o1 := o1) (o2 := o2) (o3 := o3) (o4 := o4) rfl lo hnd hA logl hog hC oc1 oc2 oc3 oc4 hW hS (sd_cons (sd_cons (sd_cons (sd_cons (sd_cons (sd_cons (sd_cons (sd_cons (sd_cons (sd_cons (sd_cons (sd_cons (sd_cons (sd_cons (sd_cons (sd_cons (sd_cons (sd_cons (sd_cons (sd_cons (sd_one _) olm) (Nat.lt_of_le_of_lt (hz _ (hsub _ (List.Mem.head _))) chz)) ch0) ch1) ch2) ch3) ch4) ch5) ch6) ch7) ch8) ch9) ch10) ch11) ch12) ch13) ch14) ch15) ch16) ch17) hbo odl (fun _ h => (List.not_mem_nil h).elim) (pairs_nil _))
  rcases List.mem_append.mp hp9 with hp9 | hp9
  · exact List.mem_append_right _ hp9
  · exact hs9 p9 (by rw [List.append_nil] at hp9; exact hp9)
end
section
theorem eval_none_st {w : World} {A₀ : Around} {base h₀ : Heap} {outer : List Env} {L : Addr} {m mg mb : Str → Option Value} {mean : ExcName → Option Value} {pT : Program} {looseT : List Str} {s : Shared} {R : Result → Shared → Prop}
    {cn : Str} {cs : Scope} {ca : Addr} {ccd : Value} {d u : Nat} {gs : Option (List Code)}
    {na tn I run he bo g1 : Addr} {tq tm tg tw : Tok} {nh : Nat} {it : Obj} {hs ds : List Value} {bd : Int} {front rest full : List (Addr × Obj)} {gF : Obj → List (Addr × Obj)}
    (B : Below A₀ base outer h₀) (F : Fr h₀ L s.heap m) (X₀ : (hd.heap_1 w.params).In h₀) (N : News h₀ L s.heap full) (T : Top pT looseT mean mg mb h₀)
    (hke : cs.kind = .function) (hroom : d < 590) (hun : u < 900)
    (stt : St w run he bd bo g1 hs ds rest) (hsp : Split front rest full) (hhs : hs.length ≤ 10) (hna : (na, (⟨.type "tuple", none, .seq #[.str (Str.ofString "asked") tq], #[]⟩ : Obj)) ∈ front) (htn : (tn, (⟨.type "tuple", none, .seq #[.str (Str.ofString "method") tm, .ref na, .str (Str.ofString "go") tg, .none, .none], #[]⟩ : Obj)) ∈ front) (U : UpdF he (listOf hs.toArray nh) front gF) (hz : ∀ p ∈ full, @LE.le Nat _ p.1 tn) (hrn : ∀ p ∈ rest, @LT.lt Nat _ p.1 na) (hnt : @LT.lt Nat _ na tn) (hIf : (I, it) ∈ front) (hIc : it.cls = .type "range_iterator") (hdis : ∀ p ∈ front, AllNe p.1 rest)
    (k : ∀ h' tk t tp ml nm nn rest', Fr h₀ L h' m → News h₀ L h' ((ml, listOf #[Value.str (Str.ofString "P") tp] nm) :: (gF (listOf (hs ++ [Value.ref ml]).toArray nn) ++ rest')) → (∀ p ∈ full, @LT.lt Nat _ p.1 ml) → St w run he bd bo g1 hs ds rest' → AllNe I rest' → R (.ok (.ret (.int ([Value.str (Str.ofString "P") tp].length : Int) t))) { s with heap := h', toks := tk }) :
    codeAny (model PySem.Challenge.rw_qz0130_01.row.prog w) (Around.mk none d (some (envOf cn cs L ca ccd :: outer)) gs u) (.call (.ref 917) ⟨[.ref run, .ref tn, .int 1 tw], []⟩) R s := by
  have hfull := hsp.eq
  clear hsp
  subst hfull
  cases stt with | @mk ec c1 c2 c3 c4 odmc o1 o2 o3 o4 pl hrest lo hnd hA logl hog hC oc1 oc2 oc3 oc4 hW hS hsd hlb hhe hpl hP =>
  subst hrest
  have hR : ∀ p ∈ (c1, o1) :: (c2, o2) :: (c3, o3) :: (c4, o4) :: (othR w run g1 bd ec odmc ++ pl), p ∈ front ++ ((c1, o1) :: (c2, o2) :: (c3, o3) :: (c4, o4) :: (othR w run g1 bd ec odmc ++ pl)) := fun p hp => List.mem_append_right _ hp
  have hg1 : (g1, (⟨.ref 142, some (ec.ad 11), .plain, #[]⟩ : Obj)) ∈ (c1, o1) :: (c2, o2) :: (c3, o3) :: (c4, o4) :: (othR w run g1 bd ec odmc ++ pl) := in_oth mem0
  have hdm : ((ec.ad 10), odmc) ∈ (c1, o1) :: (c2, o2) :: (c3, o3) :: (c4, o4) :: (othR w run g1 bd ec odmc ++ pl) := in_oth (memt8 mem4)
  have gdm : @LT.lt Nat _ (ec.ad 10) g1 := sd_ix hsd 0 12 (Nat.le_of_ble_eq_true rfl) rfl rfl
  have low := fun od9 => low_all (b := he) (d := (ec.ad 7)) (m := (ec.ad 10)) (a1 := (c1, o1)) (a2 := (c2, o2)) (a3 := (c3, o3)) (a4 := (c4, o4)) (oth := othR w run g1 bd ec od9) rfl hsd oth_ad hhe (List.Mem.tail _ (List.Mem.tail _ (List.Mem.tail _ (List.Mem.tail _ (List.Mem.tail _ (List.Mem.tail _ (List.Mem.tail _ (List.Mem.tail _ (List.Mem.tail _ (List.Mem.tail _ (List.Mem.tail _ (List.Mem.tail _ (List.Mem.head _))))))))))))) oc1 oc2 oc3 oc4 hpl
  have U1 : UpdF (ec.ad 10) odmc (front ++ ((c1, o1) :: (c2, o2) :: (c3, o3) :: (c4, o4) :: (othR w run g1 bd ec odmc ++ pl))) (fun od9 => front ++ ((c1, o1) :: (c2, o2) :: (c3, o3) :: (c4, o4) :: (othR w run g1 bd ec od9 ++ pl))) := updF_right (UpdF.tail (Nat.ne_of_gt oc1) (UpdF.tail (Nat.ne_of_gt oc2) (UpdF.tail (Nat.ne_of_gt oc3) (UpdF.tail (Nat.ne_of_gt oc4) (updF_left (oth_upd hsd) fun p hp => Nat.ne_of_gt (Nat.lt_trans gdm (hpl p hp))))))) (dis_ne hdis hdm)
  have U2 : ∀ od9, UpdF he (listOf hs.toArray nh) ((fun od9 => front ++ ((c1, o1) :: (c2, o2) :: (c3, o3) :: (c4, o4) :: (othR w run g1 bd ec od9 ++ pl))) od9) ((fun od9 xx9 => gF xx9 ++ ((c1, o1) :: (c2, o2) :: (c3, o3) :: (c4, o4) :: (othR w run g1 bd ec od9 ++ pl))) od9) := fun od9 => updF_left U (ne_of_low (low od9))
  refine eval_none_use (r0 := (ec.tk 0)) (r1 := (ec.tk 1)) (r2 := (ec.tk 2)) (r3 := (ec.tk 3)) (r4 := (ec.tk 4)) (r5 := (ec.tk 5)) (r6 := (ec.tk 6)) (r7 := (ec.tk 7)) (r8 := (ec.tk 8)) (r9 := (ec.tk 9)) (r10 := (ec.tk 10)) (r11 := (ec.tk 11)) (r12 := (ec.tk 12)) (r13 := (ec.tk 13)) (r14 := (ec.tk 14)) (r15 := (ec.tk 15)) (r16 := (ec.tk 16)) (r17 := (ec.tk 17)) (r18 := (ec.tk 18)) (q0 := (ec.tk 19)) (ta := (ec.tk 20)) (tb1 := (ec.tk 21)) (tc := (ec.tk 22)) (td := (ec.tk 23)) (gab := (ec.tk 24)) (gac := (ec.tk 25)) (gad := (ec.tk 26)) (gae := (ec.tk 27)) (gaf := (ec.tk 28)) (gag := (ec.tk 29)) (gah := (ec.tk 30)) (gai := (ec.tk 31)) (gaj := (ec.tk 32)) (gak := (ec.tk 33)) (gal := (ec.tk 34)) (gam := (ec.tk 35)) (gao := (ec.tk 36)) (gaa := (ec.tk 37)) (tq := tq) (tm := tm) (tg := tg) (tw := tw) (coa := (ec.tk 48)) (cob := (ec.tk 49)) (coc := (ec.tk 50)) (cod := (ec.tk 51)) (coe := (ec.tk 52)) (cof := (ec.tk 53)) (cog := (ec.tk 54)) (coh := (ec.tk 55)) (coi := (ec.tk 56)) (coj := (ec.tk 57)) (cok := (ec.tk 58)) (con1 := (ec.tk 59)) (con2 := (ec.tk 60)) (run := run) (drun := (ec.ad 0)) (hp := (ec.ad 1)) (ct := (ec.ad 2)) (st := (ec.ad 3)) (dst := (ec.ad 4)) (gl := (ec.ad 5)) (lm := (ec.ad 6)) (nd := (ec.ad 8)) (mc := (ec.ad 9)) (dmc := (ec.ad 10)) (c1 := c1) (c2 := c2) (c3 := c3) (c4 := c4) (g1 := g1) (dg1 := (ec.ad 11)) (gaw := (ec.ad 12)) (cd := (ec.ad 13)) (dcd := (ec.ad 14)) (cap := (ec.ad 15)) (cow := (ec.ad 16)) (g0 := (ec.ad 17)) (fa := (ec.ad 18)) (ca2 := (ec.ad 19)) (fs := (ec.ad 20)) (fw := (ec.ad 22)) (ca3 := (ec.ad 23)) (ce := (ec.ad 24)) (he := he) (na := na) (tn := tn) (x5 := (ec.ad 25)) (x6 := (ec.ad 26)) (x7 := (ec.ad 27)) (x8 := (ec.ad 28)) (x9 := (ec.ad 29)) (x10 := (ec.ad 30)) (x11 := (ec.ad 31)) (x12 := (ec.ad 32)) (x14 := (ec.ad 33)) (nrun := (ec.nt 0)) (nst := (ec.nt 1)) (ng1 := (ec.nt 2)) (ncd := (ec.nt 3)) (nh := nh) (og := (ec.ob 0)) (odmc := odmc) (o1 := o1) (o2 := o2) (o3 := o3) (o4 := o4) (ond := (ec.ob 1)) (ocA := (ec.ob 2)) (ocW := (ec.ob 4)) (oce := (ec.ob 5)) (gan0 := (ec.iz 0)) (gan := (ec.iz 1)) (con := (ec.iz 2)) (con0 := (ec.iz 3)) (oca := (ec.va 0)) (ocw := (ec.va 2)) (oda := (ec.oa 0)) (odw := (ec.oa 2)) (fda := (ec.fd 0)) (fdw := (ec.fd 2)) (sla := (ec.av 0)) (slw := (ec.av 2)) (hs := hs) (gA := (fun od9 => front ++ ((c1, o1) :: (c2, o2) :: (c3, o3) :: (c4, o4) :: (othR w run g1 bd ec od9 ++ pl)))) (gB := (fun od9 xx9 => gF xx9 ++ ((c1, o1) :: (c2, o2) :: (c3, o3) :: (c4, o4) :: (othR w run g1 bd ec od9 ++ pl)))) (full := front ++ ((c1, o1) :: (c2, o2) :: (c3, o3) :: (c4, o4) :: (othR w run g1 bd ec odmc ++ pl))) B F X₀ N T hke hroom hun lo hnd hA logl hog hC oc1 oc2 oc3 oc4 hhs hW (Nat.lt_trans hhe (sd_ix hsd 18 20 (Nat.le_of_ble_eq_true rfl) rfl rfl)) (sd_ix hsd 17 18 (Nat.le_of_ble_eq_true rfl) rfl rfl) (sd_ix hsd 16 17 (Nat.le_of_ble_eq_true rfl) rfl rfl) (sd_ix hsd 15 16 (Nat.le_of_ble_eq_true rfl) rfl rfl) (sd_ix hsd 14 15 (Nat.le_of_ble_eq_true rfl) rfl rfl) (sd_ix hsd 13 14 (Nat.le_of_ble_eq_true rfl) rfl rfl) (sd_ix hsd 12 13 (Nat.le_of_ble_eq_true rfl) rfl rfl) (sd_ix hsd 11 12 (Nat.le_of_ble_eq_true rfl) rfl rfl) (sd_ix hsd 8 11 (Nat.le_of_ble_eq_true rfl) rfl rfl) (sd_ix hsd 7 8 (Nat.le_of_ble_eq_true rfl) rfl rfl) (sd_ix hsd 6 7 (Nat.le_of_ble_eq_true rfl) rfl rfl) (sd_ix hsd 5 6 (Nat.le_of_ble_eq_true rfl) rfl rfl) (sd_ix hsd 4 5 (Nat.le_of_ble_eq_true rfl) rfl rfl) (sd_ix hsd 3 4 (Nat.le_of_ble_eq_true rfl) rfl rfl) (sd_ix hsd 2 3 (Nat.le_of_ble_eq_true rfl) rfl rfl) (sd_ix hsd 1 2 (Nat.le_of_ble_eq_true rfl) rfl rfl) (sd_ix hsd 0 1 (Nat.le_of_ble_eq_true rfl) rfl rfl) (hrn (g1, _) hg1) hnt (all_cons (hR _ (in_oth (memt8 mem5))) (all_cons (hR _ (in_oth (memt8 mem6))) (all_cons (hR _ (in_oth mem4)) (all_cons (hR _ (in_oth mem7)) (all_cons (hR _ (in_oth (memt8 mem0))) (all_cons (hR _ (in_oth (memt8 (memt8 mem0)))) (all_cons (hR _ (in_oth (memt8 (memt8 mem1)))) (all_cons (hR _ (in_oth (memt8 mem7))) (all_cons (hR _ (in_oth mem0)) (all_cons (hR _ (in_oth mem1)) (all_cons (hR _ (in_oth (memt8 mem3))) (all_cons (hR _ (in_oth (memt8 mem4))) (all_cons (hR _ (in_oth mem2)) (all_cons (hR _ (in_oth mem3)) (all_cons (hR _ (in_oth mem5)) (all_cons (hR _ (in_oth mem6)) (all_cons (hR _ (in_oth (memt8 (memt8 mem2)))) (all_cons (sub_left _ (updF_self U)) (all_cons (sub_left _ hna) (all_cons (sub_left _ htn) (all_cons (hR _ mem0) (all_cons (hR _ mem1) (all_cons (hR _ mem2) (all_cons (hR _ mem3) (fun _ h => (List.not_mem_nil h).elim))))))))))))))))))))))))) U1 U2 hz ?_
  intro h' tk t tp ml nm nn odmc' c1' c2' c3' c4' o1' o2' o3' o4' F' N' l C q1 q2 q3 q4
  obtain ⟨d2, d3, d4, p2, p3, p4, hC2, u2, u3, u4, ⟨k1, k2, k3, k4⟩, hmm⟩ := cache_norm C q1 q2 q3 q4
  have N2 : News h₀ L h' ((ml, listOf #[Value.str (Str.ofString "P") tp] nm) :: (gF (listOf (hs ++ [Value.ref ml]).toArray nn) ++ ((c1', o1') :: (d2, p2) :: (d3, p3) :: (d4, p4) :: (othR w run g1 bd ec odmc' ++ pl)))) := news_5 N' hmm
  have hIh : I ≠ he := Ne.symm (c_off N (List.mem_append_left _ hIf) (List.mem_append_left _ (updF_self U)) (by rw [hIc]; exact cls_lr))
  have hIg : (I, it) ∈ gF (listOf (hs ++ [Value.ref ml]).toArray nn) := updF_mem U _ hIh hIf
  have hI2 : (I, it) ∈ (ml, listOf #[Value.str (Str.ofString "P") tp] nm) :: (gF (listOf (hs ++ [Value.ref ml]).toArray nn) ++ ((c1', o1') :: (d2, p2) :: (d3, p3) :: (d4, p4) :: (othR w run g1 bd ec odmc' ++ pl))) := .tail _ (List.mem_append_left _ hIg)
  have hI0 : AllNe I ((c1, o1) :: (c2, o2) :: (c3, o3) :: (c4, o4) :: (othR w run g1 bd ec odmc ++ pl)) := hdis _ hIf
  have hm4 : ∀ p ∈ (c1', o1') :: (d2, p2) :: (d3, p3) :: (d4, p4) :: (othR w run g1 bd ec odmc' ++ pl), p ∈ (ml, listOf #[Value.str (Str.ofString "P") tp] nm) :: (gF (listOf (hs ++ [Value.ref ml]).toArray nn) ++ ((c1', o1') :: (d2, p2) :: (d3, p3) :: (d4, p4) :: (othR w run g1 bd ec odmc' ++ pl))) := fun p hp => .tail _ (List.mem_append_right _ hp)
  refine k h' tk t tp ml nm nn _ F' N2 l (St.mk rfl lo hnd hA logl hog hC2 q1 u2 u3 u4 hW hS hsd hlb hhe hpl hP) (ne_new (oth := othR w run g1 bd ec odmc) (oth_ad.trans oth_ad.symm) hI0 ?_ ?_ ?_ ?_)
  · exact c_off N2 hI2 (hm4 _ (.head _)) (by rw [k1, hIc]; decide)
  · exact c_off N2 hI2 (hm4 _ (.tail _ (.head _))) (by rw [hIc]; rcases k2 with k2 | k2 <;> rw [k2] <;> decide)
  · exact c_off N2 hI2 (hm4 _ (.tail _ (.tail _ (.head _)))) (by rw [hIc]; rcases k3 with k3 | k3 <;> rw [k3] <;> decide)
  · exact c_off N2 hI2 (hm4 _ (.tail _ (.tail _ (.tail _ (.head _))))) (by rw [hIc]; rcases k4 with k4 | k4 <;> rw [k4] <;> decide)
theorem eval_list_st {w : World} {A₀ : Around} {base h₀ : Heap} {outer : List Env} {L : Addr} {m mg mb : Str → Option Value} {mean : ExcName → Option Value} {pT : Program} {looseT : List Str} {s : Shared} {R : Result → Shared → Prop}
    {cn : Str} {cs : Scope} {ca : Addr} {ccd : Value} {d u : Nat} {gs : Option (List Code)}
    {na tn I ts vl run he bo g1 : Addr} {tq tm tg tw tso : Tok} {nh n0 : Nat} {it : Obj} {hs ds vs : List Value} {bd : Int} {front rest full : List (Addr × Obj)} {gF : Obj → List (Addr × Obj)}
    (B : Below A₀ base outer h₀) (F : Fr h₀ L s.heap m) (X₀ : (hd.heap_1 w.params).In h₀) (N : News h₀ L s.heap full) (T : Top pT looseT mean mg mb h₀)
    (hke : cs.kind = .function) (hroom : d < 590) (hun : u < 900)
    (stt : St w run he bd bo g1 hs ds rest) (hsp : Split front rest full) (hhs : hs.length ≤ 10) (hna : (na, (⟨.type "tuple", none, .seq #[.str (Str.ofString "asked") tq], #[]⟩ : Obj)) ∈ front) (htn : (tn, (⟨.type "tuple", none, .seq #[.str (Str.ofString "method") tm, .ref na, .str (Str.ofString "go") tg, .ref ts, .none], #[]⟩ : Obj)) ∈ front) (hts : (ts, (⟨.type "tuple", none, .seq #[.str (Str.ofString "some") tso, .ref vl], #[]⟩ : Obj)) ∈ front) (hvl : (vl, listOf vs.toArray n0) ∈ front) (U : UpdF he (listOf hs.toArray nh) front gF) (hz : ∀ p ∈ full, @LE.le Nat _ p.1 tn) (hrn : ∀ p ∈ rest, @LT.lt Nat _ p.1 ts) (htsn : @LT.lt Nat _ ts na) (hnt : @LT.lt Nat _ na tn) (hIf : (I, it) ∈ front) (hIc : it.cls = .type "range_iterator") (hdis : ∀ p ∈ front, AllNe p.1 rest) (hlen : vs.length ≤ 9) (hbd : ¬ (bd < 1 + (vs.length : Int))) (cv1 : @LT.lt Nat _ vl ts) (cv3 : @Ne Nat vl he)
    (k : ∀ h' tk t tp ml nm nn rest', Fr h₀ L h' m → News h₀ L h' ((ml, listOf (Value.str (Str.ofString "P") tp :: vs).toArray nm) :: (gF (listOf (hs ++ [Value.ref ml]).toArray nn) ++ rest')) → (∀ p ∈ full, @LT.lt Nat _ p.1 ml) → St w run he bd bo g1 hs ds rest' → AllNe I rest' → R (.ok (.ret (.int ((Value.str (Str.ofString "P") tp :: vs).length : Int) t))) { s with heap := h', toks := tk }) :
    codeAny (model PySem.Challenge.rw_qz0130_01.row.prog w) (Around.mk none d (some (envOf cn cs L ca ccd :: outer)) gs u) (.call (.ref 917) ⟨[.ref run, .ref tn, .int 1 tw], []⟩) R s := by
  have hfull := hsp.eq
  clear hsp
  subst hfull
  cases stt with | @mk ec c1 c2 c3 c4 odmc o1 o2 o3 o4 pl hrest lo hnd hA logl hog hC oc1 oc2 oc3 oc4 hW hS hsd hlb hhe hpl hP =>
  subst hrest
  have hR : ∀ p ∈ (c1, o1) :: (c2, o2) :: (c3, o3) :: (c4, o4) :: (othR w run g1 bd ec odmc ++ pl), p ∈ front ++ ((c1, o1) :: (c2, o2) :: (c3, o3) :: (c4, o4) :: (othR w run g1 bd ec odmc ++ pl)) := fun p hp => List.mem_append_right _ hp
  have hg1 : (g1, (⟨.ref 142, some (ec.ad 11), .plain, #[]⟩ : Obj)) ∈ (c1, o1) :: (c2, o2) :: (c3, o3) :: (c4, o4) :: (othR w run g1 bd ec odmc ++ pl) := in_oth mem0
  have hdm : ((ec.ad 10), odmc) ∈ (c1, o1) :: (c2, o2) :: (c3, o3) :: (c4, o4) :: (othR w run g1 bd ec odmc ++ pl) := in_oth (memt8 mem4)
  have gdm : @LT.lt Nat _ (ec.ad 10) g1 := sd_ix hsd 0 12 (Nat.le_of_ble_eq_true rfl) rfl rfl
  have low := fun od9 => low_all (b := he) (d := (ec.ad 7)) (m := (ec.ad 10)) (a1 := (c1, o1)) (a2 := (c2, o2)) (a3 := (c3, o3)) (a4 := (c4, o4)) (oth := othR w run g1 bd ec od9) rfl hsd oth_ad hhe (List.Mem.tail _ (List.Mem.tail _ (List.Mem.tail _ (List.Mem.tail _ (List.Mem.tail _ (List.Mem.tail _ (List.Mem.tail _ (List.Mem.tail _ (List.Mem.tail _ (List.Mem.tail _ (List.Mem.tail _ (List.Mem.tail _ (List.Mem.head _))))))))))))) oc1 oc2 oc3 oc4 hpl
  have U1 : UpdF (ec.ad 10) odmc (front ++ ((c1, o1) :: (c2, o2) :: (c3, o3) :: (c4, o4) :: (othR w run g1 bd ec odmc ++ pl))) (fun od9 => front ++ ((c1, o1) :: (c2, o2) :: (c3, o3) :: (c4, o4) :: (othR w run g1 bd ec od9 ++ pl))) := updF_right (UpdF.tail (Nat.ne_of_gt oc1) (UpdF.tail (Nat.ne_of_gt oc2) (UpdF.tail (Nat.ne_of_gt oc3) (UpdF.tail (Nat.ne_of_gt oc4) (updF_left (oth_upd hsd) fun p hp => Nat.ne_of_gt (Nat.lt_trans gdm (hpl p hp))))))) (dis_ne hdis hdm)
  have U2 : ∀ od9, UpdF he (listOf hs.toArray nh) ((fun od9 => front ++ ((c1, o1) :: (c2, o2) :: (c3, o3) :: (c4, o4) :: (othR w run g1 bd ec od9 ++ pl))) od9) ((fun od9 xx9 => gF xx9 ++ ((c1, o1) :: (c2, o2) :: (c3, o3) :: (c4, o4) :: (othR w run g1 bd ec od9 ++ pl))) od9) := fun od9 => updF_left U (ne_of_low (low od9))
  refine eval_list_use (r0 := (ec.tk 0)) (r1 := (ec.tk 1)) (r2 := (ec.tk 2)) (r3 := (ec.tk 3)) (r4 := (ec.tk 4)) (r5 := (ec.tk 5)) (r6 := (ec.tk 6)) (r7 := (ec.tk 7)) (r8 := (ec.tk 8)) (r9 := (ec.tk 9)) (r10 := (ec.tk 10)) (r11 := (ec.tk 11)) (r12 := (ec.tk 12)) (r13 := (ec.tk 13)) (r14 := (ec.tk 14)) (r15 := (ec.tk 15)) (r16 := (ec.tk 16)) (r17 := (ec.tk 17)) (r18 := (ec.tk 18)) (q0 := (ec.tk 19)) (ta := (ec.tk 20)) (tb1 := (ec.tk 21)) (tc := (ec.tk 22)) (td := (ec.tk 23)) (gab := (ec.tk 24)) (gac := (ec.tk 25)) (gad := (ec.tk 26)) (gae := (ec.tk 27)) (gaf := (ec.tk 28)) (gag := (ec.tk 29)) (gah := (ec.tk 30)) (gai := (ec.tk 31)) (gaj := (ec.tk 32)) (gak := (ec.tk 33)) (gal := (ec.tk 34)) (gam := (ec.tk 35)) (gao := (ec.tk 36)) (gaa := (ec.tk 37)) (tq := tq) (tm := tm) (tg := tg) (tso := tso) (tw := tw) (la := (ec.tk 38)) (lb := (ec.tk 39)) (lc := (ec.tk 40)) (ld := (ec.tk 41)) (le := (ec.tk 42)) (na1 := (ec.tk 43)) (nb := (ec.tk 44)) (nc := (ec.tk 45)) (nd1 := (ec.tk 46)) (ne := (ec.tk 47)) (coa := (ec.tk 48)) (cob := (ec.tk 49)) (coc := (ec.tk 50)) (cod := (ec.tk 51)) (coe := (ec.tk 52)) (cof := (ec.tk 53)) (cog := (ec.tk 54)) (coh := (ec.tk 55)) (coi := (ec.tk 56)) (coj := (ec.tk 57)) (cok := (ec.tk 58)) (con1 := (ec.tk 59)) (con2 := (ec.tk 60)) (run := run) (drun := (ec.ad 0)) (hp := (ec.ad 1)) (ct := (ec.ad 2)) (st := (ec.ad 3)) (dst := (ec.ad 4)) (gl := (ec.ad 5)) (lm := (ec.ad 6)) (dlm := (ec.ad 7)) (nd := (ec.ad 8)) (mc := (ec.ad 9)) (dmc := (ec.ad 10)) (c1 := c1) (c2 := c2) (c3 := c3) (c4 := c4) (g1 := g1) (dg1 := (ec.ad 11)) (gaw := (ec.ad 12)) (cd := (ec.ad 13)) (dcd := (ec.ad 14)) (cap := (ec.ad 15)) (cow := (ec.ad 16)) (g0 := (ec.ad 17)) (fa := (ec.ad 18)) (ca2 := (ec.ad 19)) (fs := (ec.ad 20)) (ca1 := (ec.ad 21)) (fw := (ec.ad 22)) (ca3 := (ec.ad 23)) (ce := (ec.ad 24)) (he := he) (na := na) (tn := tn) (ts := ts) (vl := vl) (x5 := (ec.ad 25)) (x6 := (ec.ad 26)) (x7 := (ec.ad 27)) (x8 := (ec.ad 28)) (x9 := (ec.ad 29)) (x10 := (ec.ad 30)) (x11 := (ec.ad 31)) (x12 := (ec.ad 32)) (x14 := (ec.ad 33)) (nrun := (ec.nt 0)) (nst := (ec.nt 1)) (ng1 := (ec.nt 2)) (ncd := (ec.nt 3)) (nh := nh) (n0 := n0) (nlm := (ec.nt 4)) (og := (ec.ob 0)) (odmc := odmc) (o1 := o1) (o2 := o2) (o3 := o3) (o4 := o4) (ond := (ec.ob 1)) (ocA := (ec.ob 2)) (ocS := (ec.ob 3)) (ocW := (ec.ob 4)) (oce := (ec.ob 5)) (gan0 := (ec.iz 0)) (gan := (ec.iz 1)) (con := (ec.iz 2)) (con0 := (ec.iz 3)) (bd := bd) (oca := (ec.va 0)) (ocs := (ec.va 1)) (ocw := (ec.va 2)) (oda := (ec.oa 0)) (ods := (ec.oa 1)) (odw := (ec.oa 2)) (fda := (ec.fd 0)) (fds := (ec.fd 1)) (fdw := (ec.fd 2)) (sla := (ec.av 0)) (sls := (ec.av 1)) (slw := (ec.av 2)) (vs := vs) (hs := hs) (gA := (fun od9 => front ++ ((c1, o1) :: (c2, o2) :: (c3, o3) :: (c4, o4) :: (othR w run g1 bd ec od9 ++ pl)))) (gB := (fun od9 xx9 => gF xx9 ++ ((c1, o1) :: (c2, o2) :: (c3, o3) :: (c4, o4) :: (othR w run g1 bd ec od9 ++ pl)))) (full := front ++ ((c1, o1) :: (c2, o2) :: (c3, o3) :: (c4, o4) :: (othR w run g1 bd ec odmc ++ pl))) B F X₀ N T hke hroom hun lo hnd hA logl hog hC oc1 oc2 oc3 oc4 hhs hW hlen hS hbd hhe (sd_ix hsd 19 20 (Nat.le_of_ble_eq_true rfl) rfl rfl) (sd_ix hsd 18 19 (Nat.le_of_ble_eq_true rfl) rfl rfl) (sd_ix hsd 17 18 (Nat.le_of_ble_eq_true rfl) rfl rfl) (sd_ix hsd 16 17 (Nat.le_of_ble_eq_true rfl) rfl rfl) (sd_ix hsd 15 16 (Nat.le_of_ble_eq_true rfl) rfl rfl) (sd_ix hsd 14 15 (Nat.le_of_ble_eq_true rfl) rfl rfl) (sd_ix hsd 13 14 (Nat.le_of_ble_eq_true rfl) rfl rfl) (sd_ix hsd 12 13 (Nat.le_of_ble_eq_true rfl) rfl rfl) (sd_ix hsd 11 12 (Nat.le_of_ble_eq_true rfl) rfl rfl) (sd_ix hsd 10 11 (Nat.le_of_ble_eq_true rfl) rfl rfl) (sd_ix hsd 9 10 (Nat.le_of_ble_eq_true rfl) rfl rfl) (sd_ix hsd 8 9 (Nat.le_of_ble_eq_true rfl) rfl rfl) (sd_ix hsd 7 8 (Nat.le_of_ble_eq_true rfl) rfl rfl) (sd_ix hsd 6 7 (Nat.le_of_ble_eq_true rfl) rfl rfl) (sd_ix hsd 5 6 (Nat.le_of_ble_eq_true rfl) rfl rfl) (sd_ix hsd 4 5 (Nat.le_of_ble_eq_true rfl) rfl rfl) (sd_ix hsd 3 4 (Nat.le_of_ble_eq_true rfl) rfl rfl) (sd_ix hsd 2 3 (Nat.le_of_ble_eq_true rfl) rfl rfl) (sd_ix hsd 1 2 (Nat.le_of_ble_eq_true rfl) rfl rfl) (sd_ix hsd 0 1 (Nat.le_of_ble_eq_true rfl) rfl rfl) (hrn (g1, _) hg1) htsn hnt cv1 (fun e => dis_ne hdis hdm _ hvl e) cv3 (all_cons (hR _ (in_oth (memt8 mem5))) (all_cons (hR _ (in_oth (memt8 mem6))) (all_cons (hR _ (in_oth mem4)) (all_cons (hR _ (in_oth mem7)) (all_cons (hR _ (in_oth (memt8 mem0))) (all_cons (hR _ (in_oth (memt8 (memt8 mem0)))) (all_cons (hR _ (in_oth (memt8 (memt8 mem1)))) (all_cons (hR _ (in_oth (memt8 mem7))) (all_cons (hR _ (in_oth mem0)) (all_cons (hR _ (in_oth mem1)) (all_cons (hR _ (in_oth (memt8 mem3))) (all_cons (hR _ (in_oth (memt8 mem4))) (all_cons (hR _ (in_oth mem2)) (all_cons (hR _ (in_oth mem3)) (all_cons (hR _ (in_oth mem5)) (all_cons (hR _ (in_oth mem6)) (all_cons (hR _ (in_oth (memt8 (memt8 mem2)))) (all_cons (sub_left _ (updF_self U)) (all_cons (hR _ (in_oth (memt8 mem1))) (all_cons (hR _ (in_oth (memt8 mem2))) (all_cons (sub_left _ hna) (all_cons (sub_left _ htn) (all_cons (sub_left _ hts) (all_cons (sub_left _ hvl) (all_cons (hR _ (in_oth (memt8 (memt8 mem3)))) (all_cons (hR _ (in_oth (memt8 (memt8 mem4)))) (all_cons (hR _ mem0) (all_cons (hR _ mem1) (all_cons (hR _ mem2) (all_cons (hR _ mem3) (fun _ h => (List.not_mem_nil h).elim))))))))))))))))))))))))))))))) U1 U2 hz ?_
  intro h' tk t tp ml nm nn odmc' c1' c2' c3' c4' o1' o2' o3' o4' F' N' l C q1 q2 q3 q4
  obtain ⟨d2, d3, d4, p2, p3, p4, hC2, u2, u3, u4, ⟨k1, k2, k3, k4⟩, hmm⟩ := cache_norm C q1 q2 q3 q4
  have N2 : News h₀ L h' ((ml, listOf (Value.str (Str.ofString "P") tp :: vs).toArray nm) :: (gF (listOf (hs ++ [Value.ref ml]).toArray nn) ++ ((c1', o1') :: (d2, p2) :: (d3, p3) :: (d4, p4) :: (othR w run g1 bd ec odmc' ++ pl)))) := news_5 N' hmm
  have hIh : I ≠ he := Ne.symm (c_off N (List.mem_append_left _ hIf) (List.mem_append_left _ (updF_self U)) (by rw [hIc]; exact cls_lr))
  have hIg : (I, it) ∈ gF (listOf (hs ++ [Value.ref ml]).toArray nn) := updF_mem U _ hIh hIf
  have hI2 : (I, it) ∈ (ml, listOf (Value.str (Str.ofString "P") tp :: vs).toArray nm) :: (gF (listOf (hs ++ [Value.ref ml]).toArray nn) ++ ((c1', o1') :: (d2, p2) :: (d3, p3) :: (d4, p4) :: (othR w run g1 bd ec odmc' ++ pl))) := .tail _ (List.mem_append_left _ hIg)
  have hI0 : AllNe I ((c1, o1) :: (c2, o2) :: (c3, o3) :: (c4, o4) :: (othR w run g1 bd ec odmc ++ pl)) := hdis _ hIf
  have hm4 : ∀ p ∈ (c1', o1') :: (d2, p2) :: (d3, p3) :: (d4, p4) :: (othR w run g1 bd ec odmc' ++ pl), p ∈ (ml, listOf (Value.str (Str.ofString "P") tp :: vs).toArray nm) :: (gF (listOf (hs ++ [Value.ref ml]).toArray nn) ++ ((c1', o1') :: (d2, p2) :: (d3, p3) :: (d4, p4) :: (othR w run g1 bd ec odmc' ++ pl))) := fun p hp => .tail _ (List.mem_append_right _ hp)
  refine k h' tk t tp ml nm nn _ F' N2 l (St.mk rfl lo hnd hA logl hog hC2 q1 u2 u3 u4 hW hS hsd hlb hhe hpl hP) (ne_new (oth := othR w run g1 bd ec odmc) (oth_ad.trans oth_ad.symm) hI0 ?_ ?_ ?_ ?_)
  · exact c_off N2 hI2 (hm4 _ (.head _)) (by rw [k1, hIc]; decide)
  · exact c_off N2 hI2 (hm4 _ (.tail _ (.head _))) (by rw [hIc]; rcases k2 with k2 | k2 <;> rw [k2] <;> decide)
  · exact c_off N2 hI2 (hm4 _ (.tail _ (.tail _ (.head _)))) (by rw [hIc]; rcases k3 with k3 | k3 <;> rw [k3] <;> decide)
  · exact c_off N2 hI2 (hm4 _ (.tail _ (.tail _ (.tail _ (.head _))))) (by rw [hIc]; rcases k4 with k4 | k4 <;> rw [k4] <;> decide)
theorem eval_die_st {w : World} {A₀ : Around} {base h₀ : Heap} {outer : List Env} {L : Addr} {m mg mb : Str → Option Value} {mean : ExcName → Option Value} {pT : Program} {looseT : List Str} {s : Shared} {R : Result → Shared → Prop}
    {cn : Str} {cs : Scope} {ca : Addr} {ccd : Value} {d u : Nat} {gs : Option (List Code)}
    {na tn ts vl run he bo g1 : Addr} {tq tm tg tw tso : Tok} {n0 : Nat} {hs ds vs : List Value} {bd : Int} {full rest : List (Addr × Obj)}
    (B : Below A₀ base outer h₀) (F : Fr h₀ L s.heap m) (X₀ : (hd.heap_1 w.params).In h₀) (N : News h₀ L s.heap full) (T : Top pT looseT mean mg mb h₀)
    (hke : cs.kind = .function) (hroom : d < 590) (hun : u < 900)
    (stt : St w run he bd bo g1 hs ds rest) (hsubr : ∀ p ∈ rest, p ∈ full) (hna : (na, (⟨.type "tuple", none, .seq #[.str (Str.ofString "asked") tq], #[]⟩ : Obj)) ∈ full) (htn : (tn, (⟨.type "tuple", none, .seq #[.str (Str.ofString "method") tm, .ref na, .str (Str.ofString "go") tg, .ref ts, .none], #[]⟩ : Obj)) ∈ full) (hts : (ts, (⟨.type "tuple", none, .seq #[.str (Str.ofString "some") tso, .ref vl], #[]⟩ : Obj)) ∈ full) (hvl : (vl, listOf vs.toArray n0) ∈ full) (hrn : ∀ p ∈ rest, @LT.lt Nat _ p.1 ts) (htsn : @LT.lt Nat _ ts na) (hnt : @LT.lt Nat _ na tn) (hlen : vs.length ≤ 9) (hbd : bd < 1 + (vs.length : Int)) (cv1 : @LT.lt Nat _ vl ts)
    (k : ∀ h' tk e, DieAt base (envOf cn cs L ca ccd :: outer) s.heap e h' → R (.error (.ref e)) { s with heap := h', toks := tk }) :
    codeAny (model PySem.Challenge.rw_qz0130_01.row.prog w) (Around.mk none d (some (envOf cn cs L ca ccd :: outer)) gs u) (.call (.ref 917) ⟨[.ref run, .ref tn, .int 1 tw], []⟩) R s := by
  cases stt with | @mk ec c1 c2 c3 c4 odmc o1 o2 o3 o4 pl hrest lo hnd hA logl hog hC oc1 oc2 oc3 oc4 hW hS hsd hlb hhe hpl hP =>
  subst hrest
  have hnd9 : ∀ p ∈ othR w run g1 bd ec odmc, p ∈ (c1, o1) :: (c2, o2) :: (c3, o3) :: (c4, o4) :: (othR w run g1 bd ec odmc ++ pl) := fun p hp => in_oth hp
  exact eval_die_use (r0 := (ec.tk 0)) (r1 := (ec.tk 1)) (r2 := (ec.tk 2)) (r3 := (ec.tk 3)) (r4 := (ec.tk 4)) (r5 := (ec.tk 5)) (r6 := (ec.tk 6)) (r7 := (ec.tk 7)) (r8 := (ec.tk 8)) (r9 := (ec.tk 9)) (r10 := (ec.tk 10)) (r11 := (ec.tk 11)) (r12 := (ec.tk 12)) (r13 := (ec.tk 13)) (r14 := (ec.tk 14)) (r15 := (ec.tk 15)) (r16 := (ec.tk 16)) (r17 := (ec.tk 17)) (r18 := (ec.tk 18)) (q0 := (ec.tk 19)) (tq := tq) (tm := tm) (tg := tg) (tso := tso) (tw := tw) (la := (ec.tk 38)) (lb := (ec.tk 39)) (lc := (ec.tk 40)) (ld := (ec.tk 41)) (le := (ec.tk 42)) (na1 := (ec.tk 43)) (nb := (ec.tk 44)) (nc := (ec.tk 45)) (nd1 := (ec.tk 46)) (ne := (ec.tk 47)) (run := run) (drun := (ec.ad 0)) (hp := (ec.ad 1)) (ct := (ec.ad 2)) (st := (ec.ad 3)) (lm := (ec.ad 6)) (dlm := (ec.ad 7)) (nd := (ec.ad 8)) (mc := (ec.ad 9)) (fa := (ec.ad 18)) (ca2 := (ec.ad 19)) (fs := (ec.ad 20)) (ca1 := (ec.ad 21)) (na := na) (tn := tn) (ts := ts) (vl := vl) (x5 := (ec.ad 25)) (x6 := (ec.ad 26)) (x7 := (ec.ad 27)) (x8 := (ec.ad 28)) (x9 := (ec.ad 29)) (x10 := (ec.ad 30)) (x11 := (ec.ad 31)) (x12 := (ec.ad 32)) (x14 := (ec.ad 33)) (nrun := (ec.nt 0)) (n0 := n0) (nlm := (ec.nt 4)) (ond := (ec.ob 1)) (ocA := (ec.ob 2)) (ocS := (ec.ob 3)) (bd := bd) (oca := (ec.va 0)) (ocs := (ec.va 1)) (oda := (ec.oa 0)) (ods := (ec.oa 1)) (fda := (ec.fd 0)) (fds := (ec.fd 1)) (sla := (ec.av 0)) (sls := (ec.av 1)) (vs := vs) (full := full) B F X₀ N T hke hroom hun lo hnd hA hlen hS hbd (sd_ix hsd 19 20 (Nat.le_of_ble_eq_true rfl) rfl rfl) (sd_ix hsd 14 19 (Nat.le_of_ble_eq_true rfl) rfl rfl) (sd_ix hsd 13 14 (Nat.le_of_ble_eq_true rfl) rfl rfl) (sd_ix hsd 10 13 (Nat.le_of_ble_eq_true rfl) rfl rfl) (sd_ix hsd 9 10 (Nat.le_of_ble_eq_true rfl) rfl rfl) (sd_ix hsd 8 9 (Nat.le_of_ble_eq_true rfl) rfl rfl) (sd_ix hsd 7 8 (Nat.le_of_ble_eq_true rfl) rfl rfl) (sd_ix hsd 4 7 (Nat.le_of_ble_eq_true rfl) rfl rfl) (hrn ((ec.ad 8), (ec.ob 1)) (hnd9 _ mem4)) htsn hnt cv1 (all_cons (hsubr _ (hnd9 _ (memt8 mem5))) (all_cons (hsubr _ (hnd9 _ (memt8 mem6))) (all_cons (hsubr _ (hnd9 _ mem4)) (all_cons (hsubr _ (hnd9 _ mem7)) (all_cons (hsubr _ (hnd9 _ (memt8 mem0))) (all_cons (hsubr _ (hnd9 _ (memt8 mem1))) (all_cons (hsubr _ (hnd9 _ (memt8 mem2))) (all_cons hna (all_cons htn (all_cons hts (all_cons hvl (all_cons (hsubr _ (hnd9 _ (memt8 (memt8 mem3)))) (all_cons (hsubr _ (hnd9 _ (memt8 (memt8 mem4)))) (fun _ h => (List.not_mem_nil h).elim)))))))))))))) k
end
end Mine
end
theorem PySem.Challenge.cw_qz0130_01_holds : PySem.Challenge.rw_qz0130_01.Holds :=
  Mine.top ⟨@Mine.law_draw_use, @Mine.law_run_st, @Mine.eval_none_st, @Mine.eval_list_st, @Mine.eval_die_st⟩
