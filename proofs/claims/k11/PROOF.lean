import PyProof.Rows.All
import Wide.All
import OpenK.AllK
import Wide.FinOn
import HandS.ForMost
import HandS.Defaults
import KE.KDictDisplayH
import HandS.HeadHook1
import KE.SortData
import KE.DataEq
import KE.DataFind
import HandS.IsInst
import HandS.TupAny
import HandS.Zip
import KE.SortUse
import KE.SortCalls
import KE.LtData
import KE.LtSeq
import KE.KSortTup
import HandS.HeadEnd
import HandS.Head0
import HandS.Head1
import HandS.Head2
import HandS.HeadHook2
import HandS.Style
import HandS.More
import HandS.WordsDict
import KE.KDictSum
import KE.KDictCopyH
import HandS.ExcValue
import HandS.Conv
import HandS.TryMany
import HandS.TryOnly
import HandS.ExcIs
import HandS.ExcOwn
import HandS.HeadHook4
import HandS.ExcCtx
import HandS.HotCalls
import KE.DataCmp
import PySem.Challenge.RW_bendfronts_k11_sums_reckoned
set_option Elab.async false
set_option linter.all false
set_option maxRecDepth 100000
set_option maxHeartbeats 2000000
namespace L_k11
open PySem PySem.Spec PyProof.Rows L2
def topS (i : Nat) : Stmt := PySem.Challenge.pw_bendfronts_k11_sums_reckoned.main.body.getD i (.Pass ⟨0, 0, 0, 0⟩)
abbrev s_is_whole : Stmt := topS 1
abbrev s_is_word : Stmt := topS 3
abbrev s_is_sum : Stmt := topS 4
abbrev s_odd_ones : Stmt := topS 5
abbrev s_added : Stmt := topS 6
abbrev s_multiplied : Stmt := topS 7
abbrev s__law_bag : Stmt := topS 9
abbrev s__law_take : Stmt := topS 10
abbrev s__law_odd : Stmt := topS 11
abbrev s__law_plus : Stmt := topS 12
abbrev s__law_times : Stmt := topS 13
abbrev s__law_word : Stmt := topS 14
abbrev s__law_sum : Stmt := topS 15
abbrev s__law_right : Stmt := topS 16
abbrev s_law : Stmt := topS 17
def d_is_whole : He.DefD := ⟨("is_whole", none), "is_whole", "is_whole", defArgs s_is_whole, defBody s_is_whole, defScope s_is_whole, [], []⟩
def d_is_word : He.DefD := ⟨("is_word", none), "is_word", "is_word", defArgs s_is_word, defBody s_is_word, defScope s_is_word, [], []⟩
def d_is_sum : He.DefD := ⟨("is_sum", none), "is_sum", "is_sum", defArgs s_is_sum, defBody s_is_sum, defScope s_is_sum, [], []⟩
def d_odd_ones : He.DefD := ⟨("odd_ones", none), "odd_ones", "odd_ones", defArgs s_odd_ones, defBody s_odd_ones, defScope s_odd_ones, [], []⟩
def d_added : He.DefD := ⟨("added", none), "added", "added", defArgs s_added, defBody s_added, defScope s_added, [], []⟩
def d_multiplied : He.DefD := ⟨("multiplied", none), "multiplied", "multiplied", defArgs s_multiplied, defBody s_multiplied, defScope s_multiplied, [], []⟩
def d__law_bag : He.DefD := ⟨("_law_bag", none), "_law_bag", "_law_bag", defArgs s__law_bag, defBody s__law_bag, defScope s__law_bag, [], []⟩
def d__law_take : He.DefD := ⟨("_law_take", none), "_law_take", "_law_take", defArgs s__law_take, defBody s__law_take, defScope s__law_take, [], []⟩
def d__law_odd : He.DefD := ⟨("_law_odd", none), "_law_odd", "_law_odd", defArgs s__law_odd, defBody s__law_odd, defScope s__law_odd, [], []⟩
def d__law_plus : He.DefD := ⟨("_law_plus", none), "_law_plus", "_law_plus", defArgs s__law_plus, defBody s__law_plus, defScope s__law_plus, [], []⟩
def d__law_times : He.DefD := ⟨("_law_times", none), "_law_times", "_law_times", defArgs s__law_times, defBody s__law_times, defScope s__law_times, [], []⟩
def d__law_word : He.DefD := ⟨("_law_word", none), "_law_word", "_law_word", defArgs s__law_word, defBody s__law_word, defScope s__law_word, [], []⟩
def d__law_sum : He.DefD := ⟨("_law_sum", none), "_law_sum", "_law_sum", defArgs s__law_sum, defBody s__law_sum, defScope s__law_sum, [], []⟩
def d__law_right : He.DefD := ⟨("_law_right", none), "_law_right", "_law_right", defArgs s__law_right, defBody s__law_right, defScope s__law_right, [], []⟩
def d_law : He.DefD := ⟨("law", none), "law", "law", defArgs s_law, defBody s_law, defScope s_law, [], []⟩
def fn : List He.DefD := [d_is_whole, d_is_word, d_is_sum, d_odd_ones, d_added, d_multiplied, d__law_bag, d__law_take, d__law_odd, d__law_plus, d__law_times, d__law_word, d__law_sum, d__law_right, d_law]
def fa : List He.Fa := [.glo "is_whole", .glo "is_word", .glo "is_sum", .glo "odd_ones", .glo "added", .glo "multiplied", .glo "_law_bag", .glo "_law_take", .glo "_law_odd", .glo "_law_plus", .glo "_law_times", .glo "_law_word", .glo "_law_sum", .glo "_law_right", .glo "law", .free "abs", .free "all", .free "bool", .free "int", .free "isinstance", .free "len", .free "list", .free "max", .free "min", .free "range", .free "sorted", .free "tuple", .free "zip"]
abbrev R : PySem.W.OpenRow := PySem.W.OpenLaw.row PySem.Challenge.rw_bendfronts_k11_sums_reckoned
abbrev hk : PySem.W.Hook := He.hookD 2 fa fn
def ob (s : PySem.W.SharedT) : He.AlD := He.obsDG 2 fa fn (HandSHeadRun.getT s)
theorem ob_eq (s : PySem.W.SharedT) : ob s = hk.obs s.abs := He.obsDG_eq (HandSHeadRun.getT_eq s)
def loose0 : List PySem.Str := ["is_whole", "is_word", "is_sum", "odd_ones", "added", "multiplied", "_law_bag", "_law_take", "_law_odd", "_law_plus", "_law_times", "_law_word", "_law_sum", "_law_right"]
abbrev loose : List PySem.Str := loose0
theorem run (w : World) : HandSHeadRun.RunEq R (PySem.W.view R.prog [17]) hk ob 4000 loose w := by
  intro os
  kernel_rfl
end L_k11
namespace VS
open PySem PySem.Spec PyProof.Rows L2 PySem.Calls
open Sem (wp)
section
variable {prog : Program} {w : World} {K : Type} [DecidableEq K] (knd : KeyKind prog w K)
def ItN (h : Heap) : K ⊕ List K → Value → Prop
  | .inl k, v => knd.is k v = true
  | .inr ks, v => ∃ b, v = .ref b ∧ IsTupleKey knd h ks b
inductive ItsN (h : Heap) : List (K ⊕ List K) → List Value → Prop
  | nil : ItsN h [] []
  | cons {k : K ⊕ List K} {v : Value} {ks : List (K ⊕ List K)} {vs : List Value} : ItN knd h k v → ItsN h ks vs → ItsN h (k :: ks) (v :: vs)
def IsNKey (h : Heap) (ks : List (K ⊕ List K)) (a : Addr) : Prop := ∃ o items n, h.get? a = some o ∧ o.cls = .type "tuple" ∧ o.data = .seq items n ∧ ItsN knd h ks items.toList
variable {knd}
theorem ItN.inj {h : Heap} {x y : K ⊕ List K} {v : Value} (hx : ItN knd h x v) (hy : ItN knd h y v) : x = y := by
  cases x with
  | inl k => cases y with
    | inl k' => rw [knd.inj _ _ _ hx hy]
    | inr ks' =>
      obtain ⟨b, rfl, _⟩ := hy
      have := knd.byValue _ _ hx
      simp [carriedByValue] at this
  | inr ks => cases y with
    | inl k' =>
      obtain ⟨b, rfl, _⟩ := hx
      have := knd.byValue _ _ hy
      simp [carriedByValue] at this
    | inr ks' =>
      obtain ⟨b, rfl, hx⟩ := hx
      obtain ⟨b', e, hy⟩ := hy
      cases e
      rw [hx.inj hy]
theorem ItsN.inj {h : Heap} {x y : List (K ⊕ List K)} {vs : List Value} (hx : ItsN knd h x vs) (hy : ItsN knd h y vs) : x = y := by
  induction hx generalizing y with
  | nil => cases hy; rfl
  | cons h1 _ ih =>
    cases hy with
    | cons h2 t2 => rw [h1.inj h2, ih t2]
theorem IsNKey.typeIs {s : Shared} {ks : List (K ⊕ List K)} {a : Addr} (x : IsNKey knd s.heap ks a) : s.TypeIs (.ref a) "tuple" := let ⟨o, _, _, ho, hc, _⟩ := x; ⟨o, ho, hc⟩
theorem IsNKey.inj {h : Heap} {a : Addr} {x y : List (K ⊕ List K)} (hx : IsNKey knd h x a) (hy : IsNKey knd h y a) : x = y := by
  obtain ⟨o, items, n, ho, _, hd, hi⟩ := hx
  obtain ⟨o', items', n', ho', _, hd', hi'⟩ := hy
  obtain rfl : o = o' := Option.some.inj (ho.symm.trans ho')
  rw [hd] at hd'
  injection hd' with h1 _
  subst h1
  exact hi.inj hi'
theorem ItsN.keeps {h h' : Heap} {d : Addr} {o : Obj} {es ep} (ho : h.get? d = some o) (hd : o.data = .dict es ep) (hs : Heap.SameBut d h h') {ks : List (K ⊕ List K)} {vs : List Value} (x : ItsN knd h ks vs) : ItsN knd h' ks vs := by
  induction x with
  | nil => exact .nil
  | @cons k v ks vs h1 _ ih =>
    refine .cons ?_ ih
    cases k with
    | inl k => exact h1
    | inr ks =>
      obtain ⟨b, e, t⟩ := h1
      exact ⟨b, e, t.keeps ho hd hs⟩
theorem IsNKey.keeps {h h' : Heap} {ks : List (K ⊕ List K)} {a d : Addr} {o : Obj} {es ep} (x : IsNKey knd h ks a) (ho : h.get? d = some o) (hd : o.data = .dict es ep) (hs : Heap.SameBut d h h') : IsNKey knd h' ks a := by
  obtain ⟨o', items, n, ho', hc, hd', hi⟩ := x
  have hne : a ≠ d := by
    rintro rfl
    obtain rfl : o' = o := Option.some.inj (ho'.symm.trans ho)
    rw [hd] at hd'; exact nomatch hd'
  exact ⟨o', items, n, (hs.2 a hne).trans ho', hc, hd', hi.keeps ho hd hs⟩
def itHash (knd : KeyKind prog w K) : K ⊕ List K → Int
  | .inl k => knd.hash k
  | .inr ks => tupleKeyHash knd ks
def itDraws : K ⊕ List K → Nat
  | .inl _ => 1
  | .inr ks => ks.length + 1
def nDraws (ks : List (K ⊕ List K)) : Nat := (ks.map itDraws).sum + 1
def nHash (knd : KeyKind prog w K) (ks : List (K ⊕ List K)) : Int := reduceHash (Builtin.Tuple.tupleHashOf (ks.map (itHash knd)))
variable {A : Around} {E : Value → Shared → Prop} {s : Shared}
theorem itn_hash {k : K ⊕ List K} {v : Value} {Q : Int → Shared → Prop} (hu : A.units < cLine) (hk : ItN knd s.heap k v) (h : Q (itHash knd k) { s with toks := s.toks + itDraws k }) : wpAny (model prog w) A (pyHash v) Q E s := by
  cases k with
  | inl k => exact knd.pyHash hk h
  | inr ks =>
    obtain ⟨b, rfl, t⟩ := hk
    exact wpAny_pyHash_tuple hu t h
theorem itn_eq {x y : K ⊕ List K} {u v : Value} {Q : Bool → Shared → Prop} (hu : A.units < cLine) (hx : ItN knd s.heap x u) (hy : ItN knd s.heap y v) (hxy : (∃ a b, x = .inl a ∧ y = .inl b) ∨ ∃ a b, x = .inr a ∧ y = .inr b) (h : Q (decide (x = y)) s) : wpAny (model prog w) A (eqBool u v) Q E s := by
  rcases hxy with ⟨a, b, rfl, rfl⟩ | ⟨a, b, rfl, rfl⟩
  · refine knd.eqBool (a := a) (b := b) hx hy ?_
    simpa using h
  · obtain ⟨c, rfl, t1⟩ := hx
    obtain ⟨d, rfl, t2⟩ := hy
    refine wpAny_eqBool_tuple hu t1 t2 ?_
    simpa using h
theorem itn_quiet {k : K ⊕ List K} {v : Value} {n : Nat} {Q : Bool → Shared → Prop} (hk : ItN knd s.heap k v) (h : Q true s) : wpAny (model prog w) A (eqIsQuiet (n + 2) v) Q E s := by
  cases k with
  | inl k =>
    rw [eqIsQuiet_byValue _ (knd.byValue _ _ hk)]
    exact wpAny_pure h
  | inr ks =>
    obtain ⟨b, rfl, hk⟩ := hk
    have hT := hk.typeIs
    obtain ⟨o, items, n, ho, _, hd, hi⟩ := hk
    unfold eqIsQuiet
    refine wpAny_bind (wpAny_specialOf hT F.slot_tuple_eq.lookup ?_)
    show wpAny _ _ (isInstance (.ref b) (.type "tuple") >>= _) _ _ s
    refine wpAny_bind (wpAny_isInstance hT isSubtype_tuple_tuple ?_)
    simp only [Bool.not_true, Bool.false_eq_true, if_false]
    refine wpAny_bind (wpAny_seqItems ho hd ?_)
    refine wpAny_bind ?_
    show wpAny _ _ (forIn items _ _) _ _ s
    rw [← Array.forIn_toList]
    refine wpAny_forIn_list _ (fun rest r s' => r.1 = none ∧ s' = s ∧ ∀ v ∈ rest, carriedByValue v = true) _ ?_ ?_ _ _ ⟨rfl, rfl, hi.byValue⟩
    · rintro v rest r s' ⟨hr, rfl, hall⟩
      rw [eqIsQuiet_byValue _ (hall v List.mem_cons_self)]
      refine wpAny_bind (wpAny_pure ?_)
      simp only [Bool.not_true, Bool.false_eq_true, if_false]
      exact wpAny_pure ⟨rfl, rfl, fun u hu' => hall u (List.mem_cons_of_mem _ hu')⟩
    · rintro ⟨r1, r2⟩ s' ⟨hr, rfl, _⟩
      simp only at hr
      subst hr
      exact wpAny_pure h
def kdI : K ⊕ List K → Bool
  | .inl _ => true
  | .inr _ => false
theorem kd_same {x y : K ⊕ List K} (h : kdI x = kdI y) : (∃ a b, x = .inl a ∧ y = .inl b) ∨ ∃ a b, x = .inr a ∧ y = .inr b := by
  cases x <;> cases y <;> first | (exact .inl ⟨_, _, rfl, rfl⟩) | (exact .inr ⟨_, _, rfl, rfl⟩) | cases h
theorem hash_n {ks : List (K ⊕ List K)} {a : Addr} {Q : Int → Shared → Prop} (hu : A.units + 1 < cLine) (hk : IsNKey knd s.heap ks a) (h : Q (nHash knd ks) { s with toks := s.toks + nDraws ks }) :
    wpAny (model prog w) A (pyHash (.ref a)) Q E s := by
  have hT := hk.typeIs
  obtain ⟨o, items, n, ho, _, hd, hi⟩ := hk
  unfold pyHash
  first | unfold pyHashByItsType | skip
  first | refine wpAny_bind (wpAny_cRoomFor_or (.inr (by omega)) ?_) | skip
  refine wpAny_bind (wpAny_specialOf hT F.slot_tuple_hash.lookup ?_)
  show wpAny _ _ (if (some (Value.builtin "tuple.__hash__") == some Value.none) = true then _ else _) Q E s
  rw [if_neg (by rw [beq_builtin_none]; exact Bool.false_ne_true)]
  refine wpAny_bind (wpAny_specialOf hT F.slot_tuple_hash.lookup ?_)
  show wpAny _ _ (callSpecialIfBoundUnlessNone? (.ref a) "__hash__" _ >>= _) Q E s
  refine wpAny_bind (wpAny_callSpecialIfBoundUnlessNone?_slot hT F.slot_tuple_hash (wpAny_call_entry F.slot_tuple_hash hT F.entry_tuple_hash ?_ (F.args_tuple_hash_1 _)))
  show wpAny _ _ (Builtin.Tuple.tupleItemsOf (.ref a) >>= _) _ _ s
  refine wpAny_bind (wpAny_tupleItemsOf ho hd ?_)
  refine wpAny_bind ?_
  rw [← Array.forIn_toList]
  refine wpAny_forIn_list _
    (fun rest (b : Array Int) s' => ∃ done left, ks = done ++ left ∧ ItsN knd s.heap left rest ∧ b.toList = done.map (itHash knd) ∧ s' = { s with toks := s.toks + (done.map itDraws).sum })
    _ ?_ ?_ _ _ ⟨[], ks, rfl, hi, rfl, rfl⟩
  · rintro x rest b s' ⟨done, left, rfl, hl, hb, rfl⟩
    cases hl with
    | @cons k _ ks' _ h1 hl' =>
      refine wpAny_bind (itn_hash (k := k) hu h1 ?_)
      first
        | exact wpAny_pure ⟨done ++ [k], ks', by simp, hl', by simp [hb], by simp [Nat.add_assoc]⟩
        | exact wpAny_bind (wpAny_pure (wpAny_pure ⟨done ++ [k], ks', by simp, hl', by simp [hb], by simp [Nat.add_assoc]⟩))
  · rintro b s' ⟨done, left, rfl, hl, hb, rfl⟩
    cases hl
    rw [List.append_nil] at h
    show wpAny _ _ (retInt (Builtin.Tuple.tupleHashOf b.toList)) _ _ _
    rw [hb]
    refine wpAny_ret_mkInt ?_
    show wpAny _ _ (if (decide (-(2 : Int) ^ 63 ≤ Builtin.Tuple.tupleHashOf (done.map (itHash knd))) && decide (Builtin.Tuple.tupleHashOf (done.map (itHash knd)) < 2 ^ 63)) = true then _ else _) Q E _
    unfold nHash reduceHash at h
    by_cases hr : (decide (-(2 : Int) ^ 63 ≤ Builtin.Tuple.tupleHashOf (done.map (itHash knd))) && decide (Builtin.Tuple.tupleHashOf (done.map (itHash knd)) < 2 ^ 63)) = true
    · rw [if_pos hr]
      rw [if_pos hr] at h
      exact wpAny_pure (by simpa [Nat.add_assoc, nDraws] using h)
    · rw [if_neg hr]
      rw [if_neg hr] at h
      exact wpAny_bind (wpAny_rule (wpAny_pure (by simpa [Nat.add_assoc, nDraws] using h)))
theorem nkey_eq_tree {x y : List (K ⊕ List K)} {a b : Addr} {P : Fin → Shared → Prop} (hu : A.units < cLine) (hkd : x.map kdI = y.map kdI) (hx : IsNKey knd s.heap x a) (hy : IsNKey knd s.heap y b) (h : P (.done (.ret (.bool (decide (x = y))))) s) :
    wpAny (model prog w) A (Builtin.«tuple.__eq__» ⟨[.ref a, .ref b], []⟩) P E s := by
  have hTb := hy.typeIs
  obtain ⟨oa, xs, na, hoa, _, hda, hia⟩ := hx
  obtain ⟨ob, ys, nb, hob, _, hdb, hib⟩ := hy
  show wpAny _ _ (isInstance (.ref b) (.type "tuple") >>= _) _ _ s
  refine wpAny_bind (wpAny_isInstance hTb isSubtype_tuple_tuple ?_)
  simp only [Bool.not_true, Bool.false_eq_true, if_false]
  refine wpAny_bind (wpAny_tupleItemsOf hoa hda ?_)
  refine wpAny_bind (wpAny_tupleItemsOf hob hdb ?_)
  refine wpAny_bind ?_
  refine wpAny_forIn_list _
    (fun rest r s' => r.1 = none ∧ s' = s ∧ ∃ x' y' xs' ys', rest = List.zip xs' ys' ∧ ItsN knd s.heap x' xs' ∧ ItsN knd s.heap y' ys' ∧ x'.map kdI = y'.map kdI ∧ decide (x' = y') = decide (x = y) ∧ (xs'.length == ys'.length) = (xs.size == ys.size))
    _ ?_ ?_ _ _ ⟨rfl, rfl, x, y, xs.toList, ys.toList, rfl, hia, hib, hkd, rfl, by simp⟩
  · rintro ⟨u, v⟩ rest r s' ⟨hr, rfl, x', y', xs', ys', hz, hx', hy', hk', hdec, hlen⟩
    cases hx' with
    | nil => simp at hz
    | @cons k1 u' x'' xs'' h1 hx'' =>
      cases hy' with
      | nil => simp at hz
      | @cons k2 v' y'' ys'' h2 hy'' =>
        simp only [List.zip_cons_cons, List.cons.injEq, Prod.mk.injEq] at hz
        obtain ⟨⟨rfl, rfl⟩, rfl⟩ := hz
        simp only [List.map_cons, List.cons.injEq] at hk'
        refine wpAny_bind (itn_eq (x := k1) (y := k2) hu h1 h2 (kd_same hk'.1) ?_)
        by_cases hk : k1 = k2
        · subst hk
          rw [decide_eq_true rfl]
          simp only [Bool.not_true, Bool.false_eq_true, if_false]
          refine wpAny_pure ⟨rfl, rfl, x'', y'', xs'', ys'', rfl, hx'', hy'', hk'.2, ?_, by simpa using hlen⟩
          rw [← hdec]
          by_cases hxy : x'' = y''
          · simp [hxy]
          · simp [hxy]
        · rw [decide_eq_false hk]
          simp only [Bool.not_false, if_true]
          have hf : decide (x = y) = false := by rw [← hdec]; simp [hk]
          rw [hf] at h
          exact wpAny_bind (wpAny_pure (wpAny_pure (wpAny_pure h)))
  · rintro ⟨r1, r2⟩ s' ⟨hr, rfl, x', y', xs', ys', hz, hx', hy', _, hdec, hlen⟩
    simp only at hr
    subst hr
    refine wpAny_pure ?_
    have hfin : (xs.size == ys.size) = decide (x = y) := by
      rw [← hdec, ← hlen]
      cases hx' with
      | nil =>
        cases hy' with
        | nil => simp
        | cons _ _ => simp
      | cons _ _ =>
        cases hy' with
        | nil => simp
        | cons _ _ => simp at hz
    show P (.done (.ret (.bool (xs.size == ys.size)))) s'
    rw [hfin]; exact h
theorem eq_n {x y : List (K ⊕ List K)} {a b : Addr} {Q : Bool → Shared → Prop} (hu : A.units + 1 < cLine) (hkd : x.map kdI = y.map kdI) (hx : IsNKey knd s.heap x a) (hy : IsNKey knd s.heap y b) (h : Q (decide (x = y)) s) :
    wpAny (model prog w) A (eqBool (.ref a) (.ref b)) Q E s := by
  unfold eqBool
  try with_reducible refine wpAny_holding ?_
  show wpAny _ _ (if (Value.ref a == Value.ref b) = true then _ else _) Q E s
  by_cases hab : (Value.ref a == Value.ref b) = true
  · rw [if_pos hab]
    have e : a = b := by have := eq_of_beq hab; injection this
    subst e
    obtain rfl := hx.inj hy
    exact wpAny_bind (wpAny_rule (wpAny_pure (by simpa using h)))
  · rw [if_neg hab]
    exact wpAny_bind (wpAny_richCompare_same_room (op := .Eq) hx.typeIs hy.typeIs F.slot_tuple_eq
      (wpAny_call_entry F.slot_tuple_eq hx.typeIs F.entry_tuple_eq (nkey_eq_tree hu hkd hx hy ⟨_, rfl, (fun e => nomatch e), wpAny_truthy_bool h⟩) (F.args_tuple_eq_2 _ _)) (by omega))
theorem quiet_n {ks : List (K ⊕ List K)} {a : Addr} {Q : Bool → Shared → Prop} (hk : IsNKey knd s.heap ks a) (h : Q true s) : wpAny (model prog w) A (eqIsQuiet 8 (.ref a)) Q E s := by
  have hT := hk.typeIs
  obtain ⟨o, items, n, ho, _, hd, hi⟩ := hk
  unfold eqIsQuiet
  refine wpAny_bind (wpAny_specialOf hT F.slot_tuple_eq.lookup ?_)
  show wpAny _ _ (isInstance (.ref a) (.type "tuple") >>= _) _ _ s
  refine wpAny_bind (wpAny_isInstance hT isSubtype_tuple_tuple ?_)
  simp only [Bool.not_true, Bool.false_eq_true, if_false]
  refine wpAny_bind (wpAny_seqItems ho hd ?_)
  refine wpAny_bind ?_
  show wpAny _ _ (forIn items _ _) _ _ s
  rw [← Array.forIn_toList]
  refine wpAny_forIn_list _ (fun rest r s' => r.1 = none ∧ s' = s ∧ ∃ l, ItsN knd s.heap l rest) _ ?_ ?_ _ _ ⟨rfl, rfl, ks, hi⟩
  · rintro v rest r s' ⟨hr, rfl, l, hl⟩
    cases hl with
    | cons h1 h2 =>
      refine wpAny_bind (itn_quiet h1 ?_)
      simp only [Bool.not_true, Bool.false_eq_true, if_false]
      exact wpAny_pure ⟨rfl, rfl, _, h2⟩
  · rintro ⟨r1, r2⟩ s' ⟨hr, rfl, _⟩
    simp only at hr
    subst hr
    exact wpAny_pure h
def nestKind {prog : Program} {w : World} {K : Type} [DecidableEq K] (knd : KeyKind prog w K) : HeapKind prog w (List K × K) where
  is := fun h k a => IsNKey knd h [.inr k.1, .inl k.2] a
  hash := fun k => nHash knd [.inr k.1, .inl k.2]
  draws := fun k => nDraws [Sum.inr k.1, Sum.inl k.2]
  room := fun A => A.units + 1 < cLine
  inj := fun {h a x y} hx hy => by
    have := hx.inj hy
    simp only [List.cons.injEq, Sum.inr.injEq, Sum.inl.injEq, and_true] at this
    exact Prod.ext this.1 this.2
  keeps := fun x ho hd hs => x.keeps ho hd hs
  pyHash := fun hu hk h => hash_n hu hk h
  eqBool := fun {A E s x y a b Q} hu hx hy h => eq_n (x := [.inr x.1, .inl x.2]) (y := [.inr y.1, .inl y.2]) hu rfl hx hy (by
    have : decide (([.inr x.1, .inl x.2] : List (K ⊕ List K)) = [.inr y.1, .inl y.2]) = decide (x = y) := by
      by_cases z : x = y
      · subst z; simp
      · rw [decide_eq_false z]
        refine decide_eq_false fun q => z ?_
        simp only [List.cons.injEq, Sum.inr.injEq, Sum.inl.injEq, and_true] at q
        exact Prod.ext q.1 q.2
    rw [this]
    exact h)
  quiet := fun hk h => quiet_n hk h
end
abbrev NK := List Int × Int
def hN (k : NK) : Int := reduceHash (Builtin.Tuple.tupleHashOf [reduceHash (Builtin.Tuple.tupleHashOf (k.1.map hashInt)), hashInt k.2])
abbrev nk (P : Program) (w : World) : HeapKind P w NK := nestKind (PySem.intKind P w)
abbrev NEn := NK × Addr × V
abbrev NP : List NEn → List (NK × Addr × Value) → Prop := Paired fun (p : NEn) (q : NK × Addr × Value) => p.1 = q.1 ∧ p.2.1 = q.2.1 ∧ RelV p.2.2 q.2.2
def nO (a : Addr) (es : List NEn) : HO := .ext fun h => es.length ≤ sizeLine ∧ (a == sysModules) = false ∧ ∃ us : List (NK × Addr × Value), NP es us ∧
  ∃ o ents ep, h.get? a = some o ∧ o.ExactDict ∧ o.data = .dict ents ep ∧ ents.toList = us.map (fun x => (⟨hN x.1, .ref x.2.1, x.2.2⟩ : DictEntry)) ∧ (us.map (·.1)).Nodup
def KN (H : Hp) (k : NK) (b : Addr) : Prop := ∃ c, H b = some (.tup [.ref c, .int k.2]) ∧ H c = some (.tup (k.1.map V.int))
def KNs (H : Hp) (es : List NEn) : Prop := ∀ e ∈ es, KN H e.1 e.2.1
theorem KN.keep {H H' : Hp} {k : NK} {b : Addr} (h : KN H k b) (ht : ∀ b ys, H b = some (.tup ys) → H' b = some (.tup ys)) : KN H' k b := by
  obtain ⟨c, h1, h2⟩ := h
  exact ⟨c, ht _ _ h1, ht _ _ h2⟩
theorem KNs.keep {H H' : Hp} {es : List NEn} (h : KNs H es) (ht : ∀ b ys, H b = some (.tup ys) → H' b = some (.tup ys)) : KNs H' es := fun e he => (h e he).keep ht
section
variable {P : Program} {w : World} {H : Hp} {h : Heap} {a : Addr}
theorem ints_are {ks : List Int} {us : List Value} (r : Vals (ks.map V.int) us) : ItemsAre (PySem.intKind P w) ks us := by
  induction ks generalizing us with
  | nil => rw [List.map_nil] at r; cases r; exact .nil
  | cons k ks ih =>
    rw [List.map_cons] at r
    cases r with
    | cons h t =>
      obtain ⟨t0, rfl⟩ := h
      exact .cons (by simp [PySem.intKind, Value.isInt]) (ih t)
theorem KN.is {k : NK} {b : Addr} (ok : HOk P w H h) (x : KN H k b) : (nk P w).is h k b := by
  obtain ⟨c, h1, h2⟩ := x
  obtain ⟨_, its, r, o, e1, e2, n, e3⟩ := (show ObjOk P w H h b (.tup _) from ok b _ h1)
  obtain ⟨_, its', r', o', f1, f2, n', f3⟩ := (show ObjOk P w H h c (.tup _) from ok c _ h2)
  cases r with
  | cons r1 r2 => cases r2 with
    | cons r2 r3 =>
      cases r3
      obtain ⟨t0, rfl⟩ := r2
      cases r1
      refine ⟨o, _, n, e1, e2, e3, .cons ⟨c, rfl, ?_⟩ (.cons ?_ .nil)⟩
      · exact ⟨o', its'.toArray, n', f1, f2, f3, by simpa using ints_are r'⟩
      · show (PySem.intKind P w).is k.2 (Value.int k.2 t0) = true
        simp [PySem.intKind, Value.isInt]
end
def valN (es : List NEn) (k : NK) : Option V := (es.find? fun e => decide (e.1 = k)).map (·.2.2)
def putN (es : List NEn) (k : NK) (b : Addr) (v : V) : List NEn :=
  if (valN es k).isSome = true then es.map (fun e => if e.1 = k then (e.1, e.2.1, v) else e) else es ++ [(k, b, v)]
theorem valN_pos {p : NEn} {r : List NEn} {k : NK} (e : p.1 = k) : valN (p :: r) k = some p.2.2 := by simp [valN, List.find?_cons, e]
theorem valN_neg {p : NEn} {r : List NEn} {k : NK} (e : ¬ p.1 = k) : valN (p :: r) k = valN r k := by simp [valN, List.find?_cons, e]
theorem NP.val {es : List NEn} {us : List (NK × Addr × Value)} (r : NP es us) (k : NK) : RelO (valN es k) ((atKey us k).map (·.2)) := by
  induction r with
  | nil => exact True.intro
  | @cons p q ps qs h t ih =>
    obtain ⟨h1, _, h2⟩ := h
    by_cases e : p.1 = k
    · have e' : q.1 = k := h1.symm.trans e
      have b : atKey (q :: qs) k = some q.2 := by simp [atKey, List.find?_cons, e']
      rw [valN_pos e, b]; exact h2
    · have e' : ¬ q.1 = k := fun z => e (h1.trans z)
      have b : atKey (q :: qs) k = atKey qs k := by simp [atKey, List.find?_cons, e']
      rw [valN_neg e, b]; exact ih
theorem NP.put {es : List NEn} {us : List (NK × Addr × Value)} (r : NP es us) (k : NK) {b : Addr} {y : V} {u : Value} (ry : RelV y u) : NP (putN es k b y) (storedH us k b u) := by
  have e : (valN es k).isSome = (atKey us k).isSome := by rw [(r.val k).isSome_eq, Option.isSome_map]
  unfold putN storedH
  rw [e]
  by_cases q : (atKey us k).isSome = true
  · rw [if_pos q, if_pos q]
    clear e q
    induction r with
    | nil => exact .nil
    | @cons p q ps qs h t ih =>
      rw [List.map_cons, List.map_cons]
      refine .cons ?_ ih
      obtain ⟨h1, h2, h3⟩ := h
      unfold putAt
      by_cases e : p.1 = k
      · rw [if_pos e, if_pos (h1.symm.trans e)]; exact ⟨h1, h2, ry⟩
      · rw [if_neg e, if_neg (fun z => e (h1.trans z))]; exact ⟨h1, h2, h3⟩
  · rw [if_neg q, if_neg q]; exact Paired.snoc r ⟨rfl, rfl, ry⟩
section
variable {X : Cx} {pins : List (Addr × Obj)} {σ : L2.St} {H : Hp} {s : Shared} {a b : Addr} {k : NK} {es : List NEn} {v : V} {r : Value} {A : Around} {E : Value → Shared → Prop}
end
section
variable {X : Cx} {o i e f value : Expr} {pos pos' apos cpos : Pos} {td ty tv tx : TE}
end
section
variable {P : Program} {w : World} {K : PySem.W.Frag} {tg : Expr} {d : Addr} {o : Obj} {es : Array DictEntry} {ep : Nat}
end
end VS
namespace VS
open PySem PySem.Spec PyProof.Rows L2
inductive DKs where
  | K (ks : List Key) | T (ks : List (List Key))
  deriving Inhabited
def DKs.len : DKs → Nat
  | .K ks => ks.length
  | .T ks => ks.length
def dO : DKs → List V → HO
  | .K ks, vs => .dK (ks.zip vs)
  | .T ks, vs => .dT (ks.zip vs)
inductive D where
  | non | bl (b : Bool) | int (i : Int) | str (x : Str) | tup (xs : List D) | lst (xs : List D) | rol (ns : List Int) | dic (q : DKs) (xs : List D) | nd (ks : List NK) (xs : List D) | obj (a : Addr) | gon | ins (c : Nat) (xs : List D)
  deriving Inhabited
def clsNm : Nat → Str
  | 0 => "Sums"
  | 1 => "Straight"
  | _ => "Desk"
def clsFs : Nat → List Str
  | 0 => []
  | 1 => ["numbers"]
  | _ => ["drawings"]
def inO (K : PySem.W.Frag) (c : Nat) (dx : Addr) (vs : List V) : HO := .ins (He.ga K (clsNm c)) dx ((clsFs c).zip vs)
inductive Gh where
  | un | fz | ow (r : Nat) (p : List Nat)
abbrev G := Addr → Gh
def lv (k : Nat) : Nat := if 99 ≤ k then k else k - 1
def Kc (K : PySem.W.Frag) (a : Addr) (xs : List V) : Prop :=
  ∃ (o : Obj) (its : Array Value) (n : Nat), K.lookup a = some o ∧ o.cls = .type "list" ∧ o.dict = none ∧ o.data = .seq its n ∧ its.size ≤ sizeLine ∧ Vals xs its.toList
theorem rol_sq {K : PySem.W.Frag} {H : Hp} {a : Addr} {xs : List V} (h : (∃ o, H a = some (.frz o (.lst xs))) ∨ Kc K a xs) : SqL K H a xs := h.elim (fun z => .inl (.inr z)) .inr
mutual
def Rep (K : PySem.W.Frag) (H : Hp) : D → V → Prop
  | .non, v => v = .non
  | .bl b, v => v = .bl b
  | .int i, v => v = .int i
  | .str x, v => v = .str x
  | .tup ds, v => ∃ a vs, v = .ref a ∧ H a = some (.tup vs) ∧ RepL K H ds vs
  | .lst ds, v => ∃ a vs, v = .ref a ∧ H a = some (.lst vs) ∧ RepL K H ds vs
  | .rol ns, v => ∃ a, v = .ref a ∧ ((∃ o, H a = some (.frz o (.lst (ns.map V.int)))) ∨ Kc K a (ns.map V.int))
  | .dic q ds, v => ∃ a vs, v = .ref a ∧ Rd H a (dO q vs) ∧ q.len = ds.length ∧ RepL K H ds vs
  | .nd ks ds, v => ∃ a es, v = .ref a ∧ Rd H a (nO a es) ∧ es.map (·.1) = ks ∧ KNs H es ∧ RepL K H ds (es.map (·.2.2))
  | .obj a, v => v = .ref a
  | .gon, v => ∃ a, v = .ref a
  | .ins c ds, v => ∃ a dx vs, v = .ref a ∧ H a = some (inO K c dx vs) ∧ (clsFs c).length = ds.length ∧ RepL K H ds vs
def RepL (K : PySem.W.Frag) (H : Hp) : List D → List V → Prop
  | [], vs => vs = []
  | d :: ds, vs => ∃ v r, vs = v :: r ∧ Rep K H d v ∧ RepL K H ds r
end
mutual
def Own (K : PySem.W.Frag) (H : Hp) (g : G) : D → Nat → Nat → List Nat → V → Prop
  | .non, _, _, _, v => v = .non
  | .bl b, _, _, _, v => v = .bl b
  | .int i, _, _, _, v => v = .int i
  | .str x, _, _, _, v => v = .str x
  | .tup ds, k, r, p, v => ∃ a vs, v = .ref a ∧ H a = some (.tup vs) ∧ OwnL K H g ds (lv k) r p 0 vs
  | .lst ds, k, r, p, v => ∃ a vs, v = .ref a ∧ H a = some (.lst vs) ∧ g a = (if k = 0 then .fz else .ow r p) ∧ OwnL K H g ds (lv k) r p 0 vs
  | .rol ns, _, _, _, v => ∃ a, v = .ref a ∧ ((∃ o, H a = some (.frz o (.lst (ns.map V.int)))) ∨ Kc K a (ns.map V.int))
  | .dic q ds, k, r, p, v => ∃ a vs, v = .ref a ∧ (H a = some (dO q vs) ∨ (k = 0 ∧ ∃ o, H a = some (.frz o (dO q vs)))) ∧ q.len = ds.length ∧ g a = (if k = 0 then .fz else .ow r p) ∧ OwnL K H g ds (lv k) r p 0 vs
  | .nd ks ds, k, r, p, v => ∃ a es, v = .ref a ∧ (H a = some (nO a es) ∨ (k = 0 ∧ ∃ o, H a = some (.frz o (nO a es)))) ∧ es.map (·.1) = ks ∧ KNs H es ∧ g a = (if k = 0 then .fz else .ow r p) ∧ OwnL K H g ds (lv k) r p 0 (es.map (·.2.2))
  | .obj a, _, _, _, v => v = .ref a
  | .gon, _, _, _, v => ∃ a, v = .ref a
  | .ins c ds, k, r, p, v => ∃ a dx vs, v = .ref a ∧ H a = some (inO K c dx vs) ∧ (clsFs c).length = ds.length ∧ g a = (if k = 0 then .fz else .ow r p) ∧ OwnL K H g ds (lv k) r p 0 vs
def OwnL (K : PySem.W.Frag) (H : Hp) (g : G) : List D → Nat → Nat → List Nat → Nat → List V → Prop
  | [], _, _, _, _, vs => vs = []
  | d :: ds, k, r, p, i, vs => ∃ v w, vs = v :: w ∧ Own K H g d k r (i :: p) v ∧ OwnL K H g ds k r p (i + 1) w
end
variable {K : PySem.W.Frag}
theorem own_rep {H : Hp} {g : G} : (d : D) → ∀ {k r p v}, Own K H g d k r p v → Rep K H d v
  | .non, _, _, _, _, h => h
  | .bl b, _, _, _, _, h => h
  | .int i, _, _, _, _, h => h
  | .str x, _, _, _, _, h => h
  | .obj a, _, _, _, _, h => h
  | .gon, _, _, _, _, h => h
  | .ins c ds, _, _, _, _, h => by
    obtain ⟨a, dx, vs, e, ha, hc, _, hl⟩ := h
    exact ⟨a, dx, vs, e, ha, hc, go ds hl⟩
  | .tup ds, _, _, _, _, h => by
    obtain ⟨a, vs, e, ha, hl⟩ := h
    exact ⟨a, vs, e, ha, go ds hl⟩
  | .lst ds, _, _, _, _, h => by
    obtain ⟨a, vs, e, ha, _, hl⟩ := h
    exact ⟨a, vs, e, ha, go ds hl⟩
  | .rol ns, _, _, _, _, h => by
    obtain ⟨a, e, hs⟩ := h
    exact ⟨a, e, hs⟩
  | .dic q ds, _, _, _, _, h => by
    obtain ⟨a, vs, e, ha, hq, _, hl⟩ := h
    exact ⟨a, vs, e, ha.elim .inl fun z => .inr z.2, hq, go ds hl⟩
  | .nd ks ds, _, _, _, _, h => by
    obtain ⟨a, es, e, ha, hq, hn, _, hl⟩ := h
    exact ⟨a, es, e, ha.elim .inl fun z => .inr z.2, hq, hn, go ds hl⟩
where
  go : (ds : List D) → ∀ {k r p i vs}, OwnL K H g ds k r p i vs → RepL K H ds vs
  | [], _, _, _, _, _, h => h
  | d :: ds, _, _, _, _, _, h => by
    obtain ⟨v, w, e, h1, h2⟩ := h
    exact ⟨v, w, e, own_rep d h1, go ds h2⟩
theorem rep_mono {H H' : Hp} (s : Same H H') : (d : D) → ∀ {v}, Rep K H d v → Rep K H' d v
  | .non, _, h => h
  | .bl b, _, h => h
  | .int i, _, h => h
  | .str x, _, h => h
  | .obj a, _, h => h
  | .gon, _, h => h
  | .ins c ds, _, h => by
    obtain ⟨a, dx, vs, e, ha, hc, hl⟩ := h
    exact ⟨a, dx, vs, e, s _ _ ha, hc, go ds hl⟩
  | .tup ds, _, h => by
    obtain ⟨a, vs, e, ha, hl⟩ := h
    exact ⟨a, vs, e, s _ _ ha, go ds hl⟩
  | .lst ds, _, h => by
    obtain ⟨a, vs, e, ha, hl⟩ := h
    exact ⟨a, vs, e, s _ _ ha, go ds hl⟩
  | .rol ns, _, h => by
    obtain ⟨a, e, hs⟩ := h
    exact ⟨a, e, hs.imp (fun ⟨o, z⟩ => ⟨o, s _ _ z⟩) id⟩
  | .dic q ds, _, h => by
    obtain ⟨a, vs, e, ha, hq, hl⟩ := h
    exact ⟨a, vs, e, ha.imp (s _ _) fun ⟨o, z⟩ => ⟨o, s _ _ z⟩, hq, go ds hl⟩
  | .nd ks ds, _, h => by
    obtain ⟨a, es, e, ha, hq, hn, hl⟩ := h
    exact ⟨a, es, e, ha.imp (s _ _) fun ⟨o, z⟩ => ⟨o, s _ _ z⟩, hq, hn.keep fun b ys z => s _ _ z, go ds hl⟩
where
  go : (ds : List D) → ∀ {vs}, RepL K H ds vs → RepL K H' ds vs
  | [], _, h => h
  | d :: ds, _, h => by
    obtain ⟨v, w, e, h1, h2⟩ := h
    exact ⟨v, w, e, rep_mono s d h1, go ds h2⟩
def has (k n : Nat) : Bool := decide (99 ≤ k) || decide (n < k)
theorem lv_has {k n : Nat} : has (lv k) n = has k (n + 1) := by
  unfold has lv
  by_cases h : 99 ≤ k
  · simp [h]
  · have h2 : ¬ 99 ≤ k - 1 := by omega
    simp only [h, if_false, h2, decide_false, Bool.false_or]
    congr 1
    apply propext
    omega
theorem has0 {k : Nat} : has k 0 = decide (k ≠ 0) := by
  unfold has
  by_cases h : k = 0
  · subst h; rfl
  · simp only [h, ne_eq, not_false_eq_true, decide_true, Bool.or_eq_true, decide_eq_true_eq]
    omega
theorem has_le {j k : Nat} (h : j ≤ k) {n : Nat} (q : has j n = true) : has k n = true := by
  unfold has at *
  simp only [Bool.or_eq_true, decide_eq_true_eq] at *
  omega
def stb : HO → Bool
  | .tup _ => true
  | .frz _ _ => true
  | _ => false
theorem own_conv {H H' : Hp} {g g' : G} {r r' : Nat}
    (ht : ∀ a o, H a = some o → stb o = true → H' a = some o) : (d : D) → ∀ {k j p p' v},
    (99 ≤ k ∨ ∀ a, g a = .fz → g' a = .fz ∧ H' a = H a) →
    (∀ a q, g a = .ow r (q ++ p) → has k q.length = true → H' a = H a ∧ g' a = (if has j q.length = true then Gh.ow r' (q ++ p') else Gh.fz)) →
    (∀ n, has j n = true → has k n = true) → Own K H g d k r p v → Own K H' g' d j r' p' v
  | .non, _, _, _, _, _, _, _, _, h => h
  | .bl b, _, _, _, _, _, _, _, _, h => h
  | .int i, _, _, _, _, _, _, _, _, h => h
  | .str x, _, _, _, _, _, _, _, _, h => h
  | .obj a, _, _, _, _, _, _, _, _, h => h
  | .gon, _, _, _, _, _, _, _, _, h => h
  | .tup ds, k, j, p, p', v, hf, ho, hk, h => by
    obtain ⟨a, vs, e, ha, hl⟩ := h
    refine ⟨a, vs, e, ht _ _ ha rfl, go ds (hf.imp (fun z => by unfold lv; rw [if_pos z]; exact z) id) (fun i b q hb hh => ?_) (fun n hn => by rw [lv_has] at *; exact hk _ hn) hl⟩
    have := ho b (q ++ [i]) (by simpa using hb) (by rw [lv_has] at hh; simpa using hh)
    rw [lv_has]
    simpa using this
  | .lst ds, k, j, p, p', v, hf, ho, hk, h => by
    obtain ⟨a, vs, e, ha, hg, hl⟩ := h
    have key : H' a = H a ∧ g' a = (if j = 0 then Gh.fz else Gh.ow r' p') := by
      by_cases k0 : k = 0
      · have j0 : j = 0 := by
          have := hk 0
          rw [has0, has0] at this
          by_cases z : j = 0
          · exact z
          · simp [z, k0] at this
        rw [if_pos k0] at hg
        rw [if_pos j0]
        have hf' := hf.resolve_left (by omega)
        exact ⟨(hf' a hg).2, (hf' a hg).1⟩
      · rw [if_neg k0] at hg
        obtain ⟨h1, h2⟩ := ho a [] hg (by show has k 0 = true; rw [has0]; simpa using k0)
        refine ⟨h1, h2.trans ?_⟩
        show (if has j 0 = true then _ else _) = _
        rw [has0]
        by_cases j0 : j = 0 <;> simp [j0]
    refine ⟨a, vs, e, key.1.trans ha, key.2, go ds (hf.imp (fun z => by unfold lv; rw [if_pos z]; exact z) id) (fun i b q hb hh => ?_) (fun n hn => by rw [lv_has] at *; exact hk _ hn) hl⟩
    have := ho b (q ++ [i]) (by simpa using hb) (by rw [lv_has] at hh; simpa using hh)
    rw [lv_has]
    simpa using this
  | .ins c ds, k, j, p, p', v, hf, ho, hk, h => by
    obtain ⟨a, dx, vs, e, ha, hc, hg, hl⟩ := h
    have key : H' a = H a ∧ g' a = (if j = 0 then Gh.fz else Gh.ow r' p') := by
      by_cases k0 : k = 0
      · have j0 : j = 0 := by
          have := hk 0
          rw [has0, has0] at this
          by_cases z : j = 0
          · exact z
          · simp [z, k0] at this
        rw [if_pos k0] at hg
        rw [if_pos j0]
        have hf' := hf.resolve_left (by omega)
        exact ⟨(hf' a hg).2, (hf' a hg).1⟩
      · rw [if_neg k0] at hg
        obtain ⟨h1, h2⟩ := ho a [] hg (by show has k 0 = true; rw [has0]; simpa using k0)
        refine ⟨h1, h2.trans ?_⟩
        show (if has j 0 = true then _ else _) = _
        rw [has0]
        by_cases j0 : j = 0 <;> simp [j0]
    refine ⟨a, dx, vs, e, key.1.trans ha, hc, key.2, go ds (hf.imp (fun z => by unfold lv; rw [if_pos z]; exact z) id) (fun i b q hb hh => ?_) (fun n hn => by rw [lv_has] at *; exact hk _ hn) hl⟩
    have := ho b (q ++ [i]) (by simpa using hb) (by rw [lv_has] at hh; simpa using hh)
    rw [lv_has]
    simpa using this
  | .rol ns, _, _, _, _, _, _, _, _, h => by
    obtain ⟨a, e, h⟩ := h
    exact ⟨a, e, h.imp (fun ⟨o, w⟩ => ⟨o, ht _ _ w rfl⟩) id⟩
  | .dic dk ds, k, j, p, p', v, hf, ho, hk, h => by
    obtain ⟨a, vs, e, ha, hq, hg, hl⟩ := h
    have key : H' a = H a ∧ g' a = (if j = 0 then Gh.fz else Gh.ow r' p') := by
      by_cases k0 : k = 0
      · have j0 : j = 0 := by
          have := hk 0
          rw [has0, has0] at this
          by_cases z : j = 0
          · exact z
          · simp [z, k0] at this
        rw [if_pos k0] at hg
        rw [if_pos j0]
        have hf' := hf.resolve_left (by omega)
        exact ⟨(hf' a hg).2, (hf' a hg).1⟩
      · rw [if_neg k0] at hg
        obtain ⟨h1, h2⟩ := ho a [] hg (by show has k 0 = true; rw [has0]; simpa using k0)
        refine ⟨h1, h2.trans ?_⟩
        show (if has j 0 = true then _ else _) = _
        rw [has0]
        by_cases j0 : j = 0 <;> simp [j0]
    have hz : k = 0 → j = 0 := fun k0 => by
      have := hk 0
      rw [has0, has0] at this
      by_cases z : j = 0
      · exact z
      · simp [z, k0] at this
    refine ⟨a, vs, e, ha.imp (fun z => key.1.trans z) (fun z => ⟨hz z.1, z.2.imp fun o w => key.1.trans w⟩), hq, key.2, go ds (hf.imp (fun z => by unfold lv; rw [if_pos z]; exact z) id) (fun i b q hb hh => ?_) (fun n hn => by rw [lv_has] at *; exact hk _ hn) hl⟩
    have := ho b (q ++ [i]) (by simpa using hb) (by rw [lv_has] at hh; simpa using hh)
    rw [lv_has]
    simpa using this
  | .nd dk ds, k, j, p, p', v, hf, ho, hk, h => by
    obtain ⟨a, vs, e, ha, hq, hn, hg, hl⟩ := h
    have key : H' a = H a ∧ g' a = (if j = 0 then Gh.fz else Gh.ow r' p') := by
      by_cases k0 : k = 0
      · have j0 : j = 0 := by
          have := hk 0
          rw [has0, has0] at this
          by_cases z : j = 0
          · exact z
          · simp [z, k0] at this
        rw [if_pos k0] at hg
        rw [if_pos j0]
        have hf' := hf.resolve_left (by omega)
        exact ⟨(hf' a hg).2, (hf' a hg).1⟩
      · rw [if_neg k0] at hg
        obtain ⟨h1, h2⟩ := ho a [] hg (by show has k 0 = true; rw [has0]; simpa using k0)
        refine ⟨h1, h2.trans ?_⟩
        show (if has j 0 = true then _ else _) = _
        rw [has0]
        by_cases j0 : j = 0 <;> simp [j0]
    have hz : k = 0 → j = 0 := fun k0 => by
      have := hk 0
      rw [has0, has0] at this
      by_cases z : j = 0
      · exact z
      · simp [z, k0] at this
    refine ⟨a, vs, e, ha.imp (fun z => key.1.trans z) (fun z => ⟨hz z.1, z.2.imp fun o w => key.1.trans w⟩), hq, hn.keep fun b ys z => ht _ _ z rfl, key.2, go ds (hf.imp (fun z => by unfold lv; rw [if_pos z]; exact z) id) (fun i b q hb hh => ?_) (fun n hn => by rw [lv_has] at *; exact hk _ hn) hl⟩
    have := ho b (q ++ [i]) (by simpa using hb) (by rw [lv_has] at hh; simpa using hh)
    rw [lv_has]
    simpa using this
where
  go : (ds : List D) → ∀ {k j p p' i vs},
    (99 ≤ k ∨ ∀ a, g a = .fz → g' a = .fz ∧ H' a = H a) →
    (∀ i a q, g a = .ow r (q ++ i :: p) → has k q.length = true → H' a = H a ∧ g' a = (if has j q.length = true then Gh.ow r' (q ++ i :: p') else Gh.fz)) →
    (∀ n, has j n = true → has k n = true) → OwnL K H g ds k r p i vs → OwnL K H' g' ds j r' p' i vs
  | [], _, _, _, _, _, _, _, _, _, h => h
  | d :: ds, _, _, _, _, i, _, hf, ho, hk, h => by
    obtain ⟨v, w, e, h1, h2⟩ := h
    exact ⟨v, w, e, own_conv ht d hf (fun a q => ho i a q) hk h1, go ds hf ho hk h2⟩
end VS
namespace VS
open PySem PySem.Spec PyProof.Rows L2
abbrev DE := List (Option D)
abbrev OE := List (Option Nat)
abbrev M := DE → Option (D × DE)
structure Sok (K : PySem.W.Frag) (κ : OE) (ρ : DE) (g : G) (σ : L2.St) (H : Hp) : Prop where
  ok : ∀ i k d, κ[i]? = some (some k) → ρ[i]? = some (some d) → ∃ v, σ[i]? = some (some v) ∧ Own K H g d k i [] v
  gok : ∀ a, g a ≠ .un → H a ≠ none
  len : ρ.length = σ.length
  lek : κ.length = σ.length
def SzOk (H : Hp) : Prop := ∀ a xs, (H a = some (.lst xs) ∨ H a = some (.tup xs)) → xs.length ≤ sizeLine
def En (n : Nat) (σ : L2.St) (H : Hp) : Prop := SzOk H ∧ σ.length = n
structure Pres (n t : Nat) (g : G) (H : Hp) (g' : G) (H' : Hp) : Prop where
  fz : ∀ a, g a = .fz → g' a = .fz ∧ H' a = H a
  un : ∀ a, g a = .un → H a ≠ none → g' a = .un ∧ H' a = H a
  tp : ∀ a r p, n ≤ r → r < t → g a = .ow r p → g' a = .ow r p ∧ H' a = H a
  tm : ∀ a r p, n ≤ r → r < t → g' a = .ow r p → g a = .ow r p
  tu : ∀ a o, H a = some o → stb o = true → H' a = some o
theorem Pres.refl {n t : Nat} {g : G} {H : Hp} : Pres n t g H g H :=
  ⟨fun _ h => ⟨h, rfl⟩, fun _ h _ => ⟨h, rfl⟩, fun _ _ _ _ _ h => ⟨h, rfl⟩, fun _ _ _ _ _ h => h, fun _ _ h _ => h⟩
theorem Pres.trans {n t : Nat} {g g1 g2 : G} {H H1 H2 : Hp} (a : Pres n t g H g1 H1) (b : Pres n t g1 H1 g2 H2) : Pres n t g H g2 H2 where
  fz := fun x h => ⟨(b.fz x (a.fz x h).1).1, (b.fz x (a.fz x h).1).2.trans (a.fz x h).2⟩
  un := fun x h hn => by
    obtain ⟨h1, h2⟩ := a.un x h hn
    obtain ⟨h3, h4⟩ := b.un x h1 (by rw [h2]; exact hn)
    exact ⟨h3, h4.trans h2⟩
  tp := fun x r p h1 h2 h => by
    obtain ⟨h3, h4⟩ := a.tp x r p h1 h2 h
    obtain ⟨h5, h6⟩ := b.tp x r p h1 h2 h3
    exact ⟨h5, h6.trans h4⟩
  tm := fun x r p h1 h2 h => a.tm x r p h1 h2 (b.tm x r p h1 h2 h)
  tu := fun x xs h hs => b.tu x xs (a.tu x xs h hs) hs
theorem Pres.less {n t t' : Nat} {g g' : G} {H H' : Hp} (a : Pres n t' g H g' H') (h : t ≤ t') : Pres n t g H g' H' :=
  ⟨a.fz, a.un, fun x r p h1 h2 => a.tp x r p h1 (by omega), fun x r p h1 h2 => a.tm x r p h1 (by omega), a.tu⟩
variable {K : PySem.W.Frag}
theorem Pres.own {n t : Nat} {g g' : G} {H H' : Hp} (a : Pres n t g H g' H') {d : D} {k r : Nat} {p : List Nat} {v : V} (h1 : n ≤ r) (h2 : r < t) (h : Own K H g d k r p v) : Own K H' g' d k r p v :=
  own_conv a.tu d (.inr a.fz) (fun x q e hh => ⟨(a.tp x r _ h1 h2 e).2, by rw [if_pos hh]; exact (a.tp x r _ h1 h2 e).1⟩) (fun _ z => z) h
theorem Pres.own0 {n t : Nat} {g g' : G} {H H' : Hp} (a : Pres n t g H g' H') {d : D} {r r' : Nat} {p p' : List Nat} {v : V} (h : Own K H g d 0 r p v) : Own K H' g' d 0 r' p' v :=
  own_conv a.tu d (.inr a.fz) (fun x q e hh => by simp [has] at hh) (fun _ z => z) h
theorem Sok.grow {κ : OE} {ρ : DE} {g : G} {σ : L2.St} {H H' : Hp} (S : Sok K κ ρ g σ H) (s : Same H H') : Sok K κ ρ g σ H' where
  ok := fun i k d h1 h2 => by
    obtain ⟨v, e, o⟩ := S.ok i k d h1 h2
    have key : ∀ a, g a ≠ .un → H' a = H a := fun a ha => by
      cases q : H a with
      | none => exact absurd q (S.gok a ha)
      | some u => exact s a u q
    exact ⟨v, e, own_conv (fun a xs e _ => s _ _ e) d (.inr fun a e => ⟨e, key a (by rw [e]; simp)⟩) (fun x q e hh => ⟨key x (by rw [e]; simp), by rw [if_pos hh]; exact e⟩) (fun _ z => z) o⟩
  gok := fun a h => by
    cases q : H a with
    | none => exact absurd q (S.gok a h)
    | some u => rw [s a u q]; simp
  len := S.len
  lek := S.lek
theorem Pres.grow {n t : Nat} {g : G} {H H' : Hp} (hg : ∀ a, g a ≠ .un → H a ≠ none) (s : Same H H') : Pres n t g H g H' := by
  have key : ∀ a, H a ≠ none → H' a = H a := fun a ha => by
    cases q : H a with
    | none => exact absurd q ha
    | some u => exact s a u q
  exact ⟨fun a h => ⟨h, key a (hg a (by rw [h]; simp))⟩, fun a h hn => ⟨h, key a hn⟩, fun a r p _ _ h => ⟨h, key a (hg a (by rw [h]; simp))⟩, fun a r p _ _ h => h, fun a xs h _ => s _ _ h⟩
theorem same_new {H : Hp} {p : Addr} {o : HO} (h : H p = none) : Same H (upd H p o) := fun b x e => by
  rw [upd_ne (ne_of_none e h)]
  exact e
inductive Rz where
  | rep | own (k : Nat)
def RzOk (K : PySem.W.Frag) (H : Hp) (g : G) (t : Nat) : Rz → D → V → Prop
  | .rep, d, v => Rep K H d v
  | .own k, d, v => Own K H g d k t [] v
theorem RzOk.rep {H : Hp} {g : G} {t : Nat} {rz : Rz} {d : D} {v : V} (h : RzOk K H g t rz d v) : Rep K H d v := by
  cases rz with
  | rep => exact h
  | own k => exact own_rep d h
def jPost (K : PySem.W.Frag) (n t : Nat) (κ' : OE) (rz : Rz) (pu : Bool) (g : G) (σ : L2.St) (H : Hp) (d : D) (ρ' : DE) (Q : VK) : Prop :=
  ∀ v H' g', Sok K κ' ρ' g' σ H' → Pres n t g H g' H' → (pu = true → Same H H') → RzOk K H' g' t rz d v → Q v H'
def jTE (K : PySem.W.Frag) (n : Nat) (κ : OE) (m : M) (rz : Rz) (κ' : OE) (pu : Bool) (t : Nat) : TE := fun σ H Q => En n σ H →
  ∃ g ρ, Sok K κ ρ g σ H ∧ ∃ d ρ', m ρ = some (d, ρ') ∧ jPost K n t κ' rz pu g σ H d ρ' Q
structure J (X : Cx) (κ : OE) (e : Expr) (m : M) (rz : Rz) (κ' : OE) (pu : Bool) : Prop where
  run : ∀ t, X.N.length ≤ t → PE X e (jTE X.K X.N.length κ m rz κ' pu t)
  pur : pu = true → ∀ ρ d ρ', m ρ = some (d, ρ') → ρ' = ρ
variable {X : Cx}
theorem Inv.sz {pins : List (Addr × Obj)} {σ : L2.St} {H : Hp} {s : Shared} (I : Inv X pins σ H s) : SzOk H := fun a xs h => by
  rcases h with h | h
  · exact (I.hok a _ h).1
  · exact (I.hok a _ h).1
theorem PE.imp {e : Expr} {t t' : TE} (h : PE X e t) (f : ∀ σ H Q, En X.N.length σ H → t' σ H Q → t σ H Q) : PE X e t' :=
  ⟨fun pins s σ H Q I q => h.run pins s σ H Q I (f σ H Q ⟨Inv.sz I, I.len⟩ q)⟩
def okk : Rz → Bool → Bool
  | .own _, _ => true
  | .rep, p => p
def andThen (ma : M) (f : D → DE → Option (D × DE)) : M := fun ρ => (ma ρ).bind fun x => f x.1 x.2
theorem two {n t : Nat} {κ κ1 κ2 : OE} {ma mb : M} {ra rb : Rz} {pa pb : Bool} (hn : n ≤ t) (ok : okk ra pb = true) {σ : L2.St} {H : Hp} {Q : V → V → Hp → Prop} {g : G} {ρ ρ1 ρ2 : DE} {x y : D}
    (S : Sok K κ ρ g σ H) (ea : ma ρ = some (x, ρ1)) (eb : mb ρ1 = some (y, ρ2)) (z : En n σ H)
    (h : ∀ v u H' g', Sok K κ2 ρ2 g' σ H' → Pres n t g H g' H' → ((pa && pb) = true → Same H H') → RzOk K H' g' t ra x v → RzOk K H' g' (t + 1) rb y u → Q v u H') :
    jTE K n κ ma ra κ1 pa t σ H fun v H1 => jTE K n κ1 mb rb κ2 pb (t + 1) σ H1 fun u H2 => Q v u H2 := by
  refine fun _ => ⟨g, ρ, S, x, ρ1, ea, fun v H1 g1 S1 P1 s1 r1 _ => ⟨g1, ρ1, S1, y, ρ2, eb, fun u H2 g2 S2 P2 s2 r2 => ?_⟩⟩
  refine h v u H2 g2 S2 (P1.trans (P2.less (Nat.le_succ t))) (fun e => ?_) ?_ r2
  · rw [Bool.and_eq_true] at e
    exact (s1 e.1).trans (s2 e.2)
  · cases ra with
    | rep => exact rep_mono (s2 ok) x r1
    | own k => exact P2.own hn (Nat.lt_succ_self t) r1
def isA : D → Bool
  | .non => true
  | .bl _ => true
  | .int _ => true
  | .str _ => true
  | _ => false
def av : D → V
  | .non => .non
  | .bl b => .bl b
  | .int i => .int i
  | .str x => .str x
  | _ => .non
theorem rep_atom {H : Hp} {d : D} (h : isA d = true) {v : V} (r : Rep K H d v) : v = av d := by
  cases d <;> first | exact r | cases h
theorem atom_own {H : Hp} {g : G} {d : D} (h : isA d = true) {k r : Nat} {p : List Nat} : Own K H g d k r p (av d) := by
  cases d <;> first | rfl | cases h
theorem atom_rz {H : Hp} {g : G} {d : D} (h : isA d = true) {t : Nat} {rz : Rz} : RzOk K H g t rz d (av d) := by
  cases rz with
  | rep => exact own_rep d (atom_own (g := g) h (k := 0) (r := 0) (p := []))
  | own k => exact atom_own h
structure AtOp (X : Cx) (r : R2) (f : D → D → Option D) : Prop where
  ans : ∀ (H : Hp) (x y z : D) (v u : V) (Q : VK), f x y = some z → Rep X.K H x v → Rep X.K H y u → Q (av z) H → r v u H Q
  atom : ∀ x y z, f x y = some z → isA z = true
def m2 (f : D → D → Option D) (ma mb : M) : M := fun ρ => (ma ρ).bind fun x => (mb x.2).bind fun y => (f x.1 y.1).map fun z => (z, y.2)
theorem m2_some {f : D → D → Option D} {ma mb : M} {ρ ρ' : DE} {d : D} (h : m2 f ma mb ρ = some (d, ρ')) : ∃ x ρ1 y, ma ρ = some (x, ρ1) ∧ mb ρ1 = some (y, ρ') ∧ f x y = some d := by
  unfold m2 at h
  cases ea : ma ρ with
  | none => rw [ea] at h; cases h
  | some p =>
    rw [ea] at h
    cases eb : mb p.2 with
    | none => simp [eb] at h
    | some q =>
      simp only [Option.bind_some, eb] at h
      cases ec : f p.1 q.1 with
      | none => rw [ec] at h; cases h
      | some z =>
        rw [ec] at h
        cases h
        exact ⟨p.1, p.2, q.1, rfl, eb, ec⟩
theorem J.two_read {κ κ1 κ2 : OE} {a b e : Expr} {ma mb : M} {ra rb : Rz} {pa pb : Bool} {r : R2} {f : D → D → Option D} (ha : J X κ a ma ra κ1 pa) (hb : J X κ1 b mb rb κ2 pb) (ok : okk ra pb = true) (op : AtOp X r f)
    (mk : ∀ {ta tb : TE}, PE X a ta → PE X b tb → PE X e (tOp r ta tb)) {rz : Rz} : J X κ e (m2 f ma mb) rz κ2 (pa && pb) := by
  refine ⟨fun t ht => PE.imp (mk (ha.run t ht) (hb.run (t + 1) (by omega))) fun σ H Q z q => ?_, fun hp ρ d ρ' h => ?_⟩
  · obtain ⟨g, ρ, S, d, ρ', em, post⟩ := q z
    obtain ⟨x, ρ1, y, ea, eb, ec⟩ := m2_some em
    refine two (K := X.K) (κ2 := κ2) ht ok S ea eb z fun v u H' g' S' P' s' r1 r2 => ?_
    exact op.ans H' x y d v u Q ec r1.rep r2.rep (post _ H' g' S' P' s' (atom_rz (op.atom _ _ _ ec)))
  · rw [Bool.and_eq_true] at hp
    obtain ⟨x, ρ1, y, ea, eb, ec⟩ := m2_some h
    rw [hb.pur hp.2 _ _ _ eb, ha.pur hp.1 _ _ _ ea]
end VS
namespace VS
open PySem PySem.Spec PyProof.Rows L2
variable {K : PySem.W.Frag} {X : Cx} {κ κ1 κ2 : OE} {pos : Pos}
def wk (κ' : OE) (g : G) : G := fun a => match g a with
  | .ow r q => (match κ'[r]? with
    | some (some k) => if has k q.length = true then .ow r q else .fz
    | _ => .ow r q)
  | z => z
def leO (κ' κ : OE) : Bool := decide (κ'.length = κ.length) && (List.range κ'.length).all fun i => match κ'[i]? with
  | some (some k') => (match κ[i]? with
    | some (some k) => decide (k' ≤ k)
    | _ => false)
  | _ => true
theorem leO_get {κ' κ : OE} (h : leO κ' κ = true) {i k' : Nat} (e : κ'[i]? = some (some k')) : ∃ k, κ[i]? = some (some k) ∧ k' ≤ k := by
  unfold leO at h
  rw [Bool.and_eq_true, List.all_eq_true] at h
  have hi : i < κ'.length := by
    obtain ⟨h1, _⟩ := List.getElem?_eq_some_iff.mp e
    exact h1
  have q := h.2 i (List.mem_range.mpr hi)
  rw [e] at q
  cases q2 : κ[i]? with
  | none => rw [q2] at q; cases q
  | some o => cases o with
    | none => rw [q2] at q; cases q
    | some k => rw [q2] at q; exact ⟨k, rfl, of_decide_eq_true q⟩
theorem leO_len {κ' κ : OE} (h : leO κ' κ = true) : κ'.length = κ.length := by
  unfold leO at h
  rw [Bool.and_eq_true] at h
  exact of_decide_eq_true h.1
theorem wk_fz {κ' : OE} {g : G} {a : Addr} (h : g a = .fz) : wk κ' g a = .fz := by unfold wk; rw [h]
theorem wk_un {κ' : OE} {g : G} {a : Addr} (h : g a = .un) : wk κ' g a = .un := by unfold wk; rw [h]
theorem wk_hi {κ' : OE} {g : G} {a : Addr} {r : Nat} {p : List Nat} (hr : κ'.length ≤ r) (h : g a = .ow r p) : wk κ' g a = .ow r p := by
  unfold wk
  rw [h]
  have : κ'[r]? = none := List.getElem?_eq_none_iff.mpr hr
  simp [this]
theorem wk_lo {κ' : OE} {g : G} {a : Addr} {r k : Nat} {p : List Nat} (hr : κ'[r]? = some (some k)) (h : g a = .ow r p) : wk κ' g a = if has k p.length = true then Gh.ow r p else Gh.fz := by
  unfold wk
  rw [h]
  simp [hr]
theorem wk_ne {κ' : OE} {g : G} {a : Addr} (h : wk κ' g a ≠ .un) : g a ≠ .un := fun z => h (wk_un z)
theorem wk_ow {κ' : OE} {g : G} {a : Addr} {r : Nat} {p : List Nat} (h : wk κ' g a = .ow r p) : g a = .ow r p := by
  unfold wk at h
  split at h
  · rename_i r' q' e
    split at h
    · split at h
      · cases h; exact e
      · cases h
    · cases h; exact e
  · exact h
theorem Sok.weaken {κ' : OE} {ρ : DE} {g : G} {σ : L2.St} {H : Hp} (S : Sok K κ ρ g σ H) (h : leO κ' κ = true) : Sok K κ' ρ (wk κ' g) σ H where
  ok := fun i k' d h1 h2 => by
    obtain ⟨k, e, l⟩ := leO_get h h1
    obtain ⟨v, es, o⟩ := S.ok i k d e h2
    exact ⟨v, es, own_conv (fun _ _ z _ => z) d (.inr fun a z => ⟨wk_fz z, rfl⟩) (fun a q z hh => ⟨rfl, by simpa using wk_lo h1 z⟩) (fun n z => has_le l z) o⟩
  gok := fun a z => S.gok a (wk_ne z)
  len := S.len
  lek := (leO_len h).trans S.lek
theorem Pres.weaken {n t : Nat} {g : G} {H : Hp} (hn : κ1.length = n) : Pres n t g H (wk κ1 g) H where
  fz := fun a h => ⟨wk_fz h, rfl⟩
  un := fun a h _ => ⟨wk_un h, rfl⟩
  tp := fun a r p h1 _ h => ⟨wk_hi (by omega) h, rfl⟩
  tm := fun a r p _ _ h => wk_ow h
  tu := fun _ _ h _ => h
theorem J.weak {e : Expr} {m : M} {rz : Rz} {pu : Bool} (h : J X κ e m rz κ1 pu) (hl : leO κ2 κ1 = true) (hn : κ2.length = X.N.length) : J X κ e m rz κ2 pu := by
  refine ⟨fun t ht => PE.imp (h.run t ht) fun σ H Q z q _ => ?_, h.pur⟩
  obtain ⟨g, ρ, S, d, ρ', em, post⟩ := q z
  refine ⟨g, ρ, S, d, ρ', em, fun v H' g' S' P' s' r' => post v H' (wk κ2 g') (S'.weaken hl) (P'.trans (Pres.weaken hn)) s' ?_⟩
  cases rz with
  | rep => exact r'
  | own k => exact (Pres.weaken (t := t + 1) hn).own (H' := H') ht (Nat.lt_succ_self t) r'
def mC (d : D) : M := fun ρ => some (d, ρ)
theorem j_const {e : Expr} {d : D} (hd : isA d = true) (h : PE X e (tC (av d))) {rz : Rz} : J X κ e (mC d) rz κ true := by
  refine ⟨fun t ht => PE.imp h fun σ H Q z q => ?_, fun _ ρ d' ρ' e => by cases e; rfl⟩
  obtain ⟨g, ρ, S, d', ρ', em, post⟩ := q z
  cases em
  exact post _ H g S Pres.refl (fun _ => Same.refl H) (atom_rz hd)
def mV (i : Nat) : M := fun ρ => match ρ[i]? with
  | some (some d) => some (d, ρ)
  | _ => none
theorem mV_some {i : Nat} {ρ ρ' : DE} {d : D} (h : mV i ρ = some (d, ρ')) : ρ[i]? = some (some d) ∧ ρ' = ρ := by
  unfold mV at h
  split at h
  · cases h; exact ⟨by assumption, rfl⟩
  · cases h
theorem j_var {i k : Nat} {e : Expr} (h : PE X e (tVar i)) (hk : κ[i]? = some (some k)) : J X κ e (mV i) .rep κ true := by
  refine ⟨fun t ht => PE.imp h fun σ H Q z q => ?_, fun _ ρ d' ρ' e => (mV_some e).2⟩
  obtain ⟨g, ρ, S, d', ρ', em, post⟩ := q z
  obtain ⟨e1, rfl⟩ := mV_some em
  obtain ⟨v, es, o⟩ := S.ok i k d' hk e1
  exact ⟨v, es, post v H g S Pres.refl (fun _ => Same.refl H) (own_rep d' o)⟩
theorem leO_set0 {κ : OE} {i k : Nat} (hk : κ[i]? = some (some k)) {k' : Nat} (hl : k' ≤ k) : leO (κ.set i (some k')) κ = true := by
  unfold leO
  rw [Bool.and_eq_true, List.all_eq_true]
  refine ⟨by simp, fun j hj => ?_⟩
  rw [List.getElem?_set]
  by_cases h : i = j
  · subst h
    have hi := (List.getElem?_eq_some_iff.mp hk).1
    have hk2 := hk
    rw [List.getElem?_eq_getElem hi] at hk2
    simp only [Option.some.injEq] at hk2
    simp [hi, hk2, hl]
  · simp only [h, if_false]
    cases q : κ[j]? with
    | none => rfl
    | some o => cases o with
      | none => rfl
      | some n => simp
theorem j_frz {i k : Nat} {e : Expr} (h : PE X e (tVar i)) (hk : κ[i]? = some (some k)) (hn : κ.length = X.N.length) : J X κ e (mV i) (.own 0) (κ.set i (some 0)) true := by
  refine ⟨fun t ht => PE.imp h fun σ H Q z q => ?_, fun _ ρ d' ρ' e => (mV_some e).2⟩
  obtain ⟨g, ρ, S, d', ρ', em, post⟩ := q z
  obtain ⟨e1, rfl⟩ := mV_some em
  have hl := leO_set0 hk (Nat.zero_le k)
  have S' := S.weaken hl
  obtain ⟨v, es, o⟩ := S'.ok i 0 d' (by rw [List.getElem?_set_self (List.getElem?_eq_some_iff.mp hk).1]) e1
  exact ⟨v, es, post v H _ S' (Pres.weaken (by simpa using hn)) (fun _ => Same.refl H) ((Pres.refl (n := 0) (t := 0)).own0 o)⟩
def OwnRows (K : PySem.W.Frag) (H : Hp) (g : G) (k : Nat) : Nat → List D → List V → Prop
  | _, [], vs => vs = []
  | t, d :: ds, vs => ∃ v r, vs = v :: r ∧ Own K H g d k t [] v ∧ OwnRows K H g k (t + 1) ds r
abbrev ML := DE → Option (List D × DE)
inductive Am where
  | rz (z : Rz) | io (i : Nat)
def RowsOk (K : PySem.W.Frag) (H : Hp) (g : G) (σ : L2.St) (ρ : DE) : Nat → List Am → List D → List V → Prop
  | _, [], ds, vs => ds = [] ∧ vs = []
  | t, .rz z :: ms, ds, vs => ∃ d ds' v vs', ds = d :: ds' ∧ vs = v :: vs' ∧ RzOk K H g t z d v ∧ RowsOk K H g σ ρ (t + 1) ms ds' vs'
  | t, .io i :: ms, ds, vs => ∃ d ds' v vs', ds = d :: ds' ∧ vs = v :: vs' ∧ (σ[i]? = some (some v) ∧ ρ[i]? = some (some d)) ∧ RowsOk K H g σ ρ (t + 1) ms ds' vs'
def jPostL (K : PySem.W.Frag) (n t : Nat) (κ' : OE) (ms : List Am) (pu : Bool) (g : G) (σ : L2.St) (H : Hp) (ds : List D) (ρ' : DE) (Q : List V → Hp → Prop) : Prop :=
  ∀ vs H' g', Sok K κ' ρ' g' σ H' → Pres n t g H g' H' → (pu = true → Same H H') → RowsOk K H' g' σ ρ' t ms ds vs → Q vs H'
def jTA (K : PySem.W.Frag) (n : Nat) (κ : OE) (m : ML) (ms : List Am) (κ' : OE) (pu : Bool) (t : Nat) : TA := fun σ H Q => En n σ H →
  ∃ g ρ, Sok K κ ρ g σ H ∧ ∃ ds ρ', m ρ = some (ds, ρ') ∧ jPostL K n t κ' ms pu g σ H ds ρ' Q
structure JA (X : Cx) (κ : OE) (es : List Expr) (m : ML) (ms : List Am) (κ' : OE) (pu : Bool) : Prop where
  run : ∀ t, X.N.length ≤ t → PA X es (jTA X.K X.N.length κ m ms κ' pu t)
  pur : pu = true → ∀ ρ d ρ', m ρ = some (d, ρ') → ρ' = ρ
theorem PA.imp {es : List Expr} {t t' : TA} (h : PA X es t) (f : ∀ σ H Q, En X.N.length σ H → t' σ H Q → t σ H Q) : PA X es t' :=
  ⟨fun pos pins s σ H Q I q => h.run pos pins s σ H Q I (f σ H Q ⟨Inv.sz I, I.len⟩ q)⟩
def mNil : ML := fun ρ => some ([], ρ)
def mCons (ma : M) (ml : ML) : ML := fun ρ => (ma ρ).bind fun x => (ml x.2).map fun y => (x.1 :: y.1, y.2)
theorem mCons_some {ma : M} {ml : ML} {ρ ρ' : DE} {ds : List D} (h : mCons ma ml ρ = some (ds, ρ')) : ∃ x ρ1 r, ma ρ = some (x, ρ1) ∧ ml ρ1 = some (r, ρ') ∧ ds = x :: r := by
  unfold mCons at h
  cases ea : ma ρ with
  | none => rw [ea] at h; cases h
  | some p =>
    rw [ea] at h
    cases eb : ml p.2 with
    | none => simp [eb] at h
    | some q =>
      simp only [Option.bind_some, eb, Option.map_some] at h
      cases h
      exact ⟨p.1, p.2, q.1, rfl, eb, rfl⟩
theorem ja_nil : JA X κ [] mNil [] κ true := by
  refine ⟨fun t ht => PA.imp pa_nil fun σ H Q z q => ?_, fun _ ρ d' ρ' e => by cases e; rfl⟩
  obtain ⟨g, ρ, S, ds, ρ', em, post⟩ := q z
  cases em
  exact post [] H g S Pres.refl (fun _ => Same.refl H) ⟨rfl, rfl⟩
theorem ja_cons {e : Expr} {es : List Expr} {ma : M} {ml : ML} {z : Rz} {ms : List Am} {pa pb : Bool} (ha : J X κ e ma z κ1 pa) (hb : JA X κ1 es ml ms κ2 pb) (ok : okk z pb = true)
    (hs : starEach (e :: es) X.env = (false, eval e X.env) :: starEach es X.env) : JA X κ (e :: es) (mCons ma ml) (.rz z :: ms) κ2 (pa && pb) := by
  refine ⟨fun t ht => PA.imp (pa_cons (ha.run t ht) (hb.run (t + 1) (by omega)) hs) fun σ H Q en q => ?_, fun hp ρ d ρ' h => ?_⟩
  · obtain ⟨g, ρ, S, ds, ρ', em, post⟩ := q en
    obtain ⟨x, ρ1, r, ea, eb, rfl⟩ := mCons_some em
    refine fun _ => ⟨g, ρ, S, x, ρ1, ea, fun v H1 g1 S1 P1 s1 r1 => fun _ => ⟨g1, ρ1, S1, r, ρ', eb, fun vs H2 g2 S2 P2 s2 r2 => ?_⟩⟩
    refine post (v :: vs) H2 g2 S2 (P1.trans (P2.less (Nat.le_succ t))) (fun e => ?_) ⟨x, r, v, vs, rfl, rfl, ?_, r2⟩
    · rw [Bool.and_eq_true] at e
      exact (s1 e.1).trans (s2 e.2)
    · cases z with
      | rep => exact rep_mono (s2 ok) x r1
      | own k => exact P2.own ht (Nat.lt_succ_self t) r1
  · rw [Bool.and_eq_true] at hp
    obtain ⟨x, ρ1, r, ea, eb, rfl⟩ := mCons_some h
    rw [hb.pur hp.2 _ _ _ eb, ha.pur hp.1 _ _ _ ea]
theorem ja_io {e : Expr} {es : List Expr} {i k : Nat} {ml : ML} {ms : List Am} (ha : PE X e (tVar i)) (hk : κ[i]? = some (some k)) (hb : JA X κ es ml ms κ2 true)
    (hs : starEach (e :: es) X.env = (false, eval e X.env) :: starEach es X.env) : JA X κ (e :: es) (mCons (mV i) ml) (.io i :: ms) κ2 true := by
  refine ⟨fun t ht => PA.imp (pa_cons ha (hb.run (t + 1) (by omega)) hs) fun σ H Q en q => ?_, fun hp ρ d ρ' h => ?_⟩
  · obtain ⟨g, ρ, S, ds, ρ', em, post⟩ := q en
    obtain ⟨x, ρ1, r, ea, eb, rfl⟩ := mCons_some em
    obtain ⟨e1, rfl⟩ := mV_some ea
    obtain ⟨v, es, o⟩ := S.ok i k x hk e1
    refine ⟨v, es, fun _ => ⟨g, ρ1, S, r, ρ', eb, fun vs H2 g2 S2 P2 s2 r2 => ?_⟩⟩
    have e2 := hb.pur rfl _ _ _ eb
    exact post (v :: vs) H2 g2 S2 (P2.less (Nat.le_succ t)) s2 ⟨x, r, v, vs, rfl, rfl, ⟨es, by rw [e2]; exact e1⟩, r2⟩
  · obtain ⟨x, ρ1, r, ea, eb, rfl⟩ := mCons_some h
    rw [hb.pur rfl _ _ _ eb, (mV_some ea).2]
def allOwn (k : Nat) : List Am → Bool
  | [] => true
  | .rz (.own j) :: ms => decide (j = k) && allOwn k ms
  | _ => false
theorem rows_own {H : Hp} {g : G} {σ : L2.St} {ρ : DE} {k : Nat} : ∀ {ms : List Am} {t : Nat} {ds : List D} {vs : List V}, allOwn k ms = true → RowsOk K H g σ ρ t ms ds vs → OwnRows K H g k t ds vs
  | [], _, _, _, _, h => by
    obtain ⟨rfl, rfl⟩ := h
    rfl
  | .rz .rep :: ms, _, _, _, h, _ => by cases h
  | .io i :: ms, _, _, _, h, _ => by cases h
  | .rz (.own j) :: ms, _, _, _, h, q => by
    obtain ⟨d, ds', v, vs', rfl, rfl, h1, h2⟩ := q
    have h' : (decide (j = k) && allOwn k ms) = true := h
    rw [Bool.and_eq_true, decide_eq_true_eq] at h'
    obtain ⟨rfl, h3⟩ := h'
    exact ⟨v, vs', rfl, h1, rows_own h3 h2⟩
def gat (n t c : Nat) (g : G) (p : Addr) (own : Bool) : G := fun a => if a = p then (if own then .ow t [] else .fz) else match g a with
  | .ow r q => if t ≤ r then (if r < t + c then .ow t (q ++ [r - t]) else .un) else .ow r q
  | z => z
theorem rows_len {H : Hp} {g : G} {k : Nat} : ∀ {t : Nat} {ds : List D} {vs : List V}, OwnRows K H g k t ds vs → vs.length = ds.length
  | _, [], _, h => by cases h; rfl
  | _, _ :: _, _, h => by
    obtain ⟨v, r, rfl, _, h⟩ := h
    simp [rows_len h]
theorem gat_ne {n t c : Nat} {g : G} {p a : Addr} {b : Bool} (h : a ≠ p) : gat n t c g p b a = match g a with
    | .ow r q => if t ≤ r then (if r < t + c then .ow t (q ++ [r - t]) else .un) else .ow r q
    | z => z := by
  unfold gat
  rw [if_neg h]
theorem rows_gather {H : Hp} {g : G} {n t c k : Nat} {p : Addr} {o : HO} {b : Bool} (hp : H p = none) (gok : ∀ a, g a ≠ .un → H a ≠ none) : ∀ {i : Nat} {ds : List D} {vs : List V}, i + ds.length ≤ c → OwnRows K H g k (t + i) ds vs →
    OwnL K (upd H p o) (gat n t c g p b) ds k t [] i vs
  | _, [], _, _, h => h
  | i, d :: ds, _, hc, h => by
    obtain ⟨v, r, rfl, h1, h2⟩ := h
    simp only [List.length_cons] at hc
    have ne : ∀ a, g a ≠ .un → a ≠ p := fun a h z => gok a h (z ▸ hp)
    refine ⟨v, r, rfl, own_conv (fun a xs e _ => ?_) d (.inr fun a e => ?_) (fun a q e hh => ?_) (fun _ z => z) h1, rows_gather hp gok (i := i + 1) (by omega) (by rw [← Nat.add_assoc]; exact h2)⟩
    · rw [upd_ne (ne_of_none e hp)]; exact e
    · have := ne a (by rw [e]; simp)
      exact ⟨by rw [gat_ne this, e], upd_ne this⟩
    · have := ne a (by rw [e]; simp)
      refine ⟨upd_ne this, ?_⟩
      rw [gat_ne this, e, if_pos hh]
      simp only [List.append_nil]
      rw [if_pos (by omega), if_pos (by omega)]
      simp
theorem Sok.gather {ρ : DE} {g : G} {σ : L2.St} {H : Hp} {n t c : Nat} {p : Addr} {o : HO} {b : Bool} (S : Sok K κ ρ g σ H) (hp : H p = none) (hn : σ.length ≤ t) : Sok K κ ρ (gat n t c g p b) σ (upd H p o) where
  ok := fun i k d h1 h2 => by
    obtain ⟨v, e, ow⟩ := S.ok i k d h1 h2
    have ne : ∀ a, g a ≠ .un → a ≠ p := fun a h z => S.gok a h (z ▸ hp)
    have hi : i < t := by
      have := (List.getElem?_eq_some_iff.mp e).1
      omega
    refine ⟨v, e, own_conv (fun a xs e _ => ?_) d (.inr fun a e => ?_) (fun a q e hh => ?_) (fun _ z => z) ow⟩
    · rw [upd_ne (ne_of_none e hp)]; exact e
    · have := ne a (by rw [e]; simp)
      exact ⟨by rw [gat_ne this, e], upd_ne this⟩
    · have := ne a (by rw [e]; simp)
      refine ⟨upd_ne this, ?_⟩
      rw [gat_ne this, e, if_pos hh]
      simp only []
      rw [if_neg (by omega)]
  gok := fun a h => by
    by_cases e : a = p
    · subst e; rw [upd_same]; simp
    · rw [upd_ne e]
      rw [gat_ne e] at h
      exact S.gok a fun z => by rw [z] at h; exact h rfl
  len := S.len
  lek := S.lek
theorem Pres.gather {g : G} {H : Hp} {n t c : Nat} {p : Addr} {o : HO} {b : Bool} (gok : ∀ a, g a ≠ .un → H a ≠ none) (hp : H p = none) : Pres n t g H (gat n t c g p b) (upd H p o) where
  fz := fun a e => by
    have : a ≠ p := fun z => gok a (by rw [e]; simp) (z ▸ hp)
    exact ⟨by rw [gat_ne this, e], upd_ne this⟩
  un := fun a e hh => by
    have : a ≠ p := fun z => hh (z ▸ hp)
    exact ⟨by rw [gat_ne this, e], upd_ne this⟩
  tp := fun a r q h1 h2 e => by
    have : a ≠ p := fun z => gok a (by rw [e]; simp) (z ▸ hp)
    exact ⟨by rw [gat_ne this, e]; simp only []; rw [if_neg (by omega)], upd_ne this⟩
  tm := fun a r q h1 h2 e => by
    by_cases z : a = p
    · subst z
      unfold gat at e
      rw [if_pos rfl] at e
      split at e
      · cases e; omega
      · cases e
    · rw [gat_ne z] at e
      split at e
      · rename_i r' q' e'
        split at e
        · split at e
          · cases e; omega
          · cases e
        · cases e; first | done | exact e'
      · exact e
  tu := fun a xs e _ => by rw [upd_ne (ne_of_none e hp)]; exact e
def mLst (ml : ML) : M := fun ρ => (ml ρ).bind fun x => if x.1.length ≤ 16777216 then some (.lst x.1, x.2) else none
def mTup (ml : ML) : M := fun ρ => (ml ρ).bind fun x => if x.1.length ≤ 16777216 then some (.tup x.1, x.2) else none
theorem mSeq_some {f : List D → D} {ml : ML} {ρ ρ' : DE} {d : D} (h : ((ml ρ).bind fun x => if x.1.length ≤ 16777216 then some (f x.1, x.2) else none) = some (d, ρ')) : ∃ ds, ml ρ = some (ds, ρ') ∧ ds.length ≤ sizeLine ∧ d = f ds := by
  cases ea : ml ρ with
  | none => rw [ea] at h; cases h
  | some p =>
    rw [ea] at h
    simp only [Option.bind_some] at h
    split at h
    · cases h
      exact ⟨p.1, rfl, by rw [sizeLine_eq]; assumption, rfl⟩
    · cases h
theorem j_lst {es : List Expr} {ml : ML} {k : Nat} {ms : List Am} {pu : Bool} (h : JA X κ es ml ms κ1 pu) {k' : Nat} (ha : allOwn (lv k') ms = true) (h0 : k' ≠ 0) : J X κ (.List es pos) (mLst ml) (.own k') κ1 pu := by
  refine ⟨fun t ht => PE.imp (pe_lst (h.run t ht)) fun σ H Q z q => ?_, fun hp ρ d ρ' e => ?_⟩
  · obtain ⟨g, ρ, S, d, ρ', em, post⟩ := q z
    obtain ⟨ds, el, hz, rfl⟩ := mSeq_some em
    refine fun _ => ⟨g, ρ, S, ds, ρ', el, fun vs H1 g1 S1 P1 s1 r1 => ?_⟩
    have r2 := rows_own ha r1
    refine ⟨by rw [rows_len r2]; exact hz, fun p np => ?_⟩
    have hlen : σ.length ≤ t := by rw [z.2]; exact ht
    refine post (.ref p) _ (gat X.N.length t ds.length g1 p true) (S1.gather np hlen) (P1.trans (Pres.gather S1.gok np)) (fun e => (s1 e).trans (same_new np)) ?_
    refine ⟨p, vs, rfl, upd_same, ?_, rows_gather np S1.gok (i := 0) (by omega) r2⟩
    rw [if_neg h0]
    unfold gat
    rw [if_pos rfl]
    rfl
  · obtain ⟨ds, el, hz, rfl⟩ := mSeq_some e
    exact h.pur hp _ _ _ el
theorem j_tup {es : List Expr} {ml : ML} {k' : Nat} {ms : List Am} {pu : Bool} {x1 : Nat} (h : JA X κ es ml ms κ1 pu) (ha : allOwn (lv k') ms = true) : J X κ (.Tuple es x1 pos) (mTup ml) (.own k') κ1 pu := by
  refine ⟨fun t ht => PE.imp (pe_tup (h.run t ht)) fun σ H Q z q => ?_, fun hp ρ d ρ' e => ?_⟩
  · obtain ⟨g, ρ, S, d, ρ', em, post⟩ := q z
    obtain ⟨ds, el, hz, rfl⟩ := mSeq_some em
    refine fun _ => ⟨g, ρ, S, ds, ρ', el, fun vs H1 g1 S1 P1 s1 r1 => ?_⟩
    have r2 := rows_own ha r1
    refine ⟨by rw [rows_len r2]; exact hz, fun p np => ?_⟩
    have hlen : σ.length ≤ t := by rw [z.2]; exact ht
    refine post (.ref p) _ (gat X.N.length t ds.length g1 p false) (S1.gather np hlen) (P1.trans (Pres.gather S1.gok np)) (fun e => (s1 e).trans (same_new np)) ?_
    exact ⟨p, vs, rfl, upd_same, rows_gather np S1.gok (i := 0) (by omega) r2⟩
  · obtain ⟨ds, el, hz, rfl⟩ := mSeq_some e
    exact h.pur hp _ _ _ el
theorem J.less {e : Expr} {m : M} {j k : Nat} {pu : Bool} (h : J X κ e m (.own k) κ1 pu) (hl : j ≤ k) : J X κ e m (.own j) κ1 pu := by
  refine ⟨fun t ht => PE.imp (h.run t ht) fun σ H Q z q _ => ?_, h.pur⟩
  obtain ⟨g, ρ, S, d, ρ', em, post⟩ := q z
  refine ⟨g, ρ, S, d, ρ', em, fun v H' g' S' P' s' r' => ?_⟩
  let g2 : G := fun a => match g' a with
    | .ow r q => if r = t then (if has j q.length = true then .ow r q else .fz) else .ow r q
    | z => z
  have e2 : ∀ a, g2 a = match g' a with
    | .ow r q => if r = t then (if has j q.length = true then .ow r q else .fz) else .ow r q
    | z => z := fun _ => rfl
  have hlen : σ.length ≤ t := by rw [z.2]; exact ht
  have keep : ∀ a r q, r ≠ t → g' a = .ow r q → g2 a = .ow r q := fun a r q hr e => by rw [e2, e]; simp [hr]
  have P2 : Pres X.N.length t g' H' g2 H' := by
    refine ⟨fun a e => ⟨by rw [e2, e], rfl⟩, fun a e _ => ⟨by rw [e2, e], rfl⟩, fun a r p h1 h2 e => ⟨keep a r p (by omega) e, rfl⟩, fun a r p h1 h2 e => ?_, fun _ _ h _ => h⟩
    rw [e2] at e
    split at e
    · split at e
      · split at e
        · cases e; omega
        · cases e
      · cases e; assumption
    · rename_i hh; exact e
  refine post v H' g2 ⟨fun i k' d' h1 h2 => ?_, fun a hh => S'.gok a fun z => hh (by rw [e2, z]), S'.len, S'.lek⟩ (P'.trans P2) s' ?_
  · obtain ⟨v', es, o⟩ := S'.ok i k' d' h1 h2
    have hi : i < t := by
      have := (List.getElem?_eq_some_iff.mp es).1
      omega
    exact ⟨v', es, own_conv (fun _ _ z _ => z) d' (.inr fun a e => ⟨by rw [e2, e], rfl⟩) (fun a q e hh => ⟨rfl, by rw [if_pos hh]; exact keep a i _ (by omega) e⟩) (fun _ z => z) o⟩
  · exact own_conv (fun _ _ z _ => z) d (.inr fun a e => ⟨by rw [e2, e], rfl⟩) (fun a q e hh => ⟨rfl, by rw [e2, e]; simp⟩) (fun n z => has_le hl z) r'
def mA (m : M) : M := fun ρ => (m ρ).bind fun x => if isA x.1 = true then some x else none
theorem mA_some {m : M} {ρ ρ' : DE} {d : D} (h : mA m ρ = some (d, ρ')) : m ρ = some (d, ρ') ∧ isA d = true := by
  unfold mA at h
  cases e : m ρ with
  | none => rw [e] at h; cases h
  | some p =>
    rw [e] at h
    simp only [Option.bind_some] at h
    split at h
    · cases h; exact ⟨rfl, by assumption⟩
    · cases h
theorem J.asAtom {e : Expr} {m : M} {z z' : Rz} {pu : Bool} (h : J X κ e m z κ1 pu) : J X κ e (mA m) z' κ1 pu := by
  refine ⟨fun t ht => PE.imp (h.run t ht) fun σ H Q en q _ => ?_, fun hp ρ d ρ' e => h.pur hp _ _ _ (mA_some e).1⟩
  obtain ⟨g, ρ, S, d, ρ', em, post⟩ := q en
  obtain ⟨e1, e2⟩ := mA_some em
  refine ⟨g, ρ, S, d, ρ', e1, fun v H' g' S' P' s' r' => post v H' g' S' P' s' ?_⟩
  rw [rep_atom e2 r'.rep]
  exact atom_rz e2
end VS
namespace VS
open PySem PySem.Spec PyProof.Rows L2
variable {K : PySem.W.Frag} {X : Cx} {κ κ1 κ2 : OE} {pos : Pos}
mutual
def pyD : D → PyData
  | .non => .none
  | .bl b => .bool b
  | .int i => .int i
  | .str x => .str x
  | .tup xs => .tuple (pyL xs)
  | .lst xs => .list (pyL xs)
  | .rol ns => .list (ns.map .int)
  | .dic _ _ => .none
  | .nd _ _ => .none
  | .obj _ => .none
  | .gon => .none
  | .ins _ _ => .none
def pyL : List D → List PyData
  | [] => []
  | x :: xs => pyD x :: pyL xs
end
theorem dpAll_ints {H : Hp} : ∀ ns : List Int, DpAll K H (ns.map V.int) (ns.map PyData.int)
  | [] => .nil
  | n :: ns => .cons (.int n) (dpAll_ints ns)
mutual
def noD : D → Bool
  | .dic _ _ => false
  | .nd _ _ => false
  | .obj _ => false
  | .gon => false
  | .ins _ _ => false
  | .tup xs => noDL xs
  | .lst xs => noDL xs
  | _ => true
def noDL : List D → Bool
  | [] => true
  | x :: xs => noD x && noDL xs
end
theorem rep_dp {H : Hp} : (d : D) → noD d = true → ∀ {v}, Rep K H d v → Dp K H v (pyD d)
  | .non, _, _, h => by cases (show _ = _ from h); exact .non
  | .bl b, _, _, h => by cases (show _ = _ from h); exact .bl b
  | .int i, _, _, h => by cases (show _ = _ from h); exact .int i
  | .str x, _, _, h => by cases (show _ = _ from h); exact .str x
  | .tup ds, n, _, h => by
    obtain ⟨a, vs, rfl, ha, hl⟩ := h
    exact .tup (SqT.of ha) (go ds n hl)
  | .lst ds, n, _, h => by
    obtain ⟨a, vs, rfl, ha, hl⟩ := h
    exact .lst (SqL.of ha) (go ds n hl)
  | .rol ns, _, _, h => by
    obtain ⟨a, rfl, hs⟩ := h
    exact .lst (rol_sq hs) (dpAll_ints ns)
  | .dic _ _, n, _, _ => nomatch n
  | .nd _ _, n, _, _ => nomatch n
  | .obj _, n, _, _ => nomatch n
  | .gon, n, _, _ => nomatch n
  | .ins _ _, n, _, _ => nomatch n
where
  go : (ds : List D) → noDL ds = true → ∀ {vs}, RepL K H ds vs → DpAll K H vs (pyL ds)
  | [], _, _, h => by cases (show _ = _ from h); exact .nil
  | d :: ds, n, _, h => by
    obtain ⟨v, w, rfl, h1, h2⟩ := h
    have n' : (noD d && noDL ds) = true := n
    rw [Bool.and_eq_true] at n'
    exact .cons (rep_dp d n'.1 h1) (go ds n'.2 h2)
theorem plain_ints : ∀ ns : List Int, PyData.plainAll (ns.map PyData.int) = true
  | [] => rfl
  | n :: ns => by
    show (PyData.plain (.int n) && PyData.plainAll (ns.map PyData.int)) = true
    rw [plain_ints ns]
    rfl
theorem plain_pyD : (d : D) → (pyD d).plain = true
  | .non => rfl
  | .bl _ => rfl
  | .int _ => rfl
  | .str _ => rfl
  | .tup ds => by
    show PyData.plainAll (pyL ds) = true
    exact go ds
  | .lst ds => by
    show PyData.plainAll (pyL ds) = true
    exact go ds
  | .rol ns => by
    show PyData.plainAll (ns.map .int) = true
    exact plain_ints ns
  | .dic _ _ => rfl
  | .nd _ _ => rfl
  | .obj _ => rfl
  | .gon => rfl
  | .ins _ _ => rfl
where
  go : (ds : List D) → PyData.plainAll (pyL ds) = true
  | [] => rfl
  | d :: ds => by
    show ((pyD d).plain && PyData.plainAll (pyL ds)) = true
    rw [plain_pyD d, go ds]
    rfl
def deq (a b : D) : Bool := PyData.eqv (pyD a) (pyD b)
def dep (a : D) : Nat := if noD a = true then (pyD a).depth else 1000
def depL (a : List D) : Nat := if noDL a = true then PyData.depthAll (pyL a) else 1000
theorem dep_no {a : D} (h : dep a ≤ 60) : noD a = true ∧ (pyD a).depth ≤ 60 := by
  unfold dep at h
  split at h
  · exact ⟨by assumption, h⟩
  · omega
theorem depL_no {a : List D} (h : depL a ≤ 60) : noDL a = true ∧ PyData.depthAll (pyL a) ≤ 60 := by
  unfold depL at h
  split at h
  · exact ⟨by assumption, h⟩
  · omega
def cmpOk (a b : D) : Bool := decide (dep a ≤ 60) && decide (dep b ≤ 60)
theorem cmp_no {a b : D} (h : cmpOk a b = true) : (noD a = true ∧ (pyD a).depth ≤ 60) ∧ noD b = true ∧ (pyD b).depth ≤ 60 := by
  unfold cmpOk at h
  rw [Bool.and_eq_true, decide_eq_true_eq, decide_eq_true_eq] at h
  exact ⟨dep_no h.1, dep_no h.2⟩
theorem OpR.at {f : Value → Value → Sem Value} {r : R2} (h : ∀ (pins : List (Addr × Obj)) (s : Shared) (σ : L2.St) (H : Hp) (x y : V) (v u : Value) (Q : VK), Inv X pins σ H s → RelV x v → RelV y u → r x y H Q →
    wpAny (model X.prog X.w) X.A (f v u) (EP X pins σ Q) X.xe s) : OpR X f r := h
def rDat (K : PySem.W.Frag) (f : D → D → Option D) : R2 := fun x y H Q => ∃ a b c, Rep K H a x ∧ Rep K H b y ∧ f a b = some c ∧ isA c = true ∧ Q (av c) H
theorem atOp {f : D → D → Option D} (h : ∀ x y z, f x y = some z → isA z = true) : AtOp X (rDat X.K f) f :=
  ⟨fun H x y z v u Q e rx ry q => ⟨x, y, z, rx, ry, e, h x y z e, q⟩, h⟩
def dI (C : Int → Int → Bool) (f : Int → Int → D) : D → D → Option D
  | .int i, .int j => if C i j = true then some (f i j) else none
  | _, _ => none
theorem dI_some {C : Int → Int → Bool} {f : Int → Int → D} {a b c : D} (h : dI C f a b = some c) : ∃ i j, a = .int i ∧ b = .int j ∧ C i j = true ∧ c = f i j := by
  unfold dI at h
  split at h
  · split at h
    · cases h; exact ⟨_, _, rfl, rfl, by assumption, rfl⟩
    · cases h
  · cases h
theorem opI' {f : Value → Value → Sem Value} {C : Int → Int → Prop} {Cb : Int → Int → Bool} {g : Int → Int → V} {gd : Int → Int → D} (h : OpR X f (rI C g)) (hc : ∀ i j, Cb i j = true → C i j) (hg : ∀ i j, av (gd i j) = g i j) : OpR X f (rDat X.K (dI Cb gd)) := by
  intro pins s σ H x y v u Q I rx ry q
  obtain ⟨a, b, c, ra, rb, e, ha, q⟩ := q
  obtain ⟨i, j, rfl, rfl, hC, rfl⟩ := dI_some e
  refine h pins s σ H x y v u Q I rx ry ⟨i, j, ra, rb, hc i j hC, ?_⟩
  rw [← hg i j]
  exact q
theorem opI0' {f : Value → Value → Sem Value} {g : Int → Int → V} {gd : Int → Int → D} (h : OpR X f (rI0 g)) (hg : ∀ i j, av (gd i j) = g i j) : OpR X f (rDat X.K (dI (fun _ _ => true) gd)) := by
  intro pins s σ H x y v u Q I rx ry q
  obtain ⟨a, b, c, ra, rb, e, ha, q⟩ := q
  obtain ⟨i, j, rfl, rfl, hC, rfl⟩ := dI_some e
  refine h pins s σ H x y v u Q I rx ry ⟨i, j, ra, rb, ?_⟩
  rw [← hg i j]
  exact q
def dAdd : D → D → Option D
  | .int i, .int j => some (.int (i + j))
  | .str i, .str j => if i.length + j.length ≤ 16777216 then some (.str (i ++ j)) else none
  | _, _ => none
theorem dAdd_a (x y z : D) (h : dAdd x y = some z) : isA z = true := by
  unfold dAdd at h
  split at h
  · cases h; rfl
  · split at h
    · cases h; rfl
    · cases h
  · cases h
theorem o_add : OpR X (binaryOp .Add) (rDat X.K dAdd) := by
  intro pins s σ H x y v u Q I rx ry q
  obtain ⟨a, b, c, ra, rb, e, ha, q⟩ := q
  unfold dAdd at e
  split at e
  · cases e
    exact op_add pins s σ H x y v u Q I rx ry ⟨_, _, ra, rb, q⟩
  · split at e
    · cases e
      exact op_add_str pins s σ H x y v u Q I rx ry ⟨_, _, ra, rb, by rw [sizeLine_eq]; assumption, q⟩
    · cases e
  · cases e
def dSub := dI (fun _ _ => true) fun i j => .int (i - j)
def cMul (i j : Int) : Bool := decide (i.natAbs < 18446744073709551616) || decide (j.natAbs < 18446744073709551616)
def dMul := dI cMul fun i j => .int (i * j)
theorem o_mul : OpR X (binaryOp .Mult) (rDat X.K dMul) := opI' op_mul (fun i j h => by
  unfold cMul at h
  simp only [Bool.or_eq_true, decide_eq_true_eq] at h
  rcases h with h | h
  · exact .inl ⟨by omega, by omega⟩
  · exact .inr ⟨by omega, by omega⟩) fun _ _ => rfl
def cDiv (i j : Int) : Bool := decide (0 < j) && decide (j < 1073741824)
def dDiv := dI cDiv fun i j => .int (i / j)
theorem o_div : OpR X (binaryOp .FloorDiv) (rDat X.K dDiv) := opI' op_fdiv (fun i j h => by
  unfold cDiv at h
  simp only [Bool.and_eq_true, decide_eq_true_eq] at h
  exact h) fun _ _ => rfl
def dMod := dI (fun _ j => decide (0 < j)) fun i j => .int (i % j)
theorem o_mod : OpR X (binaryOp .Mod) (rDat X.K dMod) := opI' op_mod (fun i j h => of_decide_eq_true h) fun _ _ => rfl
def cPow (i j : Int) : Bool := decide (0 ≤ j) && (decide (j ≤ 1000000) && decide (i.natAbs < 18446744073709551616))
theorem cPow_ok (i j : Int) (h : cPow i j = true) : CPow i j := by
  unfold cPow at h
  simp only [Bool.and_eq_true, decide_eq_true_eq] at h
  exact h
def dPow := dI cPow fun i j => .int (i ^ j.toNat)
theorem o_pow : OpR X (binaryOp .Pow) (rDat X.K dPow) := opI' op_pow cPow_ok fun _ _ => rfl
def dLt := dI (fun _ _ => true) fun i j => .bl (decide (i < j))
def dLe := dI (fun _ _ => true) fun i j => .bl (decide (i ≤ j))
def dGt := dI (fun _ _ => true) fun i j => .bl (decide (j < i))
def dGe := dI (fun _ _ => true) fun i j => .bl (decide (j ≤ i))
theorem o_lt : OpR X (compareOp .Lt) (rDat X.K dLt) := opI0' op_lt fun _ _ => rfl
theorem o_gt : OpR X (compareOp .Gt) (rDat X.K dGt) := opI0' op_gt fun _ _ => rfl
theorem o_ge : OpR X (compareOp .GtE) (rDat X.K dGe) := opI0' op_ge fun _ _ => rfl
theorem dI_a {C : Int → Int → Bool} {f : Int → Int → D} (h : ∀ i j, isA (f i j) = true) (x y z : D) (e : dI C f x y = some z) : isA z = true := by
  obtain ⟨i, j, rfl, rfl, _, rfl⟩ := dI_some e
  exact h i j
def dEq (a b : D) : Option D := if cmpOk a b = true then some (.bl (deq a b)) else none
def dNe (a b : D) : Option D := if cmpOk a b = true then some (.bl (!deq a b)) else none
theorem room_min {X : Cx} (hu : X.A.units + 100 < cLine) {a b : D} (h : cmpOk a b = true) : X.A.units + min (pyD a).depth (pyD b).depth < cLine := by
  have h2 := (cmp_no h).1.2
  omega
theorem fin_b {pins : List (Addr × Obj)} {σ : L2.St} {H : Hp} {s : Shared} {Q : VK} {k : Bool} (I : Inv X pins σ H s) (q : Q (.bl k) H) : EP X pins σ Q (.bool k) s := ⟨.bl k, H, I, rfl, q⟩
theorem o_eq (hu : X.A.units + 100 < cLine) : OpR X (compareOp .Eq) (rDat X.K dEq) := by
  intro pins s σ H x y v u Q I rx ry q
  obtain ⟨a, b, c, ra, rb, e, ha, q⟩ := q
  unfold dEq at e
  split at e
  · cases e
    obtain ⟨n1, n2⟩ := cmp_no (by assumption)
    obtain ⟨as, h1⟩ := Dp.reads I _ _ _ (rep_dp a n1.1 ra) rx
    obtain ⟨bs, h2⟩ := Dp.reads I _ _ _ (rep_dp b n2.1 rb) ry
    exact PySem.SeqAt.eq_plain h1 h2 (plain_pyD a) (plain_pyD b) (room_min hu (by assumption)) (fin_b I q)
  · cases e
theorem o_ne (hu : X.A.units + 100 < cLine) : OpR X (compareOp .NotEq) (rDat X.K dNe) := by
  intro pins s σ H x y v u Q I rx ry q
  obtain ⟨a, b, c, ra, rb, e, ha, q⟩ := q
  unfold dNe at e
  split at e
  · cases e
    obtain ⟨n1, n2⟩ := cmp_no (by assumption)
    obtain ⟨as, h1⟩ := Dp.reads I _ _ _ (rep_dp a n1.1 ra) rx
    obtain ⟨bs, h2⟩ := Dp.reads I _ _ _ (rep_dp b n2.1 rb) ry
    exact PySem.SeqAt.ne_plain h1 h2 (plain_pyD a) (plain_pyD b) (room_min hu (by assumption)) (fin_b I q)
  · cases e
theorem dEq_a (x y z : D) (h : dEq x y = some z) : isA z = true := by
  unfold dEq at h
  split at h
  · cases h; rfl
  · cases h
theorem dNe_a (x y z : D) (h : dNe x y = some z) : isA z = true := by
  unfold dNe at h
  split at h
  · cases h; rfl
  · cases h
inductive DK where
  | k (x : Key) | t (x : List Key)
def keyA : D → Option Key
  | .int i => some (.inl i)
  | .str x => some (.inr x)
  | _ => none
def keyAs : List D → Option (List Key)
  | [] => some []
  | d :: ds => (keyA d).bind fun k => (keyAs ds).map fun r => k :: r
def DKs.at : DKs → D → Option (Option Nat)
  | .K ks, d => (keyA d).map fun k => ks.findIdx? fun j => decide (j = k)
  | .T ks, .tup ds => (keyAs ds).map fun k => ks.findIdx? fun j => decide (j = k)
  | .T _, _ => none
theorem keyA_rep {H : Hp} {d : D} {k : Key} {v : V} (e : keyA d = some k) (r : Rep K H d v) : v = kV k := by
  cases d with
  | int i => cases e; exact r
  | str x => cases e; exact r
  | _ => cases e
theorem keyAs_rep {H : Hp} : ∀ {ds : List D} {ks : List Key} {vs : List V}, keyAs ds = some ks → RepL K H ds vs → vs = ks.map kV
  | [], _, _, e, r => by cases e; exact r
  | d :: ds, _, _, e, r => by
    obtain ⟨v, w, rfl, h1, h2⟩ := r
    have e' : ((keyA d).bind fun k => (keyAs ds).map fun r => k :: r) = some _ := e
    cases e1 : keyA d with
    | none => rw [e1] at e'; cases e'
    | some k =>
      rw [e1] at e'
      simp only [Option.bind_some] at e'
      cases e2 : keyAs ds with
      | none => rw [e2] at e'; cases e'
      | some r => rw [e2] at e'; cases e'; rw [keyA_rep e1 h1, keyAs_rep e2 h2]; rfl
theorem valV_zip {κ : Type} [DecidableEq κ] {k : κ} : ∀ {ks : List κ} {vs : List V}, ks.length = vs.length → valV (ks.zip vs) k = (ks.findIdx? fun j => decide (j = k)).bind fun j => vs[j]?
  | [], [], _ => rfl
  | a :: ks, v :: vs, h => by
    rw [List.zip_cons_cons, List.findIdx?_cons]
    by_cases e : a = k
    · rw [valV_pos e]
      simp [e]
    · rw [valV_neg e, valV_zip (by simpa using h)]
      simp only [e, decide_false, Bool.false_eq_true, if_false]
      cases ks.findIdx? (fun j => decide (j = k)) <;> simp
theorem dGet_of {H : Hp} {q : DKs} {d : D} {o : Option Nat} {a : Addr} {vs : List V} {y : V} (hd : Rd H a (dO q vs)) (hl : q.len = vs.length) (e : q.at d = some o) (r : Rep K H d y) : DGet H a y (o.bind fun j => vs[j]?) := by
  cases q with
  | K ks =>
    have e' : ((keyA d).map fun k => ks.findIdx? fun j => decide (j = k)) = some o := e
    cases e1 : keyA d with
    | none => rw [e1] at e'; cases e'
    | some k =>
      rw [e1] at e'
      cases e'
      exact .inl ⟨_, k, hd, keyA_rep e1 r, (valV_zip hl).symm⟩
  | T ks =>
    cases d with
    | tup ds =>
      have e' : ((keyAs ds).map fun k => ks.findIdx? fun j => decide (j = k)) = some o := e
      obtain ⟨b, ws, rfl, hb, hr⟩ := r
      cases e1 : keyAs ds with
      | none => rw [e1] at e'; cases e'
      | some k =>
        rw [e1] at e'
        cases e'
        rw [keyAs_rep e1 hr] at hb
        exact .inr ⟨_, k, b, hd, rfl, hb, (valV_zip hl).symm⟩
    | _ => cases e
theorem DKs.at_lt {q : DKs} {d : D} {j : Nat} (e : q.at d = some (some j)) : j < q.len := by
  cases q with
  | K ks =>
    have e' : ((keyA d).map fun k => ks.findIdx? fun j => decide (j = k)) = some (some j) := e
    cases e1 : keyA d with
    | none => rw [e1] at e'; cases e'
    | some k => rw [e1] at e'; injection e' with e'; exact (List.findIdx?_eq_some_iff_findIdx_eq.mp e').1
  | T ks =>
    cases d with
    | tup ds =>
      have e' : ((keyAs ds).map fun k => ks.findIdx? fun j => decide (j = k)) = some (some j) := e
      cases e1 : keyAs ds with
      | none => rw [e1] at e'; cases e'
      | some k => rw [e1] at e'; injection e' with e'; exact (List.findIdx?_eq_some_iff_findIdx_eq.mp e').1
    | _ => cases e
theorem in_no {ys : List D} {x : D} (h : (decide (depL ys ≤ 60) && decide (dep x ≤ 60)) = true) : (noDL ys = true ∧ PyData.depthAll (pyL ys) ≤ 60) ∧ noD x = true ∧ (pyD x).depth ≤ 60 := by
  rw [Bool.and_eq_true, decide_eq_true_eq, decide_eq_true_eq] at h
  exact ⟨depL_no h.1, dep_no h.2⟩
theorem room_in {X : Cx} (hu : X.A.units + 100 < cLine) {ys : List D} {x : D} (h : (decide (depL ys ≤ 60) && decide (dep x ≤ 60)) = true) : X.A.units + 1 + min (PyData.depthAll (pyL ys)) (pyD x).depth < cLine := by
  have h2 := (in_no h).1.2
  omega
end VS
namespace VS
open PySem PySem.Spec PyProof.Rows L2
variable {K : PySem.W.Frag} {X : Cx} {κ κ1 κ2 κ3 : OE} {pos : Pos}
def jTT (K : PySem.W.Frag) (n : Nat) (κ : OE) (m : M) (κ' : OE) (pu : Bool) (t : Nat) : TT := fun σ H Q => En n σ H →
  ∃ g ρ, Sok K κ ρ g σ H ∧ ∃ b ρ', m ρ = some (.bl b, ρ') ∧ ∀ H' g', Sok K κ' ρ' g' σ H' → Pres n t g H g' H' → (pu = true → Same H H') → Q b H'
structure JT (X : Cx) (κ : OE) (e : Expr) (m : M) (κ' : OE) (pu : Bool) : Prop where
  run : ∀ t, X.N.length ≤ t → PT X e (jTT X.K X.N.length κ m κ' pu t)
  pur : pu = true → ∀ ρ d ρ', m ρ = some (d, ρ') → ρ' = ρ
structure JW (X : Cx) (κ : OE) (e : Expr) (m : M) (κ' : OE) (pu : Bool) : Prop where
  run : ∀ t, X.N.length ≤ t → PW X e (jTT X.K X.N.length κ m κ' pu t)
  pur : pu = true → ∀ ρ d ρ', m ρ = some (d, ρ') → ρ' = ρ
theorem JW.jt {e : Expr} {m : M} {pu : Bool} (h : JW X κ e m κ1 pu) : JT X κ e m κ1 pu := ⟨fun t ht => (h.run t ht).pt, h.pur⟩
theorem PT.imp {e : Expr} {t t' : TT} (h : PT X e t) (f : ∀ σ H Q, En X.N.length σ H → t' σ H Q → t σ H Q) : PT X e t' :=
  ⟨fun pins s σ H Q I q => h.run pins s σ H Q I (f σ H Q ⟨Inv.sz I, I.len⟩ q)⟩
theorem PW.imp {e : Expr} {t t' : TT} (h : PW X e t) (f : ∀ σ H Q, En X.N.length σ H → t' σ H Q → t σ H Q) : PW X e t' :=
  ⟨fun wh pins s σ H Q I q => h.run wh pins s σ H Q I (f σ H Q ⟨Inv.sz I, I.len⟩ q)⟩
theorem JT.weak {e : Expr} {m : M} {pu : Bool} (h : JT X κ e m κ1 pu) (hl : leO κ2 κ1 = true) (hn : κ2.length = X.N.length) : JT X κ e m κ2 pu := by
  refine ⟨fun t ht => PT.imp (h.run t ht) fun σ H Q z q _ => ?_, h.pur⟩
  obtain ⟨g, ρ, S, b, ρ', em, post⟩ := q z
  exact ⟨g, ρ, S, b, ρ', em, fun H' g' S' P' s' => post H' (wk κ2 g') (S'.weaken hl) (P'.trans (Pres.weaken hn)) s'⟩
theorem JT.two_read {a b e : Expr} {ma mb : M} {ra rb : Rz} {pa pb : Bool} {r : R2} {f : D → D → Option D} (ha : J X κ a ma ra κ1 pa) (hb : J X κ1 b mb rb κ2 pb) (ok : okk ra pb = true) (op : AtOp X r f)
    (mk : ∀ {ta tb : TE}, PE X a ta → PE X b tb → PT X e (tTest (tOp r ta tb))) : JT X κ e (m2 f ma mb) κ2 (pa && pb) := by
  refine ⟨fun t ht => PT.imp (mk (ha.run t ht) (hb.run (t + 1) (by omega))) fun σ H Q z q => ?_, fun hp ρ d ρ' h => ?_⟩
  · obtain ⟨g, ρ, S, c, ρ', em, post⟩ := q z
    obtain ⟨x, ρ1, y, ea, eb, ec⟩ := m2_some em
    refine two (K := X.K) (κ2 := κ2) ht ok S ea eb z fun v u H' g' S' P' s' r1 r2 => ?_
    exact op.ans H' x y _ v u _ ec r1.rep r2.rep ⟨c, rfl, post H' g' S' P' s'⟩
  · rw [Bool.and_eq_true] at hp
    obtain ⟨x, ρ1, y, ea, eb, ec⟩ := m2_some h
    rw [hb.pur hp.2 _ _ _ eb, ha.pur hp.1 _ _ _ ea]
def truD : D → Option Bool
  | .non => some false
  | .bl b => some b
  | .int i => some (i != 0)
  | .str y => if y.length ≤ 16777216 then some ((y.length : Int) != 0) else none
  | .lst xs => some (!xs.isEmpty)
  | .tup xs => some (!xs.isEmpty)
  | .rol xs => some (!xs.isEmpty)
  | .dic _ _ => none
  | .nd _ _ => none
  | .obj _ => none
  | .gon => none
  | .ins _ _ => none
theorem repL_empty {H : Hp} {ds : List D} {vs : List V} (h : RepL K H ds vs) : vs.isEmpty = ds.isEmpty := by
  cases ds with
  | nil => cases (show _ = _ from h); rfl
  | cons d ds => obtain ⟨v, w, rfl, _⟩ := h; rfl
theorem truV_of {H : Hp} {d : D} {b : Bool} {v : V} (h : truD d = some b) (r : Rep K H d v) : TruV K v H b := by
  cases d with
  | obj a => cases h
  | gon => cases h
  | ins _ _ => cases h
  | nd _ _ => cases h
  | non => cases (show v = _ from r); cases h; rfl
  | bl c => cases (show v = _ from r); cases h; rfl
  | int i => cases (show v = _ from r); cases h; rfl
  | str y =>
    cases (show v = _ from r)
    simp only [truD] at h
    split at h
    · cases h; exact ⟨by rw [sizeLine_eq]; assumption, rfl⟩
    · cases h
  | lst xs =>
    obtain ⟨a, vs, rfl, ha, hl⟩ := r
    cases h
    exact .inl ⟨vs, SqL.of ha, by rw [repL_empty hl]⟩
  | tup xs =>
    obtain ⟨a, vs, rfl, ha, hl⟩ := r
    cases h
    exact .inr (.inl ⟨vs, SqT.of ha, by rw [repL_empty hl]⟩)
  | rol ns =>
    obtain ⟨a, rfl, ha⟩ := r
    cases h
    exact .inl ⟨_, rol_sq ha, by cases ns <;> rfl⟩
  | dic _ _ => cases h
def mTr (m : M) : M := fun ρ => (m ρ).bind fun x => (truD x.1).map fun b => (.bl b, x.2)
theorem mTr_some {m : M} {ρ ρ' : DE} {d : D} (h : mTr m ρ = some (d, ρ')) : ∃ x b, m ρ = some (x, ρ') ∧ truD x = some b ∧ d = .bl b := by
  unfold mTr at h
  cases e : m ρ with
  | none => rw [e] at h; cases h
  | some p =>
    rw [e] at h
    simp only [Option.bind_some] at h
    cases e2 : truD p.1 with
    | none => rw [e2] at h; cases h
    | some b => rw [e2] at h; cases h; exact ⟨p.1, b, rfl, e2, rfl⟩
theorem jt_val {e : Expr} {m : M} {rz : Rz} {pu : Bool} (h : J X κ e m rz κ1 pu) (he : ∀ whole, isTrue e X.env whole = (do let v ← whole; standAt e.pos; holding [v] (truthy v))) : JT X κ e (mTr m) κ1 pu := by
  refine ⟨fun t ht => PT.imp (pt_truth (h.run t ht) he) fun σ H Q z q => ?_, fun hp ρ d ρ' e => ?_⟩
  · obtain ⟨g, ρ, S, c, ρ', em, post⟩ := q z
    obtain ⟨x, b, e1, e2, e3⟩ := mTr_some em
    cases e3
    exact fun _ => ⟨g, ρ, S, x, ρ', e1, fun v H' g' S' P' s' r' => ⟨c, truV_of e2 r'.rep, post H' g' S' P' s'⟩⟩
  · obtain ⟨x, b, e1, e2, e3⟩ := mTr_some e
    exact h.pur hp _ _ _ e1
def mNot (m : M) : M := fun ρ => match m ρ with
  | some (.bl b, ρ') => some (.bl (!b), ρ')
  | _ => none
theorem mNot_some {m : M} {ρ ρ' : DE} {d : D} (h : mNot m ρ = some (d, ρ')) : ∃ b, m ρ = some (.bl b, ρ') ∧ d = .bl (!b) := by
  unfold mNot at h
  split at h
  · cases h; exact ⟨_, by assumption, rfl⟩
  · cases h
theorem jt_not {e : Expr} {m : M} {pu : Bool} (h : JT X κ e m κ1 pu) : JT X κ (.UnaryOp .Not e pos) (mNot m) κ1 pu := by
  refine ⟨fun t ht => PT.imp (pt_not (h.run t ht)) fun σ H Q z q => ?_, fun hp ρ d ρ' e => ?_⟩
  · obtain ⟨g, ρ, S, c, ρ', em, post⟩ := q z
    obtain ⟨b, e1, e3⟩ := mNot_some em
    cases e3
    exact fun _ => ⟨g, ρ, S, b, ρ', e1, fun H' g' S' P' s' => post H' g' S' P' s'⟩
  · obtain ⟨b, e1, e3⟩ := mNot_some e
    exact h.pur hp _ _ _ e1
def mAnd (ma mb : M) : M := fun ρ => match ma ρ with
  | some (.bl true, ρ1) => mb ρ1
  | some (.bl false, ρ1) => some (.bl false, ρ1)
  | _ => none
def mOr (ma mb : M) : M := fun ρ => match ma ρ with
  | some (.bl false, ρ1) => mb ρ1
  | some (.bl true, ρ1) => some (.bl true, ρ1)
  | _ => none
theorem mAnd_some {ma mb : M} {ρ ρ' : DE} {d : D} (h : mAnd ma mb ρ = some (d, ρ')) : (∃ ρ1, ma ρ = some (.bl true, ρ1) ∧ mb ρ1 = some (d, ρ')) ∨ (ma ρ = some (.bl false, ρ') ∧ d = .bl false) := by
  unfold mAnd at h
  split at h
  · exact .inl ⟨_, by assumption, h⟩
  · cases h; exact .inr ⟨by assumption, rfl⟩
  · cases h
theorem mOr_some {ma mb : M} {ρ ρ' : DE} {d : D} (h : mOr ma mb ρ = some (d, ρ')) : (∃ ρ1, ma ρ = some (.bl false, ρ1) ∧ mb ρ1 = some (d, ρ')) ∨ (ma ρ = some (.bl true, ρ') ∧ d = .bl true) := by
  unfold mOr at h
  split at h
  · exact .inl ⟨_, by assumption, h⟩
  · cases h; exact .inr ⟨by assumption, rfl⟩
  · cases h
theorem jw_and1 {a : Expr} {ma : M} {pa : Bool} (h : JT X κ a ma κ1 pa) : JW X κ (.BoolOp .And [a] pos) ma κ1 pa := ⟨fun t ht => pw_and1 (h.run t ht), h.pur⟩
theorem jw_or1 {a : Expr} {ma : M} {pa : Bool} (h : JT X κ a ma κ1 pa) : JW X κ (.BoolOp .Or [a] pos) ma κ1 pa := ⟨fun t ht => pw_or1 (h.run t ht), h.pur⟩
theorem jw_and {a b : Expr} {rest : List Expr} {ma mb : M} {pa pb : Bool} (ha : JT X κ a ma κ1 pa) (hb : JW X κ1 (.BoolOp .And (b :: rest) pos) mb κ2 pb) (hl : leO κ2 κ1 = true) (hn : κ2.length = X.N.length) :
    JW X κ (.BoolOp .And (a :: b :: rest) pos) (mAnd ma mb) κ2 (pa && pb) := by
  refine ⟨fun t ht => PW.imp (pw_and (ha.run t ht) (hb.run t ht)) fun σ H Q z q => ?_, fun hp ρ d ρ' e => ?_⟩
  · obtain ⟨g, ρ, S, c, ρ', em, post⟩ := q z
    intro _
    rcases mAnd_some em with ⟨ρ1, e1, e2⟩ | ⟨e1, e2⟩
    · refine ⟨g, ρ, S, true, ρ1, e1, fun H1 g1 S1 P1 s1 => ?_⟩
      refine iteT ?_
      refine fun _ => ⟨g1, ρ1, S1, c, ρ', e2, fun H2 g2 S2 P2 s2 => post H2 g2 S2 (P1.trans P2) fun e => ?_⟩
      rw [Bool.and_eq_true] at e
      exact (s1 e.1).trans (s2 e.2)
    · cases e2
      refine ⟨g, ρ, S, false, ρ', e1, fun H1 g1 S1 P1 s1 => ?_⟩
      refine iteF ?_
      refine post H1 _ (S1.weaken hl) (P1.trans (Pres.weaken hn)) fun e => ?_
      rw [Bool.and_eq_true] at e
      exact s1 e.1
  · rw [Bool.and_eq_true] at hp
    rcases mAnd_some e with ⟨ρ1, e1, e2⟩ | ⟨e1, e2⟩
    · rw [hb.pur hp.2 _ _ _ e2, ha.pur hp.1 _ _ _ e1]
    · exact ha.pur hp.1 _ _ _ e1
theorem jw_or {a b : Expr} {rest : List Expr} {ma mb : M} {pa pb : Bool} (ha : JT X κ a ma κ1 pa) (hb : JW X κ1 (.BoolOp .Or (b :: rest) pos) mb κ2 pb) (hl : leO κ2 κ1 = true) (hn : κ2.length = X.N.length) :
    JW X κ (.BoolOp .Or (a :: b :: rest) pos) (mOr ma mb) κ2 (pa && pb) := by
  refine ⟨fun t ht => PW.imp (pw_or (ha.run t ht) (hb.run t ht)) fun σ H Q z q => ?_, fun hp ρ d ρ' e => ?_⟩
  · obtain ⟨g, ρ, S, c, ρ', em, post⟩ := q z
    intro _
    rcases mOr_some em with ⟨ρ1, e1, e2⟩ | ⟨e1, e2⟩
    · refine ⟨g, ρ, S, false, ρ1, e1, fun H1 g1 S1 P1 s1 => ?_⟩
      refine iteF ?_
      refine fun _ => ⟨g1, ρ1, S1, c, ρ', e2, fun H2 g2 S2 P2 s2 => post H2 g2 S2 (P1.trans P2) fun e => ?_⟩
      rw [Bool.and_eq_true] at e
      exact (s1 e.1).trans (s2 e.2)
    · cases e2
      refine ⟨g, ρ, S, true, ρ', e1, fun H1 g1 S1 P1 s1 => ?_⟩
      refine iteT ?_
      refine post H1 _ (S1.weaken hl) (P1.trans (Pres.weaken hn)) fun e => ?_
      rw [Bool.and_eq_true] at e
      exact s1 e.1
  · rw [Bool.and_eq_true] at hp
    rcases mOr_some e with ⟨ρ1, e1, e2⟩ | ⟨e1, e2⟩
    · rw [hb.pur hp.2 _ _ _ e2, ha.pur hp.1 _ _ _ e1]
    · exact ha.pur hp.1 _ _ _ e1
theorem j_not {e : Expr} {m : M} {rz rz' : Rz} {pu : Bool} (h : J X κ e m rz κ1 pu) : J X κ (.UnaryOp .Not e pos) (mNot m) rz' κ1 pu := by
  refine ⟨fun t ht => PE.imp (pe_not (h.run t ht)) fun σ H Q z q => ?_, fun hp ρ d ρ' e => ?_⟩
  · obtain ⟨g, ρ, S, c, ρ', em, post⟩ := q z
    obtain ⟨b, e1, e3⟩ := mNot_some em
    cases e3
    refine fun _ => ⟨g, ρ, S, .bl b, ρ', e1, fun v H' g' S' P' s' r' => ⟨b, r'.rep, post _ H' g' S' P' s' (atom_rz (d := .bl (!b)) rfl)⟩⟩
  · obtain ⟨b, e1, e3⟩ := mNot_some e
    exact h.pur hp _ _ _ e1
theorem j_and1 {op : BoolOp} {a : Expr} {ma : M} {rz : Rz} {pa : Bool} (h : J X κ a ma rz κ1 pa) : J X κ (.BoolOp op [a] pos) ma rz κ1 pa := ⟨fun t ht => pe_one (h.run t ht), h.pur⟩
theorem Same.bool {p q : Bool} {H H1 H2 : Hp} (s1 : p = true → Same H H1) (s2 : q = true → Same H1 H2) : (p && q) = true → Same H H2 := fun e => by
  rw [Bool.and_eq_true] at e
  exact (s1 e.1).trans (s2 e.2)
theorem j_and {a b : Expr} {rest : List Expr} {ma mb : M} {ra rb : Rz} {pa pb : Bool} (ha : J X κ a ma ra κ1 pa) (hb : J X κ1 (.BoolOp .And (b :: rest) pos) mb rb κ2 pb) (hl : leO κ2 κ1 = true) (hn : κ2.length = X.N.length) :
    J X κ (.BoolOp .And (a :: b :: rest) pos) (mAnd ma mb) rb κ2 (pa && pb) := by
  refine ⟨fun t ht => PE.imp (pe_and (ha.run t ht) (hb.run t ht)) fun σ H Q z q => ?_, fun hp ρ d ρ' e => ?_⟩
  · obtain ⟨g, ρ, S, c, ρ', em, post⟩ := q z
    intro _
    rcases mAnd_some em with ⟨ρ1, e1, e2⟩ | ⟨e1, e2⟩
    · refine ⟨g, ρ, S, .bl true, ρ1, e1, fun v H1 g1 S1 P1 s1 r1 => ⟨true, r1.rep, ?_⟩⟩
      refine iteT ?_
      exact fun _ => ⟨g1, ρ1, S1, c, ρ', e2, fun v H2 g2 S2 P2 s2 r2 => post v H2 g2 S2 (P1.trans P2) (Same.bool s1 s2) r2⟩
    · subst e2
      refine ⟨g, ρ, S, .bl false, ρ', e1, fun v H1 g1 S1 P1 s1 r1 => ⟨false, r1.rep, ?_⟩⟩
      refine iteF ?_
      refine post _ H1 _ (S1.weaken hl) (P1.trans (Pres.weaken hn)) (fun e => ?_) (atom_rz (d := .bl false) rfl)
      rw [Bool.and_eq_true] at e
      exact s1 e.1
  · rw [Bool.and_eq_true] at hp
    rcases mAnd_some e with ⟨ρ1, e1, e2⟩ | ⟨e1, e2⟩
    · rw [hb.pur hp.2 _ _ _ e2, ha.pur hp.1 _ _ _ e1]
    · exact ha.pur hp.1 _ _ _ e1
def mIf (mc ma mb : M) : M := fun ρ => match mc ρ with
  | some (.bl true, ρ1) => ma ρ1
  | some (.bl false, ρ1) => mb ρ1
  | _ => none
def mCh (f f' : D → D → Option D) (ma mb mc : M) : M := fun ρ => (ma ρ).bind fun x => (mb x.2).bind fun y => match f x.1 y.1 with
  | some (.bl true) => (mc y.2).bind fun z => (f' y.1 z.1).map fun w => (w, z.2)
  | some (.bl false) => some (.bl false, y.2)
  | _ => none
end VS
namespace VS
open PySem PySem.Spec PyProof.Rows L2
variable {K : PySem.W.Frag} {X : Cx} {κ κ1 κ2 κ3 : OE} {pos : Pos}
theorem repL_get {H : Hp} : ∀ {ds : List D} {vs : List V} {i : Nat} {d : D}, RepL K H ds vs → ds[i]? = some d → ∃ v, vs[i]? = some v ∧ Rep K H d v
  | [], _, _, _, _, e => by simp at e
  | d :: ds, _, 0, _, h, e => by
    obtain ⟨v, w, rfl, h1, h2⟩ := h
    cases e
    exact ⟨v, rfl, h1⟩
  | d :: ds, _, i + 1, _, h, e => by
    obtain ⟨v, w, rfl, h1, h2⟩ := h
    exact repL_get (i := i) h2 e
theorem repL_len {H : Hp} : ∀ {ds : List D} {vs : List V}, RepL K H ds vs → vs.length = ds.length
  | [], _, h => by cases (show _ = _ from h); rfl
  | d :: ds, _, h => by
    obtain ⟨v, w, rfl, h1, h2⟩ := h
    simp [repL_len h2]
theorem repL_app {H : Hp} : ∀ {ds es : List D} {vs ws : List V}, RepL K H ds vs → RepL K H es ws → RepL K H (ds ++ es) (vs ++ ws)
  | [], _, _, _, h, q => by cases (show _ = _ from h); exact q
  | d :: ds, _, _, _, h, q => by
    obtain ⟨v, w, rfl, h1, h2⟩ := h
    exact ⟨v, _, rfl, h1, repL_app h2 q⟩
theorem repL_drop {H : Hp} : ∀ (n : Nat) {ds : List D} {vs : List V}, RepL K H ds vs → RepL K H (ds.drop n) (vs.drop n)
  | 0, _, _, h => h
  | n + 1, [], _, h => by cases (show _ = _ from h); rfl
  | n + 1, d :: ds, _, h => by
    obtain ⟨v, w, rfl, h1, h2⟩ := h
    exact repL_drop n h2
theorem repL_take {H : Hp} : ∀ (n : Nat) {ds : List D} {vs : List V}, RepL K H ds vs → RepL K H (ds.take n) (vs.take n)
  | 0, _, _, h => by simp only [List.take_zero]; rfl
  | n + 1, [], _, h => by cases (show _ = _ from h); rfl
  | n + 1, d :: ds, _, h => by
    obtain ⟨v, w, rfl, h1, h2⟩ := h
    exact ⟨v, _, rfl, h1, repL_take n h2⟩
theorem repL_mono {H H' : Hp} (s : Same H H') (ds : List D) {vs : List V} (h : RepL K H ds vs) : RepL K H' ds vs := rep_mono.go s ds h
theorem ownL_repL {H : Hp} {g : G} {k r : Nat} {p : List Nat} {i : Nat} (ds : List D) {vs : List V} (h : OwnL K H g ds k r p i vs) : RepL K H ds vs := own_rep.go ds h
theorem ownL_get {H : Hp} {g : G} {k r : Nat} {p : List Nat} : ∀ {ds : List D} {vs : List V} {j i : Nat} {d : D}, OwnL K H g ds k r p j vs → ds[i]? = some d → ∃ v, vs[i]? = some v ∧ Own K H g d k r ((j + i) :: p) v
  | [], _, _, _, _, _, e => by simp at e
  | d :: ds, _, j, 0, _, h, e => by
    obtain ⟨v, w, rfl, h1, h2⟩ := h
    cases e
    exact ⟨v, rfl, h1⟩
  | d :: ds, _, j, i + 1, _, h, e => by
    obtain ⟨v, w, rfl, h1, h2⟩ := h
    have := ownL_get (j := j + 1) (i := i) h2 e
    rw [show j + 1 + i = j + (i + 1) by omega] at this
    exact this
def allRz : List Am → Bool
  | [] => true
  | .rz _ :: ms => allRz ms
  | _ => false
theorem rows_repL {H : Hp} {g : G} {σ : L2.St} {ρ : DE} : ∀ {ms : List Am} {t : Nat} {ds : List D} {vs : List V}, allRz ms = true → RowsOk K H g σ ρ t ms ds vs → RepL K H ds vs
  | [], _, _, _, _, h => by
    obtain ⟨rfl, rfl⟩ := h
    rfl
  | .io i :: ms, _, _, _, h, _ => by cases h
  | .rz z :: ms, _, _, _, h, q => by
    obtain ⟨d, ds', v, vs', rfl, rfl, h1, h2⟩ := q
    exact ⟨v, vs', rfl, h1.rep, rows_repL (ms := ms) h h2⟩
structure AtCall (X : Cx) (r : List V → Hp → VK → Prop) (f : List D → Option D) : Prop where
  ans : ∀ (H : Hp) (ds : List D) (z : D) (vs : List V) (Q : VK), SzOk H → f ds = some z → RepL X.K H ds vs → Q (av z) H → r vs H Q
  atom : ∀ ds z, f ds = some z → isA z = true
def mB (f : List D → Option D) (ml : ML) : M := fun ρ => (ml ρ).bind fun x => (f x.1).map fun z => (z, x.2)
theorem mB_some {f : List D → Option D} {ml : ML} {ρ ρ' : DE} {d : D} (h : mB f ml ρ = some (d, ρ')) : ∃ ds, ml ρ = some (ds, ρ') ∧ f ds = some d := by
  unfold mB at h
  cases e : ml ρ with
  | none => rw [e] at h; cases h
  | some p =>
    rw [e] at h
    simp only [Option.bind_some] at h
    cases e2 : f p.1 with
    | none => rw [e2] at h; cases h
    | some b => rw [e2] at h; cases h; exact ⟨p.1, rfl, e2⟩
theorem CallR.en {f : Value} {r : List V → Hp → VK → Prop} (h : CallR X f r) : CallR X f (fun vs H Q => SzOk H → r vs H Q) := fun pins s σ H xs us Q I rv q => h pins s σ H xs us Q I rv (q (Inv.sz I))
theorem j_callA {e : Expr} {es : List Expr} {ml : ML} {ms : List Am} {pu : Bool} {r : List V → Hp → VK → Prop} {f : List D → Option D} (ha : JA X κ es ml ms κ1 pu) (hm : allRz ms = true) (at1 : AtCall X r f)
    (mk : ∀ {t : TA}, PA X es t → PE X e (tCB (fun vs H Q => SzOk H → r vs H Q) t)) {rz : Rz} : J X κ e (mB f ml) rz κ1 pu := by
  refine ⟨fun t ht => PE.imp (mk (ha.run t ht)) fun σ H Q z q => ?_, fun hp ρ d ρ' e => ?_⟩
  · obtain ⟨g, ρ, S, d, ρ', em, post⟩ := q z
    obtain ⟨ds, e1, e2⟩ := mB_some em
    exact fun _ => ⟨g, ρ, S, ds, ρ', e1, fun vs H' g' S' P' s' r' => fun hz => at1.ans H' ds d vs Q hz e2 (rows_repL hm r') (post _ H' g' S' P' s' (atom_rz (at1.atom _ _ e2)))⟩
  · obtain ⟨ds, e1, e2⟩ := mB_some e
    exact ha.pur hp _ _ _ e1
def fLen : List D → Option D
  | [.lst xs] => some (.int xs.length)
  | [.tup xs] => some (.int xs.length)
  | [.rol xs] => some (.int xs.length)
  | [.dic (.K _) xs] => some (.int xs.length)
  | [.str y] => if y.length ≤ 16777216 then some (.int y.length) else none
  | _ => none
def rLenD : List V → Hp → VK → Prop := fun xs H Q => ∃ (a : Addr) (kvs : List (Key × V)), xs = [V.ref a] ∧ Rd H a (.dK kvs) ∧ Q (.int kvs.length) H
theorem cr_lenD : CallR X (.builtin "len") rLenD := by
  intro pins s σ H xs us Q I rv q0
  obtain ⟨a, kvs, rfl, ha, q1⟩ := q0
  obtain ⟨u, rfl, hu1⟩ := vals1 rv
  cases hu1
  exact d_len I ha fun t s2 I2 => ⟨.int kvs.length, H, I2, ⟨t, rfl⟩, q1⟩
def rLenA (K : PySem.W.Frag) : List V → Hp → VK → Prop := fun xs H Q => (∃ x n, xs = [x] ∧ LenV K x H n ∧ Q (.int n) H) ∨ rLenD xs H Q
theorem cr_len : CallR X (.builtin "len") (rLenA X.K) := call_len.or cr_lenD
theorem at_len : AtCall X (rLenA X.K) fLen where
  ans := fun H ds z vs Q hz e r q => by
    unfold fLen at e
    split at e
    · cases e
      obtain ⟨v, w, rfl, ⟨a, us, rfl, ha, hl⟩, h2⟩ := r
      cases (show _ = _ from h2)
      exact .inl ⟨_, us.length, rfl, .inl ⟨us, SqL.of ha, rfl⟩, by rw [repL_len hl]; exact q⟩
    · cases e
      obtain ⟨v, w, rfl, ⟨a, us, rfl, ha, hl⟩, h2⟩ := r
      cases (show _ = _ from h2)
      exact .inl ⟨_, us.length, rfl, .inr ⟨us, SqT.of ha, rfl⟩, by rw [repL_len hl]; exact q⟩
    · cases e
      obtain ⟨v, w, rfl, ⟨a, rfl, ha⟩, h2⟩ := r
      cases (show _ = _ from h2)
      exact .inl ⟨_, _, rfl, .inl ⟨_, rol_sq ha, rfl⟩, by rw [List.length_map]; exact q⟩
    · cases e
      obtain ⟨v, w, rfl, ⟨a, us, rfl, ha, hq, hl⟩, h2⟩ := r
      cases (show _ = _ from h2)
      rename_i ks xs
      have hz : ks.length = xs.length := hq
      have h3 := repL_len hl
      refine .inr ⟨a, _, rfl, ha, ?_⟩
      rw [List.length_zip, h3, hz, Nat.min_self]
      exact q
    · split at e
      · cases e
        obtain ⟨v, w, rfl, h1, h2⟩ := r
        cases (show _ = _ from h2)
        cases (show _ = _ from h1)
        exact .inl ⟨_, _, rfl, ⟨by rw [sizeLine_eq]; assumption, rfl⟩, q⟩
      · cases e
    · cases e
  atom := fun ds z e => by
    unfold fLen at e
    split at e <;> first | (cases e; rfl) | (split at e <;> first | (cases e; rfl) | cases e) | cases e
def fI1 (f : Int → D) : List D → Option D
  | [.int i] => some (f i)
  | _ => none
theorem at_i1 {r : List V → Hp → VK → Prop} {f : Int → D} (ha : ∀ i, isA (f i) = true) (h : ∀ i H Q, Q (av (f i)) H → r [.int i] H Q) : AtCall X r (fI1 f) where
  ans := fun H ds z vs Q _ e rr q => by
    unfold fI1 at e
    split at e
    · cases e
      obtain ⟨v, w, rfl, h1, h2⟩ := rr
      cases (show _ = _ from h2)
      cases (show _ = _ from h1)
      exact h _ H Q q
    · cases e
  atom := fun ds z e => by
    unfold fI1 at e
    split at e
    · cases e; exact ha _
    · cases e
def fI2 (f : Int → Int → D) : List D → Option D
  | [.int i, .int j] => some (f i j)
  | _ => none
theorem at_i2 {r : List V → Hp → VK → Prop} {f : Int → Int → D} (ha : ∀ i j, isA (f i j) = true) (h : ∀ i j H Q, Q (av (f i j)) H → r [.int i, .int j] H Q) : AtCall X r (fI2 f) where
  ans := fun H ds z vs Q _ e rr q => by
    unfold fI2 at e
    split at e
    · cases e
      obtain ⟨v, w, rfl, h1, v2, w2, rfl, h2, h3⟩ := rr
      cases (show _ = _ from h3)
      cases (show _ = _ from h1)
      cases (show _ = _ from h2)
      exact h _ _ H Q q
    · cases e
  atom := fun ds z e => by
    unfold fI2 at e
    split at e
    · cases e; exact ha _ _
    · cases e
def fAbs := fI1 fun i => .int (if i < 0 then -i else i)
theorem at_abs : AtCall X (fun xs H Q => ∃ i, xs = [.int i] ∧ Q (.int (if i < 0 then -i else i)) H) fAbs := at_i1 (fun _ => rfl) fun i H Q q => ⟨i, rfl, q⟩
def fMax2 := fI2 fun i j => .int (if j > i then j else i)
theorem at_max2 : AtCall X (fun xs H Q => ∃ i j, xs = [.int i, .int j] ∧ Q (.int (if j > i then j else i)) H) fMax2 := at_i2 (fun _ _ => rfl) fun i j H Q q => ⟨i, j, rfl, q⟩
def fMin2 := fI2 fun i j => .int (if j < i then j else i)
theorem at_min2 : AtCall X (fun xs H Q => ∃ i j, xs = [.int i, .int j] ∧ Q (.int (if j < i then j else i)) H) fMin2 := at_i2 (fun _ _ => rfl) fun i j H Q q => ⟨i, j, rfl, q⟩
def fInt : List D → Option D
  | [.int i] => some (.int i)
  | [.bl b] => some (.int (if b then 1 else 0))
  | _ => none
def blsOf : List D → Option (List Bool)
  | [] => some []
  | .bl i :: r => (blsOf r).map (i :: ·)
  | _ => none
theorem bls_rep {H : Hp} : ∀ {ds : List D} {ns : List Bool} {vs : List V}, blsOf ds = some ns → RepL K H ds vs → vs = ns.map V.bl
  | [], _, _, e, h => by cases e; exact h
  | d :: ds, ns, vs, e, h => by
    obtain ⟨v, w, rfl, h1, h2⟩ := h
    cases d with
    | bl i =>
      simp only [blsOf] at e
      cases e2 : blsOf ds with
      | none => rw [e2] at e; cases e
      | some ms =>
        rw [e2] at e
        cases e
        cases (show _ = _ from h1)
        rw [bls_rep e2 h2]
        rfl
    | _ => simp [blsOf] at e
def fAll : List D → Option D
  | [.lst xs] => (blsOf xs).map fun ns => .bl (ns.all id)
  | _ => none
theorem at_all : AtCall X (rAll X.K) fAll where
  ans := fun H ds z vs Q _ e rr q => by
    unfold fAll at e
    split at e
    · rename_i xs
      cases e2 : blsOf xs with
      | none => rw [e2] at e; cases e
      | some ns =>
        rw [e2] at e
        cases e
        obtain ⟨v, w, rfl, ⟨a, us, rfl, ha, hl⟩, h2⟩ := rr
        cases (show _ = _ from h2)
        exact ⟨a, ns, rfl, by rw [← bls_rep e2 hl]; exact SqL.of ha, q⟩
    · cases e
  atom := fun ds z e => by
    unfold fAll at e
    split at e
    · rename_i xs
      cases e2 : blsOf xs with
      | none => rw [e2] at e; cases e
      | some ns => rw [e2] at e; cases e; rfl
    · cases e
def dIxS : D → D → Option D
  | .lst xs, .int i => atI xs i
  | .tup xs, .int i => atI xs i
  | .rol ns, .int i => (atI ns i).map .int
  | .str z, .int i => if z.length ≤ 16777216 then (atI z.cps.toList i).map fun c => .str ⟨#[c]⟩ else none
  | _, _ => none
def dGetD (q : DKs) (xs : List D) (d : D) : Option D := ((q.at d).bind fun o => o).bind fun j => xs[j]?
def dIx : D → D → Option D
  | .dic q xs, d => dGetD q xs d
  | x, i => dIxS x i
theorem dGetD_some {q : DKs} {xs : List D} {d z : D} (h : dGetD q xs d = some z) : ∃ j, q.at d = some (some j) ∧ xs[j]? = some z := by
  unfold dGetD at h
  cases e : q.at d with
  | none => rw [e] at h; cases h
  | some o =>
    rw [e] at h
    cases o with
    | none => cases h
    | some j => exact ⟨j, rfl, h⟩
theorem PE.or {e : Expr} {t t' : TE} (h : PE X e t) (h' : PE X e t') : PE X e (fun σ H Q => t σ H Q ∨ t' σ H Q) :=
  ⟨fun pins s σ H Q I q => q.elim (h.run pins s σ H Q I) (h'.run pins s σ H Q I)⟩
theorem dic_get {H : Hp} {q : DKs} {xs : List D} {d z : D} {v u : V} (h : dGetD q xs d = some z) (rx : Rep K H (.dic q xs) v) (ry : Rep K H d u) : ∃ a w, v = .ref a ∧ DGet H a u (some w) ∧ Rep K H z w := by
  obtain ⟨j, e1, e2⟩ := dGetD_some h
  obtain ⟨a, vs, rfl, ha, hq, hl⟩ := rx
  obtain ⟨w, e3, r3⟩ := repL_get hl e2
  have := dGet_of ha (hq.trans (repL_len hl).symm) e1 ry
  rw [Option.bind_some, e3] at this
  exact ⟨a, w, rfl, this, r3⟩
structure RepOp (X : Cx) (r : R2) (f : D → D → Option D) : Prop where
  ans : ∀ (H : Hp) (x y z : D) (v u : V) (Q : VK), f x y = some z → Rep X.K H x v → Rep X.K H y u → (∀ w, Rep X.K H z w → Q w H) → r v u H Q
theorem atI_rep {H : Hp} {ds : List D} {vs : List V} {i : Int} {d : D} (h : RepL K H ds vs) (e : atI ds i = some d) : ∃ v, atI vs i = some v ∧ Rep K H d v := by
  unfold atI at *
  rw [repL_len h]
  cases q : ixN ds.length i with
  | none => rw [q] at e; cases e
  | some j =>
    rw [q] at e
    exact repL_get h e
theorem rop_ix : RepOp X (rIx X.K) dIxS where
  ans := fun H x y z v u Q e rx ry q => by
    unfold dIxS at e
    split at e
    · obtain ⟨a, vs, rfl, ha, hl⟩ := rx
      cases (show _ = _ from ry)
      obtain ⟨w, e1, e2⟩ := atI_rep hl e
      exact .inl ⟨a, vs, _, w, rfl, rfl, SqL.of ha, e1, q w e2⟩
    · obtain ⟨a, vs, rfl, ha, hl⟩ := rx
      cases (show _ = _ from ry)
      obtain ⟨w, e1, e2⟩ := atI_rep hl e
      exact .inr (.inl ⟨a, vs, _, w, rfl, rfl, SqT.of ha, e1, q w e2⟩)
    · rename_i ns i
      obtain ⟨a, rfl, ha⟩ := rx
      cases (show _ = _ from ry)
      cases e2 : atI ns i with
      | none => rw [e2] at e; cases e
      | some n =>
        rw [e2] at e
        cases e
        refine .inl ⟨a, _, _, .int n, rfl, rfl, rol_sq ha, ?_, q _ rfl⟩
        unfold atI at *
        rw [List.length_map]
        cases q : ixN ns.length i with
        | none => rw [q] at e2; cases e2
        | some j =>
          rw [q] at e2
          simp only [Option.bind_some] at e2 ⊢
          rw [List.getElem?_map, e2]
          rfl
    · split at e
      · rename_i z' i hz
        cases (show _ = _ from rx)
        cases (show _ = _ from ry)
        cases e2 : atI z'.cps.toList i with
        | none => rw [e2] at e; cases e
        | some n =>
          rw [e2] at e
          cases e
          exact .inr (.inr ⟨_, _, n, rfl, rfl, by rw [sizeLine_eq]; assumption, e2, q _ rfl⟩)
      · cases e
    · cases e
def isDic : D → Bool
  | .dic _ _ => true
  | _ => false
theorem dIx_not {x y : D} (h : isDic x = false) : dIx x y = dIxS x y := by
  cases x <;> first | rfl | cases h
theorem j_ix (hu : X.A.units + 100 < cLine) {a b : Expr} {ma mb : M} {ra rb : Rz} {pa pb : Bool} (ha : J X κ a ma ra κ1 pa) (hb : J X κ1 b mb rb κ2 pb) (ok : okk ra pb = true) (hs : PlainIx b) : J X κ (.Subscript a b pos) (m2 dIx ma mb) .rep κ2 (pa && pb) := by
  refine ⟨fun t ht => PE.imp (PE.or (pe_ix ix_seq (ha.run t ht) (hb.run (t + 1) (by omega)) hs) (pe_dget (by omega) (ha.run t ht) (hb.run (t + 1) (by omega)) hs)) fun σ H Q z q => ?_, fun hp ρ d ρ' h => ?_⟩
  · obtain ⟨g, ρ, S, d, ρ', em, post⟩ := q z
    obtain ⟨x, ρ1, y, ea, eb, ec⟩ := m2_some em
    by_cases hx : isDic x = true
    · refine .inr (two (K := X.K) (κ2 := κ2) ht ok S ea eb z fun v u H' g' S' P' s' r1 r2 => ?_)
      cases x with
      | dic q xs =>
        obtain ⟨a', w, rfl, h1, h2⟩ := dic_get ec r1.rep r2.rep
        exact ⟨a', w, rfl, h1, post w H' g' S' P' s' h2⟩
      | _ => cases hx
    · refine .inl (two (K := X.K) (κ2 := κ2) ht ok S ea eb z fun v u H' g' S' P' s' r1 r2 => ?_)
      rw [dIx_not (by simpa using hx)] at ec
      exact rop_ix.ans H' x y d v u Q ec r1.rep r2.rep fun w hw => post w H' g' S' P' s' hw
  · rw [Bool.and_eq_true] at hp
    obtain ⟨x, ρ1, y, ea, eb, ec⟩ := m2_some h
    rw [hb.pur hp.2 _ _ _ eb, ha.pur hp.1 _ _ _ ea]
def RepLen (q : DKs) (vs : List V) : Prop := q.len = vs.length
theorem zip_inj {α β : Type} : ∀ {ks : List α} {us vs : List β}, ks.length = us.length → ks.length = vs.length → ks.zip us = ks.zip vs → us = vs
  | [], [], [], _, _, _ => rfl
  | k :: ks, u :: us, v :: vs, h1, h2, h => by
    simp only [List.zip_cons_cons, List.cons.injEq, Prod.mk.injEq] at h
    rw [h.1.2, zip_inj (by simpa using h1) (by simpa using h2) h.2]
theorem dO_inj {q : DKs} {us vs : List V} (h1 : q.len = us.length) (h2 : q.len = vs.length) (h : dO q us = dO q vs) : us = vs := by
  cases q with
  | K ks => injection h with h; exact zip_inj h1 h2 h
  | T ks => injection h with h; exact zip_inj h1 h2 h
theorem rd_inj {H : Hp} {a : Addr} {q : DKs} {us vs : List V} (h1 : q.len = us.length) (h2 : q.len = vs.length) (r1 : Rd H a (dO q us)) (r2 : Rd H a (dO q vs)) : us = vs := by
  rcases r1 with r1 | ⟨o, r1⟩ <;> rcases r2 with r2 | ⟨o', r2⟩ <;> rw [r1] at r2
  · injection r2 with r2; exact dO_inj h1 h2 r2
  · injection r2 with r2; cases q <;> cases r2
  · injection r2 with r2; cases q <;> cases r2
  · injection r2 with r2; injection r2 with r3 r4; exact dO_inj h1 h2 r4
inductive Nav (H : Hp) (σ : L2.St) (ρ : DE) (i : Nat) : Nat → V → D → Prop where
  | here {v : V} {d : D} : σ[i]? = some (some v) → ρ[i]? = some (some d) → Nav H σ ρ i 0 v d
  | lst {n j : Nat} {a : Addr} {vs : List V} {ds : List D} {v : V} {d : D} : Nav H σ ρ i n (.ref a) (.lst ds) → H a = some (.lst vs) → vs[j]? = some v → ds[j]? = some d → Nav H σ ρ i (n + 1) v d
  | tup {n j : Nat} {a : Addr} {vs : List V} {ds : List D} {v : V} {d : D} : Nav H σ ρ i n (.ref a) (.tup ds) → H a = some (.tup vs) → vs[j]? = some v → ds[j]? = some d → Nav H σ ρ i (n + 1) v d
  | dic {n j : Nat} {a : Addr} {q : DKs} {vs : List V} {ds : List D} {v : V} {d : D} : Nav H σ ρ i n (.ref a) (.dic q ds) → Rd H a (dO q vs) → RepLen q vs → vs[j]? = some v → ds[j]? = some d → Nav H σ ρ i (n + 1) v d
theorem Nav.mono {H H' : Hp} {σ : L2.St} {ρ : DE} {i n : Nat} {v : V} {d : D} (h : Nav H σ ρ i n v d) (s : Same H H') : Nav H' σ ρ i n v d := by
  induction h with
  | here h1 h2 => exact .here h1 h2
  | lst h1 h2 h3 h4 ih => exact .lst ih (s _ _ h2) h3 h4
  | tup h1 h2 h3 h4 ih => exact .tup ih (s _ _ h2) h3 h4
  | dic h1 h2 h5 h3 h4 ih => exact .dic ih (h2.imp (s _ _) fun ⟨o, z⟩ => ⟨o, s _ _ z⟩) h5 h3 h4
def subk (k n : Nat) : Nat := if 99 ≤ k then k else k - n
theorem lv_sub (k n : Nat) : lv (subk k n) = subk k (n + 1) := by
  unfold lv subk
  by_cases h : 99 ≤ k
  · simp [h]
  · have : ¬ 99 ≤ k - n := by omega
    simp only [h, if_false, this]
    omega
theorem Nav.own {H : Hp} {g : G} {κ : OE} {σ : L2.St} {ρ : DE} {i n k : Nat} {v : V} {d : D} (h : Nav H σ ρ i n v d) (S : Sok K κ ρ g σ H) (hk : κ[i]? = some (some k)) : ∃ p, p.length = n ∧ Own K H g d (subk k n) i p v := by
  induction h with
  | here h1 h2 =>
    obtain ⟨v', e1, o⟩ := S.ok i k _ hk h2
    rw [h1] at e1
    cases e1
    refine ⟨[], rfl, ?_⟩
    have : subk k 0 = k := by unfold subk; split <;> rfl
    rw [this]
    exact o
  | lst h1 h2 h3 h4 ih =>
    obtain ⟨p, e, a, vs, e1, e2, e3, o⟩ := ih
    cases e1
    rw [h2] at e2
    cases e2
    obtain ⟨v', e4, o'⟩ := ownL_get o h4
    rw [h3] at e4
    cases e4
    exact ⟨_, (congrArg (· + 1) e : _), by rw [← lv_sub]; exact o'⟩
  | tup h1 h2 h3 h4 ih =>
    obtain ⟨p, e, a, vs, e1, e2, o⟩ := ih
    cases e1
    rw [h2] at e2
    cases e2
    obtain ⟨v', e4, o'⟩ := ownL_get o h4
    rw [h3] at e4
    cases e4
    exact ⟨_, (congrArg (· + 1) e : _), by rw [← lv_sub]; exact o'⟩
  | dic h1 h2 h5 h3 h4 ih =>
    obtain ⟨p, e, a2, vs, e1, e2, e6, e3, o⟩ := ih
    cases e1
    have e7 : Rd H _ (dO _ vs) := e2.elim .inl fun z => .inr z.2
    cases rd_inj (e6.trans (repL_len (ownL_repL _ o)).symm) h5 e7 h2
    obtain ⟨v', e4, o'⟩ := ownL_get o h4
    rw [h3] at e4
    cases e4
    exact ⟨_, (congrArg (· + 1) e : _), by rw [← lv_sub]; exact o'⟩
structure JP (X : Cx) (κ : OE) (e : Expr) (m : M) (κ' : OE) (i n : Nat) : Prop where
  run : ∀ t, X.N.length ≤ t → PE X e (fun σ H Q => En X.N.length σ H → ∃ g ρ, Sok X.K κ ρ g σ H ∧ ∃ d ρ', m ρ = some (d, ρ') ∧
    ∀ v H' g', Sok X.K κ' ρ' g' σ H' → Pres X.N.length t g H g' H' → Same H H' → Nav H' σ ρ' i n v d → Q v H')
  pur : ∀ ρ d ρ', m ρ = some (d, ρ') → ρ' = ρ
theorem atI_at {α β : Type} {xs : List α} {ys : List β} {i : Int} {x : α} {y : β} (hl : xs.length = ys.length) (h1 : atI xs i = some x) (h2 : atI ys i = some y) : ∃ j : Nat, xs[j]? = some x ∧ ys[j]? = some y := by
  unfold atI at *
  rw [hl] at h1
  cases q : ixN ys.length i with
  | none => rw [q] at h1; cases h1
  | some j => rw [q] at h1 h2; exact ⟨j, h1, h2⟩
def dIxP : D → D → Option D
  | .lst xs, .int i => atI xs i
  | .tup xs, .int i => atI xs i
  | .dic q xs, d => dGetD q xs d
  | _, _ => none
def tyn : D → String
  | .non => "NoneType"
  | .bl _ => "bool"
  | .int _ => "int"
  | .str _ => "str"
  | .tup _ => "tuple"
  | .lst _ => "list"
  | .rol _ => "list"
  | .dic _ _ => "list"
  | .nd _ _ => "list"
  | .obj _ => "list"
  | .gon => "list"
  | .ins _ _ => "list"
def isTn (c t : String) : Bool := t == c || (c == "int" && t == "bool")
def isT (c : String) (d : D) : Option Bool := match d with
  | .rol _ => none
  | .dic _ _ => none
  | .nd _ _ => none
  | .obj _ => none
  | .gon => none
  | .ins _ _ => none
  | d => some (isTn c (tyn d))
def okTy (c : String) : Bool := c == "int" || (c == "bool" || (c == "str" || (c == "tuple" || c == "list")))
theorem okTy_cases {c : String} (h : okTy c = true) : c = "int" ∨ c = "bool" ∨ c = "str" ∨ c = "tuple" ∨ c = "list" := by
  unfold okTy at h
  simp only [Bool.or_eq_true, beq_iff_eq] at h
  exact h
theorem kitB_tab : ∀ t ∈ ["NoneType", "bool", "int", "str", "tuple", "list"], ∀ c ∈ ["int", "bool", "str", "tuple", "list"], kitB t c = some (isTn c t) := by decide +kernel
theorem isT_kit {c : String} {d : D} {b : Bool} (hc : okTy c = true) (h : isT c d = some b) : kitB (tyn d) c = some b := by
  have hb : b = isTn c (tyn d) := by cases d <;> first | (cases h; rfl) | cases h
  rw [hb]
  refine kitB_tab _ ?_ _ ?_
  · cases d <;> simp [tyn]
  · rcases okTy_cases hc with rfl | rfl | rfl | rfl | rfl <;> simp
theorem tyOf {H : Hp} {d : D} {v : V} {c : String} {b : Bool} (h : isT c d = some b) (r : Rep K H d v) : TyOf K H v (.type (tyn d)) := by
  cases d with
  | non => cases (show _ = _ from r); exact .non
  | bl x => cases (show _ = _ from r); exact .bl x
  | int i => cases (show _ = _ from r); exact .int i
  | str x => cases (show _ = _ from r); exact .str x
  | tup xs => obtain ⟨a, vs, rfl, ha, _⟩ := r; exact .tup ha
  | lst xs => obtain ⟨a, vs, rfl, ha, _⟩ := r; exact .lst ha
  | rol ns => cases h
  | dic _ _ => cases h
  | nd _ _ => cases h
  | obj _ => cases h
  | gon => cases h
  | ins _ _ => cases h
def mIsT (c : String) (m : M) : M := fun ρ => (m ρ).bind fun x => (isT c x.1).map fun b => (.bl b, x.2)
theorem mIsT_some {c : String} {m : M} {ρ ρ' : DE} {d : D} (h : mIsT c m ρ = some (d, ρ')) : ∃ x b, m ρ = some (x, ρ') ∧ isT c x = some b ∧ d = .bl b := by
  unfold mIsT at h
  cases e : m ρ with
  | none => rw [e] at h; cases h
  | some p =>
    rw [e] at h
    simp only [Option.bind_some] at h
    cases e2 : isT c p.1 with
    | none => rw [e2] at h; cases h
    | some b => rw [e2] at h; cases h; exact ⟨p.1, b, rfl, e2, rfl⟩
theorem j_isi {e : Expr} {m : M} {rz rz' : Rz} {pu : Bool} {c : Str} {T : String} {p p2 : Pos} (h : J X κ e m rz κ1 pu) (hc : okTy T = true) (hg : Gl X "isinstance") (hm : X.mg "isinstance" = none) (hg2 : Gl X c) (hm2 : X.mg c = none)
    (hv : bootBuiltins c = some (.type T)) (hn : c ≠ "__name__") (hd : (c == ("__debug__" : Str)) = false)
    (he : starEach [e, .Name c p2] X.env = (false, eval e X.env) :: starEach [.Name c p2] X.env) :
    J X κ (.Call (.Name "isinstance" p) [e, .Name c p2] [] pos) (mIsT T m) rz' κ1 pu := by
  refine ⟨fun t ht => PE.imp (pe_callB call_isi hg hm (by decide +kernel) (pa_cons (h.run t ht) (pa_cons (pe_bltn (v := .ty T) hg2 hm2 hv rfl hn hd) pa_nil) he) (he := he)) fun σ H Q z q => ?_, fun hp ρ d ρ' e => ?_⟩
  · obtain ⟨g, ρ, S, d, ρ', em, post⟩ := q z
    obtain ⟨x, b, e1, e2, rfl⟩ := mIsT_some em
    refine fun _ => ⟨g, ρ, S, x, ρ', e1, fun v H' g' S' P' s' r' => ?_⟩
    exact ⟨v, .ty T, .type (tyn x), .type T, b, rfl, .ty T, .base (tyOf e2 r'.rep), isT_kit hc e2, post _ H' g' S' P' s' (atom_rz (d := .bl b) rfl)⟩
  · obtain ⟨x, b, e1, e2, e3⟩ := mIsT_some e
    exact h.pur hp _ _ _ e1
end VS
namespace VS
open PySem PySem.Spec PyProof.Rows L2
variable {K : PySem.W.Frag} {X : Cx} {κ κ1 κ2 κ3 : OE} {pos : Pos}
inductive Out where
  | nx (ρ : DE) | rt (d : D) (ρ : DE)
abbrev SM := DE → Option Out
structure RC where
  r : Nat
  κr : OE
def Fx (rc : RC) (s0 σ : List (Option V)) : Prop := ∀ (i k : Nat), rc.κr[i]? = some (some k) → σ[i]? = s0[i]?
def jEnd (K : PySem.W.Frag) (n t : Nat) (κn : OE) (rc : RC) (s0 : L2.St) (g : G) (H : Hp) (Dd : Ends) : Out → Prop
  | .nx ρ' => ∀ σ' H' g', Sok K κn ρ' g' σ' H' → Pres n t g H g' H' → Fx rc s0 σ' → Dd.nx σ' H'
  | .rt d ρ' => ∀ v σ' H' g' rr, n ≤ rr → Sok K rc.κr ρ' g' σ' H' → Pres n t g H g' H' → Fx rc s0 σ' → Own K H' g' d rc.r rr [] v → Dd.rt v H'
def jTS (K : PySem.W.Frag) (n : Nat) (κ : OE) (m : SM) (κn : OE) (rc : RC) (s0 : L2.St) (t : Nat) : TS := fun Dd σ H => En n σ H →
  ∃ g ρ, Sok K κ ρ g σ H ∧ Fx rc s0 σ ∧ ∃ o, m ρ = some o ∧ jEnd K n t κn rc s0 g H Dd o
structure JS (X : Cx) (κ : OE) (st : Stmt) (m : SM) (κn : OE) (rc : RC) : Prop where
  run : ∀ s0 t, X.N.length ≤ t → PS X st (jTS X.K X.N.length κ m κn rc s0 t)
structure JB (X : Cx) (κ : OE) (sts : List Stmt) (m : SM) (κn : OE) (rc : RC) : Prop where
  run : ∀ s0 t, X.N.length ≤ t → PSs X sts (jTS X.K X.N.length κ m κn rc s0 t)
theorem PS.imp {st : Stmt} {t t' : TS} (h : PS X st t) (f : ∀ σ H D, En X.N.length σ H → t' D σ H → t D σ H) : PS X st t' :=
  ⟨fun pins s σ H D I q => h.run pins s σ H D I (f σ H D ⟨Inv.sz I, I.len⟩ q)⟩
theorem PSs.imp {st : List Stmt} {t t' : TS} (h : PSs X st t) (f : ∀ σ H D, En X.N.length σ H → t' D σ H → t D σ H) : PSs X st t' :=
  ⟨fun pins s σ H D I q => h.run pins s σ H D I (f σ H D ⟨Inv.sz I, I.len⟩ q)⟩
variable {rc : RC}
theorem jEnd.pre {n t : Nat} {κn : OE} {s0 : L2.St} {g g1 : G} {H H1 : Hp} {Dd : Ends} {o : Out} (P : Pres n t g H g1 H1) (h : jEnd K n t κn rc s0 g H Dd o) : jEnd K n t κn rc s0 g1 H1 Dd o := by
  cases o with
  | nx ρ' => exact fun σ' H' g' S' P' F' => h σ' H' g' S' (P.trans P') F'
  | rt d ρ' => exact fun v σ' H' g' rr hr S' P' F' => h v σ' H' g' rr hr S' (P.trans P') F'
theorem JS.weak {st : Stmt} {m : SM} {κn κn' : OE} (h : JS X κ1 st m κn rc) (h1 : leO κ1 κ = true) (h2 : leO κn' κn = true) (hn : κ1.length = X.N.length) (hn' : κn'.length = X.N.length) : JS X κ st m κn' rc := by
  refine ⟨fun s0 t ht => PS.imp (h.run s0 t ht) fun σ H D z q en => ?_⟩
  obtain ⟨g, ρ, S, fx, o, em, post⟩ := q en
  refine ⟨wk κ1 g, ρ, S.weaken h1, fx, o, em, ?_⟩
  have := post.pre (Pres.weaken (H := H) (t := t) hn)
  cases o with
  | nx ρ' => exact fun σ' H' g' S' P' F' => this σ' H' _ (S'.weaken h2) (P'.trans (Pres.weaken hn')) F'
  | rt d ρ' => exact this
theorem JB.weak {st : List Stmt} {m : SM} {κn κn' : OE} (h : JB X κ1 st m κn rc) (h1 : leO κ1 κ = true) (h2 : leO κn' κn = true) (hn : κ1.length = X.N.length) (hn' : κn'.length = X.N.length) : JB X κ st m κn' rc := by
  refine ⟨fun s0 t ht => PSs.imp (h.run s0 t ht) fun σ H D z q en => ?_⟩
  obtain ⟨g, ρ, S, fx, o, em, post⟩ := q en
  refine ⟨wk κ1 g, ρ, S.weaken h1, fx, o, em, ?_⟩
  have := post.pre (Pres.weaken (H := H) (t := t) hn)
  cases o with
  | nx ρ' => exact fun σ' H' g' S' P' F' => this σ' H' _ (S'.weaken h2) (P'.trans (Pres.weaken hn')) F'
  | rt d ρ' => exact this
def sNil : SM := fun ρ => some (.nx ρ)
def sSeq (a b : SM) : SM := fun ρ => match a ρ with
  | some (.nx ρ1) => b ρ1
  | x => x
theorem sSeq_some {a b : SM} {ρ : DE} {o : Out} (h : sSeq a b ρ = some o) : (∃ ρ1, a ρ = some (.nx ρ1) ∧ b ρ1 = some o) ∨ (∃ d ρ1, a ρ = some (.rt d ρ1) ∧ o = .rt d ρ1) := by
  unfold sSeq at h
  split at h
  · exact .inl ⟨_, by assumption, h⟩
  · cases o with
    | nx ρ' => rename_i hh; exact (hh _ h).elim
    | rt d ρ' => exact .inr ⟨d, ρ', h, rfl⟩
theorem jb_nil : JB X κ [] sNil κ rc := by
  refine ⟨fun s0 t ht => PSs.imp pss_nil fun σ H D z q => ?_⟩
  obtain ⟨g, ρ, S, fx, o, em, post⟩ := q z
  cases em
  exact post σ H g S Pres.refl fx
theorem jb_one {st : Stmt} {m : SM} (h : JS X κ st m κ1 rc) : JB X κ [st] m κ1 rc := ⟨fun s0 t ht => pss_one (h.run s0 t ht)⟩
theorem jb_cons {st : Stmt} {rest : List Stmt} {a b : SM} (ha : JS X κ st a κ1 rc) (hb : JB X κ1 rest b κ2 rc) : JB X κ (st :: rest) (sSeq a b) κ2 rc := by
  refine ⟨fun s0 t ht => PSs.imp (pss_cons (ha.run s0 t ht) (hb.run s0 t ht)) fun σ H D z q en => ?_⟩
  obtain ⟨g, ρ, S, fx, o, em, post⟩ := q z
  rcases sSeq_some em with ⟨ρ1, e1, e2⟩ | ⟨d, ρ1, e1, rfl⟩
  · exact ⟨g, ρ, S, fx, _, e1, fun σ' H' g' S' P' F' en' => ⟨g', ρ1, S', F', o, e2, post.pre P'⟩⟩
  · exact ⟨g, ρ, S, fx, _, e1, post⟩
def mvG (t i : Nat) (s : List Nat) (dr : Nat → List Nat → Bool) (g : G) : G := fun a => match g a with
  | .ow r q => if r = t then .ow i (q ++ s) else if dr r q = true then .un else .ow r q
  | z => z
section
variable {t i : Nat} {s : List Nat} {dr : Nat → List Nat → Bool} {g : G} {a : Addr}
theorem mvG_fz (h : g a = .fz) : mvG t i s dr g a = .fz := by unfold mvG; rw [h]
theorem mvG_un (h : g a = .un) : mvG t i s dr g a = .un := by unfold mvG; rw [h]
theorem mvG_t {q : List Nat} (h : g a = .ow t q) : mvG t i s dr g a = .ow i (q ++ s) := by unfold mvG; rw [h]; simp
theorem mvG_o {r : Nat} {q : List Nat} (hr : r ≠ t) (hd : dr r q = false) (h : g a = .ow r q) : mvG t i s dr g a = .ow r q := by unfold mvG; rw [h]; simp [hr, hd]
theorem mvG_ne (h : mvG t i s dr g a ≠ .un) : g a ≠ .un := fun z => h (mvG_un z)
theorem mvG_inv {r : Nat} {q : List Nat} (hr : r ≠ i) (h : mvG t i s dr g a = .ow r q) : g a = .ow r q := by
  unfold mvG at h
  split at h
  · rename_i r' q' e
    split at h
    · cases h; exact (hr rfl).elim
    · split at h
      · cases h
      · cases h; exact e
  · exact h
end
theorem Pres.mv {n t i : Nat} {s : List Nat} {dr : Nat → List Nat → Bool} {g : G} {H H' : Hp} (hi : i < n) (hd : ∀ r q, n ≤ r → dr r q = false) (ht : ∀ r, r ≠ t → n ≤ r → True)
    (keep : ∀ a, (∀ q, g a ≠ .ow i q) → H a ≠ none → H' a = H a) (gok : ∀ a, g a ≠ .un → H a ≠ none) (st : ∀ a o, H a = some o → stb o = true → H' a = some o) : Pres n t g H (mvG t i s dr g) H' where
  fz := fun a h => ⟨mvG_fz h, keep a (fun q e => by rw [h] at e; cases e) (gok a (by rw [h]; simp))⟩
  un := fun a h hn => ⟨mvG_un h, keep a (fun q e => by rw [h] at e; cases e) hn⟩
  tp := fun a r p h1 h2 h => ⟨mvG_o (by omega) (hd r p h1) h, keep a (fun q e => by rw [h] at e; cases e; omega) (gok a (by rw [h]; simp))⟩
  tm := fun a r p h1 h2 h => mvG_inv (by omega) h
  tu := st
theorem set_some {α : Type} {l : List α} {i : Nat} {x : α} {j : Nat} {y : α} (h : (l.set i x)[j]? = some y) : (j = i ∧ y = x ∧ i < l.length) ∨ (j ≠ i ∧ l[j]? = some y) := by
  rw [List.getElem?_set] at h
  by_cases e : i = j
  · subst e
    split at h
    · split at h
      · cases h; exact .inl ⟨rfl, rfl, by assumption⟩
      · cases h
    · rename_i hh; exact (hh rfl).elim
  · rw [if_neg e] at h
    exact .inr ⟨fun z => e z.symm, h⟩
theorem Sok.store {ρ : DE} {g : G} {σ : L2.St} {H : Hp} {t i k : Nat} {d : D} {v : V} (S : Sok K κ ρ g σ H) (ht : σ.length ≤ t) (hi : i < σ.length) (o : Own K H g d k t [] v) :
    Sok K (κ.set i (some k)) (ρ.set i (some d)) (mvG t i [] (fun r _ => decide (r = i)) g) (σ.set i (some v)) H where
  ok := fun j k' d' h1 h2 => by
    rcases set_some h1 with ⟨rfl, e, _⟩ | ⟨hj, h1⟩
    · cases e
      rcases set_some h2 with ⟨_, e, _⟩ | ⟨hh, _⟩
      · cases e
        refine ⟨v, List.getElem?_set_self hi, own_conv (fun _ _ z _ => z) d (.inr fun a z => ⟨mvG_fz z, rfl⟩) (fun a q z hh => ⟨rfl, ?_⟩) (fun _ z => z) o⟩
        rw [if_pos hh, mvG_t z]
        simp
      · exact (hh rfl).elim
    · rcases set_some h2 with ⟨e, _, _⟩ | ⟨_, h2⟩
      · exact (hj e).elim
      · obtain ⟨v', es, o'⟩ := S.ok j k' d' h1 h2
        have hjt : j < t := by
          have := (List.getElem?_eq_some_iff.mp es).1
          omega
        refine ⟨v', by rw [List.getElem?_set_ne (Ne.symm hj)]; exact es, own_conv (fun _ _ z _ => z) d' (.inr fun a z => ⟨mvG_fz z, rfl⟩) (fun a q z hh => ⟨rfl, ?_⟩) (fun _ z => z) o'⟩
        rw [if_pos hh]
        exact mvG_o (by omega) (by simpa using hj) z
  gok := fun a h => S.gok a (mvG_ne h)
  len := by simp [S.len]
  lek := by simp [S.lek]
theorem Pres.store {n t i : Nat} {g : G} {H : Hp} (hi : i < n) (gok : ∀ a, g a ≠ .un → H a ≠ none) : Pres n t g H (mvG t i [] (fun r _ => decide (r = i)) g) H :=
  Pres.mv hi (fun r q h => by simp; omega) (fun _ _ _ => trivial) (fun _ _ _ => rfl) gok fun _ _ h _ => h
def sAsg (i : Nat) (m : M) : SM := fun ρ => (m ρ).map fun x => .nx (x.2.set i (some x.1))
theorem sAsg_some {i : Nat} {m : M} {ρ : DE} {o : Out} (h : sAsg i m ρ = some o) : ∃ d ρ1, m ρ = some (d, ρ1) ∧ o = .nx (ρ1.set i (some d)) := by
  unfold sAsg at h
  cases e : m ρ with
  | none => rw [e] at h; cases h
  | some p => rw [e] at h; cases h; exact ⟨p.1, p.2, rfl, rfl⟩
def notFx (rc : RC) (i : Nat) : Bool := match rc.κr[i]? with
  | some (some _) => false
  | _ => true
theorem Fx.set {s0 σ : L2.St} {i : Nat} {x : Option V} (h : Fx rc s0 σ) (hi : notFx rc i = true) : Fx rc s0 (σ.set i x) := fun j k e => by
  have hj : i ≠ j := by
    rintro rfl
    unfold notFx at hi
    rw [e] at hi
    cases hi
  rw [List.getElem?_set_ne hj]
  exact h j k e
theorem js_asgG {st : Stmt} {e : Expr} {m : M} {k i : Nat} {pu : Bool} (h : J X κ e m (.own k) κ1 pu) (mk : ∀ {te : TE}, PE X e te → PS X st (tAsg te (gName i))) (hi : i < X.N.length) (hf : notFx rc i = true) : JS X κ st (sAsg i m) (κ1.set i (some k)) rc := by
  refine ⟨fun s0 t ht => PS.imp (mk (h.run t ht)) fun σ H D z q en => ?_⟩
  obtain ⟨g, ρ, S, fx, o, em, post⟩ := q z
  obtain ⟨d, ρ1, e1, rfl⟩ := sAsg_some em
  refine ⟨g, ρ, S, d, ρ1, e1, fun v H' g' S' P' s' r' => ?_⟩
  have hl : σ.length = X.N.length := en.2
  exact post _ H' _ (S'.store (by omega) (by omega) r') (P'.trans (Pres.store hi S'.gok)) (fx.set hf)
theorem js_set {i : Nat} {x : Str} {e : Expr} {pos' : Pos} {m : M} {k : Nat} {pu : Bool} (h : J X κ e m (.own k) κ1 pu) (hN : X.N.Nodup) (hi : X.N[i]? = some x) (hx : Loc X.env.scope x) (hs : swapsWith e (some (.Name x pos')) pos.line X.env = pure false)
    (hf : X.fn x = true ∨ X.env.scope.names.lookup x = some .local) (hfx : notFx rc i = true) : JS X κ (.Assign [.Name x pos'] e pos) (sAsg i m) (κ1.set i (some k)) rc :=
  js_asgG h (fun he => ps_set hN hi hx he hs hf) (List.getElem?_eq_some_iff.mp hi).1 hfx
def sExp (m : M) : SM := fun ρ => (m ρ).map fun x => .nx x.2
theorem sExp_some {m : M} {ρ : DE} {o : Out} (h : sExp m ρ = some o) : ∃ d ρ1, m ρ = some (d, ρ1) ∧ o = .nx ρ1 := by
  unfold sExp at h
  cases e : m ρ with
  | none => rw [e] at h; cases h
  | some p => rw [e] at h; cases h; exact ⟨p.1, p.2, rfl, rfl⟩
theorem js_exp {e : Expr} {m : M} {rz : Rz} {pu : Bool} (h : J X κ e m rz κ1 pu) (hs : swapsWith e none pos.line X.env = pure false) : JS X κ (.Expr e pos) (sExp m) κ1 rc := by
  refine ⟨fun s0 t ht => PS.imp (ps_expr (h.run t ht) hs) fun σ H D z q en => ?_⟩
  obtain ⟨g, ρ, S, fx, o, em, post⟩ := q z
  obtain ⟨d, ρ1, e1, rfl⟩ := sExp_some em
  exact ⟨g, ρ, S, d, ρ1, e1, fun v H' g' S' P' s' r' => post _ H' _ S' P' fx⟩
def sRet (m : M) : SM := fun ρ => (m ρ).map fun x => .rt x.1 x.2
theorem sRet_some {m : M} {ρ : DE} {o : Out} (h : sRet m ρ = some o) : ∃ d ρ1, m ρ = some (d, ρ1) ∧ o = .rt d ρ1 := by
  unfold sRet at h
  cases e : m ρ with
  | none => rw [e] at h; cases h
  | some p => rw [e] at h; cases h; exact ⟨p.1, p.2, rfl, rfl⟩
theorem js_ret {e : Expr} {m : M} {pu : Bool} {κn : OE} (h : J X κ e m (.own rc.r) κ1 pu) (hl : leO rc.κr κ1 = true) (hn : rc.κr.length = X.N.length) : JS X κ (.Return (some e) pos) (sRet m) κn rc := by
  refine ⟨fun s0 t ht => PS.imp (ps_ret ((h.weak hl hn).run t ht)) fun σ H D z q en => ?_⟩
  obtain ⟨g, ρ, S, fx, o, em, post⟩ := q z
  obtain ⟨d, ρ1, e1, rfl⟩ := sRet_some em
  exact ⟨g, ρ, S, d, ρ1, e1, fun v H' g' S' P' s' r' => post v σ H' g' t ht S' P' fx r'⟩
def sRetN : SM := fun ρ => some (.rt .non ρ)
def sIf (c : M) (a b : SM) : SM := fun ρ => match c ρ with
  | some (.bl true, ρ1) => a ρ1
  | some (.bl false, ρ1) => b ρ1
  | _ => none
theorem sIf_some {c : M} {a b : SM} {ρ : DE} {o : Out} (h : sIf c a b ρ = some o) : ∃ k ρ1, c ρ = some (.bl k, ρ1) ∧ ((k = true ∧ a ρ1 = some o) ∨ (k = false ∧ b ρ1 = some o)) := by
  unfold sIf at h
  split at h
  · exact ⟨true, _, by assumption, .inl ⟨rfl, h⟩⟩
  · exact ⟨false, _, by assumption, .inr ⟨rfl, h⟩⟩
  · cases h
theorem js_if {c : Expr} {a b : List Stmt} {mc : M} {ma mb : SM} {pc : Bool} (hc : JT X κ c mc κ1 pc) (ha : JB X κ1 a ma κ2 rc) (hb : JB X κ1 b mb κ2 rc) : JS X κ (.If c a b pos) (sIf mc ma mb) κ2 rc := by
  refine ⟨fun s0 t ht => PS.imp (ps_if (hc.run t ht) (ha.run s0 t ht) (hb.run s0 t ht)) fun σ H D z q => ?_⟩
  obtain ⟨g, ρ, S, fx, o, em, post⟩ := q z
  obtain ⟨k, ρ1, e1, e2⟩ := sIf_some em
  refine fun _ => ⟨g, ρ, S, k, ρ1, e1, fun H1 g1 S1 P1 s1 => ?_⟩
  rcases e2 with ⟨rfl, e2⟩ | ⟨rfl, e2⟩
  · exact iteT fun _ => ⟨g1, ρ1, S1, fx, o, e2, post.pre P1⟩
  · exact iteF fun _ => ⟨g1, ρ1, S1, fx, o, e2, post.pre P1⟩
def itW (mc : M) (mb : SM) : Nat → SM
  | 0, _ => none
  | n + 1, ρ => match mc ρ with
    | some (.bl true, ρ1) => (match mb ρ1 with
      | some (.nx ρ2) => itW mc mb n ρ2
      | x => x)
    | some (.bl false, ρ1) => some (.nx ρ1)
    | _ => none
def sWhile (mc : M) (mb : SM) : SM := itW mc mb 100000
end VS
namespace VS
open PySem PySem.Spec PyProof.Rows L2
variable {K : PySem.W.Frag} {X : Cx} {κ κ1 κ2 κ3 : OE} {pos : Pos} {rc : RC}
abbrev Src := G → Hp → Prop
structure Dlv (K : PySem.W.Frag) (J0 : It) (src : Src) (ds : List D) : Prop where
  go : ∀ i g H, src g H → i < ds.length → J0.go i H
  stop : ∀ i g H, src g H → ds.length ≤ i → J0.stop i H
  yld : ∀ i g H x H' d, src g H → (∀ a, g a ≠ .un → H a ≠ none) → J0.yld i H x H' → ds[i]? = some d → Same H H' ∧ Own K H' g d 0 0 [] x
  keep : ∀ g H g' H', src g H → (∀ a, g a = .fz → g' a = .fz ∧ H' a = H a) → (∀ a o, H a = some o → stb o = true → H' a = some o) → src g' H'
theorem own_fz {H H' : Hp} {g g' : G} {d : D} {r r' : Nat} {p p' : List Nat} {v : V} (hf : ∀ a, g a = .fz → g' a = .fz ∧ H' a = H a) (ht : ∀ a o, H a = some o → stb o = true → H' a = some o) (o : Own K H g d 0 r p v) : Own K H' g' d 0 r' p' v :=
  own_conv ht d (.inr hf) (fun a q e hh => by simp [has] at hh) (fun _ z => z) o
theorem ownL_fz {H H' : Hp} {g g' : G} {r r' : Nat} {p p' : List Nat} (hf : ∀ a, g a = .fz → g' a = .fz ∧ H' a = H a) (ht : ∀ a o, H a = some o → stb o = true → H' a = some o) : ∀ {ds : List D} {i j : Nat} {vs : List V},
    OwnL K H g ds 0 r p i vs → OwnL K H' g' ds 0 r' p' j vs
  | [], _, _, _, h => h
  | d :: ds, _, _, _, h => by
    obtain ⟨v, w, e, h1, h2⟩ := h
    exact ⟨v, w, e, own_fz hf ht h1, ownL_fz hf ht h2⟩
def FzL (K : PySem.W.Frag) (a : Addr) (ds : List D) : Src := fun g H => ∃ vs, H a = some (.lst vs) ∧ g a = .fz ∧ OwnL K H g ds 0 0 [] 0 vs
def FzT (K : PySem.W.Frag) (a : Addr) (ds : List D) : Src := fun g H => ∃ vs, H a = some (.tup vs) ∧ OwnL K H g ds 0 0 [] 0 vs
theorem FzL.keep {a : Addr} {ds : List D} {g g' : G} {H H' : Hp} (h : FzL K a ds g H) (hf : ∀ a, g a = .fz → g' a = .fz ∧ H' a = H a) (ht : ∀ a o, H a = some o → stb o = true → H' a = some o) : FzL K a ds g' H' := by
  obtain ⟨vs, h1, h2, h3⟩ := h
  exact ⟨vs, by rw [(hf a h2).2]; exact h1, (hf a h2).1, ownL_fz hf ht h3⟩
theorem FzT.keep {a : Addr} {ds : List D} {g g' : G} {H H' : Hp} (h : FzT K a ds g H) (hf : ∀ a, g a = .fz → g' a = .fz ∧ H' a = H a) (ht : ∀ a o, H a = some o → stb o = true → H' a = some o) : FzT K a ds g' H' := by
  obtain ⟨vs, h1, h3⟩ := h
  exact ⟨vs, ht _ _ h1 rfl, ownL_fz hf ht h3⟩
theorem ownL_len {H : Hp} {g : G} {k r : Nat} {p : List Nat} {i : Nat} {ds : List D} {vs : List V} (h : OwnL K H g ds k r p i vs) : vs.length = ds.length := repL_len (ownL_repL ds h)
theorem ownL_at {H : Hp} {g : G} {ds : List D} {vs : List V} (h : OwnL K H g ds 0 0 [] 0 vs) {i : Nat} {d : D} {v : V} (e : ds[i]? = some d) (ev : vs[i]? = some v) : Own K H g d 0 0 [] v := by
  obtain ⟨v', e', o⟩ := ownL_get h e
  rw [ev] at e'
  cases e'
  exact own_fz (fun a z => ⟨z, rfl⟩) (fun _ _ z _ => z) o
theorem ex_at {α : Type} {xs : List α} {i : Nat} (h : i < xs.length) : ∃ x, xs[i]? = some x := ⟨xs[i], List.getElem?_eq_getElem h⟩
theorem dlv_list {a : Addr} {ds : List D} : Dlv K (Itl K a) (FzL K a ds) ds where
  go := fun i g H ⟨vs, h1, _, h3⟩ hi => by
    obtain ⟨x, e⟩ := ex_at (xs := vs) (by rw [ownL_len h3]; exact hi)
    exact ⟨vs, x, SqL.of h1, e⟩
  stop := fun i g H ⟨vs, h1, _, h3⟩ hi => ⟨vs, SqL.of h1, by rw [ownL_len h3]; exact hi⟩
  yld := fun i g H x H' d ⟨vs, h1, _, h3⟩ gok y e => by
    obtain ⟨rfl, y⟩ := y
    exact ⟨Same.refl _, ownL_at h3 e (y vs (SqL.of h1))⟩
  keep := fun g H g' H' h => h.keep
theorem dlv_tup {a : Addr} {ds : List D} : Dlv K (Itt K a) (FzT K a ds) ds where
  go := fun i g H ⟨vs, h1, h3⟩ hi => by
    obtain ⟨x, e⟩ := ex_at (xs := vs) (by rw [ownL_len h3]; exact hi)
    exact ⟨vs, x, SqT.of h1, e⟩
  stop := fun i g H ⟨vs, h1, h3⟩ hi => ⟨vs, SqT.of h1, by rw [ownL_len h3]; exact hi⟩
  yld := fun i g H x H' d ⟨vs, h1, h3⟩ gok y e => by
    obtain ⟨rfl, y⟩ := y
    exact ⟨Same.refl _, ownL_at h3 e (y vs (SqT.of h1))⟩
  keep := fun g H g' H' h => h.keep
def rngD (lo : Int) (n : Nat) : List D := (List.range n).map fun i => .int (lo + (i : Nat))
theorem dlv_range {lo : Int} {n : Nat} : Dlv K (Itr lo n) (fun _ _ => True) (rngD lo n) where
  go := fun i g H _ hi => by
    rw [show (rngD lo n).length = n by simp [rngD]] at hi
    exact hi
  stop := fun i g H _ hi => by
    rw [show (rngD lo n).length = n by simp [rngD]] at hi
    exact hi
  yld := fun i g H x H' d _ gok y e => by
    obtain ⟨rfl, rfl⟩ := y
    unfold rngD at e
    rw [List.getElem?_map] at e
    cases q : (List.range n)[i]? with
    | none => rw [q] at e; cases e
    | some j =>
      rw [q] at e
      cases e
      have : j = i := by
        rw [List.getElem?_eq_some_iff] at q
        obtain ⟨h, e⟩ := q
        simpa using e.symm
      subst this
      exact ⟨Same.refl _, rfl⟩
  keep := fun _ _ _ _ _ _ _ => trivial
def enumD (ds : List D) : List D := (List.range ds.length).zipWith (fun i d => .tup [.int (i : Nat), d]) ds
theorem own_new {H : Hp} {g : G} {d : D} {r r' : Nat} {p p' : List Nat} {v : V} {T : Addr} {o : HO} (gok : ∀ a, g a ≠ .un → H a ≠ none) (nT : H T = none) (h : Own K H g d 0 r p v) : Own K (upd H T o) g d 0 r' p' v :=
  own_fz (fun a e => ⟨e, upd_ne (fun z => gok a (by rw [e]; simp) (z ▸ nT))⟩) (fun a u e _ => by rw [upd_ne (ne_of_none e nT)]; exact e) h
def zipD (ds es : List D) : List D := ds.zipWith (fun x y => .tup [x, y]) es
theorem zipD_get {ds es : List D} {i : Nat} {d : D} (e : (zipD ds es)[i]? = some d) : ∃ x y, ds[i]? = some x ∧ es[i]? = some y ∧ d = .tup [x, y] := by
  unfold zipD at e
  rw [List.getElem?_zipWith] at e
  cases q : ds[i]? with
  | none => rw [q] at e; simp at e
  | some x =>
    cases q2 : es[i]? with
    | none => rw [q, q2] at e; simp at e
    | some y =>
      rw [q, q2] at e
      simp only [Option.some.injEq] at e
      exact ⟨x, y, rfl, rfl, e.symm⟩
theorem zipD_len (ds es : List D) : (zipD ds es).length = min ds.length es.length := by simp [zipD]
theorem dlv_zip {a b : Addr} {ds es : List D} : Dlv K (Itz K a b) (fun g H => FzL K a ds g H ∧ FzL K b es g H) (zipD ds es) where
  go := fun i g H ⟨⟨vs, h1, _, h3⟩, ⟨ws, k1, _, k3⟩⟩ hi => by
    rw [zipD_len] at hi
    obtain ⟨x, e⟩ := ex_at (xs := vs) (i := i) (by rw [ownL_len h3]; omega)
    obtain ⟨y, f⟩ := ex_at (xs := ws) (i := i) (by rw [ownL_len k3]; omega)
    exact ⟨vs, ws, x, y, SqL.of h1, SqL.of k1, e, f⟩
  stop := fun i g H ⟨⟨vs, h1, _, h3⟩, ⟨ws, k1, _, k3⟩⟩ hi => by
    rw [zipD_len] at hi
    exact ⟨vs, ws, SqL.of h1, SqL.of k1, by rw [ownL_len h3, ownL_len k3]; omega⟩
  yld := fun i g H x H' d ⟨⟨vs, h1, _, h3⟩, ⟨ws, k1, _, k3⟩⟩ gok y e => by
    obtain ⟨T, w1, w2, rfl, nT, rfl, y1, y2⟩ := y
    obtain ⟨z1, z2, e1, e2, rfl⟩ := zipD_get e
    exact ⟨same_new nT, T, _, rfl, upd_same, w1, [w2], rfl, own_new gok nT (ownL_at h3 e1 (y1 vs (SqL.of h1))), w2, [], rfl, own_new gok nT (ownL_at k3 e2 (y2 ws (SqL.of k1))), rfl⟩
  keep := fun g H g' H' h hf ht => ⟨h.1.keep hf ht, h.2.keep hf ht⟩
theorem dlv_zipT {a b : Addr} {ds es : List D} : Dlv K (RZ.ItzT K a b) (fun g H => FzT K a ds g H ∧ FzT K b es g H) (zipD ds es) where
  go := fun i g H ⟨⟨vs, h1, h3⟩, ⟨ws, k1, k3⟩⟩ hi => by
    rw [zipD_len] at hi
    obtain ⟨x, e⟩ := ex_at (xs := vs) (i := i) (by rw [ownL_len h3]; omega)
    obtain ⟨y, f⟩ := ex_at (xs := ws) (i := i) (by rw [ownL_len k3]; omega)
    exact ⟨vs, ws, x, y, SqT.of h1, SqT.of k1, e, f⟩
  stop := fun i g H ⟨⟨vs, h1, h3⟩, ⟨ws, k1, k3⟩⟩ hi => by
    rw [zipD_len] at hi
    exact ⟨vs, ws, SqT.of h1, SqT.of k1, by rw [ownL_len h3, ownL_len k3]; omega⟩
  yld := fun i g H x H' d ⟨⟨vs, h1, h3⟩, ⟨ws, k1, k3⟩⟩ gok y e => by
    obtain ⟨T, w1, w2, rfl, nT, rfl, y1, y2⟩ := y
    obtain ⟨z1, z2, e1, e2, rfl⟩ := zipD_get e
    exact ⟨same_new nT, T, _, rfl, upd_same, w1, [w2], rfl, own_new gok nT (ownL_at h3 e1 (y1 vs (SqT.of h1))), w2, [], rfl, own_new gok nT (ownL_at k3 e2 (y2 ws (SqT.of k1))), rfl⟩
  keep := fun g H g' H' h hf ht => ⟨h.1.keep hf ht, h.2.keep hf ht⟩
structure JI (X : Cx) (κ : OE) (tg iter : Expr) (m : ML) (κ' : OE) (pu : Bool) : Prop where
  run : ∀ t, X.N.length ≤ t → PI X tg iter (fun σ H R => En X.N.length σ H → ∃ g ρ, Sok X.K κ ρ g σ H ∧ ∃ ds ρ', m ρ = some (ds, ρ') ∧
    ∀ J0 src H' g', Sok X.K κ' ρ' g' σ H' → Pres X.N.length t g H g' H' → (pu = true → Same H H') → Dlv X.K J0 src ds → src g' H' → R J0 H')
  pur : pu = true → ∀ ρ ds ρ', m ρ = some (ds, ρ') → ρ' = ρ
theorem PI.imp {tg iter : Expr} {w w' : TI} (h : PI X tg iter w) (f : ∀ σ H R, En X.N.length σ H → w' σ H R → w σ H R) : PI X tg iter w' :=
  ⟨fun pins s σ H R I q => h.run pins s σ H R I (f σ H R ⟨Inv.sz I, I.len⟩ q)⟩
def iSeq (K : PySem.W.Frag) (tl : TE) : TI := fun σ H R => tl σ H fun x H1 => ∃ a, x = .ref a ∧ (((∃ xs, SqL K H1 a xs) ∧ R (Itl K a) H1) ∨ ((∃ xs, SqT K H1 a xs) ∧ R (Itt K a) H1))
theorem pi_seq {tg l : Expr} {tl : TE} (hl : PE X l tl) : PI X tg l (iSeq X.K tl) := ⟨fun pins s σ H R I h => thn (hl.run pins s σ H _ I h) fun v s1 q1 => by
  obtain ⟨x, H1, I1, r1, a, rfl, q⟩ := q1
  cases r1
  have nw : ∀ b ∈ [s1.heap.objs.size], FpOk X pins H1 b := fun b hb => by
    rw [List.mem_singleton.mp hb]
    exact I1.fpOk (Nat.le_refl _) (I1.hok.fresh (Nat.le_refl _))
  rcases q with ⟨⟨xs, hq⟩, q⟩ | ⟨⟨xs, hq⟩, q⟩
  · obtain ⟨us, _, pl, _⟩ := I1.list hq
    exact wpAny_pyIter_list pl.isList ⟨_, _, _, _, H1, rfl, I1.kept (t' := s1.toks) fun _ _ z => Heap.get?_push_of_some _ z, turn_list a _, ⟨_, Heap.get?_push_size _ rfl, rfl, rfl⟩, nw, q⟩
  · obtain ⟨us, _, pl, _⟩ := I1.tuple hq
    exact wpAny_pyIter_tuple (show s1.heap.IsTuple a us.toArray from pl) ⟨_, _, _, _, H1, rfl, I1.kept (t' := s1.toks) fun _ _ z => Heap.get?_push_of_some _ z, turn_tuple a _, ⟨_, Heap.get?_push_size _ rfl, rfl, rfl⟩, nw, q⟩⟩
def seqOf : D → Option (List D)
  | .lst xs => some xs
  | .tup xs => some xs
  | _ => none
def mSeq (m : M) : ML := fun ρ => (m ρ).bind fun x => (seqOf x.1).map fun ds => (ds, x.2)
theorem mSeq_some' {m : M} {ρ ρ' : DE} {ds : List D} (h : mSeq m ρ = some (ds, ρ')) : ∃ x, m ρ = some (x, ρ') ∧ (x = .lst ds ∨ x = .tup ds) := by
  unfold mSeq at h
  cases e : m ρ with
  | none => rw [e] at h; cases h
  | some p =>
    rw [e] at h
    simp only [Option.bind_some] at h
    cases e2 : seqOf p.1 with
    | none => rw [e2] at h; cases h
    | some b =>
      rw [e2] at h
      cases h
      refine ⟨p.1, rfl, ?_⟩
      unfold seqOf at e2
      split at e2
      · cases e2; left; assumption
      · cases e2; right; assumption
      · cases e2
theorem own_src {H : Hp} {g : G} {x : D} {ds : List D} {v : V} {r : Nat} {p : List Nat} (o : Own K H g x 0 r p v) (e : x = .lst ds ∨ x = .tup ds) : ∃ a, v = .ref a ∧ ((x = .lst ds ∧ FzL K a ds g H) ∨ (x = .tup ds ∧ FzT K a ds g H)) := by
  have o' : Own K H g x 0 0 [] v := own_fz (fun a z => ⟨z, rfl⟩) (fun _ _ z _ => z) o
  rcases e with rfl | rfl
  · obtain ⟨a, vs, rfl, ha, hg, hl⟩ := o'
    exact ⟨a, rfl, .inl ⟨rfl, vs, ha, hg, hl⟩⟩
  · obtain ⟨a, vs, rfl, ha, hl⟩ := o'
    exact ⟨a, rfl, .inr ⟨rfl, vs, ha, hl⟩⟩
theorem ji_seq {tg l : Expr} {m : M} {pu : Bool} (h : J X κ l m (.own 0) κ1 pu) : JI X κ tg l (mSeq m) κ1 pu := by
  refine ⟨fun t ht => PI.imp (pi_seq (h.run t ht)) fun σ H R z q => ?_, fun hp ρ d ρ' e => by
    obtain ⟨x, e1, _⟩ := mSeq_some' e
    exact h.pur hp _ _ _ e1⟩
  obtain ⟨g, ρ, S, ds, ρ', em, post⟩ := q z
  obtain ⟨x, e1, e2⟩ := mSeq_some' em
  refine fun _ => ⟨g, ρ, S, x, ρ', e1, fun v H' g' S' P' s' r' => ?_⟩
  obtain ⟨a, rfl, hx⟩ := own_src r' e2
  refine ⟨a, rfl, ?_⟩
  rcases hx with ⟨_, f⟩ | ⟨_, f⟩
  · obtain ⟨vs, h1, h2, h3⟩ := id f
    exact .inl ⟨⟨vs, SqL.of h1⟩, post _ _ H' g' S' P' s' dlv_list f⟩
  · obtain ⟨vs, h1, h3⟩ := id f
    exact .inr ⟨⟨vs, SqT.of h1⟩, post _ _ H' g' S' P' s' dlv_tup f⟩
def lim62 (i : Int) : Bool := decide (i.natAbs < 4611686018427387904)
theorem lim62_ok {i : Int} (h : lim62 i = true) : -(2 ^ 62) ≤ i ∧ i < 2 ^ 62 := by
  unfold lim62 at h
  simp only [decide_eq_true_eq] at h
  omega
theorem lim62_of {i : Int} (h1 : -4000000000000000000 < i) (h2 : i < 4000000000000000000) : lim62 i = true := by
  unfold lim62
  rw [decide_eq_true_eq]
  omega
def mRng1 (ml : ML) : ML := fun ρ => (ml ρ).bind fun x => match x.1 with
  | [.int j] => if lim62 j = true then some (rngD 0 j.toNat, x.2) else none
  | _ => none
def mRng2 (ml : ML) : ML := fun ρ => (ml ρ).bind fun x => match x.1 with
  | [.int i, .int j] => if lim62 i = true ∧ lim62 j = true then some (rngD i (j - i).toNat, x.2) else none
  | _ => none
theorem mRng1_some {ml : ML} {ρ ρ' : DE} {ds : List D} (h : mRng1 ml ρ = some (ds, ρ')) : ∃ j, ml ρ = some ([.int j], ρ') ∧ lim62 j = true ∧ ds = rngD 0 j.toNat := by
  unfold mRng1 at h
  cases e : ml ρ with
  | none => rw [e] at h; cases h
  | some p =>
    rw [e] at h
    simp only [Option.bind_some] at h
    split at h
    · rename_i j ej
      split at h
      · cases h; exact ⟨j, by rw [← ej], by assumption, rfl⟩
      · cases h
    · cases h
theorem ji_range1 {tg a : Expr} {p : Pos} {ml : ML} {ms : List Am} {pu : Bool} (h : JA X κ [a] ml ms κ1 pu) (hm : allRz ms = true) (hg : Gl X "range") (hmg : X.mg "range" = none) (hs : starEach [a] X.env = [(false, eval a X.env)]) :
    JI X κ tg (.Call (.Name "range" p) [a] [] pos) (mRng1 ml) κ1 pu := by
  refine ⟨fun t ht => PI.imp (pi_range1 hg hmg (h.run t ht) hs) fun σ H R z q => ?_, fun hp ρ d ρ' e => by
    obtain ⟨_, e1, _⟩ := mRng1_some e
    exact h.pur hp _ _ _ e1⟩
  obtain ⟨g, ρ, S, ds, ρ', em, post⟩ := q z
  obtain ⟨j, e1, hj, rfl⟩ := mRng1_some em
  refine fun _ => ⟨g, ρ, S, _, ρ', e1, fun vs H' g' S' P' s' r' => ?_⟩
  obtain ⟨v, w, rfl, h1, h2⟩ := rows_repL hm r'
  cases (show _ = _ from h1)
  cases (show _ = _ from h2)
  exact ⟨j, rfl, (lim62_ok hj).1, (lim62_ok hj).2, post _ _ H' g' S' P' s' dlv_range trivial⟩
def mEnum (ml : ML) : ML := fun ρ => (ml ρ).bind fun x => match x.1 with
  | [.lst ds] => some (enumD ds, x.2)
  | _ => none
def mZip (ml : ML) : ML := fun ρ => (ml ρ).bind fun x => match x.1 with
  | [.lst ds, .lst es] => some (zipD ds es, x.2)
  | [.tup ds, .tup es] => some (zipD ds es, x.2)
  | _ => none
theorem mZip_some {ml : ML} {ρ ρ' : DE} {ds : List D} (h : mZip ml ρ = some (ds, ρ')) : ∃ xs ys, (ml ρ = some ([.lst xs, .lst ys], ρ') ∨ ml ρ = some ([.tup xs, .tup ys], ρ')) ∧ ds = zipD xs ys := by
  unfold mZip at h
  cases e : ml ρ with
  | none => rw [e] at h; cases h
  | some p =>
    rw [e] at h
    simp only [Option.bind_some] at h
    split at h
    · rename_i x y ej
      cases h; exact ⟨x, y, .inl (by rw [← ej]), rfl⟩
    · rename_i x y ej
      cases h; exact ⟨x, y, .inr (by rw [← ej]), rfl⟩
    · cases h
theorem ji_zip {e e2 : Expr} {p tpos : Pos} {elts : List Expr} {kk : Nat} {ml : ML} {pu : Bool} (h : JA X κ [e, e2] ml [.rz (.own 0), .rz (.own 0)] κ1 pu) (hg : Gl X "zip") (hmg : X.mg "zip" = none)
    (hs : starEach [e, e2] X.env = (false, eval e X.env) :: starEach [e2] X.env) (hpl : (backTo pos (starEach [e2] X.env)).any (·.1) = false) :
    JI X κ (.Tuple elts kk tpos) (.Call (.Name "zip" p) [e, e2] [] pos) (mZip ml) κ1 pu := by
  refine ⟨fun t ht => PI.imp (RZ.pi_zipA hg hmg (h.run t ht) hs hpl) fun σ H R z q => ?_, fun hp ρ d ρ' e => by
    obtain ⟨_, _, e1, _⟩ := mZip_some e
    exact e1.elim (h.pur hp _ _ _) (h.pur hp _ _ _)⟩
  obtain ⟨g, ρ, S, ds, ρ', em, post⟩ := q z
  obtain ⟨xs, ys, e1, rfl⟩ := mZip_some em
  have key : ∀ (d1 d2 : D), ml ρ = some ([d1, d2], ρ') → ((d1 = .lst xs ∧ d2 = .lst ys) ∨ (d1 = .tup xs ∧ d2 = .tup ys)) → _ := fun d1 d2 e hd => show jTA X.K X.N.length κ ml [.rz (.own 0), .rz (.own 0)] κ1 pu t σ H (fun vs H1 => ∃ a b us ws, vs = [.ref a, .ref b] ∧ ((SqL X.K H1 a us ∧ SqL X.K H1 b ws ∧ R (Itz X.K a b) H1) ∨ (SqT X.K H1 a us ∧ SqT X.K H1 b ws ∧ R (RZ.ItzT X.K a b) H1))) from by
    refine fun _ => ⟨g, ρ, S, _, ρ', e, fun vs H' g' S' P' s' r' => ?_⟩
    obtain ⟨x, ds', v, vs', e2, rfl, h1, y, ds2, v2, vs2, e3, rfl, h2, h3⟩ := r'
    cases e2
    cases e3
    obtain ⟨_, rfl⟩ := h3
    rcases hd with ⟨rfl, rfl⟩ | ⟨rfl, rfl⟩
    · obtain ⟨a, rfl, hx⟩ := own_src h1 (.inl rfl)
      obtain ⟨b, rfl, hy⟩ := own_src h2 (.inl rfl)
      rcases hx with ⟨_, f⟩ | ⟨e3, _⟩
      · rcases hy with ⟨_, f2⟩ | ⟨e3, _⟩
        · obtain ⟨us, k1, _⟩ := id f
          obtain ⟨ws, k2, _⟩ := id f2
          exact ⟨a, b, us, ws, rfl, .inl ⟨SqL.of k1, SqL.of k2, post _ _ H' g' S' P' s' dlv_zip ⟨f, f2⟩⟩⟩
        · cases e3
      · cases e3
    · obtain ⟨a, rfl, hx⟩ := own_src h1 (.inr rfl)
      obtain ⟨b, rfl, hy⟩ := own_src h2 (.inr rfl)
      rcases hx with ⟨e3, _⟩ | ⟨_, f⟩
      · cases e3
      · rcases hy with ⟨e3, _⟩ | ⟨_, f2⟩
        · cases e3
        · obtain ⟨us, k1, _⟩ := id f
          obtain ⟨ws, k2, _⟩ := id f2
          exact ⟨a, b, us, ws, rfl, .inr ⟨SqT.of k1, SqT.of k2, post _ _ H' g' S' P' s' dlv_zipT ⟨f, f2⟩⟩⟩
  rcases e1 with e1 | e1
  · exact key _ _ e1 (.inl ⟨rfl, rfl⟩)
  · exact key _ _ e1 (.inr ⟨rfl, rfl⟩)
end VS
namespace VS
open PySem PySem.Spec PyProof.Rows L2
variable {K : PySem.W.Frag} {X : Cx} {κ κ1 κ2 κ3 : OE} {pos : Pos} {rc : RC}
abbrev MG := D → DE → Option DE
def gPost (K : PySem.W.Frag) (n t : Nat) (κ' : OE) (ts : List Nat) (g : G) (σ : L2.St) (H : Hp) (ρ' : DE) (Q : L2.St → Hp → Prop) : Prop :=
  ∀ σ' g', Sok K κ' ρ' g' σ' H → Pres n t g H g' H → (∀ j : Nat, j ∉ ts → σ'[j]? = σ[j]?) → Q σ' H
def jTG (K : PySem.W.Frag) (n : Nat) (κ : OE) (m : MG) (κ' : OE) (ts : List Nat) (t : Nat) : TG := fun v σ H Q => σ.length = n → ∃ g ρ d, Sok K κ ρ g σ H ∧ Own K H g d 0 0 [] v ∧ ∃ ρ', m d ρ = some ρ' ∧ gPost K n t κ' ts g σ H ρ' Q
structure JG (X : Cx) (κ : OE) (tg : Expr) (m : MG) (κ' : OE) (ts : List Nat) : Prop where
  run : ∀ t, X.N.length ≤ t → PG X tg (jTG X.K X.N.length κ m κ' ts t)
  out : ∀ d ρ ρ', m d ρ = some ρ' → ρ'.length = ρ.length ∧ ∀ j : Nat, j ∉ ts → ρ'[j]? = ρ[j]?
structure JGs (X : Cx) (κ : OE) (tg : List Expr) (m : List D → DE → Option DE) (κ' : OE) (ts : List Nat) : Prop where
  run : ∀ t, X.N.length ≤ t → PGs X tg (fun vs σ H Q => σ.length = X.N.length → ∃ g ρ ds i, Sok X.K κ ρ g σ H ∧ OwnL X.K H g ds 0 0 [] i vs ∧ ∃ ρ', m ds ρ = some ρ' ∧ gPost X.K X.N.length t κ' ts g σ H ρ' Q)
  out : ∀ d ρ ρ', m d ρ = some ρ' → ρ'.length = ρ.length ∧ ∀ j : Nat, j ∉ ts → ρ'[j]? = ρ[j]?
theorem PG.imp {tg : Expr} {w w' : TG} (h : PG X tg w) (f : ∀ v σ H Q, σ.length = X.N.length → w' v σ H Q → w v σ H Q) : PG X tg w' :=
  ⟨fun pins s σ H v u Q I r q => h.run pins s σ H v u Q I r (f v σ H Q I.len q)⟩
theorem PGs.imp {tg : List Expr} {w w' : TGs} (h : PGs X tg w) (f : ∀ v σ H Q, σ.length = X.N.length → w' v σ H Q → w v σ H Q) : PGs X tg w' :=
  ⟨fun pins s σ H v u Q I r q => h.run pins s σ H v u Q I r (f v σ H Q I.len q)⟩
def gNm (i : Nat) : MG := fun d ρ => some (ρ.set i (some d))
theorem jg_name {i : Nat} {x : Str} (hN : X.N.Nodup) (hi : X.N[i]? = some x) (hx : Loc X.env.scope x) (hf : X.fn x = true ∨ X.env.scope.names.lookup x = some .local) : JG X κ (.Name x pos) (gNm i) (κ.set i (some 0)) [i] := by
  refine ⟨fun t ht => PG.imp (pg_name hN hi hx hf) fun v σ H Q hl q => ?_, fun d ρ ρ' e => by
    cases e
    exact ⟨by simp, fun j hj => by rw [List.getElem?_set_ne (by simpa using fun e => hj (by simp [e]))]⟩⟩
  obtain ⟨g, ρ, d, S, o, ρ', em, post⟩ := q hl
  cases em
  have hi' : i < X.N.length := (List.getElem?_eq_some_iff.mp hi).1
  refine post _ _ (S.store (t := t) (by omega) (by omega) (own_fz (fun a z => ⟨z, rfl⟩) (fun _ _ z _ => z) o)) (Pres.store hi' S.gok) fun j hj => ?_
  rw [List.getElem?_set_ne (by simpa using fun e => hj (by simp [e]))]
def gsNil : List D → DE → Option DE := fun ds ρ => match ds with
  | [] => some ρ
  | _ => none
def gsCons (m : MG) (ms : List D → DE → Option DE) : List D → DE → Option DE := fun ds ρ => match ds with
  | d :: r => (m d ρ).bind fun ρ1 => ms r ρ1
  | [] => none
theorem jgs_nil : JGs X κ [] gsNil κ [] := by
  refine ⟨fun t ht => PGs.imp pgs_nil fun v σ H Q hl q => ?_, fun ds ρ ρ' e => by
    cases ds with
    | nil => cases e; exact ⟨rfl, fun _ _ => rfl⟩
    | cons _ _ => cases e⟩
  obtain ⟨g, ρ, ds, i, S, o, ρ', em, post⟩ := q hl
  cases ds with
  | nil =>
    cases em
    exact ⟨o, post σ g S Pres.refl fun _ _ => rfl⟩
  | cons _ _ => cases em
theorem jgs_cons {e : Expr} {es : List Expr} {m : MG} {ms : List D → DE → Option DE} {ts1 ts2 : List Nat} (h1 : JG X κ e m κ1 ts1) (h2 : JGs X κ1 es ms κ2 ts2)
    (mk : ∀ {t : TG} {u : TGs}, PG X e t → PGs X es u → PGs X (e :: es) (gCons t u)) : JGs X κ (e :: es) (gsCons m ms) κ2 (ts1 ++ ts2) := by
  refine ⟨fun t ht => PGs.imp (mk (h1.run t ht) (h2.run t ht)) fun vs σ H Q hl q => ?_, fun ds ρ ρ' e => by
    cases ds with
    | nil => cases e
    | cons d r =>
      have e' : (m d ρ).bind (fun ρ1 => ms r ρ1) = some ρ' := e
      cases e1 : m d ρ with
      | none => rw [e1] at e'; cases e'
      | some ρ1 =>
        rw [e1] at e'
        obtain ⟨l1, o1⟩ := h1.out _ _ _ e1
        obtain ⟨l2, o2⟩ := h2.out _ _ _ e'
        exact ⟨l2.trans l1, fun j hj => by
          simp only [List.mem_append, not_or] at hj
          rw [o2 j hj.2, o1 j hj.1]⟩⟩
  obtain ⟨g, ρ, ds, i, S, o, ρ', em, post⟩ := q hl
  cases ds with
  | nil => cases em
  | cons d r =>
    obtain ⟨v, w, rfl, o1, o2⟩ := o
    have em' : (m d ρ).bind (fun ρ1 => ms r ρ1) = some ρ' := em
    cases e1 : m d ρ with
    | none => rw [e1] at em'; cases em'
    | some ρ1 =>
      rw [e1] at em'
      refine ⟨v, w, rfl, fun _ => ⟨g, ρ, d, S, own_fz (fun a z => ⟨z, rfl⟩) (fun _ _ z _ => z) o1, ρ1, e1, fun σ1 g1 S1 P1 f1 => ?_⟩⟩
      refine fun _ => ⟨g1, ρ1, r, i + 1, S1, ownL_fz P1.fz P1.tu o2, ρ', em', fun σ2 g2 S2 P2 f2 => post σ2 g2 S2 (P1.trans P2) fun j hj => ?_⟩
      simp only [List.mem_append, not_or] at hj
      rw [f2 j hj.2, f1 j hj.1]
def gTp (ms : List D → DE → Option DE) : MG := fun d ρ => match d with
  | .tup ds => ms ds ρ
  | _ => none
theorem jg_tup {es : List Expr} {k n : Nat} {ms : List D → DE → Option DE} {ts : List Nat} (hc : X.calm = true) (h : JGs X κ es ms κ1 ts)
    (hn : (assignEach es X.env).length = n) (hst : (assignEach es X.env).findIdx? (·.1) = none) (hlen : ∀ ds ρ ρ', ms ds ρ = some ρ' → ds.length = n) : JG X κ (.Tuple es k pos) (gTp ms) κ1 ts := by
  refine ⟨fun t ht => PG.imp (pg_tup hc (h.run t ht) hn hst) fun v σ H Q hl q => ?_, fun d ρ ρ' e => by
    unfold gTp at e
    split at e
    · exact h.out _ _ _ e
    · cases e⟩
  obtain ⟨g, ρ, d, S, o, ρ', em, post⟩ := q hl
  unfold gTp at em
  split at em
  · obtain ⟨a, vs, rfl, ha, ol⟩ := o
    exact ⟨a, vs, rfl, SqT.of ha, by rw [ownL_len ol]; exact hlen _ _ _ em, fun _ => ⟨g, ρ, _, 0, S, ol, ρ', em, post⟩⟩
  · cases em
theorem gs_len0 (ds : List D) (ρ ρ' : DE) (h : gsNil ds ρ = some ρ') : ds.length = 0 := by
  cases ds with
  | nil => rfl
  | cons _ _ => cases h
theorem gs_lenS {m : MG} {ms : List D → DE → Option DE} {n : Nat} (h : ∀ ds ρ ρ', ms ds ρ = some ρ' → ds.length = n) (ds : List D) (ρ ρ' : DE) (e : gsCons m ms ds ρ = some ρ') : ds.length = n + 1 := by
  cases ds with
  | nil => cases e
  | cons d r =>
    have e' : (m d ρ).bind (fun ρ1 => ms r ρ1) = some ρ' := e
    cases e1 : m d ρ with
    | none => rw [e1] at e'; cases e'
    | some ρ1 =>
      rw [e1] at e'
      simp [h _ _ _ e']
def itF (mg : MG) (mb : SM) : List D → SM
  | [], ρ => some (.nx ρ)
  | d :: ds, ρ => (mg d ρ).bind fun ρ1 => match mb ρ1 with
    | some (.nx ρ2) => itF mg mb ds ρ2
    | x => x
def sFor (ml : ML) (mg : MG) (mb : SM) : SM := fun ρ => (ml ρ).bind fun x => itF mg mb x.1 x.2
theorem sFor_some {ml : ML} {mg : MG} {mb : SM} {ρ : DE} {o : Out} (h : sFor ml mg mb ρ = some o) : ∃ ds ρ1, ml ρ = some (ds, ρ1) ∧ itF mg mb ds ρ1 = some o := by
  unfold sFor at h
  cases e : ml ρ with
  | none => rw [e] at h; cases h
  | some p => rw [e] at h; exact ⟨p.1, p.2, rfl, h⟩
def notFxs (rc : RC) (ts : List Nat) : Bool := ts.all (notFx rc)
theorem Fx.sets {s0 σ σ' : L2.St} {ts : List Nat} (h : Fx rc s0 σ) (hi : notFxs rc ts = true) (e : ∀ j : Nat, j ∉ ts → σ'[j]? = σ[j]?) : Fx rc s0 σ' := fun j k ej => by
  have hj : j ∉ ts := fun hm => by
    have := List.all_eq_true.mp hi j hm
    unfold notFx at this
    rw [ej] at this
    cases this
  rw [e j hj]
  exact h j k ej
theorem drop_cons {α : Type} {xs : List α} {i : Nat} {x : α} (h : xs[i]? = some x) : xs.drop i = x :: xs.drop (i + 1) := by
  obtain ⟨hi, e⟩ := List.getElem?_eq_some_iff.mp h
  rw [List.drop_eq_getElem_cons hi, e]
abbrev jTI (K : PySem.W.Frag) (n : Nat) (κ : OE) (m : ML) (κ' : OE) (pu : Bool) (t : Nat) : TI := fun σ H R => En n σ H → ∃ g ρ, Sok K κ ρ g σ H ∧ ∃ ds ρ', m ρ = some (ds, ρ') ∧
    ∀ J0 src H' g', Sok K κ' ρ' g' σ H' → Pres n t g H g' H' → (pu = true → Same H H') → Dlv K J0 src ds → src g' H' → R J0 H'
theorem for_read {ml : ML} {mg : MG} {mb : SM} {ts : List Nat} {n t : Nat} {s0 : L2.St} {pu : Bool}
    (hf : notFxs rc ts = true) {σ : L2.St} {H : Hp} {D : Ends} (z : En n σ H) (q : jTS K n κ (sFor ml mg mb) κ1 rc s0 t D σ H) : tFor (jTI K n κ ml κ1 pu t) (jTG K n κ1 mg κ2 ts t) (jTS K n κ2 mb κ1 rc s0 t) D σ H := by
  obtain ⟨g, ρ, S, fx, o, em, post⟩ := q z
  obtain ⟨ds, ρ1, e1, e2⟩ := sFor_some em
  refine fun _ => ⟨g, ρ, S, ds, ρ1, e1, fun J0 src H1 g1 S1 P1 _ dl s1 => ?_⟩
  refine ⟨fun i m σ' H' => m = ds.length - i ∧ i ≤ ds.length ∧ ∃ g' ρ', Sok K κ1 ρ' g' σ' H' ∧ Fx rc s0 σ' ∧ src g' H' ∧ itF mg mb (ds.drop i) ρ' = some o ∧ Pres n t g H g' H', ⟨ds.length, by omega, Nat.zero_le _, g1, ρ1, S1, fx, s1, e2, P1⟩, ?_⟩
  rintro i m σ2 H2 ⟨rfl, hle, g2, ρ2, S2, fx2, s2, e3, P2⟩
  have post2 := post.pre P2
  by_cases hlt : i < ds.length
  · obtain ⟨d, ed⟩ := ex_at hlt
    rw [drop_cons ed] at e3
    have e3' : (mg d ρ2).bind (fun ρ1 => match mb ρ1 with | some (.nx ρ2) => itF mg mb (ds.drop (i + 1)) ρ2 | x => x) = some o := e3
    cases e4 : mg d ρ2 with
    | none => rw [e4] at e3'; cases e3'
    | some ρ3 =>
      rw [e4] at e3'
      simp only [Option.bind_some] at e3'
      refine .inr ⟨dl.go i g2 H2 s2 hlt, fun σ' H' => i + 1 ≤ ds.length ∧ ∃ g' ρ', Sok K κ1 ρ' g' σ' H' ∧ Fx rc s0 σ' ∧ src g' H' ∧ itF mg mb (ds.drop (i + 1)) ρ' = some o ∧ Pres n t g H g' H', fun σ' H' hh => ⟨ds.length - (i + 1), by omega, rfl, hh⟩, fun x H' y => ?_⟩
      obtain ⟨sm, ox⟩ := dl.yld i g2 H2 x H' d s2 S2.gok y ed
      have P3 : Pres n t g2 H2 g2 H' := Pres.grow S2.gok sm
      refine fun _ => ⟨g2, ρ2, d, S2.grow sm, ox, ρ3, e4, fun σ4 g4 S4 P4 f4 => ?_⟩
      have fx4 := fx2.sets hf f4
      have P5 := P3.trans P4
      have s4 := dl.keep _ _ _ _ s2 P5.fz P5.tu
      refine fun _ => ?_
      cases eb : mb ρ3 with
      | none => rw [eb] at e3'; cases e3'
      | some ob =>
        rw [eb] at e3'
        refine ⟨g4, ρ3, S4, fx4, ob, eb, ?_⟩
        cases ob with
        | nx ρ5 => exact fun σ' H6 g6 S6 P6 F6 => ⟨hlt, g6, ρ5, S6, F6, dl.keep _ _ _ _ s4 P6.fz P6.tu, e3', P2.trans (P5.trans P6)⟩
        | rt d' ρ5 =>
          cases e3'
          exact post2.pre P5
  · have hi' : i = ds.length := by omega
    subst hi'
    rw [List.drop_length] at e3
    cases e3
    exact .inl ⟨dl.stop _ g2 H2 s2 (Nat.le_refl _), post2 σ2 H2 g2 S2 Pres.refl fx2⟩
theorem js_for {tg iter : Expr} {b : List Stmt} {ml : ML} {mg : MG} {mb : SM} {ts : List Nat} (hp : PassesOwn (model X.prog X.w) X.A X.env X.xe) (hc : X.calm = true) {pu : Bool} (hi : JI X κ tg iter ml κ1 pu) (hg : JG X κ1 tg mg κ2 ts) (hb : JB X κ2 b mb κ1 rc)
    (hf : notFxs rc ts = true) (hs : ∀ x, foldedSetIterable iter X.env x = pure x) : JS X κ (.For tg iter b [] pos) (sFor ml mg mb) κ1 rc :=
  ⟨fun s0 t ht => PS.imp (ps_for hp hc (hi.run t ht) (hg.run t ht) (hb.run s0 t ht) hs) fun _ _ _ z q => for_read hf z q⟩
end VS
namespace VS
open PySem PySem.Spec PyProof.Rows L2
variable {K : PySem.W.Frag} {X : Cx} {κ κ1 κ2 κ3 κ4 : OE} {pos : Pos} {rc : RC}
def wp {α : Type} (l : List (Option α)) : List Nat → List (Option α)
  | [] => l
  | v :: vs => (wp l vs).set v none
theorem wp_wipe (σ : L2.St) : ∀ vs, wipe σ vs = wp σ vs
  | [] => rfl
  | v :: vs => by
    show (wipe σ vs).set v none = (wp σ vs).set v none
    rw [wp_wipe σ vs]
theorem wp_len {α : Type} (l : List (Option α)) : ∀ vs, (wp l vs).length = l.length
  | [] => rfl
  | v :: vs => by
    show ((wp l vs).set v none).length = _
    rw [List.length_set, wp_len l vs]
theorem wp_some {α : Type} {l : List (Option α)} {i : Nat} {x : α} : ∀ {vs}, (wp l vs)[i]? = some (some x) → l[i]? = some (some x) ∧ i ∉ vs
  | [], h => ⟨h, by simp⟩
  | v :: vs, h => by
    have h' : ((wp l vs).set v none)[i]? = some (some x) := h
    rw [List.getElem?_set] at h'
    by_cases e : v = i
    · rw [if_pos e] at h'
      split at h' <;> cases h'
    · rw [if_neg e] at h'
      obtain ⟨h1, h2⟩ := wp_some h'
      exact ⟨h1, by simp only [List.mem_cons, not_or]; exact ⟨fun z => e z.symm, h2⟩⟩
theorem wp_out {α : Type} {l : List (Option α)} {i : Nat} : ∀ {vs}, i ∉ vs → (wp l vs)[i]? = l[i]?
  | [], _ => rfl
  | v :: vs, h => by
    simp only [List.mem_cons, not_or] at h
    show ((wp l vs).set v none)[i]? = _
    rw [List.getElem?_set_ne (fun e => h.1 e.symm), wp_out h.2]
theorem Sok.wipe {ρ : DE} {g : G} {σ : L2.St} {H : Hp} {vs : List Nat} (S : Sok K κ ρ g σ H) (hk : ∀ i ∈ vs, ∀ k, κ[i]? ≠ some (some k)) : Sok K κ (wp ρ vs) g (wp σ vs) H where
  ok := fun i k d h1 h2 => by
    obtain ⟨h3, hi⟩ := wp_some h2
    obtain ⟨v, e, o⟩ := S.ok i k d h1 h3
    exact ⟨v, by rw [wp_out hi]; exact e, o⟩
  gok := S.gok
  len := by rw [wp_len, wp_len]; exact S.len
  lek := by rw [wp_len]; exact S.lek
theorem Sok.unwipe {ρ : DE} {g : G} {σ σ' : L2.St} {H : Hp} {vs : List Nat} (S : Sok K κ ρ g σ' H) (hs : wp σ' vs = wp σ vs) (hk : ∀ i ∈ vs, ∀ k, κ[i]? ≠ some (some k)) : Sok K κ ρ g σ H where
  ok := fun i k d h1 h2 => by
    obtain ⟨v, e, o⟩ := S.ok i k d h1 h2
    have hi : i ∉ vs := fun z => hk i z k h1
    refine ⟨v, ?_, o⟩
    rw [← wp_out (l := σ) hi, ← hs, wp_out hi]
    exact e
  gok := S.gok
  len := by
    have := congrArg List.length hs
    rw [wp_len, wp_len] at this
    rw [S.len, this]
  lek := by
    have := congrArg List.length hs
    rw [wp_len, wp_len] at this
    rw [S.lek, this]
def noneAt (κ : OE) (vs : List Nat) : Bool := vs.all fun i => match κ[i]? with
  | some (some _) => false
  | _ => true
theorem noneAt_ok {vs : List Nat} (h : noneAt κ vs = true) : ∀ i ∈ vs, ∀ k, κ[i]? ≠ some (some k) := fun i hi k e => by
  have := List.all_eq_true.mp h i hi
  rw [e] at this
  cases this
theorem own_push {H : Hp} {g : G} {t k : Nat} {L : Addr} {acc : List D} {e : D} {y : V} {vacc : List V} (t' : Nat) (ht : t ≠ t')
    (hL : H L = some (.lst vacc)) (o : Own K H g (.lst acc) k t [] (.ref L)) (h0 : k ≠ 0) (oe : Own K H g e (lv k) t' [] y) :
    Own K (upd H L (.lst (vacc ++ [y]))) (mvG t' t [acc.length] (fun _ _ => false) g) (.lst (acc ++ [e])) k t [] (.ref L) := by
  obtain ⟨a, vs, e1, h1, h2, h3⟩ := o
  cases e1
  rw [hL] at h1
  cases h1
  rw [if_neg h0] at h2
  have nL : ∀ a r q, g a = .ow r q → (r ≠ t ∨ q ≠ []) → a ≠ L := fun a r q e h z => by
    subst z
    rw [h2] at e
    cases e
    rcases h with h | h
    · exact h rfl
    · exact h rfl
  have nf : ∀ a, g a = .fz → a ≠ L := fun a e z => by
    subst z
    rw [h2] at e
    cases e
  have st : ∀ a o, H a = some o → stb o = true → upd H L (.lst (vacc ++ [y])) a = some o := fun a o e hs => by
    rw [upd_ne]
    · exact e
    · rintro rfl
      rw [hL] at e
      cases e
      cases hs
  refine ⟨L, _, rfl, upd_same, by rw [if_neg h0]; exact mvG_o ht rfl h2, ?_⟩
  have grow : ∀ {ds : List D} {vs : List V} {i : Nat}, OwnL K H g ds (lv k) t [] i vs → OwnL K (upd H L (.lst (vacc ++ [y]))) (mvG t' t [i + ds.length] (fun _ _ => false) g) (ds ++ [e]) (lv k) t [] i (vs ++ [y]) := by
    intro ds
    induction ds with
    | nil =>
      intro vs i h
      cases (show _ = _ from h)
      refine ⟨y, [], rfl, own_conv st e (.inr fun a z => ⟨mvG_fz z, upd_ne (nf a z)⟩) (fun a q z hh => ⟨upd_ne (nL a _ _ z (.inl (Ne.symm ht))), ?_⟩) (fun _ z => z) oe, rfl⟩
      rw [if_pos hh, mvG_t z]
      simp
    | cons d ds ih =>
      intro vs i h
      obtain ⟨v, w, rfl, o1, o2⟩ := h
      refine ⟨v, w ++ [y], rfl, own_conv st d (.inr fun a z => ⟨mvG_fz z, upd_ne (nf a z)⟩) (fun a q z hh => ⟨upd_ne (nL a _ _ z (.inr (by simp))), ?_⟩) (fun _ z => z) o1, ?_⟩
      · rw [if_pos hh]
        exact mvG_o ht rfl z
      · have := ih o2
        rw [show i + 1 + ds.length = i + (d :: ds).length by simp; omega] at this
        exact this
  have := grow h3
  rw [Nat.zero_add] at this
  exact this
theorem Sok.push {ρ : DE} {g : G} {σ : L2.St} {H : Hp} {t t' : Nat} {L : Addr} {s : List Nat} {o o' : HO} (S : Sok K κ ρ g σ H) (ht : σ.length ≤ t) (ht' : σ.length ≤ t') (hL : H L = some o) (hs : stb o = false) (h2 : g L = .ow t []) :
    Sok K κ ρ (mvG t' t s (fun _ _ => false) g) σ (upd H L o') where
  ok := fun i k d h1 h3 => by
    obtain ⟨v, e, w⟩ := S.ok i k d h1 h3
    have hi : i < σ.length := (List.getElem?_eq_some_iff.mp e).1
    refine ⟨v, e, own_conv (fun a u z hz => ?_) d (.inr fun a z => ⟨mvG_fz z, upd_ne ?_⟩) (fun a q z hh => ⟨upd_ne ?_, ?_⟩) (fun _ z => z) w⟩
    · rw [upd_ne]
      · exact z
      · rintro rfl
        rw [hL] at z
        cases z
        rw [hs] at hz
        cases hz
    · rintro rfl
      rw [h2] at z
      cases z
    · rintro rfl
      have zz := h2.symm.trans z
      injection zz with z1 z2
      omega
    · rw [if_pos hh]
      exact mvG_o (by omega) rfl z
  gok := fun a h => by
    by_cases e : a = L
    · subst e; rw [upd_same]; simp
    · rw [upd_ne e]; exact S.gok a (mvG_ne h)
  len := S.len
  lek := S.lek
theorem Pres.push {n t t' : Nat} {g : G} {H : Hp} {L : Addr} {s : List Nat} {o o' : HO} (gok : ∀ a, g a ≠ .un → H a ≠ none) (ht' : t ≤ t') (hL : H L = some o) (hs : stb o = false) (h2 : g L = .ow t []) :
    Pres n t g H (mvG t' t s (fun _ _ => false) g) (upd H L o') where
  fz := fun a z => ⟨mvG_fz z, upd_ne (by rintro rfl; rw [h2] at z; cases z)⟩
  un := fun a z _ => ⟨mvG_un z, upd_ne (by rintro rfl; rw [h2] at z; cases z)⟩
  tp := fun a r p h1 h3 z => ⟨mvG_o (by omega) rfl z, upd_ne (by rintro rfl; rw [h2] at z; cases z; omega)⟩
  tm := fun a r p h1 h3 z => mvG_inv (by omega) z
  tu := fun a u z hz => by
    rw [upd_ne]
    · exact z
    · rintro rfl
      rw [hL] at z
      cases z
      rw [hs] at hz
      cases hz
def mYes : M := fun ρ => some (.bl true, ρ)
def cpL (vs : List Nat) (mg : MG) (mc me : M) : List D → DE → Option (List D × DE)
  | [], ρ => some ([], ρ)
  | d :: ds, ρ => (mg d (wp ρ vs)).bind fun ρ2 => match mc ρ2 with
    | some (.bl true, ρ3) => (me ρ3).bind fun x => (cpL vs mg mc me ds x.2).map fun y => (x.1 :: y.1, y.2)
    | some (.bl false, ρ3) => cpL vs mg mc me ds ρ3
    | _ => none
theorem cpL_cons {vs : List Nat} {mg : MG} {mc me : M} {d : D} {ds es : List D} {ρ ρ' : DE} (h : cpL vs mg mc me (d :: ds) ρ = some (es, ρ')) : ∃ ρ2 b ρ3, mg d (wp ρ vs) = some ρ2 ∧ mc ρ2 = some (.bl b, ρ3) ∧
    ((b = true ∧ ∃ e ρ4 r, me ρ3 = some (e, ρ4) ∧ cpL vs mg mc me ds ρ4 = some (r, ρ') ∧ es = e :: r) ∨ (b = false ∧ cpL vs mg mc me ds ρ3 = some (es, ρ'))) := by
  have h' : ((mg d (wp ρ vs)).bind fun ρ2 => match mc ρ2 with
    | some (.bl true, ρ3) => (me ρ3).bind fun x => (cpL vs mg mc me ds x.2).map fun y => (x.1 :: y.1, y.2)
    | some (.bl false, ρ3) => cpL vs mg mc me ds ρ3
    | _ => none) = some (es, ρ') := h
  cases e1 : mg d (wp ρ vs) with
  | none => rw [e1] at h'; cases h'
  | some ρ2 =>
    rw [e1] at h'
    simp only [Option.bind_some] at h'
    split at h'
    · rename_i ρ3 ec
      cases e2 : me ρ3 with
      | none => rw [e2] at h'; cases h'
      | some x =>
        rw [e2] at h'
        simp only [Option.bind_some] at h'
        cases e3 : cpL vs mg mc me ds x.2 with
        | none => rw [e3] at h'; cases h'
        | some y =>
          rw [e3] at h'
          cases h'
          exact ⟨ρ2, true, ρ3, rfl, ec, .inl ⟨rfl, x.1, x.2, y.1, e2, e3, rfl⟩⟩
    · rename_i ρ3 ec
      exact ⟨ρ2, false, ρ3, rfl, ec, .inr ⟨rfl, h'⟩⟩
    · cases h'
def mLc (pu : Bool) (vs : List Nat) (ml : ML) (mg : MG) (mc me : M) : M := fun ρ => (ml ρ).bind fun x => (cpL vs mg mc me x.1 x.2).bind fun y =>
  if y.1.length ≤ 16777216 then some (.lst y.1, if pu then x.2 else y.2) else none
theorem mLc_some {pu : Bool} {vs : List Nat} {ml : ML} {mg : MG} {mc me : M} {ρ ρ' : DE} {d : D} (h : mLc pu vs ml mg mc me ρ = some (d, ρ')) : ∃ ds ρ1 es ρ2, ml ρ = some (ds, ρ1) ∧ cpL vs mg mc me ds ρ1 = some (es, ρ2) ∧ es.length ≤ sizeLine ∧ d = .lst es ∧ ρ' = (if pu then ρ1 else ρ2) := by
  unfold mLc at h
  cases e : ml ρ with
  | none => rw [e] at h; cases h
  | some x =>
    rw [e] at h
    simp only [Option.bind_some] at h
    cases e2 : cpL vs mg mc me x.1 x.2 with
    | none => rw [e2] at h; cases h
    | some y =>
      rw [e2] at h
      simp only [Option.bind_some] at h
      split at h
      · cases h
        exact ⟨x.1, x.2, y.1, y.2, rfl, e2, by rw [sizeLine_eq]; assumption, rfl, rfl⟩
      · cases h
theorem lc_core' {n t : Nat} {tg iter elt : Expr} {ifs : List Expr} {own : List (Str × Nat)} {ml : ML} {mg : MG} {mc me : M} {ts : List Nat} {pi pc pe : Bool} {k : Nat} {wi : TI} {gt : TG} {tt : TT} {te : TE}
    (hn : X.N.length = n) (ht : n ≤ t) (h0 : k ≠ 0) (hκ : noneAt κ1 (own.map (·.2)) = true) (hκn : κ1.length = n)
    (hts : ts.all (fun i => (own.map (·.2)).contains i) = true) (hgo : ∀ d ρ ρ', mg d ρ = some ρ' → ρ'.length = ρ.length ∧ ∀ j : Nat, j ∉ ts → ρ'[j]? = ρ[j]?)
    (hcp : pc = true → ∀ ρ d ρ', mc ρ = some (d, ρ') → ρ' = ρ) (hep : pe = true → ∀ ρ d ρ', me ρ = some (d, ρ') → ρ' = ρ)
    (h1 : leO κ1 κ4 = true) (h2 : leO κ1 κ3 = true)
    (hwi : wi = fun σ H R => En n σ H → ∃ g ρ, Sok X.K κ ρ g σ H ∧ ∃ ds ρ', ml ρ = some (ds, ρ') ∧ ∀ J0 src H' g', Sok X.K κ1 ρ' g' σ H' → Pres n t g H g' H' → (pi = true → Same H H') → Dlv X.K J0 src ds → src g' H' → R J0 H')
    (hgt : gt = fun v σ H Q => σ.length = n → ∃ g ρ d, Sok X.K κ1 ρ g σ H ∧ Own X.K H g d 0 0 [] v ∧ ∃ ρ', mg d ρ = some ρ' ∧ gPost X.K n (t + 1) κ2 ts g σ H ρ' Q)
    (htt : tt = jTT X.K n κ2 mc κ3 pc (t + 1)) (hte : te = jTE X.K n κ3 me (.own (lv k)) κ4 pe (t + 1)) (σ : L2.St) (H : Hp) (Q : VK) (en : En n σ H)
    (q : ∃ g ρ, Sok X.K κ ρ g σ H ∧ ∃ d ρ', mLc (pi && (pc && pe)) (own.map (·.2)) ml mg mc me ρ = some (d, ρ') ∧ jPost X.K n t κ1 (.own k) (pi && (pc && pe)) g σ H d ρ' Q) : tLc wi gt tt te (own.map (·.2)) σ H Q := by
  obtain ⟨g, ρ, S, d, ρ', em, post⟩ := q
  obtain ⟨ds, ρ1, es, ρ2, e1, e2, hz, rfl, rfl⟩ := mLc_some em
  subst hwi hgt htt hte
  refine fun _ => ⟨g, ρ, S, ds, ρ1, e1, fun J0 src H1 g1 S1 P1 s1 dl sr => fun L nL => ?_⟩
  have hk := noneAt_ok hκ
  have lenσ : σ.length = n := en.2
  -- the new list
  let gL : G := fun a => if a = L then .ow t [] else g1 a
  have gLL : gL L = .ow t [] := if_pos rfl
  have gLo : ∀ a, a ≠ L → gL a = g1 a := fun a h => if_neg h
  have gLk : ∀ a, g1 a ≠ .un → gL a = g1 a := fun a h => gLo a fun z => S1.gok a h (z ▸ nL)
  have same0 : Same H1 (upd H1 L (.lst [])) := same_new nL
  have S1w := (S1.grow same0).wipe (vs := own.map (·.2)) hk
  have SL : Sok X.K κ1 (wp ρ1 (own.map (·.2))) gL (wp σ (own.map (·.2))) (upd H1 L (.lst [])) := by
    refine ⟨fun i k d h3 h4 => ?_, fun a h => ?_, S1w.len, S1w.lek⟩
    · obtain ⟨v, e, o⟩ := S1w.ok i k d h3 h4
      exact ⟨v, e, own_conv (fun _ _ z _ => z) d (.inr fun a z => ⟨by rw [gLk a (by rw [z]; simp)]; exact z, rfl⟩) (fun a q z hh => ⟨rfl, by rw [if_pos hh, gLk a (by rw [z]; simp)]; exact z⟩) (fun _ z => z) o⟩
    · by_cases e : a = L
      · subst e; rw [upd_same]; simp
      · rw [upd_ne e]; rw [gLo a e] at h; exact S1.gok a h
  have PL : Pres n t g1 H1 gL (upd H1 L (.lst [])) := by
    have hne : ∀ a, H1 a ≠ none → a ≠ L := fun a h z => h (z ▸ nL)
    refine ⟨fun a z => ?_, fun a z hh => ?_, fun a r p h3 h4 z => ?_, fun a r p h3 h4 z => ?_, fun a u z _ => same0 _ _ z⟩
    · have := hne a (S1.gok a (by rw [z]; simp))
      exact ⟨by rw [gLo a this]; exact z, upd_ne this⟩
    · have := hne a hh
      exact ⟨by rw [gLo a this]; exact z, upd_ne this⟩
    · have := hne a (S1.gok a (by rw [z]; simp))
      exact ⟨by rw [gLo a this]; exact z, upd_ne this⟩
    · by_cases e : a = L
      · subst e; rw [gLL] at z; cases z; omega
      · rw [gLo a e] at z; exact z
  have OL : Own X.K (upd H1 L (.lst [])) gL (.lst []) k t [] (.ref L) := ⟨L, [], rfl, upd_same, by rw [if_neg h0]; exact gLL, rfl⟩
  have wlen : (wp σ (own.map (·.2))).length = n := by rw [wp_len]; exact lenσ
  let W : Nat → Hp → Prop := fun i H' => i ≤ ds.length ∧ ∃ g' ρ' acc r, Sok X.K κ1 (wp ρ' (own.map (·.2))) g' (wp σ (own.map (·.2))) H' ∧ src g' H' ∧ Own X.K H' g' (.lst acc) k t [] (.ref L) ∧ cpL (own.map (·.2)) mg mc me (ds.drop i) ρ' = some (r, ρ2) ∧ acc ++ r = es ∧
    Pres n t g H g' H' ∧ ((pi && (pc && pe)) = true → Same H1 H') ∧ ((pi && (pc && pe)) = true → ρ'.length = ρ1.length ∧ ∀ j : Nat, j ∉ own.map (·.2) → ρ'[j]? = ρ1[j]?) ∧ ρ'.length = n
  refine ⟨fun i m H' => m = ds.length - i ∧ W i H', ⟨ds.length, by simp, Nat.zero_le _, gL, ρ1, [], es, SL, dl.keep _ _ _ _ sr PL.fz PL.tu, OL, by simpa using e2, rfl, P1.trans PL, fun _ => same0, fun _ => ⟨rfl, fun _ _ => rfl⟩, by rw [S1.len]; exact lenσ⟩, ?_⟩
  rintro i m H2 ⟨rfl, hle, g2, ρ3, acc, r, S2, sr2, O2, e3, er, P2, sm2, ag2, ln2⟩
  by_cases hlt : i < ds.length
  · obtain ⟨d, ed⟩ := ex_at hlt
    rw [drop_cons ed] at e3
    obtain ⟨ρ4, b, ρ5, e4, e5, e6⟩ := cpL_cons e3
    refine .inr ⟨dl.go i g2 H2 sr2 hlt, W (i + 1), fun H' hh => ⟨ds.length - (i + 1), by omega, rfl, hh⟩, fun x H3 y => ?_⟩
    obtain ⟨sm, ox⟩ := dl.yld i g2 H2 x H3 d sr2 S2.gok y ed
    have P3 : Pres n (t + 1) g2 H2 g2 H3 := Pres.grow S2.gok sm
    rw [wp_wipe]
    refine fun _ => ⟨g2, wp ρ3 (own.map (·.2)), d, S2.grow sm, ox, ρ4, e4, fun σ4 g4 S4 P4 f4 => ?_⟩
    have P5 := P3.trans P4
    have sr4 := dl.keep _ _ _ _ sr2 P5.fz P5.tu
    have O4 := P5.own ht (Nat.lt_succ_self t) O2
    have tsin : ∀ j, j ∉ own.map (·.2) → j ∉ ts := fun j hj hm => hj (by simpa using List.all_eq_true.mp hts j hm)
    have lenσ4 : σ4.length = n := by rw [← S4.len, (hgo _ _ _ e4).1, wp_len]; exact ln2
    have wpn : ∀ (l : L2.St), l.length = n → ∀ j, j ∈ own.map (·.2) → (wp l (own.map (·.2)))[j]? = if j < n then some none else none := fun l hl j hj => by
      by_cases hjn : j < n
      · rw [if_pos hjn]
        cases q : (wp l (own.map (·.2)))[j]? with
        | none => rw [List.getElem?_eq_none_iff, wp_len] at q; omega
        | some o => cases o with
          | none => rfl
          | some z => exact ((wp_some q).2 hj).elim
      · rw [if_neg hjn, List.getElem?_eq_none_iff, wp_len]; omega
    have wσ : wp σ4 (own.map (·.2)) = wp σ (own.map (·.2)) := by
      apply List.ext_getElem?
      intro j
      by_cases hj : j ∈ own.map (·.2)
      · rw [wpn _ lenσ4 j hj, wpn _ lenσ j hj]
      · rw [wp_out hj, f4 j (tsin j hj), wp_out hj]
    refine ⟨(wp_wipe _ _).trans wσ, fun _ => ?_⟩
    refine ⟨g4, ρ4, S4, b, ρ5, e5, fun H6 g6 S6 P6 s6 => ?_⟩
    have sr6 := dl.keep _ _ _ _ sr4 P6.fz P6.tu
    have O6 := P6.own ht (Nat.lt_succ_self t) O4
    have back : ∀ {κ' : OE} {ρ6 : DE} {g' : G} {H' : Hp}, Sok X.K κ' ρ6 g' σ4 H' → leO κ1 κ' = true → Sok X.K κ1 (wp ρ6 (own.map (·.2))) (wk κ1 g') (wp σ (own.map (·.2))) H' := fun {κ' ρ6 g' H'} s hl => by
      have := (s.weaken hl).wipe (vs := own.map (·.2)) hk
      rw [wσ] at this
      exact this
    have agree : (pi && (pc && pe)) = true → ρ4.length = ρ1.length ∧ ∀ j : Nat, j ∉ own.map (·.2) → ρ4[j]? = ρ1[j]? := fun hp => by
      obtain ⟨l1, a1⟩ := ag2 hp
      refine ⟨by rw [(hgo _ _ _ e4).1, wp_len]; exact l1, fun j hj => ?_⟩
      rw [(hgo _ _ _ e4).2 j (tsin j hj), wp_out hj]
      exact a1 j hj
    have P26 : Pres n t g H g6 H6 := P2.trans ((P5.trans P6).less (Nat.le_succ t))
    rcases e6 with ⟨rfl, e, ρ7, r7, e7, e8, rfl⟩ | ⟨rfl, e8⟩
    · refine iteT fun _ => ⟨g6, ρ5, S6, e, ρ7, e7, fun y H8 g8 S8 P8 s8 r8 => ?_⟩
      have O8 := P8.own ht (Nat.lt_succ_self t) O6
      have sr8 := dl.keep _ _ _ _ sr6 P8.fz P8.tu
      obtain ⟨L', vacc, eL, hL, hgL, hl⟩ := id O8
      cases eL
      rw [if_neg h0] at hgL
      have hz2 : vacc.length < sizeLine := by
        rw [ownL_len hl]
        have : (acc ++ e :: r7).length ≤ sizeLine := by rw [er]; exact hz
        simp at this
        omega
      refine ⟨vacc, hL, hz2, hlt, ?_⟩
      have S9 := S8.push (t := t) (t' := t + 1) (s := [acc.length]) (o' := .lst (vacc ++ [y])) (by omega) (by omega) hL rfl hgL
      have P9 : Pres n t g8 H8 _ _ := Pres.push (o' := .lst (vacc ++ [y])) (s := [acc.length]) S8.gok (Nat.le_succ t) hL rfl hgL
      have O9 := own_push (t + 1) (by omega) hL O8 h0 r8
      have Pw : Pres n t (mvG (t + 1) t [acc.length] (fun _ _ => false) g8) (upd H8 L (.lst (vacc ++ [y]))) (wk κ1 (mvG (t + 1) t [acc.length] (fun _ _ => false) g8)) (upd H8 L (.lst (vacc ++ [y]))) := Pres.weaken hκn
      have Pw1 : Pres n (t + 1) (mvG (t + 1) t [acc.length] (fun _ _ => false) g8) (upd H8 L (.lst (vacc ++ [y]))) (wk κ1 (mvG (t + 1) t [acc.length] (fun _ _ => false) g8)) (upd H8 L (.lst (vacc ++ [y]))) := Pres.weaken hκn
      refine ⟨_, ρ7, acc ++ [e], r7, back S9 h1, dl.keep _ _ _ _ sr8 (P9.trans Pw).fz (P9.trans Pw).tu, Pw1.own ht (Nat.lt_succ_self t) O9, e8, by rw [List.append_assoc]; exact er, P26.trans ((P8.less (Nat.le_succ t)).trans (P9.trans Pw)), fun hp => ?_, fun hp => ?_, ?_⟩
      · have hp' := hp
        simp only [Bool.and_eq_true] at hp'
        have sA : Same H1 H8 := ((sm2 hp).trans sm).trans ((s6 hp'.2.1).trans (s8 hp'.2.2))
        intro b u z
        rw [upd_ne (by rintro rfl; rw [nL] at z; cases z)]
        exact sA b u z
      · have hp' := hp
        simp only [Bool.and_eq_true] at hp'
        obtain ⟨l1, a1⟩ := agree hp
        rw [hep hp'.2.2 _ _ _ e7, hcp hp'.2.1 _ _ _ e5]
        exact ⟨l1, a1⟩
      · rw [S8.len, lenσ4]
    · refine iteF ?_
      have Pw : Pres n t g6 H6 (wk κ1 g6) H6 := Pres.weaken hκn
      refine ⟨hlt, wk κ1 g6, ρ5, acc, r, back S6 h2, dl.keep _ _ _ _ sr6 Pw.fz Pw.tu, (Pres.weaken (t := t + 1) hκn).own (H' := H6) ht (Nat.lt_succ_self t) O6, e8, er, P26.trans (Pres.weaken hκn), fun hp => ?_, fun hp => ?_, ?_⟩
      · have hp' := hp
        simp only [Bool.and_eq_true] at hp'
        exact ((sm2 hp).trans sm).trans (s6 hp'.2.1)
      · have hp' := hp
        simp only [Bool.and_eq_true] at hp'
        rw [hcp hp'.2.1 _ _ _ e5]
        exact agree hp
      · rw [S6.len, lenσ4]
  · have hi' : i = ds.length := by omega
    subst hi'
    rw [List.drop_length] at e3
    cases e3
    rw [List.append_nil] at er
    subst er
    have Sσ : Sok X.K κ1 (wp ρ2 (own.map (·.2))) g2 σ H2 := S2.unwipe (vs := own.map (·.2)) (by
      apply List.ext_getElem?
      intro j
      by_cases hj : j ∈ own.map (·.2)
      · cases q : (wp σ (own.map (·.2)))[j]? with
        | none => rw [List.getElem?_eq_none_iff] at q ⊢; rw [wp_len]; exact q
        | some o => cases o with
          | some z => exact ((wp_some q).2 hj).elim
          | none =>
            have hjn := (List.getElem?_eq_some_iff.mp q).1
            cases q2 : (wp (wp σ (own.map (·.2))) (own.map (·.2)))[j]? with
            | none => rw [List.getElem?_eq_none_iff] at q2; rw [wp_len] at q2; omega
            | some o2 => cases o2 with
              | none => rfl
              | some z => exact ((wp_some q2).2 hj).elim
      · rw [wp_out hj]) hk
    refine .inl ⟨dl.stop _ g2 H2 sr2 (Nat.le_refl _), post (.ref L) H2 g2 ?_ P2 (fun hp => ?_) O2⟩
    · -- the slots' data: those outside
      have take : ∀ ρx : DE, ρx.length = n → (∀ j : Nat, j ∉ own.map (·.2) → ρx[j]? = ρ2[j]?) → Sok X.K κ1 ρx g2 σ H2 := fun ρx hl ha =>
        ⟨fun i k d h3 h4 => by
          have hi : i ∉ own.map (·.2) := fun z => hk i z k h3
          exact Sσ.ok i k d h3 (by rw [wp_out hi, ← ha i hi]; exact h4), Sσ.gok, by rw [hl, lenσ], Sσ.lek⟩
      by_cases hp : (pi && (pc && pe)) = true
      · rw [if_pos hp]
        obtain ⟨l1, a1⟩ := ag2 hp
        exact take ρ1 (by rw [← l1]; exact ln2) fun j hj => (a1 j hj).symm
      · rw [if_neg hp]
        exact take ρ2 ln2 fun _ _ => rfl
    · have hp' := hp
      simp only [Bool.and_eq_true] at hp'
      exact (s1 hp'.1).trans (sm2 hp)
structure JTs (X : Cx) (κ : OE) (cs : List Expr) (m : M) (κ' : OE) (pu : Bool) : Prop where
  run : ∀ t, X.N.length ≤ t → PTs X cs (jTT X.K X.N.length κ m κ' pu t)
  pur : pu = true → ∀ ρ d ρ', m ρ = some (d, ρ') → ρ' = ρ
theorem PTs.imp {cs : List Expr} {t t' : TT} (h : PTs X cs t) (f : ∀ σ H Q, En X.N.length σ H → t' σ H Q → t σ H Q) : PTs X cs t' :=
  ⟨fun pins s σ H Q I q => h.run pins s σ H Q I (f σ H Q ⟨Inv.sz I, I.len⟩ q)⟩
theorem jts_nil : JTs X κ [] mYes κ true := by
  refine ⟨fun t ht => PTs.imp pts_nil fun σ H Q z q => ?_, fun _ ρ d ρ' e => by cases e; rfl⟩
  obtain ⟨g, ρ, S, b, ρ', em, post⟩ := q z
  cases em
  exact post H g S Pres.refl fun _ => Same.refl H
theorem jts_one {c : Expr} {m : M} {pu : Bool} (h : JT X κ c m κ1 pu) : JTs X κ [c] m κ1 pu := ⟨fun t ht => pts_one (h.run t ht), h.pur⟩
def InBlk (X : Cx) (scope : Scope) (F : Cx → Prop) : Prop := ∀ (s : Shared) (H : Hp) (C : Addr) (cl : List (Str × Addr)) (fp : List Addr), F (X.blk s H scope (compEnvC scope cl C X.env) fp)
theorem j_lc {tg iter elt : Expr} {ifs : List Expr} {scope : Scope} {own : List (Str × Nat)} {ml : ML} {mg : MG} {mc me : M} {ts : List Nat} {pi pc pe : Bool} {k : Nat} (hc : X.calm = true) (hN : X.N.Nodup)
    (hi : JI X κ tg iter ml κ1 pi) (ok : BlkOk X.N X.env.scope scope own) (hg : InBlk X scope fun Y => JG Y κ1 tg mg κ2 ts) (ht : InBlk X scope fun Y => JTs Y κ2 ifs mc κ3 pc) (he : InBlk X scope fun Y => J Y κ3 elt me (.own (lv k)) κ4 pe)
    (hs : ∀ x, foldedSetIterable iter X.env x = pure x) (h0 : k ≠ 0) (hκ : noneAt κ1 (own.map (·.2)) = true) (hκn : κ1.length = X.N.length) (hts : ts.all (fun i => (own.map (·.2)).contains i) = true) (h1 : leO κ1 κ4 = true) (h2 : leO κ1 κ3 = true) :
    J X κ (.ListComp elt [⟨tg, iter, ifs, 0⟩] scope pos) (mLc (pi && (pc && pe)) (own.map (·.2)) ml mg mc me) (.own k) κ1 (pi && (pc && pe)) := by
  refine ⟨fun t htt => PE.imp (pe_lc (te := jTE X.K X.N.length κ3 me (.own (lv k)) κ4 pe (t + 1)) (tt := jTT X.K X.N.length κ2 mc κ3 pc (t + 1)) (g := jTG X.K X.N.length κ1 mg κ2 ts (t + 1)) hc hN (hi.run t htt) ok (fun s H C cl fp => (hg s H C cl fp).run (t + 1) (by exact Nat.le_succ_of_le htt)) (fun s H C cl fp => (ht s H C cl fp).run (t + 1) (by exact Nat.le_succ_of_le htt)) (fun s H C cl fp => (he s H C cl fp).run (t + 1) (by exact Nat.le_succ_of_le htt)) hs) fun σ H Q z q => ?_, fun hp ρ d ρ' e => ?_⟩
  · exact lc_core' (tg := tg) (iter := iter) (elt := elt) (ifs := ifs) rfl htt h0 hκ hκn hts (hg X.s_0 H 0 [] []).out (ht X.s_0 H 0 [] []).pur (he X.s_0 H 0 [] []).pur h1 h2 rfl rfl rfl rfl σ H Q z (q z)
  · obtain ⟨ds, ρ1, es, ρ2, e1, e2, hz, rfl, rfl⟩ := mLc_some e
    rw [if_pos hp]
    simp only [Bool.and_eq_true] at hp
    exact hi.pur hp.1 _ _ _ e1
end VS
namespace VS
open PySem PySem.Spec PyProof.Rows L2
variable {K : PySem.W.Frag} {X : Cx} {κ κ1 κ2 κ3 κ4 : OE} {pos : Pos} {rc : RC}
structure Sg where
  ks : List Nat
  r : Nat
  ks' : List (Option Nat)
abbrev FM := List D → Option (D × List D)
def ArgsOk (K : PySem.W.Frag) (H : Hp) (g : G) : List Nat → Nat → List D → List V → Prop
  | [], _, ds, vs => ds = [] ∧ vs = []
  | k :: ks, j, ds, vs => ∃ d ds' v vs', ds = d :: ds' ∧ vs = v :: vs' ∧ Own K H g d k j [] v ∧ ArgsOk K H g ks (j + 1) ds' vs'
def ArgsPost (K : PySem.W.Frag) (H : Hp) (g : G) (ks' : List (Option Nat)) (ds : List D) (vs : List V) : Prop :=
  ∀ (j k : Nat) (d : D) (v : V), ks'[j]? = some (some k) → ds[j]? = some d → vs[j]? = some v → Own K H g d k j [] v
def fnSp (K : PySem.W.Frag) (sg : Sg) (f : FM) : Sp := fun vs H Q _ => ∃ g ds, (∀ a, g a ≠ .un → H a ≠ none) ∧ ArgsOk K H g sg.ks 0 ds vs ∧ ∃ d ds', f ds = some (d, ds') ∧ ds'.length = ds.length ∧
  ∀ v H' g' rr, sg.ks.length ≤ rr → (∀ a, g' a ≠ .un → H' a ≠ none) → Pres 0 0 g H g' H' → Own K H' g' d sg.r rr [] v → ArgsPost K H' g' sg.ks' ds' vs → Q v H'
theorem argsOk_len {H : Hp} {g : G} : ∀ {ks : List Nat} {j : Nat} {ds : List D} {vs : List V}, ArgsOk K H g ks j ds vs → ds.length = ks.length ∧ vs.length = ks.length
  | [], _, _, _, h => by obtain ⟨rfl, rfl⟩ := h; exact ⟨rfl, rfl⟩
  | k :: ks, _, _, _, h => by
    obtain ⟨d, ds', v, vs', rfl, rfl, _, h⟩ := h
    obtain ⟨h1, h2⟩ := argsOk_len h
    exact ⟨by simp [h1], by simp [h2]⟩
theorem argsOk_get {H : Hp} {g : G} : ∀ {ks : List Nat} {j : Nat} {ds : List D} {vs : List V} {i k : Nat} {d : D}, ArgsOk K H g ks j ds vs → ks[i]? = some k → ds[i]? = some d → ∃ v, vs[i]? = some v ∧ Own K H g d k (j + i) [] v
  | [], _, _, _, _, _, _, _, e, _ => by simp at e
  | k :: ks, j, _, _, 0, _, _, h, e, ed => by
    obtain ⟨d, ds', v, vs', rfl, rfl, o, h⟩ := h
    cases e
    cases ed
    exact ⟨v, rfl, o⟩
  | k :: ks, j, _, _, i + 1, _, _, h, e, ed => by
    obtain ⟨d, ds', v, vs', rfl, rfl, o, h⟩ := h
    have := argsOk_get (i := i) h e ed
    rw [show j + 1 + i = j + (i + 1) by omega] at this
    exact this
def outsD (ks' : List (Option Nat)) (ρ : DE) : Nat → List D → Option (List D)
  | _, [] => some []
  | j, d :: ds => (match ks'[j]? with
    | some (some _) => (match ρ[j]? with
      | some (some d') => some d'
      | _ => none)
    | _ => some d).bind fun x => (outsD ks' ρ (j + 1) ds).map fun r => x :: r
theorem outsD_get {ks' : List (Option Nat)} {ρ : DE} : ∀ {j : Nat} {ds es : List D}, outsD ks' ρ j ds = some es → es.length = ds.length ∧ ∀ i k d, ks'[j + i]? = some (some k) → es[i]? = some d → ρ[j + i]? = some (some d)
  | _, [], _, h => by cases h; exact ⟨rfl, fun i k d _ e => by simp at e⟩
  | j, d :: ds, es, h => by
    have h' : ((match ks'[j]? with
    | some (some _) => (match ρ[j]? with
      | some (some d') => some d'
      | _ => none)
    | _ => some d).bind fun x => (outsD ks' ρ (j + 1) ds).map fun r => x :: r) = some es := h
    cases e : (match ks'[j]? with
    | some (some _) => (match ρ[j]? with
      | some (some d') => some d'
      | _ => none)
    | _ => some d) with
    | none => rw [e] at h'; cases h'
    | some x =>
      rw [e] at h'
      simp only [Option.bind_some] at h'
      cases e2 : outsD ks' ρ (j + 1) ds with
      | none => rw [e2] at h'; cases h'
      | some r =>
        rw [e2] at h'
        cases h'
        obtain ⟨h1, h2⟩ := outsD_get e2
        refine ⟨by simp [h1], fun i k d' ek ed => ?_⟩
        cases i with
        | zero =>
          simp only [Nat.add_zero] at ek ⊢
          cases ed
          rw [ek] at e
          simp only at e
          split at e
          · cases e; assumption
          · cases e
        | succ i =>
          have := h2 i k d' (by rw [show j + 1 + i = j + (i + 1) by omega]; exact ek) ed
          rw [show j + 1 + i = j + (i + 1) by omega] at this
          exact this
def fM (np n : Nat) (ks' : List (Option Nat)) (m : SM) : FM := fun ds => if ds.length = np then (match m (ds.map some ++ List.replicate (n - ds.length) none) with
  | some (.rt d ρ) => (outsD ks' ρ 0 ds).map fun es => (d, es)
  | some (.nx ρ) => (outsD ks' ρ 0 ds).map fun es => (.non, es)
  | none => none) else none
theorem fM_some {np n : Nat} {ks' : List (Option Nat)} {m : SM} {ds es : List D} {d : D} (h : fM np n ks' m ds = some (d, es)) : ds.length = np ∧ ∃ o ρ, m (ds.map some ++ List.replicate (n - ds.length) none) = some o ∧ (o = .rt d ρ ∨ (o = .nx ρ ∧ d = .non)) ∧ outsD ks' ρ 0 ds = some es := by
  unfold fM at h
  split at h
  case isFalse => cases h
  refine ⟨by assumption, ?_⟩
  split at h
  · rename_i d' ρ e
    cases e2 : outsD ks' ρ 0 ds with
    | none => rw [e2] at h; cases h
    | some r => rw [e2] at h; cases h; exact ⟨_, ρ, e, .inl rfl, e2⟩
  · rename_i ρ e
    cases e2 : outsD ks' ρ 0 ds with
    | none => rw [e2] at h; cases h
    | some r => rw [e2] at h; cases h; exact ⟨_, ρ, e, .inr ⟨rfl, rfl⟩, e2⟩
  · cases h
def κ0 (sg : Sg) (n : Nat) : OE := sg.ks.map some ++ List.replicate (n - sg.ks.length) none
def rcOf (sg : Sg) (n : Nat) : RC := ⟨sg.r, sg.ks' ++ List.replicate (n - sg.ks'.length) none⟩
theorem app_some {α β : Type} {f : α → β} {l : List α} {m i : Nat} {x : β} (h : (l.map (fun a => some (f a)) ++ List.replicate m none)[i]? = some (some x)) : ∃ a, l[i]? = some a ∧ x = f a := by
  by_cases hi : i < l.length
  · rw [List.getElem?_append_left (by simpa using hi), List.getElem?_map] at h
    cases e : l[i]? with
    | none => rw [e] at h; cases h
    | some a => rw [e] at h; cases h; exact ⟨a, rfl, rfl⟩
  · rw [List.getElem?_append_right (by simpa using hi), List.getElem?_replicate] at h
    split at h <;> cases h
theorem body_ok {sg : Sg} {m : SM} {n : Nat} {N : List Str} {sts : List Stmt} (hN : X.N = N) (hn : N.length = n) (h : JB X (κ0 sg n) sts m (rcOf sg n).κr (rcOf sg n)) (h1 : sg.ks.length ≤ n) (h2 : sg.ks'.length = sg.ks.length)
    {vs : List V} {H : Hp} {Q : VK} {E : XK} {np : Nat} (q : fnSp X.K sg (fM np n sg.ks' m) vs H Q E) :
    PSs X sts (jTS X.K n (κ0 sg n) m (rcOf sg n).κr (rcOf sg n) (L2.start N vs) n) ∧ jTS X.K n (κ0 sg n) m (rcOf sg n).κr (rcOf sg n) (L2.start N vs) n { nx := fun _ H' => Q .non H', rt := Q } (L2.start N vs) H := by
  subst hN
  subst hn
  refine ⟨h.run _ _ (Nat.le_refl _), fun en => ?_⟩
  obtain ⟨g, ds, gok, ao, d, es, e, el, post⟩ := q
  obtain ⟨_, o, ρ, em, eo, ex⟩ := fM_some e
  obtain ⟨l1, l2⟩ := argsOk_len ao
  have st : ∀ (i : Nat) (v : V), vs[i]? = some v → (L2.start X.N vs)[i]? = some (some v) := fun i v e => by
    unfold L2.start
    rw [List.getElem?_append_left (by simpa using (List.getElem?_eq_some_iff.mp e).1), List.getElem?_map, e]
    rfl
  refine ⟨g, ds.map some ++ List.replicate (X.N.length - ds.length) none, ⟨fun i k d' ek ed => ?_, gok, ?_, ?_⟩, fun _ _ _ => rfl, o, em, ?_⟩
  · obtain ⟨k', ek', rfl⟩ := app_some (f := fun x => x) ek
    obtain ⟨d2, ed', rfl⟩ := app_some (f := fun x => x) ed
    obtain ⟨v, ev, ov⟩ := argsOk_get ao ek' ed'
    rw [Nat.zero_add] at ov
    exact ⟨v, st i v ev, ov⟩
  · have := en.2
    simp only [List.length_append, List.length_map, List.length_replicate]
    omega
  · have := en.2
    unfold κ0
    simp only [List.length_append, List.length_map, List.length_replicate]
    omega
  · have fin : ∀ (v : V) (σ' : L2.St) (H' : Hp) (g' : G) (rr : Nat), X.N.length ≤ rr → Sok X.K (rcOf sg X.N.length).κr ρ g' σ' H' → Pres X.N.length X.N.length g H g' H' → Fx (rcOf sg X.N.length) (L2.start X.N vs) σ' → Own X.K H' g' d sg.r rr [] v → Q v H' := fun v σ' H' g' rr hr S' P' F' o' => by
      refine post v H' g' rr (Nat.le_trans h1 hr) S'.gok ⟨P'.fz, P'.un, fun a r p _ h3 _ => by omega, fun a r p _ h3 _ => by omega, P'.tu⟩ o' fun j k d' v' ek ed ev => ?_
      have ek' : (rcOf sg X.N.length).κr[j]? = some (some k) := by
        show (sg.ks' ++ _)[j]? = _
        rw [List.getElem?_append_left (List.getElem?_eq_some_iff.mp ek).1]
        exact ek
      have hρ := (outsD_get ex).2 j k d' (by rw [Nat.zero_add]; exact ek) ed
      rw [Nat.zero_add] at hρ
      obtain ⟨v2, e2, o2⟩ := S'.ok j k d' ek' hρ
      rw [F' j k ek', st j v' ev] at e2
      cases e2
      exact o2
    rcases eo with rfl | ⟨rfl, rfl⟩
    · exact fun v σ' H' g' rr hr S' P' F' o' => fin v σ' H' g' rr hr S' P' F' o'
    · exact fun σ' H' g' S' P' F' => fin .non σ' H' g' X.N.length (Nat.le_refl _) S' P' F' rfl
theorem fnSp_len {sg : Sg} {f : FM} {ps : List Str} (h : ps.length = sg.ks.length) (vs : List V) (H : Hp) (Q : VK) (E : XK) (q : fnSp K sg f vs H Q E) : vs.length = ps.length := by
  obtain ⟨g, ds, _, ao, _⟩ := q
  rw [(argsOk_len ao).2, h]
theorem fM_len {np n : Nat} {ks' : List (Option Nat)} {m : SM} (ds : List D) (d : D) (es : List D) (h : fM np n ks' m ds = some (d, es)) : ds.length = np ∧ es.length = np := by
  obtain ⟨h1, o, ρ, _, _, h2⟩ := fM_some h
  exact ⟨h1, by rw [(outsD_get h2).1, h1]⟩
def mCall (f : FM) (ml : ML) : M := fun ρ => (ml ρ).bind fun x => (f x.1).map fun y => (y.1, x.2)
theorem mCall_some {f : FM} {ml : ML} {ρ ρ' : DE} {d : D} (h : mCall f ml ρ = some (d, ρ')) : ∃ ds es, ml ρ = some (ds, ρ') ∧ f ds = some (d, es) := by
  unfold mCall at h
  cases e : ml ρ with
  | none => rw [e] at h; cases h
  | some p =>
    rw [e] at h
    simp only [Option.bind_some] at h
    cases e2 : f p.1 with
    | none => rw [e2] at h; cases h
    | some b => rw [e2] at h; cases h; exact ⟨p.1, b.2, rfl, e2⟩
def gAll (H : Hp) : G := fun a => match H a with
  | none => .un
  | some _ => .fz
theorem gAll_fz {H : Hp} {a : Addr} (h : H a ≠ none) : gAll H a = .fz := by
  unfold gAll
  cases e : H a with
  | none => exact (h e).elim
  | some o => rfl
theorem gAll_gok (H : Hp) (a : Addr) (h : gAll H a ≠ .un) : H a ≠ none := fun e => h (by unfold gAll; rw [e])
theorem rep_all {H : Hp} : (d : D) → ∀ {v r p}, Rep K H d v → Own K H (gAll H) d 0 r p v
  | .non, _, _, _, h => h
  | .bl _, _, _, _, h => h
  | .int _, _, _, _, h => h
  | .str _, _, _, _, h => h
  | .obj _, _, _, _, h => h
  | .gon, _, _, _, h => h
  | .ins c ds, _, _, _, h => by
    obtain ⟨a, dx, vs, e, ha, hc, hl⟩ := h
    exact ⟨a, dx, vs, e, ha, hc, gAll_fz (by rw [ha]; simp), go ds hl⟩
  | .tup ds, _, _, _, h => by
    obtain ⟨a, vs, e, ha, hl⟩ := h
    exact ⟨a, vs, e, ha, go ds hl⟩
  | .lst ds, _, _, _, h => by
    obtain ⟨a, vs, e, ha, hl⟩ := h
    exact ⟨a, vs, e, ha, gAll_fz (by rw [ha]; simp), go ds hl⟩
  | .rol ns, _, _, _, h => h
  | .dic q ds, _, _, _, h => by
    obtain ⟨a, vs, e, ha, hq, hl⟩ := h
    exact ⟨a, vs, e, ha.imp id fun z => ⟨rfl, z⟩, hq, gAll_fz (by rcases ha with z | ⟨o, z⟩ <;> rw [z] <;> simp), go ds hl⟩
  | .nd q ds, _, _, _, h => by
    obtain ⟨a, es, e, ha, hq, hn, hl⟩ := h
    exact ⟨a, es, e, ha.imp id fun z => ⟨rfl, z⟩, hq, hn, gAll_fz (by rcases ha with z | ⟨o, z⟩ <;> rw [z] <;> simp), go ds hl⟩
where
  go : (ds : List D) → ∀ {vs r p i}, RepL K H ds vs → OwnL K H (gAll H) ds 0 r p i vs
  | [], _, _, _, _, h => h
  | d :: ds, _, _, _, _, h => by
    obtain ⟨v, w, e, h1, h2⟩ := h
    exact ⟨v, w, e, rep_all d h1, go ds h2⟩
theorem args_all {H : Hp} : ∀ {ds : List D} {vs : List V} {j n : Nat}, ds.length = n → RepL K H ds vs → ArgsOk K H (gAll H) (List.replicate n 0) j ds vs
  | [], _, _, _, e, h => by
    cases e
    cases (show _ = _ from h)
    exact ⟨rfl, rfl⟩
  | d :: ds, _, _, _, e, h => by
    cases e
    obtain ⟨v, w, rfl, h1, h2⟩ := h
    exact ⟨d, ds, v, w, rfl, rfl, rep_all d h1, args_all rfl h2⟩
theorem call_pure {e : Expr} {es : List Expr} {ml : ML} {ms : List Am} {pu : Bool} {f : FM} {n r : Nat} {ks' : List (Option Nat)} {E : XK} (ha : JA X κ es ml ms κ1 pu) (hm : allRz ms = true) (hlen : ∀ ds d es, f ds = some (d, es) → ds.length = n ∧ es.length = n)
    (mk : ∀ {t : TA}, PA X es t → PE X e (tCall (fnSp X.K ⟨List.replicate n 0, r, ks'⟩ f) [] E t)) {rz : Rz} (hr : rz = .rep ∨ (rz = .own r ∧ 99 ≤ r)) : J X κ e (mCall f ml) rz κ1 pu := by
  refine ⟨fun t ht => PE.imp (mk (ha.run t ht)) fun σ H Q z q => ?_, fun hp ρ d ρ' e => ?_⟩
  · obtain ⟨g, ρ, S, d, ρ', em, post⟩ := q z
    obtain ⟨ds, es, e1, e2⟩ := mCall_some em
    refine fun _ => ⟨g, ρ, S, ds, ρ', e1, fun vs H1 g1 S1 P1 s1 r1 => ?_⟩
    obtain ⟨l1, l2⟩ := hlen _ _ _ e2
    rw [List.append_nil]
    refine ⟨gAll H1, ds, gAll_gok H1, args_all l1 (rows_repL hm r1), d, es, e2, by rw [l1, l2], fun v H' g' rr hrr gok' P o _ => ?_⟩
    have sm : Same H1 H' := fun a u e => by rw [(P.fz a (gAll_fz (by rw [e]; simp))).2]; exact e
    have old : ∀ a, H1 a ≠ none → g' a = .fz := fun a h => (P.fz a (gAll_fz h)).1
    have sm' : ∀ a, H1 a ≠ none → H' a = H1 a := fun a h => (P.fz a (gAll_fz h)).2
    rcases hr with rfl | ⟨rfl, h99⟩
    · exact post v H' g1 (S1.grow sm) (P1.trans (Pres.grow S1.gok sm)) (fun e => (s1 e).trans sm) (own_rep d o)
    · let g2 : G := fun a => match H1 a with
        | some _ => g1 a
        | none => (match g' a with
          | .ow r' q => if r' = rr then .ow t q else .un
          | _ => .un)
      have g2o : ∀ a, H1 a ≠ none → g2 a = g1 a := fun a h => by
        show (match H1 a with | some _ => g1 a | none => _) = _
        cases e : H1 a with
        | none => exact (h e).elim
        | some u => rfl
      have g2n : ∀ a, H1 a = none → g2 a = (match g' a with
          | .ow r' q => if r' = rr then .ow t q else .un
          | _ => .un) := fun a h => by
        show (match H1 a with | some _ => g1 a | none => _) = _
        rw [h]
      have P2 : Pres X.N.length t g1 H1 g2 H' := by
        refine ⟨fun a h => ?_, fun a h hn => ⟨(g2o a hn).trans h, sm' a hn⟩, fun a r' p h1 h2 h => ?_, fun a r' p h1 h2 h => ?_, fun a u h _ => sm a u h⟩
        · have := S1.gok a (by rw [h]; simp)
          exact ⟨(g2o a this).trans h, sm' a this⟩
        · have := S1.gok a (by rw [h]; simp)
          exact ⟨(g2o a this).trans h, sm' a this⟩
        · cases e : H1 a with
          | some u => rw [g2o a (by rw [e]; simp)] at h; exact h
          | none =>
            rw [g2n a e] at h
            split at h
            · split at h
              · cases h; omega
              · cases h
            · cases h
      refine post v H' g2 ⟨fun i k d' h1 h2 => ?_, fun a h => ?_, S1.len, S1.lek⟩ (P1.trans P2) (fun e => (s1 e).trans sm) ?_
      · obtain ⟨v', e', o'⟩ := S1.ok i k d' h1 h2
        refine ⟨v', e', own_conv (fun a u z _ => sm a u z) d' (.inr fun a z => P2.fz a z) (fun a q z hh => ?_) (fun _ z => z) o'⟩
        have := S1.gok a (by rw [z]; simp)
        exact ⟨sm' a this, by rw [if_pos hh, g2o a this]; exact z⟩
      · cases e : H1 a with
        | some u => rw [sm' a (by rw [e]; simp), e]; simp
        | none =>
          rw [g2n a e] at h
          refine gok' a fun z => ?_
          rw [z] at h
          exact h rfl
      · refine own_conv (fun _ _ z _ => z) d (.inl h99) (fun a q z hh => ⟨rfl, ?_⟩) (fun _ z => z) o
        have e : H1 a = none := by
          cases e : H1 a with
          | none => rfl
          | some u =>
            have := old a (by rw [e]; simp)
            rw [z] at this
            cases this
        rw [if_pos hh, g2n a e, z]
        simp
  · obtain ⟨ds, es, e1, e2⟩ := mCall_some e
    exact ha.pur hp _ _ _ e1
end VS
namespace VS
open PySem PySem.Spec PyProof.Rows L2
variable {K : PySem.W.Frag} {X : Cx} {κ κ1 κ2 κ3 κ4 : OE} {pos : Pos} {rc : RC}
def ioR (io : Option (Nat × Nat)) (r : Nat) : Option Nat := match io with
  | some (j0, i0) => if r = i0 then some j0 else none
  | none => none
def msOk (io : Option (Nat × Nat)) (κ : OE) : Nat → List Am → List Nat → Bool
  | _, [], [] => true
  | j, .rz (.own k) :: ms, k' :: ks => decide (k = k') && msOk io κ (j + 1) ms ks
  | j, .io i :: ms, k' :: ks => decide (io = some (j, i)) && (decide (κ[i]? = some (some k')) && msOk io κ (j + 1) ms ks)
  | _, _, _ => false
def gcall (t m : Nat) (io : Option (Nat × Nat)) (g : G) : G := fun a => match g a with
  | .ow r q => if t ≤ r ∧ r < t + m then .ow (r - t) q else (match ioR io r with
    | some j => .ow j q
    | none => .un)
  | z => z
theorem msOk_len {io : Option (Nat × Nat)} {κ : OE} : ∀ {j : Nat} {ms : List Am} {ks : List Nat}, msOk io κ j ms ks = true → ms.length = ks.length
  | _, [], [], _ => rfl
  | _, .rz (.own k) :: ms, k' :: ks, h => by
    have h' : (decide (k = k') && msOk io κ _ ms ks) = true := h
    rw [Bool.and_eq_true] at h'
    simp [msOk_len h'.2]
  | _, .io i :: ms, k' :: ks, h => by
    have h' : (decide (io = some (_, i)) && (decide (κ[i]? = some (some k')) && msOk io κ _ ms ks)) = true := h
    simp only [Bool.and_eq_true] at h'
    simp [msOk_len h'.2.2]
  | _, [], _ :: _, h => by cases h
  | _, .rz .rep :: _, _, h => by cases h
  | _, .rz (.own _) :: _, [], h => by cases h
  | _, .io _ :: _, [], h => by cases h
theorem args_call {n t m : Nat} {io : Option (Nat × Nat)} {g : G} {H : Hp} {ρ : DE} {σ : L2.St} (S : Sok K κ ρ g σ H) (hσ : σ.length = n) (hn : n ≤ t) : ∀ {j : Nat} {ms : List Am} {ks : List Nat} {ds : List D} {vs : List V}, msOk io κ j ms ks = true → j + ms.length ≤ m →
    RowsOk K H g σ ρ (t + j) ms ds vs → ArgsOk K H (gcall t m io g) ks j ds vs
  | _, [], [], _, _, _, _, h => h
  | j, .rz (.own k) :: ms, k' :: ks, _, _, h, hl, r => by
    have h' : (decide (k = k') && msOk io κ (j + 1) ms ks) = true := h
    rw [Bool.and_eq_true, decide_eq_true_eq] at h'
    obtain ⟨rfl, h'⟩ := h'
    obtain ⟨d, ds', v, vs', rfl, rfl, h1, h2⟩ := r
    simp only [List.length_cons] at hl
    refine ⟨d, ds', v, vs', rfl, rfl, own_conv (fun _ _ z _ => z) d (.inr fun a z => ⟨by unfold gcall; rw [z], rfl⟩) (fun a q z hh => ⟨rfl, ?_⟩) (fun _ z => z) h1, args_call S hσ hn h' (by omega) (by rw [← Nat.add_assoc]; exact h2)⟩
    rw [if_pos hh]
    unfold gcall
    rw [z]
    simp only []
    rw [if_pos (by omega)]
    congr 1
    omega
  | j, .io i :: ms, k' :: ks, _, _, h, hl, r => by
    have h' : (decide (io = some (j, i)) && (decide (κ[i]? = some (some k')) && msOk io κ (j + 1) ms ks)) = true := h
    simp only [Bool.and_eq_true, decide_eq_true_eq] at h'
    obtain ⟨e1, e2, h'⟩ := h'
    obtain ⟨d, ds', v, vs', rfl, rfl, ⟨h1, h3⟩, h2⟩ := r
    simp only [List.length_cons] at hl
    obtain ⟨v2, e3, o⟩ := S.ok i k' d e2 h3
    rw [h1] at e3
    cases e3
    have hi : i < t := by
      have := (List.getElem?_eq_some_iff.mp h1).1
      omega
    refine ⟨d, ds', v, vs', rfl, rfl, own_conv (fun _ _ z _ => z) d (.inr fun a z => ⟨by unfold gcall; rw [z], rfl⟩) (fun a q z hh => ⟨rfl, ?_⟩) (fun _ z => z) o, args_call S hσ hn h' (by omega) (by rw [← Nat.add_assoc]; exact h2)⟩
    rw [if_pos hh]
    unfold gcall
    rw [z]
    simp only []
    rw [if_neg (by omega), e1]
    simp [ioR]
  | _, [], _ :: _, _, _, h, _, _ => by cases h
  | _, .rz .rep :: _, _, _, _, h, _, _ => by cases h
  | _, .rz (.own _) :: _, [], _, _, h, _, _ => by cases h
  | _, .io _ :: _, [], _, _, h, _, _ => by cases h
def gback (t m rr : Nat) (io : Option (Nat × Nat)) (g g' : G) : G := fun a => match g' a with
  | .fz => .fz
  | .ow r q => if r = rr then .ow t q else (match io with
    | some (j0, i0) => if r = j0 then .ow i0 q else .un
    | none => .un)
  | .un => (match gcall t m io g a with
    | .un => g a
    | _ => .un)
def upO (io : Option (Nat × Nat)) (ks' : List (Option Nat)) (κ : OE) : OE := match io with
  | some (j0, i0) => κ.set i0 ((ks'[j0]?).getD none)
  | none => κ
def upD (io : Option (Nat × Nat)) (es : List D) (ρ : DE) : DE := match io with
  | some (j0, i0) => ρ.set i0 es[j0]?
  | none => ρ
def mCallO (f : FM) (io : Option (Nat × Nat)) (ml : ML) : M := fun ρ => (ml ρ).bind fun x => (f x.1).map fun y => (y.1, upD io y.2 x.2)
theorem mCallO_some {f : FM} {io : Option (Nat × Nat)} {ml : ML} {ρ ρ' : DE} {d : D} (h : mCallO f io ml ρ = some (d, ρ')) : ∃ ds ρ1 es, ml ρ = some (ds, ρ1) ∧ f ds = some (d, es) ∧ ρ' = upD io es ρ1 := by
  unfold mCallO at h
  cases e : ml ρ with
  | none => rw [e] at h; cases h
  | some p =>
    rw [e] at h
    simp only [Option.bind_some] at h
    cases e2 : f p.1 with
    | none => rw [e2] at h; cases h
    | some b => rw [e2] at h; cases h; exact ⟨p.1, p.2, b.2, rfl, e2, rfl⟩
def ioIn (io : Option (Nat × Nat)) (m n : Nat) : Bool := match io with
  | some (j0, i0) => decide (j0 < m) && decide (i0 < n)
  | none => true
theorem rows_io {H : Hp} {g : G} {σ : L2.St} {ρ : DE} {j0 i0 : Nat} {κ : OE} : ∀ {ms : List Am} {t j : Nat} {ks : List Nat} {ds : List D} {vs : List V}, msOk (some (j0, i0)) κ j ms ks = true → RowsOk K H g σ ρ t ms ds vs →
    ∀ i, ms[i]? = some (.io i0) → j + i = j0 ∧ ∃ v, vs[i]? = some v ∧ σ[i0]? = some (some v)
  | [], _, _, _, _, _, _, _, i, e => by simp at e
  | .rz (.own k) :: ms, t, j, k' :: ks, _, _, h, r, i, e => by
    have h' : (decide (k = k') && msOk (some (j0, i0)) κ (j + 1) ms ks) = true := h
    rw [Bool.and_eq_true] at h'
    obtain ⟨d, ds', v, vs', rfl, rfl, h1, h2⟩ := r
    cases i with
    | zero => cases e
    | succ i =>
      obtain ⟨q1, q2⟩ := rows_io h'.2 h2 i e
      exact ⟨by omega, q2⟩
  | .io i :: ms, t, j, k' :: ks, _, _, h, r, i2, e => by
    have h' : (decide (some (j0, i0) = some (j, i)) && (decide (κ[i]? = some (some k')) && msOk (some (j0, i0)) κ (j + 1) ms ks)) = true := h
    simp only [Bool.and_eq_true, decide_eq_true_eq] at h'
    obtain ⟨d, ds', v, vs', rfl, rfl, h1, h2⟩ := r
    cases i2 with
    | zero =>
      have e1 := h'.1
      cases e1
      exact ⟨rfl, v, rfl, h1.1⟩
    | succ i2 =>
      obtain ⟨q1, q2⟩ := rows_io h'.2.2 h2 i2 e
      exact ⟨by omega, q2⟩
  | .rz .rep :: _, _, _, _, _, _, h, _, _, _ => by cases h
  | .rz (.own _) :: _, _, _, [], _, _, h, _, _, _ => by cases h
  | .io _ :: _, _, _, [], _, _, h, _, _, _ => by cases h
def ioThere (io : Option (Nat × Nat)) (ms : List Am) : Bool := match io with
  | some (j0, i0) => (match ms[j0]? with
    | some (.io i) => decide (i = i0)
    | _ => false)
  | none => true
theorem call_own {e : Expr} {es : List Expr} {ml : ML} {ms : List Am} {pu : Bool} {f : FM} {sg : Sg} {io : Option (Nat × Nat)} {E : XK} (ha : JA X κ es ml ms κ1 pu) (hm : msOk io κ1 0 ms sg.ks = true) (hio : ioIn io sg.ks.length X.N.length = true) (hth : ioThere io ms = true)
    (hlen : ∀ ds d es, f ds = some (d, es) → es.length = ds.length)
    (mk : ∀ {t : TA}, PA X es t → PE X e (tCall (fnSp X.K sg f) [] E t)) : J X κ e (mCallO f io ml) (.own sg.r) (upO io sg.ks' κ1) false := by
  refine ⟨fun t ht => PE.imp (mk (ha.run t ht)) fun σ H Q z q => ?_, fun hp => by cases hp⟩
  obtain ⟨g, ρ, S, d, ρ', em, post⟩ := q z
  obtain ⟨ds, ρ1, es, e1, e2, rfl⟩ := mCallO_some em
  refine fun _ => ⟨g, ρ, S, ds, ρ1, e1, fun vs H1 g1 S1 P1 s1 r1 => ?_⟩
  have hml := msOk_len hm
  show fnSp X.K sg f (vs ++ []) H1 Q E
  rw [List.append_nil]
  have lenσ : σ.length = X.N.length := z.2
  have ao : ArgsOk X.K H1 (gcall t sg.ks.length io g1) sg.ks 0 ds vs := args_call S1 lenσ ht (j := 0) hm (by omega) r1
  have gcn : ∀ a, gcall t sg.ks.length io g1 a ≠ .un → g1 a ≠ .un := fun a h zz => h (by unfold gcall; rw [zz])
  refine ⟨_, ds, fun a h => S1.gok a (gcn a h), ao, d, es, e2, hlen _ _ _ e2, fun v H' g' rr hrr gok' P o ap => ?_⟩
  -- the map behind
  have bfz : ∀ a, g' a = .fz → gback t sg.ks.length rr io g1 g' a = .fz := fun a h => by unfold gback; rw [h]
  have keep : ∀ a, gcall t sg.ks.length io g1 a = .un → H1 a ≠ none → gback t sg.ks.length rr io g1 g' a = g1 a ∧ H' a = H1 a := fun a h hn => by
    obtain ⟨h1, h2⟩ := P.un a h hn
    refine ⟨?_, h2⟩
    unfold gback
    rw [h1]
    simp only []
    rw [h]
  have cfz : ∀ a, g1 a = .fz → gcall t sg.ks.length io g1 a = .fz := fun a h => by unfold gcall; rw [h]
  have cun : ∀ a, g1 a = .un → gcall t sg.ks.length io g1 a = .un := fun a h => by unfold gcall; rw [h]
  have cow : ∀ a r q, g1 a = .ow r q → r < t → ioR io r = none → gcall t sg.ks.length io g1 a = .un := fun a r q h hr hi => by
    unfold gcall
    rw [h]
    simp only []
    rw [if_neg (by omega), hi]
  have ion : ∀ r, X.N.length ≤ r → ioR io r = none := fun r hr => by
    cases io with
    | none => rfl
    | some p =>
      obtain ⟨j0, i0⟩ := p
      have : decide (j0 < sg.ks.length) = true ∧ decide (i0 < X.N.length) = true := by
        have h : (decide (j0 < sg.ks.length) && decide (i0 < X.N.length)) = true := hio
        rw [Bool.and_eq_true] at h
        exact h
      have h2 := of_decide_eq_true this.2
      show (if r = i0 then some j0 else none) = none
      rw [if_neg (by omega)]
  have P2 : Pres X.N.length t g1 H1 (gback t sg.ks.length rr io g1 g') H' := by
    refine ⟨fun a h => ?_, fun a h hn => ?_, fun a r p h1 h2 h => ?_, fun a r p h1 h2 h => ?_, fun a u h hs => P.tu a u h hs⟩
    · obtain ⟨h3, h4⟩ := P.fz a (cfz a h)
      exact ⟨bfz a h3, h4⟩
    · obtain ⟨h3, h4⟩ := keep a (cun a h) hn
      exact ⟨h3.trans h, h4⟩
    · obtain ⟨h3, h4⟩ := keep a (cow a r p h h2 (ion r h1)) (S1.gok a (by rw [h]; simp))
      exact ⟨h3.trans h, h4⟩
    · unfold gback at h
      split at h
      · cases h
      · split at h
        · cases h; omega
        · split at h
          · rename_i j0 i0
            split at h
            · cases h
              have h' : (decide (j0 < sg.ks.length) && decide (r < X.N.length)) = true := hio
              rw [Bool.and_eq_true] at h'
              have := of_decide_eq_true h'.2
              omega
            · cases h
          · cases h
      · split at h
        · exact h
        · cases h
  refine post v H' _ ⟨fun i k d' h1 h2 => ?_, fun a h => ?_, ?_, ?_⟩ (P1.trans P2) (fun e => by cases e) ?_
  · -- the slots
    cases hio2 : ioR io i with
    | none =>
      have h1' : κ1[i]? = some (some k) := by
        cases io with
        | none => exact h1
        | some p =>
          obtain ⟨j0, i0⟩ := p
          have hne : i ≠ i0 := fun e => by
            have : (if i = i0 then some j0 else none) = none := hio2
            rw [if_pos e] at this
            cases this
          have h1'' : (κ1.set i0 ((sg.ks'[j0]?).getD none))[i]? = some (some k) := h1
          rw [List.getElem?_set_ne (Ne.symm hne)] at h1''
          exact h1''
      have h2' : ρ1[i]? = some (some d') := by
        cases io with
        | none => exact h2
        | some p =>
          obtain ⟨j0, i0⟩ := p
          have hne : i ≠ i0 := fun e => by
            have : (if i = i0 then some j0 else none) = none := hio2
            rw [if_pos e] at this
            cases this
          have h2'' : (ρ1.set i0 es[j0]?)[i]? = some (some d') := h2
          rw [List.getElem?_set_ne (Ne.symm hne)] at h2''
          exact h2''
      obtain ⟨v', e', o'⟩ := S1.ok i k d' h1' h2'
      have hi : i < t := by
        have := (List.getElem?_eq_some_iff.mp e').1
        omega
      refine ⟨v', e', own_conv (fun a u z hz => P.tu a u z hz) d' (.inr fun a z => P2.fz a z) (fun a q z hh => ?_) (fun _ z => z) o'⟩
      obtain ⟨h3, h4⟩ := keep a (cow a i _ z hi hio2) (S1.gok a (by rw [z]; simp))
      exact ⟨h4, by rw [if_pos hh]; exact h3.trans z⟩
    | some j =>
      cases io with
      | none => cases hio2
      | some p =>
        obtain ⟨j0, i0⟩ := p
        have e3 : i = i0 ∧ j0 = j := by
          have : (if i = i0 then some j0 else none) = some j := hio2
          by_cases e : i = i0
          · rw [if_pos e] at this; cases this; exact ⟨e, rfl⟩
          · rw [if_neg e] at this; cases this
        obtain ⟨rfl, rfl⟩ := e3
        have h1'' : (κ1.set i ((sg.ks'[j0]?).getD none))[i]? = some (some k) := h1
        have h2'' : (ρ1.set i es[j0]?)[i]? = some (some d') := h2
        rcases set_some h1'' with ⟨_, ek, _⟩ | ⟨hh, _⟩
        · rcases set_some h2'' with ⟨_, ed, _⟩ | ⟨hh, _⟩
          · have ek' : sg.ks'[j0]? = some (some k) := by
              cases q : sg.ks'[j0]? with
              | none => rw [q] at ek; cases ek
              | some o => rw [q] at ek; cases ek; rfl
            have hth' : ms[j0]? = some (.io i) := by
              have h : (match ms[j0]? with
                | some (.io i2) => decide (i2 = i)
                | _ => false) = true := hth
              split at h
              · rename_i i2 e4
                rw [of_decide_eq_true h] at e4
                exact e4
              · cases h
            obtain ⟨_, v', ev, es'⟩ := rows_io hm r1 j0 hth'
            refine ⟨v', es', own_conv (fun a u z _ => z) d' (.inr fun a z => ⟨bfz a z, rfl⟩) (fun a q z hh => ⟨rfl, ?_⟩) (fun _ z => z) (ap j0 k d' v' ek' ed.symm ev)⟩
            rw [if_pos hh]
            unfold gback
            rw [z]
            simp only []
            have hj : j0 < sg.ks.length := by
              have h' : (decide (j0 < sg.ks.length) && decide (i < X.N.length)) = true := hio
              rw [Bool.and_eq_true] at h'
              exact of_decide_eq_true h'.1
            rw [if_neg (by omega)]
            simp
          · exact (hh rfl).elim
        · exact (hh rfl).elim
  · unfold gback at h
    split at h
    · exact gok' a (by rename_i e; rw [e]; simp)
    · exact gok' a (by rename_i e; rw [e]; simp)
    · rename_i e
      split at h
      · rename_i e2
        have hn := S1.gok a h
        rw [(P.un a e2 hn).2]
        exact hn
      · exact (h rfl).elim
  · cases io with
    | none => exact S1.len
    | some p => show (ρ1.set _ _).length = _; rw [List.length_set]; exact S1.len
  · cases io with
    | none => exact S1.lek
    | some p => show (κ1.set _ _).length = _; rw [List.length_set]; exact S1.lek
  · refine own_conv (fun _ _ z _ => z) d (.inr fun a z => ⟨bfz a z, rfl⟩) (fun a q z hh => ⟨rfl, ?_⟩) (fun _ z => z) o
    rw [if_pos hh]
    unfold gback
    rw [z]
    simp
end VS
namespace VS
open PySem PySem.Spec PyProof.Rows L2
variable {K : PySem.W.Frag} {X : Cx} {κ κ1 κ2 κ3 κ4 : OE} {pos : Pos} {rc : RC}
theorem Sok.rewrite {ρ : DE} {g g' : G} {σ : L2.St} {H H' : Hp} {i k : Nat} {L : Addr} {dN : D} {o : HO} (S : Sok K κ ρ g σ H) (hk : κ[i]? = some (some k)) (hv : σ[i]? = some (some (.ref L)))
    (hL : H L = some o) (hs : stb o = false) (hg : g L = .ow i []) (hH : ∀ a, a ≠ L → H' a = H a) (hL' : H' L ≠ none) (hg' : ∀ a, g a ≠ .un → (∀ q, g a ≠ .ow i q) → (∀ r q, g a = .ow r q → r < σ.length) → g' a = g a) (hgz : ∀ a, g a = .fz → g' a = .fz) (hgn : ∀ a, g' a ≠ .un → g a ≠ .un)
    (o' : Own K H' g' dN k i [] (.ref L)) : Sok K κ (ρ.set i (some dN)) g' σ H' where
  ok := fun j k' d' h1 h2 => by
    rcases set_some h2 with ⟨rfl, e, _⟩ | ⟨hj, h2⟩
    · cases e
      rw [hk] at h1
      cases h1
      exact ⟨_, hv, o'⟩
    · obtain ⟨v', es, w⟩ := S.ok j k' d' h1 h2
      have hjl := (List.getElem?_eq_some_iff.mp es).1
      refine ⟨v', es, own_conv (fun a u z hz => ?_) d' (.inr fun a z => ⟨hgz a z, hH a ?_⟩) (fun a q z hh => ⟨hH a ?_, ?_⟩) (fun _ z => z) w⟩
      · rw [hH a]
        · exact z
        · rintro rfl
          rw [hL] at z
          cases z
          rw [hs] at hz
          cases hz
      · rintro rfl
        rw [hg] at z
        cases z
      · rintro rfl
        rw [hg] at z
        injection z with z1 z2
        exact hj z1.symm
      · rw [if_pos hh, hg' a (by rw [z]; simp) (fun q' e => by rw [z] at e; injection e with z1 z2; exact hj z1) (fun r q' e => by rw [z] at e; cases e; exact hjl)]
        exact z
  gok := fun a h => by
    by_cases e : a = L
    · subst e; exact hL'
    · rw [hH a e]; exact S.gok a (hgn a h)
  len := by rw [List.length_set]; exact S.len
  lek := S.lek
theorem Pres.rewrite {n t i : Nat} {g g' : G} {H H' : Hp} {L : Addr} {o : HO} (gok : ∀ a, g a ≠ .un → H a ≠ none) (hi : i < n) (hL : H L = some o) (hs : stb o = false) (hg : g L = .ow i []) (hH : ∀ a, a ≠ L → H' a = H a)
    (hgz : ∀ a, g a = .fz → g' a = .fz) (hgu : ∀ a, g a = .un → g' a = .un) (hgt : ∀ a r q, n ≤ r → r < t → g a = .ow r q → g' a = .ow r q) (hgm : ∀ a r q, n ≤ r → r < t → g' a = .ow r q → g a = .ow r q) : Pres n t g H g' H' where
  fz := fun a z => ⟨hgz a z, hH a (by rintro rfl; rw [hg] at z; cases z)⟩
  un := fun a z _ => ⟨hgu a z, hH a (by rintro rfl; rw [hg] at z; cases z)⟩
  tp := fun a r p h1 h2 z => ⟨hgt a r p h1 h2 z, hH a (by rintro rfl; rw [hg] at z; injection z with z1 z2; omega)⟩
  tm := hgm
  tu := fun a u z hz => by
    rw [hH a]
    · exact z
    · rintro rfl
      rw [hL] at z
      cases z
      rw [hs] at hz
      cases hz
def sApp (i : Nat) (me : M) : SM := fun ρ => match ρ[i]? with
  | some (some (.lst _)) => (me ρ).bind fun x => (match x.2[i]? with
    | some (some (.lst ds)) => if ds.length < 16777216 then some (.nx (x.2.set i (some (.lst (ds ++ [x.1]))))) else none
    | _ => none)
  | _ => none
theorem sApp_some {i : Nat} {me : M} {ρ : DE} {o : Out} (h : sApp i me ρ = some o) : ∃ ds0 d ρ1 ds, ρ[i]? = some (some (.lst ds0)) ∧ me ρ = some (d, ρ1) ∧ ρ1[i]? = some (some (.lst ds)) ∧ ds.length < sizeLine ∧ o = .nx (ρ1.set i (some (.lst (ds ++ [d])))) := by
  unfold sApp at h
  split at h
  · rename_i ds0 e0
    cases e : me ρ with
    | none => rw [e] at h; cases h
    | some p =>
      rw [e] at h
      simp only [Option.bind_some] at h
      split at h
      · rename_i ds e1
        split at h
        · cases h
          exact ⟨ds0, p.1, p.2, ds, e0, rfl, e1, by rw [sizeLine_eq]; assumption, rfl⟩
        · cases h
      · cases h
  · cases h
theorem lst_own {H : Hp} {g : G} {ds : List D} {k r : Nat} {p : List Nat} {v : V} (o : Own K H g (.lst ds) k r p v) (h0 : k ≠ 0) : ∃ L vs, v = .ref L ∧ H L = some (.lst vs) ∧ g L = .ow r p ∧ vs.length = ds.length := by
  obtain ⟨L, vs, e, h1, h2, h3⟩ := o
  rw [if_neg h0] at h2
  exact ⟨L, vs, e, h1, h2, ownL_len h3⟩
theorem js_app {e : Expr} {me : M} {i k : Nat} {k0 : Nat} {pu : Bool} {st : Stmt} (he : J X κ e me (.own (lv k)) κ1 pu) (hk0 : κ[i]? = some (some k0)) (hk : κ1[i]? = some (some k)) (h0 : k ≠ 0) (hi : i < X.N.length)
    (mk : ∀ {t : TE}, PE X e t → PS X st (tDrop (tBM X.K "list" rAppend (tVar i) (tCons t tNil)))) : JS X κ st (sApp i me) κ1 rc := by
  refine ⟨fun s0 t ht => PS.imp (mk (he.run t ht)) fun σ H D z q => ?_⟩
  obtain ⟨g, ρ, S, fx, o, em, post⟩ := q z
  obtain ⟨ds0, d, ρ1, ds, e0, e1, e2, hz, rfl⟩ := sApp_some em
  obtain ⟨v, ev, o0⟩ := S.ok i k0 _ hk0 e0
  obtain ⟨L, vs0, rfl, hL0, _⟩ := o0
  refine ⟨.ref L, ev, .inl ⟨rfl, vs0, SqL.of hL0⟩, fun _ => ⟨g, ρ, S, d, ρ1, e1, fun y H1 g1 S1 P1 s1 r1 => ?_⟩⟩
  obtain ⟨v', ev', o1⟩ := S1.ok i k _ hk e2
  rw [ev] at ev'
  cases ev'
  obtain ⟨L', vs, eL, hL, hg, hlen⟩ := lst_own o1 h0
  cases eL
  refine ⟨L, vs, y, rfl, rfl, hL, by rw [hlen]; exact hz, ?_⟩
  have hl : σ.length = X.N.length := z.2
  have o2 := own_push (y := y) t (by omega : i ≠ t) hL o1 h0 r1
  refine post σ _ (mvG t i [ds.length] (fun _ _ => false) g1) (S1.rewrite hk ev hL rfl hg (fun a h => upd_ne h) (by rw [upd_same]; simp) (fun a h1 h2 h3 => ?_) (fun a h => mvG_fz h) (fun a h => mvG_ne h) o2)
    (P1.trans (Pres.rewrite S1.gok hi hL rfl hg (fun a h => upd_ne h) (fun a h => mvG_fz h) (fun a h => mvG_un h) (fun a r q h1 h2 h => mvG_o (by omega) rfl h) fun a r q h1 h2 h => mvG_inv (by omega) h)) fx
  cases e : g1 a with
  | un => exact (h1 e).elim
  | fz => exact mvG_fz e
  | ow r q => exact mvG_o (by have := h3 r q e; omega) rfl e
theorem ownL_rev {H : Hp} {g : G} : ∀ {ds : List D} {vs : List V} {i j : Nat}, OwnL K H g ds 0 0 [] i vs → ∀ {es : List D} {ws : List V}, OwnL K H g es 0 0 [] j ws → OwnL K H g (ds.reverse ++ es) 0 0 [] j (vs.reverse ++ ws)
  | [], _, _, _, h, _, _, h2 => by cases (show _ = _ from h); exact h2
  | d :: ds, _, i, j, h, es, ws, h2 => by
    obtain ⟨v, w, rfl, o1, o2⟩ := h
    rw [List.reverse_cons, List.reverse_cons, List.append_assoc, List.append_assoc]
    exact ownL_rev (j := j) o2 ⟨v, ws, rfl, own_fz (fun a z => ⟨z, rfl⟩) (fun _ _ z _ => z) o1, ownL_fz (fun a z => ⟨z, rfl⟩) (fun _ _ z _ => z) h2⟩
theorem ownL_app {H : Hp} {g : G} : ∀ {ds : List D} {vs : List V} {i j l : Nat}, OwnL K H g ds 0 0 [] i vs → ∀ {es : List D} {ws : List V}, OwnL K H g es 0 0 [] j ws → OwnL K H g (ds ++ es) 0 0 [] l (vs ++ ws)
  | [], _, _, _, _, h, _, _, h2 => by cases (show _ = _ from h); exact ownL_fz (fun a z => ⟨z, rfl⟩) (fun _ _ z _ => z) h2
  | d :: ds, _, i, j, l, h, es, ws, h2 => by
    obtain ⟨v, w, rfl, o1, o2⟩ := h
    exact ⟨v, w ++ ws, rfl, own_fz (fun a z => ⟨z, rfl⟩) (fun _ _ z _ => z) o1, ownL_app o2 h2⟩
theorem ownL_take {H : Hp} {g : G} {k r : Nat} {p : List Nat} : ∀ (n : Nat) {ds : List D} {vs : List V} {i : Nat}, OwnL K H g ds k r p i vs → OwnL K H g (ds.take n) k r p i (vs.take n)
  | 0, _, _, _, _ => by simp only [List.take_zero]; rfl
  | n + 1, [], _, _, h => by cases (show _ = _ from h); rfl
  | n + 1, d :: ds, _, _, h => by
    obtain ⟨v, w, rfl, o1, o2⟩ := h
    exact ⟨v, _, rfl, o1, ownL_take n o2⟩
theorem ownL_drop {H : Hp} {g : G} : ∀ (n : Nat) {ds : List D} {vs : List V} {i : Nat}, OwnL K H g ds 0 0 [] i vs → OwnL K H g (ds.drop n) 0 0 [] i (vs.drop n)
  | 0, _, _, _, h => h
  | n + 1, [], _, _, h => by cases (show _ = _ from h); rfl
  | n + 1, d :: ds, _, _, h => by
    obtain ⟨v, w, rfl, o1, o2⟩ := h
    exact ownL_fz (fun a z => ⟨z, rfl⟩) (fun _ _ z _ => z) (ownL_drop n o2)
theorem mut1 {n t i : Nat} {ρ : DE} {g : G} {σ : L2.St} {H : Hp} {L : Addr} {ds ds' : List D} {vs vs' : List V} (S : Sok K κ ρ g σ H) (hn : σ.length = n) (hk : κ[i]? = some (some 1)) (hv : σ[i]? = some (some (.ref L))) (hL : H L = some (.lst vs)) (hg : g L = .ow i [])
    (ol : OwnL K H g ds' 0 0 [] 0 vs') : Sok K κ (ρ.set i (some (.lst ds'))) g σ (upd H L (.lst vs')) ∧ Pres n t g H g (upd H L (.lst vs')) := by
  have hi : i < n := by
    have := (List.getElem?_eq_some_iff.mp hv).1
    omega
  have P : Pres n t g H g (upd H L (.lst vs')) := Pres.rewrite S.gok hi hL rfl hg (fun a h => upd_ne h) (fun _ z => z) (fun _ z => z) (fun _ _ _ _ _ z => z) fun _ _ _ _ _ z => z
  refine ⟨S.rewrite hk hv hL rfl hg (fun a h => upd_ne h) (by rw [upd_same]; simp) (fun _ _ _ _ => rfl) (fun _ z => z) (fun _ z => z) ?_, P⟩
  exact ⟨L, vs', rfl, upd_same, by rw [if_neg (by decide)]; exact hg, ownL_fz P.fz P.tu ol⟩
theorem own1_list {ρ : DE} {g : G} {σ : L2.St} {H : Hp} {i : Nat} {ds : List D} (S : Sok K κ ρ g σ H) (hk : κ[i]? = some (some 1)) (e : ρ[i]? = some (some (.lst ds))) : ∃ L vs, σ[i]? = some (some (.ref L)) ∧ H L = some (.lst vs) ∧ g L = .ow i [] ∧ OwnL K H g ds 0 0 [] 0 vs := by
  obtain ⟨v, ev, L, vs, rfl, h1, h2, h3⟩ := S.ok i 1 _ hk e
  rw [if_neg (by decide)] at h2
  exact ⟨L, vs, ev, h1, h2, ownL_fz (fun a z => ⟨z, rfl⟩) (fun _ _ z _ => z) h3⟩
def sRev (i : Nat) : SM := fun ρ => match ρ[i]? with
  | some (some (.lst ds)) => some (.nx (ρ.set i (some (.lst ds.reverse))))
  | _ => none
theorem js_rev {i : Nat} {st : Stmt} (hk : κ[i]? = some (some 1)) (mk : PS X st (tDrop (tBM0 X.K "list" rReverse (tVar i)))) : JS X κ st (sRev i) κ rc := by
  refine ⟨fun s0 t ht => PS.imp mk fun σ H D z q => ?_⟩
  obtain ⟨g, ρ, S, fx, o, em, post⟩ := q z
  unfold sRev at em
  split at em
  · rename_i ds e
    cases em
    obtain ⟨L, vs, ev, hL, hg, ol⟩ := own1_list S hk e
    refine ⟨.ref L, ev, .inl ⟨rfl, vs, SqL.of hL⟩, L, vs, rfl, rfl, hL, ?_⟩
    have ol2 := ownL_rev (j := 0) ol (es := []) (ws := []) rfl
    rw [List.append_nil, List.append_nil] at ol2
    obtain ⟨S2, P2⟩ := mut1 (n := X.N.length) (t := t) (ds := ds) S z.2 hk ev hL hg ol2
    exact post σ _ g S2 P2 fx
  · cases em
def sAug (f : Int → Int → Int) (i : Nat) (me : M) : SM := fun ρ => match ρ[i]? with
  | some (some (.int a)) => (match me ρ with
    | some (.int b, ρ1) => some (.nx (ρ1.set i (some (.int (f a b)))))
    | _ => none)
  | _ => none
def sSet (i : Nat) (me mj : M) : SM := fun ρ => (me ρ).bind fun x => match x.2[i]? with
  | some (some (.lst ds)) => (match mj x.2 with
    | some (.int k, ρ2) => (match ixN ds.length k with
      | some j => some (.nx (ρ2.set i (some (.lst (ds.set j x.1)))))
      | none => none)
    | _ => none)
  | _ => none
theorem sSet_some {i : Nat} {me mj : M} {ρ : DE} {o : Out} (h : sSet i me mj ρ = some o) : ∃ d ρ1 ds k ρ2 j, me ρ = some (d, ρ1) ∧ ρ1[i]? = some (some (.lst ds)) ∧ mj ρ1 = some (.int k, ρ2) ∧ ixN ds.length k = some j ∧ o = .nx (ρ2.set i (some (.lst (ds.set j d)))) := by
  unfold sSet at h
  cases e : me ρ with
  | none => rw [e] at h; cases h
  | some p =>
    rw [e] at h
    simp only [Option.bind_some] at h
    split at h
    · rename_i ds e1
      split at h
      · rename_i k ρ2 e2
        split at h
        · rename_i j e3
          cases h
          exact ⟨p.1, p.2, ds, k, ρ2, j, rfl, e1, e2, e3, rfl⟩
        · cases h
      · cases h
    · cases h
theorem own_setI {H : Hp} {g : G} {t k i j : Nat} {L : Addr} {ds : List D} {e : D} {y : V} {vs : List V} (ht : i ≠ t) (hL : H L = some (.lst vs)) (o : Own K H g (.lst ds) k i [] (.ref L)) (h0 : k ≠ 0) (oe : Own K H g e (lv k) t [] y) (hj : j < ds.length) :
    Own K (upd H L (.lst (vs.set j y))) (mvG t i [j] (fun _ _ => false) g) (.lst (ds.set j e)) k i [] (.ref L) := by
  obtain ⟨a, vs', e1, h1, h2, h3⟩ := o
  cases e1
  rw [hL] at h1
  cases h1
  rw [if_neg h0] at h2
  have nL : ∀ a r q, g a = .ow r q → (r ≠ i ∨ q ≠ []) → a ≠ L := fun a r q e h z => by
    subst z
    rw [h2] at e
    cases e
    rcases h with h | h
    · exact h rfl
    · exact h rfl
  have nf : ∀ a, g a = .fz → a ≠ L := fun a e z => by
    subst z
    rw [h2] at e
    cases e
  have st : ∀ a o, H a = some o → stb o = true → upd H L (.lst (vs.set j y)) a = some o := fun a o e hs => by
    rw [upd_ne]
    · exact e
    · rintro rfl
      rw [hL] at e
      cases e
      cases hs
  refine ⟨L, _, rfl, upd_same, by rw [if_neg h0]; exact mvG_o ht rfl h2, ?_⟩
  have conv1 : ∀ {d : D} {v : V} {m : Nat}, Own K H g d (lv k) i [m] v → Own K (upd H L (.lst (vs.set j y))) (mvG t i [j] (fun _ _ => false) g) d (lv k) i [m] v := fun {d v m} o1 =>
    own_conv st d (.inr fun a z => ⟨mvG_fz z, upd_ne (nf a z)⟩) (fun a q z hh => ⟨upd_ne (nL a _ _ z (.inr (by simp))), by rw [if_pos hh]; exact mvG_o ht rfl z⟩) (fun _ z => z) o1
  have all : ∀ {es : List D} {ws : List V} {m : Nat}, OwnL K H g es (lv k) i [] m ws → OwnL K (upd H L (.lst (vs.set j y))) (mvG t i [j] (fun _ _ => false) g) es (lv k) i [] m ws := by
    intro es
    induction es with
    | nil => intro ws m h; exact h
    | cons d es ih =>
      intro ws m h
      obtain ⟨v, w, rfl, o1, o2⟩ := h
      exact ⟨v, w, rfl, conv1 o1, ih o2⟩
  have put : ∀ {es : List D} {ws : List V} {m l : Nat}, m + l = j → l < es.length → OwnL K H g es (lv k) i [] m ws → OwnL K (upd H L (.lst (vs.set j y))) (mvG t i [j] (fun _ _ => false) g) (es.set l e) (lv k) i [] m (ws.set l y) := by
    intro es
    induction es with
    | nil => intro ws m l _ hl _; simp at hl
    | cons d es ih =>
      intro ws m l hml hl h
      obtain ⟨v, w, rfl, o1, o2⟩ := h
      cases l with
      | zero =>
        refine ⟨y, w, rfl, own_conv st e (.inr fun a z => ⟨mvG_fz z, upd_ne (nf a z)⟩) (fun a q z hh => ⟨upd_ne (nL a _ _ z (.inl (Ne.symm ht))), ?_⟩) (fun _ z => z) oe, all o2⟩
        rw [if_pos hh, mvG_t z]
        have : m = j := by omega
        subst this
        simp
      | succ l =>
        simp only [List.length_cons] at hl
        exact ⟨v, w.set l y, rfl, conv1 o1, ih (by omega) (by omega) o2⟩
  exact put (by omega) hj h3
theorem js_seti {e b : Expr} {me mj : M} {i k k1 : Nat} {rj : Rz} {pe : Bool} {st : Stmt} (he : J X κ e me (.own (lv k)) κ1 pe) (hj : J X κ1 b mj rj κ2 true) (hk1 : κ1[i]? = some (some k1)) (hk : κ2[i]? = some (some k)) (h0 : k ≠ 0)
    (mk : ∀ {te tj : TE}, PE X e te → PE X b tj → PS X st (tAsg te (gSub (tVar i) tj rSetL))) : JS X κ st (sSet i me mj) κ2 rc := by
  refine ⟨fun s0 t ht => PS.imp (mk (he.run t ht) (hj.run (t + 1) (by omega))) fun σ H D z q => ?_⟩
  obtain ⟨g, ρ, S, fx, o, em, post⟩ := q z
  obtain ⟨d, ρ1, ds, kk, ρ2, j, e1, e2, e3, e4, rfl⟩ := sSet_some em
  have hr := hj.pur rfl _ _ _ e3
  subst hr
  refine fun _ => ⟨g, ρ, S, d, ρ2, e1, fun y H1 g1 S1 P1 s1 r1 => ?_⟩
  obtain ⟨v, ev, o1⟩ := S1.ok i k1 _ hk1 e2
  refine ⟨v, ev, fun _ => ⟨g1, ρ2, S1, .int kk, ρ2, e3, fun u H2 g2 S2 P2 s2 r2 => ?_⟩⟩
  cases (show _ = _ from r2.rep)
  obtain ⟨v', ev', o2⟩ := S2.ok i k _ hk e2
  rw [ev] at ev'
  cases ev'
  obtain ⟨L, vs, rfl, hL, hg, hlen⟩ := lst_own o2 h0
  have hjl : j < ds.length := by
    unfold ixN at e4
    split at e4
    · split at e4
      · cases e4; omega
      · cases e4
    · split at e4
      · cases e4; omega
      · cases e4
  refine ⟨L, vs, kk, j, rfl, rfl, hL, by rw [hlen]; exact e4, ?_⟩
  have hl : σ.length = X.N.length := z.2
  have hi : i < σ.length := (List.getElem?_eq_some_iff.mp ev).1
  have r1' := P2.own ht (Nat.lt_succ_self t) r1
  have o3 := own_setI (t := t) (by omega : i ≠ t) hL o2 h0 r1' hjl
  refine post σ _ (mvG t i [j] (fun _ _ => false) g2) (S2.rewrite hk ev hL rfl hg (fun a h => upd_ne h) (by rw [upd_same]; simp) (fun a h1 h2 h3 => ?_) (fun a h => mvG_fz h) (fun a h => mvG_ne h) o3)
    (P1.trans ((P2.less (Nat.le_succ t)).trans (Pres.rewrite S2.gok (by omega) hL rfl hg (fun a h => upd_ne h) (fun a h => mvG_fz h) (fun a h => mvG_un h) (fun a r q h1 h2 h => mvG_o (by omega) rfl h) fun a r q h1 h2 h => mvG_inv (by omega) h))) fx
  cases e : g2 a with
  | un => exact (h1 e).elim
  | fz => exact mvG_fz e
  | ow r q => exact mvG_o (by have := h3 r q e; omega) rfl e
end VS
namespace VS
open PySem PySem.Spec PyProof.Rows L2
variable {K : PySem.W.Frag} {X : Cx} {κ κ1 κ2 κ3 κ4 : OE} {pos : Pos} {rc : RC}
def nwG (p : Addr) (t : Nat) (g : G) : G := fun a => if a = p then .ow t [] else g a
theorem nwG_p {p : Addr} {t : Nat} {g : G} : nwG p t g p = .ow t [] := if_pos rfl
theorem nwG_o {p a : Addr} {t : Nat} {g : G} (h : a ≠ p) : nwG p t g a = g a := if_neg h
theorem Sok.new {ρ : DE} {g : G} {σ : L2.St} {H : Hp} {p : Addr} {t : Nat} {o : HO} (S : Sok K κ ρ g σ H) (hp : H p = none) : Sok K κ ρ (nwG p t g) σ (upd H p o) := by
  have ne : ∀ a, g a ≠ .un → a ≠ p := fun a h z => S.gok a h (z ▸ hp)
  refine ⟨fun i k d h3 h4 => ?_, fun a h => ?_, S.len, S.lek⟩
  · obtain ⟨v, e, w⟩ := S.ok i k d h3 h4
    exact ⟨v, e, own_conv (fun a u z _ => same_new hp _ _ z) d (.inr fun a z => ⟨by rw [nwG_o (ne a (by rw [z]; simp))]; exact z, upd_ne (ne a (by rw [z]; simp))⟩) (fun a q z hh => ⟨upd_ne (ne a (by rw [z]; simp)), by rw [if_pos hh, nwG_o (ne a (by rw [z]; simp))]; exact z⟩) (fun _ z => z) w⟩
  · by_cases e : a = p
    · subst e; rw [upd_same]; simp
    · rw [upd_ne e]; rw [nwG_o e] at h; exact S.gok a h
theorem Pres.new {n t t' : Nat} {g : G} {H : Hp} {p : Addr} {o : HO} (gok : ∀ a, g a ≠ .un → H a ≠ none) (hp : H p = none) (ht : t ≤ t') : Pres n t g H (nwG p t' g) (upd H p o) := by
  have hne : ∀ a, H a ≠ none → a ≠ p := fun a h z => h (z ▸ hp)
  refine ⟨fun a z => ?_, fun a z hh => ?_, fun a r q h3 h4 z => ?_, fun a r q h3 h4 z => ?_, fun a u z _ => same_new hp _ _ z⟩
  · have := hne a (gok a (by rw [z]; simp))
    exact ⟨by rw [nwG_o this]; exact z, upd_ne this⟩
  · have := hne a hh
    exact ⟨by rw [nwG_o this]; exact z, upd_ne this⟩
  · have := hne a (gok a (by rw [z]; simp))
    exact ⟨by rw [nwG_o this]; exact z, upd_ne this⟩
  · by_cases e : a = p
    · subst e; rw [nwG_p] at z; cases z; omega
    · rw [nwG_o e] at z; exact z
theorem own_newL {H : Hp} {g : G} {p : Addr} {t : Nat} {ds : List D} {vs : List V} (gok : ∀ a, g a ≠ .un → H a ≠ none) (hp : H p = none) (ol : OwnL K H g ds 0 0 [] 0 vs) : Own K (upd H p (.lst vs)) (nwG p t g) (.lst ds) 1 t [] (.ref p) := by
  have ne : ∀ a, g a ≠ .un → a ≠ p := fun a h z => gok a h (z ▸ hp)
  exact ⟨p, vs, rfl, upd_same, by rw [if_neg (by decide)]; exact nwG_p, ownL_fz (fun a z => ⟨by rw [nwG_o (ne a (by rw [z]; simp))]; exact z, upd_ne (ne a (by rw [z]; simp))⟩) (fun a u z _ => same_new hp _ _ z) ol⟩
theorem own_newT {H : Hp} {g : G} {p : Addr} {t : Nat} {ds : List D} {vs : List V} (gok : ∀ a, g a ≠ .un → H a ≠ none) (hp : H p = none) (ol : OwnL K H g ds 0 0 [] 0 vs) : Own K (upd H p (.tup vs)) (nwG p t g) (.tup ds) 1 t [] (.ref p) := by
  have ne : ∀ a, g a ≠ .un → a ≠ p := fun a h z => gok a h (z ▸ hp)
  exact ⟨p, vs, rfl, upd_same, ownL_fz (fun a z => ⟨by rw [nwG_o (ne a (by rw [z]; simp))]; exact z, upd_ne (ne a (by rw [z]; simp))⟩) (fun a u z _ => same_new hp _ _ z) ol⟩
theorem gives_post {n t : Nat} {g : G} {σ : L2.St} {H : Hp} {ρ : DE} {z : D} {vs : List V} {ds : List D} {b : Bool} {Q : VK} {pu : Bool} (S : Sok K κ ρ g σ H) (hz : z = (if b then .lst ds else .tup ds)) (ol : OwnL K H g ds 0 0 [] 0 vs) {g0 : G} {H0 : Hp} (P : Pres n t g0 H0 g H) (s : pu = true → Same H0 H)
    (post : jPost K n t κ (.own 1) pu g0 σ H0 z ρ Q) (p : Addr) (hp : H p = none) : Q (.ref p) (upd H p (if b then .lst vs else .tup vs)) := by
  refine post (.ref p) _ (nwG p t g) (S.new hp) (P.trans (Pres.new S.gok hp (Nat.le_refl t))) (fun e => (s e).trans (same_new hp)) ?_
  cases b with
  | true => rw [hz]; exact own_newL S.gok hp ol
  | false => rw [hz]; exact own_newT S.gok hp ol
theorem rep_post {n t : Nat} {g : G} {σ : L2.St} {H : Hp} {ρ : DE} {z : D} {o : HO} {Q : VK} {pu : Bool} (S : Sok K κ ρ g σ H) {g0 : G} {H0 : Hp} (P : Pres n t g0 H0 g H) (s : pu = true → Same H0 H)
    (post : jPost K n t κ .rep pu g0 σ H0 z ρ Q) (p : Addr) (hp : H p = none) (r : Rep K (upd H p o) z (.ref p)) : Q (.ref p) (upd H p o) :=
  post (.ref p) _ g (S.grow (same_new hp)) (P.trans (Pres.grow S.gok (same_new hp))) (fun e => (s e).trans (same_new hp)) r
def dCat : D → D → Option D
  | .int i, .int j => some (.int (i + j))
  | .str i, .str j => if i.length + j.length ≤ 16777216 then some (.str (i ++ j)) else none
  | .lst xs, .lst ys => if xs.length + ys.length ≤ 16777216 then some (.lst (xs ++ ys)) else none
  | .tup xs, .tup ys => if xs.length + ys.length ≤ 16777216 then some (.tup (xs ++ ys)) else none
  | _, _ => none
def rCatD (K : PySem.W.Frag) : R2 := fun x y H Q => (rDat K dAdd x y H Q ∨ rCat x y H Q) ∨ rCatA K x y H Q
theorem o_cat : OpR X (binaryOp .Add) (rCatD X.K) := (o_add.or op_cat).or op_catA
theorem repL_nil {H : Hp} {ds : List D} {vs : List V} (h : RepL K H ds vs) (e : vs = []) : ds = [] := by
  cases ds with
  | nil => rfl
  | cons d ds => obtain ⟨v, w, rfl, _⟩ := h; cases e
theorem cat_rep {H : Hp} {x y z : D} {v u : V} {Q : VK} (e : dCat x y = some z) (rx : Rep K H x v) (ry : Rep K H y u) (q0 : ∀ w, Rep K H z w → Q w H) (q1 : ∀ p o, H p = none → Rep K (upd H p o) z (.ref p) → Q (.ref p) (upd H p o)) : rCatD K v u H Q := by
  unfold dCat at e
  split at e
  · cases e
    exact .inl (.inl ⟨_, _, _, rx, ry, rfl, rfl, q0 _ rfl⟩)
  · split at e
    · cases e
      exact .inl (.inl ⟨_, _, _, rx, ry, (by simp only [dAdd]; rw [if_pos (by assumption)] : dAdd _ _ = some (.str _)), rfl, q0 _ rfl⟩)
    · cases e
  · split at e
    · cases e
      obtain ⟨a, vs, rfl, ha, hl⟩ := rx
      obtain ⟨b, ws, rfl, hb, hm⟩ := ry
      refine .inl (.inr ⟨a, b, vs, ws, rfl, rfl, ha, hb, by rw [repL_len hl, repL_len hm, sizeLine_eq]; assumption, fun p hp => q1 p _ hp ?_⟩)
      exact ⟨p, _, rfl, upd_same, repL_mono (same_new hp) _ (repL_app hl hm)⟩
    · cases e
  · split at e
    · cases e
      obtain ⟨a, vs, rfl, ha, hl⟩ := rx
      obtain ⟨b, ws, rfl, hb, hm⟩ := ry
      refine .inr ⟨a, b, vs, ws, rfl, rfl, SqT.of ha, SqT.of hb, by rw [repL_len hl, repL_len hm, sizeLine_eq]; assumption, fun h => ?_, fun _ h => ?_, fun _ _ p hp => q1 p _ hp ?_⟩
      · have := repL_nil hl h
        subst this h
        exact q0 _ ⟨b, ws, rfl, hb, hm⟩
      · have := repL_nil hm h
        subst this h
        rw [List.append_nil] at q0
        exact q0 _ ⟨a, vs, rfl, ha, hl⟩
      · exact ⟨p, _, rfl, upd_same, repL_mono (same_new hp) _ (repL_app hl hm)⟩
    · cases e
  · cases e
theorem j_cat {a b e : Expr} {ma mb : M} {ra rb : Rz} {pa pb : Bool} (ha : J X κ a ma ra κ1 pa) (hb : J X κ1 b mb rb κ2 pb) (ok : okk ra pb = true) (mk : ∀ {ta tb : TE}, PE X a ta → PE X b tb → PE X e (tOp (rCatD X.K) ta tb)) : J X κ e (m2 dCat ma mb) .rep κ2 (pa && pb) := by
  refine ⟨fun t ht => PE.imp (mk (ha.run t ht) (hb.run (t + 1) (by omega))) fun σ H Q z q => ?_, fun hp ρ d ρ' h => ?_⟩
  · obtain ⟨g, ρ, S, d, ρ', em, post⟩ := q z
    obtain ⟨x, ρ1, y, ea, eb, ec⟩ := m2_some em
    refine two (K := X.K) (κ2 := κ2) ht ok S ea eb z fun v u H' g' S' P' s' r1 r2 => ?_
    exact cat_rep ec r1.rep r2.rep (fun w hw => post w H' g' S' P' s' hw) fun p o hp r => rep_post S' P' s' post p hp r
  · rw [Bool.and_eq_true] at hp
    obtain ⟨x, ρ1, y, ea, eb, ec⟩ := m2_some h
    rw [hb.pur hp.2 _ _ _ eb, ha.pur hp.1 _ _ _ ea]
theorem j_catO {a b e : Expr} {ma mb : M} {pa pb : Bool} (ha : J X κ a ma (.own 0) κ1 pa) (hb : J X κ1 b mb (.own 0) κ2 pb) (mk : ∀ {ta tb : TE}, PE X a ta → PE X b tb → PE X e (tOp (rCatD X.K) ta tb)) : J X κ e (m2 dCat ma mb) (.own 1) κ2 (pa && pb) := by
  refine ⟨fun t ht => PE.imp (mk (ha.run t ht) (hb.run (t + 1) (by omega))) fun σ H Q z q => ?_, fun hp ρ d ρ' h => ?_⟩
  · obtain ⟨g, ρ, S, d, ρ', em, post⟩ := q z
    obtain ⟨x, ρ1, y, ea, eb, ec⟩ := m2_some em
    refine two (K := X.K) (κ2 := κ2) ht rfl S ea eb z fun v u H' g' S' P' s' r1 r2 => ?_
    unfold dCat at ec
    have f0 : ∀ {d : D} {w : V} {r : Nat}, Own X.K H' g' d 0 r [] w → ∀ {ds}, d = .lst ds ∨ d = .tup ds → ∃ a vs, w = .ref a ∧ (d = .lst ds → H' a = some (.lst vs)) ∧ (d = .tup ds → H' a = some (.tup vs)) ∧ OwnL X.K H' g' ds 0 0 [] 0 vs := fun {d w r} o {ds} hd => by
      rcases hd with rfl | rfl
      · obtain ⟨a, vs, rfl, h1, _, h3⟩ := o
        exact ⟨a, vs, rfl, fun _ => h1, (fun e => by cases e), ownL_fz (fun a z => ⟨z, rfl⟩) (fun _ _ z _ => z) h3⟩
      · obtain ⟨a, vs, rfl, h1, h3⟩ := o
        exact ⟨a, vs, rfl, (fun e => by cases e), fun _ => h1, ownL_fz (fun a z => ⟨z, rfl⟩) (fun _ _ z _ => z) h3⟩
    split at ec
    · cases ec
      exact .inl (.inl ⟨_, _, _, r1.rep, r2.rep, rfl, rfl, post _ H' g' S' P' s' rfl⟩)
    · split at ec
      · cases ec
        exact .inl (.inl ⟨_, _, _, r1.rep, r2.rep, (by simp only [dAdd]; rw [if_pos (by assumption)] : dAdd _ _ = some (.str _)), rfl, post _ H' g' S' P' s' rfl⟩)
      · cases ec
    · split at ec
      · cases ec
        obtain ⟨a, vs, rfl, h1, _, ol1⟩ := f0 r1 (.inl rfl)
        obtain ⟨b, ws, rfl, h2, _, ol2⟩ := f0 r2 (.inl rfl)
        refine .inl (.inr ⟨a, b, vs, ws, rfl, rfl, h1 rfl, h2 rfl, by rw [ownL_len ol1, ownL_len ol2, sizeLine_eq]; assumption, fun p hp => ?_⟩)
        exact gives_post (b := true) S' rfl (ownL_app ol1 ol2) P' s' post p hp
      · cases ec
    · split at ec
      · cases ec
        obtain ⟨a, vs, rfl, _, h1, ol1⟩ := f0 r1 (.inr rfl)
        obtain ⟨b, ws, rfl, _, h2, ol2⟩ := f0 r2 (.inr rfl)
        refine .inr ⟨a, b, vs, ws, rfl, rfl, SqT.of (h1 rfl), SqT.of (h2 rfl), by rw [ownL_len ol1, ownL_len ol2, sizeLine_eq]; assumption, fun h => ?_, fun _ h => ?_, fun _ _ p hp => ?_⟩
        · subst h
          have e := repL_nil (ownL_repL _ ol1) rfl
          subst e
          exact post _ H' g' S' P' s' ⟨b, ws, rfl, h2 rfl, ownL_fz (fun a z => ⟨z, rfl⟩) (fun _ _ z _ => z) ol2⟩
        · subst h
          have e := repL_nil (ownL_repL _ ol2) rfl
          subst e
          rw [List.append_nil] at post
          exact post _ H' g' S' P' s' ⟨a, vs, rfl, h1 rfl, ownL_fz (fun a z => ⟨z, rfl⟩) (fun _ _ z _ => z) ol1⟩
        · exact gives_post (b := false) S' rfl (ownL_app ol1 ol2) P' s' post p hp
      · cases ec
    · cases ec
  · rw [Bool.and_eq_true] at hp
    obtain ⟨x, ρ1, y, ea, eb, ec⟩ := m2_some h
    rw [hb.pur hp.2 _ _ _ eb, ha.pur hp.1 _ _ _ ea]
def cutG {α : Type} (xs : List α) (lo hi : Option Int) : List α := (xs.drop (HT.sIx xs.length 0 lo)).take (HT.sIx xs.length xs.length hi - HT.sIx xs.length 0 lo)
abbrev MO := DE → Option (Option Int)
structure JO (X : Cx) (κ : OE) (e : Option Expr) (m : MO) (κ' : OE) : Prop where
  run : ∀ t, X.N.length ≤ t → PO X e (fun σ H Q => En X.N.length σ H → ∃ g ρ, Sok X.K κ ρ g σ H ∧ ∃ o, m ρ = some o ∧ ∀ H' g', Sok X.K κ' ρ g' σ H' → Pres X.N.length t g H g' H' → Same H H' → Q o H')
theorem PO.imp {e : Option Expr} {t t' : TO} (h : PO X e t) (f : ∀ σ H Q, En X.N.length σ H → t' σ H Q → t σ H Q) : PO X e t' := ⟨fun pins s σ H Q I q => h.run pins s σ H Q I (f σ H Q ⟨Inv.sz I, I.len⟩ q)⟩
def oNone : MO := fun _ => some none
def oSome (m : M) : MO := fun ρ => match m ρ with
  | some (.int i, _) => some (some i)
  | _ => none
theorem jo_none : JO X κ none oNone κ := by
  refine ⟨fun t ht => PO.imp po_none fun σ H Q z q => ?_⟩
  obtain ⟨g, ρ, S, o, em, post⟩ := q z
  cases em
  exact post H g S Pres.refl (Same.refl H)
theorem jo_some {e : Expr} {m : M} {rz : Rz} (h : J X κ e m rz κ1 true) : JO X κ (some e) (oSome m) κ1 := by
  refine ⟨fun t ht => PO.imp (po_some (h.run t ht)) fun σ H Q z q => ?_⟩
  obtain ⟨g, ρ, S, o, em, post⟩ := q z
  unfold oSome at em
  split at em
  · rename_i i ρ' e
    cases em
    have hr := h.pur rfl _ _ _ e
    subst hr
    refine fun _ => ⟨g, _, S, _, _, e, fun v H' g' S' P' s' r' => ?_⟩
    cases (show _ = _ from r'.rep)
    exact ⟨i, rfl, post H' g' S' P' (s' rfl)⟩
  · cases em
def mSl (ma : M) (ml mu : MO) (f : D → Option Int → Option Int → Option D) : M := fun ρ => (ma ρ).bind fun x => (ml x.2).bind fun l => (mu x.2).bind fun u => (f x.1 l u).map fun z => (z, x.2)
theorem mSl_some {ma : M} {ml mu : MO} {f : D → Option Int → Option Int → Option D} {ρ ρ' : DE} {d : D} (h : mSl ma ml mu f ρ = some (d, ρ')) : ∃ x l u, ma ρ = some (x, ρ') ∧ ml ρ' = some l ∧ mu ρ' = some u ∧ f x l u = some d := by
  unfold mSl at h
  cases e : ma ρ with
  | none => rw [e] at h; cases h
  | some p =>
    rw [e] at h
    simp only [Option.bind_some] at h
    cases e1 : ml p.2 with
    | none => rw [e1] at h; cases h
    | some l =>
      rw [e1] at h
      simp only [Option.bind_some] at h
      cases e2 : mu p.2 with
      | none => rw [e2] at h; cases h
      | some u =>
        rw [e2] at h
        simp only [Option.bind_some] at h
        cases e3 : f p.1 l u with
        | none => rw [e3] at h; cases h
        | some z => rw [e3] at h; cases h; exact ⟨p.1, l, u, rfl, e1, e2, e3⟩
def dSl : D → Option Int → Option Int → Option D
  | .lst xs, l, u => some (.lst (cutG xs l u))
  | .tup xs, l, u => some (.tup (cutG xs l u))
  | .str z, l, u => if z.length ≤ 16777216 then some (.str (cutS z l u)) else none
  | _, _, _ => none
def rSlD (K : PySem.W.Frag) : V → Option Int → Option Int → Hp → VK → Prop := fun x l u H Q => (rSlL K x l u H Q ∨ rSlA K x l u H Q) ∨ rSlS x l u H Q
theorem sl_all : SlR X (rSlD X.K) := (sl_list.or sl_tupA).or sl_str
theorem cut_rep {H : Hp} {ds : List D} {vs : List V} {l u : Option Int} (h : RepL K H ds vs) : RepL K H (cutG ds l u) (cutV vs l u) := by
  unfold cutG cutV
  rw [repL_len h]
  exact repL_take _ (repL_drop _ h)
theorem cut_own {H : Hp} {g : G} {ds : List D} {vs : List V} {l u : Option Int} (h : OwnL K H g ds 0 0 [] 0 vs) : OwnL K H g (cutG ds l u) 0 0 [] 0 (cutV vs l u) := by
  unfold cutG cutV
  rw [ownL_len h]
  exact ownL_take _ (ownL_drop _ h)
theorem cutG_whole {α : Type} {xs : List α} {l u : Option Int} (h : HT.sIx xs.length 0 l = 0 ∧ HT.sIx xs.length xs.length u = xs.length) : cutG xs l u = xs := by
  unfold cutG
  rw [h.1, h.2]
  simp
theorem slice_core {n t : Nat} {ma : M} {ml mu : MO} {a : Expr} {lo hi : Option Expr} {ra rz : Rz} {pa : Bool} {κ3 : OE} (hn : X.N.length = n) (ht : n ≤ t) (ha : J X κ a ma ra κ1 pa) (hl : JO X κ1 lo ml κ2) (hu : JO X κ2 hi mu κ3) {σ : L2.St} {H : Hp} {Q : VK} {tl th : TO}
    (hsl : ∀ t', n ≤ t' → True) (z : En n σ H) (q : jTE X.K n κ (mSl ma ml mu dSl) rz κ3 pa t σ H Q)
    (fin : ∀ (x d : D) (l u : Option Int) (ρ' : DE) (v : V) (H' : Hp) (g' : G) (g0 : G), dSl x l u = some d → Sok X.K κ3 ρ' g' σ H' → Pres n t g0 H g' H' → (pa = true → Same H H') → RzOk X.K H' g' t ra x v → jPost X.K n t κ3 rz pa g0 σ H d ρ' Q → rSlD X.K v l u H' Q) :
    tSl (rSlD X.K) (jTE X.K n κ ma ra κ1 pa t)
      (fun σ H Q => En X.N.length σ H → ∃ g ρ, Sok X.K κ1 ρ g σ H ∧ ∃ o, ml ρ = some o ∧ ∀ H' g', Sok X.K κ2 ρ g' σ H' → Pres X.N.length (t + 1) g H g' H' → Same H H' → Q o H')
      (fun σ H Q => En X.N.length σ H → ∃ g ρ, Sok X.K κ2 ρ g σ H ∧ ∃ o, mu ρ = some o ∧ ∀ H' g', Sok X.K κ3 ρ g' σ H' → Pres X.N.length (t + 1) g H g' H' → Same H H' → Q o H') σ H Q := by
  subst hn
  obtain ⟨g, ρ, S, d, ρ', em, post⟩ := q z
  obtain ⟨x, l, u, e1, e2, e3, e4⟩ := mSl_some em
  refine fun _ => ⟨g, ρ, S, x, ρ', e1, fun v H1 g1 S1 P1 s1 r1 => fun _ => ⟨g1, ρ', S1, l, e2, fun H2 g2 S2 P2 s2 => fun _ => ⟨g2, ρ', S2, u, e3, fun H3 g3 S3 P3 s3 => ?_⟩⟩⟩
  have P23 := P2.trans P3
  refine fin x d l u ρ' v H3 g3 g e4 S3 (P1.trans (P23.less (Nat.le_succ t))) (fun e => ((s1 e).trans s2).trans s3) ?_ post
  cases ra with
  | rep => exact rep_mono (s2.trans s3) x r1
  | own k => exact P23.own ht (Nat.lt_succ_self t) r1
theorem mSl_pur {ma : M} {ml mu : MO} {f : D → Option Int → Option Int → Option D} {a : Expr} {ra : Rz} {pa : Bool} (ha : J X κ a ma ra κ1 pa) (hp : pa = true) (ρ : DE) (d : D) (ρ' : DE) (e : mSl ma ml mu f ρ = some (d, ρ')) : ρ' = ρ := by
  obtain ⟨x, l, u, e1, _⟩ := mSl_some e
  exact ha.pur hp _ _ _ e1
theorem j_sl {a : Expr} {lo hi : Option Expr} {p2 : Pos} {ma : M} {ml mu : MO} {ra : Rz} {pa : Bool} (ha : J X κ a ma ra κ1 pa) (hl : JO X κ1 lo ml κ2) (hu : JO X κ2 hi mu κ3) : J X κ (.Subscript a (.Slice lo hi none p2) pos) (mSl ma ml mu dSl) .rep κ3 pa := by
  refine ⟨fun t ht => PE.imp (pe_slice sl_all (ha.run t ht) (hl.run (t + 1) (by omega)) (hu.run (t + 1) (by omega))) fun σ H Q z q => slice_core (tl := tNoPart) (th := tNoPart) rfl ht ha hl hu (fun _ _ => trivial) z q fun x d l u ρ' v H' g' g0 e S' P' s' r' post => ?_, mSl_pur ha⟩
  have r2 := r'.rep
  unfold dSl at e
  split at e
  · cases e
    obtain ⟨a, vs, rfl, h1, h2⟩ := r2
    exact .inl (.inl ⟨a, vs, rfl, SqL.of h1, fun p hp => rep_post S' P' s' post p hp ⟨p, _, rfl, upd_same, repL_mono (same_new hp) _ (cut_rep h2)⟩⟩)
  · cases e
    obtain ⟨a, vs, rfl, h1, h2⟩ := r2
    refine .inl (.inr ⟨a, vs, rfl, SqT.of h1, fun hw => ?_, fun _ p hp => rep_post S' P' s' post p hp ⟨p, _, rfl, upd_same, repL_mono (same_new hp) _ (cut_rep h2)⟩⟩)
    rw [repL_len h2] at hw
    rw [cutG_whole hw] at post
    exact post _ H' g' S' P' s' ⟨a, vs, rfl, h1, h2⟩
  · split at e
    · cases e
      cases (show _ = _ from r2)
      exact .inr ⟨_, rfl, by rw [sizeLine_eq]; assumption, post _ H' g' S' P' s' rfl⟩
    · cases e
  · cases e
theorem own0_seq {H : Hp} {g : G} {ds : List D} {v : V} {r : Nat} {p : List Nat} : (Own K H g (.lst ds) 0 r p v → ∃ a vs, v = .ref a ∧ H a = some (.lst vs) ∧ OwnL K H g ds 0 0 [] 0 vs) ∧ (Own K H g (.tup ds) 0 r p v → ∃ a vs, v = .ref a ∧ H a = some (.tup vs) ∧ OwnL K H g ds 0 0 [] 0 vs) := by
  refine ⟨fun o => ?_, fun o => ?_⟩
  · obtain ⟨a, vs, rfl, h1, _, h3⟩ := o
    exact ⟨a, vs, rfl, h1, ownL_fz (fun a z => ⟨z, rfl⟩) (fun _ _ z _ => z) h3⟩
  · obtain ⟨a, vs, rfl, h1, h3⟩ := o
    exact ⟨a, vs, rfl, h1, ownL_fz (fun a z => ⟨z, rfl⟩) (fun _ _ z _ => z) h3⟩
theorem j_slO {a : Expr} {lo hi : Option Expr} {p2 : Pos} {ma : M} {ml mu : MO} {pa : Bool} (ha : J X κ a ma (.own 0) κ1 pa) (hl : JO X κ1 lo ml κ2) (hu : JO X κ2 hi mu κ3) : J X κ (.Subscript a (.Slice lo hi none p2) pos) (mSl ma ml mu dSl) (.own 1) κ3 pa := by
  refine ⟨fun t ht => PE.imp (pe_slice sl_all (ha.run t ht) (hl.run (t + 1) (by omega)) (hu.run (t + 1) (by omega))) fun σ H Q z q => slice_core (tl := tNoPart) (th := tNoPart) rfl ht ha hl hu (fun _ _ => trivial) z q fun x d l u ρ' v H' g' g0 e S' P' s' r' post => ?_, mSl_pur ha⟩
  unfold dSl at e
  split at e
  · cases e
    obtain ⟨a, vs, rfl, h1, h2⟩ := own0_seq.1 r'
    exact .inl (.inl ⟨a, vs, rfl, SqL.of h1, fun p hp => gives_post (b := true) S' rfl (cut_own h2) P' s' post p hp⟩)
  · cases e
    obtain ⟨a, vs, rfl, h1, h2⟩ := own0_seq.2 r'
    refine .inl (.inr ⟨a, vs, rfl, SqT.of h1, fun hw => ?_, fun _ p hp => gives_post (b := false) S' rfl (cut_own h2) P' s' post p hp⟩)
    rw [ownL_len h2] at hw
    rw [cutG_whole hw] at post
    exact post _ H' g' S' P' s' ⟨a, vs, rfl, h1, ownL_fz (fun a z => ⟨z, rfl⟩) (fun _ _ z _ => z) h2⟩
  · split at e
    · cases e
      cases (show _ = _ from r'.rep)
      exact .inr ⟨_, rfl, by rw [sizeLine_eq]; assumption, post _ H' g' S' P' s' rfl⟩
    · cases e
  · cases e
section tupsort
open PySem PySem.Calls PyProof.Rows PySem.SeqAt PySem.W
variable {M : Model} {prog : Program} {w : World} {A : Around} {E : Value → Shared → Prop} {s : Shared}
def neT : PyData → Bool
  | .tuple (_ :: _) => true
  | _ => false
theorem firsts_ok : ∀ {vs : List Value} {ds : List PyData} {Q : List (Option Value) → Shared → Prop}, PySem.W.EachIs (fun v d => ∃ as, Reads s.heap v d as) vs ds → (∀ d ∈ ds, ∃ r, d = .tuple r) →
    (∀ fs : List (Option Value), fs.map (·.isSome) = ds.map neT → Q fs s) → wpAny M A (vs.mapM firstOfTuple') Q E s
  | _, _, Q, .nil, _, h => by rw [List.mapM_nil]; exact wpAny_pure (h [] rfl)
  | _, _, Q, .cons (b := d) ⟨as, r⟩ t, ht, h => by
    obtain ⟨r0, rfl⟩ := ht d (by simp)
    rw [List.mapM_cons, kas_first_eq]
    cases r with
    | @tuple a o xs n _ _ ho hc hd hr =>
      refine wpAny_bind (wpAny_bind (PySem.W.Looks.here (show PySem.W.Looks M s.heap (typeOf (.ref a)) o.cls from (PySem.W.Looks.ld ho).andThen .now) ?_))
      rw [hc, if_neg (by first | decide | simp)]
      refine wpAny_bind (listItems_at ho hd (wpAny_pure ?_))
      have e0 : (xs[0]?).isSome = neT (.tuple r0) := by
        rw [← Array.getElem?_toList]
        cases q : xs.toList with
        | nil => rw [q] at hr; cases hr; rfl
        | cons f fr => rw [q] at hr; cases hr; rfl
      exact wpAny_bind (firsts_ok t (fun d hd => ht d (by simp [hd])) fun fs hfs => wpAny_pure (h _ (by rw [List.map_cons, List.map_cons, e0, hfs])))
theorem kind_tup {vs : List Value} {ds : List PyData} (e : PySem.W.EachIs (fun v d => ∃ as, Reads s.heap v d as) vs ds) (ht : ∀ d ∈ ds, ∃ r, d = .tuple r) (hm : ∃ d ∈ ds, d = .tuple []) (h2 : 2 ≤ vs.length) {Q : SortKind → Shared → Prop}
    (h : Q (if (ds.head?.map neT) = some true then general' else oneType') s) : wpAny M A (keyKind' vs.toArray) Q E s := by
  rw [keyKind'_eq, List.mapM_toArray, map_eq_pure_bind]
  refine wpAny_bind (wpAny_bind (firsts_ok e ht fun fs hfs => wpAny_pure ?_))
  have na : (fs.toArray.all fun x => x.isSome) = false := by
    obtain ⟨d, hd, rfl⟩ := hm
    have : false ∈ fs.map (·.isSome) := by rw [hfs]; exact List.mem_map.mpr ⟨_, hd, rfl⟩
    obtain ⟨f, hf, e0⟩ := List.mem_map.mp this
    rw [List.all_toArray, ← Bool.not_eq_true, List.all_eq_true]
    intro z
    rw [z f hf] at e0
    cases e0
  rw [if_neg (by rw [na]; simp)]
  cases ds with
  | nil => obtain ⟨d, hd, _⟩ := hm; cases hd
  | cons d ds =>
    cases fs with
    | nil => cases hfs
    | cons f fs =>
      have e0 : f.isSome = neT d := by
        rw [List.map_cons, List.map_cons] at hfs
        exact (List.cons.inj hfs).1
      have e1 : (((f :: fs).toArray[0]?).bind id).isSome = f.isSome := by simp
      by_cases q : neT d = true
      · rw [if_pos (by rw [e1, e0, q])]
        rw [if_pos (by rw [List.head?_cons, Option.map_some, q])] at h
        exact wpAny_pure h
      · rw [if_neg (by rw [e1, e0]; exact q)]
        rw [if_neg (by rw [List.head?_cons, Option.map_some]; simpa using q)] at h
        rw [oneTypeOnly'_eq, List.mapM_toArray, map_eq_pure_bind]
        refine wpAny_bind (wpAny_bind (wpAny_bind (kas_mapM (r := Value.type "tuple") _ (fun v hv Q' hq => ?_) (wpAny_pure ?_))))
        · obtain ⟨d', hd', as, r⟩ := e.left v hv
          obtain ⟨r0, rfl⟩ := ht d' hd'
          exact (looks_reads r).here hq
        · have hall : ((List.map (fun _ => Value.type "tuple") vs).toArray.all fun x => x == Value.type "tuple") = true := by
            simp only [List.all_toArray, List.all_map, List.all_eq_true]
            intro _ _
            exact beq_self_eq_true _
          have h0 : (List.map (fun _ => Value.type "tuple") vs).toArray[0]? = some (Value.type "tuple") := by
            cases vs with
            | nil => simp at h2
            | cons v vs => simp
          rw [h0]
          simp only [hall, if_true]
          exact wpAny_pure (wpAny_pure h)
theorem call_tuple_lt' {Q : Value → Shared → Prop} {l b : Addr} {items items2 : Array Value} {e r : Nat → Bool} (hl : s.heap.IsTuple l items) (hb : s.heap.IsTuple b items2)
    (he : ∀ j (h1 : j < items.size) (h2 : j < items2.size), EqAt A.in1 s items[j] items2[j] (e j)) (hr : ∀ j (h1 : j < items.size) (h2 : j < items2.size), e j = false → RcLt A.in1 s items[j] items2[j] (r j))
    (h : Q (.bool (firstLt e r (decide (items.size < items2.size)) (List.range (min items.size items2.size)))) s) : wpAny (model prog w) A (call (.builtin "tuple.__lt__") [.ref l, .ref b]) Q E s := by
  obtain ⟨⟨cls, dd, data, sl⟩, ho, hc, n, hd⟩ := id hl
  obtain ⟨⟨cls2, dd2, data2, sl2⟩, ho2, hc2, n2, hd2⟩ := id hb
  simp only at hc hd hc2 hd2
  subst hc hd hc2 hd2
  exact call_meets F.slot_tuple_lt ⟨_, ho, rfl⟩ F.entry_tuple_lt (F.args_tuple_lt_2 _ _) (tuple_ltAt l b items items2 n n2 dd dd2 sl sl2 e r) ⟨ho, ho2, he, hr, h⟩
theorem oneLt_tup {xs ys : List PyData} {a b : Value} {as bs : List Addr} {Q : Bool → Shared → Prop} (ra : Reads s.heap a (.tuple xs) as) (rb : Reads s.heap b (.tuple ys) bs) (hal : alikeAll xs ys = true)
    (hu : A.units + min (PyData.tuple xs).depth (PyData.tuple ys).depth < cLine) (hq : Q (dataLt (.tuple xs) (.tuple ys)) s) : wpAny (model prog w) A (oneLt' true a b) Q E s := by
  cases ra with
  | @tuple l o vs n _ as₁ h1 h2 h3 h4 =>
    cases rb with
    | @tuple l' o' vs' n' _ bs₁ k1 k2 k3 k4 =>
      have n1 : vs.size = xs.length := by simpa using ReadsAll.length _ _ _ h4
      have n2 : vs'.size = ys.length := by simpa using ReadsAll.length _ _ _ k4
      rw [dataLt_tuple, ← firstLt_toks xs ys hal, ← n1, ← n2] at hq
      rw [oneLt'_eq]
      simp only [if_true]
      refine wpAny_bind (wpAny_cRoomFor (room_here hu) ?_)
      refine wpAny_bind (wpAny_callSpecialIfBound?_slot (T := "tuple") ⟨_, h1, h2⟩ F.slot_tuple_lt (call_tuple_lt' (e := pairEq xs ys) (r := fun j => dataLt (xs.getD j .none) (ys.getD j .none)) ⟨_, h1, h2, _, h3⟩ ⟨_, k1, k2, _, k3⟩ (fun j j1 j2 => ?_) (fun j j1 j2 hj => ?_) ?_))
      · have := eqAt_alikeAll xs ys A.in1 s vs.toList vs'.toList _ _ h4 k4 hal (PySem.SeqAt.room_in hu) j (by simpa using j1) (by simpa using j2)
        simpa using this
      · have := rcLt_alikeAll xs ys A.in1 s vs.toList vs'.toList _ _ h4 k4 hal (PySem.SeqAt.room_in hu) j (by simpa using j1) (by simpa using j2) hj
        simpa using this
      · exact wpAny_truthy_bool hq
theorem sortsAt_tup {vs : List Value} {ds : List PyData} (e : PySem.W.EachIs (fun v d => ∃ as, Reads s.heap v d as) vs ds) (hal : AllAlike ds) (ht : ∀ d ∈ ds, ∃ r, d = .tuple r) (hm : ∃ d ∈ ds, d = .tuple []) (hu : ∀ d, d ∈ ds → A.units + d.depth < cLine) : SortsAt prog w A s (dataKind s.heap ds) vs := by
  have room : ∀ {d d' : PyData}, d ∈ ds → A.units + min d.depth d'.depth < cLine := fun {d d'} hd => Nat.lt_of_le_of_lt (Nat.add_le_add_left (Nat.min_le_left _ _) _) (hu d hd)
  refine ⟨fun v hv => ?_, _, ?_, fun h2 E Q hq => kind_tup e ht hm h2 hq⟩
  · obtain ⟨d, hd, as, r⟩ := e.left v hv
    exact ⟨_, dataKind_some hal hd r⟩
  · intro E x y a b Q ha hb hq
    obtain ⟨d, as, hd, ra, rfl⟩ := dataKind_inv ha
    obtain ⟨d', as', hd', rb, rfl⟩ := dataKind_inv hb
    obtain ⟨r1, rfl⟩ := ht d hd
    obtain ⟨r2, rfl⟩ := ht d' hd'
    have hdd := hal _ hd _ hd'
    split
    · exact oneLt_alike (f := false) (fun h => nomatch h) ra rb hdd (fun h => nomatch h) (room hd) hq
    · rw [keyLt'_oneType]
      exact oneLt_tup ra rb (by simpa [alike] using hdd) (room hd) hq
theorem sorted_dataT {β : Type} {bs : List β} {enc : β → PyData} {vs : List Value} {R : Value → β → Prop} {l : Addr} {Q : Value → Shared → Prop} (hl : s.heap.IsList l vs.toArray) (e : EachIs R vs bs) (er : EachIs (fun v b => ∃ as, Reads s.heap v (enc b) as) vs bs) (hal : AllAlike (bs.map enc)) (hk : (∀ d ∈ bs.map enc, ∃ r, d = .tuple r) ∨ Sortable (bs.map enc)) (hL : bs.length ≤ sizeLine)
    (hu : ∀ b, b ∈ bs → A.units + 2 + (enc b).depth < cLine) (h : ∀ out, out.length = bs.length → EachIs R out (bs.mergeSort (dataLe false enc)) → Q (.ref (s.heap.objs.size + 1)) { s with heap := sortedAll s.heap vs (List.toArray out) }) :
    wpAny (model prog w) A (call (.builtin "sorted") [.ref l]) Q E s := by
  rcases hk with ht | hk
  · by_cases hm : ∃ d ∈ bs.map enc, d = .tuple []
    · have er' : EachIs (fun v b => ∃ as, Reads (sortingHeap (copyHeap s.heap vs) (s.heap.objs.size + 1) vs) v (enc b) as) vs bs := er.mono fun _ _ ⟨as, r⟩ => ⟨as, PyProof.Rows.Reads.keeps (fun _ _ => sorting_copy_old) r⟩
      exact sorted_vals hl (sortsAt_tup (s := { s with heap := sortingHeap (copyHeap s.heap vs) (s.heap.objs.size + 1) vs }) (each_map (R := fun v d => ∃ as, Reads (sortingHeap (copyHeap s.heap vs) (s.heap.objs.size + 1) vs) v d as) enc er') hal ht hm (bound_map hu)) (by rw [e.length]; exact hL)
        (h _ (by rw [sortVals_length false rfl]; exact e.length) (sortVals_data false e er' hal))
    · refine sorted_data hl e er hal (.inl fun d hd => ?_) hL hu h
      obtain ⟨r, rfl⟩ := ht d hd
      cases r with
      | nil => exact absurd ⟨_, hd, rfl⟩ hm
      | cons x r => exact ⟨x, r, rfl⟩
  · exact sorted_data hl e er hal hk hL hu h
end tupsort
inductive Mk where
  | lst | tup | srt
def srtOk (ds : List D) : Bool := (ds.all fun a => ds.all fun b => PySem.W.alike (pyD a) (pyD b)) && ((ds.all fun a => match a with | .tup _ => true | _ => false) || (ds.all fun a => match a with | .tup _ => false | .non => false | _ => true)) && (ds.all fun a => decide (dep a ≤ 60)) && decide (ds.length ≤ 16777216)
def srtD (ds : List D) : List D := ds.mergeSort (PySem.W.dataLe false pyD)
def dMk : Mk → D → Option D
  | .lst, .lst xs => some (.lst xs)
  | .lst, .tup xs => some (.lst xs)
  | .tup, .lst xs => some (.tup xs)
  | .tup, .tup xs => some (.tup xs)
  | .srt, .lst xs => if srtOk xs = true then some (.lst (srtD xs)) else none
  | _, _ => none
def rMk (X : Cx) : Mk → List V → Hp → VK → Prop
  | .lst => fun xs H Q => ∃ p ys, xs = [.ref p] ∧ (SqL X.K H p ys ∨ SqT X.K H p ys) ∧ ∀ l, H l = none → Q (.ref l) (upd H l (.lst ys))
  | .tup => fun xs H Q => ∃ p ys, xs = [.ref p] ∧ ((SqL X.K H p ys ∧ ∀ l, H l = none → Q (.ref l) (upd H l (.tup ys))) ∨ (SqT X.K H p ys ∧ Q (.ref p) H))
  | .srt => fun xs H Q => ∃ a vs ds, ∃ R : V → D → Prop, xs = [.ref a] ∧ H a = some (.lst vs) ∧ RepL X.K H ds vs ∧ Paired R vs ds ∧ srtOk ds = true ∧ ∀ ys p, H p = none → Paired R ys (srtD ds) → Q (.ref p) (upd H p (.lst ys))
theorem each_of_vals {R : V → D → Prop} : ∀ {vs : List V} {us : List Value} {ds : List D}, Vals vs us → Paired R vs ds → PySem.W.EachIs (fun u d => ∃ v, RelV v u ∧ R v d) us ds
  | _, _, _, .nil, .nil => .nil
  | _, _, _, .cons r t, .cons h q => .cons ⟨_, r, h⟩ (each_of_vals t q)
theorem vals_of_each {R : V → D → Prop} : ∀ {us : List Value} {ds : List D}, PySem.W.EachIs (fun u d => ∃ v, RelV v u ∧ R v d) us ds → ∃ vs, Vals vs us ∧ Paired R vs ds
  | _, _, .nil => ⟨[], .nil, .nil⟩
  | _, _, .cons ⟨v, r, h⟩ t => by
    obtain ⟨vs, h1, h2⟩ := vals_of_each t
    exact ⟨v :: vs, .cons r h1, .cons h h2⟩
theorem reads_of {pins : List (Addr × Obj)} {σ : L2.St} {H : Hp} {s : Shared} (I : Inv X pins σ H s) : ∀ {ds : List D} {vs : List V} {us : List Value}, (∀ d ∈ ds, noD d = true) → RepL X.K H ds vs → Vals vs us → PySem.W.EachIs (fun u d => ∃ as, Reads s.heap u (pyD d) as) us ds
  | [], _, _, _, h, r => by cases (show _ = _ from h); cases r; exact .nil
  | d :: ds, _, _, n, h, r => by
    obtain ⟨v, w, rfl, h1, h2⟩ := h
    cases r with
    | cons r1 r2 => exact .cons (Dp.reads I _ _ _ (rep_dp d (n d (by simp)) h1) r1) (reads_of I (fun x hx => n x (by simp [hx])) h2 r2)
theorem cr_srt (hu : X.A.units + 100 < cLine) : CallR X (.builtin "sorted") (rMk X .srt) := fun pins s σ H xs us Q I r h => by
  obtain ⟨a, vs, ds, R, rfl, ha, hr, hp, ok, q⟩ := h
  obtain ⟨its, rv, hl, hz⟩ := I.list (SqL.of ha)
  rw [Vals.ref1 r]
  unfold srtOk at ok
  simp only [Bool.and_eq_true, Bool.or_eq_true, List.all_eq_true, decide_eq_true_eq] at ok
  obtain ⟨⟨⟨k1, k2⟩, k3⟩, k4⟩ := ok
  refine sorted_dataT (enc := pyD) hl.isList (each_of_vals rv hp) (reads_of I (fun d hd => (dep_no (k3 d hd)).1) hr rv) ?_ ?_ (by rw [sizeLine_eq]; exact k4) (fun b hb => ?_) fun out h1 h2 => ?_
  · intro d hd d' hd'
    obtain ⟨b, hb, rfl⟩ := List.mem_map.mp hd
    obtain ⟨b', hb', rfl⟩ := List.mem_map.mp hd'
    exact k1 b hb b' hb'
  · rcases k2 with k2 | k2
    · left
      intro d hd
      obtain ⟨b, hb, rfl⟩ := List.mem_map.mp hd
      have := k2 b hb
      split at this
      · exact ⟨_, rfl⟩
      · cases this
    · right; right
      intro d hd
      obtain ⟨b, hb, rfl⟩ := List.mem_map.mp hd
      have := k2 b hb
      cases b <;> first
        | (simp at this; done)
        | exact (Bool.noConfusion (show false = true from (dep_no (k3 _ hb)).1))
        | exact ⟨by simp [pyD], by simp [pyD]⟩
  · have := (dep_no (k3 b hb)).2
    omega
  · obtain ⟨ys, v1, v2⟩ := vals_of_each h2
    obtain ⟨ep, he⟩ := PyProof.Rows.sortedAll_at s.heap its out.toArray
    have hlen : ys.length ≤ sizeLine := by
      rw [v1.length, h1, sizeLine_eq]
      exact k4
    exact ⟨.ref _, upd H (s.heap.objs.size + 1) (.lst ys), I.laid (t' := s.toks) (fun _ _ => PyProof.Rows.sortedAll_old) (Nat.le_succ _) ⟨hlen, out, ep, v1, he⟩, rfl, q ys _ (I.hok.fresh (Nat.le_succ _)) v2⟩
theorem paired_own {H : Hp} {g : G} : ∀ {ds : List D} {vs : List V} {i : Nat}, OwnL K H g ds 0 0 [] i vs → Paired (fun v d => Own K H g d 0 0 [] v) vs ds
  | [], _, _, h => by cases (show _ = _ from h); exact .nil
  | d :: ds, _, _, h => by
    obtain ⟨v, w, rfl, h1, h2⟩ := h
    exact .cons (own_fz (fun a z => ⟨z, rfl⟩) (fun _ _ z _ => z) h1) (paired_own h2)
theorem own_paired {H : Hp} {g : G} : ∀ {ds : List D} {vs : List V} {i : Nat}, Paired (fun v d => Own K H g d 0 0 [] v) vs ds → OwnL K H g ds 0 0 [] i vs
  | _, _, _, .nil => rfl
  | _, _, _, .cons h t => ⟨_, _, rfl, own_fz (fun a z => ⟨z, rfl⟩) (fun _ _ z _ => z) h, own_paired t⟩
def mMk (k : Mk) (ml : ML) : M := mB (fun ds => match ds with
  | [d] => dMk k d
  | _ => none) ml
theorem j_mkO {k : Mk} {a e : Expr} {ml : ML} {pa : Bool} (h : JA X κ [a] ml [.rz (.own 0)] κ1 pa) (mk : ∀ {t : TA}, PA X [a] t → PE X e (tCB (rMk X k) t)) : J X κ e (mMk k ml) (.own 1) κ1 pa := by
  refine ⟨fun t ht => PE.imp (mk (h.run t ht)) fun σ H Q z q => ?_, fun hp ρ d ρ' e => ?_⟩
  · obtain ⟨g, ρ, S, d, ρ', em, post⟩ := q z
    obtain ⟨ds, e1, e2⟩ := mB_some em
    refine fun _ => ⟨g, ρ, S, ds, ρ', e1, fun vs H' g' S' P' s' r' => ?_⟩
    obtain ⟨x, ds', v, vs', rfl, rfl, h1, h2⟩ := r'
    obtain ⟨rfl, rfl⟩ := h2
    have e2' : dMk k x = some d := e2
    unfold dMk at e2'
    split at e2'
    · cases e2'
      obtain ⟨a, us, rfl, k1, k2⟩ := own0_seq.1 h1
      exact ⟨a, us, rfl, .inl (SqL.of k1), fun p hp => gives_post (b := true) S' rfl k2 P' s' post p hp⟩
    · cases e2'
      obtain ⟨a, us, rfl, k1, k2⟩ := own0_seq.2 h1
      exact ⟨a, us, rfl, .inr (SqT.of k1), fun p hp => gives_post (b := true) S' rfl k2 P' s' post p hp⟩
    · cases e2'
      obtain ⟨a, us, rfl, k1, k2⟩ := own0_seq.1 h1
      exact ⟨a, us, rfl, .inl ⟨SqL.of k1, fun p hp => gives_post (b := false) S' rfl k2 P' s' post p hp⟩⟩
    · cases e2'
      obtain ⟨a, us, rfl, k1, k2⟩ := own0_seq.2 h1
      exact ⟨a, us, rfl, .inr ⟨SqT.of k1, post _ H' g' S' P' s' ⟨a, us, rfl, k1, ownL_fz (fun a z => ⟨z, rfl⟩) (fun _ _ z _ => z) k2⟩⟩⟩
    · split at e2'
      · cases e2'
        obtain ⟨a, us, rfl, k1, k2⟩ := own0_seq.1 h1
        exact ⟨a, us, _, _, rfl, k1, ownL_repL _ k2, paired_own k2, by assumption, fun ys p hp hr => gives_post (b := true) S' rfl (own_paired hr) P' s' post p hp⟩
      · cases e2'
    · cases e2'
  · obtain ⟨ds, e1, e2⟩ := mB_some e
    exact h.pur hp _ _ _ e1
end VS
namespace VS
open PySem PySem.Spec PyProof.Rows L2
variable {K : PySem.W.Frag} {X : Cx} {κ κ1 κ2 κ3 κ4 : OE} {pos : Pos} {rc : RC}
def itM (j : Nat) (mb : SM) : List D → DE → Option (List D × DE)
  | [], ρ => some ([], ρ)
  | d :: ds, ρ => match mb (ρ.set j (some d)) with
    | some (.nx ρ1) => (match ρ1[j]? with
      | some (some d') => (itM j mb ds ρ1).map fun x => (d' :: x.1, x.2)
      | _ => none)
    | _ => none
def sForM (i j : Nat) (mb : SM) : SM := fun ρ => match ρ[i]? with
  | some (some (.lst ds)) => (itM j mb ds ρ).map fun x => .nx (x.2.set i (some (.lst x.1)))
  | _ => none
theorem itM_cons {j : Nat} {mb : SM} {d : D} {ds es : List D} {ρ ρ' : DE} (h : itM j mb (d :: ds) ρ = some (es, ρ')) : ∃ ρ1 d' r, mb (ρ.set j (some d)) = some (.nx ρ1) ∧ ρ1[j]? = some (some d') ∧ itM j mb ds ρ1 = some (r, ρ') ∧ es = d' :: r := by
  simp only [itM] at h
  split at h
  · rename_i ρ1 e1
    split at h
    · rename_i d' e2
      cases e3 : itM j mb ds ρ1 with
      | none => rw [e3] at h; cases h
      | some x => rw [e3] at h; cases h; exact ⟨ρ1, d', x.1, e1, e2, e3, rfl⟩
    · cases h
  · cases h
def stG (t j m : Nat) (g : G) : G := fun a => match g a with
  | .ow r q => if r = t ∧ q.getLast? = some m then .ow j q.dropLast else .ow r q
  | z => z
section
variable {t j m : Nat} {g : G} {a : Addr}
theorem stG_fz (h : g a = .fz) : stG t j m g a = .fz := by unfold stG; rw [h]
theorem stG_un (h : g a = .un) : stG t j m g a = .un := by unfold stG; rw [h]
theorem stG_ne (h : stG t j m g a ≠ .un) : g a ≠ .un := fun z => h (stG_un z)
theorem stG_t {q : List Nat} (h : g a = .ow t (q ++ [m])) : stG t j m g a = .ow j q := by unfold stG; rw [h]; simp
theorem stG_o {r : Nat} {q : List Nat} (hq : r ≠ t ∨ q.getLast? ≠ some m) (h : g a = .ow r q) : stG t j m g a = .ow r q := by
  unfold stG
  rw [h]
  simp only []
  rw [if_neg]
  rintro ⟨e1, e2⟩
  rcases hq with z | z
  · exact z e1
  · exact z e2
theorem stG_inv {r : Nat} {q : List Nat} (hr : r ≠ j) (h : stG t j m g a = .ow r q) : g a = .ow r q := by
  unfold stG at h
  split at h
  · rename_i r' q' e
    split at h
    · cases h; exact (hr rfl).elim
    · cases h; exact e
  · exact h
end
theorem ownL_split {H : Hp} {g : G} {k r : Nat} {p : List Nat} : ∀ {xs ys : List D} {i : Nat} {vs : List V}, OwnL K H g (xs ++ ys) k r p i vs → ∃ v1 v2, vs = v1 ++ v2 ∧ v1.length = xs.length ∧ OwnL K H g xs k r p i v1 ∧ OwnL K H g ys k r p (i + xs.length) v2
  | [], ys, i, vs, h => ⟨[], vs, rfl, rfl, rfl, h⟩
  | x :: xs, ys, i, vs, h => by
    obtain ⟨v, w, rfl, o1, o2⟩ := h
    obtain ⟨v1, v2, rfl, hl, h1, h2⟩ := ownL_split o2
    refine ⟨v :: v1, v2, rfl, by simp [hl], ⟨v, v1, rfl, o1, h1⟩, ?_⟩
    rw [show i + (x :: xs).length = i + 1 + xs.length by simp; omega]
    exact h2
theorem ownL_join {H : Hp} {g : G} {k r : Nat} {p : List Nat} : ∀ {xs ys : List D} {i : Nat} {v1 v2 : List V}, OwnL K H g xs k r p i v1 → OwnL K H g ys k r p (i + xs.length) v2 → OwnL K H g (xs ++ ys) k r p i (v1 ++ v2)
  | [], ys, i, _, _, h1, h2 => by cases (show _ = _ from h1); exact h2
  | x :: xs, ys, i, _, _, h1, h2 => by
    obtain ⟨v, w, rfl, o1, o2⟩ := h1
    refine ⟨v, _, rfl, o1, ownL_join o2 ?_⟩
    rw [show i + 1 + xs.length = i + (x :: xs).length by simp; omega]
    exact h2
theorem ownL_conv {H H' : Hp} {g g' : G} {k r : Nat} (st : ∀ a o, H a = some o → stb o = true → H' a = some o) (hf : ∀ a, g a = .fz → g' a = .fz ∧ H' a = H a) (P : Nat → Prop)
    (hc : ∀ a q m, P m → g a = .ow r (q ++ [m]) → H' a = H a ∧ g' a = .ow r (q ++ [m])) : ∀ {ds : List D} {i : Nat} {vs : List V}, (∀ m, i ≤ m → m < i + ds.length → P m) → OwnL K H g ds k r [] i vs → OwnL K H' g' ds k r [] i vs
  | [], _, _, _, h => h
  | d :: ds, i, _, hp, h => by
    obtain ⟨v, w, rfl, o1, o2⟩ := h
    refine ⟨v, w, rfl, own_conv st d (.inr hf) (fun a q z hh => ?_) (fun _ z => z) o1, ownL_conv st hf P hc (fun m h1 h2 => hp m (by omega) (by simp; omega)) o2⟩
    obtain ⟨h1, h2⟩ := hc a q i (hp i (Nat.le_refl _) (by simp)) z
    exact ⟨h1, by rw [if_pos hh]; exact h2⟩
def rcM (rc : RC) (i j : Nat) : RC := ⟨0, (rc.κr.set j (some 0)).set i (some 0)⟩
theorem js_forM {tg iter : Expr} {b : List Stmt} {mb : SM} {i j k : Nat} {κb' : OE} (hij : i ≠ j) (hil : i < X.N.length) (hjl : j < X.N.length) (hk : κ[i]? = some (some k)) (h0 : k ≠ 0)
    (hb : JB X ((κ.set i none).set j (some (lv k))) b mb κb' (rcM rc i j)) (hr : ∀ ρ d ρ', mb ρ ≠ some (.rt d ρ')) (hj : κb'[j]? = some (some (lv k))) (hle : leO ((κ.set i none).set j none) κb' = true) (hκn : κ.length = X.N.length) (hrc : rc.κr.length = X.N.length) (hfi : notFx rc i = true) (hfj : notFx rc j = true)
    (mk : ∀ {tb : TS}, PSs X b tb → PS X (.For tg iter b [] pos) (tFor (iList X.K (tVar i)) (gName j) tb)) : JS X κ (.For tg iter b [] pos) (sForM i j mb) (((κ.set i none).set j none).set i (some k)) rc := by
  have body : ∀ t, X.N.length ≤ t → PSs X b (fun D σ H => ∃ s1, jTS X.K X.N.length ((κ.set i none).set j (some (lv k))) mb κb' (rcM rc i j) s1 t D σ H) := fun t ht => ⟨fun pins s σ H D I q => by
    obtain ⟨s1, q⟩ := q
    exact (hb.run s1 t ht).run pins s σ H D I q⟩
  refine ⟨fun s0 t ht => PS.imp (mk (body (t + 1) (by omega))) fun σ H Dd z q => ?_⟩
  obtain ⟨g, ρ, S, fx, o, em, post⟩ := q z
  unfold sForM at em
  split at em
  case h_2 => cases em
  rename_i ds ei
  cases e5 : itM j mb ds ρ with
  | none => rw [e5] at em; cases em
  | some x =>
    obtain ⟨es, ρe⟩ := x
    rw [e5] at em
    cases em
    obtain ⟨v, ev, o1⟩ := S.ok i k _ hk ei
    obtain ⟨L, vs0, rfl, hL, hg, _⟩ := lst_own o1 h0
    have lenσ : σ.length = X.N.length := z.2
    have it : i ≠ t := by omega
    have κi : ∀ (m k' : Nat), (((κ.set i none).set j none) : OE)[m]? = some (some k') → m ≠ i ∧ m ≠ j ∧ κ[m]? = some (some k') := fun m k' h => by
      rcases set_some h with ⟨_, e, _⟩ | ⟨h1, h⟩
      · cases e
      · rcases set_some h with ⟨_, e, _⟩ | ⟨h2, h⟩
        · cases e
        · exact ⟨h2, h1, h⟩
    -- the list at a row of its own
    have Sg : Sok X.K ((κ.set i none).set j none) ρ (mvG i t [] (fun _ _ => false) g) σ H := by
      refine ⟨fun m k' d' h1 h2 => ?_, fun a h => S.gok a (mvG_ne h), S.len, by simp [S.lek]⟩
      obtain ⟨mi, mj, h1⟩ := κi m k' h1
      obtain ⟨v', es', w⟩ := S.ok m k' d' h1 h2
      exact ⟨v', es', own_conv (fun _ _ z _ => z) d' (.inr fun a z => ⟨mvG_fz z, rfl⟩) (fun a q z hh => ⟨rfl, by rw [if_pos hh]; exact mvG_o mi rfl z⟩) (fun _ z => z) w⟩
    have Og : Own X.K H (mvG i t [] (fun _ _ => false) g) (.lst ds) k t [] (.ref L) :=
      own_conv (fun _ _ z _ => z) (.lst ds) (.inr fun a z => ⟨mvG_fz z, rfl⟩) (fun a q z hh => ⟨rfl, by rw [if_pos hh, mvG_t z]; simp⟩) (fun _ z => z) o1
    have Pg : Pres X.N.length t g H (mvG i t [] (fun _ _ => false) g) H :=
      ⟨fun a z => ⟨mvG_fz z, rfl⟩, fun a z _ => ⟨mvG_un z, rfl⟩, fun a r p h1 h2 z => ⟨mvG_o (by omega) rfl z, rfl⟩, fun a r p h1 h2 z => mvG_inv (by omega) z, fun _ _ z _ => z⟩
    refine ⟨.ref L, ev, L, rfl, ⟨vs0, SqL.of hL⟩, ?_⟩
    refine ⟨fun idx m σ' H' => m = ds.length - idx ∧ idx ≤ ds.length ∧ ∃ g' ρ' dn r, Sok X.K ((κ.set i none).set j none) ρ' g' σ' H' ∧ Fx rc s0 σ' ∧ σ'[i]? = some (some (.ref L)) ∧ Own X.K H' g' (.lst (dn ++ ds.drop idx)) k t [] (.ref L) ∧ dn.length = idx ∧
      itM j mb (ds.drop idx) ρ' = some (r, ρe) ∧ dn ++ r = es ∧ Pres X.N.length t g H g' H', ⟨ds.length, by omega, Nat.zero_le _, _, ρ, [], es, Sg, fx, ev, by simpa using Og, rfl, by simpa using e5, rfl, Pg⟩, ?_⟩
    rintro idx m σ1 H1 ⟨rfl, hle1, g1, ρ1, dn, r, S1, fx1, ev1, O1, dl, e6, er, P1⟩
    obtain ⟨L', vs, eL, hL1, hg1, hvl⟩ := lst_own O1 h0
    cases eL
    have len1 : σ1.length = X.N.length := by
      rw [← S1.lek]
      simp [hκn]
    by_cases hlt : idx < ds.length
    · obtain ⟨d, ed⟩ := ex_at hlt
      rw [drop_cons ed] at e6 O1
      obtain ⟨ρ2, d', r', e7, e8, e9, rfl⟩ := itM_cons e6
      have hvlen : idx < vs.length := by
        rw [hvl]
        simp
        omega
      obtain ⟨xv, exv⟩ := ex_at hvlen
      refine .inr ⟨⟨vs, xv, SqL.of hL1, exv⟩, fun σ' H' => idx + 1 ≤ ds.length ∧ ∃ g' ρ' dn r, Sok X.K ((κ.set i none).set j none) ρ' g' σ' H' ∧ Fx rc s0 σ' ∧ σ'[i]? = some (some (.ref L)) ∧ Own X.K H' g' (.lst (dn ++ ds.drop (idx + 1))) k t [] (.ref L) ∧ dn.length = idx + 1 ∧
        itM j mb (ds.drop (idx + 1)) ρ' = some (r, ρe) ∧ dn ++ r = es ∧ Pres X.N.length t g H g' H', fun σ' H' hh => ⟨ds.length - (idx + 1), by omega, rfl, hh⟩, fun x H' y => ?_⟩
      obtain ⟨rfl, y⟩ := y
      have hx : x = xv := by
        have := y vs (SqL.of hL1)
        rw [exv] at this
        cases this
        rfl
      subst hx
      -- the item at its slot
      obtain ⟨L2, vs2, eL2, hL2, hgL, ol⟩ := id O1
      cases eL2
      rw [hL1] at hL2
      cases hL2
      obtain ⟨w1, w2, rfl, hw1, ol1, ol2⟩ := ownL_split ol
      obtain ⟨xc, w3, rfl, oc, ol3⟩ := ol2
      rw [Nat.zero_add, dl] at oc ol3
      have exc : xc = x := by
        rw [List.getElem?_append_right (by omega), hw1, dl, Nat.sub_self] at exv
        cases exv
        rfl
      subst exc
      have gLne : ∀ a q mm, g1 a = .ow t (q ++ [mm]) → a ≠ L := fun a q mm e z => by
        subst z
        rw [hg1] at e
        cases q <;> cases e
      have Sb : Sok X.K ((κ.set i none).set j (some (lv k))) (ρ1.set j (some d)) (stG t j idx g1) (σ1.set j (some xc)) H' := by
        refine ⟨fun mm k' d2 h1 h2 => ?_, fun a h => S1.gok a (stG_ne h), by simp [S1.len], by simp [len1, hκn]⟩
        rcases set_some h1 with ⟨rfl, ek, _⟩ | ⟨hm, h1⟩
        · cases ek
          rcases set_some h2 with ⟨_, ed2, _⟩ | ⟨hh, _⟩
          · cases ed2
            refine ⟨xc, List.getElem?_set_self (by omega), own_conv (fun _ _ z _ => z) _ (.inr fun a z => ⟨stG_fz z, rfl⟩) (fun a q z hh => ⟨rfl, ?_⟩) (fun _ z => z) oc⟩
            rw [if_pos hh, stG_t z]
            simp
          · exact (hh rfl).elim
        · rcases set_some h2 with ⟨e, _, _⟩ | ⟨_, h2⟩
          · exact (hm e).elim
          · have h1' : (((κ.set i none).set j none) : OE)[mm]? = some (some k') := by
              rw [List.getElem?_set_ne (Ne.symm hm)]
              exact h1
            obtain ⟨v', es', w⟩ := S1.ok mm k' d2 h1' h2
            have hmm := (List.getElem?_eq_some_iff.mp es').1
            refine ⟨v', by rw [List.getElem?_set_ne (Ne.symm hm)]; exact es', own_conv (fun _ _ z _ => z) d2 (.inr fun a z => ⟨stG_fz z, rfl⟩) (fun a q z hh => ⟨rfl, by rw [if_pos hh]; exact stG_o (.inl (by omega)) z⟩) (fun _ z => z) w⟩
      have Pb : Pres X.N.length t g1 H' (stG t j idx g1) H' :=
        ⟨fun a z => ⟨stG_fz z, rfl⟩, fun a z _ => ⟨stG_un z, rfl⟩, fun a r p h1 h2 z => ⟨stG_o (.inl (by omega)) z, rfl⟩, fun a r p h1 h2 z => stG_inv (by omega) z, fun _ _ z _ => z⟩
      have lastne : ∀ (q : List Nat) (mm : Nat), mm ≠ idx → (q ++ [mm]).getLast? ≠ some idx := fun q mm hm h => by
        rw [List.getLast?_append] at h
        simp at h
        exact hm h
      have ol1s : OwnL X.K H' (stG t j idx g1) dn (lv k) t [] 0 w1 := ownL_conv (fun _ _ z _ => z) (fun a z => ⟨stG_fz z, rfl⟩) (fun mm => mm ≠ idx) (fun a q mm hm z => ⟨rfl, stG_o (.inr (lastne q mm hm)) z⟩) (fun mm h1 h2 => by omega) ol1
      have ol3s : OwnL X.K H' (stG t j idx g1) (ds.drop (idx + 1)) (lv k) t [] (idx + 1) w3 := ownL_conv (fun _ _ z _ => z) (fun a z => ⟨stG_fz z, rfl⟩) (fun mm => mm ≠ idx) (fun a q mm hm z => ⟨rfl, stG_o (.inr (lastne q mm hm)) z⟩) (fun mm h1 h2 => by omega) ol3
      have hgLs : stG t j idx g1 L = .ow t [] := stG_o (.inr (by simp)) hg1
      refine ⟨σ1.set j (some xc), fun _ => ⟨_, _, Sb, fun mm k' _ => rfl, _, e7, fun σ3 H3 g3 S3 P3 F3 => ?_⟩⟩
      have ev3 : σ3[i]? = some (some (.ref L)) := by
        rw [F3 i 0 (by show ((rc.κr.set j (some 0)).set i (some 0))[i]? = _; rw [List.getElem?_set_self (by simp [hrc]; omega)]), List.getElem?_set_ne (Ne.symm hij)]
        exact ev1
      have ej3 : σ3[j]? = some (some xc) := by
        rw [F3 j 0 (by show ((rc.κr.set j (some 0)).set i (some 0))[j]? = _; rw [List.getElem?_set_ne hij, List.getElem?_set_self (by omega)]), List.getElem?_set_self (by omega)]
      have fx3 : Fx rc s0 σ3 := fun mm k' em => by
        have mi : mm ≠ i := by
          rintro rfl
          unfold notFx at hfi
          rw [em] at hfi
          cases hfi
        have mj : mm ≠ j := by
          rintro rfl
          unfold notFx at hfj
          rw [em] at hfj
          cases hfj
        rw [F3 mm k' (by show ((rc.κr.set j (some 0)).set i (some 0))[mm]? = _; rw [List.getElem?_set_ne (Ne.symm mi), List.getElem?_set_ne (Ne.symm mj)]; exact em), List.getElem?_set_ne (Ne.symm mj)]
        exact fx1 mm k' em
      obtain ⟨v3, ev3', o3⟩ := S3.ok j _ d' hj e8
      rw [ej3] at ev3'
      cases ev3'
      have hL3 := P3.tp L t [] (by omega) (Nat.lt_succ_self t) hgLs
      have hs3 : ∀ a o, H' a = some o → stb o = true → H3 a = some o := P3.tu
      -- back to its place
      have hσ3 : σ3.length = X.N.length := by
        rw [← S3.lek]
        have := leO_len hle
        rw [← this]
        simp [hκn]
      have jt : j ≠ t := by omega
      have S4 : Sok X.K ((κ.set i none).set j none) ρ2 (mvG j t [idx] (fun _ _ => false) (wk ((κ.set i none).set j none) g3)) σ3 H3 := by
        have Sw := S3.weaken hle
        refine ⟨fun mm k' d2 h1 h2 => ?_, fun a h => Sw.gok a (mvG_ne h), Sw.len, Sw.lek⟩
        obtain ⟨mi, mj, _⟩ := κi mm k' h1
        obtain ⟨v', es', w⟩ := Sw.ok mm k' d2 h1 h2
        exact ⟨v', es', own_conv (fun _ _ z _ => z) d2 (.inr fun a z => ⟨mvG_fz z, rfl⟩) (fun a q z hh => ⟨rfl, by rw [if_pos hh]; exact mvG_o mj rfl z⟩) (fun _ z => z) w⟩
      have Pw : Pres X.N.length (t + 1) g3 H3 (wk ((κ.set i none).set j none) g3) H3 := Pres.weaken (by simp [hκn])
      have P4 : Pres X.N.length t (wk ((κ.set i none).set j none) g3) H3 (mvG j t [idx] (fun _ _ => false) (wk ((κ.set i none).set j none) g3)) H3 :=
        ⟨fun a z => ⟨mvG_fz z, rfl⟩, fun a z _ => ⟨mvG_un z, rfl⟩, fun a r p h1 h2 z => ⟨mvG_o (by omega) rfl z, rfl⟩, fun a r p h1 h2 z => mvG_inv (by omega) z, fun _ _ z _ => z⟩
      have P13 := P3.trans Pw
      have cv : ∀ {xs : List D} {l : Nat} {ws : List V}, OwnL X.K H' (stG t j idx g1) xs (lv k) t [] l ws → OwnL X.K H3 (mvG j t [idx] (fun _ _ => false) (wk ((κ.set i none).set j none) g3)) xs (lv k) t [] l ws := fun {xs l ws} h =>
        ownL_conv hs3 (fun a z => ⟨mvG_fz (P13.fz a z).1, (P13.fz a z).2⟩) (fun _ => True) (fun a q mm _ z => ⟨(P13.tp a t _ (by omega) (Nat.lt_succ_self t) z).2, mvG_o (by omega) rfl (P13.tp a t _ (by omega) (Nat.lt_succ_self t) z).1⟩) (fun _ _ _ => trivial) h
      have oj : Own X.K H3 (mvG j t [idx] (fun _ _ => false) (wk ((κ.set i none).set j none) g3)) d' (lv k) t [idx] xc := by
        refine own_conv (fun _ _ z _ => z) d' (.inr fun a z => ⟨mvG_fz (wk_fz z), rfl⟩) (fun a q z hh => ⟨rfl, ?_⟩) (fun _ z => z) o3
        have : wk ((κ.set i none).set j none) g3 a = .ow j (q ++ []) := by
          unfold wk
          rw [z]
          simp only []
          rw [List.getElem?_set_self (by simp [hκn]; omega)]
        rw [if_pos hh, mvG_t this]
        simp
      refine ⟨hlt, _, ρ2, dn ++ [d'], r', S4, fx3, ev3, ?_, by simp [dl], e9, by rw [List.append_assoc]; exact er, P1.trans (Pb.trans (((P3.less (Nat.le_succ t)).trans (Pw.less (Nat.le_succ t))).trans P4))⟩
      refine ⟨L, w1 ++ (xc :: w3), rfl, hL3.2.trans hL1, ?_, ?_⟩
      · rw [if_neg h0]
        exact mvG_o (by omega) rfl (Pw.tp L t [] (by omega) (Nat.lt_succ_self t) hL3.1).1
      · rw [List.append_assoc]
        exact ownL_join (cv ol1s) ⟨xc, w3, rfl, by rw [Nat.zero_add, dl]; exact oj, by rw [Nat.zero_add, dl]; exact cv ol3s⟩
    · have hi' : idx = ds.length := by omega
      subst hi'
      rw [List.drop_length] at e6 O1
      cases e6
      rw [List.append_nil] at er O1
      subst er
      have Se : Sok X.K (((κ.set i none).set j none).set i (some k)) (ρe.set i (some (.lst dn))) (mvG t i [] (fun _ _ => false) g1) σ1 H1 := by
        refine ⟨fun mm k' d2 h1 h2 => ?_, fun a h => S1.gok a (mvG_ne h), by simp [S1.len], by simp [len1, hκn]⟩
        rcases set_some h1 with ⟨rfl, ek, _⟩ | ⟨hm, h1⟩
        · cases ek
          rcases set_some h2 with ⟨_, ed2, _⟩ | ⟨hh, _⟩
          · cases ed2
            refine ⟨.ref L, ev1, own_conv (fun _ _ z _ => z) (.lst dn) (.inr fun a z => ⟨mvG_fz z, rfl⟩) (fun a q z hh => ⟨rfl, ?_⟩) (fun _ z => z) O1⟩
            rw [if_pos hh, mvG_t z]
            simp
          · exact (hh rfl).elim
        · rcases set_some h2 with ⟨e, _, _⟩ | ⟨_, h2⟩
          · exact (hm e).elim
          · obtain ⟨v', es', w⟩ := S1.ok mm k' d2 h1 h2
            have hmm := (List.getElem?_eq_some_iff.mp es').1
            exact ⟨v', es', own_conv (fun _ _ z _ => z) d2 (.inr fun a z => ⟨mvG_fz z, rfl⟩) (fun a q z hh => ⟨rfl, by rw [if_pos hh]; exact mvG_o (by omega) rfl z⟩) (fun _ z => z) w⟩
      have Pe : Pres X.N.length t g1 H1 (mvG t i [] (fun _ _ => false) g1) H1 :=
        ⟨fun a z => ⟨mvG_fz z, rfl⟩, fun a z _ => ⟨mvG_un z, rfl⟩, fun a r p h1 h2 z => ⟨mvG_o (by omega) rfl z, rfl⟩, fun a r p h1 h2 z => mvG_inv (by omega) z, fun _ _ z _ => z⟩
      exact .inl ⟨⟨vs, SqL.of hL1, by rw [hvl]; simp [dl]⟩, post σ1 H1 _ Se (P1.trans Pe) fx1⟩
end VS
namespace VS
open PySem PySem.Spec PyProof.Rows L2
variable {P : Program} {w : World} {K : PySem.W.Frag} {mg : Str → Option Value} {base : Heap}
variable {X : Cx} {κ κ1 κ2 κ3 κ4 : OE} {pos : Pos} {rc : RC}
theorem j_mov {i k : Nat} {e : Expr} (h : PE X e (tVar i)) (hk : κ[i]? = some (some k)) : J X κ e (mV i) (.own k) (κ.set i none) true := by
  refine ⟨fun t ht => PE.imp h fun σ H Q z q => ?_, fun _ ρ d' ρ' e => (mV_some e).2⟩
  obtain ⟨g, ρ, S, d', ρ', em, post⟩ := q z
  obtain ⟨e1, rfl⟩ := mV_some em
  obtain ⟨v, es, o⟩ := S.ok i k d' hk e1
  have hi : i < X.N.length := by
    have := (List.getElem?_eq_some_iff.mp es).1
    have := z.2
    omega
  refine ⟨v, es, post v H (mvG i t [] (fun _ _ => false) g) ⟨fun m k' d2 h1 h2 => ?_, fun a h => S.gok a (mvG_ne h), S.len, by simp [S.lek]⟩ ⟨fun a z => ⟨mvG_fz z, rfl⟩, fun a z _ => ⟨mvG_un z, rfl⟩, fun a r p h1 h2 z => ⟨mvG_o (by omega) rfl z, rfl⟩, fun a r p h1 h2 z => mvG_inv (by omega) z, fun _ _ z _ => z⟩ (fun _ => Same.refl H) ?_⟩
  · rcases set_some h1 with ⟨_, e, _⟩ | ⟨hm, h1⟩
    · cases e
    · obtain ⟨v', es', w⟩ := S.ok m k' d2 h1 h2
      exact ⟨v', es', own_conv (fun _ _ z _ => z) d2 (.inr fun a z => ⟨mvG_fz z, rfl⟩) (fun a q z hh => ⟨rfl, by rw [if_pos hh]; exact mvG_o hm rfl z⟩) (fun _ z => z) w⟩
  · exact own_conv (fun _ _ z _ => z) d' (.inr fun a z => ⟨mvG_fz z, rfl⟩) (fun a q z hh => ⟨rfl, by rw [if_pos hh, mvG_t z]; simp⟩) (fun _ z => z) o
theorem dic_get0 {H : Hp} {g : G} {q : DKs} {xs : List D} {d z : D} {v u : V} {r : Nat} {p : List Nat} (h : dGetD q xs d = some z) (rx : Own K H g (.dic q xs) 0 r p v) (ry : Rep K H d u) : ∃ a w, v = .ref a ∧ DGet H a u (some w) ∧ Own K H g z 0 0 [] w := by
  obtain ⟨j, e1, e2⟩ := dGetD_some h
  obtain ⟨a, vs, rfl, ha, hq, hg, hl⟩ := rx
  obtain ⟨w, e3, r3⟩ := ownL_get hl e2
  have hd : Rd H a (dO q vs) := ha.elim .inl fun z => .inr z.2
  have := dGet_of hd (hq.trans (repL_len (ownL_repL _ hl)).symm) e1 ry
  rw [Option.bind_some, e3] at this
  exact ⟨a, w, rfl, this, own_fz (fun a z => ⟨z, rfl⟩) (fun _ _ z _ => z) r3⟩
theorem j_ix0 (hu : X.A.units + 100 < cLine) {a b : Expr} {ma mb : M} {rb : Rz} {pa pb : Bool} (ha : J X κ a ma (.own 0) κ1 pa) (hb : J X κ1 b mb rb κ2 pb) (hs : PlainIx b) : J X κ (.Subscript a b pos) (m2 dIxP ma mb) (.own 0) κ2 (pa && pb) := by
  refine ⟨fun t ht => PE.imp (PE.or (pe_ix ix_seq (ha.run t ht) (hb.run (t + 1) (by omega)) hs) (pe_dget (by omega) (ha.run t ht) (hb.run (t + 1) (by omega)) hs)) fun σ H Q z q => ?_, fun hp ρ d ρ' h => ?_⟩
  · obtain ⟨g, ρ, S, d, ρ', em, post⟩ := q z
    obtain ⟨x, ρ1, y, ea, eb, ec⟩ := m2_some em
    by_cases hx : isDic x = true
    · refine .inr (two (K := X.K) (κ2 := κ2) ht rfl S ea eb z fun v u H' g' S' P' s' r1 r2 => ?_)
      cases x with
      | dic q xs =>
        obtain ⟨a', w, rfl, h1, h2⟩ := dic_get0 ec r1 r2.rep
        exact ⟨a', w, rfl, h1, post w H' g' S' P' s' (own_fz (fun a z => ⟨z, rfl⟩) (fun _ _ z _ => z) h2)⟩
      | _ => cases hx
    refine .inl (two (K := X.K) (κ2 := κ2) ht rfl S ea eb z fun v u H' g' S' P' s' r1 r2 => ?_)
    unfold dIxP at ec
    split at ec
    · obtain ⟨a, vs, rfl, h1, h2⟩ := own0_seq.1 r1
      cases (show _ = _ from r2.rep)
      obtain ⟨w, e1, e2⟩ := atI_rep (ownL_repL _ h2) ec
      obtain ⟨j, k1, k2⟩ := atI_at (ownL_len h2) e1 ec
      exact .inl ⟨a, vs, _, w, rfl, rfl, SqL.of h1, e1, post w H' g' S' P' s' (own_fz (fun a z => ⟨z, rfl⟩) (fun _ _ z _ => z) (ownL_at h2 k2 k1))⟩
    · obtain ⟨a, vs, rfl, h1, h2⟩ := own0_seq.2 r1
      cases (show _ = _ from r2.rep)
      obtain ⟨w, e1, e2⟩ := atI_rep (ownL_repL _ h2) ec
      obtain ⟨j, k1, k2⟩ := atI_at (ownL_len h2) e1 ec
      exact .inr (.inl ⟨a, vs, _, w, rfl, rfl, SqT.of h1, e1, post w H' g' S' P' s' (own_fz (fun a z => ⟨z, rfl⟩) (fun _ _ z _ => z) (ownL_at h2 k2 k1))⟩)
    · exact (hx rfl).elim
    · cases ec
  · rw [Bool.and_eq_true] at hp
    obtain ⟨x, ρ1, y, ea, eb, ec⟩ := m2_some h
    rw [hb.pur hp.2 _ _ _ eb, ha.pur hp.1 _ _ _ ea]
def sTgt (m : M) (mg : MG) : SM := fun ρ => (m ρ).bind fun x => (mg x.1 x.2).map fun ρ2 => .nx ρ2
def mNeg (m : M) : M := fun ρ => match m ρ with
  | some (.int i, ρ') => some (.int (-i), ρ')
  | _ => none
theorem j_neg {e : Expr} {m : M} {rz rz' : Rz} {pu : Bool} (h : J X κ e m rz κ1 pu) : J X κ (.UnaryOp .USub e pos) (mNeg m) rz' κ1 pu := by
  have key : ∀ {ρ ρ' d}, mNeg m ρ = some (d, ρ') → ∃ i, m ρ = some (.int i, ρ') ∧ d = .int (-i) := fun {ρ ρ' d} e => by
    unfold mNeg at e
    split at e
    · cases e; exact ⟨_, by assumption, rfl⟩
    · cases e
  refine ⟨fun t ht => PE.imp (pe_un un_neg (h.run t ht)) fun σ H Q z q => ?_, fun hp ρ d ρ' e => ?_⟩
  · obtain ⟨g, ρ, S, c, ρ', em, post⟩ := q z
    obtain ⟨i, e1, rfl⟩ := key em
    refine fun _ => ⟨g, ρ, S, .int i, ρ', e1, fun v H' g' S' P' s' r' => ?_⟩
    cases (show _ = _ from r'.rep)
    exact ⟨i, rfl, post _ H' g' S' P' s' (atom_rz (d := .int (-i)) rfl)⟩
  · obtain ⟨i, e1, _⟩ := key e
    exact h.pur hp _ _ _ e1
structure Has (P : Program) (w : World) (K : PySem.W.Frag) (mg : Str → Option Value) (base : Heap) (x : Str) (lev : Nat) (ps : List Str) (sg : Sg) (f : FM) : Prop where
  ex : ∃ fa fd, mg x = some (.ref fa) ∧ PySem.W.keepIn K (.ref fa) = true ∧ Binds K fd ps [] ∧ FnOk P w K mg base CX0 lev fa fd ps (fnSp K sg f)
abbrev FnP (K : PySem.W.Frag) (x : Str) (st : Stmt) (f : Addr) (fd : FuncData) : Prop := FunD K x x (defArgs st) (defBody st) (defScope st) [] [] f fd
abbrev cxD (P : Program) (w : World) (K : PySem.W.Frag) (mg : Str → Option Value) (base : Heap) (N : List Str) (qual : Str) (scope : Scope) (f : Addr) (cd : Value) (A : Around) (outer : List Env) (s : Shared) (H : Hp) (E : XK) : Cx :=
  (cxOf CX0 P w K mg base N qual scope f cd A outer s H E).nox
theorem has_mk {x : Str} {st : Stmt} {fa : Addr} {fd : FuncData} {N ps : List Str} {k n np : Nat} {sg : Sg} {m : SM} (F : FnP K x st fa fd) (hm : mg x = some (.ref fa)) (S : FnScope N ps (defScope st)) (hN : N.length = n) (hp : ps.length = sg.ks.length) (h1 : sg.ks.length ≤ n) (h2 : sg.ks'.length = sg.ks.length)
    (bd : ∀ (kV doc pm : Value) (an : Option Addr) (cdv ct : Value) (us : List Value), us.length = ps.length → bindArgs (PySem.W.fnOf x x (defArgs st) (defBody st) (defScope st) .none kV doc pm an cdv ct) ⟨us, []⟩ = pure (ps.zip us))
    (body : ∀ (cdv : Value) (A : Around) (outer : List Env) (s : Shared) (H : Hp) (E : XK), Room k (A.deeper (envOfC x (defScope st) s.heap.objs.size fa cdv)) → JB (cxD P w K mg base N x (defScope st) fa cdv A outer s H E) (κ0 sg n) (defBody st) m (rcOf sg n).κr (rcOf sg n)) :
    Has P w K mg base x (k + 1) ps sg (fM np n sg.ks' m) := by
  refine ⟨fa, fd, hm, F.kp, F.bindsN bd, F.ok S (fun vs H Q E q => fnSp_len hp vs H Q E q) fun cdv A outer s H vs Q E hr q => ?_⟩
  obtain ⟨b1, b2⟩ := body_ok (X := cxD P w K mg base N x (defScope st) fa cdv A outer s H E) rfl hN (body cdv A outer s H E hr) h1 h2 q
  exact ⟨_, b1.nox, b2⟩
theorem has_call {x : Str} {lev n : Nat} {ps : List Str} {sg : Sg} {f : FM} {e : Expr} {es : List Expr} {t : TA} {p : Pos} (h : Has X.prog X.w X.K X.mg X.base x lev ps sg f) (hr : Room n X.A) (hl : lev ≤ n) (hg : Gl X x) (ha : PA X (e :: es) t)
    (hd : (x == ("__debug__" : Str)) = false) (he : starEach (e :: es) X.env = (false, eval e X.env) :: starEach es X.env) (hpl : (backTo pos (starEach es X.env)).any (·.1) = false) : PE X (.Call (.Name x p) (e :: es) [] pos) (tCall (fnSp X.K sg f) [] E0 t) := by
  obtain ⟨fa, fd, hm, hk, hb, F⟩ := h.ex
  exact pe_call F (hr.mono hl) hg hm hk hb .nil pass0 ha hd he hpl
theorem units_of {n : Nat} {A : Around} (hr : Room n A) : A.units + 100 < cLine := by
  have := hr.un
  omega
end VS
namespace VS
open PySem PySem.Spec PyProof.Rows L2
variable {X : Cx} {κ κ1 κ2 κ3 κ4 : OE} {pos : Pos} {rc : RC}
theorem J.borrow {κ0 : OE} {e : Expr} {m : M} {rz : Rz} (h : J X κ0 e m rz κ1 true) (hl : leO κ0 κ = true) (hn : κ0.length = X.N.length) : J X κ e m .rep κ true := by
  refine ⟨fun t ht => PE.imp (h.run t ht) fun σ H Q z q _ => ?_, h.pur⟩
  obtain ⟨g, ρ, S, d, ρ', em, post⟩ := q z
  refine ⟨wk κ0 g, ρ, S.weaken hl, d, ρ', em, fun v H' g' S' P' s' r' => ?_⟩
  have sm := s' rfl
  have e := h.pur rfl _ _ _ em
  subst e
  exact post v H' g (S.grow sm) (Pres.grow S.gok sm) (fun _ => sm) r'.rep
def NoRt (m : SM) : Prop := ∀ ρ d ρ', m ρ ≠ some (.rt d ρ')
theorem nr_nil : NoRt sNil := fun ρ d ρ' e => by cases e
theorem nr_seq {a b : SM} (ha : NoRt a) (hb : NoRt b) : NoRt (sSeq a b) := fun ρ d ρ' e => by
  rcases sSeq_some e with ⟨ρ1, _, e2⟩ | ⟨d', ρ1, e1, _⟩
  · exact hb _ _ _ e2
  · exact ha _ _ _ e1
theorem nr_asg {i : Nat} {m : M} : NoRt (sAsg i m) := fun ρ d ρ' e => by
  obtain ⟨_, _, _, e⟩ := sAsg_some e
  cases e
theorem nr_exp {m : M} : NoRt (sExp m) := fun ρ d ρ' e => by
  obtain ⟨_, _, _, e⟩ := sExp_some e
  cases e
theorem nr_if {c : M} {a b : SM} (ha : NoRt a) (hb : NoRt b) : NoRt (sIf c a b) := fun ρ d ρ' e => by
  obtain ⟨k, ρ1, _, ⟨_, e⟩ | ⟨_, e⟩⟩ := sIf_some e
  · exact ha _ _ _ e
  · exact hb _ _ _ e
theorem nr_app {i : Nat} {m : M} : NoRt (sApp i m) := fun ρ d ρ' e => by
  obtain ⟨_, _, _, _, _, _, _, _, e⟩ := sApp_some e
  cases e
theorem nr_rev {i : Nat} : NoRt (sRev i) := fun ρ d ρ' e => by
  unfold sRev at e
  split at e
  · cases e
  · cases e
theorem nr_set {i : Nat} {a b : M} : NoRt (sSet i a b) := fun ρ d ρ' e => by
  obtain ⟨_, _, _, _, _, _, _, _, _, _, e⟩ := sSet_some e
  cases e
theorem nr_forM {i j : Nat} {mb : SM} : NoRt (sForM i j mb) := fun ρ d ρ' e => by
  unfold sForM at e
  split at e
  · rename_i ds _
    cases h : itM j mb ds ρ with
    | none => rw [h] at e; cases e
    | some x => rw [h] at e; cases e
  · cases e
theorem nr_itF {mg : MG} {mb : SM} (hb : NoRt mb) : ∀ ds, NoRt (itF mg mb ds)
  | [], ρ, d, ρ', e => by cases e
  | x :: ds, ρ, d, ρ', e => by
    simp only [itF] at e
    cases h : mg x ρ with
    | none => rw [h] at e; cases e
    | some ρ1 =>
      rw [h] at e
      simp only [Option.bind_some] at e
      split at e
      · exact nr_itF hb ds _ _ _ e
      · exact hb _ _ _ e
theorem nr_for {ml : ML} {mg : MG} {mb : SM} (hb : NoRt mb) : NoRt (sFor ml mg mb) := fun ρ d ρ' e => by
  obtain ⟨ds, ρ1, _, e⟩ := sFor_some e
  exact nr_itF hb _ _ _ _ e
end VS
namespace VS
open PySem PySem.Spec PyProof.Rows L2
variable {P : Program} {w : World} {K : PySem.W.Frag} {mg : Str → Option Value} {base : Heap}
theorem fn_mk {x : Str} {st : Stmt} {fa : Addr} {fd : FuncData} {N ps : List Str} {k n np : Nat} {sg : Sg} {m : SM} (F : FnP K x st fa fd) (S : FnScope N ps (defScope st)) (hN : N.length = n) (hp : ps.length = sg.ks.length) (h1 : sg.ks.length ≤ n) (h2 : sg.ks'.length = sg.ks.length)
    (body : ∀ (cdv : Value) (A : Around) (outer : List Env) (s : Shared) (H : Hp) (E : XK), Room k (A.deeper (envOfC x (defScope st) s.heap.objs.size fa cdv)) → JB (cxD P w K mg base N x (defScope st) fa cdv A outer s H E) (κ0 sg n) (defBody st) m (rcOf sg n).κr (rcOf sg n)) :
    FnOk P w K mg base CX0 (k + 1) fa fd ps (fnSp K sg (fM np n sg.ks' m)) := by
  refine F.ok S (fun vs H Q E q => fnSp_len hp vs H Q E q) fun cdv A outer s H vs Q E hr q => ?_
  obtain ⟨b1, b2⟩ := body_ok (X := cxD P w K mg base N x (defScope st) fa cdv A outer s H E) rfl hN (body cdv A outer s H E hr) h1 h2 q
  exact ⟨_, b1.nox, b2⟩
theorem law_sp {sg : Sg} {F : FM} {n : Nat} (hsg : sg.ks = [0]) (law : ∀ ns : List Int, ns.length ≤ n → ∃ e, F [.rol ns] = some (.bl true, [e])) (H : Hp) (a : Addr) (ns : List Int) (hl : ns.length ≤ n) (hO : Only H) (hS : SqL K H a (ns.map V.int)) :
    fnSp K sg F [.ref a] H (fun v _ => v = .bl true) fun _ _ _ => False := by
  obtain ⟨e, he⟩ := law ns hl
  refine ⟨gAll H, [.rol ns], gAll_gok H, ?_, .bl true, [e], he, rfl, fun v H' g' rr _ _ _ o _ => o⟩
  rw [hsg]
  refine ⟨_, [], _, [], rfl, rfl, ⟨a, rfl, ?_⟩, rfl, rfl⟩
  rcases hS with h | h
  · rcases h with h | h
    · rcases hO a with z | ⟨o, xs, z⟩
      · rw [z] at h; cases h
      · rw [z] at h; cases h
    · exact .inl h
  · exact .inr h
end VS
namespace VS
open PySem PySem.Spec PyProof.Rows L2
section
variable {ρ : DE} {f f' : D → D → Option D} {ma mb mc m : M} {ml : ML} {i j : Int}
def one {α β : Type} (o : Option α) (k : α → Option β) : Option β := match o with
  | some x => k x
  | none => none
theorem ap_v {i : Nat} : mV i ρ = (match ρ[i]? with | some (some d) => some (d, ρ) | _ => none) := rfl
theorem ap_c {d : D} : mC d ρ = some (d, ρ) := rfl
theorem ap_2 : m2 f ma mb ρ = (match ma ρ with | some (x, ρ1) => (match mb ρ1 with | some (y, ρ2) => (match f x y with | some z => some (z, ρ2) | none => none) | none => none) | none => none) := by
  unfold m2
  cases ma ρ with
  | none => rfl
  | some x =>
    simp only [Option.bind_some]
    cases mb x.2 with
    | none => rfl
    | some y =>
      simp only [Option.bind_some]
      cases f x.1 y.1 <;> rfl
theorem ap_A : mA m ρ = (match m ρ with | some (x, ρ1) => (match isA x with | true => some (x, ρ1) | false => none) | none => none) := by
  unfold mA
  cases m ρ with
  | none => rfl
  | some x =>
    simp only [Option.bind_some]
    cases isA x.1 <;> rfl
theorem ap_nil : mNil ρ = some ([], ρ) := rfl
theorem ap_cons : mCons m ml ρ = (match m ρ with | some (x, ρ1) => (match ml ρ1 with | some (xs, ρ2) => some (x :: xs, ρ2) | none => none) | none => none) := by
  unfold mCons
  cases m ρ with
  | none => rfl
  | some x =>
    simp only [Option.bind_some]
    cases ml x.2 <;> rfl
theorem ap_lst : mLst ml ρ = (match ml ρ with | some (xs, ρ1) => (if xs.length ≤ 16777216 then some (.lst xs, ρ1) else none) | none => none) := by
  unfold mLst
  cases ml ρ <;> rfl
theorem ap_tup : mTup ml ρ = (match ml ρ with | some (xs, ρ1) => (if xs.length ≤ 16777216 then some (.tup xs, ρ1) else none) | none => none) := by
  unfold mTup
  cases ml ρ <;> rfl
theorem ap_B {g : List D → Option D} : mB g ml ρ = (match ml ρ with | some (xs, ρ1) => (match g xs with | some z => some (z, ρ1) | none => none) | none => none) := by
  unfold mB
  cases ml ρ with
  | none => rfl
  | some x =>
    simp only [Option.bind_some]
    cases g x.1 <;> rfl
theorem ap_call {g : FM} : mCall g ml ρ = (match ml ρ with | some (xs, ρ1) => (match g xs with | some (z, es) => some (z, ρ1) | none => none) | none => none) := by
  unfold mCall
  cases ml ρ with
  | none => rfl
  | some x =>
    simp only [Option.bind_some]
    cases g x.1 <;> rfl
theorem ap_callN {g : FM} : mCallO g none ml ρ = (match ml ρ with | some (xs, ρ1) => (match g xs with | some (z, es) => some (z, ρ1) | none => none) | none => none) := by
  unfold mCallO
  cases ml ρ with
  | none => rfl
  | some x =>
    simp only [Option.bind_some]
    cases g x.1 <;> rfl
theorem ap_callO {g : FM} {j i : Nat} : mCallO g (some (j, i)) ml ρ = (match ml ρ with | some (xs, ρ1) => (match g xs with | some (z, es) => some (z, ρ1.set i es[j]?) | none => none) | none => none) := by
  unfold mCallO
  cases ml ρ with
  | none => rfl
  | some x =>
    simp only [Option.bind_some]
    cases g x.1 <;> rfl
theorem ap_T : mTr m ρ = (match m ρ with | some (x, ρ1) => (match truD x with | some b => some (.bl b, ρ1) | none => none) | none => none) := by
  unfold mTr
  cases m ρ with
  | none => rfl
  | some x =>
    simp only [Option.bind_some]
    cases truD x.1 <;> rfl
theorem ap_isT {c : String} : mIsT c m ρ = (match m ρ with | some (x, ρ1) => (match isT c x with | some b => some (.bl b, ρ1) | none => none) | none => none) := by
  unfold mIsT
  cases m ρ with
  | none => rfl
  | some x =>
    simp only [Option.bind_some]
    cases isT c x.1 <;> rfl
theorem ap_not : mNot m ρ = (match m ρ with | some (.bl b, ρ1) => some (.bl (!b), ρ1) | _ => none) := rfl
theorem ap_neg : mNeg m ρ = (match m ρ with | some (.int i, ρ1) => some (.int (-i), ρ1) | _ => none) := rfl
theorem ap_and : mAnd ma mb ρ = (match ma ρ with | some (.bl true, ρ1) => mb ρ1 | some (.bl false, ρ1) => some (.bl false, ρ1) | _ => none) := rfl
theorem ap_or : mOr ma mb ρ = (match ma ρ with | some (.bl false, ρ1) => mb ρ1 | some (.bl true, ρ1) => some (.bl true, ρ1) | _ => none) := rfl
theorem ap_if : mIf mc ma mb ρ = (match mc ρ with | some (.bl true, ρ1) => ma ρ1 | some (.bl false, ρ1) => mb ρ1 | _ => none) := rfl
theorem ap_ch : mCh f f' ma mb mc ρ = (match ma ρ with | some (x, ρ1) => (match mb ρ1 with | some (y, ρ2) => (match f x y with | some (.bl true) => (match mc ρ2 with | some (z, ρ3) => (match f' y z with | some w => some (w, ρ3) | none => none) | none => none) | some (.bl false) => some (.bl false, ρ2) | _ => none) | none => none) | none => none) := by
  unfold mCh
  cases ma ρ with
  | none => rfl
  | some x =>
    simp only [Option.bind_some]
    cases mb x.2 with
    | none => rfl
    | some y =>
      simp only [Option.bind_some]
      cases f x.1 y.1 with
      | none => rfl
      | some w => cases w with
        | bl b => cases b with
          | true =>
            simp only []
            cases mc y.2 with
            | none => rfl
            | some z =>
              simp only [Option.bind_some]
              cases f' y.1 z.1 <;> rfl
          | false => rfl
        | _ => rfl
variable {a b : SM}
theorem ap_seq : sSeq a b ρ = (match a ρ with | some (.nx ρ1) => b ρ1 | x => x) := rfl
theorem ap_snil : sNil ρ = some (.nx ρ) := rfl
theorem ap_sif : sIf mc a b ρ = (match mc ρ with | some (.bl true, ρ1) => a ρ1 | some (.bl false, ρ1) => b ρ1 | _ => none) := rfl
theorem ap_ret : sRet m ρ = (match m ρ with | some (x, ρ1) => some (.rt x ρ1) | none => none) := by
  unfold sRet
  cases m ρ <;> rfl
theorem ap_retN : sRetN ρ = some (.rt .non ρ) := rfl
theorem ap_asg {i : Nat} : sAsg i m ρ = (match m ρ with | some (x, ρ1) => some (.nx (ρ1.set i (some x))) | none => none) := by
  unfold sAsg
  cases m ρ <;> rfl
theorem ap_exp : sExp m ρ = (match m ρ with | some (x, ρ1) => some (.nx ρ1) | none => none) := by
  unfold sExp
  cases m ρ <;> rfl
theorem ap_tgt {mg : MG} : sTgt m mg ρ = (match m ρ with | some (x, ρ1) => (match mg x ρ1 with | some ρ2 => some (.nx ρ2) | none => none) | none => none) := by
  unfold sTgt
  cases m ρ with
  | none => rfl
  | some x =>
    simp only [Option.bind_some]
    cases mg x.1 x.2 <;> rfl
theorem ap_app {i : Nat} : sApp i m ρ = (match ρ[i]? with | some (some (.lst _)) => (match m ρ with | some (x, ρ1) => (match ρ1[i]? with | some (some (.lst ds)) => if ds.length < 16777216 then some (.nx (ρ1.set i (some (.lst (ds ++ [x]))))) else none | _ => none) | none => none) | _ => none) := by
  unfold sApp
  cases ρ[i]? with
  | none => rfl
  | some o => cases o with
    | none => rfl
    | some d => cases d with
      | lst ds => cases m ρ <;> rfl
      | _ => rfl
theorem ap_rev {i : Nat} : sRev i ρ = (match ρ[i]? with | some (some (.lst ds)) => some (.nx (ρ.set i (some (.lst ds.reverse)))) | _ => none) := rfl
theorem ap_set {i : Nat} : sSet i ma mb ρ = (match ma ρ with | some (x, ρ1) => (match ρ1[i]? with | some (some (.lst ds)) => (match mb ρ1 with | some (.int k, ρ2) => (match ixN ds.length k with | some j => some (.nx (ρ2.set i (some (.lst (ds.set j x))))) | none => none) | _ => none) | _ => none) | none => none) := by
  unfold sSet
  cases ma ρ <;> rfl
theorem ap_aug {g : Int → Int → Int} {i : Nat} : sAug g i m ρ = (match ρ[i]? with | some (some (.int a)) => (match m ρ with | some (.int b, ρ1) => some (.nx (ρ1.set i (some (.int (g a b))))) | _ => none) | _ => none) := rfl
theorem ap_for {mg : MG} : sFor ml mg b ρ = (match ml ρ with | some (ds, ρ1) => itF mg b ds ρ1 | none => none) := by
  unfold sFor
  cases ml ρ <;> rfl
theorem ap_forM {i j : Nat} : sForM i j b ρ = (match ρ[i]? with | some (some (.lst ds)) => (match itM j b ds ρ with | some (xs, ρ1) => some (.nx (ρ1.set i (some (.lst xs)))) | none => none) | _ => none) := by
  unfold sForM
  cases ρ[i]? with
  | none => rfl
  | some o => cases o with
    | none => rfl
    | some d => cases d with
      | lst ds =>
        simp only []
        cases itM j b ds ρ <;> rfl
      | _ => rfl
theorem ap_rng1 : mRng1 ml ρ = (match ml ρ with | some ([.int j], ρ1) => (match lim62 j with | true => some (rngD 0 j.toNat, ρ1) | false => none) | _ => none) := by
  unfold mRng1
  cases ml ρ with
  | none => rfl
  | some p =>
    obtain ⟨xs, ρ1⟩ := p
    simp only [Option.bind_some]
    cases xs with
    | nil => rfl
    | cons x xs => cases xs with
      | nil => cases x with
        | int j =>
          simp only []
          cases lim62 j <;> rfl
        | _ => rfl
      | cons y ys => cases x <;> rfl
theorem ap_rng2 : mRng2 ml ρ = (match ml ρ with | some ([.int i, .int j], ρ1) => (match lim62 i && lim62 j with | true => some (rngD i (j - i).toNat, ρ1) | false => none) | _ => none) := by
  unfold mRng2
  cases ml ρ with
  | none => rfl
  | some p =>
    obtain ⟨xs, ρ1⟩ := p
    simp only [Option.bind_some]
    cases xs with
    | nil => rfl
    | cons x xs => cases xs with
      | nil => cases x <;> rfl
      | cons y ys => cases ys with
        | nil => cases x with
          | int i => cases y with
            | int j =>
              simp only []
              cases lim62 i <;> cases lim62 j <;> simp
            | _ => rfl
          | _ => cases y <;> rfl
        | cons z zs => cases x with
          | int i => cases y <;> rfl
          | _ => rfl
theorem ap_mseq : mSeq m ρ = (match m ρ with | some (.lst xs, ρ1) => some (xs, ρ1) | some (.tup xs, ρ1) => some (xs, ρ1) | _ => none) := by
  unfold mSeq
  cases m ρ with
  | none => rfl
  | some p =>
    obtain ⟨x, ρ1⟩ := p
    simp only [Option.bind_some]
    cases x <;> rfl
theorem ap_enum : mEnum ml ρ = (match ml ρ with | some ([.lst xs], ρ1) => some (enumD xs, ρ1) | _ => none) := by
  unfold mEnum
  cases ml ρ with
  | none => rfl
  | some p =>
    obtain ⟨xs, ρ1⟩ := p
    simp only [Option.bind_some]
    cases xs with
    | nil => rfl
    | cons x xs => cases xs with
      | nil => cases x <;> rfl
      | cons y ys => cases x <;> rfl
theorem ap_lc {pu : Bool} {vs : List Nat} {mg : MG} {me : M} : mLc pu vs ml mg mc me ρ = (match ml ρ with | some (ds, ρ1) => (match cpL vs mg mc me ds ρ1 with | some (es, ρ2) => (if es.length ≤ 16777216 then some (.lst es, if pu then ρ1 else ρ2) else none) | none => none) | none => none) := by
  unfold mLc
  cases ml ρ with
  | none => rfl
  | some p =>
    simp only [Option.bind_some]
    cases cpL vs mg mc me p.1 p.2 <;> rfl
theorem ap_yes : mYes ρ = some (.bl true, ρ) := rfl
theorem ap_gnm {i : Nat} {d : D} : gNm i d ρ = some (ρ.set i (some d)) := rfl
theorem ap_gtp {ms : List D → DE → Option DE} {ds : List D} : gTp ms (.tup ds) ρ = ms ds ρ := rfl
theorem ap_gnil : gsNil [] ρ = some ρ := rfl
theorem ap_gcons {g : MG} {ms : List D → DE → Option DE} {d : D} {ds : List D} : gsCons g ms (d :: ds) ρ = (match g d ρ with | some ρ1 => ms ds ρ1 | none => none) := by
  show (g d ρ).bind _ = _
  cases g d ρ <;> rfl
theorem ap_fM {np n : Nat} {ks' : List (Option Nat)} {m : SM} {ds : List D} : fM np n ks' m ds = (match decide (ds.length = np) with | true => (match m (ds.map some ++ List.replicate (n - ds.length) none) with | some (.rt d ρ) => (match outsD ks' ρ 0 ds with | some es => some (d, es) | none => none) | some (.nx ρ) => (match outsD ks' ρ 0 ds with | some es => some (.non, es) | none => none) | none => none) | false => none) := by
  unfold fM
  by_cases h : ds.length = np
  · simp only [h, if_true, decide_true]
    cases m (ds.map some ++ List.replicate (n - np) none) with
    | none => rfl
    | some o => cases o with
      | rt d ρ =>
        simp only []
        cases outsD ks' ρ 0 ds <;> rfl
      | nx ρ =>
        simp only []
        cases outsD ks' ρ 0 ds <;> rfl
  · simp only [h, if_false, decide_false]
theorem ap_on {ks' : List (Option Nat)} {j : Nat} : outsD ks' ρ j [] = some [] := rfl
theorem ap_oc {ks' : List (Option Nat)} {j : Nat} {d : D} {ds : List D} : outsD ks' ρ j (d :: ds) = (match ks'[j]? with
    | some (some _) => (match ρ[j]? with
      | some (some d') => (match outsD ks' ρ (j + 1) ds with | some es => some (d' :: es) | none => none)
      | _ => none)
    | _ => (match outsD ks' ρ (j + 1) ds with | some es => some (d :: es) | none => none)) := by
  rw [outsD]
  cases ks'[j]? with
  | none => cases outsD ks' ρ (j + 1) ds <;> rfl
  | some o => cases o with
    | none => cases outsD ks' ρ (j + 1) ds <;> rfl
    | some k => cases ρ[j]? with
      | none => rfl
      | some q => cases q with
        | none => rfl
        | some d' => cases outsD ks' ρ (j + 1) ds <;> rfl
theorem r_add : dAdd (.int i) (.int j) = some (.int (i + j)) := rfl
theorem r_sub : dSub (.int i) (.int j) = some (.int (i - j)) := rfl
theorem cMul_l (h : -1000000000000000000 < i ∧ i < 1000000000000000000) : cMul i j = true := by
  unfold cMul
  have h1 : i.natAbs < 18446744073709551616 := by omega
  simp [h1]
theorem cMul_r (h : -1000000000000000000 < j ∧ j < 1000000000000000000) : cMul i j = true := by
  unfold cMul
  have h1 : j.natAbs < 18446744073709551616 := by omega
  simp [h1]
theorem r_mul (h : cMul i j = true) : dMul (.int i) (.int j) = some (.int (i * j)) := by unfold dMul dI; simp only [h, if_true]
theorem r_div (h : 0 < j) (h2 : j < 1073741824) : dDiv (.int i) (.int j) = some (.int (i / j)) := by unfold dDiv dI cDiv; simp [h, h2]
theorem r_mod (h : 0 < j) : dMod (.int i) (.int j) = some (.int (i % j)) := by unfold dMod dI; simp [h]
theorem r_pow (h : 0 ≤ j) (h1 : j ≤ 1000000) (hi : i.natAbs < 18446744073709551616) : dPow (.int i) (.int j) = some (.int (i ^ j.toNat)) := by unfold dPow dI cPow; simp [h, h1, hi]
theorem r_lt : dLt (.int i) (.int j) = some (.bl (decide (i < j))) := rfl
theorem r_le : dLe (.int i) (.int j) = some (.bl (decide (i ≤ j))) := rfl
theorem r_gt : dGt (.int i) (.int j) = some (.bl (decide (j < i))) := rfl
theorem r_ge : dGe (.int i) (.int j) = some (.bl (decide (j ≤ i))) := rfl
theorem dq_int : deq (.int i) (.int j) = decide (i = j) := by
  unfold deq pyD PyData.eqv
  rfl
theorem dq_str {x y : Str} : deq (.str x) (.str y) = decide (x = y) := by
  unfold deq pyD PyData.eqv
  rfl
theorem r_eqI : dEq (.int i) (.int j) = some (.bl (decide (i = j))) := by
  unfold dEq
  rw [dq_int]
  rfl
theorem r_eqS {x y : Str} : dEq (.str x) (.str y) = some (.bl (decide (x = y))) := by
  unfold dEq
  rw [dq_str]
  rfl
theorem r_neI : dNe (.int i) (.int j) = some (.bl (!decide (i = j))) := by
  unfold dNe
  rw [dq_int]
  rfl
theorem r_neS {x y : Str} : dNe (.str x) (.str y) = some (.bl (!decide (x = y))) := by
  unfold dNe
  rw [dq_str]
  rfl
theorem r_ixL {xs : List D} : dIx (.lst xs) (.int i) = atI xs i := rfl
theorem r_ixT {xs : List D} : dIx (.tup xs) (.int i) = atI xs i := rfl
theorem r_ixR {xs : List Int} : dIx (.rol xs) (.int i) = (atI xs i).map .int := rfl
theorem r_ipL {xs : List D} : dIxP (.lst xs) (.int i) = atI xs i := rfl
theorem r_ipT {xs : List D} : dIxP (.tup xs) (.int i) = atI xs i := rfl
theorem at_nn {α : Type} {xs : List α} {n : Nat} (h : n < xs.length) : atI xs (n : Int) = xs[n]? := by
  unfold atI ixN
  have h1 : (0 : Int) ≤ (n : Int) := by omega
  have h2 : (n : Int) < (xs.length : Int) := by omega
  simp [h1, h2]
theorem r_len {xs : List D} : fLen [.lst xs] = some (.int xs.length) := rfl
theorem r_lenT {xs : List D} : fLen [.tup xs] = some (.int xs.length) := rfl
theorem r_lenR {xs : List Int} : fLen [.rol xs] = some (.int xs.length) := rfl
theorem r_abs : fAbs [.int i] = some (.int (if i < 0 then -i else i)) := rfl
theorem r_max : fMax2 [.int i, .int j] = some (.int (if j > i then j else i)) := rfl
theorem r_min : fMin2 [.int i, .int j] = some (.int (if j < i then j else i)) := rfl
theorem a_int : isA (.int i) = true := rfl
theorem a_bl {b : Bool} : isA (.bl b) = true := rfl
theorem a_str {b : Str} : isA (.str b) = true := rfl
theorem a_non : isA .non = true := rfl
theorem t_bl {b : Bool} : truD (.bl b) = some b := rfl
end
end VS
namespace VS
open PySem PySem.Spec PyProof.Rows L2
theorem pyL_map (ds : List D) : pyL ds = ds.map pyD := by
  induction ds with
  | nil => rfl
  | cons d ds ih => simp only [pyL, List.map_cons, ih]
theorem depL_pl {k : Nat} (hk : k < 1000) : ∀ {ds : List D}, (∀ d ∈ ds, dep d ≤ k) → noDL ds = true ∧ PyData.depthAll (pyL ds) ≤ k
  | [], _ => ⟨rfl, by
    show PyData.depthAll [] ≤ k
    rw [PyData.depthAll]
    exact Nat.zero_le k⟩
  | d :: ds, h => by
    have h1 := h d (by simp)
    obtain ⟨h2, h3⟩ := depL_pl hk (ds := ds) fun x hx => h x (by simp [hx])
    have h4 : noD d = true ∧ (pyD d).depth ≤ k := by
      unfold dep at h1
      split at h1
      · exact ⟨by assumption, h1⟩
      · omega
    refine ⟨by show (noD d && noDL ds) = true; rw [h4.1, h2]; rfl, ?_⟩
    show PyData.depthAll (pyD d :: pyL ds) ≤ k
    rw [PyData.depthAll]
    exact Nat.max_le.mpr ⟨h4.2, h3⟩
theorem dep_lst {k : Nat} {ds : List D} (h : ∀ d ∈ ds, dep d ≤ k) (hk : k < 999 := by omega) : dep (.lst ds) ≤ k + 1 := by
  obtain ⟨h1, h2⟩ := depL_pl (by omega) h
  unfold dep
  rw [if_pos (show noD (.lst ds) = true from h1)]
  show PyData.depth (.list (pyL ds)) ≤ k + 1
  rw [PyData.depth]
  omega
theorem dep_tup {k : Nat} {ds : List D} (h : ∀ d ∈ ds, dep d ≤ k) (hk : k < 999 := by omega) : dep (.tup ds) ≤ k + 1 := by
  obtain ⟨h1, h2⟩ := depL_pl (by omega) h
  unfold dep
  rw [if_pos (show noD (.tup ds) = true from h1)]
  show PyData.depth (.tuple (pyL ds)) ≤ k + 1
  rw [PyData.depth]
  omega
theorem dep_atom {d : D} (h : isA d = true) : dep d = 0 := by
  cases d <;> first | (cases h; done) | (unfold dep pyD; simp [PyData.depth, noD])
theorem cut_take {α : Type} (xs : List α) (t : Nat) : cutG xs none (some (t : Int)) = xs.take t := by
  unfold cutG
  rw [HT.sIx_none, HT.sIx_nat]
  simp only [List.drop_zero, Nat.sub_zero]
  rcases Nat.le_total t xs.length with h | h
  · rw [Nat.min_eq_left h]
  · rw [Nat.min_eq_right h, List.take_of_length_le (Nat.le_refl _), List.take_of_length_le h]
mutual
def sd : D → Bool
  | .non => true
  | .int _ => true
  | .str _ => true
  | .tup xs => sdL xs
  | .lst xs => sdL xs
  | _ => false
def sdL : List D → Bool
  | [] => true
  | x :: xs => sd x && sdL xs
end
theorem deq_iff : (a b : D) → sd a = true → sd b = true → (deq a b = true ↔ a = b)
  | .non, b, _, hb => by cases b <;> first | (cases hb; done) | simp [deq, pyD, PyData.eqv]
  | .int i, b, _, hb => by cases b <;> first | (cases hb; done) | simp [deq, pyD, PyData.eqv]
  | .str x, b, _, hb => by cases b <;> first | (cases hb; done) | simp [deq, pyD, PyData.eqv]
  | .tup xs, b, ha, hb => by
    cases b <;> first | (cases hb; done) | (simp [deq, pyD, PyData.eqv]; done) | skip
    have := go xs _ ha hb
    simp only [deq, pyD, PyData.eqv, D.tup.injEq]
    exact this
  | .lst xs, b, ha, hb => by
    cases b <;> first | (cases hb; done) | (simp [deq, pyD, PyData.eqv]; done) | skip
    have := go xs _ ha hb
    simp only [deq, pyD, PyData.eqv, D.lst.injEq]
    exact this
  | .bl _, _, h, _ => nomatch h
  | .rol _, _, h, _ => nomatch h
  | .dic _ _, _, h, _ => nomatch h
  | .nd _ _, _, h, _ => nomatch h
  | .obj _, _, h, _ => nomatch h
  | .gon, _, h, _ => nomatch h
  | .ins _ _, _, h, _ => nomatch h
where
  go : (xs ys : List D) → sdL xs = true → sdL ys = true → (PyData.eqvAll (pyL xs) (pyL ys) = true ↔ xs = ys)
  | [], [], _, _ => by simp [pyL, PyData.eqvAll]
  | [], _ :: _, _, _ => by simp [pyL, PyData.eqvAll]
  | _ :: _, [], _, _ => by simp [pyL, PyData.eqvAll]
  | x :: xs, y :: ys, h1, h2 => by
    have h1' : (sd x && sdL xs) = true := h1
    have h2' : (sd y && sdL ys) = true := h2
    rw [Bool.and_eq_true] at h1' h2'
    have a := deq_iff x y h1'.1 h2'.1
    have b := go xs ys h1'.2 h2'.2
    simp only [pyL, PyData.eqvAll, Bool.and_eq_true, List.cons.injEq]
    rw [← b, ← a]
    rfl
end VS
namespace VS
open PySem PySem.Spec PyProof.Rows L2
variable {K : PySem.W.Frag} {X : Cx} {κ κ1 κ2 : OE} {pos : Pos} {rc : RC}
def isNon : D → Bool
  | .non => true
  | _ => false
def dIsV (neg : Bool) (x : D) : D → Option D
  | .non => some (.bl (if neg then !(isNon x) else isNon x))
  | .bl k => (match x with
    | .bl j => some (.bl (if neg then !(decide (j = k)) else decide (j = k)))
    | _ => none)
  | _ => none
structure MutOp (X : Cx) (r : V → List V → Hp → VK → Prop) (f : List D → List D → Option (D × List D)) : Prop where
  ans : ∀ (H : Hp) (g : G) (L : Addr) (vs avs : List V) (ds as ds' : List D) (z : D) (Q : VK), H L = some (.lst vs) → OwnL X.K H g ds 0 0 [] 0 vs → OwnL X.K H g as 0 0 [] 0 avs → f ds as = some (z, ds') →
    (∀ v vs', OwnL X.K H g ds' 0 0 [] 0 vs' → Own X.K H g z 0 0 [] v → Q v (upd H L (.lst vs'))) → r (.ref L) avs H Q
def mMut (i : Nat) (f : List D → List D → Option (D × List D)) (ml : ML) : M := fun ρ => match ρ[i]? with
  | some (some (.lst _)) => (ml ρ).bind fun x => (match x.2[i]? with
    | some (some (.lst ds)) => (f ds x.1).map fun y => (y.1, x.2.set i (some (.lst y.2)))
    | _ => none)
  | _ => none
theorem mMut_some {i : Nat} {f : List D → List D → Option (D × List D)} {ml : ML} {ρ ρ' : DE} {d : D} (h : mMut i f ml ρ = some (d, ρ')) : ∃ ds0 as ρ1 ds ds', ρ[i]? = some (some (.lst ds0)) ∧ ml ρ = some (as, ρ1) ∧ ρ1[i]? = some (some (.lst ds)) ∧ f ds as = some (d, ds') ∧ ρ' = ρ1.set i (some (.lst ds')) := by
  unfold mMut at h
  split at h
  · rename_i ds0 e0
    cases e : ml ρ with
    | none => rw [e] at h; cases h
    | some p =>
      rw [e] at h
      simp only [Option.bind_some] at h
      split at h
      · rename_i ds e1
        cases e2 : f ds p.1 with
        | none => rw [e2] at h; cases h
        | some y => rw [e2] at h; cases h; exact ⟨ds0, p.1, p.2, ds, y.2, e0, rfl, e1, e2, rfl⟩
      · cases h
  · cases h
theorem rows_fz {H : Hp} {g : G} : ∀ {t i : Nat} {ds : List D} {vs : List V}, OwnRows K H g 0 t ds vs → OwnL K H g ds 0 0 [] i vs
  | _, _, [], _, h => h
  | _, _, d :: ds, _, h => by
    obtain ⟨v, r, rfl, h1, h2⟩ := h
    exact ⟨v, r, rfl, own_fz (fun a z => ⟨z, rfl⟩) (fun _ _ z _ => z) h1, rows_fz h2⟩
theorem j_mut {e : Expr} {es : List Expr} {i k0 : Nat} {ml : ML} {ms : List Am} {pu : Bool} {r : V → List V → Hp → VK → Prop} {f : List D → List D → Option (D × List D)} (ha : JA X κ es ml ms κ1 pu) (hm : allOwn 0 ms = true) (hk0 : κ[i]? = some (some k0)) (hk : κ1[i]? = some (some 1)) (op : MutOp X r f)
    (mk : ∀ {t : TA}, PA X es t → PE X e (tBM X.K "list" r (tVar i) t)) : J X κ e (mMut i f ml) (.own 0) κ1 false := by
  refine ⟨fun t ht => PE.imp (mk (ha.run t ht)) fun σ H Q z q => ?_, fun hp => by cases hp⟩
  obtain ⟨g, ρ, S, d, ρ', em, post⟩ := q z
  obtain ⟨ds0, as, ρ1, ds, ds', e0, e1, e2, e3, rfl⟩ := mMut_some em
  obtain ⟨v, ev, o0⟩ := S.ok i k0 _ hk0 e0
  obtain ⟨L, vs0, rfl, hL0, _⟩ := o0
  refine ⟨.ref L, ev, .inl ⟨rfl, vs0, SqL.of hL0⟩, fun en2 => ⟨g, ρ, S, as, ρ1, e1, fun avs H1 g1 S1 P1 s1 r1 => ?_⟩⟩
  obtain ⟨L', vs, ev', hL, hg, ol⟩ := own1_list S1 hk e2
  rw [ev] at ev'
  cases ev'
  have al := rows_fz (i := 0) (rows_own hm r1)
  refine op.ans H1 g1 L vs avs ds as ds' d Q hL ol al e3 fun v vs' ol' ov => ?_
  obtain ⟨S2, P2⟩ := mut1 (n := X.N.length) (t := t) (ds := ds) S1 z.2 hk ev hL hg ol'
  exact post v _ g1 S2 (P1.trans P2) (fun hp => by cases hp) (own_fz P2.fz P2.tu ov)
theorem j_mut0 {e : Expr} {i : Nat} {r : V → List V → Hp → VK → Prop} {f : List D → List D → Option (D × List D)} (hk : κ[i]? = some (some 1)) (op : MutOp X r f)
    (mk : PE X e (tBM0 X.K "list" r (tVar i))) : J X κ e (mMut i f mNil) (.own 0) κ false := by
  refine ⟨fun t ht => PE.imp mk fun σ H Q z q => ?_, fun hp => by cases hp⟩
  obtain ⟨g, ρ, S, d, ρ', em, post⟩ := q z
  obtain ⟨ds0, as, ρ1, ds, ds', e0, e1, e2, e3, rfl⟩ := mMut_some em
  cases e1
  obtain ⟨L, vs, ev, hL, hg, ol⟩ := own1_list S hk e2
  refine ⟨.ref L, ev, .inl ⟨rfl, vs, SqL.of hL⟩, ?_⟩
  refine op.ans H g L vs [] ds [] ds' d Q hL ol rfl e3 fun v vs' ol' ov => ?_
  obtain ⟨S2, P2⟩ := mut1 (n := X.N.length) (t := t) (ds := ds) S z.2 hk ev hL hg ol'
  exact post v _ g S2 P2 (fun hp => by cases hp) (own_fz P2.fz P2.tu ov)
def fPop : List D → List D → Option (D × List D)
  | ds, [] => match ds[ds.length - 1]? with
    | some d => some (d, ds.dropLast)
    | none => none
  | _, _ => none
theorem u_pop : MutOp X rPop fPop where
  ans := fun H g L vs avs ds as ds' z Q hL ol al e q => by
    unfold fPop at e
    split at e
    · split at e
      · rename_i d ed
        cases e
        cases (show _ = _ from al)
        obtain ⟨v, ev, ov⟩ := ownL_get ol ed
        refine ⟨L, vs, v, rfl, rfl, hL, by rw [ownL_len ol]; exact ev, ?_⟩
        refine q v _ ?_ (own_fz (fun a z => ⟨z, rfl⟩) (fun _ _ z _ => z) ov)
        rw [List.dropLast_eq_take, List.dropLast_eq_take, ownL_len ol]
        exact ownL_take _ ol
      · cases e
    · cases e
def fExt : List D → List D → Option (D × List D)
  | ds, [.lst es] => if ds.length + es.length ≤ 16777216 then some (.non, ds ++ es) else none
  | _, _ => none
theorem u_ext : MutOp X rExtend fExt where
  ans := fun H g L vs avs ds as ds' z Q hL ol al e q => by
    unfold fExt at e
    split at e
    · rename_i es
      split at e
      · rename_i hi
        cases e
        obtain ⟨v1, w1, rfl, o1, e3⟩ := al
        cases (show _ = _ from e3)
        obtain ⟨b, zs, rfl, hb, hg, ob⟩ := o1
        refine ⟨L, b, vs, zs, rfl, rfl, hL, hb, by rw [ownL_len ol, ownL_len ob, sizeLine_eq]; exact hi, ?_⟩
        exact q .non _ (ownL_app (j := 0) ol (ownL_fz (fun a z => ⟨z, rfl⟩) (fun _ _ z _ => z) (r' := 0) (p' := []) (j := 0) ob)) rfl
      · cases e
    · cases e
end VS
namespace VS
open PySem PySem.Spec PyProof.Rows L2
variable {K : PySem.W.Frag} {X : Cx} {κ κ1 κ2 : OE} {pos : Pos} {rc : RC}
def putI (i : Nat) (mj : M) (d : D) : DE → Option DE := fun ρ => match ρ[i]? with
  | some (some (.lst ds)) => (match mj ρ with
    | some (.int k, _) => (match ixN ds.length k with
      | some j => some (ρ.set i (some (.lst (ds.set j d))))
      | none => none)
    | _ => none)
  | _ => none
def sSwap (i : Nat) (m ma mb : M) : SM := fun ρ => match m ρ with
  | some (.tup [d1, d2], ρ1) => (match putI i ma d1 ρ1 with
    | some ρ2 => (match putI i mb d2 ρ2 with
      | some ρ3 => some (.nx ρ3)
      | none => none)
    | none => none)
  | _ => none
end VS
namespace VS
open PySem PySem.Spec PyProof.Rows L2
variable {K : PySem.W.Frag} {X : Cx} {κ κ1 κ2 κ3 κ4 : OE} {pos : Pos} {rc : RC}
end VS
namespace VS
open PySem PySem.Spec PyProof.Rows L2
variable {K : PySem.W.Frag} {X : Cx} {κ κ1 κ2 : OE} {pos : Pos} {rc : RC}
mutual
def noL : D → Bool
  | .lst _ => false
  | .obj _ => false
  | .gon => false
  | .ins _ _ => false
  | .dic _ _ => false
  | .nd _ _ => false
  | .tup xs => noLL xs
  | _ => true
def noLL : List D → Bool
  | [] => true
  | x :: xs => noL x && noLL xs
end
theorem own_noL {H : Hp} {g : G} : (d : D) → noL d = true → ∀ {k k' r r' p p' v}, Own K H g d k r p v → Own K H g d k' r' p' v
  | .non, _, _, _, _, _, _, _, _, h => h
  | .bl b, _, _, _, _, _, _, _, _, h => h
  | .int b, _, _, _, _, _, _, _, _, h => h
  | .str b, _, _, _, _, _, _, _, _, h => h
  | .obj b, e, _, _, _, _, _, _, _, _ => nomatch e
  | .gon, e, _, _, _, _, _, _, _, _ => nomatch e
  | .ins _ _, e, _, _, _, _, _, _, _, _ => nomatch e
  | .rol b, _, _, _, _, _, _, _, _, h => h
  | .lst ds, e, _, _, _, _, _, _, _, _ => by
    have e' : false = true := e
    cases e'
  | .dic q ds, e, _, _, _, _, _, _, _, _ => by
    have e' : false = true := e
    cases e'
  | .nd q ds, e, _, _, _, _, _, _, _, _ => by
    have e' : false = true := e
    cases e'
  | .tup ds, e, _, _, _, _, _, _, _, h => by
    obtain ⟨a, vs, rfl, ha, hl⟩ := h
    exact ⟨a, vs, rfl, ha, go ds e hl⟩
where
  go : (ds : List D) → noLL ds = true → ∀ {k k' r r' p p' i i' vs}, OwnL K H g ds k r p i vs → OwnL K H g ds k' r' p' i' vs
  | [], _, _, _, _, _, _, _, _, _, _, h => h
  | d :: ds, e, _, _, _, _, _, _, _, _, _, h => by
    obtain ⟨v, w, rfl, h1, h2⟩ := h
    have e' : (noL d && noLL ds) = true := e
    rw [Bool.and_eq_true] at e'
    exact ⟨v, w, rfl, own_noL d e'.1 h1, go ds e'.2 h2⟩
def mFl (m : M) : M := fun ρ => match m ρ with
  | some (.lst ds, ρ1) => if noLL ds = true then some (.lst ds, ρ1) else none
  | _ => none
theorem J.flat {e : Expr} {m : M} {pu : Bool} (h : J X κ e m (.own 1) κ1 pu) {k : Nat} (h0 : k ≠ 0) : J X κ e (mFl m) (.own k) κ1 pu := by
  have key : ∀ {ρ ρ' d}, mFl m ρ = some (d, ρ') → ∃ ds, m ρ = some (.lst ds, ρ') ∧ d = .lst ds ∧ noLL ds = true := fun {ρ ρ' d} e => by
    unfold mFl at e
    split at e
    · split at e
      · cases e; exact ⟨_, by assumption, rfl, by assumption⟩
      · cases e
    · cases e
  refine ⟨fun t ht => PE.imp (h.run t ht) fun σ H Q z q _ => ?_, fun hp ρ d ρ' e => ?_⟩
  · obtain ⟨g, ρ, S, d, ρ', em, post⟩ := q z
    obtain ⟨ds, e1, rfl, e2⟩ := key em
    refine ⟨g, ρ, S, .lst ds, ρ', e1, fun v H' g' S' P' s' r' => post v H' g' S' P' s' ?_⟩
    obtain ⟨a, vs, rfl, ha, hg, hl⟩ := r'
    refine ⟨a, vs, rfl, ha, ?_, own_noL.go ds e2 hl⟩
    rw [if_neg (by decide)] at hg
    rw [if_neg h0]
    exact hg
  · obtain ⟨ds, e1, _, _⟩ := key e
    exact h.pur hp _ _ _ e1
end VS
namespace VS
open PySem PySem.Spec PyProof.Rows L2
variable {K : PySem.W.Frag} {X : Cx} {κ κ1 κ2 : OE} {pos : Pos} {rc : RC}
end VS
namespace VS
open PySem PySem.Spec PyProof.Rows L2
variable {K : PySem.W.Frag} {X : Cx} {κ κ1 κ2 : OE} {pos : Pos} {rc : RC}
def sPar (i j : Nat) (ml : ML) : SM := fun ρ => match ml ρ with
  | some ([d1, d2], ρ1) => some (.nx ((ρ1.set i (some d1)).set j (some d2)))
  | _ => none
end VS
namespace VS
open PySem PySem.Spec PyProof.Rows L2
variable {K : PySem.W.Frag} {X : Cx} {κ κ1 κ2 : OE} {pos : Pos} {rc : RC}
end VS
namespace VS
open PySem PySem.Spec PyProof.Rows L2
variable {K : PySem.W.Frag} {X : Cx} {κ κ1 κ2 κ3 κ4 : OE} {pos : Pos} {rc : RC}
def kD : Key → D
  | .inl i => .int i
  | .inr x => .str x
def DKs.keys : DKs → List D
  | .K ks => ks.map kD
  | .T ks => ks.map fun k => .tup (k.map kD)
theorem DKs.keys_len (q : DKs) : q.keys.length = q.len := by cases q <;> simp [DKs.keys, DKs.len]
theorem own_kD {H : Hp} {g : G} {k r : Nat} {p : List Nat} : ∀ x : Key, Own K H g (kD x) k r p (kV x)
  | .inl _ => rfl
  | .inr _ => rfl
theorem ownL_kD {H : Hp} {g : G} {k r : Nat} {p : List Nat} : ∀ (xs : List Key) (i : Nat), OwnL K H g (xs.map kD) k r p i (xs.map kV)
  | [], _ => rfl
  | x :: xs, i => ⟨kV x, xs.map kV, rfl, own_kD x, ownL_kD xs (i + 1)⟩
def Lkd (d : Addr) (od : Obj) (u : HO) : Src := fun g H => H d = some (.frz od u) ∧ g d = .fz
theorem Lkd.keep {d : Addr} {od : Obj} {u : HO} {g g' : G} {H H' : Hp} (h : Lkd d od u g H) (hf : ∀ a, g a = .fz → g' a = .fz ∧ H' a = H a) : Lkd d od u g' H' := ⟨(hf d h.2).2.trans h.1, (hf d h.2).1⟩
theorem dlv_keysK {d : Addr} {od : Obj} {ks : List Key} {vs : List V} (hl : ks.length = vs.length) : Dlv K (Itk d od (ks.zip vs)) (Lkd d od (.dK (ks.zip vs))) (DKs.keys (.K ks)) where
  go := fun i g H h hi => ⟨h.1, by rw [DKs.keys_len] at hi; have : i < ks.length := hi; rw [List.length_zip]; omega⟩
  stop := fun i g H h hi => ⟨h.1, by rw [DKs.keys_len] at hi; have : ks.length ≤ i := hi; rw [List.length_zip]; omega⟩
  yld := fun i g H x H' e h gok y ed => by
    obtain ⟨rfl, k, v, e1, rfl⟩ := y
    have e2 : ks[i]? = some k := (List.getElem?_zip_eq_some.mp e1).1
    have e3 : (ks.map kD)[i]? = some e := ed
    rw [List.getElem?_map, e2] at e3
    cases e3
    exact ⟨Same.refl _, own_kD k⟩
  keep := fun g H g' H' h hf _ => h.keep hf
theorem dlv_keysT {d : Addr} {od : Obj} {ks : List (List Key)} {vs : List V} (hl : ks.length = vs.length) : Dlv K (Itkt d od (ks.zip vs)) (Lkd d od (.dT (ks.zip vs))) (DKs.keys (.T ks)) where
  go := fun i g H h hi => ⟨h.1, by rw [DKs.keys_len] at hi; have : i < ks.length := hi; rw [List.length_zip]; omega⟩
  stop := fun i g H h hi => ⟨h.1, by rw [DKs.keys_len] at hi; have : ks.length ≤ i := hi; rw [List.length_zip]; omega⟩
  yld := fun i g H x H' e h gok y ed => by
    obtain ⟨rfl, k, v, q, e1, rfl, hq⟩ := y
    have e2 : ks[i]? = some k := (List.getElem?_zip_eq_some.mp e1).1
    have e3 : (ks.map fun k => D.tup (k.map kD))[i]? = some e := ed
    rw [List.getElem?_map, e2] at e3
    cases e3
    exact ⟨Same.refl _, q, _, rfl, hq, ownL_kD k 0⟩
  keep := fun g H g' H' h hf _ => h.keep hf
def isDO : HO → Bool
  | .dK _ => true
  | .dT _ => true
  | .ext _ => true
  | _ => false
theorem isDO_dO {q : DKs} {vs : List V} : isDO (dO q vs) = true := by cases q <;> rfl
theorem own_swap {H : Hp} {g : G} {a0 : Addr} {u o1 o2 : HO} {od : Obj} (h1 : H a0 = some o1) (hu : isDO u = true) (hg : g a0 = .fz)
    (h12 : (o1 = u ∧ o2 = .frz od u) ∨ (o1 = .frz od u ∧ o2 = u)) : (d : D) → ∀ {k r p v}, Own K H g d k r p v → Own K (upd H a0 o2) g d k r p v
  | .non, _, _, _, _, h => h
  | .bl _, _, _, _, _, h => h
  | .int _, _, _, _, _, h => h
  | .str _, _, _, _, _, h => h
  | .obj _, _, _, _, _, h => h
  | .gon, _, _, _, _, h => h
  | .ins c ds, _, _, _, _, h => by
    obtain ⟨a, dx, vs, rfl, ha, hc, hg', hl⟩ := h
    have ne : a ≠ a0 := fun z => by
      rw [z, h1] at ha
      rcases h12 with ⟨rfl, rfl⟩ | ⟨rfl, rfl⟩ <;> cases ha
      cases hu
    exact ⟨a, dx, vs, rfl, by rw [upd_ne ne]; exact ha, hc, hg', go ds hl⟩
  | .tup ds, _, _, _, _, h => by
    obtain ⟨a, vs, rfl, ha, hl⟩ := h
    have ne : a ≠ a0 := fun z => by
      rw [z, h1] at ha
      rcases h12 with ⟨rfl, rfl⟩ | ⟨rfl, rfl⟩ <;> cases ha
      cases hu
    exact ⟨a, vs, rfl, by rw [upd_ne ne]; exact ha, go ds hl⟩
  | .lst ds, _, _, _, _, h => by
    obtain ⟨a, vs, rfl, ha, hg', hl⟩ := h
    have ne : a ≠ a0 := fun z => by
      rw [z, h1] at ha
      rcases h12 with ⟨rfl, rfl⟩ | ⟨rfl, rfl⟩ <;> cases ha
      cases hu
    exact ⟨a, vs, rfl, by rw [upd_ne ne]; exact ha, hg', go ds hl⟩
  | .rol ns, _, _, _, _, h => by
    obtain ⟨a, rfl, h⟩ := h
    refine ⟨a, rfl, h.imp (fun ⟨o, w⟩ => ⟨o, ?_⟩) id⟩
    have ne : a ≠ a0 := fun z => by
      rw [z, h1] at w
      rcases h12 with ⟨rfl, rfl⟩ | ⟨rfl, rfl⟩ <;> cases w <;> cases hu
    rw [upd_ne ne]
    exact w
  | .dic q ds, k, _, _, _, h => by
    obtain ⟨a, vs, rfl, ha, hq, hg', hl⟩ := h
    have hl' := go ds hl
    by_cases e : a = a0
    · subst e
      have k0 : k = 0 := by
        rw [hg] at hg'
        split at hg'
        · assumption
        · cases hg'
      refine ⟨a, vs, rfl, ?_, hq, hg', hl'⟩
      rw [upd_same, k0]
      rw [h1] at ha
      rcases h12 with ⟨rfl, rfl⟩ | ⟨rfl, rfl⟩
      · refine .inr ⟨rfl, od, ?_⟩
        rcases ha with ha | ⟨_, o, ha⟩
        · cases ha; rfl
        · cases ha; cases hu
      · refine .inl ?_
        rcases ha with ha | ⟨_, o, ha⟩
        · cases q <;> cases ha
        · cases ha; rfl
    · exact ⟨a, vs, rfl, by rw [upd_ne e]; exact ha, hq, hg', hl'⟩
  | .nd q ds, k, _, _, _, h => by
    obtain ⟨a, vs, rfl, ha, hq, hn, hg', hl⟩ := h
    have hl' := go ds hl
    have hn' : KNs (upd H a0 o2) vs := hn.keep fun b ys z => by
      have ne : b ≠ a0 := fun z0 => by
        rw [z0, h1] at z
        rcases h12 with ⟨rfl, rfl⟩ | ⟨rfl, rfl⟩ <;> cases z
        cases hu
      rw [upd_ne ne]; exact z
    by_cases e : a = a0
    · subst e
      have k0 : k = 0 := by
        rw [hg] at hg'
        split at hg'
        · assumption
        · cases hg'
      refine ⟨a, vs, rfl, ?_, hq, hn', hg', hl'⟩
      rw [upd_same, k0]
      rw [h1] at ha
      rcases h12 with ⟨rfl, rfl⟩ | ⟨rfl, rfl⟩
      · refine .inr ⟨rfl, od, ?_⟩
        rcases ha with ha | ⟨_, o, ha⟩
        · cases ha; rfl
        · cases ha; cases hu
      · refine .inl ?_
        rcases ha with ha | ⟨_, o, ha⟩
        · cases ha
        · cases ha; rfl
    · exact ⟨a, vs, rfl, by rw [upd_ne e]; exact ha, hq, hn', hg', hl'⟩
where
  go : (ds : List D) → ∀ {k r p i vs}, OwnL K H g ds k r p i vs → OwnL K (upd H a0 o2) g ds k r p i vs
  | [], _, _, _, _, _, h => h
  | d :: ds, _, _, _, _, _, h => by
    obtain ⟨v, w, rfl, h2, h3⟩ := h
    exact ⟨v, w, rfl, own_swap h1 hu hg h12 d h2, go ds h3⟩
theorem Sok.swap {ρ : DE} {g : G} {σ : L2.St} {H : Hp} {a0 : Addr} {u o1 o2 : HO} {od : Obj} (S : Sok K κ ρ g σ H) (h1 : H a0 = some o1) (hu : isDO u = true) (hg : g a0 = .fz)
    (h12 : (o1 = u ∧ o2 = .frz od u) ∨ (o1 = .frz od u ∧ o2 = u)) : Sok K κ ρ g σ (upd H a0 o2) where
  ok := fun i k d e1 e2 => by
    obtain ⟨v, e, o⟩ := S.ok i k d e1 e2
    exact ⟨v, e, own_swap h1 hu hg h12 d o⟩
  gok := fun a h => by
    by_cases e : a = a0
    · subst e; rw [upd_same]; simp
    · rw [upd_ne e]; exact S.gok a h
  len := S.len
  lek := S.lek
theorem Pres.swap {n t : Nat} {g g' : G} {H H' : Hp} {a0 : Addr} {u : HO} {od : Obj} (P : Pres n t g (upd H a0 (.frz od u)) g' H') (h1 : H a0 = some u) (hu : isDO u = true) (hg : g a0 = .fz) : Pres n t g H g' (upd H' a0 u) where
  fz := fun a h => by
    obtain ⟨h2, h3⟩ := P.fz a h
    refine ⟨h2, ?_⟩
    by_cases e : a = a0
    · subst e; rw [upd_same, h1]
    · rw [upd_ne e, h3, upd_ne e]
  un := fun a h hn => by
    have e : a ≠ a0 := fun z => by rw [z, hg] at h; cases h
    obtain ⟨h2, h3⟩ := P.un a h (by rw [upd_ne e]; exact hn)
    exact ⟨h2, by rw [upd_ne e, h3, upd_ne e]⟩
  tp := fun a r p q1 q2 h => by
    have e : a ≠ a0 := fun z => by rw [z, hg] at h; cases h
    obtain ⟨h2, h3⟩ := P.tp a r p q1 q2 h
    exact ⟨h2, by rw [upd_ne e, h3, upd_ne e]⟩
  tm := P.tm
  tu := fun a o h hs => by
    have e : a ≠ a0 := fun z => by
      rw [z, h1] at h
      cases h
      cases u <;> first | (cases hu; done) | cases hs
    rw [upd_ne e]
    exact P.tu a o (by rw [upd_ne e]; exact h) hs
theorem dic_at {ρ : DE} {g : G} {σ : L2.St} {H : Hp} {i : Nat} {q : DKs} {xs : List D} (S : Sok K κ ρ g σ H) (hk : κ[i]? = some (some 0)) (e : ρ[i]? = some (some (.dic q xs))) :
    ∃ a vs, σ[i]? = some (some (.ref a)) ∧ (H a = some (dO q vs) ∨ ∃ o, H a = some (.frz o (dO q vs))) ∧ q.len = vs.length ∧ g a = .fz := by
  obtain ⟨v, es, a, vs, rfl, ha, hq, hg, hl⟩ := S.ok i 0 _ hk e
  exact ⟨a, vs, es, ha.imp id fun z => z.2, hq.trans (repL_len (ownL_repL _ hl)).symm, by simpa using hg⟩
def mKeys (i : Nat) : ML := fun ρ => match ρ[i]? with
  | some (some (.dic q _)) => some (q.keys, ρ)
  | _ => none
theorem mKeys_some {i : Nat} {ρ ρ' : DE} {ds : List D} (h : mKeys i ρ = some (ds, ρ')) : ∃ q xs, ρ[i]? = some (some (.dic q xs)) ∧ ds = q.keys ∧ ρ' = ρ := by
  unfold mKeys at h
  split at h
  · cases h; exact ⟨_, _, by assumption, rfl, rfl⟩
  · cases h
theorem wi_keys {n t i : Nat} {σ : L2.St} {H : Hp} {R : It → Hp → Prop} {d : Addr} {od : Obj} {u : HO} (hk : κ[i]? = some (some 0)) (en : En n σ H) (es : σ[i]? = some (some (.ref d))) (hd : H d = some (.frz od u))
    (h : jTI K n κ (mKeys i) κ true t σ H R) : iKeys (tVar i) σ H R := by
  obtain ⟨g, ρ, S, ds, ρ', em, post⟩ := h en
  obtain ⟨q, xs, e, rfl, rfl⟩ := mKeys_some em
  obtain ⟨a, vs, es', ha, hl, hg⟩ := dic_at S hk e
  rw [es] at es'
  cases es'
  rw [hd] at ha
  have hu : u = dO q vs := by
    rcases ha with ha | ⟨o, ha⟩
    · cases q <;> cases ha
    · cases ha; rfl
  subst hu
  refine ⟨_, es, d, od, rfl, ?_⟩
  cases q with
  | K ks => exact .inl ⟨_, hd, post _ _ H g S Pres.refl (fun _ => Same.refl H) (dlv_keysK hl) ⟨hd, hg⟩⟩
  | T ks => exact .inr ⟨_, hd, post _ _ H g S Pres.refl (fun _ => Same.refl H) (dlv_keysT hl) ⟨hd, hg⟩⟩
theorem PS.or {st : Stmt} {t t' : TS} (h : PS X st t) (h' : PS X st t') : PS X st (fun D σ H => t D σ H ∨ t' D σ H) :=
  ⟨fun pins s σ H D I q => q.elim (h.run pins s σ H D I) (h'.run pins s σ H D I)⟩
theorem mut_dO {q : DKs} {vs : List V} : Mut (some (dO q vs)) := by cases q <;> exact trivial
theorem En.upd {n : Nat} {σ : L2.St} {H : Hp} {a : Addr} {od : Obj} {u : HO} (en : En n σ H) : En n σ (upd H a (.frz od u)) := ⟨fun b xs h => by
  by_cases e : b = a
  · subst e
    rw [upd_same] at h
    rcases h with h | h <;> cases h
  · rw [upd_ne e] at h
    exact en.1 b xs h, en.2⟩
theorem Same.swap {H H' : Hp} {a0 : Addr} {u : HO} {od : Obj} (s : Same (upd H a0 (.frz od u)) H') (h1 : H a0 = some u) : Same H (upd H' a0 u) := fun a o h => by
  by_cases e : a = a0
  · subst e; rw [upd_same]; rw [h1] at h; exact h
  · rw [upd_ne e]; exact s a o (by rw [upd_ne e]; exact h)
theorem lock_post {n t k : Nat} {κ' : OE} {pu : Bool} {g : G} {σ : L2.St} {H : Hp} {r : D} {ρ' : DE} {Q : VK} {d : Addr} {od : Obj} {u : HO} (h1 : H d = some u) (hu : isDO u = true) (hg : g d = .fz) (h : jPost K n t κ' (.own k) pu g σ H r ρ' Q) :
    jPost K n t κ' (.own k) pu g σ (upd H d (.frz od u)) r ρ' (fun v H' => H' d = some (.frz od u) ∧ Q v (upd H' d u)) := by
  intro v H' g' S' P' s' o'
  obtain ⟨h2, h3⟩ := P'.fz d hg
  rw [upd_same] at h3
  exact ⟨h3, h v _ g' (S'.swap h3 hu h2 (.inr ⟨rfl, rfl⟩)) (P'.swap h1 hu hg) (fun e => Same.swap (s' e) h1) (own_swap h3 hu h2 (.inr ⟨rfl, rfl⟩) r o')⟩
section
variable {tg iter elt : Expr} {ifs : List Expr} {scope : Scope} {own : List (Str × Nat)} {mg : MG} {mc me : M} {ts : List Nat} {pc pe : Bool} {k i : Nat}
theorem lcK_read {t : Nat} (htt : X.N.length ≤ t) (hk : κ[i]? = some (some 0)) (hg : InBlk X scope fun Y => JG Y κ tg mg κ2 ts) (ht : InBlk X scope fun Y => JTs Y κ2 ifs mc κ3 pc) (he : InBlk X scope fun Y => J Y κ3 elt me (.own (lv k)) κ4 pe)
    (h0 : k ≠ 0) (hκ : noneAt κ (own.map (·.2)) = true) (hκn : κ.length = X.N.length) (hts : ts.all (fun i => (own.map (·.2)).contains i) = true) (h1 : leO κ κ4 = true) (h2 : leO κ κ3 = true) {σ : L2.St} {H : Hp} {Q : VK} (z : En X.N.length σ H)
    (q : ∃ g ρ, Sok X.K κ ρ g σ H ∧ ∃ d ρ', mLc (true && (pc && pe)) (own.map (·.2)) (mKeys i) mg mc me ρ = some (d, ρ') ∧ jPost X.K X.N.length t κ (.own k) (true && (pc && pe)) g σ H d ρ' Q) :
    tLockE (tLc (iKeys (tVar i)) (jTG X.K X.N.length κ mg κ2 ts (t + 1)) (jTT X.K X.N.length κ2 mc κ3 pc (t + 1)) (jTE X.K X.N.length κ3 me (.own (lv k)) κ4 pe (t + 1)) (own.map (·.2))) σ H Q ∨
    tLc (iKeys (tVar i)) (jTG X.K X.N.length κ mg κ2 ts (t + 1)) (jTT X.K X.N.length κ2 mc κ3 pc (t + 1)) (jTE X.K X.N.length κ3 me (.own (lv k)) κ4 pe (t + 1)) (own.map (·.2)) σ H Q := by
  obtain ⟨g, ρ, S, d, ρ', em, post⟩ := q
  obtain ⟨ds, ρ1, es, ρ2, e1, e2, hz, rfl, hρ⟩ := mLc_some em
  obtain ⟨dq, xs, e, rfl, rfl⟩ := mKeys_some e1
  obtain ⟨a, vs, eσ, ha, hl, hg0⟩ := dic_at S hk e
  have core : ∀ {H1 : Hp} {Q1 : VK}, En X.N.length σ H1 → (∃ g ρ, Sok X.K κ ρ g σ H1 ∧ ∃ d ρ', mLc (true && (pc && pe)) (own.map (·.2)) (mKeys i) mg mc me ρ = some (d, ρ') ∧ jPost X.K X.N.length t κ (.own k) (true && (pc && pe)) g σ H1 d ρ' Q1) →
      tLc (jTI X.K X.N.length κ (mKeys i) κ true t) (jTG X.K X.N.length κ mg κ2 ts (t + 1)) (jTT X.K X.N.length κ2 mc κ3 pc (t + 1)) (jTE X.K X.N.length κ3 me (.own (lv k)) κ4 pe (t + 1)) (own.map (·.2)) σ H1 Q1 := fun z1 q1 =>
    lc_core' (tg := tg) (iter := elt) (elt := elt) (ifs := ifs) rfl htt h0 hκ hκn hts (hg X.s_0 H 0 [] []).out (ht X.s_0 H 0 [] []).pur (he X.s_0 H 0 [] []).pur h1 h2 rfl rfl rfl rfl σ _ _ z1 q1
  rcases ha with ha | ⟨od, ha⟩
  · refine .inl ⟨a, dO dq vs, ha, mut_dO, fun od => ?_⟩
    exact wi_keys hk z.upd eσ upd_same (core z.upd ⟨g, ρ1, S.swap (od := od) ha isDO_dO hg0 (.inl ⟨rfl, rfl⟩), _, _, em, lock_post ha isDO_dO hg0 post⟩)
  · exact .inr (wi_keys hk z eσ ha (core z ⟨g, ρ1, S, _, _, em, post⟩))
theorem j_lcK (hc : X.calm = true) (hN : X.N.Nodup) (hv : PE X iter (tVar i)) (hk : κ[i]? = some (some 0))
    (ok : BlkOk X.N X.env.scope scope own) (hg : InBlk X scope fun Y => JG Y κ tg mg κ2 ts) (ht : InBlk X scope fun Y => JTs Y κ2 ifs mc κ3 pc) (he : InBlk X scope fun Y => J Y κ3 elt me (.own (lv k)) κ4 pe)
    (hs : ∀ x, foldedSetIterable iter X.env x = pure x) (h0 : k ≠ 0) (hκ : noneAt κ (own.map (·.2)) = true) (hκn : κ.length = X.N.length) (hts : ts.all (fun i => (own.map (·.2)).contains i) = true) (h1 : leO κ κ4 = true) (h2 : leO κ κ3 = true) :
    J X κ (.ListComp elt [⟨tg, iter, ifs, 0⟩] scope pos) (mLc (true && (pc && pe)) (own.map (·.2)) (mKeys i) mg mc me) (.own k) κ (true && (pc && pe)) := by
  have base : ∀ t, X.N.length ≤ t → PE X (.ListComp elt [⟨tg, iter, ifs, 0⟩] scope pos) (tLc (iKeys (tVar i)) (jTG X.K X.N.length κ mg κ2 ts (t + 1)) (jTT X.K X.N.length κ2 mc κ3 pc (t + 1)) (jTE X.K X.N.length κ3 me (.own (lv k)) κ4 pe (t + 1)) (own.map (·.2))) := fun t htt =>
    pe_lc hc hN (pi_keys hv) ok (fun s H C cl fp => (hg s H C cl fp).run (t + 1) (by exact Nat.le_succ_of_le htt)) (fun s H C cl fp => (ht s H C cl fp).run (t + 1) (by exact Nat.le_succ_of_le htt)) (fun s H C cl fp => (he s H C cl fp).run (t + 1) (by exact Nat.le_succ_of_le htt)) hs
  refine ⟨fun t htt => PE.imp (PE.or (pe_lock (base t htt)) (base t htt)) fun σ H Q z q => ?_, fun hp ρ d ρ' e => ?_⟩
  · exact lcK_read htt hk hg ht he h0 hκ hκn hts h1 h2 z (q z)
  · obtain ⟨ds, ρ1, es, ρ2, e1, e2, hz, rfl, rfl⟩ := mLc_some e
    rw [if_pos hp]
    obtain ⟨_, _, _, _, rfl⟩ := mKeys_some e1
    rfl
end
end VS
namespace VS
open PySem PySem.Spec PyProof.Rows L2
variable {K : PySem.W.Frag} {X : Cx} {κ κ1 κ2 κ3 κ4 : OE} {pos : Pos} {rc : RC}
def mD (q : DKs) : M := fun ρ => some (.dic q [], ρ)
theorem j_dnew {t' : Bool} {k' : Nat} (h0 : k' ≠ 0) : J X κ (.Dict [] [] pos) (mD (if t' then .T [] else .K [])) (.own k') κ true := by
  have key : ∀ (q : DKs), q.len = 0 → PE X (.Dict [] [] pos) (fun _ H Q => ∀ p, H p = none → Q (.ref p) (upd H p (dO q []))) → J X κ (.Dict [] [] pos) (mD q) (.own k') κ true := fun q hq h => by
    refine ⟨fun t ht => PE.imp h fun σ H Q z q1 => ?_, fun _ ρ d ρ' e => by cases e; rfl⟩
    obtain ⟨g, ρ, S, d, ρ', em, post⟩ := q1 z
    cases em
    intro p hp
    exact post (.ref p) _ (nwG p t g) (S.new hp) (Pres.new S.gok hp (Nat.le_refl t)) (fun _ => same_new hp) ⟨p, [], rfl, .inl upd_same, hq, by rw [if_neg h0]; exact nwG_p, rfl⟩
  cases t' with
  | true => exact key (.T []) rfl pe_dnewT
  | false => exact key (.K []) rfl pe_dnewK
def putL {κ α : Type} [DecidableEq κ] (ks : List κ) (xs : List α) (k : κ) (v : α) : List κ × List α :=
  if ks.any (fun j => decide (j = k)) = true then (ks, ks.zipWith (fun j x => if j = k then v else x) xs) else (ks ++ [k], xs ++ [v])
def dPut : DKs → List D → D → D → Option (DKs × List D)
  | .K ks, xs, d, v => (keyA d).map fun k => (.K (putL ks xs k v).1, (putL ks xs k v).2)
  | .T ks, xs, .tup ds, v => (keyAs ds).map fun k => (.T (putL ks xs k v).1, (putL ks xs k v).2)
  | .T _, _, _, _ => none
theorem zip_zipWith {κ α β : Type} (f : κ → α → β) : ∀ (ks : List κ) (xs : List α), ks.zip (ks.zipWith f xs) = (ks.zip xs).map fun p => (p.1, f p.1 p.2)
  | [], _ => rfl
  | _ :: _, [] => rfl
  | k :: ks, x :: xs => by simp [zip_zipWith f ks xs]
theorem any_zip {κ α : Type} (p : κ → Bool) : ∀ {ks : List κ} {xs : List α}, ks.length = xs.length → ((ks.zip xs).any fun kv => p kv.1) = ks.any p
  | [], [], _ => rfl
  | k :: ks, x :: xs, h => by simp [any_zip p (ks := ks) (xs := xs) (by simpa using h)]
theorem putK_zip {κ : Type} [DecidableEq κ] {ks : List κ} {vs : List V} {k : κ} {v : V} (h : ks.length = vs.length) : putK (ks.zip vs) k v = (putL ks vs k v).1.zip (putL ks vs k v).2 := by
  unfold putK putL
  rw [any_zip (fun j => decide (j = k)) h]
  split
  · simp only []
    rw [zip_zipWith]
    refine List.map_congr_left fun p _ => ?_
    by_cases e : p.1 = k <;> simp [e]
  · rw [List.zip_append h]
    rfl
theorem putL_len {κ α : Type} [DecidableEq κ] {ks : List κ} {xs : List α} {k : κ} {v : α} (h : ks.length = xs.length) : (putL ks xs k v).1.length = (putL ks xs k v).2.length := by
  unfold putL
  split <;> simp [h]
theorem putL_own {κ : Type} [DecidableEq κ] {H : Hp} {g : G} {k : κ} {d : D} {v : V} (ov : Own K H g d 0 0 [] v) : ∀ {ks : List κ} {ds : List D} {vs : List V} {i j : Nat}, OwnL K H g ds 0 0 [] i vs →
    OwnL K H g (ks.zipWith (fun a x => if a = k then d else x) ds) 0 0 [] j (ks.zipWith (fun a x => if a = k then v else x) vs)
  | [], _, _, _, _, _ => rfl
  | _ :: _, [], _, _, _, h => by cases (show _ = _ from h); rfl
  | a :: ks, x :: ds, _, i, j, h => by
    obtain ⟨u, w, rfl, h1, h2⟩ := h
    refine ⟨_, _, rfl, ?_, putL_own ov h2⟩
    by_cases e : a = k
    · simp only [e, if_true]
      exact own_fz (fun a z => ⟨z, rfl⟩) (fun _ _ z _ => z) ov
    · simp only [e, if_false]
      exact own_fz (fun a z => ⟨z, rfl⟩) (fun _ _ z _ => z) h1
theorem putL_ownL {κ : Type} [DecidableEq κ] {H : Hp} {g : G} {k : κ} {d : D} {v : V} (ov : Own K H g d 0 0 [] v) {ks : List κ} {ds : List D} {vs : List V} (h : OwnL K H g ds 0 0 [] 0 vs) (hl : ks.length = ds.length) :
    (putL ks ds k d).1 = (putL ks vs k v).1 ∧ OwnL K H g (putL ks ds k d).2 0 0 [] 0 (putL ks vs k v).2 := by
  unfold putL
  split
  · exact ⟨rfl, putL_own ov h⟩
  · exact ⟨rfl, ownL_app (l := 0) h (j := 0) (es := [d]) (ws := [v]) ⟨v, [], rfl, own_fz (fun a z => ⟨z, rfl⟩) (fun _ _ z _ => z) ov, rfl⟩⟩
theorem dPut_of {H : Hp} {g : G} {q q' : DKs} {xs xs' : List D} {kd d : D} {a : Addr} {vs : List V} {y v : V} (e : dPut q xs kd d = some (q', xs')) (hd : H a = some (dO q vs)) (hl : q.len = vs.length) (hx : OwnL K H g xs 0 0 [] 0 vs) (hz : xs.length < sizeLine)
    (rk : Rep K H kd y) (ov : Own K H g d 0 0 [] v) : ∃ vs', DPut H a y v (upd H a (dO q' vs')) ∧ q'.len = xs'.length ∧ OwnL K H g xs' 0 0 [] 0 vs' := by
  have hlx := ownL_len hx
  cases q with
  | K ks =>
    have e' : ((keyA kd).map fun k => (DKs.K (putL ks xs k d).1, (putL ks xs k d).2)) = some (q', xs') := e
    cases e1 : keyA kd with
    | none => rw [e1] at e'; cases e'
    | some k =>
      rw [e1] at e'
      cases e'
      have hl' : ks.length = vs.length := hl
      obtain ⟨p1, p2⟩ := putL_ownL (k := k) ov hx (hl'.trans hlx)
      refine ⟨(putL ks vs k v).2, .inl ⟨_, k, hd, keyA_rep e1 rk, by rw [List.length_zip]; omega, ?_⟩, putL_len (hl'.trans hlx), p2⟩
      rw [putK_zip hl', ← p1]
      rfl
  | T ks =>
    cases kd with
    | tup ds =>
      have e' : ((keyAs ds).map fun k => (DKs.T (putL ks xs k d).1, (putL ks xs k d).2)) = some (q', xs') := e
      cases e1 : keyAs ds with
      | none => rw [e1] at e'; cases e'
      | some k =>
        rw [e1] at e'
        cases e'
        have hl' : ks.length = vs.length := hl
        obtain ⟨b, ws, rfl, hb, hr⟩ := rk
        rw [keyAs_rep e1 hr] at hb
        obtain ⟨p1, p2⟩ := putL_ownL (k := k) ov hx (hl'.trans hlx)
        refine ⟨(putL ks vs k v).2, .inr ⟨_, k, b, hd, rfl, hb, by rw [List.length_zip]; omega, ?_⟩, putL_len (hl'.trans hlx), p2⟩
        rw [putK_zip hl', ← p1]
        rfl
    | _ => cases e
def sPut (i : Nat) (me mk : M) : SM := fun ρ => match me ρ with
  | some (d, ρ1) => (match ρ1[i]? with
    | some (some (.dic q xs)) => if xs.length < 16777216 then (match mk ρ1 with
      | some (kd, ρ2) => (match dPut q xs kd d with
        | some (q', xs') => some (.nx (ρ2.set i (some (.dic q' xs'))))
        | none => none)
      | none => none) else none
    | _ => none)
  | none => none
theorem sPut_some {i : Nat} {me mk : M} {ρ : DE} {o : Out} (h : sPut i me mk ρ = some o) : ∃ d ρ1 q xs kd ρ2 q' xs', me ρ = some (d, ρ1) ∧ ρ1[i]? = some (some (.dic q xs)) ∧ xs.length < sizeLine ∧ mk ρ1 = some (kd, ρ2) ∧ dPut q xs kd d = some (q', xs') ∧ o = .nx (ρ2.set i (some (.dic q' xs'))) := by
  unfold sPut at h
  split at h
  · split at h
    · split at h
      · split at h
        · split at h
          · cases h
            exact ⟨_, _, _, _, _, _, _, _, by assumption, by assumption, by rw [sizeLine_eq]; assumption, by assumption, by assumption, rfl⟩
          · cases h
        · cases h
      · cases h
    · cases h
  · cases h
theorem own1_dic {ρ : DE} {g : G} {σ : L2.St} {H : Hp} {i : Nat} {q : DKs} {xs : List D} (S : Sok K κ ρ g σ H) (hk : κ[i]? = some (some 1)) (e : ρ[i]? = some (some (.dic q xs))) :
    ∃ a vs, σ[i]? = some (some (.ref a)) ∧ H a = some (dO q vs) ∧ q.len = vs.length ∧ g a = .ow i [] ∧ OwnL K H g xs 0 0 [] 0 vs := by
  obtain ⟨v, ev, a, vs, rfl, h1, hq, h2, h3⟩ := S.ok i 1 _ hk e
  rw [if_neg (by decide)] at h2
  exact ⟨a, vs, ev, h1.resolve_right (fun z => by cases z.1), hq.trans (repL_len (ownL_repL _ h3)).symm, h2, ownL_fz (fun a z => ⟨z, rfl⟩) (fun _ _ z _ => z) h3⟩
theorem stb_dO {q : DKs} {vs : List V} : stb (dO q vs) = false := by cases q <;> rfl
theorem mut1D {n t i : Nat} {ρ : DE} {g : G} {σ : L2.St} {H : Hp} {L : Addr} {q q' : DKs} {ds' : List D} {vs vs' : List V} (S : Sok K κ ρ g σ H) (hn : σ.length = n) (hk : κ[i]? = some (some 1)) (hv : σ[i]? = some (some (.ref L))) (hL : H L = some (dO q vs)) (hg : g L = .ow i [])
    (hq : q'.len = ds'.length) (ol : OwnL K H g ds' 0 0 [] 0 vs') : Sok K κ (ρ.set i (some (.dic q' ds'))) g σ (upd H L (dO q' vs')) ∧ Pres n t g H g (upd H L (dO q' vs')) := by
  have hi : i < n := by
    have := (List.getElem?_eq_some_iff.mp hv).1
    omega
  have P : Pres n t g H g (upd H L (dO q' vs')) := Pres.rewrite S.gok hi hL stb_dO hg (fun a h => upd_ne h) (fun _ z => z) (fun _ z => z) (fun _ _ _ _ _ z => z) fun _ _ _ _ _ z => z
  refine ⟨S.rewrite hk hv hL stb_dO hg (fun a h => upd_ne h) (by rw [upd_same]; simp) (fun _ _ _ _ => rfl) (fun _ z => z) (fun _ z => z) ?_, P⟩
  exact ⟨L, vs', rfl, .inl upd_same, hq, by rw [if_neg (by decide)]; exact hg, ownL_fz P.fz P.tu ol⟩
theorem js_put {e b o : Expr} {me mk : M} {i k1 : Nat} {rk : Rz} {pe : Bool} {pos' : Pos} (hu : X.A.units + 100 < cLine) (he : J X κ e me (.own 0) κ1 pe) (ho : PE X o (tVar i)) (hb : J X κ1 b mk rk κ2 true) (hk1 : κ1[i]? = some (some k1)) (hk : κ2[i]? = some (some 1))
    (hs : swapsWith e (some (.Subscript o b pos')) pos.line X.env = pure false) : JS X κ (.Assign [.Subscript o b pos'] e pos) (sPut i me mk) κ2 rc := by
  refine ⟨fun s0 t ht => PS.imp (ps_dput (by omega) ho (hb.run (t + 1) (by omega)) (he.run t ht) hs) fun σ H D z q => ?_⟩
  obtain ⟨g, ρ, S, fx, out, em, post⟩ := q z
  obtain ⟨d, ρ1, q, xs, kd, ρ2, q', xs', e1, e2, e3, e4, e5, rfl⟩ := sPut_some em
  refine fun _ => ⟨g, ρ, S, d, ρ1, e1, fun v H1 g1 S1 P1 s1 r1 => ?_⟩
  obtain ⟨v2, ev, o2⟩ := S1.ok i k1 _ hk1 e2
  refine ⟨v2, ev, fun _ => ⟨g1, ρ1, S1, kd, ρ2, e4, fun y H2 g2 S2 P2 s2 r2 => ?_⟩⟩
  have eρ := hb.pur rfl _ _ _ e4
  subst eρ
  obtain ⟨a, vs, ev', hL, hl, hg, ol⟩ := own1_dic S2 hk e2
  rw [ev] at ev'
  cases ev'
  have ov : Own X.K H2 g2 d 0 0 [] v := P2.own0 r1
  obtain ⟨vs', h1, h2, h3⟩ := dPut_of e5 hL hl ol e3 r2.rep ov
  obtain ⟨S3, P3⟩ := mut1D (n := X.N.length) (t := t) S2 z.2 hk ev hL hg h2 h3
  exact ⟨a, _, rfl, h1, post σ _ g2 S3 (P1.trans ((P2.less (Nat.le_succ t)).trans P3)) fx⟩
def dGet2 (q : DKs) (xs : List D) (d x : D) : Option D := (q.at d).map fun o => (o.bind fun j => xs[j]?).getD x
theorem isD_of {H : Hp} {q : DKs} {vs : List V} {a : Addr} (h : Rd H a (dO q vs)) : IsD H a := by
  cases q with
  | K ks => exact .inl ⟨_, h⟩
  | T ks => exact .inr ⟨_, h⟩
theorem dGet2_of {H : Hp} {q : DKs} {xs : List D} {d x z : D} {v y u : V} (e : dGet2 q xs d x = some z) (rx : Rep K H (.dic q xs) v) (ry : Rep K H d y) (ru : Rep K H x u) : ∃ a o, v = .ref a ∧ DGet H a y o ∧ Rep K H z (o.getD u) := by
  obtain ⟨a, vs, rfl, ha, hq, hl⟩ := rx
  unfold dGet2 at e
  cases eo : q.at d with
  | none => rw [eo] at e; cases e
  | some o =>
    rw [eo] at e
    cases e
    refine ⟨a, _, rfl, dGet_of ha (hq.trans (repL_len hl).symm) eo ry, ?_⟩
    cases o with
    | none => exact ru
    | some j =>
      have hj := DKs.at_lt eo
      have e2 : xs[j]? = some xs[j] := List.getElem?_eq_getElem (by omega)
      obtain ⟨w, e3, r3⟩ := repL_get hl e2
      simp only [Option.bind_some, e2, e3, Option.getD_some]
      exact r3
def mGet2 (md mk mx : M) : M := fun ρ => match md ρ with
  | some (.dic q xs, ρ1) => (match mk ρ1 with
    | some (kd, ρ2) => (match mx ρ2 with
      | some (x, ρ3) => (match dGet2 q xs kd x with
        | some z => some (z, ρ3)
        | none => none)
      | none => none)
    | none => none)
  | _ => none
theorem mGet2_some {md mk mx : M} {ρ ρ' : DE} {z : D} (h : mGet2 md mk mx ρ = some (z, ρ')) : ∃ q xs ρ1 kd ρ2 x, md ρ = some (.dic q xs, ρ1) ∧ mk ρ1 = some (kd, ρ2) ∧ mx ρ2 = some (x, ρ') ∧ dGet2 q xs kd x = some z := by
  unfold mGet2 at h
  split at h
  · split at h
    · split at h
      · split at h
        · cases h; exact ⟨_, _, _, _, _, _, by assumption, by assumption, by assumption, by assumption⟩
        · cases h
      · cases h
    · cases h
  · cases h
theorem j_get2 {o e f : Expr} {md mk mx : M} {r1 r2 r3 : Rz} {p1 : Bool} {apos cpos : Pos} (hu : X.A.units + 100 < cLine) (ho : J X κ o md r1 κ1 p1) (he : J X κ1 e mk r2 κ2 true) (hf : J X κ2 f mx r3 κ3 true) (m : M2 X o "get" apos e f cpos) :
    J X κ (.Call (.Attribute o "get" apos) [e, f] [] cpos) (mGet2 md mk mx) .rep κ3 p1 := by
  refine ⟨fun t ht => PE.imp (pe_dget2 (by omega) (ho.run t ht) (he.run (t + 1) (by omega)) (hf.run (t + 2) (by omega)) m) fun σ H Q z q => ?_, fun hp ρ d ρ' h => ?_⟩
  · obtain ⟨g, ρ, S, d, ρ', em, post⟩ := q z
    obtain ⟨dq, xs, ρ1, kd, ρ2, x, e1, e2, e3, e4⟩ := mGet2_some em
    refine fun _ => ⟨g, ρ, S, _, ρ1, e1, fun v H1 g1 S1 P1 s1 q1 => ?_⟩
    obtain ⟨a, vs, rfl, ha, hq, hl⟩ := q1.rep
    refine ⟨a, rfl, isD_of ha, fun _ => ⟨g1, ρ1, S1, kd, ρ2, e2, fun y H2 g2 S2 P2 s2 q2 => fun _ => ⟨g2, ρ2, S2, x, ρ', e3, fun u H3 g3 S3 P3 s3 q3 => ?_⟩⟩⟩
    have rx : Rep X.K H3 (.dic dq xs) (.ref a) := rep_mono ((s2 rfl).trans (s3 rfl)) _ ⟨a, vs, rfl, ha, hq, hl⟩
    obtain ⟨a', ov, ea, hg, rz⟩ := dGet2_of e4 rx (rep_mono (s3 rfl) _ q2.rep) q3.rep
    cases ea
    exact ⟨ov, hg, post _ H3 g3 S3 (P1.trans ((P2.less (by omega)).trans (P3.less (by omega)))) (fun e => ((s1 e).trans (s2 rfl)).trans (s3 rfl)) rz⟩
  · obtain ⟨dq, xs, ρ1, kd, ρ2, x, e1, e2, e3, e4⟩ := mGet2_some h
    rw [hf.pur rfl _ _ _ e3, he.pur rfl _ _ _ e2, ho.pur hp _ _ _ e1]
abbrev MDs := DE → Option (List D × List D)
structure JDs (X : Cx) (κ : OE) (keys : List (Option Expr)) (values : List Expr) (m : MDs) : Prop where
  run : ∀ pos t, X.N.length ≤ t → ∃ trs, PPs X pos keys values trs ∧ ∀ σ H Q, (∃ g ρ, Sok X.K κ ρ g σ H ∧ ∃ ks xs, m ρ = some (ks, xs) ∧ ∀ ps H' g', Sok X.K κ ρ g' σ H' → Pres X.N.length t g H g' H' → Same H H' →
    RepL X.K H' ks (ps.map (·.1)) → OwnL X.K H' g' xs 0 0 [] 0 (ps.map (·.2)) → Q ps H') → tPairs trs σ H Q
def dsNil : MDs := fun _ => some ([], [])
def dsCons (mk mv : M) (m : MDs) : MDs := fun ρ => match mk ρ with
  | some (k, _) => (match mv ρ with
    | some (v, _) => (match m ρ with
      | some (ks, xs) => some (k :: ks, v :: xs)
      | none => none)
    | none => none)
  | none => none
def dispK : List D → List D → Option (List Key × List D)
  | [], [] => some ([], [])
  | k :: ks, x :: xs => (keyA k).bind fun k' => (dispK ks xs).map fun p => (k' :: p.1, x :: p.2)
  | _, _ => none
def mDisp (m : MDs) : M := fun ρ => match m ρ with
  | some (ks, xs) => (match dispK ks xs with
    | some (ks', xs') => if ks'.Nodup ∧ xs'.length ≤ 15 then some (.dic (.K ks') xs', ρ) else none
    | none => none)
  | none => none
end VS
namespace VS
open PySem PySem.Spec PyProof.Rows L2 PySem.Calls
variable {K : PySem.W.Frag} {X : Cx} {κ κ1 κ2 κ3 κ4 : OE} {pos : Pos} {rc : RC}
def srtK (ks : List Key) : List Key := ks.mergeSort (PySem.W.dataLe false fun k => pyD (kD k))
def alikeK : List Key → Bool
  | [] => true
  | .inl _ :: ks => ks.all fun k => match k with | .inl _ => true | _ => false
  | .inr _ :: ks => ks.all fun k => match k with | .inr _ => true | _ => false
def mSrtD (m : M) : M := fun ρ => match m ρ with
  | some (.dic (.K ks) _, ρ1) => if alikeK ks = true ∧ ks.length ≤ 16777216 then some (.lst ((srtK ks).map kD), ρ1) else none
  | _ => none
end VS
namespace VS
open PySem PySem.Spec PyProof.Rows L2 PySem.Calls
variable {K : PySem.W.Frag} {X : Cx} {κ κ1 κ2 κ3 κ4 : OE} {pos : Pos} {rc : RC}
section
variable {prog : Program} {w : World} {A : Around} {E : Value → Shared → Prop} {s : Shared}
end
def sNo : SM := fun _ => none
def ev2 {α : Type} : List α → List α
  | [] => []
  | [a] => [a]
  | a :: _ :: r => a :: ev2 r
theorem fm_congr {α β : Type} {f g : α → Option β} (h : ∀ a, f a = g a) (l : List α) : l.filterMap f = l.filterMap g := by rw [show f = g from funext h]
def mEv2 (m : M) : M := fun ρ => match m ρ with
  | some (.lst ds, ρ1) => some (.lst (ev2 ds), ρ1)
  | _ => none
end VS
namespace VS
open PySem PySem.Spec PyProof.Rows L2 PySem.Calls
variable {K : PySem.W.Frag} {X : Cx} {κ κ1 κ2 κ3 κ4 : OE} {pos : Pos} {rc : RC}
def gTpL (ms : List D → DE → Option DE) : MG := fun d ρ => match d with
  | .lst ds => ms ds ρ
  | _ => none
theorem ap_gtpL {ms : List D → DE → Option DE} {ds : List D} {ρ : DE} : gTpL ms (.lst ds) ρ = ms ds ρ := rfl
section
variable {ρ : DE} {i j : Int}
theorem ap_mk {k : Mk} {ml : ML} : mMk k ml ρ = (match ml ρ with | some ([x], ρ1) => (match dMk k x with | some z => some (z, ρ1) | none => none) | _ => none) := by
  unfold mMk
  rw [ap_B]
  cases ml ρ with
  | none => rfl
  | some p =>
    obtain ⟨xs, ρ1⟩ := p
    match xs with
    | [] => rfl
    | [x] => rfl
    | _ :: _ :: _ => rfl
theorem ap_mut {i : Nat} {f : List D → List D → Option (D × List D)} {ml : ML} : mMut i f ml ρ = (match ρ[i]? with | some (some (.lst _)) => (match ml ρ with | some (as, ρ1) => (match ρ1[i]? with | some (some (.lst ds)) => (match f ds as with | some (z, ds') => some (z, ρ1.set i (some (.lst ds'))) | none => none) | _ => none) | none => none) | _ => none) := by
  unfold mMut
  rcases ρ[i]? with _ | _ | d
  · rfl
  · rfl
  cases d with
  | lst ds0 =>
    simp only []
    cases ml ρ with
    | none => rfl
    | some p =>
      obtain ⟨xs, ρ1⟩ := p
      simp only [Option.bind_some]
      rcases ρ1[i]? with _ | _ | d
      · rfl
      · rfl
      cases d with
      | lst ds => simp only []; cases f ds xs <;> rfl
      | _ => rfl
  | _ => rfl
theorem ap_swap {i : Nat} {m ma mb : M} : sSwap i m ma mb ρ = (match m ρ with
  | some (.tup [d1, d2], ρ1) => (match putI i ma d1 ρ1 with
    | some ρ2 => (match putI i mb d2 ρ2 with
      | some ρ3 => some (.nx ρ3)
      | none => none)
    | none => none)
  | _ => none) := rfl
theorem ap_putI {i : Nat} {mj : M} {d : D} : putI i mj d ρ = (match ρ[i]? with
  | some (some (.lst ds)) => (match mj ρ with
    | some (.int k, _) => (match ixN ds.length k with
      | some j => some (ρ.set i (some (.lst (ds.set j d))))
      | none => none)
    | _ => none)
  | _ => none) := rfl
theorem ap_ev2 {m : M} : mEv2 m ρ = (match m ρ with | some (.lst ds, ρ1) => some (.lst (ev2 ds), ρ1) | _ => none) := rfl
theorem ap_keys {i : Nat} : mKeys i ρ = (match ρ[i]? with | some (some (.dic q _)) => some (q.keys, ρ) | _ => none) := rfl
theorem ap_mD {q : DKs} : mD q ρ = some (.dic q [], ρ) := rfl
theorem ap_put {i : Nat} {me mk : M} : sPut i me mk ρ = (match me ρ with
  | some (d, ρ1) => (match ρ1[i]? with
    | some (some (.dic q xs)) => if xs.length < 16777216 then (match mk ρ1 with
      | some (kd, ρ2) => (match dPut q xs kd d with
        | some (q', xs') => some (.nx (ρ2.set i (some (.dic q' xs'))))
        | none => none)
      | none => none) else none
    | _ => none)
  | none => none) := rfl
theorem ap_get2 {md mk mx : M} : mGet2 md mk mx ρ = (match md ρ with
  | some (.dic q xs, ρ1) => (match mk ρ1 with
    | some (kd, ρ2) => (match mx ρ2 with
      | some (x, ρ3) => (match dGet2 q xs kd x with
        | some z => some (z, ρ3)
        | none => none)
      | none => none)
    | none => none)
  | _ => none) := rfl
theorem ap_disp {m : MDs} : mDisp m ρ = (match m ρ with
  | some (ks, xs) => (match dispK ks xs with
    | some (ks', xs') => if ks'.Nodup ∧ xs'.length ≤ 15 then some (.dic (.K ks') xs', ρ) else none
    | none => none)
  | none => none) := rfl
theorem ap_dsN : dsNil ρ = some ([], []) := rfl
theorem ap_dsC {mk mv : M} {m : MDs} : dsCons mk mv m ρ = (match mk ρ with
  | some (k, _) => (match mv ρ with
    | some (v, _) => (match m ρ with
      | some (ks, xs) => some (k :: ks, v :: xs)
      | none => none)
    | none => none)
  | none => none) := rfl
theorem ap_srtD {m : M} : mSrtD m ρ = (match m ρ with
  | some (.dic (.K ks) _, ρ1) => if alikeK ks = true ∧ ks.length ≤ 16777216 then some (.lst ((srtK ks).map kD), ρ1) else none
  | _ => none) := rfl
theorem ap_sl {ma : M} {ml mu : MO} {f : D → Option Int → Option Int → Option D} : mSl ma ml mu f ρ = (match ma ρ with | some (x, ρ1) => (match ml ρ1 with | some l => (match mu ρ1 with | some u => (match f x l u with | some z => some (z, ρ1) | none => none) | none => none) | none => none) | none => none) := by
  unfold mSl
  cases ma ρ with
  | none => rfl
  | some p =>
    simp only [Option.bind_some]
    cases ml p.2 with
    | none => rfl
    | some l =>
      simp only [Option.bind_some]
      cases mu p.2 with
      | none => rfl
      | some u =>
        simp only [Option.bind_some]
        cases f p.1 l u <;> rfl
theorem ap_oS {m : M} : oSome m ρ = (match m ρ with | some (.int i, _) => some (some i) | _ => none) := rfl
theorem ap_oN : oNone ρ = some none := rfl
theorem r_catI : dCat (.int i) (.int j) = some (.int (i + j)) := rfl
theorem r_cat {xs ys : List D} (h : xs.length + ys.length ≤ 16777216) : dCat (.lst xs) (.lst ys) = some (.lst (xs ++ ys)) := by unfold dCat; simp only [h, if_true]
theorem r_catT {xs ys : List D} (h : xs.length + ys.length ≤ 16777216) : dCat (.tup xs) (.tup ys) = some (.tup (xs ++ ys)) := by unfold dCat; simp only [h, if_true]
theorem r_mkL {xs : List D} : dMk .lst (.lst xs) = some (.lst xs) := rfl
theorem r_mkLT {xs : List D} : dMk .lst (.tup xs) = some (.lst xs) := rfl
theorem r_mkT {xs : List D} : dMk .tup (.lst xs) = some (.tup xs) := rfl
theorem r_slL {xs : List D} {l u : Option Int} : dSl (.lst xs) l u = some (.lst (cutG xs l u)) := rfl
theorem r_slT {xs : List D} {l u : Option Int} : dSl (.tup xs) l u = some (.tup (cutG xs l u)) := rfl
theorem at0 {α : Type} {x : α} {xs : List α} : atI (x :: xs) 0 = some x := by simp [atI, ixN]
theorem at1 {α : Type} {x y : α} {xs : List α} : atI (x :: y :: xs) 1 = some y := (at_nn (xs := x :: y :: xs) (n := 1) (by simp)).trans rfl
end
end VS
namespace VS
open PySem PySem.Spec PyProof.Rows L2 PySem.Calls
variable {K : PySem.W.Frag} {X : Cx} {κ κ1 κ2 κ3 κ4 : OE} {pos : Pos} {rc : RC}
def mCh3 (f f' f'' : D → D → Option D) (ma mb mc md : M) : M := fun ρ => match ma ρ with
  | some (x, ρ1) => (match mb ρ1 with
    | some (y, ρ2) => (match f x y with
      | some (.bl false) => some (.bl false, ρ2)
      | some (.bl true) => (match mc ρ2 with
        | some (w, ρ3) => (match f' y w with
          | some (.bl false) => some (.bl false, ρ3)
          | some (.bl true) => (match md ρ3 with
            | some (v, ρ4) => (match f'' w v with
              | some z => some (z, ρ4)
              | none => none)
            | none => none)
          | _ => none)
        | none => none)
      | _ => none)
    | none => none)
  | none => none
def mLRg (m : M) : M := fun ρ => match m ρ with
  | some (.int n, ρ1) => (match lim62 n && decide (n.toNat ≤ 16777216) with
    | true => some (.lst (rngD 0 n.toNat), ρ1)
    | false => none)
  | _ => none
theorem mLRg_some {m : M} {ρ ρ' : DE} {d : D} (h : mLRg m ρ = some (d, ρ')) : ∃ n : Int, m ρ = some (.int n, ρ') ∧ lim62 n = true ∧ n.toNat ≤ 16777216 ∧ d = .lst (rngD 0 n.toNat) := by
  unfold mLRg at h
  split at h
  · split at h
    · rename_i hc
      cases h
      rw [Bool.and_eq_true, decide_eq_true_eq] at hc
      exact ⟨_, by assumption, hc.1, hc.2, rfl⟩
    · cases h
  · cases h
theorem ownL_rg {H : Hp} {g : G} {r : Nat} {p : List Nat} : ∀ (is : List Int) (i : Nat), OwnL K H g (is.map D.int) 0 r p i (is.map V.int)
  | [], _ => rfl
  | k :: is, i => ⟨V.int k, is.map V.int, rfl, rfl, ownL_rg is (i + 1)⟩
theorem j_lrg {a : Expr} {ma : M} {ra : Rz} {pu : Bool} {p p1 p2 : Pos} (hc : X.calm = true) (ha : J X κ a ma ra κ1 pu) (hg : Gl X "list") (hm : X.mg "list" = none) (hg2 : Gl X "range") (hm2 : X.mg "range" = none)
    (na : starEach [a] X.env = (false, eval a X.env) :: starEach [] X.env) (nb : starEach [.Call (.Name "range" p1) [a] [] p2] X.env = (false, eval (.Call (.Name "range" p1) [a] [] p2) X.env) :: starEach [] X.env) :
    J X κ (.Call (.Name "list" p) [.Call (.Name "range" p1) [a] [] p2] [] pos) (mLRg ma) (.own 1) κ1 pu := by
  refine ⟨fun t ht => PE.imp (pe_listRg hc hg hm (prg_1 hg2 hm2 (ha.run t ht) na) nb) fun σ H Q z q => ?_, fun hp ρ d ρ' e => ?_⟩
  · obtain ⟨g, ρ, S, d, ρ', em, post⟩ := q z
    obtain ⟨n, e1, h1, h2, rfl⟩ := mLRg_some em
    refine fun _ => ⟨g, ρ, S, .int n, ρ', e1, fun v H' g' S' P' s' r' => ?_⟩
    cases (show _ = _ from r'.rep)
    refine ⟨n, rfl, ⟨by omega, by omega, (lim62_ok h1).1, (lim62_ok h1).2, by rw [Int.sub_zero]; exact h2⟩, fun p hp => ?_⟩
    have e2 : rgV 0 n = ((List.range n.toNat).map fun i : Nat => (0 : Int) + (i : Nat)).map V.int := by
      unfold rgV
      rw [Int.sub_zero, List.map_map]
      rfl
    have e3 : rngD 0 n.toNat = ((List.range n.toNat).map fun i : Nat => (0 : Int) + (i : Nat)).map D.int := by
      unfold rngD
      rw [List.map_map]
      rfl
    rw [e2]
    rw [e3] at post
    exact gives_post (b := true) S' rfl (ownL_rg _ 0) P' s' post p hp
  · obtain ⟨n, e1, _⟩ := mLRg_some e
    exact ha.pur hp _ _ _ e1
end VS
namespace VS
open PySem PySem.Spec PyProof.Rows L2 PySem.Calls
variable {K : PySem.W.Frag} {X : Cx} {κ κ1 κ2 κ3 κ4 : OE} {pos : Pos} {rc : RC}
end VS
namespace VS
open PySem PySem.Spec PyProof.Rows L2 PySem.Calls
variable {K : PySem.W.Frag} {X : Cx} {κ κ1 κ2 κ3 κ4 : OE} {pos : Pos} {rc : RC}
def sSet2 (i : Nat) (me ma mb : M) : SM := fun ρ => match me ρ with
  | some (d, ρ1) => (match ρ1[i]? with
    | some (some (.lst ds)) => (match ma ρ1 with
      | some (.int p, ρ2) => (match ixN ds.length p with
        | some j => (match ds[j]? with
          | some (.lst ys) => (match mb ρ2 with
            | some (.int q, ρ3) => (match ixN ys.length q with
              | some l => some (.nx (ρ3.set i (some (.lst (ds.set j (.lst (ys.set l d)))))))
              | none => none)
            | _ => none)
          | _ => none)
        | none => none)
      | _ => none)
    | _ => none)
  | none => none
end VS
namespace VS
open PySem PySem.Spec PyProof.Rows L2 PySem.Calls
variable {K : PySem.W.Frag} {X : Cx} {κ κ1 κ2 κ3 κ4 : OE} {pos : Pos} {rc : RC}
def mF (m : M) : M := fun ρ => match m ρ with
  | some (.lst ds, ρ1) => (match ds.all isA with
    | true => some (.lst ds, ρ1)
    | false => none)
  | _ => none
theorem mF_some {m : M} {ρ ρ' : DE} {d : D} (h : mF m ρ = some (d, ρ')) : ∃ ds, m ρ = some (.lst ds, ρ') ∧ ds.all isA = true ∧ d = .lst ds := by
  unfold mF at h
  split at h
  · split at h
    · cases h
      exact ⟨_, by assumption, by assumption, rfl⟩
    · cases h
  · cases h
def allz (κ0 κ : OE) : Bool := (List.range κ.length).all fun i => match κ[i]? with
  | some (some _) => decide (κ0[i]? = some (some 0))
  | _ => true
theorem ownL_plain {H H' : Hp} {g g' : G} : ∀ {ds : List D} {vs : List V} {k k' r r' : Nat} {p p' : List Nat} {i i' : Nat}, ds.all isA = true → OwnL K H g ds k r p i vs → OwnL K H' g' ds k' r' p' i' vs
  | [], _, _, _, _, _, _, _, _, _, _, h => h
  | d :: ds, vs, k, k', r, r', p, p', i, i', ha, h => by
    obtain ⟨v, w, rfl, o1, o2⟩ := h
    rw [List.all_cons, Bool.and_eq_true] at ha
    have e := rep_atom ha.1 (own_rep d o1)
    subst e
    exact ⟨_, w, rfl, atom_own ha.1, ownL_plain ha.2 o2⟩
theorem fresh_core {κ0 : OE} {n t k : Nat} {ρ : DE} {g g' : G} {σ : L2.St} {H H' : Hp} {ds : List D} {v : V} (S : Sok K κ ρ g σ H) (hn : κ0.length = n) (hnt : n ≤ t) (hz : allz κ0 κ = true) (P' : Pres n t (wk κ0 g) H g' H') (sm : Same H H') (hk : k ≠ 0) (hd : ds.all isA = true) (r' : Own K H' g' (.lst ds) k t [] v) :
    ∃ g2, Sok K κ ρ g2 σ H' ∧ Pres n t g H g2 H' ∧ Own K H' g2 (.lst ds) 99 t [] v := by
  obtain ⟨a, vs, rfl, hH', hg', ol⟩ := r'
  rw [if_neg hk] at hg'
  have nfz : wk κ0 g a ≠ .fz := fun z => by rw [(P'.fz a z).1] at hg'; cases hg'
  have nfg : g a ≠ .fz := fun z => nfz (wk_fz z)
  have key : ∀ x, g x ≠ .un → H' x = H x := fun x hx => by
    cases q : H x with
    | none => exact absurd q (S.gok x hx)
    | some u => exact sm x u q
  have nov : ∀ (j k' : Nat) (q : List Nat), κ[j]? = some (some k') → g a ≠ .ow j q := fun j k' q hj z => by
    have hjl : j < κ.length := (List.getElem?_eq_some_iff.mp hj).1
    have z0 : κ0[j]? = some (some 0) := by
      have := List.all_eq_true.mp hz j (List.mem_range.mpr hjl)
      rw [hj] at this
      exact of_decide_eq_true this
    have := wk_lo z0 z
    rw [show has 0 q.length = false by simp [has]] at this
    exact nfz this
  refine ⟨nwG a t g, ⟨fun i k' d h1 h2 => ?_, fun x hx => ?_, S.len, S.lek⟩, ⟨fun x z => ?_, fun x z hx => ?_, fun x r p h1 h2 z => ?_, fun x r p h1 h2 z => ?_, fun x u z _ => sm _ _ z⟩, ⟨a, vs, rfl, hH', by rw [if_neg (by decide)]; exact nwG_p, ownL_plain hd ol⟩⟩
  · obtain ⟨v, e, o⟩ := S.ok i k' d h1 h2
    refine ⟨v, e, own_conv (fun x u z _ => sm _ _ z) d (.inr fun x z => ?_) (fun x q z hh => ?_) (fun _ z => z) o⟩
    · have hx : x ≠ a := fun w => nfg (w ▸ z)
      exact ⟨by rw [nwG_o hx]; exact z, key x (by rw [z]; simp)⟩
    · rw [List.append_nil] at z ⊢
      have hx : x ≠ a := fun w => nov i k' q h1 (w ▸ z)
      exact ⟨key x (by rw [z]; simp), by rw [if_pos hh, nwG_o hx]; exact z⟩
  · by_cases w : x = a
    · subst w; rw [hH']; simp
    · rw [nwG_o w] at hx
      rw [key x hx]
      exact S.gok x hx
  · have hx : x ≠ a := fun w => nfg (w ▸ z)
    exact ⟨by rw [nwG_o hx]; exact z, key x (by rw [z]; simp)⟩
  · have hxa : x ≠ a := fun w => by
      subst w
      rw [(P'.un x (wk_un z) hx).1] at hg'
      cases hg'
    refine ⟨by rw [nwG_o hxa]; exact z, ?_⟩
    cases q : H x with
    | none => exact absurd q hx
    | some u => exact sm x u q
  · have hxa : x ≠ a := fun w => by
      subst w
      rw [(P'.tp x r p h1 h2 (wk_hi (by omega) z)).1] at hg'
      cases hg'
      omega
    exact ⟨by rw [nwG_o hxa]; exact z, key x (by rw [z]; simp)⟩
  · by_cases w : x = a
    · subst w; rw [nwG_p] at z; cases z; omega
    · rw [nwG_o w] at z; exact z
theorem J.fresh {κ0 : OE} {e : Expr} {m : M} {k : Nat} (h : J X κ0 e m (.own k) κ1 true) (hk : k ≠ 0) (hl : leO κ0 κ = true) (hn : κ0.length = X.N.length) (hz : allz κ0 κ = true) : J X κ e (mF m) (.own 99) κ true := by
  refine ⟨fun t ht => PE.imp (h.run t ht) fun σ H Q z q _ => ?_, fun hp ρ d ρ' e => ?_⟩
  · obtain ⟨g, ρ, S, d, ρ', em, post⟩ := q z
    obtain ⟨ds, e1, hd, rfl⟩ := mF_some em
    refine ⟨wk κ0 g, ρ, S.weaken hl, .lst ds, ρ', e1, fun v H' g' S' P' s' r' => ?_⟩
    have sm := s' rfl
    have e2 := h.pur rfl _ _ _ e1
    subst e2
    obtain ⟨g2, S2, P2, o2⟩ := fresh_core S hn ht hz P' sm hk hd r'
    exact post v H' g2 S2 P2 (fun _ => sm) o2
  · obtain ⟨ds, e1, _⟩ := mF_some e
    exact h.pur rfl _ _ _ e1
end VS
namespace VS
open L2
section
universe u
variable {α β : Type}
def bo (o : Option β) (k : β → Option α) : Option α := match o with
  | some x => k x
  | none => none
def cv (o : Option (Option D)) (k : D → Option α) : Option α := match o with
  | some (some d) => k d
  | _ => none
def tst (x : D) (a b : Option α) : Option α := match x with
  | .bl true => a
  | .bl false => b
  | _ => none
def onI (x : D) (k : Int → Option α) : Option α := match x with
  | .int i => k i
  | _ => none
def onL (x : D) (k : List D → Option α) : Option α := match x with
  | .lst i => k i
  | _ => none
def onT (x : D) (k : List D → Option α) : Option α := match x with
  | .tup i => k i
  | _ => none
def ce (m : M) (ρ : DE) (k : D → DE → Option α) : Option α := match m ρ with
  | some (x, ρ1) => k x ρ1
  | none => none
def cl (m : ML) (ρ : DE) (k : List D → DE → Option α) : Option α := match m ρ with
  | some (x, ρ1) => k x ρ1
  | none => none
def co (m : MO) (ρ : DE) (k : Option Int → Option α) : Option α := match m ρ with
  | some x => k x
  | none => none
def ct (m : M) (ρ : DE) (a b : DE → Option α) : Option α := match m ρ with
  | some (.bl true, ρ1) => a ρ1
  | some (.bl false, ρ1) => b ρ1
  | _ => none
def cd (m : MDs) (ρ : DE) (k : List D → List D → Option α) : Option α := match m ρ with
  | some x => k x.1 x.2
  | none => none
def cs (m : SM) (ρ : DE) (kn : DE → Option α) (kr : D → DE → Option α) : Option α := match m ρ with
  | some (.nx ρ1) => kn ρ1
  | some (.rt d ρ1) => kr d ρ1
  | none => none
def cF (mg : MG) (mb : SM) (ds : List D) (ρ : DE) (kn : DE → Option α) (kr : D → DE → Option α) : Option α := cs (itF mg mb ds) ρ kn kr
def cW (mc : M) (mb : SM) (n : Nat) (ρ : DE) (kn : DE → Option α) (kr : D → DE → Option α) : Option α := cs (itW mc mb n) ρ kn kr
variable {m ma mb mc md : M} {ml : ML} {ρ ρ' : DE} {k : D → DE → Option α} {kl : List D → DE → Option α} {ko : Option Int → Option α} {a b : DE → Option α} {f f' : D → D → Option D}
theorem bo_s {x : β} {k : β → Option α} : bo (some x) k = k x := rfl
theorem bo_n {k : β → Option α} : bo none k = none := rfl
theorem cv_s {d : D} {k : D → Option α} : cv (some (some d)) k = k d := rfl
theorem tst_t {x y : Option α} : tst (.bl true) x y = x := rfl
theorem tst_f {x y : Option α} : tst (.bl false) x y = y := rfl
theorem tst_d {p : Prop} [Decidable p] {x y : Option α} : tst (.bl (decide p)) x y = if p then x else y := by
  by_cases h : p <;> simp [h, tst]
theorem tst_n {p : Bool} {x y : Option α} : tst (.bl (!p)) x y = tst (.bl p) y x := by cases p <;> rfl
theorem tst_a {p q : Bool} {x y : Option α} : tst (.bl (p && q)) x y = tst (.bl p) (tst (.bl q) x y) y := by cases p <;> cases q <;> rfl
theorem tst_o {p q : Bool} {x y : Option α} : tst (.bl (p || q)) x y = tst (.bl p) x (tst (.bl q) x y) := by cases p <;> cases q <;> rfl
theorem onI_s {i : Int} {k : Int → Option α} : onI (.int i) k = k i := rfl
theorem onL_s {i : List D} {k : List D → Option α} : onL (.lst i) k = k i := rfl
theorem onT_s {i : List D} {k : List D → Option α} : onT (.tup i) k = k i := rfl
theorem ce_v {i : Nat} : ce (mV i) ρ k = cv ρ[i]? fun d => k d ρ := by
  unfold ce mV cv
  rcases ρ[i]? with _ | _ | d <;> rfl
theorem ce_c {d : D} : ce (mC d) ρ k = k d ρ := rfl
theorem ce_2 : ce (m2 f ma mb) ρ k = ce ma ρ fun x ρ1 => ce mb ρ1 fun y ρ2 => bo (f x y) fun z => k z ρ2 := by
  unfold ce
  rw [ap_2]
  cases ma ρ with
  | none => rfl
  | some p =>
    simp only []
    cases mb p.2 with
    | none => rfl
    | some q =>
      simp only []
      cases f p.1 q.1 <;> rfl
theorem ce_A : ce (mA m) ρ k = ce m ρ fun x ρ1 => if isA x = true then k x ρ1 else none := by
  unfold ce
  rw [ap_A]
  cases m ρ with
  | none => rfl
  | some p =>
    simp only []
    cases isA p.1 <;> rfl
theorem cl_nil : cl mNil ρ kl = kl [] ρ := rfl
theorem cl_cons : cl (mCons m ml) ρ kl = ce m ρ fun x ρ1 => cl ml ρ1 fun xs ρ2 => kl (x :: xs) ρ2 := by
  unfold cl ce
  rw [ap_cons]
  cases m ρ with
  | none => rfl
  | some p =>
    simp only []
    cases ml p.2 <;> rfl
theorem ce_lst : ce (mLst ml) ρ k = cl ml ρ fun xs ρ1 => if xs.length ≤ 16777216 then k (.lst xs) ρ1 else none := by
  unfold cl ce
  rw [ap_lst]
  cases ml ρ with
  | none => rfl
  | some p =>
    simp only []
    by_cases h : p.1.length ≤ 16777216 <;> simp only [h, if_true, if_false]
theorem ce_tup : ce (mTup ml) ρ k = cl ml ρ fun xs ρ1 => if xs.length ≤ 16777216 then k (.tup xs) ρ1 else none := by
  unfold cl ce
  rw [ap_tup]
  cases ml ρ with
  | none => rfl
  | some p =>
    simp only []
    by_cases h : p.1.length ≤ 16777216 <;> simp only [h, if_true, if_false]
theorem ce_B {g : List D → Option D} : ce (mB g ml) ρ k = cl ml ρ fun xs ρ1 => bo (g xs) fun z => k z ρ1 := by
  unfold cl ce
  rw [ap_B]
  cases ml ρ with
  | none => rfl
  | some p =>
    simp only []
    cases g p.1 <;> rfl
theorem ce_call {g : FM} : ce (mCall g ml) ρ k = cl ml ρ fun xs ρ1 => bo (g xs) fun z => k z.1 ρ1 := by
  unfold cl ce
  rw [ap_call]
  cases ml ρ with
  | none => rfl
  | some p =>
    simp only []
    cases g p.1 <;> rfl
theorem ce_callN {g : FM} : ce (mCallO g none ml) ρ k = cl ml ρ fun xs ρ1 => bo (g xs) fun z => k z.1 ρ1 := by
  unfold cl ce
  rw [ap_callN]
  cases ml ρ with
  | none => rfl
  | some p =>
    simp only []
    cases g p.1 <;> rfl
theorem ce_callO {g : FM} {j i : Nat} : ce (mCallO g (some (j, i)) ml) ρ k = cl ml ρ fun xs ρ1 => bo (g xs) fun z => k z.1 (ρ1.set i z.2[j]?) := by
  unfold cl ce
  rw [ap_callO]
  cases ml ρ with
  | none => rfl
  | some p =>
    simp only []
    cases g p.1 <;> rfl
theorem ce_T : ce (mTr m) ρ k = ce m ρ fun x ρ1 => bo (truD x) fun b => k (.bl b) ρ1 := by
  unfold ce
  rw [ap_T]
  cases m ρ with
  | none => rfl
  | some p =>
    simp only []
    cases truD p.1 <;> rfl
theorem ce_isT {c : String} : ce (mIsT c m) ρ k = ce m ρ fun x ρ1 => bo (isT c x) fun b => k (.bl b) ρ1 := by
  unfold ce
  rw [ap_isT]
  cases m ρ with
  | none => rfl
  | some p =>
    simp only []
    cases isT c p.1 <;> rfl
theorem ce_not : ce (mNot m) ρ k = ct m ρ (fun ρ1 => k (.bl false) ρ1) fun ρ1 => k (.bl true) ρ1 := by
  unfold ce ct
  rw [ap_not]
  rcases m ρ with _ | ⟨x, ρ1⟩
  · rfl
  cases x with
  | bl b => cases b <;> rfl
  | _ => rfl
theorem ce_neg : ce (mNeg m) ρ k = ce m ρ fun x ρ1 => onI x fun i => k (.int (-i)) ρ1 := by
  unfold ce
  rw [ap_neg]
  rcases m ρ with _ | ⟨x, ρ1⟩
  · rfl
  cases x <;> rfl
theorem ce_and : ce (mAnd ma mb) ρ k = ct ma ρ (fun ρ1 => ce mb ρ1 k) fun ρ1 => k (.bl false) ρ1 := by
  unfold ce ct
  rw [ap_and]
  rcases ma ρ with _ | ⟨x, ρ1⟩
  · rfl
  cases x with
  | bl b => cases b <;> rfl
  | _ => rfl
theorem ce_or : ce (mOr ma mb) ρ k = ct ma ρ (fun ρ1 => k (.bl true) ρ1) fun ρ1 => ce mb ρ1 k := by
  unfold ce ct
  rw [ap_or]
  rcases ma ρ with _ | ⟨x, ρ1⟩
  · rfl
  cases x with
  | bl b => cases b <;> rfl
  | _ => rfl
theorem ce_ch : ce (mCh f f' ma mb mc) ρ k = ce ma ρ fun x ρ1 => ce mb ρ1 fun y ρ2 => bo (f x y) fun z => tst z (ce mc ρ2 fun w ρ3 => bo (f' y w) fun v => k v ρ3) (k (.bl false) ρ2) := by
  unfold ce
  rw [ap_ch]
  rcases ma ρ with _ | ⟨x, ρ1⟩
  · rfl
  simp only []
  rcases mb ρ1 with _ | ⟨y, ρ2⟩
  · rfl
  simp only []
  rcases f x y with _ | z
  · rfl
  simp only [bo]
  cases z with
  | bl b =>
    cases b with
    | true =>
      simp only [tst]
      rcases mc ρ2 with _ | ⟨w, ρ3⟩
      · rfl
      simp only []
      cases f' y w <;> rfl
    | false => rfl
  | _ => rfl
theorem ce_sl {mlo mhi : MO} {g : D → Option Int → Option Int → Option D} : ce (mSl ma mlo mhi g) ρ k = ce ma ρ fun x ρ1 => co mlo ρ1 fun l => co mhi ρ1 fun h => bo (g x l h) fun z => k z ρ1 := by
  unfold ce co
  rw [ap_sl]
  rcases ma ρ with _ | ⟨x, ρ1⟩
  · rfl
  simp only []
  rcases mlo ρ1 with _ | l
  · rfl
  simp only []
  rcases mhi ρ1 with _ | h
  · rfl
  simp only []
  cases g x l h <;> rfl
theorem co_s : co (oSome m) ρ ko = ce m ρ fun x _ => onI x fun i => ko (some i) := by
  unfold co ce
  rw [ap_oS]
  rcases m ρ with _ | ⟨x, ρ1⟩
  · rfl
  cases x <;> rfl
theorem co_n : co oNone ρ ko = ko none := rfl
theorem ce_mk {kk : Mk} : ce (mMk kk ml) ρ k = cl ml ρ fun xs ρ1 => match xs with
    | [x] => bo (dMk kk x) fun z => k z ρ1
    | _ => none := by
  unfold ce cl
  rw [ap_mk]
  rcases ml ρ with _ | ⟨xs, ρ1⟩
  · rfl
  match xs with
  | [] => rfl
  | [x] => simp only []; cases dMk kk x <;> rfl
  | _ :: _ :: _ => rfl
theorem ce_mut {i : Nat} {g : List D → List D → Option (D × List D)} : ce (mMut i g ml) ρ k = cv ρ[i]? fun x => onL x fun _ => cl ml ρ fun as ρ1 => cv ρ1[i]? fun y => onL y fun ds => bo (g ds as) fun r => k r.1 (ρ1.set i (some (.lst r.2))) := by
  unfold ce cl
  rw [ap_mut]
  rcases ρ[i]? with _ | _ | d
  · rfl
  · rfl
  cases d with
  | lst ds0 =>
    simp only [cv, onL]
    rcases ml ρ with _ | ⟨xs, ρ1⟩
    · rfl
    simp only []
    rcases ρ1[i]? with _ | _ | d
    · rfl
    · rfl
    cases d with
    | lst ds => simp only [cv, onL]; rcases g ds xs with _ | ⟨z, ds'⟩ <;> rfl
    | _ => rfl
  | _ => rfl
theorem ce_mD {q : DKs} : ce (mD q) ρ k = k (.dic q []) ρ := rfl
theorem ce_get2 : ce (mGet2 md ma mb) ρ k = ce md ρ fun x ρ1 => ce ma ρ1 fun y ρ2 => ce mb ρ2 fun z ρ3 => match x with
    | .dic q xs => bo (dGet2 q xs y z) fun w => k w ρ3
    | _ => none := by
  unfold ce
  rw [ap_get2]
  rcases md ρ with _ | ⟨x, ρ1⟩
  · rfl
  cases x with
  | dic q xs =>
    simp only []
    rcases ma ρ1 with _ | ⟨y, ρ2⟩
    · rfl
    simp only []
    rcases mb ρ2 with _ | ⟨z, ρ3⟩
    · rfl
    simp only []
    cases dGet2 q xs y z <;> rfl
  | _ =>
    simp only []
    rcases ma ρ1 with _ | ⟨y, ρ2⟩
    · rfl
    simp only []
    rcases mb ρ2 with _ | ⟨z, ρ3⟩ <;> rfl
theorem ce_disp {m : MDs} : ce (mDisp m) ρ k = cd m ρ fun ks xs => bo (dispK ks xs) fun r => if r.1.Nodup ∧ r.2.length ≤ 15 then k (.dic (.K r.1) r.2) ρ else none := by
  unfold ce cd
  rw [ap_disp]
  rcases m ρ with _ | ⟨ks, xs⟩
  · rfl
  simp only []
  rcases dispK ks xs with _ | ⟨ks', xs'⟩
  · rfl
  simp only [bo]
  by_cases h : ks'.Nodup ∧ xs'.length ≤ 15
  · rw [if_pos h, if_pos h]
  · rw [if_neg h, if_neg h]
theorem cd_n {k : List D → List D → Option α} : cd dsNil ρ k = k [] [] := rfl
theorem cd_c {m : MDs} {k : List D → List D → Option α} : cd (dsCons ma mb m) ρ k = ce ma ρ fun x _ => ce mb ρ fun y _ => cd m ρ fun ks vs => k (x :: ks) (y :: vs) := by
  unfold cd ce
  rw [ap_dsC]
  rcases ma ρ with _ | ⟨x, ρ1⟩
  · rfl
  simp only []
  rcases mb ρ with _ | ⟨y, ρ2⟩
  · rfl
  simp only []
  rcases m ρ with _ | ⟨ks, vs⟩ <;> rfl
theorem ce_Fl : ce (mFl m) ρ k = ce m ρ fun x ρ1 => onL x fun ds => if noLL ds = true then k (.lst ds) ρ1 else none := by
  unfold ce mFl
  rcases m ρ with _ | ⟨x, ρ1⟩
  · rfl
  cases x with
  | lst ds => simp only [onL]; cases noLL ds <;> rfl
  | _ => rfl
theorem ce_lrg : ce (mLRg m) ρ k = ce m ρ fun x ρ1 => onI x fun n => if lim62 n = true ∧ n.toNat ≤ 16777216 then k (.lst (rngD 0 n.toNat)) ρ1 else none := by
  unfold ce mLRg
  rcases m ρ with _ | ⟨x, ρ1⟩
  · rfl
  cases x with
  | int n =>
    simp only [onI]
    by_cases h : lim62 n = true ∧ n.toNat ≤ 16777216
    · rw [if_pos h, h.1, decide_eq_true h.2]
      rfl
    · rw [if_neg h]
      cases e1 : lim62 n with
      | false => rfl
      | true =>
        rw [decide_eq_false fun z => h ⟨e1, z⟩]
        rfl
  | _ => rfl
theorem ce_srtD : ce (mSrtD m) ρ k = ce m ρ fun x ρ1 => match x with
    | .dic (.K ks) _ => if alikeK ks = true ∧ ks.length ≤ 16777216 then k (.lst ((srtK ks).map kD)) ρ1 else none
    | _ => none := by
  unfold ce
  rw [ap_srtD]
  rcases m ρ with _ | ⟨x, ρ1⟩
  · rfl
  cases x with
  | dic q xs => cases q with
    | K ks =>
      simp only []
      by_cases h : alikeK ks = true ∧ ks.length ≤ 16777216
      · rw [if_pos h, if_pos h]
      · rw [if_neg h, if_neg h]
    | T ks => rfl
  | _ => rfl
theorem ce_ch3 {f'' : D → D → Option D} : ce (mCh3 f f' f'' ma mb mc md) ρ k = ce ma ρ fun x ρ1 => ce mb ρ1 fun y ρ2 => bo (f x y) fun z => tst z (ce mc ρ2 fun w ρ3 => bo (f' y w) fun z2 => tst z2 (ce md ρ3 fun v ρ4 => bo (f'' w v) fun z3 => k z3 ρ4) (k (.bl false) ρ3)) (k (.bl false) ρ2) := by
  unfold ce mCh3
  rcases ma ρ with _ | ⟨x, ρ1⟩
  · rfl
  simp only []
  rcases mb ρ1 with _ | ⟨y, ρ2⟩
  · rfl
  simp only []
  rcases f x y with _ | z
  · rfl
  cases z with
  | bl b =>
    cases b with
    | false => rfl
    | true =>
      simp only [tst, bo]
      rcases mc ρ2 with _ | ⟨w, ρ3⟩
      · rfl
      simp only []
      rcases f' y w with _ | z2
      · rfl
      cases z2 with
      | bl b =>
        cases b with
        | false => rfl
        | true =>
          simp only []
          rcases md ρ3 with _ | ⟨v, ρ4⟩
          · rfl
          simp only []
          cases f'' w v <;> rfl
      | _ => rfl
  | _ => rfl
def cp1 (vs : List Nat) (mg : MG) (mc me : M) (ρ : DE) (d : D) : Option (Option D × DE) := bo (mg d (wp ρ vs)) fun ρ2 => ct mc ρ2 (fun ρ3 => ce me ρ3 fun x ρ4 => some (some x, ρ4)) fun ρ3 => some (none, ρ3)
theorem cpL_each {τ : Type} {e : τ → D} {f : τ → Option D} {vs : List Nat} {mg : MG} {mc me : M} {ρ : DE} : ∀ (xs : List τ), (∀ x ∈ xs, ∃ ρ4, cp1 vs mg mc me ρ (e x) = some (f x, ρ4) ∧ wp ρ4 vs = wp ρ vs) → ∀ ρ0, wp ρ0 vs = wp ρ vs → ∃ ρ', cpL vs mg mc me (xs.map e) ρ0 = some (xs.filterMap f, ρ') ∧ wp ρ' vs = wp ρ vs
  | [], h, ρ0, h0 => ⟨ρ0, rfl, h0⟩
  | d :: ds, h, ρ0, h0 => by
    obtain ⟨ρ5, h1, hw⟩ := h d (by simp)
    have ih := cpL_each ds fun x hx => h x (by simp [hx])
    rw [List.filterMap_cons, List.map_cons]
    unfold cp1 bo at h1
    simp only [cpL]
    rw [h0]
    generalize mg (e d) (wp ρ vs) = A at h1 ⊢
    rcases A with _ | ρ2
    · cases h1
    simp only [Option.bind_some, ct] at h1 ⊢
    generalize mc ρ2 = B at h1 ⊢
    rcases B with _ | ⟨x, ρ3⟩
    · cases h1
    cases x with
    | bl b =>
      cases b with
      | true =>
        simp only [ce] at h1 ⊢
        generalize me ρ3 = C at h1 ⊢
        rcases C with _ | ⟨y, ρ4⟩
        · cases h1
        simp only [Option.bind_some] at h1 ⊢
        injection h1 with h1
        rw [Prod.mk.injEq] at h1
        obtain ⟨h1, rfl⟩ := h1
        rw [← h1]
        obtain ⟨ρ', e, hw'⟩ := ih ρ4 hw
        exact ⟨ρ', by rw [e]; rfl, hw'⟩
      | false =>
        simp only [] at h1 ⊢
        injection h1 with h1
        rw [Prod.mk.injEq] at h1
        obtain ⟨h1, rfl⟩ := h1
        rw [← h1]
        obtain ⟨ρ', e, hw'⟩ := ih ρ3 hw
        exact ⟨ρ', e, hw'⟩
    | _ => cases h1
def cP (vs : List Nat) (mg : MG) (mc me : M) (ds : List D) (ρ : DE) (kl : List D → DE → Option α) : Option α := match cpL vs mg mc me ds ρ with
  | some (es, ρ1) => kl es ρ1
  | none => none
theorem cP_nil {vs : List Nat} {mg : MG} : cP vs mg mc me [] ρ kl = kl [] ρ := rfl
theorem cP_cons {me : M} {ns : List Nat} {mg : MG} {d : D} {ds : List D} : cP ns mg mc me (d :: ds) ρ kl = bo (mg d (wp ρ ns)) fun ρ2 => ct mc ρ2 (fun ρ3 => ce me ρ3 fun x ρ4 => cP ns mg mc me ds ρ4 fun es ρ1 => kl (x :: es) ρ1) fun ρ3 => cP ns mg mc me ds ρ3 kl := by
  unfold cP
  simp only [cpL]
  rcases mg d (wp ρ ns) with _ | ρ2
  · rfl
  simp only [Option.bind_some, bo, ct]
  rcases mc ρ2 with _ | ⟨x, ρ3⟩
  · rfl
  cases x with
  | bl b =>
    cases b with
    | true =>
      simp only [ce]
      rcases me ρ3 with _ | ⟨y, ρ4⟩
      · rfl
      simp only [Option.bind_some]
      rcases cpL ns mg mc me ds ρ4 with _ | ⟨es, ρ5⟩ <;> rfl
    | false => rfl
  | _ => rfl
theorem ce_lc {me : M} {ns : List Nat} {mg : MG} {pu : Bool} : ce (mLc pu ns ml mg mc me) ρ k = cl ml ρ fun ds ρ1 => cP ns mg mc me ds ρ1 fun es ρ2 => if es.length ≤ 16777216 then k (.lst es) (if pu = true then ρ1 else ρ2) else none := by
  unfold ce cl cP
  rw [ap_lc]
  rcases ml ρ with _ | ⟨ds, ρ1⟩
  · rfl
  simp only []
  rcases cpL ns mg mc me ds ρ1 with _ | ⟨es, ρ2⟩
  · rfl
  simp only []
  by_cases h : es.length ≤ 16777216
  · rw [if_pos h, if_pos h]
  · rw [if_neg h, if_neg h]
theorem cP_each {τ : Type} {e : τ → D} {f : τ → Option D} {vs : List Nat} {mg : MG} {mc me : M} {xs : List τ} {kp : List D → Option α} (h : ∀ x ∈ xs, ∃ ρ4, cp1 vs mg mc me ρ (e x) = some (f x, ρ4) ∧ wp ρ4 vs = wp ρ vs) (hk : ∀ es ρ2, kl es ρ2 = kp es) : cP vs mg mc me (xs.map e) ρ kl = kp (xs.filterMap f) := by
  obtain ⟨ρ2, e2, _⟩ := cpL_each xs h ρ rfl
  unfold cP
  rw [e2]
  exact hk _ _
theorem cP_map {τ : Type} {e : τ → D} (g : τ → D) {vs : List Nat} {mg : MG} {mc me : M} {xs : List τ} {kp : List D → Option α} (h : ∀ x ∈ xs, ∃ ρ4, cp1 vs mg mc me ρ (e x) = some (some (g x), ρ4) ∧ wp ρ4 vs = wp ρ vs) (hk : ∀ es ρ2, kl es ρ2 = kp es) : cP vs mg mc me (xs.map e) ρ kl = kp (xs.map g) := by
  rw [cP_each (f := fun x => some (g x)) h hk, List.filterMap_eq_map']
theorem cP_flt {τ : Type} {e : τ → D} (g : τ → D) (p : τ → Bool) {vs : List Nat} {mg : MG} {mc me : M} {xs : List τ} {kp : List D → Option α} (h : ∀ x ∈ xs, ∃ ρ4, cp1 vs mg mc me ρ (e x) = some (if p x = true then some (g x) else none, ρ4) ∧ wp ρ4 vs = wp ρ vs) (hk : ∀ es ρ2, kl es ρ2 = kp es) : cP vs mg mc me (xs.map e) ρ kl = kp ((xs.filter p).map g) := by
  rw [cP_each (f := fun x => if p x = true then some (g x) else none) h hk]
  congr 1
  clear h hk
  induction xs with
  | nil => rfl
  | cons x xs ih => by_cases hp : p x = true <;> simp [hp, ih]
theorem cp1_e {vs : List Nat} {mg : MG} {mc me : M} {d : D} : cp1 vs mg mc me ρ d = bo (mg d (wp ρ vs)) fun ρ2 => ct mc ρ2 (fun ρ3 => ce me ρ3 fun x ρ4 => some (some x, ρ4)) fun ρ3 => some (none, ρ3) := rfl
theorem cl_seq : cl (mSeq m) ρ kl = ce m ρ fun x ρ1 => bo (seqOf x) fun ds => kl ds ρ1 := by
  unfold cl ce mSeq
  rcases m ρ with _ | ⟨x, ρ1⟩
  · rfl
  simp only [Option.bind_some]
  cases seqOf x <;> rfl
theorem cl_rng1 : cl (mRng1 ml) ρ kl = cl ml ρ fun xs ρ1 => match xs with
    | [.int j] => if lim62 j = true then kl (rngD 0 j.toNat) ρ1 else none
    | _ => none := by
  unfold cl
  rw [ap_rng1]
  rcases ml ρ with _ | ⟨xs, ρ1⟩
  · rfl
  match xs with
  | [] => rfl
  | [x] => cases x with
    | int j => simp only []; cases lim62 j <;> rfl
    | _ => rfl
  | x :: _ :: _ => cases x <;> rfl
theorem cl_rng2 : cl (mRng2 ml) ρ kl = cl ml ρ fun xs ρ1 => match xs with
    | [.int i, .int j] => if lim62 i = true ∧ lim62 j = true then kl (rngD i (j - i).toNat) ρ1 else none
    | _ => none := by
  unfold cl
  rw [ap_rng2]
  rcases ml ρ with _ | ⟨xs, ρ1⟩
  · rfl
  match xs with
  | [] => rfl
  | [x] => cases x <;> rfl
  | [x, y] => cases x with
    | int i => cases y with
      | int j => simp only []; cases lim62 i <;> cases lim62 j <;> rfl
      | _ => rfl
    | _ => cases y <;> rfl
  | x :: y :: _ :: _ => cases x with
    | int i => cases y <;> rfl
    | _ => rfl
theorem cl_enum : cl (mEnum ml) ρ kl = cl ml ρ fun xs ρ1 => match xs with
    | [.lst ds] => kl (enumD ds) ρ1
    | _ => none := by
  unfold cl
  rw [ap_enum]
  rcases ml ρ with _ | ⟨xs, ρ1⟩
  · rfl
  match xs with
  | [] => rfl
  | [x] => cases x <;> rfl
  | x :: _ :: _ => cases x <;> rfl
theorem cl_zip : cl (mZip ml) ρ kl = cl ml ρ fun xs ρ1 => match xs with
    | [.lst ds, .lst es] => kl (zipD ds es) ρ1
    | [.tup ds, .tup es] => kl (zipD ds es) ρ1
    | _ => none := by
  unfold cl mZip
  rcases ml ρ with _ | ⟨xs, ρ1⟩
  · rfl
  match xs with
  | [] => rfl
  | [x] => cases x <;> rfl
  | [x, y] => cases x <;> cases y <;> rfl
  | x :: y :: _ :: _ => cases x <;> cases y <;> rfl
theorem cl_keys {i : Nat} : cl (mKeys i) ρ kl = cv ρ[i]? fun x => match x with
    | .dic q _ => kl q.keys ρ
    | _ => none := by
  unfold cl
  rw [ap_keys]
  rcases ρ[i]? with _ | _ | d
  · rfl
  · rfl
  cases d <;> rfl
theorem ct_of {ρ : DE} : ct m ρ a b = ce m ρ fun x ρ1 => tst x (a ρ1) (b ρ1) := by
  unfold ct ce
  rcases m ρ with _ | ⟨x, ρ1⟩
  · rfl
  cases x with
  | bl p => cases p <;> rfl
  | _ => rfl
theorem ct_not : ct (mNot m) ρ a b = ct m ρ b a := by
  rw [ct_of, ce_not]
  rfl
theorem ct_and : ct (mAnd ma mb) ρ a b = ct ma ρ (fun ρ1 => ct mb ρ1 a b) b := by
  rw [ct_of, ce_and]
  unfold ct
  simp only [tst, ce]
  rcases ma ρ with _ | ⟨x, ρ1⟩
  · rfl
  cases x with
  | bl p =>
    cases p with
    | true =>
      simp only []
      rcases mb ρ1 with _ | ⟨y, ρ2⟩
      · rfl
      cases y with
      | bl q => cases q <;> rfl
      | _ => rfl
    | false => rfl
  | _ => rfl
theorem ct_or : ct (mOr ma mb) ρ a b = ct ma ρ a (fun ρ1 => ct mb ρ1 a b) := by
  rw [ct_of, ce_or]
  unfold ct
  simp only [tst, ce]
  rcases ma ρ with _ | ⟨x, ρ1⟩
  · rfl
  cases x with
  | bl p =>
    cases p with
    | false =>
      simp only []
      rcases mb ρ1 with _ | ⟨y, ρ2⟩
      · rfl
      cases y with
      | bl q => cases q <;> rfl
      | _ => rfl
    | true => rfl
  | _ => rfl
theorem ct_T : ct (mTr m) ρ a b = ce m ρ fun x ρ1 => bo (truD x) fun q => tst (.bl q) (a ρ1) (b ρ1) := by rw [ct_of, ce_T]
theorem ct_2 : ct (m2 f ma mb) ρ a b = ce (m2 f ma mb) ρ fun x ρ1 => tst x (a ρ1) (b ρ1) := ct_of
theorem ct_ch : ct (mCh f f' ma mb mc) ρ a b = ce (mCh f f' ma mb mc) ρ fun x ρ1 => tst x (a ρ1) (b ρ1) := ct_of
theorem ct_v {i : Nat} : ct (mV i) ρ a b = ce (mV i) ρ fun x ρ1 => tst x (a ρ1) (b ρ1) := ct_of
theorem ct_c {d : D} : ct (mC d) ρ a b = tst d (a ρ) (b ρ) := ct_of
theorem ct_yes : ct mYes ρ a b = a ρ := rfl
theorem ct_isT {c : String} : ct (mIsT c m) ρ a b = ce (mIsT c m) ρ fun x ρ1 => tst x (a ρ1) (b ρ1) := ct_of
theorem ct_A : ct (mA m) ρ a b = ce (mA m) ρ fun x ρ1 => tst x (a ρ1) (b ρ1) := ct_of
theorem ct_cl {g : FM} : ct (mCall g ml) ρ a b = ce (mCall g ml) ρ fun x ρ1 => tst x (a ρ1) (b ρ1) := ct_of
theorem ct_clO {g : FM} {io : Option (Nat × Nat)} : ct (mCallO g io ml) ρ a b = ce (mCallO g io ml) ρ fun x ρ1 => tst x (a ρ1) (b ρ1) := ct_of
theorem ct_B {g : List D → Option D} : ct (mB g ml) ρ a b = ce (mB g ml) ρ fun x ρ1 => tst x (a ρ1) (b ρ1) := ct_of
variable {s s1 s2 : SM} {kn : DE → Option α} {kr : D → DE → Option α}
theorem cs_seq : cs (sSeq s1 s2) ρ kn kr = cs s1 ρ (fun ρ1 => cs s2 ρ1 kn kr) kr := by
  unfold cs
  rw [ap_seq]
  rcases s1 ρ with _ | o
  · rfl
  cases o <;> rfl
theorem cs_nil : cs sNil ρ kn kr = kn ρ := rfl
theorem cs_if : cs (sIf m s1 s2) ρ kn kr = ct m ρ (fun ρ1 => cs s1 ρ1 kn kr) fun ρ1 => cs s2 ρ1 kn kr := by
  unfold cs ct
  rw [ap_sif]
  rcases m ρ with _ | ⟨x, ρ1⟩
  · rfl
  cases x with
  | bl b => cases b <;> rfl
  | _ => rfl
theorem cs_ret : cs (sRet m) ρ kn kr = ce m ρ kr := by
  unfold cs ce
  rw [ap_ret]
  rcases m ρ with _ | ⟨x, ρ1⟩ <;> rfl
theorem cs_no : cs sNo ρ kn kr = none := rfl
theorem cs_asg {i : Nat} : cs (sAsg i m) ρ kn kr = ce m ρ fun x ρ1 => kn (ρ1.set i (some x)) := by
  unfold cs ce
  rw [ap_asg]
  rcases m ρ with _ | ⟨x, ρ1⟩ <;> rfl
theorem cs_exp : cs (sExp m) ρ kn kr = ce m ρ fun x ρ1 => kn ρ1 := by
  unfold cs ce
  rw [ap_exp]
  rcases m ρ with _ | ⟨x, ρ1⟩ <;> rfl
theorem cs_tgt {mg : MG} : cs (sTgt m mg) ρ kn kr = ce m ρ fun x ρ1 => bo (mg x ρ1) kn := by
  unfold cs ce
  rw [ap_tgt]
  rcases m ρ with _ | ⟨x, ρ1⟩
  · rfl
  simp only []
  rcases mg x ρ1 with _ | ρ2 <;> rfl
theorem cs_par {i j : Nat} : cs (sPar i j ml) ρ kn kr = cl ml ρ fun xs ρ1 => match xs with
    | [d1, d2] => kn ((ρ1.set i (some d1)).set j (some d2))
    | _ => none := by
  unfold cs cl sPar
  rcases ml ρ with _ | ⟨xs, ρ1⟩
  · rfl
  match xs with
  | [] => rfl
  | [x] => rfl
  | [x, y] => rfl
  | _ :: _ :: _ :: _ => rfl
theorem cs_app {i : Nat} : cs (sApp i m) ρ kn kr = cv ρ[i]? fun x => onL x fun _ => ce m ρ fun y ρ1 => cv ρ1[i]? fun z => onL z fun ds => if ds.length < 16777216 then kn (ρ1.set i (some (.lst (ds ++ [y])))) else none := by
  unfold cs ce
  rw [ap_app]
  rcases ρ[i]? with _ | _ | d
  · rfl
  · rfl
  cases d with
  | lst ds0 =>
    simp only [cv, onL]
    rcases m ρ with _ | ⟨y, ρ1⟩
    · rfl
    simp only []
    rcases ρ1[i]? with _ | _ | d
    · rfl
    · rfl
    cases d with
    | lst ds =>
      simp only []
      by_cases h : ds.length < 16777216
      · rw [if_pos h, if_pos h]
      · rw [if_neg h, if_neg h]
    | _ => rfl
  | _ => rfl
theorem cs_rev {i : Nat} : cs (sRev i) ρ kn kr = cv ρ[i]? fun x => onL x fun ds => kn (ρ.set i (some (.lst ds.reverse))) := by
  unfold cs
  rw [ap_rev]
  rcases ρ[i]? with _ | _ | d
  · rfl
  · rfl
  cases d <;> rfl
theorem cs_set {i : Nat} : cs (sSet i ma mb) ρ kn kr = ce ma ρ fun x ρ1 => cv ρ1[i]? fun z => onL z fun ds => ce mb ρ1 fun y ρ2 => onI y fun p => bo (ixN ds.length p) fun j => kn (ρ2.set i (some (.lst (ds.set j x)))) := by
  unfold cs ce
  rw [ap_set]
  rcases ma ρ with _ | ⟨x, ρ1⟩
  · rfl
  simp only []
  rcases ρ1[i]? with _ | _ | d
  · rfl
  · rfl
  cases d with
  | lst ds =>
    simp only [cv, onL]
    rcases mb ρ1 with _ | ⟨y, ρ2⟩
    · rfl
    cases y with
    | int p => simp only [onI]; rcases ixN ds.length p with _ | j <;> rfl
    | _ => rfl
  | _ => rfl
theorem cs_set2 {i : Nat} : cs (sSet2 i m ma mb) ρ kn kr = ce m ρ fun x ρ1 => cv ρ1[i]? fun z => onL z fun ds => ce ma ρ1 fun y ρ2 => onI y fun p => bo (ixN ds.length p) fun j => bo ds[j]? fun w => onL w fun ys => ce mb ρ2 fun v ρ3 => onI v fun q => bo (ixN ys.length q) fun l => kn (ρ3.set i (some (.lst (ds.set j (.lst (ys.set l x)))))) := by
  unfold cs ce sSet2
  rcases m ρ with _ | ⟨x, ρ1⟩
  · rfl
  simp only []
  rcases ρ1[i]? with _ | _ | d
  · rfl
  · rfl
  cases d with
  | lst ds =>
    simp only [cv, onL]
    rcases ma ρ1 with _ | ⟨y, ρ2⟩
    · rfl
    cases y with
    | int p =>
      simp only [onI]
      rcases ixN ds.length p with _ | j
      · rfl
      simp only [bo]
      rcases ds[j]? with _ | w
      · rfl
      cases w with
      | lst ys =>
        simp only []
        rcases mb ρ2 with _ | ⟨v, ρ3⟩
        · rfl
        cases v with
        | int q => simp only []; rcases ixN ys.length q with _ | l <;> rfl
        | _ => rfl
      | _ => rfl
    | _ => rfl
  | _ => rfl
theorem cs_put {i : Nat} : cs (sPut i ma mb) ρ kn kr = ce ma ρ fun x ρ1 => cv ρ1[i]? fun z => match z with
    | .dic q xs => if xs.length < 16777216 then ce mb ρ1 fun y ρ2 => bo (dPut q xs y x) fun r => kn (ρ2.set i (some (.dic r.1 r.2))) else none
    | _ => none := by
  unfold cs ce
  rw [ap_put]
  rcases ma ρ with _ | ⟨x, ρ1⟩
  · rfl
  simp only []
  rcases ρ1[i]? with _ | _ | d
  · rfl
  · rfl
  cases d with
  | dic q xs =>
    simp only [cv]
    by_cases h : xs.length < 16777216
    · rw [if_pos h, if_pos h]
      rcases mb ρ1 with _ | ⟨y, ρ2⟩
      · rfl
      simp only []
      rcases dPut q xs y x with _ | ⟨q', xs'⟩ <;> rfl
    · rw [if_neg h, if_neg h]
  | _ => rfl
theorem cs_for {mg : MG} : cs (sFor ml mg s) ρ kn kr = cl ml ρ fun ds ρ1 => cF mg s ds ρ1 kn kr := by
  unfold cs cl
  rw [ap_for]
  rcases ml ρ with _ | ⟨ds, ρ1⟩
  · rfl
  rfl
theorem cF_nil {mg : MG} : cF mg s [] ρ kn kr = kn ρ := rfl
theorem cF_cons {mg : MG} {d : D} {ds : List D} : cF mg s (d :: ds) ρ kn kr = bo (mg d ρ) fun ρ1 => cs s ρ1 (fun ρ2 => cF mg s ds ρ2 kn kr) kr := by
  unfold cF cs
  simp only [itF]
  rcases mg d ρ with _ | ρ1
  · rfl
  simp only [Option.bind_some, bo]
  rcases s ρ1 with _ | o
  · rfl
  cases o <;> rfl
theorem cs_while : cs (sWhile m s) ρ kn kr = cW m s 100000 ρ kn kr := rfl
theorem cW_s {n : Nat} : cW m s (n + 1) ρ kn kr = ct m ρ (fun ρ1 => cs s ρ1 (fun ρ2 => cW m s n ρ2 kn kr) kr) kn := by
  unfold cW cs ct
  simp only [itW]
  rcases m ρ with _ | ⟨x, ρ1⟩
  · rfl
  cases x with
  | bl b =>
    cases b with
    | true =>
      simp only []
      rcases s ρ1 with _ | o
      · rfl
      cases o <;> rfl
    | false => rfl
  | _ => rfl
theorem g_cons {g : MG} {ms : List D → DE → Option DE} {d : D} {ds : List D} : gsCons g ms (d :: ds) ρ = bo (g d ρ) fun ρ1 => ms ds ρ1 := by
  rw [ap_gcons]
  rcases g d ρ with _ | ρ1 <;> rfl
def fo' (ks' : List (Option Nat)) (ds : List D) (d : D) (ρ : DE) : Option (D × List D) := bo (outsD ks' ρ 0 ds) fun es => some (d, es)
theorem f_run {np n : Nat} {ks' : List (Option Nat)} {ds : List D} (h : ds.length = np) : fM np n ks' s ds = cs s (ds.map some ++ List.replicate (n - ds.length) none) (fo' ks' ds .non) (fo' ks' ds) := by
  rw [ap_fM, decide_eq_true h]
  simp only [cs]
  rcases s (ds.map some ++ List.replicate (n - ds.length) none) with _ | o
  · rfl
  cases o with
  | nx ρ => simp only [fo', bo]; rcases outsD ks' ρ 0 ds with _ | es <;> rfl
  | rt d ρ => simp only [fo', bo]; rcases outsD ks' ρ 0 ds with _ | es <;> rfl
theorem fo_z {d : D} {ds : List D} {ks' : List (Option Nat)} : fo' ks' ds d ρ = bo (outsD ks' ρ 0 ds) fun es => some (d, es) := rfl
theorem o_n {ks' : List (Option Nat)} {j : Nat} : outsD ks' ρ j [] = some [] := rfl
def ox (ks' : List (Option Nat)) (ρ : DE) (j : Nat) (d : D) : Option D := match ks'[j]? with
  | some (some _) => (match ρ[j]? with
    | some (some d') => some d'
    | _ => none)
  | _ => some d
theorem o_c {ks' : List (Option Nat)} {j : Nat} {d : D} {ds : List D} : outsD ks' ρ j (d :: ds) = bo (ox ks' ρ j d) fun x => bo (outsD ks' ρ (j + 1) ds) fun r => some (x :: r) := by
  rw [outsD]
  show (ox ks' ρ j d).bind _ = _
  rcases ox ks' ρ j d with _ | x
  · rfl
  simp only [Option.bind_some, bo]
  rcases outsD ks' ρ (j + 1) ds with _ | r <;> rfl
theorem if_le {n : Nat} {x y : β} (h : n ≤ 16777216) : (if n ≤ 16777216 then x else y) = x := if_pos h
theorem if_lt {n : Nat} {x y : β} (h : n < 16777216) : (if n < 16777216 then x else y) = x := if_pos h
def Wp (o : Option α) (P : α → Prop) : Prop := ∃ x, o = some x ∧ P x
end
end VS
namespace VS
open L2
section
variable {α : Type}
def ce_v_1 (ρ : DE) (k : D → DE → Option α) : D → Option α := fun d => k d ρ
theorem ce_v_1_e {ρ : DE} {k : D → DE → Option α} {d : D} : ce_v_1 ρ k d = k d ρ := rfl
theorem ce_v' {i : Nat} {ρ : DE} {k : D → DE → Option α} : ce (mV i) ρ k = cv ρ[i]? (ce_v_1 ρ k) := ce_v
def ce_2_3 (k : D → DE → Option α) (ρ2 : DE) : D → Option α := fun z => k z ρ2
theorem ce_2_3_e {k : D → DE → Option α} {ρ2 : DE} {z : D} : ce_2_3 k ρ2 z = k z ρ2 := rfl
def ce_2_2 (f : D → D → Option D) (k : D → DE → Option α) (x : D) : D → DE → Option α := fun y ρ2 => bo (f x y) (ce_2_3 k ρ2)
theorem ce_2_2_e {f : D → D → Option D} {k : D → DE → Option α} {x : D} {y : D} {ρ2 : DE} : ce_2_2 f k x y ρ2 = bo (f x y) (ce_2_3 k ρ2) := rfl
def ce_2_1 (f : D → D → Option D) (mb : M) (k : D → DE → Option α) : D → DE → Option α := fun x ρ1 => ce mb ρ1 (ce_2_2 f k x)
theorem ce_2_1_e {f : D → D → Option D} {mb : M} {k : D → DE → Option α} {x : D} {ρ1 : DE} : ce_2_1 f mb k x ρ1 = ce mb ρ1 (ce_2_2 f k x) := rfl
theorem ce_2' {f : D → D → Option D} {ma : M} {mb : M} {ρ : DE} {k : D → DE → Option α} : ce (m2 f ma mb) ρ k = ce ma ρ (ce_2_1 f mb k) := ce_2
def ce_A_1 (k : D → DE → Option α) : D → DE → Option α := fun x ρ1 => if isA x = true then k x ρ1 else none
theorem ce_A_1_e {k : D → DE → Option α} {x : D} {ρ1 : DE} : ce_A_1 k x ρ1 = if isA x = true then k x ρ1 else none := rfl
theorem ce_A' {m : M} {ρ : DE} {k : D → DE → Option α} : ce (mA m) ρ k = ce m ρ (ce_A_1 k) := ce_A
def cl_cons_2 (kl : List D → DE → Option α) (x : D) : List D → DE → Option α := fun xs ρ2 => kl (x :: xs) ρ2
theorem cl_cons_2_e {kl : List D → DE → Option α} {x : D} {xs : List D} {ρ2 : DE} : cl_cons_2 kl x xs ρ2 = kl (x :: xs) ρ2 := rfl
def cl_cons_1 (ml : ML) (kl : List D → DE → Option α) : D → DE → Option α := fun x ρ1 => cl ml ρ1 (cl_cons_2 kl x)
theorem cl_cons_1_e {ml : ML} {kl : List D → DE → Option α} {x : D} {ρ1 : DE} : cl_cons_1 ml kl x ρ1 = cl ml ρ1 (cl_cons_2 kl x) := rfl
theorem cl_cons' {m : M} {ml : ML} {ρ : DE} {kl : List D → DE → Option α} : cl (mCons m ml) ρ kl = ce m ρ (cl_cons_1 ml kl) := cl_cons
def ce_lst_1 (k : D → DE → Option α) : List D → DE → Option α := fun xs ρ1 => if xs.length ≤ 16777216 then k (.lst xs) ρ1 else none
theorem ce_lst_1_e {k : D → DE → Option α} {xs : List D} {ρ1 : DE} : ce_lst_1 k xs ρ1 = if xs.length ≤ 16777216 then k (.lst xs) ρ1 else none := rfl
theorem ce_lst' {ml : ML} {ρ : DE} {k : D → DE → Option α} : ce (mLst ml) ρ k = cl ml ρ (ce_lst_1 k) := ce_lst
def ce_tup_1 (k : D → DE → Option α) : List D → DE → Option α := fun xs ρ1 => if xs.length ≤ 16777216 then k (.tup xs) ρ1 else none
theorem ce_tup_1_e {k : D → DE → Option α} {xs : List D} {ρ1 : DE} : ce_tup_1 k xs ρ1 = if xs.length ≤ 16777216 then k (.tup xs) ρ1 else none := rfl
theorem ce_tup' {ml : ML} {ρ : DE} {k : D → DE → Option α} : ce (mTup ml) ρ k = cl ml ρ (ce_tup_1 k) := ce_tup
def ce_B_2 (k : D → DE → Option α) (ρ1 : DE) : D → Option α := fun z => k z ρ1
theorem ce_B_2_e {k : D → DE → Option α} {ρ1 : DE} {z : D} : ce_B_2 k ρ1 z = k z ρ1 := rfl
def ce_B_1 (g : List D → Option D) (k : D → DE → Option α) : List D → DE → Option α := fun xs ρ1 => bo (g xs) (ce_B_2 k ρ1)
theorem ce_B_1_e {g : List D → Option D} {k : D → DE → Option α} {xs : List D} {ρ1 : DE} : ce_B_1 g k xs ρ1 = bo (g xs) (ce_B_2 k ρ1) := rfl
theorem ce_B' {g : List D → Option D} {ml : ML} {ρ : DE} {k : D → DE → Option α} : ce (mB g ml) ρ k = cl ml ρ (ce_B_1 g k) := ce_B
def ce_call_2 (k : D → DE → Option α) (ρ1 : DE) : D × List D → Option α := fun z => k z.1 ρ1
theorem ce_call_2_e {k : D → DE → Option α} {ρ1 : DE} {z : D × List D} : ce_call_2 k ρ1 z = k z.1 ρ1 := rfl
def ce_call_1 (g : FM) (k : D → DE → Option α) : List D → DE → Option α := fun xs ρ1 => bo (g xs) (ce_call_2 k ρ1)
theorem ce_call_1_e {g : FM} {k : D → DE → Option α} {xs : List D} {ρ1 : DE} : ce_call_1 g k xs ρ1 = bo (g xs) (ce_call_2 k ρ1) := rfl
theorem ce_call' {g : FM} {ml : ML} {ρ : DE} {k : D → DE → Option α} : ce (mCall g ml) ρ k = cl ml ρ (ce_call_1 g k) := ce_call
def ce_callN_2 (k : D → DE → Option α) (ρ1 : DE) : D × List D → Option α := fun z => k z.1 ρ1
theorem ce_callN_2_e {k : D → DE → Option α} {ρ1 : DE} {z : D × List D} : ce_callN_2 k ρ1 z = k z.1 ρ1 := rfl
def ce_callN_1 (g : FM) (k : D → DE → Option α) : List D → DE → Option α := fun xs ρ1 => bo (g xs) (ce_callN_2 k ρ1)
theorem ce_callN_1_e {g : FM} {k : D → DE → Option α} {xs : List D} {ρ1 : DE} : ce_callN_1 g k xs ρ1 = bo (g xs) (ce_callN_2 k ρ1) := rfl
theorem ce_callN' {g : FM} {ml : ML} {ρ : DE} {k : D → DE → Option α} : ce (mCallO g none ml) ρ k = cl ml ρ (ce_callN_1 g k) := ce_callN
def ce_callO_2 (j : Nat) (i : Nat) (k : D → DE → Option α) (ρ1 : DE) : D × List D → Option α := fun z => k z.1 (ρ1.set i z.2[j]?)
theorem ce_callO_2_e {j : Nat} {i : Nat} {k : D → DE → Option α} {ρ1 : DE} {z : D × List D} : ce_callO_2 j i k ρ1 z = k z.1 (ρ1.set i z.2[j]?) := rfl
def ce_callO_1 (g : FM) (j : Nat) (i : Nat) (k : D → DE → Option α) : List D → DE → Option α := fun xs ρ1 => bo (g xs) (ce_callO_2 j i k ρ1)
theorem ce_callO_1_e {g : FM} {j : Nat} {i : Nat} {k : D → DE → Option α} {xs : List D} {ρ1 : DE} : ce_callO_1 g j i k xs ρ1 = bo (g xs) (ce_callO_2 j i k ρ1) := rfl
theorem ce_callO' {g : FM} {j : Nat} {i : Nat} {ml : ML} {ρ : DE} {k : D → DE → Option α} : ce (mCallO g (some (j, i)) ml) ρ k = cl ml ρ (ce_callO_1 g j i k) := ce_callO
def ce_T_2 (k : D → DE → Option α) (ρ1 : DE) : Bool → Option α := fun b => k (.bl b) ρ1
theorem ce_T_2_e {k : D → DE → Option α} {ρ1 : DE} {b : Bool} : ce_T_2 k ρ1 b = k (.bl b) ρ1 := rfl
def ce_T_1 (k : D → DE → Option α) : D → DE → Option α := fun x ρ1 => bo (truD x) (ce_T_2 k ρ1)
theorem ce_T_1_e {k : D → DE → Option α} {x : D} {ρ1 : DE} : ce_T_1 k x ρ1 = bo (truD x) (ce_T_2 k ρ1) := rfl
theorem ce_T' {m : M} {ρ : DE} {k : D → DE → Option α} : ce (mTr m) ρ k = ce m ρ (ce_T_1 k) := ce_T
def ce_isT_2 (k : D → DE → Option α) (ρ1 : DE) : Bool → Option α := fun b => k (.bl b) ρ1
theorem ce_isT_2_e {k : D → DE → Option α} {ρ1 : DE} {b : Bool} : ce_isT_2 k ρ1 b = k (.bl b) ρ1 := rfl
def ce_isT_1 (c : String) (k : D → DE → Option α) : D → DE → Option α := fun x ρ1 => bo (isT c x) (ce_isT_2 k ρ1)
theorem ce_isT_1_e {c : String} {k : D → DE → Option α} {x : D} {ρ1 : DE} : ce_isT_1 c k x ρ1 = bo (isT c x) (ce_isT_2 k ρ1) := rfl
theorem ce_isT' {c : String} {m : M} {ρ : DE} {k : D → DE → Option α} : ce (mIsT c m) ρ k = ce m ρ (ce_isT_1 c k) := ce_isT
def ce_not_1 (k : D → DE → Option α) : DE → Option α := fun ρ1 => k (.bl false) ρ1
theorem ce_not_1_e {k : D → DE → Option α} {ρ1 : DE} : ce_not_1 k ρ1 = k (.bl false) ρ1 := rfl
def ce_not_2 (k : D → DE → Option α) : DE → Option α := fun ρ1 => k (.bl true) ρ1
theorem ce_not_2_e {k : D → DE → Option α} {ρ1 : DE} : ce_not_2 k ρ1 = k (.bl true) ρ1 := rfl
theorem ce_not' {m : M} {ρ : DE} {k : D → DE → Option α} : ce (mNot m) ρ k = ct m ρ ((ce_not_1 k)) (ce_not_2 k) := ce_not
def ce_neg_2 (k : D → DE → Option α) (ρ1 : DE) : Int → Option α := fun i => k (.int (-i)) ρ1
theorem ce_neg_2_e {k : D → DE → Option α} {ρ1 : DE} {i : Int} : ce_neg_2 k ρ1 i = k (.int (-i)) ρ1 := rfl
def ce_neg_1 (k : D → DE → Option α) : D → DE → Option α := fun x ρ1 => onI x (ce_neg_2 k ρ1)
theorem ce_neg_1_e {k : D → DE → Option α} {x : D} {ρ1 : DE} : ce_neg_1 k x ρ1 = onI x (ce_neg_2 k ρ1) := rfl
theorem ce_neg' {m : M} {ρ : DE} {k : D → DE → Option α} : ce (mNeg m) ρ k = ce m ρ (ce_neg_1 k) := ce_neg
def ce_and_1 (mb : M) (k : D → DE → Option α) : DE → Option α := fun ρ1 => ce mb ρ1 k
theorem ce_and_1_e {mb : M} {k : D → DE → Option α} {ρ1 : DE} : ce_and_1 mb k ρ1 = ce mb ρ1 k := rfl
def ce_and_2 (k : D → DE → Option α) : DE → Option α := fun ρ1 => k (.bl false) ρ1
theorem ce_and_2_e {k : D → DE → Option α} {ρ1 : DE} : ce_and_2 k ρ1 = k (.bl false) ρ1 := rfl
theorem ce_and' {ma : M} {mb : M} {ρ : DE} {k : D → DE → Option α} : ce (mAnd ma mb) ρ k = ct ma ρ ((ce_and_1 mb k)) (ce_and_2 k) := ce_and
def ce_or_1 (k : D → DE → Option α) : DE → Option α := fun ρ1 => k (.bl true) ρ1
theorem ce_or_1_e {k : D → DE → Option α} {ρ1 : DE} : ce_or_1 k ρ1 = k (.bl true) ρ1 := rfl
def ce_or_2 (mb : M) (k : D → DE → Option α) : DE → Option α := fun ρ1 => ce mb ρ1 k
theorem ce_or_2_e {mb : M} {k : D → DE → Option α} {ρ1 : DE} : ce_or_2 mb k ρ1 = ce mb ρ1 k := rfl
theorem ce_or' {ma : M} {mb : M} {ρ : DE} {k : D → DE → Option α} : ce (mOr ma mb) ρ k = ct ma ρ ((ce_or_1 k)) (ce_or_2 mb k) := ce_or
def ce_ch_5 (k : D → DE → Option α) (ρ3 : DE) : D → Option α := fun v => k v ρ3
theorem ce_ch_5_e {k : D → DE → Option α} {ρ3 : DE} {v : D} : ce_ch_5 k ρ3 v = k v ρ3 := rfl
def ce_ch_4 (f' : D → D → Option D) (k : D → DE → Option α) (y : D) : D → DE → Option α := fun w ρ3 => bo (f' y w) (ce_ch_5 k ρ3)
theorem ce_ch_4_e {f' : D → D → Option D} {k : D → DE → Option α} {y : D} {w : D} {ρ3 : DE} : ce_ch_4 f' k y w ρ3 = bo (f' y w) (ce_ch_5 k ρ3) := rfl
def ce_ch_3 (f' : D → D → Option D) (mc : M) (k : D → DE → Option α) (y : D) (ρ2 : DE) : D → Option α := fun z => tst z (ce mc ρ2 (ce_ch_4 f' k y)) (k (.bl false) ρ2)
theorem ce_ch_3_e {f' : D → D → Option D} {mc : M} {k : D → DE → Option α} {y : D} {ρ2 : DE} {z : D} : ce_ch_3 f' mc k y ρ2 z = tst z (ce mc ρ2 (ce_ch_4 f' k y)) (k (.bl false) ρ2) := rfl
def ce_ch_2 (f : D → D → Option D) (f' : D → D → Option D) (mc : M) (k : D → DE → Option α) (x : D) : D → DE → Option α := fun y ρ2 => bo (f x y) (ce_ch_3 f' mc k y ρ2)
theorem ce_ch_2_e {f : D → D → Option D} {f' : D → D → Option D} {mc : M} {k : D → DE → Option α} {x : D} {y : D} {ρ2 : DE} : ce_ch_2 f f' mc k x y ρ2 = bo (f x y) (ce_ch_3 f' mc k y ρ2) := rfl
def ce_ch_1 (f : D → D → Option D) (f' : D → D → Option D) (mb : M) (mc : M) (k : D → DE → Option α) : D → DE → Option α := fun x ρ1 => ce mb ρ1 (ce_ch_2 f f' mc k x)
theorem ce_ch_1_e {f : D → D → Option D} {f' : D → D → Option D} {mb : M} {mc : M} {k : D → DE → Option α} {x : D} {ρ1 : DE} : ce_ch_1 f f' mb mc k x ρ1 = ce mb ρ1 (ce_ch_2 f f' mc k x) := rfl
theorem ce_ch' {f : D → D → Option D} {f' : D → D → Option D} {ma : M} {mb : M} {mc : M} {ρ : DE} {k : D → DE → Option α} : ce (mCh f f' ma mb mc) ρ k = ce ma ρ (ce_ch_1 f f' mb mc k) := ce_ch
def ce_sl_4 (k : D → DE → Option α) (ρ1 : DE) : D → Option α := fun z => k z ρ1
theorem ce_sl_4_e {k : D → DE → Option α} {ρ1 : DE} {z : D} : ce_sl_4 k ρ1 z = k z ρ1 := rfl
def ce_sl_3 (g : D → Option Int → Option Int → Option D) (k : D → DE → Option α) (x : D) (ρ1 : DE) (l : Option Int) : Option Int → Option α := fun h => bo (g x l h) (ce_sl_4 k ρ1)
theorem ce_sl_3_e {g : D → Option Int → Option Int → Option D} {k : D → DE → Option α} {x : D} {ρ1 : DE} {l : Option Int} {h : Option Int} : ce_sl_3 g k x ρ1 l h = bo (g x l h) (ce_sl_4 k ρ1) := rfl
def ce_sl_2 (mhi : MO) (g : D → Option Int → Option Int → Option D) (k : D → DE → Option α) (x : D) (ρ1 : DE) : Option Int → Option α := fun l => co mhi ρ1 (ce_sl_3 g k x ρ1 l)
theorem ce_sl_2_e {mhi : MO} {g : D → Option Int → Option Int → Option D} {k : D → DE → Option α} {x : D} {ρ1 : DE} {l : Option Int} : ce_sl_2 mhi g k x ρ1 l = co mhi ρ1 (ce_sl_3 g k x ρ1 l) := rfl
def ce_sl_1 (mlo : MO) (mhi : MO) (g : D → Option Int → Option Int → Option D) (k : D → DE → Option α) : D → DE → Option α := fun x ρ1 => co mlo ρ1 (ce_sl_2 mhi g k x ρ1)
theorem ce_sl_1_e {mlo : MO} {mhi : MO} {g : D → Option Int → Option Int → Option D} {k : D → DE → Option α} {x : D} {ρ1 : DE} : ce_sl_1 mlo mhi g k x ρ1 = co mlo ρ1 (ce_sl_2 mhi g k x ρ1) := rfl
theorem ce_sl' {ma : M} {mlo : MO} {mhi : MO} {g : D → Option Int → Option Int → Option D} {ρ : DE} {k : D → DE → Option α} : ce (mSl ma mlo mhi g) ρ k = ce ma ρ (ce_sl_1 mlo mhi g k) := ce_sl
def co_s_2 (ko : Option Int → Option α) : Int → Option α := fun i => ko (some i)
theorem co_s_2_e {ko : Option Int → Option α} {i : Int} : co_s_2 ko i = ko (some i) := rfl
def co_s_1 (ko : Option Int → Option α) : D → DE → Option α := fun x _ => onI x (co_s_2 ko)
theorem co_s_1_e {ko : Option Int → Option α} {x : D} {u1 : DE} : co_s_1 ko x u1 = onI x (co_s_2 ko) := rfl
theorem co_s' {m : M} {ρ : DE} {ko : Option Int → Option α} : co (oSome m) ρ ko = ce m ρ (co_s_1 ko) := co_s
def ce_mk_2 (k : D → DE → Option α) (ρ1 : DE) : D → Option α := fun z => k z ρ1
theorem ce_mk_2_e {k : D → DE → Option α} {ρ1 : DE} {z : D} : ce_mk_2 k ρ1 z = k z ρ1 := rfl
def ce_mk_1 (kk : Mk) (k : D → DE → Option α) : List D → DE → Option α := fun xs ρ1 => match xs with | [x] => bo (dMk kk x) (ce_mk_2 k ρ1) | _ => none
theorem ce_mk_1_e {kk : Mk} {k : D → DE → Option α} {xs : List D} {ρ1 : DE} : ce_mk_1 kk k xs ρ1 = match xs with | [x] => bo (dMk kk x) (ce_mk_2 k ρ1) | _ => none := rfl
theorem ce_mk' {kk : Mk} {ml : ML} {ρ : DE} {k : D → DE → Option α} : ce (mMk kk ml) ρ k = cl ml ρ (ce_mk_1 kk k) := ce_mk
def ce_mut_6 (i : Nat) (k : D → DE → Option α) (ρ1 : DE) : D × List D → Option α := fun r => k r.1 (ρ1.set i (some (.lst r.2)))
theorem ce_mut_6_e {i : Nat} {k : D → DE → Option α} {ρ1 : DE} {r : D × List D} : ce_mut_6 i k ρ1 r = k r.1 (ρ1.set i (some (.lst r.2))) := rfl
def ce_mut_5 (i : Nat) (g : List D → List D → Option (D × List D)) (k : D → DE → Option α) (as : List D) (ρ1 : DE) : List D → Option α := fun ds => bo (g ds as) (ce_mut_6 i k ρ1)
theorem ce_mut_5_e {i : Nat} {g : List D → List D → Option (D × List D)} {k : D → DE → Option α} {as : List D} {ρ1 : DE} {ds : List D} : ce_mut_5 i g k as ρ1 ds = bo (g ds as) (ce_mut_6 i k ρ1) := rfl
def ce_mut_4 (i : Nat) (g : List D → List D → Option (D × List D)) (k : D → DE → Option α) (as : List D) (ρ1 : DE) : D → Option α := fun y => onL y (ce_mut_5 i g k as ρ1)
theorem ce_mut_4_e {i : Nat} {g : List D → List D → Option (D × List D)} {k : D → DE → Option α} {as : List D} {ρ1 : DE} {y : D} : ce_mut_4 i g k as ρ1 y = onL y (ce_mut_5 i g k as ρ1) := rfl
def ce_mut_3 (i : Nat) (g : List D → List D → Option (D × List D)) (k : D → DE → Option α) : List D → DE → Option α := fun as ρ1 => cv ρ1[i]? (ce_mut_4 i g k as ρ1)
theorem ce_mut_3_e {i : Nat} {g : List D → List D → Option (D × List D)} {k : D → DE → Option α} {as : List D} {ρ1 : DE} : ce_mut_3 i g k as ρ1 = cv ρ1[i]? (ce_mut_4 i g k as ρ1) := rfl
def ce_mut_2 (i : Nat) (g : List D → List D → Option (D × List D)) (ml : ML) (ρ : DE) (k : D → DE → Option α) : List D → Option α := fun _ => cl ml ρ (ce_mut_3 i g k)
theorem ce_mut_2_e {i : Nat} {g : List D → List D → Option (D × List D)} {ml : ML} {ρ : DE} {k : D → DE → Option α} {u0 : List D} : ce_mut_2 i g ml ρ k u0 = cl ml ρ (ce_mut_3 i g k) := rfl
def ce_mut_1 (i : Nat) (g : List D → List D → Option (D × List D)) (ml : ML) (ρ : DE) (k : D → DE → Option α) : D → Option α := fun x => onL x (ce_mut_2 i g ml ρ k)
theorem ce_mut_1_e {i : Nat} {g : List D → List D → Option (D × List D)} {ml : ML} {ρ : DE} {k : D → DE → Option α} {x : D} : ce_mut_1 i g ml ρ k x = onL x (ce_mut_2 i g ml ρ k) := rfl
theorem ce_mut' {i : Nat} {g : List D → List D → Option (D × List D)} {ml : ML} {ρ : DE} {k : D → DE → Option α} : ce (mMut i g ml) ρ k = cv ρ[i]? (ce_mut_1 i g ml ρ k) := ce_mut
def ce_get2_4 (k : D → DE → Option α) (ρ3 : DE) : D → Option α := fun w => k w ρ3
theorem ce_get2_4_e {k : D → DE → Option α} {ρ3 : DE} {w : D} : ce_get2_4 k ρ3 w = k w ρ3 := rfl
def ce_get2_3 (k : D → DE → Option α) (x : D) (y : D) : D → DE → Option α := fun z ρ3 => match x with | .dic q xs => bo (dGet2 q xs y z) (ce_get2_4 k ρ3) | _ => none
theorem ce_get2_3_e {k : D → DE → Option α} {x : D} {y : D} {z : D} {ρ3 : DE} : ce_get2_3 k x y z ρ3 = match x with | .dic q xs => bo (dGet2 q xs y z) (ce_get2_4 k ρ3) | _ => none := rfl
def ce_get2_2 (mb : M) (k : D → DE → Option α) (x : D) : D → DE → Option α := fun y ρ2 => ce mb ρ2 (ce_get2_3 k x y)
theorem ce_get2_2_e {mb : M} {k : D → DE → Option α} {x : D} {y : D} {ρ2 : DE} : ce_get2_2 mb k x y ρ2 = ce mb ρ2 (ce_get2_3 k x y) := rfl
def ce_get2_1 (ma : M) (mb : M) (k : D → DE → Option α) : D → DE → Option α := fun x ρ1 => ce ma ρ1 (ce_get2_2 mb k x)
theorem ce_get2_1_e {ma : M} {mb : M} {k : D → DE → Option α} {x : D} {ρ1 : DE} : ce_get2_1 ma mb k x ρ1 = ce ma ρ1 (ce_get2_2 mb k x) := rfl
theorem ce_get2' {md : M} {ma : M} {mb : M} {ρ : DE} {k : D → DE → Option α} : ce (mGet2 md ma mb) ρ k = ce md ρ (ce_get2_1 ma mb k) := ce_get2
def ce_disp_2 (ρ : DE) (k : D → DE → Option α) : List Key × List D → Option α := fun r => if r.1.Nodup ∧ r.2.length ≤ 15 then k (.dic (.K r.1) r.2) ρ else none
theorem ce_disp_2_e {ρ : DE} {k : D → DE → Option α} {r : List Key × List D} : ce_disp_2 ρ k r = if r.1.Nodup ∧ r.2.length ≤ 15 then k (.dic (.K r.1) r.2) ρ else none := rfl
def ce_disp_1 (ρ : DE) (k : D → DE → Option α) : List D → List D → Option α := fun ks xs => bo (dispK ks xs) (ce_disp_2 ρ k)
theorem ce_disp_1_e {ρ : DE} {k : D → DE → Option α} {ks : List D} {xs : List D} : ce_disp_1 ρ k ks xs = bo (dispK ks xs) (ce_disp_2 ρ k) := rfl
theorem ce_disp' {m : MDs} {ρ : DE} {k : D → DE → Option α} : ce (mDisp m) ρ k = cd m ρ (ce_disp_1 ρ k) := ce_disp
def cd_c_3 (k : List D → List D → Option α) (x : D) (y : D) : List D → List D → Option α := fun ks vs => k (x :: ks) (y :: vs)
theorem cd_c_3_e {k : List D → List D → Option α} {x : D} {y : D} {ks : List D} {vs : List D} : cd_c_3 k x y ks vs = k (x :: ks) (y :: vs) := rfl
def cd_c_2 (m : MDs) (ρ : DE) (k : List D → List D → Option α) (x : D) : D → DE → Option α := fun y _ => cd m ρ (cd_c_3 k x y)
theorem cd_c_2_e {m : MDs} {ρ : DE} {k : List D → List D → Option α} {x : D} {y : D} {u1 : DE} : cd_c_2 m ρ k x y u1 = cd m ρ (cd_c_3 k x y) := rfl
def cd_c_1 (mb : M) (m : MDs) (ρ : DE) (k : List D → List D → Option α) : D → DE → Option α := fun x _ => ce mb ρ (cd_c_2 m ρ k x)
theorem cd_c_1_e {mb : M} {m : MDs} {ρ : DE} {k : List D → List D → Option α} {x : D} {u1 : DE} : cd_c_1 mb m ρ k x u1 = ce mb ρ (cd_c_2 m ρ k x) := rfl
theorem cd_c' {ma : M} {mb : M} {m : MDs} {ρ : DE} {k : List D → List D → Option α} : cd (dsCons ma mb m) ρ k = ce ma ρ (cd_c_1 mb m ρ k) := cd_c
def ce_Fl_2 (k : D → DE → Option α) (ρ1 : DE) : List D → Option α := fun ds => if noLL ds = true then k (.lst ds) ρ1 else none
theorem ce_Fl_2_e {k : D → DE → Option α} {ρ1 : DE} {ds : List D} : ce_Fl_2 k ρ1 ds = if noLL ds = true then k (.lst ds) ρ1 else none := rfl
def ce_Fl_1 (k : D → DE → Option α) : D → DE → Option α := fun x ρ1 => onL x (ce_Fl_2 k ρ1)
theorem ce_Fl_1_e {k : D → DE → Option α} {x : D} {ρ1 : DE} : ce_Fl_1 k x ρ1 = onL x (ce_Fl_2 k ρ1) := rfl
theorem ce_Fl' {m : M} {ρ : DE} {k : D → DE → Option α} : ce (mFl m) ρ k = ce m ρ (ce_Fl_1 k) := ce_Fl
def ce_lrg_2 (k : D → DE → Option α) (ρ1 : DE) : Int → Option α := fun n => if lim62 n = true ∧ n.toNat ≤ 16777216 then k (.lst (rngD 0 n.toNat)) ρ1 else none
theorem ce_lrg_2_e {k : D → DE → Option α} {ρ1 : DE} {n : Int} : ce_lrg_2 k ρ1 n = if lim62 n = true ∧ n.toNat ≤ 16777216 then k (.lst (rngD 0 n.toNat)) ρ1 else none := rfl
def ce_lrg_1 (k : D → DE → Option α) : D → DE → Option α := fun x ρ1 => onI x (ce_lrg_2 k ρ1)
theorem ce_lrg_1_e {k : D → DE → Option α} {x : D} {ρ1 : DE} : ce_lrg_1 k x ρ1 = onI x (ce_lrg_2 k ρ1) := rfl
theorem ce_lrg' {m : M} {ρ : DE} {k : D → DE → Option α} : ce (mLRg m) ρ k = ce m ρ (ce_lrg_1 k) := ce_lrg
def ce_srtD_1 (k : D → DE → Option α) : D → DE → Option α := fun x ρ1 => match x with | .dic (.K ks) _ => if alikeK ks = true ∧ ks.length ≤ 16777216 then k (.lst ((srtK ks).map kD)) ρ1 else none | _ => none
theorem ce_srtD_1_e {k : D → DE → Option α} {x : D} {ρ1 : DE} : ce_srtD_1 k x ρ1 = match x with | .dic (.K ks) _ => if alikeK ks = true ∧ ks.length ≤ 16777216 then k (.lst ((srtK ks).map kD)) ρ1 else none | _ => none := rfl
theorem ce_srtD' {m : M} {ρ : DE} {k : D → DE → Option α} : ce (mSrtD m) ρ k = ce m ρ (ce_srtD_1 k) := ce_srtD
def ce_ch3_7 (k : D → DE → Option α) (ρ4 : DE) : D → Option α := fun z3 => k z3 ρ4
theorem ce_ch3_7_e {k : D → DE → Option α} {ρ4 : DE} {z3 : D} : ce_ch3_7 k ρ4 z3 = k z3 ρ4 := rfl
def ce_ch3_6 (f'' : D → D → Option D) (k : D → DE → Option α) (w : D) : D → DE → Option α := fun v ρ4 => bo (f'' w v) (ce_ch3_7 k ρ4)
theorem ce_ch3_6_e {f'' : D → D → Option D} {k : D → DE → Option α} {w : D} {v : D} {ρ4 : DE} : ce_ch3_6 f'' k w v ρ4 = bo (f'' w v) (ce_ch3_7 k ρ4) := rfl
def ce_ch3_5 (f'' : D → D → Option D) (md : M) (k : D → DE → Option α) (w : D) (ρ3 : DE) : D → Option α := fun z2 => tst z2 (ce md ρ3 (ce_ch3_6 f'' k w)) (k (.bl false) ρ3)
theorem ce_ch3_5_e {f'' : D → D → Option D} {md : M} {k : D → DE → Option α} {w : D} {ρ3 : DE} {z2 : D} : ce_ch3_5 f'' md k w ρ3 z2 = tst z2 (ce md ρ3 (ce_ch3_6 f'' k w)) (k (.bl false) ρ3) := rfl
def ce_ch3_4 (f' : D → D → Option D) (f'' : D → D → Option D) (md : M) (k : D → DE → Option α) (y : D) : D → DE → Option α := fun w ρ3 => bo (f' y w) (ce_ch3_5 f'' md k w ρ3)
theorem ce_ch3_4_e {f' : D → D → Option D} {f'' : D → D → Option D} {md : M} {k : D → DE → Option α} {y : D} {w : D} {ρ3 : DE} : ce_ch3_4 f' f'' md k y w ρ3 = bo (f' y w) (ce_ch3_5 f'' md k w ρ3) := rfl
def ce_ch3_3 (f' : D → D → Option D) (f'' : D → D → Option D) (mc : M) (md : M) (k : D → DE → Option α) (y : D) (ρ2 : DE) : D → Option α := fun z => tst z (ce mc ρ2 (ce_ch3_4 f' f'' md k y)) (k (.bl false) ρ2)
theorem ce_ch3_3_e {f' : D → D → Option D} {f'' : D → D → Option D} {mc : M} {md : M} {k : D → DE → Option α} {y : D} {ρ2 : DE} {z : D} : ce_ch3_3 f' f'' mc md k y ρ2 z = tst z (ce mc ρ2 (ce_ch3_4 f' f'' md k y)) (k (.bl false) ρ2) := rfl
def ce_ch3_2 (f : D → D → Option D) (f' : D → D → Option D) (f'' : D → D → Option D) (mc : M) (md : M) (k : D → DE → Option α) (x : D) : D → DE → Option α := fun y ρ2 => bo (f x y) (ce_ch3_3 f' f'' mc md k y ρ2)
theorem ce_ch3_2_e {f : D → D → Option D} {f' : D → D → Option D} {f'' : D → D → Option D} {mc : M} {md : M} {k : D → DE → Option α} {x : D} {y : D} {ρ2 : DE} : ce_ch3_2 f f' f'' mc md k x y ρ2 = bo (f x y) (ce_ch3_3 f' f'' mc md k y ρ2) := rfl
def ce_ch3_1 (f : D → D → Option D) (f' : D → D → Option D) (f'' : D → D → Option D) (mb : M) (mc : M) (md : M) (k : D → DE → Option α) : D → DE → Option α := fun x ρ1 => ce mb ρ1 (ce_ch3_2 f f' f'' mc md k x)
theorem ce_ch3_1_e {f : D → D → Option D} {f' : D → D → Option D} {f'' : D → D → Option D} {mb : M} {mc : M} {md : M} {k : D → DE → Option α} {x : D} {ρ1 : DE} : ce_ch3_1 f f' f'' mb mc md k x ρ1 = ce mb ρ1 (ce_ch3_2 f f' f'' mc md k x) := rfl
theorem ce_ch3' {f : D → D → Option D} {f' : D → D → Option D} {f'' : D → D → Option D} {ma : M} {mb : M} {mc : M} {md : M} {ρ : DE} {k : D → DE → Option α} : ce (mCh3 f f' f'' ma mb mc md) ρ k = ce ma ρ (ce_ch3_1 f f' f'' mb mc md k) := ce_ch3
def cl_seq_2 (kl : List D → DE → Option α) (ρ1 : DE) : List D → Option α := fun ds => kl ds ρ1
theorem cl_seq_2_e {kl : List D → DE → Option α} {ρ1 : DE} {ds : List D} : cl_seq_2 kl ρ1 ds = kl ds ρ1 := rfl
def cl_seq_1 (kl : List D → DE → Option α) : D → DE → Option α := fun x ρ1 => bo (seqOf x) (cl_seq_2 kl ρ1)
theorem cl_seq_1_e {kl : List D → DE → Option α} {x : D} {ρ1 : DE} : cl_seq_1 kl x ρ1 = bo (seqOf x) (cl_seq_2 kl ρ1) := rfl
theorem cl_seq' {m : M} {ρ : DE} {kl : List D → DE → Option α} : cl (mSeq m) ρ kl = ce m ρ (cl_seq_1 kl) := cl_seq
def cl_rng1_1 (kl : List D → DE → Option α) : List D → DE → Option α := fun xs ρ1 => match xs with | [.int j] => if lim62 j = true then kl (rngD 0 j.toNat) ρ1 else none | _ => none
theorem cl_rng1_1_e {kl : List D → DE → Option α} {xs : List D} {ρ1 : DE} : cl_rng1_1 kl xs ρ1 = match xs with | [.int j] => if lim62 j = true then kl (rngD 0 j.toNat) ρ1 else none | _ => none := rfl
theorem cl_rng1' {ml : ML} {ρ : DE} {kl : List D → DE → Option α} : cl (mRng1 ml) ρ kl = cl ml ρ (cl_rng1_1 kl) := cl_rng1
def cl_rng2_1 (kl : List D → DE → Option α) : List D → DE → Option α := fun xs ρ1 => match xs with | [.int i, .int j] => if lim62 i = true ∧ lim62 j = true then kl (rngD i (j - i).toNat) ρ1 else none | _ => none
theorem cl_rng2_1_e {kl : List D → DE → Option α} {xs : List D} {ρ1 : DE} : cl_rng2_1 kl xs ρ1 = match xs with | [.int i, .int j] => if lim62 i = true ∧ lim62 j = true then kl (rngD i (j - i).toNat) ρ1 else none | _ => none := rfl
theorem cl_rng2' {ml : ML} {ρ : DE} {kl : List D → DE → Option α} : cl (mRng2 ml) ρ kl = cl ml ρ (cl_rng2_1 kl) := cl_rng2
def cl_enum_1 (kl : List D → DE → Option α) : List D → DE → Option α := fun xs ρ1 => match xs with | [.lst ds] => kl (enumD ds) ρ1 | _ => none
theorem cl_enum_1_e {kl : List D → DE → Option α} {xs : List D} {ρ1 : DE} : cl_enum_1 kl xs ρ1 = match xs with | [.lst ds] => kl (enumD ds) ρ1 | _ => none := rfl
theorem cl_enum' {ml : ML} {ρ : DE} {kl : List D → DE → Option α} : cl (mEnum ml) ρ kl = cl ml ρ (cl_enum_1 kl) := cl_enum
def cl_zip_1 (kl : List D → DE → Option α) : List D → DE → Option α := fun xs ρ1 => match xs with | [.lst ds, .lst es] => kl (zipD ds es) ρ1 | [.tup ds, .tup es] => kl (zipD ds es) ρ1 | _ => none
theorem cl_zip_1_e {kl : List D → DE → Option α} {xs : List D} {ρ1 : DE} : cl_zip_1 kl xs ρ1 = match xs with | [.lst ds, .lst es] => kl (zipD ds es) ρ1 | [.tup ds, .tup es] => kl (zipD ds es) ρ1 | _ => none := rfl
theorem cl_zip' {ml : ML} {ρ : DE} {kl : List D → DE → Option α} : cl (mZip ml) ρ kl = cl ml ρ (cl_zip_1 kl) := cl_zip
def cl_keys_1 (ρ : DE) (kl : List D → DE → Option α) : D → Option α := fun x => match x with | .dic q _ => kl q.keys ρ | _ => none
theorem cl_keys_1_e {ρ : DE} {kl : List D → DE → Option α} {x : D} : cl_keys_1 ρ kl x = match x with | .dic q _ => kl q.keys ρ | _ => none := rfl
theorem cl_keys' {i : Nat} {ρ : DE} {kl : List D → DE → Option α} : cl (mKeys i) ρ kl = cv ρ[i]? (cl_keys_1 ρ kl) := cl_keys
theorem ct_not' {m : M} {ρ : DE} {a : DE → Option α} {b : DE → Option α} : ct (mNot m) ρ a b = ct m ρ b a := ct_not
def ct_and_1 (mb : M) (a : DE → Option α) (b : DE → Option α) : DE → Option α := fun ρ1 => ct mb ρ1 a b
theorem ct_and_1_e {mb : M} {a : DE → Option α} {b : DE → Option α} {ρ1 : DE} : ct_and_1 mb a b ρ1 = ct mb ρ1 a b := rfl
theorem ct_and' {ma : M} {mb : M} {ρ : DE} {a : DE → Option α} {b : DE → Option α} : ct (mAnd ma mb) ρ a b = ct ma ρ ((ct_and_1 mb a b)) b := ct_and
def ct_or_1 (mb : M) (a : DE → Option α) (b : DE → Option α) : DE → Option α := fun ρ1 => ct mb ρ1 a b
theorem ct_or_1_e {mb : M} {a : DE → Option α} {b : DE → Option α} {ρ1 : DE} : ct_or_1 mb a b ρ1 = ct mb ρ1 a b := rfl
theorem ct_or' {ma : M} {mb : M} {ρ : DE} {a : DE → Option α} {b : DE → Option α} : ct (mOr ma mb) ρ a b = ct ma ρ a ((ct_or_1 mb a b)) := ct_or
def ct_T_2 (a : DE → Option α) (b : DE → Option α) (ρ1 : DE) : Bool → Option α := fun q => tst (.bl q) (a ρ1) (b ρ1)
theorem ct_T_2_e {a : DE → Option α} {b : DE → Option α} {ρ1 : DE} {q : Bool} : ct_T_2 a b ρ1 q = tst (.bl q) (a ρ1) (b ρ1) := rfl
def ct_T_1 (a : DE → Option α) (b : DE → Option α) : D → DE → Option α := fun x ρ1 => bo (truD x) (ct_T_2 a b ρ1)
theorem ct_T_1_e {a : DE → Option α} {b : DE → Option α} {x : D} {ρ1 : DE} : ct_T_1 a b x ρ1 = bo (truD x) (ct_T_2 a b ρ1) := rfl
theorem ct_T' {m : M} {ρ : DE} {a : DE → Option α} {b : DE → Option α} : ct (mTr m) ρ a b = ce m ρ (ct_T_1 a b) := ct_T
def ct_2_1 (a : DE → Option α) (b : DE → Option α) : D → DE → Option α := fun x ρ1 => tst x (a ρ1) (b ρ1)
theorem ct_2_1_e {a : DE → Option α} {b : DE → Option α} {x : D} {ρ1 : DE} : ct_2_1 a b x ρ1 = tst x (a ρ1) (b ρ1) := rfl
theorem ct_2' {f : D → D → Option D} {ma : M} {mb : M} {ρ : DE} {a : DE → Option α} {b : DE → Option α} : ct (m2 f ma mb) ρ a b = ce (m2 f ma mb) ρ (ct_2_1 a b) := ct_2
def ct_ch_1 (a : DE → Option α) (b : DE → Option α) : D → DE → Option α := fun x ρ1 => tst x (a ρ1) (b ρ1)
theorem ct_ch_1_e {a : DE → Option α} {b : DE → Option α} {x : D} {ρ1 : DE} : ct_ch_1 a b x ρ1 = tst x (a ρ1) (b ρ1) := rfl
theorem ct_ch' {f : D → D → Option D} {f' : D → D → Option D} {ma : M} {mb : M} {mc : M} {ρ : DE} {a : DE → Option α} {b : DE → Option α} : ct (mCh f f' ma mb mc) ρ a b = ce (mCh f f' ma mb mc) ρ (ct_ch_1 a b) := ct_ch
def ct_v_1 (a : DE → Option α) (b : DE → Option α) : D → DE → Option α := fun x ρ1 => tst x (a ρ1) (b ρ1)
theorem ct_v_1_e {a : DE → Option α} {b : DE → Option α} {x : D} {ρ1 : DE} : ct_v_1 a b x ρ1 = tst x (a ρ1) (b ρ1) := rfl
theorem ct_v' {i : Nat} {ρ : DE} {a : DE → Option α} {b : DE → Option α} : ct (mV i) ρ a b = ce (mV i) ρ (ct_v_1 a b) := ct_v
def ct_isT_1 (a : DE → Option α) (b : DE → Option α) : D → DE → Option α := fun x ρ1 => tst x (a ρ1) (b ρ1)
theorem ct_isT_1_e {a : DE → Option α} {b : DE → Option α} {x : D} {ρ1 : DE} : ct_isT_1 a b x ρ1 = tst x (a ρ1) (b ρ1) := rfl
theorem ct_isT' {c : String} {m : M} {ρ : DE} {a : DE → Option α} {b : DE → Option α} : ct (mIsT c m) ρ a b = ce (mIsT c m) ρ (ct_isT_1 a b) := ct_isT
def ct_A_1 (a : DE → Option α) (b : DE → Option α) : D → DE → Option α := fun x ρ1 => tst x (a ρ1) (b ρ1)
theorem ct_A_1_e {a : DE → Option α} {b : DE → Option α} {x : D} {ρ1 : DE} : ct_A_1 a b x ρ1 = tst x (a ρ1) (b ρ1) := rfl
theorem ct_A' {m : M} {ρ : DE} {a : DE → Option α} {b : DE → Option α} : ct (mA m) ρ a b = ce (mA m) ρ (ct_A_1 a b) := ct_A
def ct_cl_1 (a : DE → Option α) (b : DE → Option α) : D → DE → Option α := fun x ρ1 => tst x (a ρ1) (b ρ1)
theorem ct_cl_1_e {a : DE → Option α} {b : DE → Option α} {x : D} {ρ1 : DE} : ct_cl_1 a b x ρ1 = tst x (a ρ1) (b ρ1) := rfl
theorem ct_cl' {ml : ML} {ρ : DE} {a : DE → Option α} {b : DE → Option α} {g : FM} : ct (mCall g ml) ρ a b = ce (mCall g ml) ρ (ct_cl_1 a b) := ct_cl
def ct_clO_1 (a : DE → Option α) (b : DE → Option α) : D → DE → Option α := fun x ρ1 => tst x (a ρ1) (b ρ1)
theorem ct_clO_1_e {a : DE → Option α} {b : DE → Option α} {x : D} {ρ1 : DE} : ct_clO_1 a b x ρ1 = tst x (a ρ1) (b ρ1) := rfl
theorem ct_clO' {ml : ML} {ρ : DE} {a : DE → Option α} {b : DE → Option α} {g : FM} {io : Option (Nat × Nat)} : ct (mCallO g io ml) ρ a b = ce (mCallO g io ml) ρ (ct_clO_1 a b) := ct_clO
def ct_B_1 (a : DE → Option α) (b : DE → Option α) : D → DE → Option α := fun x ρ1 => tst x (a ρ1) (b ρ1)
theorem ct_B_1_e {a : DE → Option α} {b : DE → Option α} {x : D} {ρ1 : DE} : ct_B_1 a b x ρ1 = tst x (a ρ1) (b ρ1) := rfl
theorem ct_B' {ml : ML} {ρ : DE} {a : DE → Option α} {b : DE → Option α} {g : List D → Option D} : ct (mB g ml) ρ a b = ce (mB g ml) ρ (ct_B_1 a b) := ct_B
def cs_seq_1 (s2 : SM) (kn : DE → Option α) (kr : D → DE → Option α) : DE → Option α := fun ρ1 => cs s2 ρ1 kn kr
theorem cs_seq_1_e {s2 : SM} {kn : DE → Option α} {kr : D → DE → Option α} {ρ1 : DE} : cs_seq_1 s2 kn kr ρ1 = cs s2 ρ1 kn kr := rfl
theorem cs_seq' {s1 : SM} {s2 : SM} {ρ : DE} {kn : DE → Option α} {kr : D → DE → Option α} : cs (sSeq s1 s2) ρ kn kr = cs s1 ρ ((cs_seq_1 s2 kn kr)) kr := cs_seq
def cs_if_1 (s1 : SM) (kn : DE → Option α) (kr : D → DE → Option α) : DE → Option α := fun ρ1 => cs s1 ρ1 kn kr
theorem cs_if_1_e {s1 : SM} {kn : DE → Option α} {kr : D → DE → Option α} {ρ1 : DE} : cs_if_1 s1 kn kr ρ1 = cs s1 ρ1 kn kr := rfl
def cs_if_2 (s2 : SM) (kn : DE → Option α) (kr : D → DE → Option α) : DE → Option α := fun ρ1 => cs s2 ρ1 kn kr
theorem cs_if_2_e {s2 : SM} {kn : DE → Option α} {kr : D → DE → Option α} {ρ1 : DE} : cs_if_2 s2 kn kr ρ1 = cs s2 ρ1 kn kr := rfl
theorem cs_if' {m : M} {s1 : SM} {s2 : SM} {ρ : DE} {kn : DE → Option α} {kr : D → DE → Option α} : cs (sIf m s1 s2) ρ kn kr = ct m ρ ((cs_if_1 s1 kn kr)) (cs_if_2 s2 kn kr) := cs_if
def cs_asg_1 (i : Nat) (kn : DE → Option α) : D → DE → Option α := fun x ρ1 => kn (ρ1.set i (some x))
theorem cs_asg_1_e {i : Nat} {kn : DE → Option α} {x : D} {ρ1 : DE} : cs_asg_1 i kn x ρ1 = kn (ρ1.set i (some x)) := rfl
theorem cs_asg' {i : Nat} {m : M} {ρ : DE} {kn : DE → Option α} {kr : D → DE → Option α} : cs (sAsg i m) ρ kn kr = ce m ρ (cs_asg_1 i kn) := cs_asg
def cs_exp_1 (kn : DE → Option α) : D → DE → Option α := fun x ρ1 => kn ρ1
theorem cs_exp_1_e {kn : DE → Option α} {x : D} {ρ1 : DE} : cs_exp_1 kn x ρ1 = kn ρ1 := rfl
theorem cs_exp' {m : M} {ρ : DE} {kn : DE → Option α} {kr : D → DE → Option α} : cs (sExp m) ρ kn kr = ce m ρ (cs_exp_1 kn) := cs_exp
def cs_tgt_1 (mg : MG) (kn : DE → Option α) : D → DE → Option α := fun x ρ1 => bo (mg x ρ1) kn
theorem cs_tgt_1_e {mg : MG} {kn : DE → Option α} {x : D} {ρ1 : DE} : cs_tgt_1 mg kn x ρ1 = bo (mg x ρ1) kn := rfl
theorem cs_tgt' {m : M} {mg : MG} {ρ : DE} {kn : DE → Option α} {kr : D → DE → Option α} : cs (sTgt m mg) ρ kn kr = ce m ρ (cs_tgt_1 mg kn) := cs_tgt
def cs_par_1 (i : Nat) (j : Nat) (kn : DE → Option α) : List D → DE → Option α := fun xs ρ1 => match xs with | [d1, d2] => kn ((ρ1.set i (some d1)).set j (some d2)) | _ => none
theorem cs_par_1_e {i : Nat} {j : Nat} {kn : DE → Option α} {xs : List D} {ρ1 : DE} : cs_par_1 i j kn xs ρ1 = match xs with | [d1, d2] => kn ((ρ1.set i (some d1)).set j (some d2)) | _ => none := rfl
theorem cs_par' {i : Nat} {j : Nat} {ml : ML} {ρ : DE} {kn : DE → Option α} {kr : D → DE → Option α} : cs (sPar i j ml) ρ kn kr = cl ml ρ (cs_par_1 i j kn) := cs_par
def cs_app_5 (i : Nat) (kn : DE → Option α) (y : D) (ρ1 : DE) : List D → Option α := fun ds => if ds.length < 16777216 then kn (ρ1.set i (some (.lst (ds ++ [y])))) else none
theorem cs_app_5_e {i : Nat} {kn : DE → Option α} {y : D} {ρ1 : DE} {ds : List D} : cs_app_5 i kn y ρ1 ds = if ds.length < 16777216 then kn (ρ1.set i (some (.lst (ds ++ [y])))) else none := rfl
def cs_app_4 (i : Nat) (kn : DE → Option α) (y : D) (ρ1 : DE) : D → Option α := fun z => onL z (cs_app_5 i kn y ρ1)
theorem cs_app_4_e {i : Nat} {kn : DE → Option α} {y : D} {ρ1 : DE} {z : D} : cs_app_4 i kn y ρ1 z = onL z (cs_app_5 i kn y ρ1) := rfl
def cs_app_3 (i : Nat) (kn : DE → Option α) : D → DE → Option α := fun y ρ1 => cv ρ1[i]? (cs_app_4 i kn y ρ1)
theorem cs_app_3_e {i : Nat} {kn : DE → Option α} {y : D} {ρ1 : DE} : cs_app_3 i kn y ρ1 = cv ρ1[i]? (cs_app_4 i kn y ρ1) := rfl
def cs_app_2 (i : Nat) (m : M) (ρ : DE) (kn : DE → Option α) : List D → Option α := fun _ => ce m ρ (cs_app_3 i kn)
theorem cs_app_2_e {i : Nat} {m : M} {ρ : DE} {kn : DE → Option α} {u0 : List D} : cs_app_2 i m ρ kn u0 = ce m ρ (cs_app_3 i kn) := rfl
def cs_app_1 (i : Nat) (m : M) (ρ : DE) (kn : DE → Option α) : D → Option α := fun x => onL x (cs_app_2 i m ρ kn)
theorem cs_app_1_e {i : Nat} {m : M} {ρ : DE} {kn : DE → Option α} {x : D} : cs_app_1 i m ρ kn x = onL x (cs_app_2 i m ρ kn) := rfl
theorem cs_app' {i : Nat} {m : M} {ρ : DE} {kn : DE → Option α} {kr : D → DE → Option α} : cs (sApp i m) ρ kn kr = cv ρ[i]? (cs_app_1 i m ρ kn) := cs_app
def cs_rev_2 (i : Nat) (ρ : DE) (kn : DE → Option α) : List D → Option α := fun ds => kn (ρ.set i (some (.lst ds.reverse)))
theorem cs_rev_2_e {i : Nat} {ρ : DE} {kn : DE → Option α} {ds : List D} : cs_rev_2 i ρ kn ds = kn (ρ.set i (some (.lst ds.reverse))) := rfl
def cs_rev_1 (i : Nat) (ρ : DE) (kn : DE → Option α) : D → Option α := fun x => onL x (cs_rev_2 i ρ kn)
theorem cs_rev_1_e {i : Nat} {ρ : DE} {kn : DE → Option α} {x : D} : cs_rev_1 i ρ kn x = onL x (cs_rev_2 i ρ kn) := rfl
theorem cs_rev' {i : Nat} {ρ : DE} {kn : DE → Option α} {kr : D → DE → Option α} : cs (sRev i) ρ kn kr = cv ρ[i]? (cs_rev_1 i ρ kn) := cs_rev
def cs_set_6 (i : Nat) (kn : DE → Option α) (x : D) (ds : List D) (ρ2 : DE) : Nat → Option α := fun j => kn (ρ2.set i (some (.lst (ds.set j x))))
theorem cs_set_6_e {i : Nat} {kn : DE → Option α} {x : D} {ds : List D} {ρ2 : DE} {j : Nat} : cs_set_6 i kn x ds ρ2 j = kn (ρ2.set i (some (.lst (ds.set j x)))) := rfl
def cs_set_5 (i : Nat) (kn : DE → Option α) (x : D) (ds : List D) (ρ2 : DE) : Int → Option α := fun p => bo (ixN ds.length p) (cs_set_6 i kn x ds ρ2)
theorem cs_set_5_e {i : Nat} {kn : DE → Option α} {x : D} {ds : List D} {ρ2 : DE} {p : Int} : cs_set_5 i kn x ds ρ2 p = bo (ixN ds.length p) (cs_set_6 i kn x ds ρ2) := rfl
def cs_set_4 (i : Nat) (kn : DE → Option α) (x : D) (ds : List D) : D → DE → Option α := fun y ρ2 => onI y (cs_set_5 i kn x ds ρ2)
theorem cs_set_4_e {i : Nat} {kn : DE → Option α} {x : D} {ds : List D} {y : D} {ρ2 : DE} : cs_set_4 i kn x ds y ρ2 = onI y (cs_set_5 i kn x ds ρ2) := rfl
def cs_set_3 (i : Nat) (mb : M) (kn : DE → Option α) (x : D) (ρ1 : DE) : List D → Option α := fun ds => ce mb ρ1 (cs_set_4 i kn x ds)
theorem cs_set_3_e {i : Nat} {mb : M} {kn : DE → Option α} {x : D} {ρ1 : DE} {ds : List D} : cs_set_3 i mb kn x ρ1 ds = ce mb ρ1 (cs_set_4 i kn x ds) := rfl
def cs_set_2 (i : Nat) (mb : M) (kn : DE → Option α) (x : D) (ρ1 : DE) : D → Option α := fun z => onL z (cs_set_3 i mb kn x ρ1)
theorem cs_set_2_e {i : Nat} {mb : M} {kn : DE → Option α} {x : D} {ρ1 : DE} {z : D} : cs_set_2 i mb kn x ρ1 z = onL z (cs_set_3 i mb kn x ρ1) := rfl
def cs_set_1 (i : Nat) (mb : M) (kn : DE → Option α) : D → DE → Option α := fun x ρ1 => cv ρ1[i]? (cs_set_2 i mb kn x ρ1)
theorem cs_set_1_e {i : Nat} {mb : M} {kn : DE → Option α} {x : D} {ρ1 : DE} : cs_set_1 i mb kn x ρ1 = cv ρ1[i]? (cs_set_2 i mb kn x ρ1) := rfl
theorem cs_set' {i : Nat} {ma : M} {mb : M} {ρ : DE} {kn : DE → Option α} {kr : D → DE → Option α} : cs (sSet i ma mb) ρ kn kr = ce ma ρ (cs_set_1 i mb kn) := cs_set
def cs_set2_11 (i : Nat) (kn : DE → Option α) (x : D) (ds : List D) (j : Nat) (ys : List D) (ρ3 : DE) : Nat → Option α := fun l => kn (ρ3.set i (some (.lst (ds.set j (.lst (ys.set l x))))))
theorem cs_set2_11_e {i : Nat} {kn : DE → Option α} {x : D} {ds : List D} {j : Nat} {ys : List D} {ρ3 : DE} {l : Nat} : cs_set2_11 i kn x ds j ys ρ3 l = kn (ρ3.set i (some (.lst (ds.set j (.lst (ys.set l x)))))) := rfl
def cs_set2_10 (i : Nat) (kn : DE → Option α) (x : D) (ds : List D) (j : Nat) (ys : List D) (ρ3 : DE) : Int → Option α := fun q => bo (ixN ys.length q) (cs_set2_11 i kn x ds j ys ρ3)
theorem cs_set2_10_e {i : Nat} {kn : DE → Option α} {x : D} {ds : List D} {j : Nat} {ys : List D} {ρ3 : DE} {q : Int} : cs_set2_10 i kn x ds j ys ρ3 q = bo (ixN ys.length q) (cs_set2_11 i kn x ds j ys ρ3) := rfl
def cs_set2_9 (i : Nat) (kn : DE → Option α) (x : D) (ds : List D) (j : Nat) (ys : List D) : D → DE → Option α := fun v ρ3 => onI v (cs_set2_10 i kn x ds j ys ρ3)
theorem cs_set2_9_e {i : Nat} {kn : DE → Option α} {x : D} {ds : List D} {j : Nat} {ys : List D} {v : D} {ρ3 : DE} : cs_set2_9 i kn x ds j ys v ρ3 = onI v (cs_set2_10 i kn x ds j ys ρ3) := rfl
def cs_set2_8 (i : Nat) (mb : M) (kn : DE → Option α) (x : D) (ds : List D) (ρ2 : DE) (j : Nat) : List D → Option α := fun ys => ce mb ρ2 (cs_set2_9 i kn x ds j ys)
theorem cs_set2_8_e {i : Nat} {mb : M} {kn : DE → Option α} {x : D} {ds : List D} {ρ2 : DE} {j : Nat} {ys : List D} : cs_set2_8 i mb kn x ds ρ2 j ys = ce mb ρ2 (cs_set2_9 i kn x ds j ys) := rfl
def cs_set2_7 (i : Nat) (mb : M) (kn : DE → Option α) (x : D) (ds : List D) (ρ2 : DE) (j : Nat) : D → Option α := fun w => onL w (cs_set2_8 i mb kn x ds ρ2 j)
theorem cs_set2_7_e {i : Nat} {mb : M} {kn : DE → Option α} {x : D} {ds : List D} {ρ2 : DE} {j : Nat} {w : D} : cs_set2_7 i mb kn x ds ρ2 j w = onL w (cs_set2_8 i mb kn x ds ρ2 j) := rfl
def cs_set2_6 (i : Nat) (mb : M) (kn : DE → Option α) (x : D) (ds : List D) (ρ2 : DE) : Nat → Option α := fun j => bo ds[j]? (cs_set2_7 i mb kn x ds ρ2 j)
theorem cs_set2_6_e {i : Nat} {mb : M} {kn : DE → Option α} {x : D} {ds : List D} {ρ2 : DE} {j : Nat} : cs_set2_6 i mb kn x ds ρ2 j = bo ds[j]? (cs_set2_7 i mb kn x ds ρ2 j) := rfl
def cs_set2_5 (i : Nat) (mb : M) (kn : DE → Option α) (x : D) (ds : List D) (ρ2 : DE) : Int → Option α := fun p => bo (ixN ds.length p) (cs_set2_6 i mb kn x ds ρ2)
theorem cs_set2_5_e {i : Nat} {mb : M} {kn : DE → Option α} {x : D} {ds : List D} {ρ2 : DE} {p : Int} : cs_set2_5 i mb kn x ds ρ2 p = bo (ixN ds.length p) (cs_set2_6 i mb kn x ds ρ2) := rfl
def cs_set2_4 (i : Nat) (mb : M) (kn : DE → Option α) (x : D) (ds : List D) : D → DE → Option α := fun y ρ2 => onI y (cs_set2_5 i mb kn x ds ρ2)
theorem cs_set2_4_e {i : Nat} {mb : M} {kn : DE → Option α} {x : D} {ds : List D} {y : D} {ρ2 : DE} : cs_set2_4 i mb kn x ds y ρ2 = onI y (cs_set2_5 i mb kn x ds ρ2) := rfl
def cs_set2_3 (i : Nat) (ma : M) (mb : M) (kn : DE → Option α) (x : D) (ρ1 : DE) : List D → Option α := fun ds => ce ma ρ1 (cs_set2_4 i mb kn x ds)
theorem cs_set2_3_e {i : Nat} {ma : M} {mb : M} {kn : DE → Option α} {x : D} {ρ1 : DE} {ds : List D} : cs_set2_3 i ma mb kn x ρ1 ds = ce ma ρ1 (cs_set2_4 i mb kn x ds) := rfl
def cs_set2_2 (i : Nat) (ma : M) (mb : M) (kn : DE → Option α) (x : D) (ρ1 : DE) : D → Option α := fun z => onL z (cs_set2_3 i ma mb kn x ρ1)
theorem cs_set2_2_e {i : Nat} {ma : M} {mb : M} {kn : DE → Option α} {x : D} {ρ1 : DE} {z : D} : cs_set2_2 i ma mb kn x ρ1 z = onL z (cs_set2_3 i ma mb kn x ρ1) := rfl
def cs_set2_1 (i : Nat) (ma : M) (mb : M) (kn : DE → Option α) : D → DE → Option α := fun x ρ1 => cv ρ1[i]? (cs_set2_2 i ma mb kn x ρ1)
theorem cs_set2_1_e {i : Nat} {ma : M} {mb : M} {kn : DE → Option α} {x : D} {ρ1 : DE} : cs_set2_1 i ma mb kn x ρ1 = cv ρ1[i]? (cs_set2_2 i ma mb kn x ρ1) := rfl
theorem cs_set2' {i : Nat} {m : M} {ma : M} {mb : M} {ρ : DE} {kn : DE → Option α} {kr : D → DE → Option α} : cs (sSet2 i m ma mb) ρ kn kr = ce m ρ (cs_set2_1 i ma mb kn) := cs_set2
def cs_put_4 (i : Nat) (kn : DE → Option α) (ρ2 : DE) : DKs × List D → Option α := fun r => kn (ρ2.set i (some (.dic r.1 r.2)))
theorem cs_put_4_e {i : Nat} {kn : DE → Option α} {ρ2 : DE} {r : DKs × List D} : cs_put_4 i kn ρ2 r = kn (ρ2.set i (some (.dic r.1 r.2))) := rfl
def cs_put_3 (i : Nat) (kn : DE → Option α) (x : D) (q : DKs) (xs : List D) : D → DE → Option α := fun y ρ2 => bo (dPut q xs y x) (cs_put_4 i kn ρ2)
theorem cs_put_3_e {i : Nat} {kn : DE → Option α} {x : D} {q : DKs} {xs : List D} {y : D} {ρ2 : DE} : cs_put_3 i kn x q xs y ρ2 = bo (dPut q xs y x) (cs_put_4 i kn ρ2) := rfl
def cs_put_2 (i : Nat) (mb : M) (kn : DE → Option α) (x : D) (ρ1 : DE) : D → Option α := fun z => match z with | .dic q xs => if xs.length < 16777216 then ce mb ρ1 (cs_put_3 i kn x q xs) else none | _ => none
theorem cs_put_2_e {i : Nat} {mb : M} {kn : DE → Option α} {x : D} {ρ1 : DE} {z : D} : cs_put_2 i mb kn x ρ1 z = match z with | .dic q xs => if xs.length < 16777216 then ce mb ρ1 (cs_put_3 i kn x q xs) else none | _ => none := rfl
def cs_put_1 (i : Nat) (mb : M) (kn : DE → Option α) : D → DE → Option α := fun x ρ1 => cv ρ1[i]? (cs_put_2 i mb kn x ρ1)
theorem cs_put_1_e {i : Nat} {mb : M} {kn : DE → Option α} {x : D} {ρ1 : DE} : cs_put_1 i mb kn x ρ1 = cv ρ1[i]? (cs_put_2 i mb kn x ρ1) := rfl
theorem cs_put' {i : Nat} {ma : M} {mb : M} {ρ : DE} {kn : DE → Option α} {kr : D → DE → Option α} : cs (sPut i ma mb) ρ kn kr = ce ma ρ (cs_put_1 i mb kn) := cs_put
def cs_for_1 (mg : MG) (s : SM) (kn : DE → Option α) (kr : D → DE → Option α) : List D → DE → Option α := fun ds ρ1 => cF mg s ds ρ1 kn kr
theorem cs_for_1_e {mg : MG} {s : SM} {kn : DE → Option α} {kr : D → DE → Option α} {ds : List D} {ρ1 : DE} : cs_for_1 mg s kn kr ds ρ1 = cF mg s ds ρ1 kn kr := rfl
theorem cs_for' {ml : ML} {mg : MG} {s : SM} {ρ : DE} {kn : DE → Option α} {kr : D → DE → Option α} : cs (sFor ml mg s) ρ kn kr = cl ml ρ (cs_for_1 mg s kn kr) := cs_for
def cF_cons_2 (mg : MG) (s : SM) (ds : List D) (kn : DE → Option α) (kr : D → DE → Option α) : DE → Option α := fun ρ2 => cF mg s ds ρ2 kn kr
theorem cF_cons_2_e {mg : MG} {s : SM} {ds : List D} {kn : DE → Option α} {kr : D → DE → Option α} {ρ2 : DE} : cF_cons_2 mg s ds kn kr ρ2 = cF mg s ds ρ2 kn kr := rfl
def cF_cons_1 (mg : MG) (s : SM) (ds : List D) (kn : DE → Option α) (kr : D → DE → Option α) : DE → Option α := fun ρ1 => cs s ρ1 ((cF_cons_2 mg s ds kn kr)) kr
theorem cF_cons_1_e {mg : MG} {s : SM} {ds : List D} {kn : DE → Option α} {kr : D → DE → Option α} {ρ1 : DE} : cF_cons_1 mg s ds kn kr ρ1 = cs s ρ1 ((cF_cons_2 mg s ds kn kr)) kr := rfl
theorem cF_cons' {mg : MG} {s : SM} {d : D} {ds : List D} {ρ : DE} {kn : DE → Option α} {kr : D → DE → Option α} : cF mg s (d :: ds) ρ kn kr = bo (mg d ρ) (cF_cons_1 mg s ds kn kr) := cF_cons
def cW_s_2 (m : M) (s : SM) (n : Nat) (kn : DE → Option α) (kr : D → DE → Option α) : DE → Option α := fun ρ2 => cW m s n ρ2 kn kr
theorem cW_s_2_e {m : M} {s : SM} {n : Nat} {kn : DE → Option α} {kr : D → DE → Option α} {ρ2 : DE} : cW_s_2 m s n kn kr ρ2 = cW m s n ρ2 kn kr := rfl
def cW_s_1 (m : M) (s : SM) (n : Nat) (kn : DE → Option α) (kr : D → DE → Option α) : DE → Option α := fun ρ1 => cs s ρ1 ((cW_s_2 m s n kn kr)) kr
theorem cW_s_1_e {m : M} {s : SM} {n : Nat} {kn : DE → Option α} {kr : D → DE → Option α} {ρ1 : DE} : cW_s_1 m s n kn kr ρ1 = cs s ρ1 ((cW_s_2 m s n kn kr)) kr := rfl
theorem cW_s' {m : M} {s : SM} {n : Nat} {ρ : DE} {kn : DE → Option α} {kr : D → DE → Option α} : cW m s (n + 1) ρ kn kr = ct m ρ ((cW_s_1 m s n kn kr)) kn := cW_s
def cP_cons_4 (kl : List D → DE → Option α) (x : D) : List D → DE → Option α := fun es ρ1 => kl (x :: es) ρ1
theorem cP_cons_4_e {kl : List D → DE → Option α} {x : D} {es : List D} {ρ1 : DE} : cP_cons_4 kl x es ρ1 = kl (x :: es) ρ1 := rfl
def cP_cons_3 (ns : List Nat) (mg : MG) (mc : M) (me : M) (ds : List D) (kl : List D → DE → Option α) : D → DE → Option α := fun x ρ4 => cP ns mg mc me ds ρ4 (cP_cons_4 kl x)
theorem cP_cons_3_e {ns : List Nat} {mg : MG} {mc : M} {me : M} {ds : List D} {kl : List D → DE → Option α} {x : D} {ρ4 : DE} : cP_cons_3 ns mg mc me ds kl x ρ4 = cP ns mg mc me ds ρ4 (cP_cons_4 kl x) := rfl
def cP_cons_2 (ns : List Nat) (mg : MG) (mc : M) (me : M) (ds : List D) (kl : List D → DE → Option α) : DE → Option α := fun ρ3 => ce me ρ3 (cP_cons_3 ns mg mc me ds kl)
theorem cP_cons_2_e {ns : List Nat} {mg : MG} {mc : M} {me : M} {ds : List D} {kl : List D → DE → Option α} {ρ3 : DE} : cP_cons_2 ns mg mc me ds kl ρ3 = ce me ρ3 (cP_cons_3 ns mg mc me ds kl) := rfl
def cP_cons_5 (ns : List Nat) (mg : MG) (mc : M) (me : M) (ds : List D) (kl : List D → DE → Option α) : DE → Option α := fun ρ3 => cP ns mg mc me ds ρ3 kl
theorem cP_cons_5_e {ns : List Nat} {mg : MG} {mc : M} {me : M} {ds : List D} {kl : List D → DE → Option α} {ρ3 : DE} : cP_cons_5 ns mg mc me ds kl ρ3 = cP ns mg mc me ds ρ3 kl := rfl
def cP_cons_1 (ns : List Nat) (mg : MG) (mc : M) (me : M) (ds : List D) (kl : List D → DE → Option α) : DE → Option α := fun ρ2 => ct mc ρ2 ((cP_cons_2 ns mg mc me ds kl)) (cP_cons_5 ns mg mc me ds kl)
theorem cP_cons_1_e {ns : List Nat} {mg : MG} {mc : M} {me : M} {ds : List D} {kl : List D → DE → Option α} {ρ2 : DE} : cP_cons_1 ns mg mc me ds kl ρ2 = ct mc ρ2 ((cP_cons_2 ns mg mc me ds kl)) (cP_cons_5 ns mg mc me ds kl) := rfl
theorem cP_cons' {ns : List Nat} {mg : MG} {mc : M} {me : M} {d : D} {ds : List D} {ρ : DE} {kl : List D → DE → Option α} : cP ns mg mc me (d :: ds) ρ kl = bo (mg d (wp ρ ns)) (cP_cons_1 ns mg mc me ds kl) := cP_cons
def ce_lc_2 (pu : Bool) (k : D → DE → Option α) (ρ1 : DE) : List D → DE → Option α := fun es ρ2 => if es.length ≤ 16777216 then k (.lst es) (if pu = true then ρ1 else ρ2) else none
theorem ce_lc_2_e {pu : Bool} {k : D → DE → Option α} {ρ1 : DE} {es : List D} {ρ2 : DE} : ce_lc_2 pu k ρ1 es ρ2 = if es.length ≤ 16777216 then k (.lst es) (if pu = true then ρ1 else ρ2) else none := rfl
def ce_lc_1 (pu : Bool) (ns : List Nat) (mg : MG) (mc : M) (me : M) (k : D → DE → Option α) : List D → DE → Option α := fun ds ρ1 => cP ns mg mc me ds ρ1 (ce_lc_2 pu k ρ1)
theorem ce_lc_1_e {pu : Bool} {ns : List Nat} {mg : MG} {mc : M} {me : M} {k : D → DE → Option α} {ds : List D} {ρ1 : DE} : ce_lc_1 pu ns mg mc me k ds ρ1 = cP ns mg mc me ds ρ1 (ce_lc_2 pu k ρ1) := rfl
theorem ce_lc' {pu : Bool} {ns : List Nat} {ml : ML} {mg : MG} {mc : M} {me : M} {ρ : DE} {k : D → DE → Option α} : ce (mLc pu ns ml mg mc me) ρ k = cl ml ρ (ce_lc_1 pu ns mg mc me k) := ce_lc
def cp1_e_3 : D → DE → Option (Option D × DE) := fun x ρ4 => some (some x, ρ4)
theorem cp1_e_3_e {x : D} {ρ4 : DE} : cp1_e_3 x ρ4 = some (some x, ρ4) := rfl
def cp1_e_2 (me : M) : DE → Option (Option D × DE) := fun ρ3 => ce me ρ3 (cp1_e_3)
theorem cp1_e_2_e {me : M} {ρ3 : DE} : cp1_e_2 me ρ3 = ce me ρ3 (cp1_e_3) := rfl
def cp1_e_4 : DE → Option (Option D × DE) := fun ρ3 => some (none, ρ3)
theorem cp1_e_4_e {ρ3 : DE} : cp1_e_4 ρ3 = some (none, ρ3) := rfl
def cp1_e_1 (mc : M) (me : M) : DE → Option (Option D × DE) := fun ρ2 => ct mc ρ2 ((cp1_e_2 me)) (cp1_e_4)
theorem cp1_e_1_e {mc : M} {me : M} {ρ2 : DE} : cp1_e_1 mc me ρ2 = ct mc ρ2 ((cp1_e_2 me)) (cp1_e_4) := rfl
theorem cp1_e' {vs : List Nat} {mg : MG} {mc : M} {me : M} {ρ : DE} {d : D} : cp1 vs mg mc me ρ d = bo (mg d (wp ρ vs)) (cp1_e_1 mc me) := cp1_e
def g_cons_1 (ms : List D → DE → Option DE) (ds : List D) : DE → Option DE := fun ρ1 => ms ds ρ1
theorem g_cons_1_e {ms : List D → DE → Option DE} {ds : List D} {ρ1 : DE} : g_cons_1 ms ds ρ1 = ms ds ρ1 := rfl
theorem g_cons' {g : MG} {ms : List D → DE → Option DE} {d : D} {ds : List D} {ρ : DE} : gsCons g ms (d :: ds) ρ = bo (g d ρ) (g_cons_1 ms ds) := g_cons
def fo_z_1 (d : D) : List D → Option (D × List D) := fun es => some (d, es)
theorem fo_z_1_e {d : D} {es : List D} : fo_z_1 d es = some (d, es) := rfl
theorem fo_z' {ks' : List (Option Nat)} {ds : List D} {d : D} {ρ : DE} : fo' ks' ds d ρ = bo (outsD ks' ρ 0 ds) (fo_z_1 d) := fo_z
def o_c_2 (x : D) : List D → Option (List D) := fun r => some (x :: r)
theorem o_c_2_e {x : D} {r : List D} : o_c_2 x r = some (x :: r) := rfl
def o_c_1 (ks' : List (Option Nat)) (ρ : DE) (j : Nat) (ds : List D) : D → Option (List D) := fun x => bo (outsD ks' ρ (j + 1) ds) (o_c_2 x)
theorem o_c_1_e {ks' : List (Option Nat)} {ρ : DE} {j : Nat} {ds : List D} {x : D} : o_c_1 ks' ρ j ds x = bo (outsD ks' ρ (j + 1) ds) (o_c_2 x) := rfl
theorem o_c' {ks' : List (Option Nat)} {ρ : DE} {j : Nat} {d : D} {ds : List D} : outsD ks' ρ j (d :: ds) = bo (ox ks' ρ j d) (o_c_1 ks' ρ j ds) := o_c
end
end VS
namespace VS
open PySem VS L2
theorem r_isN {x : D} : dIsV false x .non = some (.bl (isNon x)) := rfl
theorem r_isnN {x : D} : dIsV true x .non = some (.bl !(isNon x)) := rfl
theorem n_non : isNon .non = true := rfl
theorem n_int {i : Int} : isNon (.int i) = false := rfl
theorem n_bl {i : Bool} : isNon (.bl i) = false := rfl
theorem n_str {i : Str} : isNon (.str i) = false := rfl
theorem n_lst {i : List D} : isNon (.lst i) = false := rfl
theorem n_tup {i : List D} : isNon (.tup i) = false := rfl
theorem iT_int {i : Int} : isT "int" (.int i) = some true ∧ isT "bool" (.int i) = some false ∧ isT "str" (.int i) = some false ∧ isT "tuple" (.int i) = some false ∧ isT "list" (.int i) = some false := ⟨rfl, rfl, rfl, rfl, rfl⟩
theorem iT_bl {b : Bool} : isT "int" (.bl b) = some true ∧ isT "bool" (.bl b) = some true ∧ isT "str" (.bl b) = some false ∧ isT "tuple" (.bl b) = some false ∧ isT "list" (.bl b) = some false := ⟨rfl, rfl, rfl, rfl, rfl⟩
theorem iT_str {x : Str} : isT "int" (.str x) = some false ∧ isT "bool" (.str x) = some false ∧ isT "str" (.str x) = some true ∧ isT "tuple" (.str x) = some false ∧ isT "list" (.str x) = some false := ⟨rfl, rfl, rfl, rfl, rfl⟩
theorem iT_tup {xs : List D} : isT "int" (.tup xs) = some false ∧ isT "bool" (.tup xs) = some false ∧ isT "str" (.tup xs) = some false ∧ isT "tuple" (.tup xs) = some true ∧ isT "list" (.tup xs) = some false := ⟨rfl, rfl, rfl, rfl, rfl⟩
theorem iT_lst {xs : List D} : isT "int" (.lst xs) = some false ∧ isT "bool" (.lst xs) = some false ∧ isT "str" (.lst xs) = some false ∧ isT "tuple" (.lst xs) = some false ∧ isT "list" (.lst xs) = some true := ⟨rfl, rfl, rfl, rfl, rfl⟩
theorem iT_non  : isT "int" (.non) = some false ∧ isT "bool" (.non) = some false ∧ isT "str" (.non) = some false ∧ isT "tuple" (.non) = some false ∧ isT "list" (.non) = some false := ⟨rfl, rfl, rfl, rfl, rfl⟩
theorem r_int {i : Int} : fInt [.int i] = some (.int i) := rfl
theorem r_intB {p : Prop} [Decidable p] : fInt [.bl (decide p)] = some (.int (if p then 1 else 0)) := by
  by_cases h : p <;> simp [fInt, h]
theorem r_intT : fInt [.bl true] = some (.int 1) := rfl
theorem r_intF : fInt [.bl false] = some (.int 0) := rfl
theorem r_ext {ds es : List D} (h : ds.length + es.length ≤ 16777216) : fExt ds [.lst es] = some (.non, ds ++ es) := by
  unfold fExt
  simp only [h, if_true]
theorem all_map {τ : Type} (p : τ → Bool) (xs : List τ) : fAll [.lst (xs.map fun x => D.bl (p x))] = some (.bl (xs.all p)) := by
  show (blsOf (xs.map fun x => D.bl (p x))).map _ = _
  have : blsOf (xs.map fun x => D.bl (p x)) = some (xs.map p) := by
    induction xs with
    | nil => rfl
    | cons x xs ih => simp [blsOf, ih]
  rw [this]
  simp
theorem cut_map {α β : Type} {xs : List α} {e : α → β} {l u : Option Int} : cutG (xs.map e) l u = (cutG xs l u).map e := by
  unfold cutG
  rw [List.length_map, List.map_take, List.map_drop]
theorem cut_nN {α : Type} {xs : List α} {a : Nat} : cutG xs (some (a : Int)) none = xs.drop a := by
  unfold cutG
  rw [HT.sIx_nat, HT.sIx_none]
  by_cases h : a ≤ xs.length
  · rw [Nat.min_eq_left h, List.take_of_length_le (by simp)]
  · rw [Nat.min_eq_right (by omega), List.drop_of_length_le (Nat.le_refl _), List.drop_of_length_le (by omega)]
    simp
theorem if_nd {β : Type} {ks : List Key} {x y : β} (h : ks.Nodup) : (if ks.Nodup then x else y) = x := if_pos h
theorem bo_ite {α β : Type} {p : Prop} [Decidable p] {x y : Option β} {k : β → Option α} : bo (if p then x else y) k = if p then bo x k else bo y k := by split <;> rfl
theorem tst_ite {α : Type} {p : Prop} [Decidable p] {x y : D} {a b : Option α} : tst (if p then x else y) a b = if p then tst x a b else tst y a b := by split <;> rfl
theorem at2 {α : Type} {x y z : α} {xs : List α} : atI (x :: y :: z :: xs) 2 = some z := (at_nn (xs := x :: y :: z :: xs) (n := 2) (by simp)).trans rfl
theorem at3 {α : Type} {x y z w : α} {xs : List α} : atI (x :: y :: z :: w :: xs) 3 = some w := (at_nn (xs := x :: y :: z :: w :: xs) (n := 3) (by simp)).trans rfl
theorem at4 {α : Type} {x y z w v : α} {xs : List α} : atI (x :: y :: z :: w :: v :: xs) 4 = some v := (at_nn (xs := x :: y :: z :: w :: v :: xs) (n := 4) (by simp)).trans rfl
theorem atm1 {α : Type} {x : α} : atI [x] (-1) = some x := rfl
theorem at_pick {α : Type} {p : Prop} [Decidable p] {x y : α} {xs : List α} : atI (x :: y :: xs) (if p then 1 else 0) = some (if p then y else x) := by
  by_cases h : p
  · rw [if_pos h, if_pos h, at1]
  · rw [if_neg h, if_neg h, at0]
theorem tst_b {α : Type} {p : Bool} {a b : Option α} : tst (.bl p) a b = if p = true then a else b := by cases p <;> rfl
def oxi (a : Option (Option Nat)) (b : Option (Option D)) (d : D) : Option D := match a with
  | some (some _) => (match b with
    | some (some d') => some d'
    | _ => none)
  | _ => some d
theorem ox_e {ks' : List (Option Nat)} {ρ : DE} {j : Nat} {d : D} : ox ks' ρ j d = oxi ks'[j]? ρ[j]? d := rfl
theorem oxi_0 {b : Option (Option D)} {d : D} : oxi (some none) b d = some d := rfl
theorem oxi_n {b : Option (Option D)} {d : D} : oxi none b d = some d := rfl
theorem oxi_1 {k : Nat} {d d' : D} : oxi (some (some k)) (some (some d')) d = some d' := rfl
theorem Wp.mk {α : Type} {o : Option α} {P : α → Prop} {x : α} (e : o = some x) (h : P x) : Wp o P := ⟨x, e, h⟩
theorem Wp.val {α : Type} {P : α → Prop} {x : α} (h : P x) : Wp (some x) P := ⟨x, rfl, h⟩
theorem Wp.imp {α : Type} {o : Option α} {P Q : α → Prop} (h : Wp o P) (f : ∀ x, P x → Q x) : Wp o Q := by
  obtain ⟨x, e, p⟩ := h
  exact ⟨x, e, f x p⟩
theorem lcm_map {α τ : Type} (e g : τ → D) {vs : List Nat} {mg : MG} {mc me : M} {xs : List τ} {ρ ρ1 : DE} {k : D → DE → Option α} (h : ∀ x ∈ xs, ∃ ρ4, cp1 vs mg mc me ρ (e x) = some (some (g x), ρ4) ∧ wp ρ4 vs = wp ρ vs) (hl : xs.length ≤ 16777216) : cP vs mg mc me (xs.map e) ρ (ce_lc_2 true k ρ1) = k (.lst (xs.map g)) ρ1 := by
  rw [cP_map g (kp := fun es => if es.length ≤ 16777216 then k (.lst es) ρ1 else none) h fun es ρ2 => by rw [ce_lc_2_e, if_pos rfl], if_pos (by simpa using hl)]
theorem lcm_flt {α τ : Type} (e g : τ → D) (p : τ → Bool) {vs : List Nat} {mg : MG} {mc me : M} {xs : List τ} {ρ ρ1 : DE} {k : D → DE → Option α} (h : ∀ x ∈ xs, ∃ ρa ρb, cp1 vs mg mc me ρ (e x) = (if p x = true then some (some (g x), ρa) else some (none, ρb)) ∧ wp ρa vs = wp ρ vs ∧ wp ρb vs = wp ρ vs) (hl : xs.length ≤ 16777216) : cP vs mg mc me (xs.map e) ρ (ce_lc_2 true k ρ1) = k (.lst ((xs.filter p).map g)) ρ1 := by
  rw [cP_flt g p (kp := fun es => if es.length ≤ 16777216 then k (.lst es) ρ1 else none) (fun x hx => by
    obtain ⟨ρa, ρb, h1, h2, h3⟩ := h x hx
    by_cases hp : p x = true
    · exact ⟨ρa, by rw [h1, if_pos hp, if_pos hp], h2⟩
    · exact ⟨ρb, by rw [h1, if_neg hp, if_neg hp], h3⟩) fun es ρ2 => by rw [ce_lc_2_e, if_pos rfl], if_pos (by rw [List.length_map]; exact Nat.le_trans (List.length_filter_le _ _) hl)]
end VS
namespace VS
open PySem PySem.Spec PyProof.Rows L2
variable {P : Program} {w : World} {K : PySem.W.Frag} {mg : Str → Option Value} {base : Heap}
variable {X : Cx} {W : WX} {κ κ1 κ2 κx : OE} {pos : Pos} {rc : RC}
def exNm : Nat → Str
  | 0 => "NoHeights"
  | 1 => "TooMany"
  | 2 => "NoTable"
  | 3 => "NoSetting"
  | 4 => "NoBanding"
  | 5 => "NoMove"
  | 6 => "NoPaper"
  | 7 => "NoText"
  | 8 => "NoRow"
  | 9 => "NoName"
  | 10 => "FrontError"
  | 11 => "ValueError"
  | _ => "Exception"
def exSub (c n : Nat) : Bool := decide (c = n) || decide (10 ≤ n)
def exVal (mg : Str → Option Value) (n : Nat) : Option Value := if n ≤ 10 then mg (exNm n) else if n = 11 then some (.type "ValueError") else some (.type "Exception")
structure ExS (K : PySem.W.Frag) (mg : Str → Option Value) (cs ns : List Nat) : Prop where
  mkx : ∀ c ∈ cs, ∀ C, mg (exNm c) = some (.ref C) → PySem.W.excIn K C He.veBase "ValueError.__new__" = true ∧ PySem.W.keepIn K (.ref C) = true ∧ PySem.W.subIn K (.ref C) (.type "BaseException") = some true ∧ PySem.W.typeIn K (.ref C) = some (.type "type")
  cl : ∀ c ∈ cs, ∀ C, mg (exNm c) = some (.ref C) → ExcC K C
  at_ : ∀ c ∈ cs, ∃ C, mg (exNm c) = some (.ref C)
  own : ∀ n ∈ ns, n ≤ 10 → ∃ C, mg (exNm n) = some (.ref C)
  blt : ∀ n ∈ ns, ¬ n ≤ 10 → mg (exNm n) = none
  em : ∀ c ∈ cs, ∀ n ∈ ns, ∀ C v, mg (exNm c) = some (.ref C) → exVal mg n = some v → PySem.W.exmOne K (.ref C) v = some (exSub c n) ∧ PySem.W.kitOne K (.ref C) v = some (exSub c n)
abbrev XM := DE → Option (Nat × DE)
def xPost (X : Cx) (W : WX) (κx : OE) (rc : RC) (s0 : L2.St) (t : Nat) (g : G) (H : Hp) (c : Nat) (ρ' : DE) : Prop :=
  ∀ C σ' H' g', X.mg (exNm c) = some (.ref C) → Sok X.K κx ρ' g' σ' H' → Pres X.N.length t g H g' H' → Fx rc s0 σ' → W (.ref C) none σ' H'
theorem xPost.pre {s0 : L2.St} {t : Nat} {g g1 : G} {H H1 : Hp} {c : Nat} {ρ' : DE} (P : Pres X.N.length t g H g1 H1) (h : xPost X W κx rc s0 t g H c ρ') : xPost X W κx rc s0 t g1 H1 c ρ' :=
  fun C σ' H' g' hC S' P' F' => h C σ' H' g' hC S' (P.trans P') F'
def jX (X : Cx) (W : WX) (κ : OE) (m : XM) (κx : OE) (rc : RC) (s0 : L2.St) (t : Nat) : L2.St → Hp → Prop := fun σ H => En X.N.length σ H →
  ∃ g ρ, Sok X.K κ ρ g σ H ∧ Fx rc s0 σ ∧ ∃ c ρ', m ρ = some (c, ρ') ∧ xPost X W κx rc s0 t g H c ρ'
structure JX (X : Cx) (W : WX) (κ : OE) (e : Expr) (m : XM) (κx : OE) (rc : RC) : Prop where
  run : ∀ s0 t, X.N.length ≤ t → PE X e (fun σ H _ => jX X W κ m κx rc s0 t σ H)
structure JSX (X : Cx) (W : WX) (κ : OE) (st : Stmt) (m : XM) (κx : OE) (rc : RC) : Prop where
  run : ∀ s0 t, X.N.length ≤ t → PS X st (fun _ σ H => jX X W κ m κx rc s0 t σ H)
structure JBX (X : Cx) (W : WX) (κ : OE) (sts : List Stmt) (m : XM) (κx : OE) (rc : RC) : Prop where
  run : ∀ s0 t, X.N.length ≤ t → PSs X sts (fun _ σ H => jX X W κ m κx rc s0 t σ H)
theorem jX.weak {m : XM} {s0 : L2.St} {t : Nat} {σ : L2.St} {H : Hp} (hl : leO κ1 κ = true) (hn : κ1.length = X.N.length) (q : jX X W κ m κx rc s0 t σ H) : jX X W κ1 m κx rc s0 t σ H := fun z => by
  obtain ⟨g, ρ, S, fx, c, ρ', em, post⟩ := q z
  exact ⟨wk κ1 g, ρ, S.weaken hl, fx, c, ρ', em, fun C σ' H' g' hC S' P' F' => by
    refine post C σ' H' g' hC S' ?_ F'
    exact (Pres.weaken (t := t) (H := H) hn).trans P'⟩
theorem JSX.weak {st : Stmt} {m : XM} (h : JSX X W κ1 st m κx rc) (hl : leO κ1 κ = true) (hn : κ1.length = X.N.length) : JSX X W κ st m κx rc :=
  ⟨fun s0 t ht => PS.imp (h.run s0 t ht) fun σ H D z q => jX.weak hl hn q⟩
theorem JBX.weak {st : List Stmt} {m : XM} (h : JBX X W κ1 st m κx rc) (hl : leO κ1 κ = true) (hn : κ1.length = X.N.length) : JBX X W κ st m κx rc :=
  ⟨fun s0 t ht => PSs.imp (h.run s0 t ht) fun σ H D z q => jX.weak hl hn q⟩
abbrev FX := List D → Option Nat
def fnSpX (K : PySem.W.Frag) (mg : Str → Option Value) (sg : Sg) (f : FM) (fx : FX) : Sp := fun vs H Q E => fnSp K sg f vs H Q E ∨
  ∃ g ds, (∀ a, g a ≠ .un → H a ≠ none) ∧ ArgsOk K H g sg.ks 0 ds vs ∧ ∃ c, fx ds = some c ∧
    ∀ C H' g', mg (exNm c) = some (.ref C) → (∀ a, g' a ≠ .un → H' a ≠ none) → Pres 0 0 g H g' H' → E (.ref C) none H'
structure HasX (P : Program) (w : World) (K : PySem.W.Frag) (mg : Str → Option Value) (base : Heap) (x : Str) (lev : Nat) (ps : List Str) (sg : Sg) (f : FM) (fx : FX) : Prop where
  ex : ∃ fa fd, mg x = some (.ref fa) ∧ PySem.W.keepIn K (.ref fa) = true ∧ Binds K fd ps [] ∧ FnOk P w K mg base (L2N.CX P w) lev fa fd ps (fnSpX K mg sg f fx)
open Classical in
theorem exName {cs ns : List Nat} {n : Nat} {x : Str} (E : ExS X.K X.mg cs ns) (hn : ns.contains n = true) (hx : x = exNm n) (h12 : n ≤ 12) (hg : Gl X x) : ∃ v, exVal X.mg n = some v ∧ Names X x v := by
  subst hx
  have hn' : n ∈ ns := List.contains_iff_mem.mp hn
  have hd : ∀ k, k ≤ 12 → (exNm k == ("__debug__" : Str)) = false := by decide +kernel
  by_cases h : n ≤ 10
  · obtain ⟨C, e⟩ := E.own n hn' h
    exact ⟨.ref C, by unfold exVal; rw [if_pos h]; exact e, hg, hd n h12, .inl e⟩
  · have e := E.blt n hn' h
    by_cases h11 : n = 11
    · subst h11
      exact ⟨.type "ValueError", rfl, hg, hd 11 h12, .inr ⟨e, by decide +kernel, by decide +kernel⟩⟩
    · have : n = 12 := by omega
      subst this
      exact ⟨.type "Exception", rfl, hg, hd 12 h12, .inr ⟨e, by decide +kernel, by decide +kernel⟩⟩
end VS
namespace VS
open PySem PySem.Spec PyProof.Rows L2
section
variable {α : Type} {ρ ρ1 ρ2 : DE} {kn : DE → Option α} {kr : D → DE → Option α} {k : D → DE → Option α}
end
end VS
namespace VS
open PySem PySem.Spec PyProof.Rows L2
variable {K : PySem.W.Frag} {X : Cx} {W : WX} {κ κ1 κ2 κx : OE} {pos : Pos} {rc : RC}
def mIo (i : Nat) (ml : ML) : ML := fun ρ => match ρ[i]? with
  | some (some _) => (ml ρ).bind fun y => (match y.2[i]? with
    | some (some d) => some (d :: y.1, y.2)
    | _ => none)
  | _ => none
theorem mIo_some {i : Nat} {ml : ML} {ρ ρ' : DE} {ds : List D} (h : mIo i ml ρ = some (ds, ρ')) : ∃ d0 d r, ρ[i]? = some (some d0) ∧ ml ρ = some (r, ρ') ∧ ρ'[i]? = some (some d) ∧ ds = d :: r := by
  unfold mIo at h
  split at h
  · rename_i d0 e0
    cases e : ml ρ with
    | none => rw [e] at h; cases h
    | some y =>
      rw [e] at h
      simp only [Option.bind_some] at h
      split at h
      · cases h; exact ⟨d0, _, _, e0, rfl, by assumption, rfl⟩
      · cases h
  · cases h
theorem ja_ioX {e : Expr} {es : List Expr} {i k k0 : Nat} {ml : ML} {ms : List Am} {pb : Bool} (ha : PE X e (tVar i)) (hk0 : κ[i]? = some (some k0)) (hk : κ2[i]? = some (some k)) (hb : JA X κ es ml ms κ2 pb)
    (hs : starEach (e :: es) X.env = (false, eval e X.env) :: starEach es X.env) : JA X κ (e :: es) (mIo i ml) (.io i :: ms) κ2 false := by
  refine ⟨fun t ht => PA.imp (pa_cons ha (hb.run (t + 1) (by omega)) hs) fun σ H Q en q => ?_, fun hp => by cases hp⟩
  obtain ⟨g, ρ, S, ds, ρ', em, post⟩ := q en
  obtain ⟨d0, d, r, e0, eb, ed, rfl⟩ := mIo_some em
  obtain ⟨v, es, o⟩ := S.ok i k0 d0 hk0 e0
  refine ⟨v, es, fun _ => ⟨g, ρ, S, r, ρ', eb, fun vs H2 g2 S2 P2 s2 r2 => ?_⟩⟩
  exact post (v :: vs) H2 g2 S2 (P2.less (Nat.le_succ t)) (fun z => by cases z) ⟨d, r, v, vs, rfl, rfl, ⟨es, ed⟩, r2⟩
section
variable {α : Type} {ρ : DE}
theorem cl_io {i : Nat} {ml : ML} {k : List D → DE → Option α} : cl (mIo i ml) ρ k = cv ρ[i]? fun _ => cl ml ρ fun xs ρ1 => cv ρ1[i]? fun d => k (d :: xs) ρ1 := by
  unfold cl mIo cv
  rcases ρ[i]? with _ | _ | d0
  · rfl
  · rfl
  simp only []
  rcases ml ρ with _ | ⟨xs, ρ1⟩
  · rfl
  simp only [Option.bind_some]
  rcases ρ1[i]? with _ | _ | d <;> rfl
end
end VS
namespace VS
open PySem PySem.Spec PyProof.Rows L2
variable {K : PySem.W.Frag} {X : Cx} {W : WX} {κ κ1 κ2 κx : OE} {pos : Pos} {rc : RC}
end VS
namespace VS
open PySem PySem.Spec PyProof.Rows L2 L2H
variable {P : Program} {w : World} {K : PySem.W.Frag} {mg : Str → Option Value} {base : Heap}
variable {X : Cx} {W : WX} {κ κ1 κ2 κ3 κ4 κx : OE} {pos : Pos} {rc : RC}
theorem exc_name {cs ns : List Nat} {n : Nat} {x : Str} {p3 : Pos} (E : ExS X.K X.mg cs ns) (hn : ns.contains n = true) (hx : x = exNm n) (h12 : n ≤ 12) (hg : Gl X x) :
    ∃ (v : Value) (cv : V), exVal X.mg n = some v ∧ PE X (.Name x p3) (tC cv) ∧ ∀ u, RelV cv u → u = v := by
  obtain ⟨v, ev, hg', hd, hnm⟩ := exName E hn hx h12 hg
  subst hx
  have hn' : n ∈ ns := List.contains_iff_mem.mp hn
  rcases hnm with hm | ⟨hm, hb, hne⟩
  · by_cases h : n ≤ 10
    · obtain ⟨A, eA⟩ := E.own n hn' h
      cases hm.symm.trans eA
      exact ⟨_, .ref A, ev, pe_glob hg' hm rfl hd, fun u r => r⟩
    · cases (E.blt n hn' h).symm.trans hm
  · by_cases h : n ≤ 10
    · obtain ⟨A, eA⟩ := E.own n hn' h
      cases eA.symm.trans hm
    · have ev' := ev
      unfold exVal at ev'
      rw [if_neg h] at ev'
      split at ev'
      · cases ev'; exact ⟨_, .ty "ValueError", ev, pe_bltn hg' hm hb rfl hne hd, fun u r => r⟩
      · cases ev'; exact ⟨_, .ty "Exception", ev, pe_bltn hg' hm hb rfl hne hd, fun u r => r⟩
inductive ExNs (X : Cx) (cs ns : List Nat) : List Expr → List Nat → Prop where
  | nil : ExNs X cs ns [] []
  | cons {n : Nat} {x : Str} {p : Pos} {es : List Expr} {l : List Nat} (hn : ns.contains n = true) (hx : x = exNm n) (h12 : n ≤ 12) (hg : Gl X x) (r : ExNs X cs ns es l) : ExNs X cs ns (.Name x p :: es) (n :: l)
theorem ExNs.pa {cs ns : List Nat} (E : ExS X.K X.mg cs ns) {c C : Nat} (hc : c ∈ cs) (hC : X.mg (exNm c) = some (.ref C)) : ∀ {es l}, ExNs X cs ns es l →
    ∃ (t : TA) (vs : List V) (us : List Value), PA X es t ∧ (∀ σ H Q, Q vs H → t σ H Q) ∧ vs.length = l.length ∧ (∀ ws, Vals vs ws → ws = us) ∧ PySem.W.kitAny X.K (.ref C) us = some (l.any fun n => exSub c n) := by
  intro es l h
  induction h with
  | nil => exact ⟨_, [], [], pa_nil, fun σ H Q q => q, rfl, fun ws r => by cases r; rfl, rfl⟩
  | @cons n x p es l hn hx h12 hg r ih =>
    obtain ⟨t, vs, us, h1, h2, hn2, h3, h4⟩ := ih
    obtain ⟨v, cv, ev, hv, hu⟩ := exc_name (p3 := p) E hn hx h12 hg
    have hem := (E.em c hc n (List.contains_iff_mem.mp hn) C v hC ev).2
    refine ⟨_, cv :: vs, v :: us, pa_cons hv h1, fun σ H Q q => ?_, by simp [hn2], fun ws r => ?_, ?_⟩
    · exact h2 σ H _ q
    · cases r with
      | cons a b => rw [hu _ a, h3 _ b]
    · show (match PySem.W.kitOne X.K (.ref C) v with | some true => some true | some false => PySem.W.kitAny X.K (.ref C) us | none => none) = _
      rw [hem, List.any_cons]
      cases exSub c n
      · simpa using h4
      · rfl
structure FnZ (P : Program) (w : World) (K : PySem.W.Frag) (mg : Str → Option Value) (base : Heap) (C k : Nat) (f : Addr) (fd : FuncData) (ps : List Str) (sp : Addr → Sp) : Prop where
  len : ∀ a vs H Q E, sp a vs H Q E → vs.length = ps.length
  run : ∀ (A : Around) (outer : List Env) (s : Shared) (H : Hp) (as : Args) (us : List Value) (vs : List V) (Q : VK) (E : XK) (p : Addr × Obj), RoomH k A ∧ Hot1 A p ∧ L2N.Zn (.ref C) none p.2 ∧ PinOk outer H s p ∧ Env0 P w K mg base A outer s H →
    BindsTo s fd as (ps.zip us) → Vals vs us → sp p.1 vs H Q E → codeAny (model P w) A (.call (.ref f) as) (CR CX0 outer P w H s Q E) s
structure HasZ (P : Program) (w : World) (K : PySem.W.Frag) (mg : Str → Option Value) (base : Heap) (cs : List Nat) (x : Str) (lev : Nat) (ps : List Str) (sg : Sg) (f : Nat → Addr → FM) : Prop where
  ex : ∃ fa fd, mg x = some (.ref fa) ∧ PySem.W.keepIn K (.ref fa) = true ∧ Binds K fd ps [] ∧
    ∀ c ∈ cs, ∀ C, mg (exNm c) = some (.ref C) → FnZ P w K mg base C lev fa fd ps fun a => fnSp K sg (f c a)
structure JIH (X : Cx) (κ : OE) (tg iter : Expr) (m : ML) (κ' : OE) (pu : Bool) : Prop where
  run : ∀ t, X.N.length ≤ t → PIH X tg iter (fun σ H R => En X.N.length σ H → ∃ g ρ, Sok X.K κ ρ g σ H ∧ ∃ ds ρ', m ρ = some (ds, ρ') ∧
    ∀ J0 src H' g', Sok X.K κ' ρ' g' σ H' → Pres X.N.length t g H g' H' → (pu = true → Same H H') → Dlv X.K J0 src ds → src g' H' → R J0 H')
  pur : pu = true → ∀ ρ ds ρ', m ρ = some (ds, ρ') → ρ' = ρ
theorem PIH.imp {tg iter : Expr} {w w' : TI} (h : PIH X tg iter w) (f : ∀ σ H R, En X.N.length σ H → w' σ H R → w σ H R) : PIH X tg iter w' :=
  ⟨fun pins s σ H R I q => h.run pins s σ H R I (f σ H R ⟨Inv.sz I, I.len⟩ q)⟩
end VS
namespace VS
open PySem PySem.Spec PyProof.Rows L2 L2H
variable {P : Program} {w : World} {K : PySem.W.Frag} {mg : Str → Option Value} {base : Heap}
variable {X : Cx} {W : WX} {κ κ1 κ2 κ3 κ4 κx : OE} {pos : Pos} {rc : RC}
structure JTX (X : Cx) (W : WX) (κ : OE) (e : Expr) (m : XM) (κx : OE) (rc : RC) : Prop where
  run : ∀ s0 t, X.N.length ≤ t → PT X e (fun σ H _ => jX X W κ m κx rc s0 t σ H)
structure JAX (X : Cx) (W : WX) (κ : OE) (es : List Expr) (m : XM) (κx : OE) (rc : RC) : Prop where
  run : ∀ s0 t, X.N.length ≤ t → PA X es (fun σ H _ => jX X W κ m κx rc s0 t σ H)
structure JIX (X : Cx) (W : WX) (κ : OE) (tg e : Expr) (m : XM) (κx : OE) (rc : RC) : Prop where
  run : ∀ s0 t, X.N.length ≤ t → PI X tg e (fun σ H _ => jX X W κ m κx rc s0 t σ H)
def xOr (a b : XM) : XM := fun ρ => match a ρ with
  | some x => some x
  | none => b ρ
theorem xOr_some {a b : XM} {ρ : DE} {x : Nat × DE} (h : xOr a b ρ = some x) : a ρ = some x ∨ b ρ = some x := by
  unfold xOr at h
  split at h
  · rename_i e; exact .inl (e.trans h)
  · exact .inr h
theorem jX.or {a b : XM} {s0 : L2.St} {t : Nat} {σ : L2.St} {H : Hp} (en : En X.N.length σ H) (q : jX X W κ (xOr a b) κx rc s0 t σ H) : jX X W κ a κx rc s0 t σ H ∨ jX X W κ b κx rc s0 t σ H := by
  obtain ⟨g, ρ, S, fx, c, ρ', em, post⟩ := q en
  rcases xOr_some em with e | e
  · exact .inl fun _ => ⟨g, ρ, S, fx, c, ρ', e, post⟩
  · exact .inr fun _ => ⟨g, ρ, S, fx, c, ρ', e, post⟩
theorem JX.or {e : Expr} {a b : XM} (ha : JX X W κ e a κx rc) (hb : JX X W κ e b κx rc) : JX X W κ e (xOr a b) κx rc :=
  ⟨fun s0 t ht => ⟨fun pins s σ H Q I q => (jX.or ⟨Inv.sz I, I.len⟩ q).elim ((ha.run s0 t ht).run pins s σ H Q I) ((hb.run s0 t ht).run pins s σ H Q I)⟩⟩
theorem JTX.or {e : Expr} {a b : XM} (ha : JTX X W κ e a κx rc) (hb : JTX X W κ e b κx rc) : JTX X W κ e (xOr a b) κx rc :=
  ⟨fun s0 t ht => ⟨fun pins s σ H Q I q => (jX.or ⟨Inv.sz I, I.len⟩ q).elim ((ha.run s0 t ht).run pins s σ H Q I) ((hb.run s0 t ht).run pins s σ H Q I)⟩⟩
theorem JSX.or {e : Stmt} {a b : XM} (ha : JSX X W κ e a κx rc) (hb : JSX X W κ e b κx rc) : JSX X W κ e (xOr a b) κx rc :=
  ⟨fun s0 t ht => ⟨fun pins s σ H Q I q => (jX.or ⟨Inv.sz I, I.len⟩ q).elim ((ha.run s0 t ht).run pins s σ H Q I) ((hb.run s0 t ht).run pins s σ H Q I)⟩⟩
theorem JAX.or {e : List Expr} {a b : XM} (ha : JAX X W κ e a κx rc) (hb : JAX X W κ e b κx rc) : JAX X W κ e (xOr a b) κx rc :=
  ⟨fun s0 t ht => ⟨fun pos pins s σ H Q I q => (jX.or ⟨Inv.sz I, I.len⟩ q).elim ((ha.run s0 t ht).run pos pins s σ H Q I) ((hb.run s0 t ht).run pos pins s σ H Q I)⟩⟩
end VS
namespace VS
open PySem PySem.Spec PyProof.Rows L2 L2H
variable {P : Program} {w : World} {K : PySem.W.Frag} {mg : Str → Option Value} {base : Heap}
variable {X : Cx} {W : WX} {κ κ1 κ2 κ3 κ4 κx : OE} {pos : Pos} {rc : RC}
section
variable {i t : Nat} {p : List Nat} {g : G} {a : Addr}
end
end VS
namespace VS
open PySem PySem.Spec PyProof.Rows L2
variable {K : PySem.W.Frag} {X : Cx} {κ κ1 κ2 : OE} {pos : Pos} {rc : RC}
section
variable {t i m : Nat} {g : G} {a : Addr}
end
abbrev MOI := DE → Option (Option Int × DE)
structure JOI (X : Cx) (κ : OE) (e : Option Expr) (m : MOI) (κ' : OE) : Prop where
  run : ∀ t, X.N.length ≤ t → PO X e (fun σ H Q => En X.N.length σ H → ∃ g ρ, Sok X.K κ ρ g σ H ∧ ∃ o ρ', m ρ = some (o, ρ') ∧ ∀ H' g', Sok X.K κ' ρ' g' σ H' → Pres X.N.length t g H g' H' → Q o H')
def oSomeI (m : M) : MOI := fun ρ => match m ρ with
  | some (.int i, ρ') => some (some i, ρ')
  | _ => none
theorem joi_some {e : Expr} {m : M} {rz : Rz} {pu : Bool} (h : J X κ e m rz κ1 pu) : JOI X κ (some e) (oSomeI m) κ1 := by
  refine ⟨fun t ht => PO.imp (po_some (h.run t ht)) fun σ H Q z q => ?_⟩
  obtain ⟨g, ρ, S, o, ρ1, em, post⟩ := q z
  unfold oSomeI at em
  split at em
  · rename_i i ρ' e
    cases em
    refine fun _ => ⟨g, _, S, _, _, e, fun v H' g' S' P' s' r' => ?_⟩
    cases (show _ = _ from r'.rep)
    exact ⟨i, rfl, post H' g' S' P'⟩
  · cases em
def mSlI (ma : M) (ml : MO) (mu : MOI) (f : D → Option Int → Option Int → Option D) : M := fun ρ => (ma ρ).bind fun x => (ml x.2).bind fun l => (mu x.2).bind fun u => (f x.1 l u.1).map fun z => (z, u.2)
theorem mSlI_some {ma : M} {ml : MO} {mu : MOI} {f : D → Option Int → Option Int → Option D} {ρ ρ' : DE} {d : D} (h : mSlI ma ml mu f ρ = some (d, ρ')) : ∃ x ρ1 l u, ma ρ = some (x, ρ1) ∧ ml ρ1 = some l ∧ mu ρ1 = some (u, ρ') ∧ f x l u = some d := by
  unfold mSlI at h
  obtain ⟨⟨x, ρ1⟩, h1, h⟩ := Option.bind_eq_some_iff.mp h
  obtain ⟨l, h2, h⟩ := Option.bind_eq_some_iff.mp h
  obtain ⟨⟨u, ρ2⟩, h3, h⟩ := Option.bind_eq_some_iff.mp h
  obtain ⟨z, h4, h⟩ := Option.map_eq_some_iff.mp h
  cases h
  exact ⟨x, ρ1, l, u, h1, h2, h3, h4⟩
theorem j_slOI {κ3 : OE} {a : Expr} {lo hi : Option Expr} {p2 : Pos} {ma : M} {ml : MO} {mu : MOI} {pa : Bool} (ha : J X κ a ma (.own 0) κ1 pa) (hl : JO X κ1 lo ml κ2) (hu : JOI X κ2 hi mu κ3) : J X κ (.Subscript a (.Slice lo hi none p2) pos) (mSlI ma ml mu dSl) (.own 1) κ3 false := by
  refine ⟨fun t ht => PE.imp (pe_slice sl_all (ha.run t ht) (hl.run (t + 1) (by omega)) (hu.run (t + 1) (by omega))) fun σ H Q z q => ?_, fun hp => by cases hp⟩
  obtain ⟨g0, ρ, S, d, ρ', em, post⟩ := q z
  obtain ⟨x, ρ1, l, u, e1, e2, e3, e⟩ := mSlI_some em
  refine fun _ => ⟨g0, ρ, S, x, ρ1, e1, fun v H1 g1 S1 P1 s1 r1 => fun _ => ⟨g1, ρ1, S1, l, e2, fun H2 g2 S2 P2 s2 => fun _ => ⟨g2, ρ1, S2, u, ρ', e3, fun H' g' S' P3 => ?_⟩⟩⟩
  have P23 := P2.trans P3
  have P' := P1.trans (P23.less (Nat.le_succ t))
  have r' : Own X.K H' g' x 0 t [] v := P23.own ht (Nat.lt_succ_self t) r1
  have s' : (false : Bool) = true → Same H H' := fun w => by cases w
  unfold dSl at e
  split at e
  · cases e
    obtain ⟨a, vs, rfl, h1, h2⟩ := own0_seq.1 r'
    exact .inl (.inl ⟨a, vs, rfl, SqL.of h1, fun p hp => gives_post (b := true) S' rfl (cut_own h2) P' s' post p hp⟩)
  · cases e
    obtain ⟨a, vs, rfl, h1, h2⟩ := own0_seq.2 r'
    refine .inl (.inr ⟨a, vs, rfl, SqT.of h1, fun hw => ?_, fun _ p hp => gives_post (b := false) S' rfl (cut_own h2) P' s' post p hp⟩)
    rw [ownL_len h2] at hw
    rw [cutG_whole hw] at post
    exact post _ H' g' S' P' s' ⟨a, vs, rfl, h1, ownL_fz (fun a z => ⟨z, rfl⟩) (fun _ _ z _ => z) h2⟩
  · split at e
    · cases e
      cases (show _ = _ from r')
      exact .inr ⟨_, rfl, by rw [sizeLine_eq]; assumption, post _ H' g' S' P' s' rfl⟩
    · cases e
  · cases e
theorem ce_slI {α : Type} {ma me : M} {ml : MO} {ρ : DE} {k : D → DE → Option α} {f : D → Option Int → Option Int → Option D} : ce (mSlI ma ml (oSomeI me) f) ρ k = ce ma ρ fun x ρ1 => bo (ml ρ1) fun l => ce me ρ1 fun y ρ2 => onI y fun u => bo (f x l (some u)) fun z => k z ρ2 := by
  unfold ce mSlI oSomeI
  cases ma ρ with
  | none => rfl
  | some x =>
    simp only [Option.bind_some]
    cases ml x.2 with
    | none => rfl
    | some l =>
      simp only [Option.bind_some, bo]
      cases me x.2 with
      | none => rfl
      | some y =>
        obtain ⟨y, ρ2⟩ := y
        cases y <;> first | rfl | skip
        simp only [Option.bind_some, onI]
        cases f x.1 l (some _) <;> rfl
def isTpl : D → Bool
  | .tup _ => true
  | _ => false
def dLtT (a b : D) : Option D := if (isTpl a && (PySem.W.alike (pyD a) (pyD b) && cmpOk a b)) = true then some (.bl (PySem.W.dataLt (pyD a) (pyD b))) else none
theorem dLtT_a (x y z : D) (h : dLtT x y = some z) : isA z = true := by
  unfold dLtT at h
  split at h
  · cases h; rfl
  · cases h
theorem o_ltT (hu : X.A.units + 100 < cLine) : OpR X (compareOp .Lt) (rDat X.K dLtT) := by
  intro pins s σ H x y v u Q I rx ry q
  obtain ⟨a, b, c, ra, rb, e, ha, q⟩ := q
  unfold dLtT at e
  split at e
  · rename_i hc
    cases e
    rw [Bool.and_eq_true, Bool.and_eq_true] at hc
    obtain ⟨h0, h1, h2⟩ := hc
    obtain ⟨n1, n2⟩ := cmp_no h2
    obtain ⟨as, r1⟩ := Dp.reads I _ _ _ (rep_dp a n1.1 ra) rx
    obtain ⟨bs, r2⟩ := Dp.reads I _ _ _ (rep_dp b n2.1 rb) ry
    refine PySem.W.lt_data r1 r2 h1 ?_ (room_min hu h2) (fin_b I q)
    cases a <;> first | (cases h0; done) | (intro z; simp [pyD] at z)
  · cases e
end VS
namespace L_k11
open PySem PySem.Spec PyProof.Rows L2 VS
local macro_rules | `(tactic| trivial) => `(tactic| first | exact .inl rfl | exact .inr rfl)
structure Gs (mg : Str → Option Value) : Prop where
  abs : mg "abs" = none
  all : mg "all" = none
  bool : mg "bool" = none
  int : mg "int" = none
  isinstance : mg "isinstance" = none
  len : mg "len" = none
  list : mg "list" = none
  max : mg "max" = none
  min : mg "min" = none
  range : mg "range" = none
  sorted : mg "sorted" = none
  tuple : mg "tuple" = none
  zip : mg "zip" = none
variable {P : Program} {w : World} {K : PySem.W.Frag} {mg : Str → Option Value} {base : Heap}
abbrev N_is_whole : List Str := ["thing"]
abbrev p_is_whole : List Str := ["thing"]
abbrev sg_is_whole : Sg := ⟨[0], 99, [none]⟩
def m_is_whole : SM := (sRet (mAnd (mIsT "int" (mV 0)) (mNot (mIsT "bool" (mV 0)))))
def F_is_whole : FM := fM 1 1 sg_is_whole.ks' m_is_whole
theorem sc_is_whole : FnScope N_is_whole p_is_whole (defScope s_is_whole) := ⟨rfl, rfl, rfl, by decide +kernel, rfl, by decide +kernel, by decide +kernel⟩
theorem ok_is_whole (G : Gs mg) {fa : Addr} {fd : FuncData} (F : FnP K "is_whole" s_is_whole fa fd) (hm : mg "is_whole" = some (.ref fa)) : Has P w K mg base "is_whole" 1 p_is_whole sg_is_whole F_is_whole := by
  refine has_mk (k := 0) (n := 1) F hm sc_is_whole rfl rfl (by decide) rfl (fun _ _ _ _ _ _ us hl => match us, hl with | [_], _ => rfl) fun cdv A outer s H E hr => ?_
  have hu := units_of hr
  exact (jb_one (js_ret (κ1 := [some 0]) (j_and (j_isi (rz' := .own 99) (T := "int") (j_var (i := 0) (pv 0) rfl) rfl (by rfl) G.isinstance (by rfl) G.int (by decide +kernel) (by decide) (by decide) rfl) (j_and1 (j_not (rz' := .own 99) (j_isi (rz' := .own 99) (T := "bool") (j_var (i := 0) (pv 0) rfl) rfl (by rfl) G.isinstance (by rfl) G.bool (by decide +kernel) (by decide) (by decide) rfl))) rfl rfl) rfl rfl))
abbrev N_is_word : List Str := ["thing", "name"]
abbrev p_is_word : List Str := ["thing"]
abbrev sg_is_word : Sg := ⟨[0], 99, [none]⟩
def m_is_word : SM := (sRet (mAnd (mIsT "tuple" (mV 0)) (mB fAll (mCons (mLc (true && (true && true)) [1] (mSeq (mV 0)) (gNm 1) mYes (mAnd (mCall F_is_whole (mCons (mV 1) mNil)) (m2 dGe (mV 1) (mC (.int 0))))) mNil))))
def F_is_word : FM := fM 1 2 sg_is_word.ks' m_is_word
theorem sc_is_word : FnScope N_is_word p_is_word (defScope s_is_word) := ⟨rfl, rfl, rfl, by decide +kernel, rfl, by decide +kernel, by decide +kernel⟩
theorem ok_is_word (G : Gs mg) (h_is_whole : Has P w K mg base "is_whole" 1 p_is_whole sg_is_whole F_is_whole) {fa : Addr} {fd : FuncData} (F : FnP K "is_word" s_is_word fa fd) (hm : mg "is_word" = some (.ref fa)) : Has P w K mg base "is_word" 2 p_is_word sg_is_word F_is_word := by
  refine has_mk (k := 1) (n := 2) F hm sc_is_word rfl rfl (by decide) rfl (fun _ _ _ _ _ _ us hl => match us, hl with | [_], _ => rfl) fun cdv A outer s H E hr => ?_
  have hu := units_of hr
  exact (jb_one (js_ret (κ1 := [some 0, none]) (j_and (j_isi (rz' := .own 99) (T := "tuple") (j_var (i := 0) (pv 0) rfl) rfl (by rfl) G.isinstance (by rfl) G.tuple (by decide +kernel) (by decide) (by decide) rfl) (j_and1 (j_callA (rz := .own 99) (ja_cons (j_lc (k := 99) (own := [("name", 1)]) rfl sc_is_word.nd (ji_seq (j_frz (κ := [some 0, none]) (i := 0) (k := 0) (pv 0) rfl rfl)) (blkOk_by (N := N_is_word) (sc := defScope s_is_word) (own := [("name", 1)]) (by decide +kernel)) (fun _ _ _ _ _ => (jg_name (i := 1) sc_is_word.nd rfl (by trivial) (by trivial))) (fun _ _ _ _ _ => jts_nil) (fun _ _ _ _ _ => (j_and (call_pure (n := 1) (r := 99) (rz := .rep) (ja_cons (j_var (i := 1) (pv 1) rfl) ja_nil rfl rfl) rfl (fun _ _ _ => fM_len _ _ _) (fun h => has_call h_is_whole hr (by decide) (by rfl) h (by rfl) (by rfl) (by rfl)) (.inl rfl)) (j_and1 (J.two_read (rz := .own 99) (j_var (i := 1) (pv 1) rfl) (j_const (d := .int 0) (rz := .own 99) rfl pe_int) rfl (atOp (dI_a fun _ _ => rfl)) fun a b => pe_cmpR (o_ge) a b (nomark _))) rfl rfl)) (fun _ => rfl) (by decide) rfl rfl rfl rfl rfl) ja_nil rfl rfl) rfl at_all fun h => pe_callB (CallR.en (cr_all rfl)) (by rfl) G.all (by decide +kernel) h)) rfl rfl) rfl rfl))
abbrev N_is_sum : List Str := ["thing", "one", "other", "word"]
abbrev p_is_sum : List Str := ["thing"]
abbrev sg_is_sum : Sg := ⟨[0], 99, [none]⟩
def m_is_sum : SM := (sSeq (sIf (mOr (mNot (mTr (mIsT "list" (mV 0)))) (mNot (mTr (mB fAll (mCons (mLc (true && (true && true)) [3] (mSeq (mV 0)) (gNm 3) mYes (mCall F_is_word (mCons (mV 3) mNil))) mNil)))))
  (sRet (mC (.bl false)))
  sNil)
  (sRet (mB fAll (mCons (mLc (true && (true && true)) [1, 2] (mZip (mCons (mV 0) (mCons (mSl (mV 0) (oSome (mC (.int 1))) oNone dSl) mNil))) (gTp (gsCons (gNm 1) (gsCons (gNm 2) gsNil))) mYes (m2 dLtT (mV 1) (mV 2))) mNil))))
def F_is_sum : FM := fM 1 4 sg_is_sum.ks' m_is_sum
theorem sc_is_sum : FnScope N_is_sum p_is_sum (defScope s_is_sum) := ⟨rfl, rfl, rfl, by decide +kernel, rfl, by decide +kernel, by decide +kernel⟩
theorem ok_is_sum (G : Gs mg) (h_is_word : Has P w K mg base "is_word" 2 p_is_word sg_is_word F_is_word) {fa : Addr} {fd : FuncData} (F : FnP K "is_sum" s_is_sum fa fd) (hm : mg "is_sum" = some (.ref fa)) : Has P w K mg base "is_sum" 3 p_is_sum sg_is_sum F_is_sum := by
  refine has_mk (k := 2) (n := 4) F hm sc_is_sum rfl rfl (by decide) rfl (fun _ _ _ _ _ _ us hl => match us, hl with | [_], _ => rfl) fun cdv A outer s H E hr => ?_
  have hu := units_of hr
  exact (jb_cons (js_if (κ1 := [some 0, none, none, none]) (κ2 := [some 0, none, none, none]) (JW.jt (jw_or (jt_not (jt_val (j_isi (rz' := .own 99) (T := "list") (j_var (i := 0) (pv 0) rfl) rfl (by rfl) G.isinstance (by rfl) G.list (by decide +kernel) (by decide) (by decide) rfl) (fun _ => rfl))) (jw_or1 (jt_not (jt_val (j_callA (rz := .own 99) (ja_cons (j_lc (k := 99) (own := [("word", 3)]) rfl sc_is_sum.nd (ji_seq (j_frz (κ := [some 0, none, none, none]) (i := 0) (k := 0) (pv 0) rfl rfl)) (blkOk_by (N := N_is_sum) (sc := defScope s_is_sum) (own := [("word", 3)]) (by decide +kernel)) (fun _ _ _ _ _ => (jg_name (i := 3) sc_is_sum.nd rfl (by trivial) (by trivial))) (fun _ _ _ _ _ => jts_nil) (fun _ _ _ _ _ => (call_pure (n := 1) (r := 99) (rz := .own 99) (ja_cons (j_var (i := 3) (pv 3) rfl) ja_nil rfl rfl) rfl (fun _ _ _ => fM_len _ _ _) (fun h => has_call h_is_word hr (by decide) (by rfl) h (by rfl) (by rfl) (by rfl)) (.inr ⟨rfl, by decide⟩))) (fun _ => rfl) (by decide) rfl rfl rfl rfl rfl) ja_nil rfl rfl) rfl at_all fun h => pe_callB (CallR.en (cr_all rfl)) (by rfl) G.all (by decide +kernel) h) (fun _ => rfl)))) rfl rfl))
    (jb_one (js_ret (κ1 := [some 0, none, none, none]) (j_const (d := .bl false) (rz := .own 99) rfl pe_bl) rfl rfl))
    jb_nil)
    (jb_one (js_ret (κ1 := [some 0, none, none, none]) (j_callA (rz := .own 99) (ja_cons (j_lc (k := 99) (own := [("one", 1), ("other", 2)]) rfl sc_is_sum.nd (ji_zip (ja_cons (j_frz (κ := [some 0, none, none, none]) (i := 0) (k := 0) (pv 0) rfl rfl) (ja_cons (J.less (j := 0) (k := 1) (j_slO (j_frz (κ := [some 0, none, none, none]) (i := 0) (k := 0) (pv 0) rfl rfl) (jo_some (j_const (d := .int 1) (rz := .own 99) rfl pe_int)) jo_none) (by decide)) ja_nil rfl rfl) rfl rfl) (by rfl) G.zip rfl rfl) (blkOk_by (N := N_is_sum) (sc := defScope s_is_sum) (own := [("one", 1), ("other", 2)]) (by decide +kernel)) (fun _ _ _ _ _ => (jg_tup (n := 2) rfl (jgs_cons (jg_name (i := 1) sc_is_sum.nd rfl (by trivial) (by trivial)) (jgs_cons (jg_name (i := 2) sc_is_sum.nd rfl (by trivial) (by trivial)) jgs_nil fun a b => pgs_cons a b) fun a b => pgs_cons a b) rfl rfl (gs_lenS (gs_lenS gs_len0)))) (fun _ _ _ _ _ => jts_nil) (fun _ _ _ _ _ => (J.two_read (rz := .own 99) (j_var (i := 1) (pv 1) rfl) (j_var (i := 2) (pv 2) rfl) rfl (atOp dLtT_a) fun a b => pe_cmpR (o_ltT hu) a b (nomark _))) (fun _ => rfl) (by decide) rfl rfl rfl rfl rfl) ja_nil rfl rfl) rfl at_all fun h => pe_callB (CallR.en (cr_all rfl)) (by rfl) G.all (by decide +kernel) h) rfl rfl)))
abbrev N_odd_ones : List Str := ["words", "found", "word"]
abbrev p_odd_ones : List Str := ["words"]
abbrev sg_odd_ones : Sg := ⟨[0], 99, [none]⟩
def b_odd_ones_0 : SM := (sPut 1 (mNot (mGet2 (mV 1) (mV 2) (mC (.bl false)))) (mV 2))
def m_odd_ones : SM := (sSeq (sAsg 1 (mD (.T [])))
  (sSeq (sFor (mSeq (mV 0)) (gNm 2)
  b_odd_ones_0)
  (sRet (mFl (mMk .srt (mCons (mLc (true && (true && true)) [2] (mKeys 1) (gNm 2) (mTr (m2 dIx (mV 1) (mV 2))) (mV 2)) mNil))))))
def F_odd_ones : FM := fM 1 3 sg_odd_ones.ks' m_odd_ones
theorem sc_odd_ones : FnScope N_odd_ones p_odd_ones (defScope s_odd_ones) := ⟨rfl, rfl, rfl, by decide +kernel, rfl, by decide +kernel, by decide +kernel⟩
theorem ok_odd_ones (G : Gs mg) {fa : Addr} {fd : FuncData} (F : FnP K "odd_ones" s_odd_ones fa fd) (hm : mg "odd_ones" = some (.ref fa)) : Has P w K mg base "odd_ones" 1 p_odd_ones sg_odd_ones F_odd_ones := by
  refine has_mk (k := 0) (n := 3) F hm sc_odd_ones rfl rfl (by decide) rfl (fun _ _ _ _ _ _ us hl => match us, hl with | [_], _ => rfl) fun cdv A outer s H E hr => ?_
  have hu := units_of hr
  exact (jb_cons (js_set (κ1 := [some 0, none, none]) (i := 1) (k := 99) (j_dnew (t' := true) (k' := 99) (by decide)) sc_odd_ones.nd rfl (by trivial) rfl (.inl rfl) rfl)
    (jb_cons (JS.weak (κ1 := [some 0, some 1, none]) (κn := [some 0, some 1, none]) (κn' := [some 0, some 1, none]) (js_for (κ1 := [some 0, some 1, none]) PassesOwn.never rfl (ji_seq (j_frz (κ := [some 0, some 1, none]) (i := 0) (k := 0) (pv 0) rfl rfl)) (jg_name (i := 2) sc_odd_ones.nd rfl (by trivial) (.inl rfl))
    (JB.weak (κ1 := [some 0, some 1, some 0]) (κn := [some 0, some 1, some 0]) (jb_one (js_put (κ1 := [some 0, some 1, some 0]) (i := 1) (k1 := 1) hu (J.less (j := 0) (k := 99) (j_not (rz' := .own 99) (j_get2 hu (j_var (i := 1) (pv 1) rfl) (j_var (i := 2) (pv 2) rfl) (j_const (d := .bl false) (rz := .own 99) rfl pe_bl) ⟨rfl, rfl, rfl, rfl⟩)) (by decide)) (pv 1) (j_var (i := 2) (pv 2) rfl) rfl rfl rfl)) rfl rfl rfl rfl) rfl (fun _ => rfl)) rfl rfl rfl rfl)
    (jb_one (JS.weak (κ1 := [some 0, some 0, none]) (κn := [none, none, none]) (κn' := [none, none, none]) (js_ret (κ1 := [some 0, some 0, none]) (J.flat (k := 99) (j_mkO (k := .srt) (ja_cons (J.less (j := 0) (k := 1) (j_lcK (κ := [some 0, some 0, none]) (k := 1) (own := [("word", 2)]) rfl sc_odd_ones.nd (pv 1) rfl (blkOk_by (N := N_odd_ones) (sc := defScope s_odd_ones) (own := [("word", 2)]) (by decide +kernel)) (fun _ _ _ _ _ => (jg_name (i := 2) sc_odd_ones.nd rfl (by trivial) (by trivial))) (fun _ _ _ _ _ => (jts_one (jt_val (j_ix hu (j_var (i := 1) (pv 1) rfl) (j_var (i := 2) (pv 2) rfl) rfl (fun _ _ => rfl)) (fun _ => rfl)))) (fun _ _ _ _ _ => (j_frz (κ := [some 0, some 0, some 0]) (i := 2) (k := 0) (pv 2) rfl rfl)) (fun _ => rfl) (by decide) rfl rfl rfl rfl rfl) (by decide)) ja_nil rfl rfl) fun h => pe_callB (cr_srt hu) (by rfl) G.sorted (by decide +kernel) h) (by decide)) rfl rfl) rfl rfl rfl rfl))))
abbrev N_added : List Str := ["one", "other"]
abbrev p_added : List Str := ["one", "other"]
abbrev sg_added : Sg := ⟨[0, 0], 99, [none, none]⟩
def m_added : SM := (sRet (mCall F_odd_ones (mCons (m2 dCat (mV 0) (mV 1)) mNil)))
def F_added : FM := fM 2 2 sg_added.ks' m_added
theorem sc_added : FnScope N_added p_added (defScope s_added) := ⟨rfl, rfl, rfl, by decide +kernel, rfl, by decide +kernel, by decide +kernel⟩
theorem ok_added (G : Gs mg) (h_odd_ones : Has P w K mg base "odd_ones" 1 p_odd_ones sg_odd_ones F_odd_ones) {fa : Addr} {fd : FuncData} (F : FnP K "added" s_added fa fd) (hm : mg "added" = some (.ref fa)) : Has P w K mg base "added" 2 p_added sg_added F_added := by
  refine has_mk (k := 1) (n := 2) F hm sc_added rfl rfl (by decide) rfl (fun _ _ _ _ _ _ us hl => match us, hl with | [_, _], _ => rfl) fun cdv A outer s H E hr => ?_
  have hu := units_of hr
  exact (jb_one (js_ret (κ1 := [some 0, some 0]) (call_pure (n := 1) (r := 99) (rz := .own 99) (ja_cons (j_cat (j_var (i := 0) (pv 0) rfl) (j_var (i := 1) (pv 1) rfl) rfl fun a b => pe_op o_cat a b) ja_nil rfl rfl) rfl (fun _ _ _ => fM_len _ _ _) (fun h => has_call h_odd_ones hr (by decide) (by rfl) h (by rfl) (by rfl) (by rfl)) (.inr ⟨rfl, by decide⟩)) rfl rfl))
abbrev N_multiplied : List Str := ["one", "other", "found", "word", "behind"]
abbrev p_multiplied : List Str := ["one", "other"]
abbrev sg_multiplied : Sg := ⟨[0, 0], 99, [none, none]⟩
def b_multiplied_0 : SM := (sExp (mMut 2 fExt (mCons (mLc (true && (true && true)) [4] (mSeq (mV 1)) (gNm 4) mYes (m2 dCat (mV 3) (mV 4))) mNil)))
def m_multiplied : SM := (sSeq (sAsg 2 (mLst mNil))
  (sSeq (sFor (mSeq (mV 0)) (gNm 3)
  b_multiplied_0)
  (sRet (mCall F_odd_ones (mCons (mV 2) mNil)))))
def F_multiplied : FM := fM 2 5 sg_multiplied.ks' m_multiplied
theorem sc_multiplied : FnScope N_multiplied p_multiplied (defScope s_multiplied) := ⟨rfl, rfl, rfl, by decide +kernel, rfl, by decide +kernel, by decide +kernel⟩
theorem ok_multiplied (G : Gs mg) (h_odd_ones : Has P w K mg base "odd_ones" 1 p_odd_ones sg_odd_ones F_odd_ones) {fa : Addr} {fd : FuncData} (F : FnP K "multiplied" s_multiplied fa fd) (hm : mg "multiplied" = some (.ref fa)) : Has P w K mg base "multiplied" 2 p_multiplied sg_multiplied F_multiplied := by
  refine has_mk (k := 1) (n := 5) F hm sc_multiplied rfl rfl (by decide) rfl (fun _ _ _ _ _ _ us hl => match us, hl with | [_, _], _ => rfl) fun cdv A outer s H E hr => ?_
  have hu := units_of hr
  exact (jb_cons (js_set (κ1 := [some 0, some 0, none, none, none]) (i := 2) (k := 99) (j_lst (k := 0) (k' := 99) ja_nil rfl (by decide)) sc_multiplied.nd rfl (by trivial) rfl (.inl rfl) rfl)
    (jb_cons (JS.weak (κ1 := [some 0, some 0, some 1, none, none]) (κn := [some 0, some 0, some 1, none, none]) (κn' := [some 0, some 0, some 1, none, none]) (js_for (κ1 := [some 0, some 0, some 1, none, none]) PassesOwn.never rfl (ji_seq (j_frz (κ := [some 0, some 0, some 1, none, none]) (i := 0) (k := 0) (pv 0) rfl rfl)) (jg_name (i := 3) sc_multiplied.nd rfl (by trivial) (.inl rfl))
    (JB.weak (κ1 := [some 0, some 0, some 1, some 0, none]) (κn := [some 0, some 0, some 1, some 0, none]) (jb_one (js_exp (j_mut (κ1 := [some 0, some 0, some 1, some 0, none]) (i := 2) (k0 := 1) (ja_cons (J.less (j := 0) (k := 2) (j_lc (k := 2) (own := [("behind", 4)]) rfl sc_multiplied.nd (ji_seq (j_frz (κ := [some 0, some 0, some 1, some 0, none]) (i := 1) (k := 0) (pv 1) rfl rfl)) (blkOk_by (N := N_multiplied) (sc := defScope s_multiplied) (own := [("behind", 4)]) (by decide +kernel)) (fun _ _ _ _ _ => (jg_name (i := 4) sc_multiplied.nd rfl (by trivial) (by trivial))) (fun _ _ _ _ _ => jts_nil) (fun _ _ _ _ _ => (j_catO (j_frz (κ := [some 0, some 0, some 1, some 0, some 0]) (i := 3) (k := 0) (pv 3) rfl rfl) (j_frz (κ := [some 0, some 0, some 1, some 0, some 0]) (i := 4) (k := 0) (pv 4) rfl rfl) fun a b => pe_op o_cat a b)) (fun _ => rfl) (by decide) rfl rfl rfl rfl rfl) (by decide)) ja_nil rfl rfl) rfl rfl rfl u_ext fun h => pe_bm PySem.F.plainAttrs_list PySem.F.slot_list_extend PySem.F.type_list_extend mt_extend (pv 2) h) rfl)) rfl rfl rfl rfl) rfl (fun _ => rfl)) rfl rfl rfl rfl)
    (jb_one (js_ret (κ1 := [some 0, some 0, some 1, none, none]) (call_pure (n := 1) (r := 99) (rz := .own 99) (ja_cons (j_var (i := 2) (pv 2) rfl) ja_nil rfl rfl) rfl (fun _ _ _ => fM_len _ _ _) (fun h => has_call h_odd_ones hr (by decide) (by rfl) h (by rfl) (by rfl) (by rfl)) (.inr ⟨rfl, by decide⟩)) rfl rfl))))
abbrev N__law_bag : List Str := ["_law_script", "_law_at", "_law_cell", "_law_great", "_law_primes"]
abbrev p__law_bag : List Str := ["_law_script", "_law_at"]
abbrev sg__law_bag : Sg := ⟨[0, 0], 99, [none, none]⟩
def m__law_bag : SM := (sSeq (sAsg 2 (mC (.int 0)))
  (sSeq (sIf (m2 dLt (mV 1) (mB fLen (mCons (mV 0) mNil)))
  (sAsg 2 (mA (m2 dIx (mV 0) (mV 1))))
  sNil)
  (sSeq (sAsg 3 (mC (.int 0)))
  (sSeq (sIf (m2 dGe (mB fAbs (mCons (mV 2) mNil)) (m2 dPow (mC (.int 10)) (mC (.int 18))))
  (sAsg 3 (mB fAbs (mCons (mV 2) mNil)))
  sNil)
  (sSeq (sAsg 4 (mLst (mCons (mC (.int 2147483629)) (mCons (mC (.int 2147483587)) (mCons (mC (.int 2147483579)) (mCons (mC (.int 2147483563)) (mCons (mC (.int 2147483549)) (mCons (mC (.int 2147483543)) (mCons (mC (.int 2147483497)) (mCons (mC (.int 2147483489)) mNil))))))))))
  (sRet (mLst (mCons (mA (mV 3)) (mCons (m2 dMod (m2 dPow (m2 dAdd (m2 dAdd (m2 dMod (mV 2) (mC (.int 2147483647))) (m2 dMul (mC (.int 104729)) (mV 1))) (mC (.int 7))) (mC (.int 5))) (m2 dIx (mV 4) (m2 dMod (mV 1) (mC (.int 8))))) mNil)))))))))
def F__law_bag : FM := fM 2 5 sg__law_bag.ks' m__law_bag
theorem sc__law_bag : FnScope N__law_bag p__law_bag (defScope s__law_bag) := ⟨rfl, rfl, rfl, by decide +kernel, rfl, by decide +kernel, by decide +kernel⟩
theorem ok__law_bag (G : Gs mg) {fa : Addr} {fd : FuncData} (F : FnP K "_law_bag" s__law_bag fa fd) (hm : mg "_law_bag" = some (.ref fa)) : Has P w K mg base "_law_bag" 1 p__law_bag sg__law_bag F__law_bag := by
  refine has_mk (k := 0) (n := 5) F hm sc__law_bag rfl rfl (by decide) rfl (fun _ _ _ _ _ _ us hl => match us, hl with | [_, _], _ => rfl) fun cdv A outer s H E hr => ?_
  have hu := units_of hr
  exact (jb_cons (js_set (κ1 := [some 0, some 0, none, none, none]) (i := 2) (k := 99) (j_const (d := .int 0) (rz := .own 99) rfl pe_int) sc__law_bag.nd rfl (by trivial) rfl (.inl rfl) rfl)
    (jb_cons (js_if (κ1 := [some 0, some 0, some 99, none, none]) (κ2 := [some 0, some 0, some 99, none, none]) (JT.two_read (j_var (i := 1) (pv 1) rfl) (j_callA (rz := .own 99) (ja_cons (j_var (i := 0) (pv 0) rfl) ja_nil rfl rfl) rfl at_len fun h => pe_callB (CallR.en cr_len) (by rfl) G.len (by decide +kernel) h) rfl (atOp (dI_a fun _ _ => rfl)) fun a b => pt_cmpR (o_lt) a b (nomark _))
    (jb_one (js_set (κ1 := [some 0, some 0, some 99, none, none]) (i := 2) (k := 99) (J.asAtom (z' := .own 99) (j_ix hu (j_var (i := 0) (pv 0) rfl) (j_var (i := 1) (pv 1) rfl) rfl (fun _ _ => rfl))) sc__law_bag.nd rfl (by trivial) rfl (.inl rfl) rfl))
    jb_nil)
    (jb_cons (js_set (κ1 := [some 0, some 0, some 99, none, none]) (i := 3) (k := 99) (j_const (d := .int 0) (rz := .own 99) rfl pe_int) sc__law_bag.nd rfl (by trivial) rfl (.inl rfl) rfl)
    (jb_cons (js_if (κ1 := [some 0, some 0, some 99, some 99, none]) (κ2 := [some 0, some 0, some 99, some 99, none]) (JT.two_read (j_callA (rz := .own 99) (ja_cons (j_var (i := 2) (pv 2) rfl) ja_nil rfl rfl) rfl at_abs fun h => pe_callB (CallR.en call_abs) (by rfl) G.abs (by decide +kernel) h) (J.two_read (rz := .own 99) (j_const (d := .int 10) (rz := .own 99) rfl pe_int) (j_const (d := .int 18) (rz := .own 99) rfl pe_int) rfl (atOp (dI_a fun _ _ => rfl)) fun a b => pe_op o_pow a b) rfl (atOp (dI_a fun _ _ => rfl)) fun a b => pt_cmpR (o_ge) a b (nomark _))
    (jb_one (js_set (κ1 := [some 0, some 0, some 99, some 99, none]) (i := 3) (k := 99) (j_callA (rz := .own 99) (ja_cons (j_var (i := 2) (pv 2) rfl) ja_nil rfl rfl) rfl at_abs fun h => pe_callB (CallR.en call_abs) (by rfl) G.abs (by decide +kernel) h) sc__law_bag.nd rfl (by trivial) rfl (.inl rfl) rfl))
    jb_nil)
    (jb_cons (js_set (κ1 := [some 0, some 0, some 99, some 99, none]) (i := 4) (k := 99) (j_lst (k := 0) (k' := 99) (ja_cons (j_const (d := .int 2147483629) (rz := .own 99) rfl pe_int) (ja_cons (j_const (d := .int 2147483587) (rz := .own 99) rfl pe_int) (ja_cons (j_const (d := .int 2147483579) (rz := .own 99) rfl pe_int) (ja_cons (j_const (d := .int 2147483563) (rz := .own 99) rfl pe_int) (ja_cons (j_const (d := .int 2147483549) (rz := .own 99) rfl pe_int) (ja_cons (j_const (d := .int 2147483543) (rz := .own 99) rfl pe_int) (ja_cons (j_const (d := .int 2147483497) (rz := .own 99) rfl pe_int) (ja_cons (j_const (d := .int 2147483489) (rz := .own 99) rfl pe_int) ja_nil rfl rfl) rfl rfl) rfl rfl) rfl rfl) rfl rfl) rfl rfl) rfl rfl) rfl rfl) rfl (by decide)) sc__law_bag.nd rfl (by trivial) rfl (.inl rfl) rfl)
    (jb_one (js_ret (κ1 := [some 0, some 0, some 99, some 99, some 99]) (j_lst (k := 0) (k' := 99) (ja_cons (J.asAtom (z' := .own 99) (j_var (i := 3) (pv 3) rfl)) (ja_cons (J.two_read (rz := .own 99) (J.two_read (rz := .own 99) (J.two_read (rz := .own 99) (J.two_read (rz := .own 99) (J.two_read (rz := .own 99) (j_var (i := 2) (pv 2) rfl) (j_const (d := .int 2147483647) (rz := .own 99) rfl pe_int) rfl (atOp (dI_a fun _ _ => rfl)) fun a b => pe_op o_mod a b) (J.two_read (rz := .own 99) (j_const (d := .int 104729) (rz := .own 99) rfl pe_int) (j_var (i := 1) (pv 1) rfl) rfl (atOp (dI_a fun _ _ => rfl)) fun a b => pe_op o_mul a b) rfl (atOp dAdd_a) fun a b => pe_op o_add a b) (j_const (d := .int 7) (rz := .own 99) rfl pe_int) rfl (atOp dAdd_a) fun a b => pe_op o_add a b) (j_const (d := .int 5) (rz := .own 99) rfl pe_int) rfl (atOp (dI_a fun _ _ => rfl)) fun a b => pe_op o_pow a b) (j_ix hu (j_var (i := 4) (pv 4) rfl) (J.two_read (rz := .own 99) (j_var (i := 1) (pv 1) rfl) (j_const (d := .int 8) (rz := .own 99) rfl pe_int) rfl (atOp (dI_a fun _ _ => rfl)) fun a b => pe_op o_mod a b) rfl (fun _ _ => rfl)) rfl (atOp (dI_a fun _ _ => rfl)) fun a b => pe_op o_mod a b) ja_nil rfl rfl) rfl rfl) rfl (by decide)) rfl rfl)))))))
abbrev N__law_take : List Str := ["_law_bag_here", "_law_many", "_law_digit"]
abbrev p__law_take : List Str := ["_law_bag_here", "_law_many"]
abbrev sg__law_take : Sg := ⟨[1, 0], 99, [some 1, none]⟩
def m__law_take : SM := (sSeq (sIf (m2 dGt (m2 dIx (mV 0) (mC (.int 0))) (mC (.int 0)))
  (sSeq (sAsg 2 (m2 dMod (m2 dIx (mV 0) (mC (.int 0))) (mV 1)))
  (sSeq (sSet 0 (m2 dDiv (m2 dIx (mV 0) (mC (.int 0))) (mV 1)) (mC (.int 0)))
  (sRet (mA (mV 2)))))
  sNil)
  (sSeq (sSet 0 (m2 dMod (m2 dAdd (m2 dMul (m2 dIx (mV 0) (mC (.int 1))) (mC (.int 48271))) (mC (.int 11))) (mC (.int 2147483647))) (mC (.int 1)))
  (sRet (m2 dMod (m2 dMod (m2 dPow (m2 dDiv (m2 dIx (mV 0) (mC (.int 1))) (mC (.int 8))) (mC (.int 3))) (mC (.int 2147483629))) (mV 1)))))
def F__law_take : FM := fM 2 3 sg__law_take.ks' m__law_take
theorem sc__law_take : FnScope N__law_take p__law_take (defScope s__law_take) := ⟨rfl, rfl, rfl, by decide +kernel, rfl, by decide +kernel, by decide +kernel⟩
theorem ok__law_take (G : Gs mg) {fa : Addr} {fd : FuncData} (F : FnP K "_law_take" s__law_take fa fd) (hm : mg "_law_take" = some (.ref fa)) : Has P w K mg base "_law_take" 1 p__law_take sg__law_take F__law_take := by
  refine has_mk (k := 0) (n := 3) F hm sc__law_take rfl rfl (by decide) rfl (fun _ _ _ _ _ _ us hl => match us, hl with | [_, _], _ => rfl) fun cdv A outer s H E hr => ?_
  have hu := units_of hr
  exact (jb_cons (js_if (κ1 := [some 1, some 0, none]) (κ2 := [some 1, some 0, none]) (JT.two_read (j_ix hu (j_var (i := 0) (pv 0) rfl) (j_const (d := .int 0) (rz := .own 99) rfl pe_int) rfl (fun _ _ => rfl)) (j_const (d := .int 0) (rz := .own 99) rfl pe_int) rfl (atOp (dI_a fun _ _ => rfl)) fun a b => pt_cmpR (o_gt) a b (nomark _))
    (jb_cons (js_set (κ1 := [some 1, some 0, none]) (i := 2) (k := 99) (J.two_read (rz := .own 99) (j_ix hu (j_var (i := 0) (pv 0) rfl) (j_const (d := .int 0) (rz := .own 99) rfl pe_int) rfl (fun _ _ => rfl)) (j_var (i := 1) (pv 1) rfl) rfl (atOp (dI_a fun _ _ => rfl)) fun a b => pe_op o_mod a b) sc__law_take.nd rfl (by trivial) rfl (.inl rfl) rfl)
    (jb_cons (js_seti (i := 0) (k := 1) (J.less (j := 0) (k := 99) (J.two_read (rz := .own 99) (j_ix hu (j_var (i := 0) (pv 0) rfl) (j_const (d := .int 0) (rz := .own 99) rfl pe_int) rfl (fun _ _ => rfl)) (j_var (i := 1) (pv 1) rfl) rfl (atOp (dI_a fun _ _ => rfl)) fun a b => pe_op o_div a b) (by decide)) (j_const (d := .int 0) (rz := .own 99) rfl pe_int) rfl rfl (by decide) (fun he hj => ps_asg he (pg_sub (pv 0) hj set_list)))
    (jb_one (js_ret (κ1 := [some 1, some 0, some 99]) (J.asAtom (z' := .own 99) (j_var (i := 2) (pv 2) rfl)) rfl rfl))))
    jb_nil)
    (jb_cons (js_seti (i := 0) (k := 1) (J.less (j := 0) (k := 99) (J.two_read (rz := .own 99) (J.two_read (rz := .own 99) (J.two_read (rz := .own 99) (j_ix hu (j_var (i := 0) (pv 0) rfl) (j_const (d := .int 1) (rz := .own 99) rfl pe_int) rfl (fun _ _ => rfl)) (j_const (d := .int 48271) (rz := .own 99) rfl pe_int) rfl (atOp (dI_a fun _ _ => rfl)) fun a b => pe_op o_mul a b) (j_const (d := .int 11) (rz := .own 99) rfl pe_int) rfl (atOp dAdd_a) fun a b => pe_op o_add a b) (j_const (d := .int 2147483647) (rz := .own 99) rfl pe_int) rfl (atOp (dI_a fun _ _ => rfl)) fun a b => pe_op o_mod a b) (by decide)) (j_const (d := .int 1) (rz := .own 99) rfl pe_int) rfl rfl (by decide) (fun he hj => ps_asg he (pg_sub (pv 0) hj set_list)))
    (jb_one (js_ret (κ1 := [some 1, some 0, none]) (J.two_read (rz := .own 99) (J.two_read (rz := .own 99) (J.two_read (rz := .own 99) (J.two_read (rz := .own 99) (j_ix hu (j_var (i := 0) (pv 0) rfl) (j_const (d := .int 1) (rz := .own 99) rfl pe_int) rfl (fun _ _ => rfl)) (j_const (d := .int 8) (rz := .own 99) rfl pe_int) rfl (atOp (dI_a fun _ _ => rfl)) fun a b => pe_op o_div a b) (j_const (d := .int 3) (rz := .own 99) rfl pe_int) rfl (atOp (dI_a fun _ _ => rfl)) fun a b => pe_op o_pow a b) (j_const (d := .int 2147483629) (rz := .own 99) rfl pe_int) rfl (atOp (dI_a fun _ _ => rfl)) fun a b => pe_op o_mod a b) (j_var (i := 1) (pv 1) rfl) rfl (atOp (dI_a fun _ _ => rfl)) fun a b => pe_op o_mod a b) rfl rfl))))
abbrev N__law_odd : List Str := ["_law_words", "_law_found", "_law_word_here"]
abbrev p__law_odd : List Str := ["_law_words"]
abbrev sg__law_odd : Sg := ⟨[0], 99, [none]⟩
def b__law_odd_0 : SM := (sIf (mAnd (m2 dNe (mV 1) (mLst mNil)) (m2 dEq (m2 dIx (mV 1) (mNeg (mC (.int 1)))) (mV 2)))
  (sExp (mMut 1 fPop mNil))
  (sApp 1 (mV 2)))
def m__law_odd : SM := (sSeq (sAsg 1 (mLst mNil))
  (sSeq (sFor (mSeq (mMk .srt (mCons (mV 0) mNil))) (gNm 2)
  b__law_odd_0)
  (sRet (mFl (mV 1)))))
def F__law_odd : FM := fM 1 3 sg__law_odd.ks' m__law_odd
theorem sc__law_odd : FnScope N__law_odd p__law_odd (defScope s__law_odd) := ⟨rfl, rfl, rfl, by decide +kernel, rfl, by decide +kernel, by decide +kernel⟩
theorem ok__law_odd (G : Gs mg) {fa : Addr} {fd : FuncData} (F : FnP K "_law_odd" s__law_odd fa fd) (hm : mg "_law_odd" = some (.ref fa)) : Has P w K mg base "_law_odd" 1 p__law_odd sg__law_odd F__law_odd := by
  refine has_mk (k := 0) (n := 3) F hm sc__law_odd rfl rfl (by decide) rfl (fun _ _ _ _ _ _ us hl => match us, hl with | [_], _ => rfl) fun cdv A outer s H E hr => ?_
  have hu := units_of hr
  exact (jb_cons (js_set (κ1 := [some 0, none, none]) (i := 1) (k := 99) (j_lst (k := 0) (k' := 99) ja_nil rfl (by decide)) sc__law_odd.nd rfl (by trivial) rfl (.inl rfl) rfl)
    (jb_cons (JS.weak (κ1 := [some 0, some 1, none]) (κn := [some 0, some 1, none]) (κn' := [some 0, some 1, none]) (js_for (κ1 := [some 0, some 1, none]) PassesOwn.never rfl (ji_seq (J.less (j := 0) (k := 1) (j_mkO (k := .srt) (ja_cons (j_frz (κ := [some 0, some 1, none]) (i := 0) (k := 0) (pv 0) rfl rfl) ja_nil rfl rfl) fun h => pe_callB (cr_srt hu) (by rfl) G.sorted (by decide +kernel) h) (by decide))) (jg_name (i := 2) sc__law_odd.nd rfl (by trivial) (.inl rfl))
    (JB.weak (κ1 := [some 0, some 1, some 0]) (κn := [some 0, some 1, some 0]) (jb_one (js_if (κ1 := [some 0, some 1, some 0]) (κ2 := [some 0, some 1, some 0]) (JW.jt (jw_and (JT.two_read (j_var (i := 1) (pv 1) rfl) (j_lst (k := 0) (k' := 99) ja_nil rfl (by decide)) rfl (atOp dNe_a) fun a b => pt_cmpR (o_ne hu) a b (nomark _)) (jw_and1 (JT.two_read (j_ix hu (j_var (i := 1) (pv 1) rfl) (j_neg (rz' := .own 99) (j_const (d := .int 1) (rz := .own 99) rfl pe_int)) rfl (fun _ _ => rfl)) (j_var (i := 2) (pv 2) rfl) rfl (atOp dEq_a) fun a b => pt_cmpR (o_eq hu) a b (nomark _))) rfl rfl))
    (jb_one (js_exp (j_mut0 (κ := [some 0, some 1, some 0]) (i := 1) rfl u_pop (pe_bm0 PySem.F.plainAttrs_list PySem.F.slot_list_pop PySem.F.type_list_pop mt_pop (pv 1))) rfl))
    (jb_one (js_app (i := 1) (k := 1) (j_frz (κ := [some 0, some 1, some 0]) (i := 2) (k := 0) (pv 2) rfl rfl) rfl rfl (by decide) (by exact Nat.le_of_ble_eq_true rfl) fun h => ps_expr (pe_bm PySem.F.plainAttrs_list PySem.F.slot_list_append PySem.F.type_list_append mt_append (pv 1) (pa_cons h pa_nil)))))) rfl rfl rfl rfl) rfl (fun _ => rfl)) rfl rfl rfl rfl)
    (jb_one (js_ret (κ1 := [some 0, none, none]) (J.flat (k := 99) (j_mov (κ := [some 0, some 1, none]) (i := 1) (k := 1) (pv 1) rfl) (by decide)) rfl rfl))))
abbrev N__law_plus : List Str := ["_law_one", "_law_other"]
abbrev p__law_plus : List Str := ["_law_one", "_law_other"]
abbrev sg__law_plus : Sg := ⟨[0, 0], 99, [none, none]⟩
def m__law_plus : SM := (sRet (mCall F__law_odd (mCons (m2 dCat (mV 0) (mV 1)) mNil)))
def F__law_plus : FM := fM 2 2 sg__law_plus.ks' m__law_plus
theorem sc__law_plus : FnScope N__law_plus p__law_plus (defScope s__law_plus) := ⟨rfl, rfl, rfl, by decide +kernel, rfl, by decide +kernel, by decide +kernel⟩
theorem ok__law_plus (G : Gs mg) (h__law_odd : Has P w K mg base "_law_odd" 1 p__law_odd sg__law_odd F__law_odd) {fa : Addr} {fd : FuncData} (F : FnP K "_law_plus" s__law_plus fa fd) (hm : mg "_law_plus" = some (.ref fa)) : Has P w K mg base "_law_plus" 2 p__law_plus sg__law_plus F__law_plus := by
  refine has_mk (k := 1) (n := 2) F hm sc__law_plus rfl rfl (by decide) rfl (fun _ _ _ _ _ _ us hl => match us, hl with | [_, _], _ => rfl) fun cdv A outer s H E hr => ?_
  have hu := units_of hr
  exact (jb_one (js_ret (κ1 := [some 0, some 0]) (call_pure (n := 1) (r := 99) (rz := .own 99) (ja_cons (j_cat (j_var (i := 0) (pv 0) rfl) (j_var (i := 1) (pv 1) rfl) rfl fun a b => pe_op o_cat a b) ja_nil rfl rfl) rfl (fun _ _ _ => fM_len _ _ _) (fun h => has_call h__law_odd hr (by decide) (by rfl) h (by rfl) (by rfl) (by rfl)) (.inr ⟨rfl, by decide⟩)) rfl rfl))
abbrev N__law_times : List Str := ["_law_one", "_law_other", "_law_found", "_law_word_here", "_law_behind"]
abbrev p__law_times : List Str := ["_law_one", "_law_other"]
abbrev sg__law_times : Sg := ⟨[0, 0], 99, [none, none]⟩
def b__law_times_0 : SM := (sExp (mMut 2 fExt (mCons (mLc (true && (true && true)) [4] (mSeq (mV 1)) (gNm 4) mYes (m2 dCat (mV 3) (mV 4))) mNil)))
def m__law_times : SM := (sSeq (sAsg 2 (mLst mNil))
  (sSeq (sFor (mSeq (mV 0)) (gNm 3)
  b__law_times_0)
  (sRet (mCall F__law_odd (mCons (mV 2) mNil)))))
def F__law_times : FM := fM 2 5 sg__law_times.ks' m__law_times
theorem sc__law_times : FnScope N__law_times p__law_times (defScope s__law_times) := ⟨rfl, rfl, rfl, by decide +kernel, rfl, by decide +kernel, by decide +kernel⟩
theorem ok__law_times (G : Gs mg) (h__law_odd : Has P w K mg base "_law_odd" 1 p__law_odd sg__law_odd F__law_odd) {fa : Addr} {fd : FuncData} (F : FnP K "_law_times" s__law_times fa fd) (hm : mg "_law_times" = some (.ref fa)) : Has P w K mg base "_law_times" 2 p__law_times sg__law_times F__law_times := by
  refine has_mk (k := 1) (n := 5) F hm sc__law_times rfl rfl (by decide) rfl (fun _ _ _ _ _ _ us hl => match us, hl with | [_, _], _ => rfl) fun cdv A outer s H E hr => ?_
  have hu := units_of hr
  exact (jb_cons (js_set (κ1 := [some 0, some 0, none, none, none]) (i := 2) (k := 99) (j_lst (k := 0) (k' := 99) ja_nil rfl (by decide)) sc__law_times.nd rfl (by trivial) rfl (.inl rfl) rfl)
    (jb_cons (JS.weak (κ1 := [some 0, some 0, some 1, none, none]) (κn := [some 0, some 0, some 1, none, none]) (κn' := [some 0, some 0, some 1, none, none]) (js_for (κ1 := [some 0, some 0, some 1, none, none]) PassesOwn.never rfl (ji_seq (j_frz (κ := [some 0, some 0, some 1, none, none]) (i := 0) (k := 0) (pv 0) rfl rfl)) (jg_name (i := 3) sc__law_times.nd rfl (by trivial) (.inl rfl))
    (JB.weak (κ1 := [some 0, some 0, some 1, some 0, none]) (κn := [some 0, some 0, some 1, some 0, none]) (jb_one (js_exp (j_mut (κ1 := [some 0, some 0, some 1, some 0, none]) (i := 2) (k0 := 1) (ja_cons (J.less (j := 0) (k := 2) (j_lc (k := 2) (own := [("_law_behind", 4)]) rfl sc__law_times.nd (ji_seq (j_frz (κ := [some 0, some 0, some 1, some 0, none]) (i := 1) (k := 0) (pv 1) rfl rfl)) (blkOk_by (N := N__law_times) (sc := defScope s__law_times) (own := [("_law_behind", 4)]) (by decide +kernel)) (fun _ _ _ _ _ => (jg_name (i := 4) sc__law_times.nd rfl (by trivial) (by trivial))) (fun _ _ _ _ _ => jts_nil) (fun _ _ _ _ _ => (j_catO (j_frz (κ := [some 0, some 0, some 1, some 0, some 0]) (i := 3) (k := 0) (pv 3) rfl rfl) (j_frz (κ := [some 0, some 0, some 1, some 0, some 0]) (i := 4) (k := 0) (pv 4) rfl rfl) fun a b => pe_op o_cat a b)) (fun _ => rfl) (by decide) rfl rfl rfl rfl rfl) (by decide)) ja_nil rfl rfl) rfl rfl rfl u_ext fun h => pe_bm PySem.F.plainAttrs_list PySem.F.slot_list_extend PySem.F.type_list_extend mt_extend (pv 2) h) rfl)) rfl rfl rfl rfl) rfl (fun _ => rfl)) rfl rfl rfl rfl)
    (jb_one (js_ret (κ1 := [some 0, some 0, some 1, none, none]) (call_pure (n := 1) (r := 99) (rz := .own 99) (ja_cons (j_var (i := 2) (pv 2) rfl) ja_nil rfl rfl) rfl (fun _ _ _ => fM_len _ _ _) (fun h => has_call h__law_odd hr (by decide) (by rfl) h (by rfl) (by rfl) (by rfl)) (.inr ⟨rfl, by decide⟩)) rfl rfl))))
abbrev N__law_word : List Str := ["_law_bag_here", "_law_names", "_law_most", "_law_k"]
abbrev p__law_word : List Str := ["_law_bag_here", "_law_names", "_law_most"]
abbrev sg__law_word : Sg := ⟨[1, 0, 0], 1, [some 1, none, none]⟩
def m__law_word : SM := (sRet (mMk .tup (mCons (mLc (false && (true && false)) [3] (mRng1 (mCons (mCallO F__law_take (some (0, 0)) (mCons (mV 0) (mCons (m2 dAdd (mV 2) (mC (.int 1))) mNil))) mNil)) (gNm 3) mYes (m2 dIxP (mV 1) (mCallO F__law_take (some (0, 0)) (mCons (mV 0) (mCons (mB fLen (mCons (mV 1) mNil)) mNil))))) mNil)))
def F__law_word : FM := fM 3 4 sg__law_word.ks' m__law_word
theorem sc__law_word : FnScope N__law_word p__law_word (defScope s__law_word) := ⟨rfl, rfl, rfl, by decide +kernel, rfl, by decide +kernel, by decide +kernel⟩
theorem ok__law_word (G : Gs mg) (h__law_take : Has P w K mg base "_law_take" 1 p__law_take sg__law_take F__law_take) {fa : Addr} {fd : FuncData} (F : FnP K "_law_word" s__law_word fa fd) (hm : mg "_law_word" = some (.ref fa)) : Has P w K mg base "_law_word" 2 p__law_word sg__law_word F__law_word := by
  refine has_mk (k := 1) (n := 4) F hm sc__law_word rfl rfl (by decide) rfl (fun _ _ _ _ _ _ us hl => match us, hl with | [_, _, _], _ => rfl) fun cdv A outer s H E hr => ?_
  have hu := units_of hr
  exact (jb_one (js_ret (κ1 := [some 1, some 0, some 0, none]) (j_mkO (k := .tup) (ja_cons (J.less (j := 0) (k := 1) (j_lc (k := 1) (own := [("_law_k", 3)]) rfl sc__law_word.nd (ji_range1 (ja_cons (call_own (sg := sg__law_take) (io := some (0, 0)) (ja_io (i := 0) (pv 0) rfl (ja_cons (J.less (j := 0) (k := 99) (J.two_read (rz := .own 99) (j_var (i := 2) (pv 2) rfl) (j_const (d := .int 1) (rz := .own 99) rfl pe_int) rfl (atOp dAdd_a) fun a b => pe_op o_add a b) (by decide)) ja_nil rfl rfl) rfl) rfl rfl rfl (fun _ _ _ h => (fM_len _ _ _ h).2.trans (fM_len _ _ _ h).1.symm) (fun h => has_call h__law_take hr (by decide) (by rfl) h (by rfl) (by rfl) (by rfl))) ja_nil rfl rfl) rfl (by rfl) G.range rfl) (blkOk_by (N := N__law_word) (sc := defScope s__law_word) (own := [("_law_k", 3)]) (by decide +kernel)) (fun _ _ _ _ _ => (jg_name (i := 3) sc__law_word.nd rfl (by trivial) (by trivial))) (fun _ _ _ _ _ => jts_nil) (fun _ _ _ _ _ => (j_ix0 hu (j_frz (κ := [some 1, some 0, some 0, some 0]) (i := 1) (k := 0) (pv 1) rfl rfl) (call_own (sg := sg__law_take) (io := some (0, 0)) (ja_io (i := 0) (pv 0) rfl (ja_cons (J.less (j := 0) (k := 99) (j_callA (rz := .own 99) (ja_cons (j_var (i := 1) (pv 1) rfl) ja_nil rfl rfl) rfl at_len fun h => pe_callB (CallR.en cr_len) (by rfl) G.len (by decide +kernel) h) (by decide)) ja_nil rfl rfl) rfl) rfl rfl rfl (fun _ _ _ h => (fM_len _ _ _ h).2.trans (fM_len _ _ _ h).1.symm) (fun h => has_call h__law_take hr (by decide) (by rfl) h (by rfl) (by rfl) (by rfl))) (fun _ _ => rfl))) (fun _ => rfl) (by decide) rfl rfl rfl rfl rfl) (by decide)) ja_nil rfl rfl) fun h => pe_callTy call_tuple_of (by rfl) G.tuple (by decide +kernel) h) rfl rfl))
abbrev N__law_sum : List Str := ["_law_bag_here", "_law_names", "_law_many", "_law_most", "_law_k"]
abbrev p__law_sum : List Str := ["_law_bag_here", "_law_names", "_law_many", "_law_most"]
abbrev sg__law_sum : Sg := ⟨[1, 0, 0, 0], 99, [some 1, none, none, none]⟩
def m__law_sum : SM := (sRet (mCall F__law_odd (mCons (mLc (false && (true && false)) [4] (mRng1 (mCons (mCallO F__law_take (some (0, 0)) (mCons (mV 0) (mCons (m2 dAdd (mV 2) (mC (.int 1))) mNil))) mNil)) (gNm 4) mYes (mCallO F__law_word (some (0, 0)) (mCons (mV 0) (mCons (mV 1) (mCons (mV 3) mNil))))) mNil)))
def F__law_sum : FM := fM 4 5 sg__law_sum.ks' m__law_sum
theorem sc__law_sum : FnScope N__law_sum p__law_sum (defScope s__law_sum) := ⟨rfl, rfl, rfl, by decide +kernel, rfl, by decide +kernel, by decide +kernel⟩
theorem ok__law_sum (G : Gs mg) (h__law_take : Has P w K mg base "_law_take" 1 p__law_take sg__law_take F__law_take) (h__law_word : Has P w K mg base "_law_word" 2 p__law_word sg__law_word F__law_word) (h__law_odd : Has P w K mg base "_law_odd" 1 p__law_odd sg__law_odd F__law_odd) {fa : Addr} {fd : FuncData} (F : FnP K "_law_sum" s__law_sum fa fd) (hm : mg "_law_sum" = some (.ref fa)) : Has P w K mg base "_law_sum" 3 p__law_sum sg__law_sum F__law_sum := by
  refine has_mk (k := 2) (n := 5) F hm sc__law_sum rfl rfl (by decide) rfl (fun _ _ _ _ _ _ us hl => match us, hl with | [_, _, _, _], _ => rfl) fun cdv A outer s H E hr => ?_
  have hu := units_of hr
  exact (jb_one (js_ret (κ1 := [some 1, some 0, some 0, some 0, none]) (call_pure (n := 1) (r := 99) (rz := .own 99) (ja_cons (j_lc (k := 2) (own := [("_law_k", 4)]) rfl sc__law_sum.nd (ji_range1 (ja_cons (call_own (sg := sg__law_take) (io := some (0, 0)) (ja_io (i := 0) (pv 0) rfl (ja_cons (J.less (j := 0) (k := 99) (J.two_read (rz := .own 99) (j_var (i := 2) (pv 2) rfl) (j_const (d := .int 1) (rz := .own 99) rfl pe_int) rfl (atOp dAdd_a) fun a b => pe_op o_add a b) (by decide)) ja_nil rfl rfl) rfl) rfl rfl rfl (fun _ _ _ h => (fM_len _ _ _ h).2.trans (fM_len _ _ _ h).1.symm) (fun h => has_call h__law_take hr (by decide) (by rfl) h (by rfl) (by rfl) (by rfl))) ja_nil rfl rfl) rfl (by rfl) G.range rfl) (blkOk_by (N := N__law_sum) (sc := defScope s__law_sum) (own := [("_law_k", 4)]) (by decide +kernel)) (fun _ _ _ _ _ => (jg_name (i := 4) sc__law_sum.nd rfl (by trivial) (by trivial))) (fun _ _ _ _ _ => jts_nil) (fun _ _ _ _ _ => (call_own (sg := sg__law_word) (io := some (0, 0)) (ja_io (i := 0) (pv 0) rfl (ja_cons (j_frz (κ := [some 1, some 0, some 0, some 0, some 0]) (i := 1) (k := 0) (pv 1) rfl rfl) (ja_cons (j_frz (κ := [some 1, some 0, some 0, some 0, some 0]) (i := 3) (k := 0) (pv 3) rfl rfl) ja_nil rfl rfl) rfl rfl) rfl) rfl rfl rfl (fun _ _ _ h => (fM_len _ _ _ h).2.trans (fM_len _ _ _ h).1.symm) (fun h => has_call h__law_word hr (by decide) (by rfl) h (by rfl) (by rfl) (by rfl)))) (fun _ => rfl) (by decide) rfl rfl rfl rfl rfl) ja_nil rfl rfl) rfl (fun _ _ _ => fM_len _ _ _) (fun h => has_call h__law_odd hr (by decide) (by rfl) h (by rfl) (by rfl) (by rfl)) (.inr ⟨rfl, by decide⟩)) rfl rfl))
abbrev N__law_right : List Str := ["_law_one", "_law_other", "_law_handed", "_law_turn", "_law_told", "_law_found"]
abbrev p__law_right : List Str := ["_law_one", "_law_other"]
abbrev sg__law_right : Sg := ⟨[0, 0], 99, [none, none]⟩
def b__law_right_0 : SM := (sSeq (sAsg 4 (mLst (mCons (mCall F_added (mCons (m2 dIx (mV 2) (mC (.int 0))) (mCons (m2 dIx (mV 2) (mC (.int 1))) mNil))) (mCons (mCall F_multiplied (mCons (m2 dIx (mV 2) (mC (.int 0))) (mCons (m2 dIx (mV 2) (mC (.int 1))) mNil))) mNil))))
  (sSeq (sIf (mOr (m2 dNe (mV 4) (mLst (mCons (mCall F__law_plus (mCons (mV 0) (mCons (mV 1) mNil))) (mCons (mCall F__law_times (mCons (mV 0) (mCons (mV 1) mNil))) mNil)))) (m2 dNe (mV 2) (mLst (mCons (mV 0) (mCons (mV 1) mNil)))))
  (sRet (mC (.bl false)))
  sNil)
  (sSeq (sIf (mOr (mNot (mTr (mCall F_is_sum (mCons (m2 dIx (mV 4) (mC (.int 0))) mNil)))) (mNot (mTr (mCall F_is_sum (mCons (m2 dIx (mV 4) (mC (.int 1))) mNil)))))
  (sRet (mC (.bl false)))
  sNil)
  (sForM 4 5
  (sSeq (sApp 5 (mTup (mCons (mC (.int 99)) mNil)))
  (sRev 5))))))
def m__law_right : SM := (sSeq (sAsg 2 (mLst (mCons (mMk .lst (mCons (mV 0) mNil)) (mCons (mMk .lst (mCons (mV 1) mNil)) mNil))))
  (sSeq (sFor (mRng1 (mCons (mC (.int 2)) mNil)) (gNm 3)
  b__law_right_0)
  (sRet (m2 dEq (mV 2) (mLst (mCons (mV 0) (mCons (mV 1) mNil)))))))
def F__law_right : FM := fM 2 6 sg__law_right.ks' m__law_right
theorem sc__law_right : FnScope N__law_right p__law_right (defScope s__law_right) := ⟨rfl, rfl, rfl, by decide +kernel, rfl, by decide +kernel, by decide +kernel⟩
theorem ok__law_right (G : Gs mg) (h_added : Has P w K mg base "added" 2 p_added sg_added F_added) (h_multiplied : Has P w K mg base "multiplied" 2 p_multiplied sg_multiplied F_multiplied) (h__law_plus : Has P w K mg base "_law_plus" 2 p__law_plus sg__law_plus F__law_plus) (h__law_times : Has P w K mg base "_law_times" 2 p__law_times sg__law_times F__law_times) (h_is_sum : Has P w K mg base "is_sum" 3 p_is_sum sg_is_sum F_is_sum) {fa : Addr} {fd : FuncData} (F : FnP K "_law_right" s__law_right fa fd) (hm : mg "_law_right" = some (.ref fa)) : Has P w K mg base "_law_right" 4 p__law_right sg__law_right F__law_right := by
  refine has_mk (k := 3) (n := 6) F hm sc__law_right rfl rfl (by decide) rfl (fun _ _ _ _ _ _ us hl => match us, hl with | [_, _], _ => rfl) fun cdv A outer s H E hr => ?_
  have hu := units_of hr
  exact (jb_cons (js_set (κ1 := [some 0, some 0, none, none, none, none]) (i := 2) (k := 2) (j_lst (k := 0) (k' := 2) (ja_cons (j_mkO (k := .lst) (ja_cons (j_frz (κ := [some 0, some 0, none, none, none, none]) (i := 0) (k := 0) (pv 0) rfl rfl) ja_nil rfl rfl) fun h => pe_callTy call_list_of (by rfl) G.list (by decide +kernel) h) (ja_cons (j_mkO (k := .lst) (ja_cons (j_frz (κ := [some 0, some 0, none, none, none, none]) (i := 1) (k := 0) (pv 1) rfl rfl) ja_nil rfl rfl) fun h => pe_callTy call_list_of (by rfl) G.list (by decide +kernel) h) ja_nil rfl rfl) rfl rfl) rfl (by decide)) sc__law_right.nd rfl (by trivial) rfl (.inl rfl) rfl)
    (jb_cons (js_for (κ1 := [some 0, some 0, some 2, none, none, none]) PassesOwn.never rfl (ji_range1 (ja_cons (j_const (d := .int 2) (rz := .own 99) rfl pe_int) ja_nil rfl rfl) rfl (by rfl) G.range rfl) (jg_name (i := 3) sc__law_right.nd rfl (by trivial) (.inl rfl))
    (JB.weak (κ1 := [some 0, some 0, some 2, some 0, none, none]) (κn := [some 0, some 0, some 2, some 0, some 2, none]) (jb_cons (js_set (κ1 := [some 0, some 0, some 2, some 0, none, none]) (i := 4) (k := 99) (j_lst (k := 0) (k' := 99) (ja_cons (call_pure (n := 2) (r := 99) (rz := .own 99) (ja_cons (j_ix hu (j_var (i := 2) (pv 2) rfl) (j_const (d := .int 0) (rz := .own 99) rfl pe_int) rfl (fun _ _ => rfl)) (ja_cons (j_ix hu (j_var (i := 2) (pv 2) rfl) (j_const (d := .int 1) (rz := .own 99) rfl pe_int) rfl (fun _ _ => rfl)) ja_nil rfl rfl) rfl rfl) rfl (fun _ _ _ => fM_len _ _ _) (fun h => has_call h_added hr (by decide) (by rfl) h (by rfl) (by rfl) (by rfl)) (.inr ⟨rfl, by decide⟩)) (ja_cons (call_pure (n := 2) (r := 99) (rz := .own 99) (ja_cons (j_ix hu (j_var (i := 2) (pv 2) rfl) (j_const (d := .int 0) (rz := .own 99) rfl pe_int) rfl (fun _ _ => rfl)) (ja_cons (j_ix hu (j_var (i := 2) (pv 2) rfl) (j_const (d := .int 1) (rz := .own 99) rfl pe_int) rfl (fun _ _ => rfl)) ja_nil rfl rfl) rfl rfl) rfl (fun _ _ _ => fM_len _ _ _) (fun h => has_call h_multiplied hr (by decide) (by rfl) h (by rfl) (by rfl) (by rfl)) (.inr ⟨rfl, by decide⟩)) ja_nil rfl rfl) rfl rfl) rfl (by decide)) sc__law_right.nd rfl (by trivial) rfl (.inl rfl) rfl)
    (jb_cons (js_if (κ1 := [some 0, some 0, some 2, some 0, some 99, none]) (κ2 := [some 0, some 0, some 2, some 0, some 99, none]) (JW.jt (jw_or (JT.two_read (j_var (i := 4) (pv 4) rfl) (j_lst (k := 0) (k' := 99) (ja_cons (call_pure (n := 2) (r := 99) (rz := .own 99) (ja_cons (j_var (i := 0) (pv 0) rfl) (ja_cons (j_var (i := 1) (pv 1) rfl) ja_nil rfl rfl) rfl rfl) rfl (fun _ _ _ => fM_len _ _ _) (fun h => has_call h__law_plus hr (by decide) (by rfl) h (by rfl) (by rfl) (by rfl)) (.inr ⟨rfl, by decide⟩)) (ja_cons (call_pure (n := 2) (r := 99) (rz := .own 99) (ja_cons (j_var (i := 0) (pv 0) rfl) (ja_cons (j_var (i := 1) (pv 1) rfl) ja_nil rfl rfl) rfl rfl) rfl (fun _ _ _ => fM_len _ _ _) (fun h => has_call h__law_times hr (by decide) (by rfl) h (by rfl) (by rfl) (by rfl)) (.inr ⟨rfl, by decide⟩)) ja_nil rfl rfl) rfl rfl) rfl (by decide)) rfl (atOp dNe_a) fun a b => pt_cmpR (o_ne hu) a b (nomark _)) (jw_or1 (JT.two_read (j_var (i := 2) (pv 2) rfl) (j_lst (k := 0) (k' := 1) (ja_cons (j_frz (κ := [some 0, some 0, some 2, some 0, some 99, none]) (i := 0) (k := 0) (pv 0) rfl rfl) (ja_cons (j_frz (κ := [some 0, some 0, some 2, some 0, some 99, none]) (i := 1) (k := 0) (pv 1) rfl rfl) ja_nil rfl rfl) rfl rfl) rfl (by decide)) rfl (atOp dNe_a) fun a b => pt_cmpR (o_ne hu) a b (nomark _))) rfl rfl))
    (jb_one (js_ret (κ1 := [some 0, some 0, some 2, some 0, some 99, none]) (j_const (d := .bl false) (rz := .own 99) rfl pe_bl) rfl rfl))
    jb_nil)
    (jb_cons (js_if (κ1 := [some 0, some 0, some 2, some 0, some 99, none]) (κ2 := [some 0, some 0, some 2, some 0, some 99, none]) (JW.jt (jw_or (jt_not (jt_val (call_pure (n := 1) (r := 99) (rz := .rep) (ja_cons (j_ix hu (j_var (i := 4) (pv 4) rfl) (j_const (d := .int 0) (rz := .own 99) rfl pe_int) rfl (fun _ _ => rfl)) ja_nil rfl rfl) rfl (fun _ _ _ => fM_len _ _ _) (fun h => has_call h_is_sum hr (by decide) (by rfl) h (by rfl) (by rfl) (by rfl)) (.inl rfl)) (fun _ => rfl))) (jw_or1 (jt_not (jt_val (call_pure (n := 1) (r := 99) (rz := .rep) (ja_cons (j_ix hu (j_var (i := 4) (pv 4) rfl) (j_const (d := .int 1) (rz := .own 99) rfl pe_int) rfl (fun _ _ => rfl)) ja_nil rfl rfl) rfl (fun _ _ _ => fM_len _ _ _) (fun h => has_call h_is_sum hr (by decide) (by rfl) h (by rfl) (by rfl) (by rfl)) (.inl rfl)) (fun _ => rfl)))) rfl rfl))
    (jb_one (js_ret (κ1 := [some 0, some 0, some 2, some 0, some 99, none]) (j_const (d := .bl false) (rz := .own 99) rfl pe_bl) rfl rfl))
    jb_nil)
    (jb_one (JS.weak (κ1 := [some 0, some 0, some 2, some 0, some 2, none]) (κn := [some 0, some 0, some 2, some 0, some 2, none]) (κn' := [some 0, some 0, some 2, some 0, some 2, none]) (js_forM (i := 4) (j := 5) (k := 2) (κb' := [some 0, some 0, some 2, some 0, none, some 1]) (by decide) (by exact Nat.le_of_ble_eq_true rfl) (by exact Nat.le_of_ble_eq_true rfl) rfl (by decide) (jb_cons (js_app (i := 5) (k := 1) (J.less (j := 0) (k := 99) (j_tup (k' := 99) (ja_cons (j_const (d := .int 99) (rz := .own 99) rfl pe_int) ja_nil rfl rfl) rfl) (by decide)) rfl rfl (by decide) (by exact Nat.le_of_ble_eq_true rfl) fun h => ps_expr (pe_bm PySem.F.plainAttrs_list PySem.F.slot_list_append PySem.F.type_list_append mt_append (pv 5) (pa_cons h pa_nil)))
    (jb_one (js_rev (i := 5) rfl (ps_expr (pe_bm0 PySem.F.plainAttrs_list PySem.F.slot_list_reverse PySem.F.type_list_reverse mt_reverse (pv 5))))))
    (show NoRt _ from by repeat' first | exact nr_nil | exact nr_asg | exact nr_exp | exact nr_app | exact nr_rev | exact nr_set | exact nr_forM | apply nr_seq | apply nr_if | apply nr_for) rfl rfl rfl rfl rfl rfl (fun h => ps_for PassesOwn.never rfl (pi_list (pv 4)) (pg_name (i := 5) sc__law_right.nd rfl (by trivial) (.inl rfl)) h (fun _ => rfl))) rfl rfl rfl rfl))))) rfl rfl rfl rfl) rfl (fun _ => rfl))
    (jb_one (js_ret (κ1 := [some 0, some 0, some 2, none, none, none]) (J.two_read (rz := .own 99) (j_var (i := 2) (pv 2) rfl) (j_lst (k := 0) (k' := 1) (ja_cons (j_frz (κ := [some 0, some 0, some 2, none, none, none]) (i := 0) (k := 0) (pv 0) rfl rfl) (ja_cons (j_frz (κ := [some 0, some 0, some 2, none, none, none]) (i := 1) (k := 0) (pv 1) rfl rfl) ja_nil rfl rfl) rfl rfl) rfl (by decide)) rfl (atOp dEq_a) fun a b => pe_cmpR (o_eq hu) a b (nomark _)) rfl rfl))))
abbrev N_law : List Str := ["_law_script", "_law_at", "_law_bag_here", "_law_names", "_law_one", "_law_other", "_law_third", "_law_pairs", "_law_few", "_law_first", "_law_second"]
abbrev p_law : List Str := ["_law_script"]
abbrev sg_law : Sg := ⟨[0], 99, [none]⟩
def b_law_0 : SM := (sSeq (sAsg 2 (mCall F__law_bag (mCons (mV 0) (mCons (mV 1) mNil))))
  (sSeq (sAsg 3 (mLRg (m2 dAdd (mC (.int 1)) (mCallO F__law_take (some (0, 2)) (mCons (mV 2) (mCons (mC (.int 30)) mNil))))))
  (sSeq (sAsg 4 (mCallO F__law_sum (some (0, 2)) (mIo 2 (mCons (mV 3) (mCons (mA (m2 dIxP (mLst (mCons (mC (.int 8)) (mCons (mC (.int 8)) (mCons (mC (.int 8)) (mCons (mC (.int 40)) mNil))))) (mCallO F__law_take (some (0, 2)) (mCons (mV 2) (mCons (mC (.int 4)) mNil))))) (mCons (mC (.int 8)) mNil))))))
  (sSeq (sAsg 5 (mCallO F__law_sum (some (0, 2)) (mCons (mV 2) (mCons (mV 3) (mCons (mC (.int 8)) (mCons (mC (.int 4)) mNil))))))
  (sSeq (sIf (m2 dEq (mCallO F__law_take (some (0, 2)) (mCons (mV 2) (mCons (mC (.int 2)) mNil))) (mC (.int 1)))
  (sAsg 5 (mCallO F__law_plus (none) (mCons (mV 5) (mCons (mSlI (mV 4) oNone (oSomeI (mCallO F__law_take (some (0, 2)) (mCons (mV 2) (mCons (mC (.int 9)) mNil)))) dSl) mNil))))
  sNil)
  (sSeq (sAsg 6 (mCallO F__law_sum (some (0, 2)) (mCons (mV 2) (mCons (mV 3) (mCons (mC (.int 8)) (mCons (mC (.int 3)) mNil))))))
  (sSeq (sAsg 7 (mLst (mCons (mTup (mCons (mV 4) (mCons (mV 5) mNil))) (mCons (mTup (mCons (mV 5) (mCons (mV 4) mNil))) (mCons (mTup (mCons (mV 4) (mCons (mLst mNil) mNil))) (mCons (mTup (mCons (mLst mNil) (mCons (mV 5) mNil))) (mCons (mTup (mCons (mV 4) (mCons (mV 4) mNil))) (mCons (mTup (mCons (mV 5) (mCons (mLst (mCons (mTup mNil) mNil)) mNil))) (mCons (mTup (mCons (mLst (mCons (mTup mNil) mNil)) (mCons (mV 5) mNil))) mNil)))))))))
  (sSeq (sIf (mNot (mTr (mB fAll (mCons (mLc (true && (true && true)) [9, 10] (mSeq (mV 7)) (gTp (gsCons (gNm 9) (gsCons (gNm 10) gsNil))) mYes (mCall F__law_right (mCons (mV 9) (mCons (mV 10) mNil)))) mNil))))
  (sRet (mC (.bl false)))
  sNil)
  (sSeq (sIf (m2 dNe (mCall F_multiplied (mCons (mV 4) (mCons (mCall F_added (mCons (mV 5) (mCons (mV 6) mNil))) mNil))) (mCall F_added (mCons (mCall F_multiplied (mCons (mV 4) (mCons (mV 5) mNil))) (mCons (mCall F_multiplied (mCons (mV 4) (mCons (mV 6) mNil))) mNil))))
  (sRet (mC (.bl false)))
  sNil)
  (sSeq (sIf (m2 dNe (mCall F_multiplied (mCons (mCall F_added (mCons (mV 5) (mCons (mV 6) mNil))) (mCons (mV 4) mNil))) (mCall F_added (mCons (mCall F_multiplied (mCons (mV 5) (mCons (mV 4) mNil))) (mCons (mCall F_multiplied (mCons (mV 6) (mCons (mV 4) mNil))) mNil))))
  (sRet (mC (.bl false)))
  sNil)
  (sSeq (sAsg 8 (mSl (mV 4) oNone (oSome (mC (.int 8))) dSl))
  (sIf (m2 dNe (mCall F_multiplied (mCons (mCall F_multiplied (mCons (mV 8) (mCons (mSl (mV 5) oNone (oSome (mC (.int 8))) dSl) mNil))) (mCons (mV 6) mNil))) (mCall F_multiplied (mCons (mV 8) (mCons (mCall F_multiplied (mCons (mSl (mV 5) oNone (oSome (mC (.int 8))) dSl) (mCons (mV 6) mNil))) mNil))))
  (sRet (mC (.bl false)))
  sNil))))))))))))
def m_law : SM := (sSeq (sFor (mRng1 (mCons (mB fMax2 (mCons (mC (.int 3)) (mCons (mB fMin2 (mCons (mB fLen (mCons (mV 0) mNil)) (mCons (mC (.int 8)) mNil))) mNil))) mNil)) (gNm 1)
  b_law_0)
  (sRet (mC (.bl true))))
def F_law : FM := fM 1 11 sg_law.ks' m_law
theorem sc_law : FnScope N_law p_law (defScope s_law) := ⟨rfl, rfl, rfl, by decide +kernel, rfl, by decide +kernel, by decide +kernel⟩
theorem ok_law (G : Gs mg) (h__law_bag : Has P w K mg base "_law_bag" 1 p__law_bag sg__law_bag F__law_bag) (h__law_take : Has P w K mg base "_law_take" 1 p__law_take sg__law_take F__law_take) (h__law_sum : Has P w K mg base "_law_sum" 3 p__law_sum sg__law_sum F__law_sum) (h__law_plus : Has P w K mg base "_law_plus" 2 p__law_plus sg__law_plus F__law_plus) (h__law_right : Has P w K mg base "_law_right" 4 p__law_right sg__law_right F__law_right) (h_added : Has P w K mg base "added" 2 p_added sg_added F_added) (h_multiplied : Has P w K mg base "multiplied" 2 p_multiplied sg_multiplied F_multiplied) {fa : Addr} {fd : FuncData} (F : FnP K "law" s_law fa fd) : FnOk P w K mg base CX0 5 fa fd p_law (fnSp K sg_law F_law) := by
  refine fn_mk (k := 4) (n := 11) F sc_law rfl rfl (by decide) rfl fun cdv A outer s H E hr => ?_
  have hu := units_of hr
  exact (jb_cons (js_for (κ1 := [some 0, none, none, none, none, none, none, none, none, none, none]) PassesOwn.never rfl (ji_range1 (ja_cons (j_callA (rz := .own 99) (ja_cons (j_const (d := .int 3) (rz := .own 99) rfl pe_int) (ja_cons (j_callA (rz := .own 99) (ja_cons (j_callA (rz := .own 99) (ja_cons (j_var (i := 0) (pv 0) rfl) ja_nil rfl rfl) rfl at_len fun h => pe_callB (CallR.en cr_len) (by rfl) G.len (by decide +kernel) h) (ja_cons (j_const (d := .int 8) (rz := .own 99) rfl pe_int) ja_nil rfl rfl) rfl rfl) rfl at_min2 fun h => pe_callB (CallR.en (call_min2 rfl)) (by rfl) G.min (by decide +kernel) h) ja_nil rfl rfl) rfl rfl) rfl at_max2 fun h => pe_callB (CallR.en (call_max2 rfl)) (by rfl) G.max (by decide +kernel) h) ja_nil rfl rfl) rfl (by rfl) G.range rfl) (jg_name (i := 1) sc_law.nd rfl (by trivial) (.inl rfl))
    (JB.weak (κ1 := [some 0, some 0, none, none, none, none, none, none, none, none, none]) (κn := [some 0, some 0, some 1, some 0, some 0, some 0, some 99, some 2, some 1, none, none]) (jb_cons (js_set (κ1 := [some 0, some 0, none, none, none, none, none, none, none, none, none]) (i := 2) (k := 99) (call_pure (n := 2) (r := 99) (rz := .own 99) (ja_cons (j_var (i := 0) (pv 0) rfl) (ja_cons (j_var (i := 1) (pv 1) rfl) ja_nil rfl rfl) rfl rfl) rfl (fun _ _ _ => fM_len _ _ _) (fun h => has_call h__law_bag hr (by decide) (by rfl) h (by rfl) (by rfl) (by rfl)) (.inr ⟨rfl, by decide⟩)) sc_law.nd rfl (by trivial) rfl (.inl rfl) rfl)
    (jb_cons (JS.weak (κ1 := [some 0, some 0, some 1, none, none, none, none, none, none, none, none]) (κn := [some 0, some 0, some 1, some 1, none, none, none, none, none, none, none]) (κn' := [some 0, some 0, some 1, some 1, none, none, none, none, none, none, none]) (js_set (κ1 := [some 0, some 0, some 1, none, none, none, none, none, none, none, none]) (i := 3) (k := 1) (j_lrg rfl (J.two_read (rz := .own 99) (j_const (d := .int 1) (rz := .own 99) rfl pe_int) (call_own (sg := sg__law_take) (io := some (0, 2)) (ja_io (i := 2) (pv 2) rfl (ja_cons (J.less (j := 0) (k := 99) (j_const (d := .int 30) (rz := .own 99) rfl pe_int) (by decide)) ja_nil rfl rfl) rfl) rfl rfl rfl (fun _ _ _ h => (fM_len _ _ _ h).2.trans (fM_len _ _ _ h).1.symm) (fun h => has_call h__law_take hr (by decide) (by rfl) h (by rfl) (by rfl) (by rfl))) rfl (atOp dAdd_a) fun a b => pe_op o_add a b) (by rfl) G.list (by rfl) G.range rfl rfl) sc_law.nd rfl (by trivial) rfl (.inl rfl) rfl) rfl rfl rfl rfl)
    (jb_cons (js_set (κ1 := [some 0, some 0, some 1, some 0, none, none, none, none, none, none, none]) (i := 4) (k := 99) (call_own (sg := sg__law_sum) (io := some (0, 2)) (ja_ioX (i := 2) (pv 2) rfl rfl (ja_cons (j_frz (κ := [some 0, some 0, some 1, some 1, none, none, none, none, none, none, none]) (i := 3) (k := 1) (pv 3) rfl rfl) (ja_cons (J.less (j := 0) (k := 99) (J.asAtom (z' := .own 99) (j_ix0 hu (J.less (j := 0) (k := 99) (j_lst (k := 0) (k' := 99) (ja_cons (j_const (d := .int 8) (rz := .own 99) rfl pe_int) (ja_cons (j_const (d := .int 8) (rz := .own 99) rfl pe_int) (ja_cons (j_const (d := .int 8) (rz := .own 99) rfl pe_int) (ja_cons (j_const (d := .int 40) (rz := .own 99) rfl pe_int) ja_nil rfl rfl) rfl rfl) rfl rfl) rfl rfl) rfl (by decide)) (by decide)) (call_own (sg := sg__law_take) (io := some (0, 2)) (ja_io (i := 2) (pv 2) rfl (ja_cons (J.less (j := 0) (k := 99) (j_const (d := .int 4) (rz := .own 99) rfl pe_int) (by decide)) ja_nil rfl rfl) rfl) rfl rfl rfl (fun _ _ _ h => (fM_len _ _ _ h).2.trans (fM_len _ _ _ h).1.symm) (fun h => has_call h__law_take hr (by decide) (by rfl) h (by rfl) (by rfl) (by rfl))) (fun _ _ => rfl))) (by decide)) (ja_cons (J.less (j := 0) (k := 99) (j_const (d := .int 8) (rz := .own 99) rfl pe_int) (by decide)) ja_nil rfl rfl) rfl rfl) rfl rfl) rfl) rfl rfl rfl (fun _ _ _ h => (fM_len _ _ _ h).2.trans (fM_len _ _ _ h).1.symm) (fun h => has_call h__law_sum hr (by decide) (by rfl) h (by rfl) (by rfl) (by rfl))) sc_law.nd rfl (by trivial) rfl (.inl rfl) rfl)
    (jb_cons (js_set (κ1 := [some 0, some 0, some 1, some 0, some 99, none, none, none, none, none, none]) (i := 5) (k := 99) (call_own (sg := sg__law_sum) (io := some (0, 2)) (ja_io (i := 2) (pv 2) rfl (ja_cons (j_frz (κ := [some 0, some 0, some 1, some 0, some 99, none, none, none, none, none, none]) (i := 3) (k := 0) (pv 3) rfl rfl) (ja_cons (J.less (j := 0) (k := 99) (j_const (d := .int 8) (rz := .own 99) rfl pe_int) (by decide)) (ja_cons (J.less (j := 0) (k := 99) (j_const (d := .int 4) (rz := .own 99) rfl pe_int) (by decide)) ja_nil rfl rfl) rfl rfl) rfl rfl) rfl) rfl rfl rfl (fun _ _ _ h => (fM_len _ _ _ h).2.trans (fM_len _ _ _ h).1.symm) (fun h => has_call h__law_sum hr (by decide) (by rfl) h (by rfl) (by rfl) (by rfl))) sc_law.nd rfl (by trivial) rfl (.inl rfl) rfl)
    (jb_cons (js_if (κ1 := [some 0, some 0, some 1, some 0, some 99, some 99, none, none, none, none, none]) (κ2 := [some 0, some 0, some 1, some 0, some 0, some 99, none, none, none, none, none]) (JT.two_read (call_own (sg := sg__law_take) (io := some (0, 2)) (ja_io (i := 2) (pv 2) rfl (ja_cons (J.less (j := 0) (k := 99) (j_const (d := .int 2) (rz := .own 99) rfl pe_int) (by decide)) ja_nil rfl rfl) rfl) rfl rfl rfl (fun _ _ _ h => (fM_len _ _ _ h).2.trans (fM_len _ _ _ h).1.symm) (fun h => has_call h__law_take hr (by decide) (by rfl) h (by rfl) (by rfl) (by rfl))) (j_const (d := .int 1) (rz := .own 99) rfl pe_int) rfl (atOp dEq_a) fun a b => pt_cmpR (o_eq hu) a b (nomark _))
    (jb_one (js_set (κ1 := [some 0, some 0, some 1, some 0, some 0, some 0, none, none, none, none, none]) (i := 5) (k := 99) (call_own (sg := sg__law_plus) (io := none) (ja_cons (j_frz (κ := [some 0, some 0, some 1, some 0, some 99, some 99, none, none, none, none, none]) (i := 5) (k := 99) (pv 5) rfl rfl) (ja_cons (J.less (j := 0) (k := 1) (j_slOI (j_frz (κ := [some 0, some 0, some 1, some 0, some 99, some 0, none, none, none, none, none]) (i := 4) (k := 99) (pv 4) rfl rfl) jo_none (joi_some (call_own (sg := sg__law_take) (io := some (0, 2)) (ja_io (i := 2) (pv 2) rfl (ja_cons (J.less (j := 0) (k := 99) (j_const (d := .int 9) (rz := .own 99) rfl pe_int) (by decide)) ja_nil rfl rfl) rfl) rfl rfl rfl (fun _ _ _ h => (fM_len _ _ _ h).2.trans (fM_len _ _ _ h).1.symm) (fun h => has_call h__law_take hr (by decide) (by rfl) h (by rfl) (by rfl) (by rfl))))) (by decide)) ja_nil rfl rfl) rfl rfl) rfl rfl rfl (fun _ _ _ h => (fM_len _ _ _ h).2.trans (fM_len _ _ _ h).1.symm) (fun h => has_call h__law_plus hr (by decide) (by rfl) h (by rfl) (by rfl) (by rfl))) sc_law.nd rfl (by trivial) rfl (.inl rfl) rfl))
    (JB.weak (κ1 := [some 0, some 0, some 1, some 0, some 99, some 99, none, none, none, none, none]) (κn := [some 0, some 0, some 1, some 0, some 99, some 99, none, none, none, none, none]) jb_nil rfl rfl rfl rfl))
    (jb_cons (js_set (κ1 := [some 0, some 0, some 1, some 0, some 0, some 99, none, none, none, none, none]) (i := 6) (k := 99) (call_own (sg := sg__law_sum) (io := some (0, 2)) (ja_io (i := 2) (pv 2) rfl (ja_cons (j_frz (κ := [some 0, some 0, some 1, some 0, some 0, some 99, none, none, none, none, none]) (i := 3) (k := 0) (pv 3) rfl rfl) (ja_cons (J.less (j := 0) (k := 99) (j_const (d := .int 8) (rz := .own 99) rfl pe_int) (by decide)) (ja_cons (J.less (j := 0) (k := 99) (j_const (d := .int 3) (rz := .own 99) rfl pe_int) (by decide)) ja_nil rfl rfl) rfl rfl) rfl rfl) rfl) rfl rfl rfl (fun _ _ _ h => (fM_len _ _ _ h).2.trans (fM_len _ _ _ h).1.symm) (fun h => has_call h__law_sum hr (by decide) (by rfl) h (by rfl) (by rfl) (by rfl))) sc_law.nd rfl (by trivial) rfl (.inl rfl) rfl)
    (jb_cons (js_set (κ1 := [some 0, some 0, some 1, some 0, some 0, some 0, some 99, none, none, none, none]) (i := 7) (k := 2) (j_lst (k := 0) (k' := 2) (ja_cons (j_tup (k' := 1) (ja_cons (j_frz (κ := [some 0, some 0, some 1, some 0, some 0, some 99, some 99, none, none, none, none]) (i := 4) (k := 0) (pv 4) rfl rfl) (ja_cons (j_frz (κ := [some 0, some 0, some 1, some 0, some 0, some 99, some 99, none, none, none, none]) (i := 5) (k := 99) (pv 5) rfl rfl) ja_nil rfl rfl) rfl rfl) rfl) (ja_cons (j_tup (k' := 1) (ja_cons (j_frz (κ := [some 0, some 0, some 1, some 0, some 0, some 0, some 99, none, none, none, none]) (i := 5) (k := 0) (pv 5) rfl rfl) (ja_cons (j_frz (κ := [some 0, some 0, some 1, some 0, some 0, some 0, some 99, none, none, none, none]) (i := 4) (k := 0) (pv 4) rfl rfl) ja_nil rfl rfl) rfl rfl) rfl) (ja_cons (j_tup (k' := 1) (ja_cons (j_frz (κ := [some 0, some 0, some 1, some 0, some 0, some 0, some 99, none, none, none, none]) (i := 4) (k := 0) (pv 4) rfl rfl) (ja_cons (J.less (j := 0) (k := 99) (j_lst (k := 0) (k' := 99) ja_nil rfl (by decide)) (by decide)) ja_nil rfl rfl) rfl rfl) rfl) (ja_cons (j_tup (k' := 1) (ja_cons (J.less (j := 0) (k := 99) (j_lst (k := 0) (k' := 99) ja_nil rfl (by decide)) (by decide)) (ja_cons (j_frz (κ := [some 0, some 0, some 1, some 0, some 0, some 0, some 99, none, none, none, none]) (i := 5) (k := 0) (pv 5) rfl rfl) ja_nil rfl rfl) rfl rfl) rfl) (ja_cons (j_tup (k' := 1) (ja_cons (j_frz (κ := [some 0, some 0, some 1, some 0, some 0, some 0, some 99, none, none, none, none]) (i := 4) (k := 0) (pv 4) rfl rfl) (ja_cons (j_frz (κ := [some 0, some 0, some 1, some 0, some 0, some 0, some 99, none, none, none, none]) (i := 4) (k := 0) (pv 4) rfl rfl) ja_nil rfl rfl) rfl rfl) rfl) (ja_cons (j_tup (k' := 1) (ja_cons (j_frz (κ := [some 0, some 0, some 1, some 0, some 0, some 0, some 99, none, none, none, none]) (i := 5) (k := 0) (pv 5) rfl rfl) (ja_cons (J.less (j := 0) (k := 99) (j_lst (k := 0) (k' := 99) (ja_cons (j_tup (k' := 99) ja_nil rfl) ja_nil rfl rfl) rfl (by decide)) (by decide)) ja_nil rfl rfl) rfl rfl) rfl) (ja_cons (j_tup (k' := 1) (ja_cons (J.less (j := 0) (k := 99) (j_lst (k := 0) (k' := 99) (ja_cons (j_tup (k' := 99) ja_nil rfl) ja_nil rfl rfl) rfl (by decide)) (by decide)) (ja_cons (j_frz (κ := [some 0, some 0, some 1, some 0, some 0, some 0, some 99, none, none, none, none]) (i := 5) (k := 0) (pv 5) rfl rfl) ja_nil rfl rfl) rfl rfl) rfl) ja_nil rfl rfl) rfl rfl) rfl rfl) rfl rfl) rfl rfl) rfl rfl) rfl rfl) rfl (by decide)) sc_law.nd rfl (by trivial) rfl (.inl rfl) rfl)
    (jb_cons (js_if (κ1 := [some 0, some 0, some 1, some 0, some 0, some 0, some 99, some 2, none, none, none]) (κ2 := [some 0, some 0, some 1, some 0, some 0, some 0, some 99, some 2, none, none, none]) (jt_not (jt_val (j_callA (rz := .own 99) (ja_cons (J.borrow (κ0 := [some 0, some 0, some 1, some 0, some 0, some 0, some 99, some 2, none, none, none]) (κ1 := [some 0, some 0, some 1, some 0, some 0, some 0, some 99, some 0, none, none, none]) (j_lc (k := 99) (own := [("_law_first", 9), ("_law_second", 10)]) rfl sc_law.nd (ji_seq (j_frz (κ := [some 0, some 0, some 1, some 0, some 0, some 0, some 99, some 2, none, none, none]) (i := 7) (k := 2) (pv 7) rfl rfl)) (blkOk_by (N := N_law) (sc := defScope s_law) (own := [("_law_first", 9), ("_law_second", 10)]) (by decide +kernel)) (fun _ _ _ _ _ => (jg_tup (n := 2) rfl (jgs_cons (jg_name (i := 9) sc_law.nd rfl (by trivial) (by trivial)) (jgs_cons (jg_name (i := 10) sc_law.nd rfl (by trivial) (by trivial)) jgs_nil fun a b => pgs_cons a b) fun a b => pgs_cons a b) rfl rfl (gs_lenS (gs_lenS gs_len0)))) (fun _ _ _ _ _ => jts_nil) (fun _ _ _ _ _ => (call_pure (n := 2) (r := 99) (rz := .own 99) (ja_cons (j_var (i := 9) (pv 9) rfl) (ja_cons (j_var (i := 10) (pv 10) rfl) ja_nil rfl rfl) rfl rfl) rfl (fun _ _ _ => fM_len _ _ _) (fun h => has_call h__law_right hr (by decide) (by rfl) h (by rfl) (by rfl) (by rfl)) (.inr ⟨rfl, by decide⟩))) (fun _ => rfl) (by decide) rfl rfl rfl rfl rfl) rfl rfl) ja_nil rfl rfl) rfl at_all fun h => pe_callB (CallR.en (cr_all rfl)) (by rfl) G.all (by decide +kernel) h) (fun _ => rfl)))
    (jb_one (js_ret (κ1 := [some 0, some 0, some 1, some 0, some 0, some 0, some 99, some 2, none, none, none]) (j_const (d := .bl false) (rz := .own 99) rfl pe_bl) rfl rfl))
    jb_nil)
    (jb_cons (js_if (κ1 := [some 0, some 0, some 1, some 0, some 0, some 0, some 99, some 2, none, none, none]) (κ2 := [some 0, some 0, some 1, some 0, some 0, some 0, some 99, some 2, none, none, none]) (JT.two_read (call_pure (n := 2) (r := 99) (rz := .rep) (ja_cons (j_var (i := 4) (pv 4) rfl) (ja_cons (call_pure (n := 2) (r := 99) (rz := .rep) (ja_cons (j_var (i := 5) (pv 5) rfl) (ja_cons (j_var (i := 6) (pv 6) rfl) ja_nil rfl rfl) rfl rfl) rfl (fun _ _ _ => fM_len _ _ _) (fun h => has_call h_added hr (by decide) (by rfl) h (by rfl) (by rfl) (by rfl)) (.inl rfl)) ja_nil rfl rfl) rfl rfl) rfl (fun _ _ _ => fM_len _ _ _) (fun h => has_call h_multiplied hr (by decide) (by rfl) h (by rfl) (by rfl) (by rfl)) (.inl rfl)) (call_pure (n := 2) (r := 99) (rz := .rep) (ja_cons (call_pure (n := 2) (r := 99) (rz := .rep) (ja_cons (j_var (i := 4) (pv 4) rfl) (ja_cons (j_var (i := 5) (pv 5) rfl) ja_nil rfl rfl) rfl rfl) rfl (fun _ _ _ => fM_len _ _ _) (fun h => has_call h_multiplied hr (by decide) (by rfl) h (by rfl) (by rfl) (by rfl)) (.inl rfl)) (ja_cons (call_pure (n := 2) (r := 99) (rz := .rep) (ja_cons (j_var (i := 4) (pv 4) rfl) (ja_cons (j_var (i := 6) (pv 6) rfl) ja_nil rfl rfl) rfl rfl) rfl (fun _ _ _ => fM_len _ _ _) (fun h => has_call h_multiplied hr (by decide) (by rfl) h (by rfl) (by rfl) (by rfl)) (.inl rfl)) ja_nil rfl rfl) rfl rfl) rfl (fun _ _ _ => fM_len _ _ _) (fun h => has_call h_added hr (by decide) (by rfl) h (by rfl) (by rfl) (by rfl)) (.inl rfl)) rfl (atOp dNe_a) fun a b => pt_cmpR (o_ne hu) a b (nomark _))
    (jb_one (js_ret (κ1 := [some 0, some 0, some 1, some 0, some 0, some 0, some 99, some 2, none, none, none]) (j_const (d := .bl false) (rz := .own 99) rfl pe_bl) rfl rfl))
    jb_nil)
    (jb_cons (js_if (κ1 := [some 0, some 0, some 1, some 0, some 0, some 0, some 99, some 2, none, none, none]) (κ2 := [some 0, some 0, some 1, some 0, some 0, some 0, some 99, some 2, none, none, none]) (JT.two_read (call_pure (n := 2) (r := 99) (rz := .rep) (ja_cons (call_pure (n := 2) (r := 99) (rz := .rep) (ja_cons (j_var (i := 5) (pv 5) rfl) (ja_cons (j_var (i := 6) (pv 6) rfl) ja_nil rfl rfl) rfl rfl) rfl (fun _ _ _ => fM_len _ _ _) (fun h => has_call h_added hr (by decide) (by rfl) h (by rfl) (by rfl) (by rfl)) (.inl rfl)) (ja_cons (j_var (i := 4) (pv 4) rfl) ja_nil rfl rfl) rfl rfl) rfl (fun _ _ _ => fM_len _ _ _) (fun h => has_call h_multiplied hr (by decide) (by rfl) h (by rfl) (by rfl) (by rfl)) (.inl rfl)) (call_pure (n := 2) (r := 99) (rz := .rep) (ja_cons (call_pure (n := 2) (r := 99) (rz := .rep) (ja_cons (j_var (i := 5) (pv 5) rfl) (ja_cons (j_var (i := 4) (pv 4) rfl) ja_nil rfl rfl) rfl rfl) rfl (fun _ _ _ => fM_len _ _ _) (fun h => has_call h_multiplied hr (by decide) (by rfl) h (by rfl) (by rfl) (by rfl)) (.inl rfl)) (ja_cons (call_pure (n := 2) (r := 99) (rz := .rep) (ja_cons (j_var (i := 6) (pv 6) rfl) (ja_cons (j_var (i := 4) (pv 4) rfl) ja_nil rfl rfl) rfl rfl) rfl (fun _ _ _ => fM_len _ _ _) (fun h => has_call h_multiplied hr (by decide) (by rfl) h (by rfl) (by rfl) (by rfl)) (.inl rfl)) ja_nil rfl rfl) rfl rfl) rfl (fun _ _ _ => fM_len _ _ _) (fun h => has_call h_added hr (by decide) (by rfl) h (by rfl) (by rfl) (by rfl)) (.inl rfl)) rfl (atOp dNe_a) fun a b => pt_cmpR (o_ne hu) a b (nomark _))
    (jb_one (js_ret (κ1 := [some 0, some 0, some 1, some 0, some 0, some 0, some 99, some 2, none, none, none]) (j_const (d := .bl false) (rz := .own 99) rfl pe_bl) rfl rfl))
    jb_nil)
    (jb_cons (js_set (κ1 := [some 0, some 0, some 1, some 0, some 0, some 0, some 99, some 2, none, none, none]) (i := 8) (k := 1) (j_slO (j_frz (κ := [some 0, some 0, some 1, some 0, some 0, some 0, some 99, some 2, none, none, none]) (i := 4) (k := 0) (pv 4) rfl rfl) jo_none (jo_some (j_const (d := .int 8) (rz := .own 99) rfl pe_int))) sc_law.nd rfl (by trivial) rfl (.inl rfl) rfl)
    (jb_one (js_if (κ1 := [some 0, some 0, some 1, some 0, some 0, some 0, some 99, some 2, some 1, none, none]) (κ2 := [some 0, some 0, some 1, some 0, some 0, some 0, some 99, some 2, some 1, none, none]) (JT.two_read (call_pure (n := 2) (r := 99) (rz := .rep) (ja_cons (call_pure (n := 2) (r := 99) (rz := .rep) (ja_cons (j_var (i := 8) (pv 8) rfl) (ja_cons (j_sl (j_var (i := 5) (pv 5) rfl) jo_none (jo_some (j_const (d := .int 8) (rz := .own 99) rfl pe_int))) ja_nil rfl rfl) rfl rfl) rfl (fun _ _ _ => fM_len _ _ _) (fun h => has_call h_multiplied hr (by decide) (by rfl) h (by rfl) (by rfl) (by rfl)) (.inl rfl)) (ja_cons (j_var (i := 6) (pv 6) rfl) ja_nil rfl rfl) rfl rfl) rfl (fun _ _ _ => fM_len _ _ _) (fun h => has_call h_multiplied hr (by decide) (by rfl) h (by rfl) (by rfl) (by rfl)) (.inl rfl)) (call_pure (n := 2) (r := 99) (rz := .rep) (ja_cons (j_var (i := 8) (pv 8) rfl) (ja_cons (call_pure (n := 2) (r := 99) (rz := .rep) (ja_cons (j_sl (j_var (i := 5) (pv 5) rfl) jo_none (jo_some (j_const (d := .int 8) (rz := .own 99) rfl pe_int))) (ja_cons (j_var (i := 6) (pv 6) rfl) ja_nil rfl rfl) rfl rfl) rfl (fun _ _ _ => fM_len _ _ _) (fun h => has_call h_multiplied hr (by decide) (by rfl) h (by rfl) (by rfl) (by rfl)) (.inl rfl)) ja_nil rfl rfl) rfl rfl) rfl (fun _ _ _ => fM_len _ _ _) (fun h => has_call h_multiplied hr (by decide) (by rfl) h (by rfl) (by rfl) (by rfl)) (.inl rfl)) rfl (atOp dNe_a) fun a b => pt_cmpR (o_ne hu) a b (nomark _))
    (jb_one (js_ret (κ1 := [some 0, some 0, some 1, some 0, some 0, some 0, some 99, some 2, some 1, none, none]) (j_const (d := .bl false) (rz := .own 99) rfl pe_bl) rfl rfl))
    jb_nil))))))))))))) rfl rfl rfl rfl) rfl (fun _ => rfl))
    (jb_one (js_ret (κ1 := [some 0, none, none, none, none, none, none, none, none, none, none]) (j_const (d := .bl true) (rz := .own 99) rfl pe_bl) rfl rfl)))
end L_k11
namespace L_k11
open PySem VS L2
local macro_rules | `(tactic| simp_arith [$xs,*]) => `(tactic| simp (disch := first | assumption | ((try simp only [List.length_cons, List.length_nil, Nat.reduceAdd, List.length_append, List.length_map, List.length_take, List.length_drop, List.length_reverse, List.getElem?_cons_zero, List.getElem?_cons_succ]); first | done | omega | decide)) only [↓bo_s, bo_n, ↓cv_s, ↓tst_t, ↓tst_f, ↓tst_d, ↓tst_n, ↓tst_a, ↓tst_o, onI_s, onL_s, onT_s, ce_c, cl_nil, co_n, ce_mD, cd_n, ct_c, ct_yes, cs_nil, cs_ret, cs_no, cF_nil, cP_nil, wp, cs_while, ap_gnm, ap_gtp, ap_gtpL, ap_gnil, o_n, ox_e, oxi_0, oxi_n, oxi_1, f_run, r_add, r_sub, r_mul, r_div, r_mod, r_lt, r_le, r_gt, r_ge, r_eqI, r_eqS, r_neI, r_neS, r_ixL, r_ixT, r_ixR, r_ipL, r_ipT, r_len, r_lenT, r_lenR, r_abs, r_max, r_min, r_catI, r_mkL, r_mkLT, r_mkT, r_slL, r_slT, at0, at1, a_int, a_bl, a_str, a_non, t_bl, seqOf, List.map_cons, List.map_nil, List.length_cons, List.length_nil, List.replicate, List.cons_append, List.nil_append, List.getElem?_cons_zero, List.getElem?_cons_succ, List.set_cons_zero, List.set_cons_succ, List.getElem?_nil, Nat.reduceSub, Nat.reduceAdd, Nat.reduceEqDiff, Nat.reduceLeDiff, ↓reduceIte, ↓if_le, ↓if_lt, decide_true, decide_false, true_and, and_true, not_true, not_false, Bool.not_true, Bool.not_false, eq_self, Bool.and_true, Bool.true_and, r_isN, r_isnN, n_non, n_int, n_bl, n_str, n_lst, n_tup, r_int, r_intT, r_intF, r_intB, r_ext, iT_int, iT_bl, iT_str, iT_tup, iT_lst, iT_non, tst_b, at_pick, at2, at3, at4, atm1, bo_ite, tst_ite, dispK, keyA, Option.bind_some, Option.map_some, ↓if_nd, Int.cast_ofNat_Int, Int.reduceAdd, Int.reduceSub, Int.reduceMul, Int.reduceLT, Int.reduceLE, Int.reduceEq, Int.reduceNeg, not_false_eq_true, not_true_eq_false, List.length_append, List.length_map, ce_v_1_e, ce_v', ce_2_3_e, ce_2_2_e, ce_2_1_e, ce_2', ce_A_1_e, ce_A', cl_cons_2_e, cl_cons_1_e, cl_cons', ce_lst_1_e, ce_lst', ce_tup_1_e, ce_tup', ce_B_2_e, ce_B_1_e, ce_B', ce_call_2_e, ce_call_1_e, ce_call', ce_callN_2_e, ce_callN_1_e, ce_callN', ce_callO_2_e, ce_callO_1_e, ce_callO', ce_T_2_e, ce_T_1_e, ce_T', ce_isT_2_e, ce_isT_1_e, ce_isT', ce_not_1_e, ce_not_2_e, ce_not', ce_neg_2_e, ce_neg_1_e, ce_neg', ce_and_1_e, ce_and_2_e, ce_and', ce_or_1_e, ce_or_2_e, ce_or', ce_ch_5_e, ce_ch_4_e, ce_ch_3_e, ce_ch_2_e, ce_ch_1_e, ce_ch', ce_sl_4_e, ce_sl_3_e, ce_sl_2_e, ce_sl_1_e, ce_sl', co_s_2_e, co_s_1_e, co_s', ce_mk_2_e, ce_mk_1_e, ce_mk', ce_mut_6_e, ce_mut_5_e, ce_mut_4_e, ce_mut_3_e, ce_mut_2_e, ce_mut_1_e, ce_mut', ce_get2_4_e, ce_get2_3_e, ce_get2_2_e, ce_get2_1_e, ce_get2', ce_disp_2_e, ce_disp_1_e, ce_disp', cd_c_3_e, cd_c_2_e, cd_c_1_e, cd_c', ce_Fl_2_e, ce_Fl_1_e, ce_Fl', ce_lrg_2_e, ce_lrg_1_e, ce_lrg', ce_srtD_1_e, ce_srtD', ce_ch3_7_e, ce_ch3_6_e, ce_ch3_5_e, ce_ch3_4_e, ce_ch3_3_e, ce_ch3_2_e, ce_ch3_1_e, ce_ch3', cl_seq_2_e, cl_seq_1_e, cl_seq', cl_rng1_1_e, cl_rng1', cl_rng2_1_e, cl_rng2', cl_enum_1_e, cl_enum', cl_zip_1_e, cl_zip', cl_keys_1_e, cl_keys', ct_not', ct_and_1_e, ct_and', ct_or_1_e, ct_or', ct_T_2_e, ct_T_1_e, ct_T', ct_2_1_e, ct_2', ct_ch_1_e, ct_ch', ct_v_1_e, ct_v', ct_isT_1_e, ct_isT', ct_A_1_e, ct_A', ct_cl_1_e, ct_cl', ct_clO_1_e, ct_clO', ct_B_1_e, ct_B', cs_seq_1_e, cs_seq', cs_if_1_e, cs_if_2_e, cs_if', cs_asg_1_e, cs_asg', cs_exp_1_e, cs_exp', cs_tgt_1_e, cs_tgt', cs_par_1_e, cs_par', cs_app_5_e, cs_app_4_e, cs_app_3_e, cs_app_2_e, cs_app_1_e, cs_app', cs_rev_2_e, cs_rev_1_e, cs_rev', cs_set_6_e, cs_set_5_e, cs_set_4_e, cs_set_3_e, cs_set_2_e, cs_set_1_e, cs_set', cs_set2_11_e, cs_set2_10_e, cs_set2_9_e, cs_set2_8_e, cs_set2_7_e, cs_set2_6_e, cs_set2_5_e, cs_set2_4_e, cs_set2_3_e, cs_set2_2_e, cs_set2_1_e, cs_set2', cs_put_4_e, cs_put_3_e, cs_put_2_e, cs_put_1_e, cs_put', cs_for_1_e, cs_for', cF_cons_2_e, cF_cons_1_e, cW_s_2_e, cW_s_1_e, cP_cons_4_e, cP_cons_3_e, cP_cons_2_e, cP_cons_5_e, cP_cons_1_e, ce_lc_2_e, ce_lc_1_e, ce_lc', cp1_e_3_e, cp1_e_2_e, cp1_e_4_e, cp1_e_1_e, cp1_e', g_cons_1_e, g_cons', fo_z_1_e, fo_z', o_c_2_e, o_c_1_e, o_c', $xs,*])
local macro_rules | `(tactic| simp_arith! [$xs,*]) => `(tactic| simp (disch := first | assumption | ((try simp only [List.length_cons, List.length_nil, Nat.reduceAdd, List.length_append, List.length_map, List.length_take, List.length_drop, List.length_reverse, List.getElem?_cons_zero, List.getElem?_cons_succ]); first | done | omega | decide)) only [↓bo_s, bo_n, ↓cv_s, ↓tst_t, ↓tst_f, ↓tst_d, ↓tst_n, ↓tst_a, ↓tst_o, onI_s, onL_s, onT_s, ce_c, cl_nil, co_n, ce_mD, cd_n, ct_c, ct_yes, cs_nil, cs_ret, cs_no, cF_nil, cP_nil, wp, cs_while, ap_gnm, ap_gtp, ap_gtpL, ap_gnil, o_n, ox_e, oxi_0, oxi_n, oxi_1, f_run, r_add, r_sub, r_mul, r_div, r_mod, r_lt, r_le, r_gt, r_ge, r_eqI, r_eqS, r_neI, r_neS, r_ixL, r_ixT, r_ixR, r_ipL, r_ipT, r_len, r_lenT, r_lenR, r_abs, r_max, r_min, r_catI, r_mkL, r_mkLT, r_mkT, r_slL, r_slT, at0, at1, a_int, a_bl, a_str, a_non, t_bl, seqOf, List.map_cons, List.map_nil, List.length_cons, List.length_nil, List.replicate, List.cons_append, List.nil_append, List.getElem?_cons_zero, List.getElem?_cons_succ, List.set_cons_zero, List.set_cons_succ, List.getElem?_nil, Nat.reduceSub, Nat.reduceAdd, Nat.reduceEqDiff, Nat.reduceLeDiff, ↓reduceIte, ↓if_le, ↓if_lt, decide_true, decide_false, true_and, and_true, not_true, not_false, Bool.not_true, Bool.not_false, eq_self, Bool.and_true, Bool.true_and, r_isN, r_isnN, n_non, n_int, n_bl, n_str, n_lst, n_tup, r_int, r_intT, r_intF, r_intB, r_ext, iT_int, iT_bl, iT_str, iT_tup, iT_lst, iT_non, tst_b, at_pick, at2, at3, at4, atm1, bo_ite, tst_ite, dispK, keyA, Option.bind_some, Option.map_some, ↓if_nd, Int.cast_ofNat_Int, Int.reduceAdd, Int.reduceSub, Int.reduceMul, Int.reduceLT, Int.reduceLE, Int.reduceEq, Int.reduceNeg, not_false_eq_true, not_true_eq_false, List.length_append, List.length_map, ce_v_1_e, ce_v', ce_2_3_e, ce_2_2_e, ce_2_1_e, ce_2', ce_A_1_e, ce_A', cl_cons_2_e, cl_cons_1_e, cl_cons', ce_lst_1_e, ce_lst', ce_tup_1_e, ce_tup', ce_B_2_e, ce_B_1_e, ce_B', ce_call_2_e, ce_call_1_e, ce_call', ce_callN_2_e, ce_callN_1_e, ce_callN', ce_callO_2_e, ce_callO_1_e, ce_callO', ce_T_2_e, ce_T_1_e, ce_T', ce_isT_2_e, ce_isT_1_e, ce_isT', ce_not_1_e, ce_not_2_e, ce_not', ce_neg_2_e, ce_neg_1_e, ce_neg', ce_and_1_e, ce_and_2_e, ce_and', ce_or_1_e, ce_or_2_e, ce_or', ce_ch_5_e, ce_ch_4_e, ce_ch_3_e, ce_ch_2_e, ce_ch_1_e, ce_ch', ce_sl_4_e, ce_sl_3_e, ce_sl_2_e, ce_sl_1_e, ce_sl', co_s_2_e, co_s_1_e, co_s', ce_mk_2_e, ce_mk_1_e, ce_mk', ce_mut_6_e, ce_mut_5_e, ce_mut_4_e, ce_mut_3_e, ce_mut_2_e, ce_mut_1_e, ce_mut', ce_get2_4_e, ce_get2_3_e, ce_get2_2_e, ce_get2_1_e, ce_get2', ce_disp_2_e, ce_disp_1_e, ce_disp', cd_c_3_e, cd_c_2_e, cd_c_1_e, cd_c', ce_Fl_2_e, ce_Fl_1_e, ce_Fl', ce_lrg_2_e, ce_lrg_1_e, ce_lrg', ce_srtD_1_e, ce_srtD', ce_ch3_7_e, ce_ch3_6_e, ce_ch3_5_e, ce_ch3_4_e, ce_ch3_3_e, ce_ch3_2_e, ce_ch3_1_e, ce_ch3', cl_seq_2_e, cl_seq_1_e, cl_seq', cl_rng1_1_e, cl_rng1', cl_rng2_1_e, cl_rng2', cl_enum_1_e, cl_enum', cl_zip_1_e, cl_zip', cl_keys_1_e, cl_keys', ct_not', ct_and_1_e, ct_and', ct_or_1_e, ct_or', ct_T_2_e, ct_T_1_e, ct_T', ct_2_1_e, ct_2', ct_ch_1_e, ct_ch', ct_v_1_e, ct_v', ct_isT_1_e, ct_isT', ct_A_1_e, ct_A', ct_cl_1_e, ct_cl', ct_clO_1_e, ct_clO', ct_B_1_e, ct_B', cs_seq_1_e, cs_seq', cs_if_1_e, cs_if_2_e, cs_if', cs_asg_1_e, cs_asg', cs_exp_1_e, cs_exp', cs_tgt_1_e, cs_tgt', cs_par_1_e, cs_par', cs_app_5_e, cs_app_4_e, cs_app_3_e, cs_app_2_e, cs_app_1_e, cs_app', cs_rev_2_e, cs_rev_1_e, cs_rev', cs_set_6_e, cs_set_5_e, cs_set_4_e, cs_set_3_e, cs_set_2_e, cs_set_1_e, cs_set', cs_set2_11_e, cs_set2_10_e, cs_set2_9_e, cs_set2_8_e, cs_set2_7_e, cs_set2_6_e, cs_set2_5_e, cs_set2_4_e, cs_set2_3_e, cs_set2_2_e, cs_set2_1_e, cs_set2', cs_put_4_e, cs_put_3_e, cs_put_2_e, cs_put_1_e, cs_put', cs_for_1_e, cs_for', cF_cons_2_e, cF_cons_1_e, cF_cons', cW_s_2_e, cW_s_1_e, cW_s', cP_cons_4_e, cP_cons_3_e, cP_cons_2_e, cP_cons_5_e, cP_cons_1_e, cP_cons', ce_lc_2_e, ce_lc_1_e, ce_lc', cp1_e_3_e, cp1_e_2_e, cp1_e_4_e, cp1_e_1_e, cp1_e', g_cons_1_e, g_cons', fo_z_1_e, fo_z', o_c_2_e, o_c_1_e, o_c', $xs,*])
abbrev Wo := List Int
def eW (w : Wo) : D := .tup (w.map D.int)
def eS (s : List Wo) : D := .lst (s.map eW)
theorem pyD_eW (w : Wo) : pyD (eW w) = .tuple (w.map PyData.int) := by
  show PyData.tuple (pyL (w.map D.int)) = _
  rw [pyL_map, List.map_map]
  rfl
theorem dep_eW (w : Wo) : dep (eW w) ≤ 1 := dep_tup (k := 0) (fun d hd => by
  obtain ⟨i, _, rfl⟩ := List.mem_map.mp hd
  rw [dep_atom rfl]
  exact Nat.le_refl 0) (by omega)
theorem dep_eS (s : List Wo) : dep (eS s) ≤ 2 := dep_lst (k := 1) (fun d hd => by
  obtain ⟨w, _, rfl⟩ := List.mem_map.mp hd
  exact dep_eW w) (by omega)
theorem alikeAll_ints : ∀ xs ys : List Int, PySem.W.alikeAll (xs.map PyData.int) (ys.map PyData.int) = true
  | [], ys => by cases ys <;> simp [PySem.W.alikeAll]
  | x :: xs, [] => by simp [PySem.W.alikeAll]
  | x :: xs, y :: ys => by
    simp only [List.map_cons, PySem.W.alikeAll]
    rw [alikeAll_ints xs ys]
    simp [PySem.W.alike]
theorem alike_eW (a b : Wo) : PySem.W.alike (pyD (eW a)) (pyD (eW b)) = true := by
  rw [pyD_eW, pyD_eW]
  simp only [PySem.W.alike]
  exact alikeAll_ints a b
theorem srtOk_eW {ws : List Wo} (h : ws.length ≤ 16777216) : srtOk (ws.map eW) = true := by
  unfold srtOk
  have e1 : ((ws.map eW).all fun a => (ws.map eW).all fun b => PySem.W.alike (pyD a) (pyD b)) = true := by
    rw [List.all_eq_true]
    intro a ha
    rw [List.all_eq_true]
    intro b hb
    obtain ⟨i, _, rfl⟩ := List.mem_map.mp ha
    obtain ⟨j, _, rfl⟩ := List.mem_map.mp hb
    exact alike_eW i j
  have e2 : ((ws.map eW).all fun a => match a with | .tup _ => true | _ => false) = true := by
    rw [List.all_eq_true]
    intro a ha
    obtain ⟨i, _, rfl⟩ := List.mem_map.mp ha
    rfl
  have e3 : ((ws.map eW).all fun a => decide (dep a ≤ 60)) = true := by
    rw [List.all_eq_true]
    intro a ha
    obtain ⟨i, _, rfl⟩ := List.mem_map.mp ha
    have := dep_eW i
    exact decide_eq_true (by omega)
  have e4 : decide ((ws.map eW).length ≤ 16777216) = true := by simpa using h
  simp only [Bool.and_eq_true, Bool.or_eq_true]
  exact ⟨⟨⟨e1, .inl e2⟩, e3⟩, e4⟩
theorem lt_eW (a b : Wo) : PySem.W.dataLt (pyD (eW a)) (pyD (eW b)) = decide (a < b) := by
  rw [pyD_eW, pyD_eW, PySem.W.dataLt_tuple, ← PySem.W.dataLt_list]
  exact PySem.W.dataLt_ints a b
theorem le_eW (a b : Wo) : PySem.W.dataLe false pyD (eW a) (eW b) = !decide (b < a) := by
  rw [← lt_eW b a]
  rfl
def srtW (ws : List Wo) : List Wo := ws.mergeSort fun a b => !decide (b < a)
theorem mk_srtW {ws : List Wo} (h : ws.length ≤ 16777216) : dMk .srt (.lst (ws.map eW)) = some (.lst ((srtW ws).map eW)) := by
  show (if srtOk (ws.map eW) = true then some (D.lst (srtD (ws.map eW))) else none) = _
  rw [if_pos (srtOk_eW h)]
  congr 2
  unfold srtD srtW
  exact (List.map_mergeSort fun a _ b _ => (le_eW a b).symm).symm
theorem srtW_perm (ws : List Wo) : (srtW ws).Perm ws := List.mergeSort_perm _ _
theorem srtW_pw (ws : List Wo) : (srtW ws).Pairwise fun a b => a ≤ b := by
  have := List.pairwise_mergeSort (le := fun a b : Wo => !decide (b < a)) (by
    intro a b c h1 h2
    simp only [Bool.not_eq_true', decide_eq_false_iff_not, List.not_lt] at *
    exact List.le_trans h1 h2) (by
    intro a b
    simp only [Bool.or_eq_true, Bool.not_eq_true', decide_eq_false_iff_not, List.not_lt]
    exact List.le_total a b) ws
  unfold srtW
  exact this.imp fun h => by simpa using h
theorem eW_inj {a b : Wo} : eW a = eW b ↔ a = b := by
  constructor
  · intro h
    injection h with h
    exact (List.map_inj_right (fun x y z => by injection z)).mp h
  · intro h
    rw [h]
theorem sd_eW (w : Wo) : sd (eW w) = true := by
  show sdL (w.map D.int) = true
  induction w with
  | nil => rfl
  | cons i w ih =>
    show (sd (.int i) && sdL (w.map D.int)) = true
    rw [ih]
    rfl
theorem sd_eS (s : List Wo) : sd (eS s) = true := by
  show sdL (s.map eW) = true
  induction s with
  | nil => rfl
  | cons w s ih =>
    show (sd (eW w) && sdL (s.map eW)) = true
    rw [ih, sd_eW]
    rfl
theorem eS_inj {a b : List Wo} : eS a = eS b ↔ a = b := by
  constructor
  · intro h
    injection h with h
    exact (List.map_inj_right (fun x y z => eW_inj.mp z)).mp h
  · intro h
    rw [h]
theorem eq_eW (a b : Wo) : dEq (eW a) (eW b) = some (.bl (decide (a = b))) := by
  have d1 := dep_eW a
  have d2 := dep_eW b
  unfold dEq cmpOk
  rw [if_pos (by rw [Bool.and_eq_true, decide_eq_true_eq, decide_eq_true_eq]; omega)]
  congr 2
  rw [Bool.eq_iff_iff, decide_eq_true_eq, ← eW_inj]
  exact deq_iff _ _ (sd_eW a) (sd_eW b)
theorem eq_eS (a b : List Wo) : dEq (eS a) (eS b) = some (.bl (decide (a = b))) := by
  have d1 := dep_eS a
  have d2 := dep_eS b
  unfold dEq cmpOk
  rw [if_pos (by rw [Bool.and_eq_true, decide_eq_true_eq, decide_eq_true_eq]; omega)]
  congr 2
  rw [Bool.eq_iff_iff, decide_eq_true_eq, ← eS_inj]
  exact deq_iff _ _ (sd_eS a) (sd_eS b)
theorem lt_w (a b : Wo) : dLtT (eW a) (eW b) = some (.bl (decide (a < b))) := by
  have d1 := dep_eW a
  have d2 := dep_eW b
  have c : cmpOk (eW a) (eW b) = true := by
    unfold cmpOk
    rw [Bool.and_eq_true, decide_eq_true_eq, decide_eq_true_eq]
    omega
  show (if (true && (PySem.W.alike (pyD (eW a)) (pyD (eW b)) && cmpOk (eW a) (eW b))) = true then _ else _) = _
  rw [if_pos (by rw [alike_eW, c]; rfl), lt_eW]
def par (ws : List Wo) (w : Wo) : Bool := decide (ws.count w % 2 = 1)
theorem par_app (xs ys : List Wo) (w : Wo) : par (xs ++ ys) w = (par xs w != par ys w) := by
  unfold par
  rw [List.count_append]
  by_cases a : xs.count w % 2 = 1 <;> by_cases b : ys.count w % 2 = 1 <;> simp [a, b] <;> omega
theorem par_cons (x : Wo) (xs : List Wo) (w : Wo) : par (x :: xs) w = (par xs w != decide (x = w)) := by
  unfold par
  rw [List.count_cons]
  by_cases a : xs.count w % 2 = 1 <;> by_cases b : x = w <;> simp [a, b] <;> omega
theorem par_perm {xs ys : List Wo} (h : xs.Perm ys) (w : Wo) : par xs w = par ys w := by
  unfold par
  rw [h.count_eq]
def Sm (s : List Wo) : Prop := s.Pairwise (· < ·)
theorem wlt_irr (a : Wo) : ¬ a < a := List.lt_irrefl a
theorem sm_nd {s : List Wo} (h : Sm s) : s.Nodup := by
  rw [List.nodup_iff_pairwise_ne]
  exact h.imp fun {a b} h z => by rw [z] at h; exact wlt_irr b h
theorem par_sm {s : List Wo} (h : Sm s) (w : Wo) : par s w = decide (w ∈ s) := by
  unfold par
  have nd := sm_nd h
  by_cases q : w ∈ s
  · rw [List.Nodup.count nd, if_pos q]
    simp [q]
  · rw [List.count_eq_zero.mpr q]
    simp [q]
theorem sm_uniq : ∀ {xs ys : List Wo}, Sm xs → Sm ys → (∀ a, a ∈ xs ↔ a ∈ ys) → xs = ys
  | [], [], _, _, _ => rfl
  | [], y :: ys, _, _, h => by have := (h y).mpr (by simp); cases this
  | x :: xs, [], _, _, h => by have := (h x).mp (by simp); cases this
  | x :: xs, y :: ys, h1, h2, h => by
    unfold Sm at h1 h2
    rw [List.pairwise_cons] at h1 h2
    have e : x = y := by
      rcases List.mem_cons.mp ((h x).mp (by simp)) with a | a
      · exact a
      · rcases List.mem_cons.mp ((h y).mpr (by simp)) with b | b
        · exact b.symm
        · exact absurd (List.lt_trans (h1.1 y b) (h2.1 x a)) (wlt_irr x)
    subst e
    rw [sm_uniq h1.2 h2.2 fun a => ?_]
    constructor
    · intro ha
      rcases List.mem_cons.mp ((h a).mp (by simp [ha])) with b | b
      · exact absurd (h1.1 a ha) (by rw [b]; exact wlt_irr x)
      · exact b
    · intro ha
      rcases List.mem_cons.mp ((h a).mpr (by simp [ha])) with b | b
      · exact absurd (h2.1 a ha) (by rw [b]; exact wlt_irr x)
      · exact b
theorem sm_par {xs ys : List Wo} (h1 : Sm xs) (h2 : Sm ys) (h : ∀ w, par xs w = par ys w) : xs = ys := sm_uniq h1 h2 fun a => by
  have := h a
  rw [par_sm h1, par_sm h2] at this
  by_cases q : a ∈ xs <;> by_cases r : a ∈ ys <;> simp [q, r] at this ⊢
def dedW : List Wo → List Wo
  | [] => []
  | w :: ws => if w ∈ dedW ws then dedW ws else w :: dedW ws
theorem dedW_nd : ∀ ws : List Wo, (dedW ws).Nodup
  | [] => by unfold dedW; simp
  | w :: ws => by
    rw [dedW]
    split
    · exact dedW_nd ws
    · exact List.nodup_cons.mpr ⟨by assumption, dedW_nd ws⟩
theorem dedW_mem {a : Wo} : ∀ {ws : List Wo}, a ∈ dedW ws ↔ a ∈ ws
  | [] => by unfold dedW; simp
  | w :: ws => by
    rw [dedW]
    split
    · rw [dedW_mem, List.mem_cons]
      constructor
      · exact .inr
      · rintro (rfl | h)
        · exact dedW_mem.mp (by assumption)
        · exact h
    · rw [List.mem_cons, List.mem_cons, dedW_mem]
def oddS (ws : List Wo) : List Wo := srtW ((dedW ws).filter fun w => par ws w)
theorem sm_of {ws : List Wo} (h : ws.Nodup) : Sm (srtW ws) := by
  have a := srtW_pw ws
  have b : (srtW ws).Nodup := (srtW_perm ws).nodup_iff.mpr h
  rw [List.nodup_iff_pairwise_ne] at b
  exact (a.and b).imp fun {x y} h => by
    by_cases z : x < y
    · exact z
    · exact absurd (List.le_antisymm h.1 (List.not_lt.mp z)) h.2
theorem oddS_sm (ws : List Wo) : Sm (oddS ws) := sm_of ((dedW_nd ws).filter _)
theorem par_in {ws : List Wo} {w : Wo} (h : par ws w = true) : w ∈ ws := by
  unfold par at h
  rw [decide_eq_true_eq] at h
  exact List.count_pos_iff.mp (by omega)
theorem oddS_mem {ws : List Wo} {w : Wo} : w ∈ oddS ws ↔ par ws w = true := by
  unfold oddS
  rw [(srtW_perm _).mem_iff, List.mem_filter, dedW_mem]
  exact ⟨fun h => h.2, fun h => ⟨par_in h, h⟩⟩
theorem par_oddS (ws : List Wo) (w : Wo) : par (oddS ws) w = par ws w := by
  rw [par_sm (oddS_sm ws)]
  by_cases q : par ws w = true
  · rw [q, decide_eq_true (oddS_mem.mpr q)]
  · rw [Bool.not_eq_true] at q
    rw [q, decide_eq_false (fun z => by rw [oddS_mem.mp z] at q; cases q)]
theorem odd_uniq {s ws : List Wo} (h : Sm s) (e : ∀ w, par s w = par ws w) : s = oddS ws := sm_par h (oddS_sm ws) fun w => by rw [par_oddS, e]
theorem odd_of {xs ys : List Wo} (e : ∀ w, par xs w = par ys w) : oddS xs = oddS ys := odd_uniq (oddS_sm xs) fun w => by rw [par_oddS, e]
def prd (xs ys : List Wo) : List Wo := xs.flatMap fun a => ys.map fun b => a ++ b
theorem prd_cons (a : Wo) (xs ys : List Wo) : prd (a :: xs) ys = (ys.map fun b => a ++ b) ++ prd xs ys := rfl
theorem par_pre (a : Wo) {ys ys' : List Wo} (e : ∀ w, par ys w = par ys' w) (w : Wo) : par (ys.map fun b => a ++ b) w = par (ys'.map fun b => a ++ b) w := by
  have key : ∀ ys : List Wo, (ys.map fun b => a ++ b).count w = if w.take a.length = a then ys.count (w.drop a.length) else 0 := by
    intro ys
    induction ys with
    | nil => simp
    | cons y ys ih =>
      rw [List.map_cons, List.count_cons, List.count_cons, ih]
      by_cases q : w.take a.length = a
      · rw [if_pos q, if_pos q]
        have : (a ++ y == w) = (y == w.drop a.length) := by
          rw [Bool.eq_iff_iff, beq_iff_eq, beq_iff_eq]
          constructor
          · intro h
            rw [← h]
            simp
          · intro h
            rw [h]
            conv => lhs; lhs; rw [← q]
            exact List.take_append_drop _ _
        rw [this]
      · rw [if_neg q, if_neg q]
        have : (a ++ y == w) = false := by
          rw [beq_eq_false_iff_ne]
          intro h
          apply q
          rw [← h]
          simp
        rw [this]
        rfl
  unfold par
  rw [key, key]
  by_cases q : w.take a.length = a
  · rw [if_pos q, if_pos q]
    exact e _
  · rw [if_neg q, if_neg q]
theorem par_suf (b : Wo) {xs xs' : List Wo} (e : ∀ w, par xs w = par xs' w) (w : Wo) : par (xs.map fun a => a ++ b) w = par (xs'.map fun a => a ++ b) w := by
  have key : ∀ xs : List Wo, (xs.map fun a => a ++ b).count w = if w.drop (w.length - b.length) = b then xs.count (w.take (w.length - b.length)) else 0 := by
    intro xs
    induction xs with
    | nil => simp
    | cons x xs ih =>
      rw [List.map_cons, List.count_cons, List.count_cons, ih]
      by_cases q : w.drop (w.length - b.length) = b
      · rw [if_pos q, if_pos q]
        have : (x ++ b == w) = (x == w.take (w.length - b.length)) := by
          rw [Bool.eq_iff_iff, beq_iff_eq, beq_iff_eq]
          constructor
          · intro h
            rw [← h]
            simp
          · intro h
            rw [h]
            conv => lhs; rhs; rw [← q]
            exact List.take_append_drop _ _
        rw [this]
      · rw [if_neg q, if_neg q]
        have : (x ++ b == w) = false := by
          rw [beq_eq_false_iff_ne]
          intro h
          apply q
          rw [← h]
          simp
        rw [this]
        rfl
  unfold par
  rw [key, key]
  by_cases q : w.drop (w.length - b.length) = b
  · rw [if_pos q, if_pos q]
    exact e _
  · rw [if_neg q, if_neg q]
theorem par_prd_r (xs : List Wo) {ys ys' : List Wo} (e : ∀ w, par ys w = par ys' w) (w : Wo) : par (prd xs ys) w = par (prd xs ys') w := by
  induction xs with
  | nil => rfl
  | cons a xs ih => rw [prd_cons, prd_cons, par_app, par_app, ih, par_pre a e]
theorem prd_nil (xs : List Wo) : prd xs [] = [] := by
  induction xs with
  | nil => rfl
  | cons a xs ih => rw [prd_cons, ih]; rfl
theorem par_prd_cr (b : Wo) (xs ys : List Wo) (w : Wo) : par (prd xs (b :: ys)) w = (par (xs.map fun a => a ++ b) w != par (prd xs ys) w) := by
  induction xs with
  | nil => rfl
  | cons a xs ih =>
    rw [prd_cons, prd_cons, par_app, par_app, ih, List.map_cons, List.map_cons, par_cons, par_cons]
    cases par (ys.map fun b => a ++ b) w <;> cases par (xs.map fun a => a ++ b) w <;> cases par (prd xs ys) w <;> cases decide (a ++ b = w) <;> rfl
theorem par_prd_l (ys : List Wo) {xs xs' : List Wo} (e : ∀ w, par xs w = par xs' w) (w : Wo) : par (prd xs ys) w = par (prd xs' ys) w := by
  induction ys with
  | nil => rw [prd_nil, prd_nil]
  | cons b ys ih => rw [par_prd_cr, par_prd_cr, ih, par_suf b e]
theorem par_prd_add_r (xs ys zs : List Wo) (w : Wo) : par (prd xs (ys ++ zs)) w = (par (prd xs ys) w != par (prd xs zs) w) := by
  induction xs with
  | nil => rfl
  | cons a xs ih =>
    rw [prd_cons, prd_cons, prd_cons, par_app, par_app, par_app, List.map_append, par_app, ih]
    cases par (ys.map fun b => a ++ b) w <;> cases par (zs.map fun b => a ++ b) w <;> cases par (prd xs ys) w <;> cases par (prd xs zs) w <;> rfl
theorem prd_app (xs ys zs : List Wo) : prd (xs ++ ys) zs = prd xs zs ++ prd ys zs := List.flatMap_append
theorem fm_congr {α β : Type} {f g : α → List β} (h : ∀ a, f a = g a) (xs : List α) : xs.flatMap f = xs.flatMap g := congrArg (fun f => xs.flatMap f) (funext h)
theorem prd_assoc (xs ys zs : List Wo) : prd (prd xs ys) zs = prd xs (prd ys zs) := by
  unfold prd
  rw [List.flatMap_assoc]
  refine fm_congr (fun a => ?_) xs
  rw [List.flatMap_map, List.map_flatMap]
  refine fm_congr (fun b => ?_) ys
  rw [List.map_map]
  refine List.map_congr_left fun c _ => ?_
  exact List.append_assoc a b c
def addS (a b : List Wo) : List Wo := oddS (a ++ b)
def mulS (a b : List Wo) : List Wo := oddS (prd a b)
theorem mul_add_r (a b c : List Wo) : mulS a (addS b c) = addS (mulS a b) (mulS a c) := odd_of fun w => by
  unfold addS mulS
  rw [par_prd_r a (fun w => par_oddS (b ++ c) w), par_prd_add_r, par_app, par_oddS, par_oddS]
theorem mul_add_l (a b c : List Wo) : mulS (addS b c) a = addS (mulS b a) (mulS c a) := odd_of fun w => by
  unfold addS mulS
  rw [par_prd_l a (fun w => par_oddS (b ++ c) w), prd_app, par_app, par_app, par_oddS, par_oddS]
theorem mul_assoc' (a b c : List Wo) : mulS (mulS a b) c = mulS a (mulS b c) := odd_of fun w => by
  unfold mulS
  rw [par_prd_l c (fun w => par_oddS (prd a b) w), par_prd_r a (fun w => par_oddS (prd b c) w), prd_assoc]
def kW (P : Wo) : List Key := P.map Sum.inl
theorem kW_inj : ∀ {P Q : Wo}, kW P = kW Q → P = Q
  | [], [], _ => rfl
  | [], _ :: _, h => by cases h
  | _ :: _, [], h => by cases h
  | x :: P, y :: Q, h => by
    have h1 := (List.cons.inj h).1
    have h2 := kW_inj (List.cons.inj h).2
    rw [h2, Sum.inl.inj h1]
theorem keyAs_W : ∀ P : Wo, keyAs (P.map D.int) = some (kW P)
  | [] => rfl
  | x :: P => by
    show ((keyA (.int x)).bind fun k => (keyAs (P.map D.int)).map fun r => k :: r) = _
    rw [keyAs_W P]
    rfl
def dW (ks : List Wo) (f : Wo → Bool) : D := .dic (.T (ks.map kW)) (ks.map fun k => .bl (f k))
def addW (ks : List Wo) (w : Wo) : List Wo := if w ∈ ks then ks else ks ++ [w]
theorem addW_mem {ks : List Wo} {w a : Wo} : a ∈ addW ks w ↔ a ∈ ks ∨ a = w := by
  unfold addW
  split
  · constructor
    · exact .inl
    · rintro (h | rfl)
      · exact h
      · assumption
  · simp
theorem addW_nd {ks : List Wo} (h : ks.Nodup) (w : Wo) : (addW ks w).Nodup := by
  unfold addW
  split
  · exact h
  · rename_i q
    rw [List.nodup_append]
    refine ⟨h, by simp, fun a ha b hb e => ?_⟩
    simp at hb
    rw [e, hb] at ha
    exact q ha
theorem any_kW (ks : List Wo) (w : Wo) : ((ks.map kW).any fun j => decide (j = kW w)) = decide (w ∈ ks) := by
  rw [Bool.eq_iff_iff, List.any_eq_true, decide_eq_true_eq]
  constructor
  · rintro ⟨j, hj, e⟩
    obtain ⟨Q, hQ, rfl⟩ := List.mem_map.mp hj
    exact kW_inj (of_decide_eq_true e) ▸ hQ
  · exact fun h => ⟨kW w, List.mem_map_of_mem h, decide_eq_true rfl⟩
theorem zwW (w : Wo) (b : Bool) (f : Wo → Bool) : ∀ ks : List Wo, (ks.map kW).zipWith (fun j x => if j = kW w then D.bl b else x) (ks.map fun k => D.bl (f k)) = ks.map fun k => D.bl (if k = w then b else f k)
  | [] => rfl
  | k :: ks => by
    rw [List.map_cons, List.map_cons, List.map_cons, List.zipWith_cons_cons, zwW w b f ks]
    by_cases q : k = w
    · rw [if_pos q, if_pos (by rw [q])]
    · rw [if_neg q, if_neg fun z => q (kW_inj z)]
theorem dW_put (ks : List Wo) (f : Wo → Bool) (w : Wo) (b : Bool) : dPut (.T (ks.map kW)) (ks.map fun k => D.bl (f k)) (eW w) (.bl b) = some (.T ((addW ks w).map kW), (addW ks w).map fun k => D.bl (if k = w then b else f k)) := by
  show ((keyAs (w.map D.int)).map fun k => (DKs.T (putL (ks.map kW) (ks.map fun k => D.bl (f k)) k (D.bl b)).1, (putL (ks.map kW) (ks.map fun k => D.bl (f k)) k (D.bl b)).2)) = _
  rw [keyAs_W]
  simp only [Option.map_some]
  unfold putL addW
  rw [any_kW]
  by_cases q : w ∈ ks
  · rw [decide_eq_true q, if_pos rfl, if_pos q, zwW]
  · rw [decide_eq_false q, if_neg (by simp), if_neg q, List.map_append, List.map_append]
    have : (ks.map fun k => D.bl (if k = w then b else f k)) = ks.map fun k => D.bl (f k) := List.map_congr_left fun k hk => by
      have ne : ¬ k = w := fun z => by rw [z] at hk; exact q hk
      rw [if_neg ne]
    rw [this]
    simp
theorem at_W (ks : List Wo) (f : Wo → Bool) (w : Wo) : (((ks.map kW).findIdx? fun j => decide (j = kW w)).bind fun j => (ks.map fun k => D.bl (f k))[j]?) = if w ∈ ks then some (.bl (f w)) else none := by
  induction ks with
  | nil => rfl
  | cons k ks ih =>
    rw [List.map_cons, List.map_cons, List.findIdx?_cons]
    by_cases q : k = w
    · subst q
      rw [if_pos (by simp), if_pos List.mem_cons_self]
      rfl
    · rw [if_neg (by simpa using fun z => q (kW_inj z))]
      have e : (w ∈ k :: ks) ↔ w ∈ ks := by
        rw [List.mem_cons]
        exact ⟨fun h => h.resolve_left fun z => q z.symm, .inr⟩
      have e2 : (if w ∈ k :: ks then some (D.bl (f w)) else none) = if w ∈ ks then some (D.bl (f w)) else none := by
        by_cases z : w ∈ ks
        · rw [if_pos (e.mpr z), if_pos z]
        · rw [if_neg fun y => z (e.mp y), if_neg z]
      rw [e2, ← ih]
      cases (ks.map kW).findIdx? fun j => decide (j = kW w) with
      | none => rfl
      | some j => simp
theorem dW_get (ks : List Wo) (f : Wo → Bool) (w : Wo) : dGet2 (.T (ks.map kW)) (ks.map fun k => D.bl (f k)) (eW w) (.bl false) = some (.bl (if w ∈ ks then f w else false)) := by
  show (((keyAs (w.map D.int)).map fun k => (ks.map kW).findIdx? fun j => decide (j = k)).map fun o => (o.bind fun j => (ks.map fun k => D.bl (f k))[j]?).getD (.bl false)) = _
  rw [keyAs_W]
  simp only [Option.map_some]
  rw [at_W]
  by_cases q : w ∈ ks
  · rw [if_pos q, if_pos q]; rfl
  · rw [if_neg q, if_neg q]; rfl
theorem dW_ix {ks : List Wo} (f : Wo → Bool) {w : Wo} (h : w ∈ ks) : dIx (dW ks f) (eW w) = some (.bl (f w)) := by
  have a := at_W ks f w
  rw [if_pos h] at a
  show ((((keyAs (w.map D.int)).map fun k => (ks.map kW).findIdx? fun j => decide (j = k)).bind fun o => o).bind fun j => (ks.map fun k => D.bl (f k))[j]?) = _
  rw [keyAs_W]
  simp only [Option.map_some, Option.bind_some]
  exact a
theorem dW_keys (ks : List Wo) : (DKs.T (ks.map kW)).keys = ks.map eW := by
  show (ks.map kW).map (fun k => D.tup (k.map kD)) = _
  rw [List.map_map]
  refine List.map_congr_left fun k _ => ?_
  show D.tup ((kW k).map kD) = D.tup (k.map D.int)
  unfold kW
  rw [List.map_map]
  rfl
theorem r_b_odd_ones_0 {α : Type} {ρ : DE} {kn : DE → Option α} {kr : D → DE → Option α} : cs b_odd_ones_0 ρ kn kr = cs (sPut 1 (mNot (mGet2 (mV 1) (mV 2) (mC (.bl false)))) (mV 2)) ρ kn kr := rfl
theorem noLL_W (ws : List Wo) : noLL (ws.map eW) = true := by
  induction ws with
  | nil => rfl
  | cons w ws ih =>
    show (noL (eW w) && noLL (ws.map eW)) = true
    rw [ih, Bool.and_true]
    show noLL (w.map D.int) = true
    induction w with
    | nil => rfl
    | cons i w ih2 =>
      show (noL (.int i) && noLL (w.map D.int)) = true
      rw [ih2]
      rfl
theorem nd_len {α : Type} [DecidableEq α] : ∀ {xs ys : List α}, xs.Nodup → (∀ x ∈ xs, x ∈ ys) → xs.length ≤ ys.length
  | [], ys, _, _ => Nat.zero_le _
  | x :: xs, ys, h1, h2 => by
    have n := List.nodup_cons.mp h1
    have m : x ∈ ys := h2 x List.mem_cons_self
    have := nd_len (ys := ys.erase x) n.2 fun a ha => (List.mem_erase_of_ne (fun e => by rw [e] at ha; exact n.1 ha)).mpr (h2 a (List.mem_cons_of_mem _ ha))
    rw [List.length_erase_of_mem m] at this
    have p := List.length_pos_of_mem m
    simp only [List.length_cons]
    omega
theorem ct_g2 {α : Type} {md ma mb : M} {ρ : DE} {a b : DE → Option α} : ct (mGet2 md ma mb) ρ a b = ce (mGet2 md ma mb) ρ fun x ρ1 => tst x (a ρ1) (b ρ1) := ct_of
theorem oo_loop {α : Type} {d0 : Option D} {kn : DE → Option α} {kr : D → DE → Option α} : ∀ (ws pre ks : List Wo) (R : Option α) (x2 : Option D), ks.Nodup → (∀ w, w ∈ ks ↔ w ∈ pre) → pre.length + ws.length ≤ 1000000 →
    (∀ ks' y2, ks'.Nodup → (∀ w, w ∈ ks' ↔ w ∈ pre ++ ws) → kn [d0, some (dW ks' (par (pre ++ ws))), y2] = R) →
    cF (gNm 2) b_odd_ones_0 (ws.map eW) [d0, some (dW ks (par pre)), x2] kn kr = R
  | [], pre, ks, R, x2, nd, hm, hb, hk => by
    have := hk ks x2 nd (fun w => by rw [List.append_nil]; exact hm w)
    rw [List.append_nil] at this
    exact this
  | w :: ws, pre, ks, R, x2, nd, hm, hb, hk => by
    have ih := fun x2 => oo_loop (d0 := d0) (kn := kn) (kr := kr) ws (pre ++ [w]) (addW ks w) R x2 (addW_nd nd w) (fun a => by rw [addW_mem, hm, List.mem_append, List.mem_singleton]) (by simp only [List.length_append, List.length_cons, List.length_nil] at hb ⊢; omega) (fun ks' y2 h1 h2 => by
      have := hk ks' y2 h1 (fun a => by rw [h2 a, List.append_assoc]; rfl)
      rw [List.append_assoc]
      exact this)
    have g := dW_get ks (par pre) w
    have p := dW_put ks (par pre) w (!(if w ∈ ks then par pre w else false))
    have f0 : (if w ∈ ks then par pre w else false) = par pre w := by
      by_cases q : w ∈ ks
      · rw [if_pos q]
      · rw [if_neg q]
        cases e : par pre w with
        | false => rfl
        | true => exact absurd ((hm w).mpr (par_in e)) q
    have fe : ((addW ks w).map fun k => D.bl (if k = w then !par pre w else par pre k)) = (addW ks w).map fun k => D.bl (par (pre ++ [w]) k) := List.map_congr_left fun k _ => by
      rw [par_app, par_cons]
      have z : par [] k = false := by unfold par; simp
      rw [z]
      by_cases q : k = w
      · rw [if_pos q, q]
        cases par pre w <;> simp
      · rw [if_neg q, decide_eq_false fun y => q y.symm]
        cases par pre k <;> rfl
    rw [f0] at g p
    rw [fe] at p
    have kl : ks.length < 16777216 := by
      have := nd_len nd fun x hx => (hm x).mp hx
      simp only [List.length_cons] at hb
      omega
    unfold dW at *
    rw [List.map_cons]
    cases q : par pre w with
    | true =>
      rw [q] at g
      rw [q, Bool.not_true] at p
      simp_arith [↓cF_cons, r_b_odd_ones_0, ct_g2, g, p, kl]
      exact ih _
    | false =>
      rw [q] at g
      rw [q, Bool.not_false] at p
      simp_arith [↓cF_cons, r_b_odd_ones_0, ct_g2, g, p, kl]
      exact ih _
theorem srt_keys {ks ws : List Wo} (nd : ks.Nodup) (hm : ∀ w, w ∈ ks ↔ w ∈ ws) : srtW (ks.filter fun k => par ws k) = oddS ws := by
  have sm : Sm (srtW (ks.filter fun k => par ws k)) := sm_of (nd.filter _)
  refine odd_uniq sm fun w => ?_
  rw [par_sm sm]
  have : w ∈ srtW (ks.filter fun k => par ws k) ↔ par ws w = true := by
    rw [(srtW_perm _).mem_iff, List.mem_filter, hm]
    exact ⟨fun h => h.2, fun h => ⟨par_in h, h⟩⟩
  cases e : par ws w with
  | true => exact decide_eq_true (this.mpr e)
  | false => exact decide_eq_false fun z => by rw [this.mp z] at e; cases e
theorem odd_ok {ws : List Wo} (hl : ws.length ≤ 1000000) : F_odd_ones [.lst (ws.map eW)] = some (eS (oddS ws), [.lst (ws.map eW)]) := by
  have d0 : D.dic (.T []) [] = dW [] (par []) := rfl
  unfold F_odd_ones m_odd_ones
  simp_arith [ce_mD]
  rw [d0]
  refine oo_loop ws [] [] _ _ (by simp) (by simp) (by simpa using hl) fun ks y2 nd hm => ?_
  rw [List.nil_append] at hm ⊢
  have kl : ks.length ≤ ws.length := nd_len nd fun x hx => (hm x).mp hx
  have kk := dW_keys ks
  have sk := srt_keys nd hm
  have fl : (ks.filter fun k => par ws k).length ≤ 16777216 := Nat.le_trans (List.length_filter_le _ _) (by omega)
  have ms := mk_srtW fl
  have nl := noLL_W (oddS ws)
  have ed : dW ks (par ws) = .dic (.T (ks.map kW)) (ks.map fun k => .bl (par ws k)) := rfl
  rw [ed]
  simp_arith [kk]
  rw [lcm_flt eW eW (fun k => par ws k) (fun k hk => by
    have ix := dW_ix (par ws) hk
    rw [ed] at ix
    refine ⟨_, _, by simp_arith! [ix]; rfl, ?_, ?_⟩ <;> rfl) (by omega)]
  simp_arith [ms, nl, sk]
  rfl
theorem r_b_multiplied_0 {α : Type} {ρ : DE} {kn : DE → Option α} {kr : D → DE → Option α} : cs b_multiplied_0 ρ kn kr = cs (sExp (mMut 2 fExt (mCons (mLc (true && (true && true)) [4] (mSeq (mV 1)) (gNm 4) mYes (m2 dCat (mV 3) (mV 4))) mNil))) ρ kn kr := rfl
theorem ne_eW (a b : List Wo) : dNe (.lst (a.map eW)) (.lst (b.map eW)) = some (.bl (decide (a ≠ b))) := by
  have h := eq_eS a b
  unfold dEq at h
  unfold dNe
  split at h
  · rename_i q
    rw [show eS a = D.lst (a.map eW) from rfl, show eS b = D.lst (b.map eW) from rfl] at q h
    rw [if_pos q]
    injection h with h
    injection h with h
    rw [h]
    by_cases z : a = b
    · simp [z]
    · simp [z]
  · cases h
theorem dcW {a b : List Wo} (h : a.length + b.length ≤ 16777216) : dCat (.lst (a.map eW)) (.lst (b.map eW)) = some (.lst ((a ++ b).map eW)) := by
  rw [r_cat (by rw [List.length_map, List.length_map]; exact h), List.map_append]
theorem dcT {a b : Wo} (h : a.length + b.length ≤ 16777216) : dCat (eW a) (eW b) = some (eW (a ++ b)) := by
  unfold eW
  rw [r_catT (by rw [List.length_map, List.length_map]; exact h), List.map_append]
theorem exW {a b : List Wo} (h : a.length + b.length ≤ 16777216) : fExt (a.map eW) [.lst (b.map eW)] = some (.non, (a ++ b).map eW) := by
  rw [r_ext (by rw [List.length_map, List.length_map]; exact h), List.map_append]
theorem added_ok {a b : List Wo} (h : a.length + b.length ≤ 1000000) : F_added [.lst (a.map eW), .lst (b.map eW)] = some (.lst ((addS a b).map eW), [.lst (a.map eW), .lst (b.map eW)]) := by
  have e1 := dcW (a := a) (b := b) (by omega)
  have e2 := odd_ok (ws := a ++ b) (by rw [List.length_append]; exact h)
  unfold F_added m_added
  simp_arith! [e1, e2]
  rfl
def Wn (n : Nat) (s : List Wo) : Prop := ∀ w ∈ s, w.length ≤ n ∧ ∀ i ∈ w, 0 ≤ i
theorem mul_lc {α : Type} {k : D → DE → Option α} {w : Wo} {ys : List Wo} {n : Nat} (hw : w.length ≤ n) (hy : Wn n ys) (hn : n ≤ 1000000) (hl : ys.length ≤ 16777216) {x0 x1 x2 y : Option D} {R : Option α} (hk : k (.lst ((ys.map fun b => w ++ b).map eW)) [x0, x1, x2, some (eW w), y] = R) :
    cP [4] (gNm 4) mYes (m2 dCat (mV 3) (mV 4)) (ys.map eW) [x0, x1, x2, some (eW w), y] (ce_lc_2 true k [x0, x1, x2, some (eW w), y]) = R := by
  rw [lcm_map eW (fun b => eW (w ++ b)) (fun b hb => ?_) hl, ← hk, List.map_map]
  · rfl
  · have e := dcT (a := w) (b := b) (by have := (hy b hb).1; omega)
    exact ⟨[x0, x1, x2, some (eW w), some (eW b)], by simp_arith! [e], rfl⟩
theorem mul_loop {α : Type} {ys : List Wo} {x0 : Option D} {n : Nat} (hn : n ≤ 1000000) (hy : Wn n ys) {kn : DE → Option α} {kr : D → DE → Option α} : ∀ (xs pre : List Wo) (R : Option α) (x3 x4 : Option D), Wn n xs → pre.length + xs.length * ys.length ≤ 1000000 → ys.length ≤ 1000000 →
    (∀ y3 y4, kn [x0, some (.lst (ys.map eW)), some (.lst ((pre ++ prd xs ys).map eW)), y3, y4] = R) →
    cF (gNm 3) b_multiplied_0 (xs.map eW) [x0, some (.lst (ys.map eW)), some (.lst (pre.map eW)), x3, x4] kn kr = R
  | [], pre, R, x3, x4, _, _, _, hk => by
    have := hk x3 x4
    rw [show prd [] ys = [] from rfl, List.append_nil] at this
    exact this
  | x :: xs, pre, R, x3, x4, hx, hl, hl2, hk => by
    have m : (x :: xs).length * ys.length = ys.length + xs.length * ys.length := by rw [List.length_cons, Nat.add_mul]; omega
    have ih := fun x3 x4 => mul_loop (x0 := x0) hn hy (kn := kn) (kr := kr) xs (pre ++ ys.map fun b => x ++ b) R x3 x4 (fun w hw => hx w (by simp [hw])) (by rw [List.length_append, List.length_map]; omega) hl2 (fun y3 y4 => by
      have := hk y3 y4
      rw [prd_cons, ← List.append_assoc] at this
      exact this)
    have e := exW (a := pre) (b := ys.map fun b => x ++ b) (by rw [List.length_map]; omega)
    rw [List.map_cons]
    simp_arith [↓cF_cons, r_b_multiplied_0]
    refine mul_lc (hx x (by simp)).1 hy hn (by omega) ?_
    simp_arith [e]
    exact ih _ _
theorem prd_len (b : List Wo) : ∀ a : List Wo, (prd a b).length = a.length * b.length
  | [] => by rw [show prd [] b = [] from rfl]; simp
  | x :: a => by
    rw [prd_cons, List.length_append, List.length_map, prd_len b a, List.length_cons, Nat.add_mul]
    omega
theorem mul_ok {a b : List Wo} {n : Nat} (hn : n ≤ 1000000) (ha : Wn n a) (hb : Wn n b) (h : a.length * b.length ≤ 1000000) (h2 : b.length ≤ 1000000) : F_multiplied [.lst (a.map eW), .lst (b.map eW)] = some (.lst ((mulS a b).map eW), [.lst (a.map eW), .lst (b.map eW)]) := by
  have pl := prd_len b a
  have e2 := odd_ok (ws := prd a b) (by omega)
  unfold F_multiplied m_multiplied
  simp_arith! []
  refine mul_loop (x0 := some (.lst (a.map eW))) hn hb a [] _ _ _ ha (by simpa using h) h2 fun y3 y4 => ?_
  rw [List.nil_append]
  simp_arith! [e2]
  rfl
theorem r_b__law_odd_0 {α : Type} {ρ : DE} {kn : DE → Option α} {kr : D → DE → Option α} : cs b__law_odd_0 ρ kn kr = cs (sIf (mAnd (m2 dNe (mV 1) (mLst mNil)) (m2 dEq (m2 dIx (mV 1) (mNeg (mC (.int 1)))) (mV 2))) (sExp (mMut 1 fPop mNil)) (sApp 1 (mV 2))) ρ kn kr := rfl
theorem last_ix {found : List D} {x : D} : atI (found ++ [x]) (-1) = some x := by
  unfold atI ixN
  have h1 : ¬ (0 : Int) ≤ -1 := by omega
  have h2 : -(((found ++ [x]).length : Nat) : Int) ≤ -1 := by simp; omega
  rw [if_neg h1, if_pos h2]
  have e : (-1 + (((found ++ [x]).length : Nat) : Int)).toNat = found.length := by
    simp
    omega
  rw [Option.bind_some, e]
  simp
theorem odd_loop {α : Type} {x0 : Option D} {kn : DE → Option α} {kr : D → DE → Option α} : ∀ (ws st : List Wo) (R : Option α) (x2 : Option D), Sm st → (∀ a ∈ st, ∀ w ∈ ws, a ≤ w) → ws.Pairwise (fun a b => a ≤ b) → st.length + ws.length ≤ 1000000 →
    (∀ st' y2, Sm st' → (∀ w, par st' w = (par st w != par ws w)) → kn [x0, some (.lst (st'.map eW)), y2] = R) →
    cF (gNm 2) b__law_odd_0 (ws.map eW) [x0, some (.lst (st.map eW)), x2] kn kr = R
  | [], st, R, x2, sm, _, _, _, hk => hk st x2 sm fun w => by
      have : par [] w = false := by unfold par; simp
      rw [this]
      cases par st w <;> rfl
  | w :: ws, st, R, x2, sm, hle, pw, hl, hk => by
    have pw2 := List.pairwise_cons.mp pw
    have q1 : dNe (.lst (st.map eW)) (.lst []) = some (.bl (decide (st ≠ []))) := ne_eW st []
    have l0 : (st.map eW).length < 16777216 := by
      simp only [List.length_cons] at hl
      rw [List.length_map]
      omega
    have push : (∀ a ∈ st, a < w) → cF (gNm 2) b__law_odd_0 (ws.map eW) [x0, some (.lst ((st ++ [w]).map eW)), some (eW w)] kn kr = R := fun hlt => by
      refine odd_loop ws (st ++ [w]) R _ ?_ ?_ pw2.2 (by simp only [List.length_append, List.length_cons, List.length_nil] at hl ⊢; omega) fun st' y2 h1 h2 => hk st' y2 h1 fun v => ?_
      · unfold Sm
        rw [List.pairwise_append]
        refine ⟨sm, by simp, fun a ha b hb => ?_⟩
        rw [List.mem_singleton] at hb
        rw [hb]
        exact hlt a ha
      · intro a ha b hb
        rcases List.mem_append.mp ha with ha | ha
        · exact hle a ha b (by simp [hb])
        · rw [List.mem_singleton] at ha
          rw [ha]
          exact pw2.1 b hb
      · rw [h2, par_app, par_cons w ws, par_cons w []]
        have : par [] v = false := by unfold par; simp
        rw [this]
        cases par st v <;> cases par ws v <;> cases decide (w = v) <;> rfl
    rcases List.eq_nil_or_concat st with rfl | ⟨s', l, rfl⟩
    · have p := push (by simp)
      simp_arith [↓cF_cons, r_b__law_odd_0, q1]
      exact p
    · rw [List.concat_eq_append] at *
      have q2 : decide (s' ++ [l] ≠ []) = true := by simp
      rw [q2] at q1
      have q3 : atI ((s' ++ [l]).map eW) (-1) = some (eW l) := by
        rw [List.map_append]
        exact last_ix
      have q4 := eq_eW l w
      by_cases z : l = w
      · subst z
        rw [decide_eq_true rfl] at q4
        have pp : fPop ((s' ++ [l]).map eW) [] = some (eW l, s'.map eW) := by
          unfold fPop
          simp
        have sm' : Sm s' := (List.pairwise_append.mp sm).1
        have := odd_loop (x0 := x0) (kn := kn) (kr := kr) ws s' R (some (eW l)) sm' (fun a ha b hb => hle a (by simp [ha]) b (by simp [hb])) pw2.2 (by simp only [List.length_append, List.length_cons, List.length_nil] at hl ⊢; omega) fun st' y2 h1 h2 => hk st' y2 h1 fun v => by
          rw [h2, par_app, par_cons l ws, par_cons l []]
          have : par [] v = false := by unfold par; simp
          rw [this]
          cases par s' v <;> cases par ws v <;> cases decide (l = v) <;> rfl
        simp_arith [↓cF_cons, r_b__law_odd_0, q1, q3, q4, pp]
        exact this
      · rw [decide_eq_false z] at q4
        have p := push (fun a ha => by
          have le := hle a ha w (by simp)
          rcases List.mem_append.mp ha with ha | ha
          · have lt : a < l := (List.pairwise_append.mp sm).2.2 a ha l (by simp)
            have le2 := hle l (by simp) w (by simp)
            by_cases y : a < w
            · exact y
            · exact absurd lt (List.not_lt.mpr (List.le_trans le2 (List.not_lt.mp y)))
          · rw [List.mem_singleton] at ha
            by_cases y : a < w
            · exact y
            · exact absurd (List.le_antisymm le (List.not_lt.mp y)) (by rw [ha]; exact z))
        rw [List.map_append] at p
        simp_arith [↓cF_cons, r_b__law_odd_0, q1, q3, q4]
        exact p
theorem lawodd_ok {ws : List Wo} (hl : ws.length ≤ 1000000) : F__law_odd [.lst (ws.map eW)] = some (.lst ((oddS ws).map eW), [.lst (ws.map eW)]) := by
  have ms := mk_srtW (ws := ws) (by omega)
  unfold F__law_odd m__law_odd
  simp_arith! [ms]
  have sl : (srtW ws).length = ws.length := (srtW_perm ws).length_eq
  refine odd_loop (srtW ws) [] _ _ (by unfold Sm; simp) (by simp) (srtW_pw ws) (by simp only [List.length_nil]; omega) fun st' y2 h1 h2 => ?_
  have e : st' = oddS ws := odd_uniq h1 fun w => by
    have : par [] w = false := by unfold par; simp
    rw [h2, this, par_perm (srtW_perm ws)]
    cases par ws w <;> rfl
  have nl := noLL_W st'
  subst e
  simp_arith [nl]
theorem lawplus_ok {a b : List Wo} (h : a.length + b.length ≤ 1000000) : F__law_plus [.lst (a.map eW), .lst (b.map eW)] = some (.lst ((addS a b).map eW), [.lst (a.map eW), .lst (b.map eW)]) := by
  have e1 := dcW (a := a) (b := b) (by omega)
  have e2 := lawodd_ok (ws := a ++ b) (by rw [List.length_append]; exact h)
  unfold F__law_plus m__law_plus
  simp_arith! [e1, e2]
  rfl
theorem tms_loop {α : Type} {ys : List Wo} {x0 : Option D} {n : Nat} (hn : n ≤ 1000000) (hy : Wn n ys) {kn : DE → Option α} {kr : D → DE → Option α} : ∀ (xs pre : List Wo) (R : Option α) (x3 x4 : Option D), Wn n xs → pre.length + xs.length * ys.length ≤ 1000000 → ys.length ≤ 1000000 →
    (∀ y3 y4, kn [x0, some (.lst (ys.map eW)), some (.lst ((pre ++ prd xs ys).map eW)), y3, y4] = R) →
    cF (gNm 3) b__law_times_0 (xs.map eW) [x0, some (.lst (ys.map eW)), some (.lst (pre.map eW)), x3, x4] kn kr = R := fun xs pre R x3 x4 h1 h2 h3 h4 => mul_loop hn hy xs pre R x3 x4 h1 h2 h3 h4
theorem lawtimes_ok {a b : List Wo} {n : Nat} (hn : n ≤ 1000000) (ha : Wn n a) (hb : Wn n b) (h : a.length * b.length ≤ 1000000) (h2 : b.length ≤ 1000000) : F__law_times [.lst (a.map eW), .lst (b.map eW)] = some (.lst ((mulS a b).map eW), [.lst (a.map eW), .lst (b.map eW)]) := by
  have pl := prd_len b a
  have e2 := lawodd_ok (ws := prd a b) (by omega)
  unfold F__law_times m__law_times
  simp_arith! []
  refine tms_loop (x0 := some (.lst (a.map eW))) hn hb a [] _ _ _ ha (by simpa using h) h2 fun y3 y4 => ?_
  rw [List.nil_append]
  simp_arith! [e2]
  rfl
theorem whole_i (i : Int) : F_is_whole [.int i] = some (.bl true, [.int i]) := by
  unfold F_is_whole m_is_whole
  simp_arith! []
theorem word_ok {w : Wo} (h0 : ∀ i ∈ w, 0 ≤ i) (hl : w.length ≤ 16777216) : F_is_word [eW w] = some (.bl true, [eW w]) := by
  unfold F_is_word m_is_word eW
  simp_arith! []
  rw [lcm_map D.int (fun i => .bl (decide (0 ≤ i))) (fun i hi => by
    have e := whole_i i
    have p := h0 i hi
    have g : dGe (.int i) (.int 0) = some (.bl true) := by
      rw [r_ge, decide_eq_true p]
    exact ⟨[some (.tup (w.map D.int)), some (.int i)], by rw [decide_eq_true p]; simp_arith! [e, g], rfl⟩) hl]
  have am := all_map (fun i : Int => decide (0 ≤ i)) w
  have at' : (w.all fun i => decide (0 ≤ i)) = true := by
    rw [List.all_eq_true]
    exact fun i hi => decide_eq_true (h0 i hi)
  rw [at'] at am
  simp_arith! [am]
theorem sm_all {s : List Wo} (h : Sm s) : ((s.zip s.tail).all fun p => decide (p.1 < p.2)) = true := by
  induction s with
  | nil => rfl
  | cons x s ih =>
    cases s with
    | nil => rfl
    | cons y s =>
      have h' := List.pairwise_cons.mp h
      show (decide (x < y) && ((y :: s).zip s).all _) = true
      rw [decide_eq_true (h'.1 y (by simp))]
      exact ih h'.2
theorem zip_W (s : List Wo) : zipD (s.map eW) (s.map eW).tail = (s.zip s.tail).map fun p => .tup [eW p.1, eW p.2] := by
  unfold zipD
  rw [← List.map_tail, List.zipWith_map, ← List.map_uncurry_zip_eq_zipWith]
  rfl
theorem sum_ok {s : List Wo} {n : Nat} (h : Sm s) (hw : Wn n s) (hn : n ≤ 1000000) (hl : s.length ≤ 1000000) : F_is_sum [.lst (s.map eW)] = some (.bl true, [.lst (s.map eW)]) := by
  have am := all_map (fun _ : Wo => true) s
  have at' : (s.all fun _ => true) = true := by simp
  rw [at'] at am
  have zl : (s.zip s.tail).length ≤ 16777216 := by
    rw [List.length_zip, List.length_tail]
    omega
  have am2 := all_map (fun p : Wo × Wo => decide (p.1 < p.2)) (s.zip s.tail)
  rw [sm_all h] at am2
  have sl : dSl (.lst (s.map eW)) (some 1) none = some (.lst (s.map eW).tail) := by
    rw [r_slL, show (1 : Int) = ((1 : Nat) : Int) from rfl, cut_nN, List.drop_one]
  unfold F_is_sum m_is_sum
  simp_arith! []
  rw [lcm_map eW (fun _ => .bl true) (fun w hw' => by
    have e := word_ok (w := w) (hw w hw').2 (by have := (hw w hw').1; omega)
    exact ⟨[some (.lst (s.map eW)), none, none, some (eW w)], by simp_arith! [e], rfl⟩) (by omega)]
  simp_arith [am, sl]
  rw [zip_W]
  rw [lcm_map (fun p : Wo × Wo => .tup [eW p.1, eW p.2]) (fun p => .bl (decide (p.1 < p.2))) (fun p _ => by
    have e := lt_w p.1 p.2
    exact ⟨[some (.lst (s.map eW)), some (eW p.1), some (eW p.2), none], by simp_arith! [e], rfl⟩) zl]
  simp_arith! [am2]
theorem take_ok (g s n : Int) (hn : 0 < n) (hn2 : n < 1073741824) (hs : 0 ≤ s) (hs2 : s < 2147483647) : ∃ r g' s', F__law_take [.lst [.int g, .int s], .int n] = some (.int r, [.lst [.int g', .int s'], .int n]) ∧ 0 ≤ r ∧ r < n ∧ 0 ≤ s' ∧ s' < 2147483647 := by
  by_cases hg : 0 < g
  · refine ⟨g % n, g / n, s, ?_, Int.emod_nonneg _ (by omega), Int.emod_lt_of_pos _ hn, hs, hs2⟩
    simp [F__law_take, m__law_take, sg__law_take, ap_v, ap_c, ap_2, ap_A, ap_nil, ap_cons, ap_lst, ap_tup, ap_B, ap_call, ap_callN, ap_callO, ap_T, ap_isT, ap_not, ap_neg, ap_and, ap_or, ap_if, ap_ch, ap_seq, ap_snil, ap_sif, ap_ret, ap_retN, ap_asg, ap_exp, ap_tgt, ap_app, ap_rev, ap_set, ap_aug, ap_for, ap_forM, ap_rng1, ap_rng2, ap_mseq, ap_enum, ap_lc, ap_yes, ap_gnm, ap_gtp, ap_gnil, ap_gcons, ap_fM, ap_on, ap_oc, r_add, r_sub, r_mul, r_div, r_mod, r_pow, r_lt, r_le, r_gt, r_ge, r_eqI, r_eqS, r_neI, r_neS, r_ixL, r_ixT, r_ixR, r_ipL, r_ipT, r_len, r_lenT, r_lenR, r_abs, r_max, r_min, a_int, a_bl, a_str, a_non, t_bl, List.map_cons, List.map_nil, List.length_cons, List.length_nil, List.replicate, List.cons_append, List.nil_append, List.getElem?_cons_zero, List.getElem?_cons_succ, List.set_cons_zero, List.set_cons_succ, List.getElem?_nil, Nat.reduceSub, Nat.reduceAdd, Nat.reduceEqDiff, decide_true, decide_false, ap_mk, ap_mut, ap_swap, ap_putI, ap_ev2, ap_keys, ap_mD, ap_put, ap_get2, ap_disp, ap_dsN, ap_dsC, ap_srtD, ap_sl, ap_oS, ap_oN, r_catI, r_mkL, r_mkLT, r_mkT, ap_gtpL, atI, ixN, hg, hn, hn2]
  · have e1 : cMul s 48271 = true := cMul_r (by omega)
    have e2 : ((s * 48271 + 11) % 2147483647 / 8).natAbs < 18446744073709551616 := by omega
    refine ⟨((s * 48271 + 11) % 2147483647 / 8) ^ 3 % 2147483629 % n, g, (s * 48271 + 11) % 2147483647, ?_, Int.emod_nonneg _ (by omega), Int.emod_lt_of_pos _ hn, Int.emod_nonneg _ (by omega), Int.emod_lt_of_pos _ (by omega)⟩
    simp [F__law_take, m__law_take, sg__law_take, ap_v, ap_c, ap_2, ap_A, ap_nil, ap_cons, ap_lst, ap_tup, ap_B, ap_call, ap_callN, ap_callO, ap_T, ap_isT, ap_not, ap_neg, ap_and, ap_or, ap_if, ap_ch, ap_seq, ap_snil, ap_sif, ap_ret, ap_retN, ap_asg, ap_exp, ap_tgt, ap_app, ap_rev, ap_set, ap_aug, ap_for, ap_forM, ap_rng1, ap_rng2, ap_mseq, ap_enum, ap_lc, ap_yes, ap_gnm, ap_gtp, ap_gnil, ap_gcons, ap_fM, ap_on, ap_oc, r_add, r_sub, r_mul, r_div, r_mod, r_pow, r_lt, r_le, r_gt, r_ge, r_eqI, r_eqS, r_neI, r_neS, r_ixL, r_ixT, r_ixR, r_ipL, r_ipT, r_len, r_lenT, r_lenR, r_abs, r_max, r_min, a_int, a_bl, a_str, a_non, t_bl, List.map_cons, List.map_nil, List.length_cons, List.length_nil, List.replicate, List.cons_append, List.nil_append, List.getElem?_cons_zero, List.getElem?_cons_succ, List.set_cons_zero, List.set_cons_succ, List.getElem?_nil, Nat.reduceSub, Nat.reduceAdd, Nat.reduceEqDiff, decide_true, decide_false, ap_mk, ap_mut, ap_swap, ap_putI, ap_ev2, ap_keys, ap_mD, ap_put, ap_get2, ap_disp, ap_dsN, ap_dsC, ap_srtD, ap_sl, ap_oS, ap_oN, r_catI, r_mkL, r_mkLT, r_mkT, ap_gtpL, atI, ixN, hg, hn, e1, e2]
theorem bag_ok (ns : List Int) (a : Nat) (ha : a < 1000) : ∃ g s, F__law_bag [.rol ns, .int a] = some (.lst [.int g, .int s], [.rol ns, .int a]) ∧ 0 ≤ s ∧ s < 2147483647 := by
  have key : ∀ c : Int, (c % 2147483647 + 104729 * (a : Int) + 7).natAbs < 18446744073709551616 := fun c => by omega
  have e1 : cMul 104729 (a : Int) = true := cMul_l (by omega)
  have e2 : ((10 : Int) ^ 18) = 1000000000000000000 := by decide
  have pr : ∀ x : Int, ∃ p : Int, 0 < p ∧ p ≤ 2147483647 ∧ atI [D.int 2147483629, .int 2147483587, .int 2147483579, .int 2147483563, .int 2147483549, .int 2147483543, .int 2147483497, .int 2147483489] ((a : Int) % 8) = some (.int p) := fun x => by
    have : (a : Int) % 8 = 0 ∨ (a : Int) % 8 = 1 ∨ (a : Int) % 8 = 2 ∨ (a : Int) % 8 = 3 ∨ (a : Int) % 8 = 4 ∨ (a : Int) % 8 = 5 ∨ (a : Int) % 8 = 6 ∨ (a : Int) % 8 = 7 := by omega
    rcases this with e | e | e | e | e | e | e | e <;> rw [e] <;> exact ⟨_, by decide, by decide, rfl⟩
  obtain ⟨p, p1, p2, ep⟩ := pr 0
  have fin : ∀ c : Int, 0 ≤ (c % 2147483647 + 104729 * (a : Int) + 7) ^ 5 % p ∧ (c % 2147483647 + 104729 * (a : Int) + 7) ^ 5 % p < 2147483647 := fun c => ⟨Int.emod_nonneg _ (by omega), by
    have := Int.emod_lt_of_pos ((c % 2147483647 + 104729 * (a : Int) + 7) ^ 5) p1
    omega⟩
  have kk : ∀ c : Int, ∃ g, F__law_bag [.rol ns, .int a] = F__law_bag [.rol ns, .int a] := fun c => ⟨0, rfl⟩
  by_cases hl : a < ns.length
  · have hc : atI ns (a : Int) = some ns[a] := by rw [at_nn hl, List.getElem?_eq_getElem hl]
    generalize ns[a] = c at hc
    have hl' : (a : Int) < (ns.length : Int) := by omega
    by_cases h18 : 1000000000000000000 ≤ (if c < 0 then -c else c)
    · refine ⟨if c < 0 then -c else c, _, ?_, fin c⟩
      simp [F__law_bag, m__law_bag, sg__law_bag, ap_v, ap_c, ap_2, ap_A, ap_nil, ap_cons, ap_lst, ap_tup, ap_B, ap_call, ap_callN, ap_callO, ap_T, ap_isT, ap_not, ap_neg, ap_and, ap_or, ap_if, ap_ch, ap_seq, ap_snil, ap_sif, ap_ret, ap_retN, ap_asg, ap_exp, ap_tgt, ap_app, ap_rev, ap_set, ap_aug, ap_for, ap_forM, ap_rng1, ap_rng2, ap_mseq, ap_enum, ap_lc, ap_yes, ap_gnm, ap_gtp, ap_gnil, ap_gcons, ap_fM, ap_on, ap_oc, r_add, r_sub, r_mul, r_div, r_mod, r_pow, r_lt, r_le, r_gt, r_ge, r_eqI, r_eqS, r_neI, r_neS, r_ixL, r_ixT, r_ixR, r_ipL, r_ipT, r_len, r_lenT, r_lenR, r_abs, r_max, r_min, a_int, a_bl, a_str, a_non, t_bl, List.map_cons, List.map_nil, List.length_cons, List.length_nil, List.replicate, List.cons_append, List.nil_append, List.getElem?_cons_zero, List.getElem?_cons_succ, List.set_cons_zero, List.set_cons_succ, List.getElem?_nil, Nat.reduceSub, Nat.reduceAdd, Nat.reduceEqDiff, decide_true, decide_false, ap_mk, ap_mut, ap_swap, ap_putI, ap_ev2, ap_keys, ap_mD, ap_put, ap_get2, ap_disp, ap_dsN, ap_dsC, ap_srtD, ap_sl, ap_oS, ap_oN, r_catI, r_mkL, r_mkLT, r_mkT, ap_gtpL, hc, hl', h18, e1, e2, key c, ep, p1]
    · refine ⟨0, _, ?_, fin c⟩
      simp [F__law_bag, m__law_bag, sg__law_bag, ap_v, ap_c, ap_2, ap_A, ap_nil, ap_cons, ap_lst, ap_tup, ap_B, ap_call, ap_callN, ap_callO, ap_T, ap_isT, ap_not, ap_neg, ap_and, ap_or, ap_if, ap_ch, ap_seq, ap_snil, ap_sif, ap_ret, ap_retN, ap_asg, ap_exp, ap_tgt, ap_app, ap_rev, ap_set, ap_aug, ap_for, ap_forM, ap_rng1, ap_rng2, ap_mseq, ap_enum, ap_lc, ap_yes, ap_gnm, ap_gtp, ap_gnil, ap_gcons, ap_fM, ap_on, ap_oc, r_add, r_sub, r_mul, r_div, r_mod, r_pow, r_lt, r_le, r_gt, r_ge, r_eqI, r_eqS, r_neI, r_neS, r_ixL, r_ixT, r_ixR, r_ipL, r_ipT, r_len, r_lenT, r_lenR, r_abs, r_max, r_min, a_int, a_bl, a_str, a_non, t_bl, List.map_cons, List.map_nil, List.length_cons, List.length_nil, List.replicate, List.cons_append, List.nil_append, List.getElem?_cons_zero, List.getElem?_cons_succ, List.set_cons_zero, List.set_cons_succ, List.getElem?_nil, Nat.reduceSub, Nat.reduceAdd, Nat.reduceEqDiff, decide_true, decide_false, ap_mk, ap_mut, ap_swap, ap_putI, ap_ev2, ap_keys, ap_mD, ap_put, ap_get2, ap_disp, ap_dsN, ap_dsC, ap_srtD, ap_sl, ap_oS, ap_oN, r_catI, r_mkL, r_mkLT, r_mkT, ap_gtpL, hc, hl', h18, e1, e2, key c, ep, p1]
  · have hl' : ¬ (a : Int) < (ns.length : Int) := by omega
    refine ⟨0, _, ?_, fin 0⟩
    have k0 := key 0
    simp only [Int.zero_emod, Int.zero_add] at k0
    simp [F__law_bag, m__law_bag, sg__law_bag, ap_v, ap_c, ap_2, ap_A, ap_nil, ap_cons, ap_lst, ap_tup, ap_B, ap_call, ap_callN, ap_callO, ap_T, ap_isT, ap_not, ap_neg, ap_and, ap_or, ap_if, ap_ch, ap_seq, ap_snil, ap_sif, ap_ret, ap_retN, ap_asg, ap_exp, ap_tgt, ap_app, ap_rev, ap_set, ap_aug, ap_for, ap_forM, ap_rng1, ap_rng2, ap_mseq, ap_enum, ap_lc, ap_yes, ap_gnm, ap_gtp, ap_gnil, ap_gcons, ap_fM, ap_on, ap_oc, r_add, r_sub, r_mul, r_div, r_mod, r_pow, r_lt, r_le, r_gt, r_ge, r_eqI, r_eqS, r_neI, r_neS, r_ixL, r_ixT, r_ixR, r_ipL, r_ipT, r_len, r_lenT, r_lenR, r_abs, r_max, r_min, a_int, a_bl, a_str, a_non, t_bl, List.map_cons, List.map_nil, List.length_cons, List.length_nil, List.replicate, List.cons_append, List.nil_append, List.getElem?_cons_zero, List.getElem?_cons_succ, List.set_cons_zero, List.set_cons_succ, List.getElem?_nil, Nat.reduceSub, Nat.reduceAdd, Nat.reduceEqDiff, decide_true, decide_false, ap_mk, ap_mut, ap_swap, ap_putI, ap_ev2, ap_keys, ap_mD, ap_put, ap_get2, ap_disp, ap_dsN, ap_dsC, ap_srtD, ap_sl, ap_oS, ap_oN, r_catI, r_mkL, r_mkLT, r_mkT, ap_gtpL, hl', e1, e2, k0, ep, p1]
def Bg (d : D) : Prop := ∃ g s : Int, d = .lst [.int g, .int s] ∧ 0 ≤ s ∧ s < 2147483647
theorem take_bg {d : D} (h : Bg d) (n : Int) (hn : 0 < n) (hn2 : n < 1073741824) : ∃ r d', F__law_take [d, .int n] = some (.int r, [d', .int n]) ∧ 0 ≤ r ∧ r < n ∧ Bg d' := by
  obtain ⟨g, s, rfl, h1, h2⟩ := h
  obtain ⟨r, g', s', e, h3, h4, h5, h6⟩ := take_ok g s n hn hn2 h1 h2
  exact ⟨r, _, e, h3, h4, g', s', rfl, h5, h6⟩
def nmD (m : Nat) : D := .lst ((List.range m).map fun k => D.int (k : Nat))
theorem nm_at {m : Nat} {r : Int} (h0 : 0 ≤ r) (h1 : r < m) : dIxP (nmD m) (.int r) = some (.int r) := by
  obtain ⟨t, rfl⟩ := Int.eq_ofNat_of_zero_le h0
  show atI _ _ = _
  rw [at_nn (by rw [List.length_map, List.length_range]; omega), List.getElem?_map, List.getElem?_range (by omega)]
  rfl
theorem nm_len (m : Nat) : fLen [nmD m] = some (.int (m : Nat)) := by
  show fLen [.lst _] = _
  rw [r_len, List.length_map, List.length_range]
theorem rng_len (n : Nat) : (rngD 0 n).length = n := by
  unfold rngD
  rw [List.length_map, List.length_range]
theorem wl_loop {α : Type} {m : Nat} (hm : 1 ≤ m) (hm2 : m ≤ 1000) {x2 : Option D} {P : Option α → Prop} : ∀ (xs : List D) (bg : D) (kl : List D → DE → Option α) (x3 : Option D), Bg bg →
    (∀ (ys : List Int) bg' y3, Bg bg' → ys.length = xs.length → (∀ i ∈ ys, 0 ≤ i) → P (kl (ys.map D.int) [some bg', some (nmD m), x2, y3])) →
    P (cP [3] (gNm 3) mYes (m2 dIxP (mV 1) (mCallO F__law_take (some (0, 0)) (mCons (mV 0) (mCons (mB fLen (mCons (mV 1) mNil)) mNil)))) xs [some bg, some (nmD m), x2, x3] kl)
  | [], bg, kl, x3, hb, hk => hk [] bg x3 hb rfl (by simp)
  | x :: xs, bg, kl, x3, hb, hk => by
    obtain ⟨r, bg', e, r0, r1, hb'⟩ := take_bg hb m (by omega) (by omega)
    have ih := fun x3 => wl_loop hm hm2 (x2 := x2) (P := P) xs bg' (fun es ρ1 => kl (.int r :: es) ρ1) x3 hb' fun ys bg2 y3 h1 h2 h3 => hk (r :: ys) bg2 y3 h1 (by simp [h2]) (fun i hi => by
      rcases List.mem_cons.mp hi with rfl | hi
      · exact r0
      · exact h3 i hi)
    have q := nm_at r0 r1
    have l := nm_len m
    rw [cP_cons]
    simp_arith! [e, q, l]
    exact ih _
theorem word_dr {d : D} (hb : Bg d) {m : Nat} (hm : 1 ≤ m) (hm2 : m ≤ 1000) {q : Nat} (hq : q ≤ 1000) : ∃ w d', F__law_word [d, nmD m, .int (q : Nat)] = some (eW w, [d', nmD m, .int (q : Nat)]) ∧ Bg d' ∧ w.length ≤ q ∧ ∀ i ∈ w, 0 ≤ i := by
  obtain ⟨r, d1, e, r0, r1, hb1⟩ := take_bg hb ((q : Int) + 1) (by omega) (by omega)
  obtain ⟨t, rfl⟩ := Int.eq_ofNat_of_zero_le r0
  have rn := rng_len t
  have l0 : lim62 ((t : Nat) : Int) = true := lim62_of (by omega) (by omega)
  have tn : Int.toNat ((t : Nat) : Int) = t := by simp
  unfold F__law_word m__law_word
  simp_arith! [e, l0, tn]
  refine wl_loop hm hm2 (P := fun o => ∃ w d', o = some (eW w, [d', nmD m, .int (q : Nat)]) ∧ Bg d' ∧ w.length ≤ q ∧ ∀ i ∈ w, 0 ≤ i) (rngD 0 t) d1 _ none hb1 fun ys bg' y3 h1 h2 h3 => ?_
  rw [rn] at h2
  have yl : (ys.map D.int).length ≤ 16777216 := by rw [List.length_map]; omega
  refine ⟨ys, bg', ?_, h1, by omega, h3⟩
  simp_arith [yl, Bool.false_eq_true, if_false]
  rfl
theorem odd_len (ws : List Wo) : (oddS ws).length ≤ ws.length := nd_len (sm_nd (oddS_sm ws)) fun w hw => par_in (oddS_mem.mp hw)
theorem odd_wn {n : Nat} {ws : List Wo} (h : Wn n ws) : Wn n (oddS ws) := fun w hw => h w (par_in (oddS_mem.mp hw))
theorem wn_le {n k : Nat} (hnk : n ≤ k) {ws : List Wo} (h : Wn n ws) : Wn k ws := fun w hw => ⟨Nat.le_trans (h w hw).1 hnk, (h w hw).2⟩
theorem wn_app {n : Nat} {a b : List Wo} (h1 : Wn n a) (h2 : Wn n b) : Wn n (a ++ b) := fun w hw => (List.mem_append.mp hw).elim (h1 w) (h2 w)
theorem prd_wn {n k : Nat} {a b : List Wo} (h1 : Wn n a) (h2 : Wn k b) : Wn (n + k) (prd a b) := fun w hw => by
  unfold prd at hw
  obtain ⟨x, hx, hw⟩ := List.mem_flatMap.mp hw
  obtain ⟨y, hy, rfl⟩ := List.mem_map.mp hw
  have a1 := h1 x hx
  have a2 := h2 y hy
  refine ⟨by rw [List.length_append]; omega, fun i hi => ?_⟩
  rcases List.mem_append.mp hi with hi | hi
  · exact a1.2 i hi
  · exact a2.2 i hi
theorem sl_loop {α : Type} {m : Nat} (hm : 1 ≤ m) (hm2 : m ≤ 1000) {q : Nat} (hq : q ≤ 1000) {x2 : Option D} {P : Option α → Prop} : ∀ (xs : List D) (bg : D) (kl : List D → DE → Option α) (x4 : Option D), Bg bg →
    (∀ (ys : List Wo) bg' y4, Bg bg' → ys.length = xs.length → Wn q ys → P (kl (ys.map eW) [some bg', some (nmD m), x2, some (.int (q : Nat)), y4])) →
    P (cP [4] (gNm 4) mYes (mCallO F__law_word (some (0, 0)) (mCons (mV 0) (mCons (mV 1) (mCons (mV 3) mNil)))) xs [some bg, some (nmD m), x2, some (.int (q : Nat)), x4] kl)
  | [], bg, kl, x4, hb, hk => hk [] bg x4 hb rfl (fun w hw => by cases hw)
  | x :: xs, bg, kl, x4, hb, hk => by
    obtain ⟨w, bg', e, hb', r0, r1⟩ := word_dr hb hm hm2 hq
    have ih := fun x4 => sl_loop hm hm2 hq (x2 := x2) (P := P) xs bg' (fun es ρ1 => kl (eW w :: es) ρ1) x4 hb' fun ys bg2 y4 h1 h2 h3 => hk (w :: ys) bg2 y4 h1 (by simp [h2]) (fun v hv => by
      rcases List.mem_cons.mp hv with rfl | hv
      · exact ⟨r0, r1⟩
      · exact h3 v hv)
    rw [cP_cons]
    simp_arith! [e]
    exact ih _
theorem sum_dr {d : D} (hb : Bg d) {m : Nat} (hm : 1 ≤ m) (hm2 : m ≤ 1000) {k q : Nat} (hk : k ≤ 1000) (hq : q ≤ 1000) : ∃ s d', F__law_sum [d, nmD m, .int (k : Nat), .int (q : Nat)] = some (.lst (s.map eW), [d', nmD m, .int (k : Nat), .int (q : Nat)]) ∧ Bg d' ∧ Sm s ∧ Wn q s ∧ s.length ≤ k := by
  obtain ⟨r, d1, e, r0, r1, hb1⟩ := take_bg hb ((k : Int) + 1) (by omega) (by omega)
  obtain ⟨t, rfl⟩ := Int.eq_ofNat_of_zero_le r0
  have rn := rng_len t
  have l0 : lim62 ((t : Nat) : Int) = true := lim62_of (by omega) (by omega)
  have tn : Int.toNat ((t : Nat) : Int) = t := by simp
  unfold F__law_sum m__law_sum
  simp_arith! [e, l0, tn]
  refine sl_loop hm hm2 hq (P := fun o => ∃ (s : List Wo) (d' : D), o = some (D.lst (s.map eW), [d', nmD m, .int (k : Nat), .int (q : Nat)]) ∧ Bg d' ∧ Sm s ∧ Wn q s ∧ s.length ≤ k) (rngD 0 t) d1 _ none hb1 fun ys bg' y4 h1 h2 h3 => ?_
  rw [rn] at h2
  have yl : (ys.map eW).length ≤ 16777216 := by rw [List.length_map]; omega
  have lo := lawodd_ok (ws := ys) (by omega)
  refine ⟨oddS ys, bg', ?_, h1, oddS_sm ys, odd_wn h3, Nat.le_trans (odd_len ys) (by omega)⟩
  simp_arith [yl, Bool.false_eq_true, if_false, lo]
  rfl
theorem r_b__law_right_0 {α : Type} {ρ : DE} {kn : DE → Option α} {kr : D → DE → Option α} : cs b__law_right_0 ρ kn kr = cs (sSeq (sAsg 4 (mLst (mCons (mCall F_added (mCons (m2 dIx (mV 2) (mC (.int 0))) (mCons (m2 dIx (mV 2) (mC (.int 1))) mNil))) (mCons (mCall F_multiplied (mCons (m2 dIx (mV 2) (mC (.int 0))) (mCons (m2 dIx (mV 2) (mC (.int 1))) mNil))) mNil)))) (sSeq (sIf (mOr (m2 dNe (mV 4) (mLst (mCons (mCall F__law_plus (mCons (mV 0) (mCons (mV 1) mNil))) (mCons (mCall F__law_times (mCons (mV 0) (mCons (mV 1) mNil))) mNil)))) (m2 dNe (mV 2) (mLst (mCons (mV 0) (mCons (mV 1) mNil))))) (sRet (mC (.bl false))) sNil) (sSeq (sIf (mOr (mNot (mTr (mCall F_is_sum (mCons (m2 dIx (mV 4) (mC (.int 0))) mNil)))) (mNot (mTr (mCall F_is_sum (mCons (m2 dIx (mV 4) (mC (.int 1))) mNil))))) (sRet (mC (.bl false))) sNil) (sForM 4 5 (sSeq (sApp 5 (mTup (mCons (mC (.int 99)) mNil))) (sRev 5)))))) ρ kn kr := rfl
theorem cs_id {m : SM} {ρ : DE} : cs m ρ (fun r => some (.nx r)) (fun d r => some (.rt d r)) = m ρ := by
  unfold cs
  cases m ρ with
  | none => rfl
  | some x => cases x <;> rfl
def E2 (a b : List Wo) : D := .lst [.lst (a.map eW), .lst (b.map eW)]
theorem sd_E2 (a b : List Wo) : sd (E2 a b) = true := by
  show (sd (eS a) && (sd (eS b) && true)) = true
  rw [sd_eS, sd_eS]
  rfl
theorem dep_E2 (a b : List Wo) : dep (E2 a b) ≤ 3 := dep_lst (k := 2) (fun d hd => by
  simp only [List.mem_cons, List.not_mem_nil, or_false] at hd
  rcases hd with rfl | rfl
  · exact dep_eS a
  · exact dep_eS b) (by omega)
theorem deq_E2 (a b : List Wo) : deq (E2 a b) (E2 a b) = true := (deq_iff _ _ (sd_E2 a b) (sd_E2 a b)).mpr rfl
theorem eq_E2 (a b : List Wo) : dEq (.lst [.lst (a.map eW), .lst (b.map eW)]) (.lst [.lst (a.map eW), .lst (b.map eW)]) = some (.bl true) := by
  have d1 := dep_E2 a b
  show dEq (E2 a b) (E2 a b) = _
  unfold dEq cmpOk
  rw [if_pos (by rw [Bool.and_eq_true, decide_eq_true_eq]; omega), deq_E2]
theorem ne_E2 (a b : List Wo) : dNe (.lst [.lst (a.map eW), .lst (b.map eW)]) (.lst [.lst (a.map eW), .lst (b.map eW)]) = some (.bl false) := by
  have d1 := dep_E2 a b
  show dNe (E2 a b) (E2 a b) = _
  unfold dNe cmpOk
  rw [if_pos (by rw [Bool.and_eq_true, decide_eq_true_eq]; omega), deq_E2]
  rfl
theorem itM_map {τ : Type} {e e' : τ → D} {j : Nat} {mb : SM} : ∀ (xs : List τ) (ρ : DE), j < ρ.length → (∀ x ∈ xs, ∀ ρ' : DE, ρ'.length = ρ.length → mb (ρ'.set j (some (e x))) = some (.nx (ρ'.set j (some (e' x))))) → ∃ y, itM j mb (xs.map e) ρ = some (xs.map e', ρ.set j y)
  | [], ρ, hj, _ => ⟨ρ[j], by rw [List.set_getElem_self]; rfl⟩
  | x :: xs, ρ, hj, h => by
    have h0 := h x (by simp) ρ rfl
    obtain ⟨y, hy⟩ := itM_map (e := e) (e' := e') (mb := mb) xs (ρ.set j (some (e' x))) (by simpa using hj) (fun z hz ρ' hr => h z (by simp [hz]) ρ' (by simpa using hr))
    refine ⟨y, ?_⟩
    rw [List.map_cons, List.map_cons]
    show (match mb (ρ.set j (some (e x))) with
      | some (.nx ρ1) => (match ρ1[j]? with
        | some (some d') => (itM j mb (xs.map e) ρ1).map fun r : List D × DE => (d' :: r.1, r.2)
        | _ => none)
      | _ => none) = _
    rw [h0]
    simp only [List.getElem?_set_self hj]
    rw [hy, List.set_set]
    rfl
theorem fm_step {α : Type} {A B : List Wo} (hA : A.length ≤ 1000000) (hB : B.length ≤ 1000000) {x0 x1 x2 x3 x5 : Option D} {kn : DE → Option α} {kr : D → DE → Option α} {R : Option α} (hk : ∀ y4 y5, kn [x0, x1, x2, x3, y4, y5] = R) :
    cs (sForM 4 5 (sSeq (sApp 5 (mTup (mCons (mC (.int 99)) mNil))) (sRev 5))) [x0, x1, x2, x3, some (.lst [.lst (A.map eW), .lst (B.map eW)]), x5] kn kr = R := by
  obtain ⟨y, hy⟩ := itM_map (e := fun s : List Wo => D.lst (s.map eW)) (e' := fun s : List Wo => D.lst ((s.map eW ++ [D.tup [D.int 99]]).reverse)) (j := 5) (mb := sSeq (sApp 5 (mTup (mCons (mC (.int 99)) mNil))) (sRev 5)) [A, B] [x0, x1, x2, x3, some (.lst [.lst (A.map eW), .lst (B.map eW)]), x5] (by simp) (fun s hs ρ' hr => by
    have sl : (s.map eW).length < 16777216 := by
      simp only [List.mem_cons, List.not_mem_nil, or_false] at hs
      rw [List.length_map]
      rcases hs with rfl | rfl <;> omega
    match ρ', hr with
    | [z0, z1, z2, z3, z4, z5], _ =>
      refine cs_id.symm.trans ?_
      simp_arith! [sl])
  unfold cs sForM
  show (match (itM 5 _ ([A, B].map fun s : List Wo => D.lst (s.map eW)) _).map _ with | some (Out.nx ρ1) => kn ρ1 | some (Out.rt d ρ1) => kr d ρ1 | none => none) = R
  rw [hy]
  exact hk _ _
theorem right_step {α : Type} {a b : List Wo} {n k : Nat} (hn : n ≤ 1000) (hk' : k ≤ 1000) (ha : Wn n a) (hb : Wn k b) (la : a.length ≤ 5000) (lb : b.length ≤ 5000) (lab : a.length * b.length ≤ 1000000) {kn : DE → Option α} {kr : D → DE → Option α} : ∀ (xs : List D) (R : Option α) (x3 x4 x5 : Option D),
    (∀ y3 y4 y5, kn [some (.lst (a.map eW)), some (.lst (b.map eW)), some (.lst [.lst (a.map eW), .lst (b.map eW)]), y3, y4, y5] = R) →
    cF (gNm 3) b__law_right_0 xs [some (.lst (a.map eW)), some (.lst (b.map eW)), some (.lst [.lst (a.map eW), .lst (b.map eW)]), x3, x4, x5] kn kr = R
  | [], R, x3, x4, x5, hk => hk x3 x4 x5
  | x :: xs, R, x3, x4, x5, hk => by
    have ih := right_step hn hk' ha hb la lb lab (kn := kn) (kr := kr) xs R
    have ha' := wn_le (k := 1000) hn ha
    have hb' := wn_le (k := 1000) hk' hb
    have l1 : (addS a b).length ≤ 1000000 := by
      have := odd_len (a ++ b)
      rw [List.length_append] at this
      unfold addS
      omega
    have l2 : (mulS a b).length ≤ 1000000 := by
      have := odd_len (prd a b)
      rw [prd_len] at this
      unfold mulS
      omega
    have e1 := added_ok (a := a) (b := b) (by omega)
    have e2 := mul_ok (n := 1000) (by omega) ha' hb' lab (by omega)
    have e3 := lawplus_ok (a := a) (b := b) (by omega)
    have e4 := lawtimes_ok (n := 1000) (by omega) ha' hb' lab (by omega)
    have q1 := ne_E2 (addS a b) (mulS a b)
    have q2 := ne_E2 a b
    have s1 := sum_ok (s := addS a b) (n := 1000) (oddS_sm _) (odd_wn (wn_app ha' hb')) (by omega) l1
    have s2 := sum_ok (s := mulS a b) (n := 2000) (oddS_sm _) (odd_wn (prd_wn ha' hb')) (by omega) l2
    simp_arith [↓cF_cons, r_b__law_right_0, e1, e2, e3, e4, q1, q2, s1, s2]
    exact fm_step l1 l2 fun y4 y5 => ih _ _ _ hk
theorem right_ok {a b : List Wo} {n k : Nat} (hn : n ≤ 1000) (hk' : k ≤ 1000) (ha : Wn n a) (hb : Wn k b) (la : a.length ≤ 5000) (lb : b.length ≤ 5000) (lab : a.length * b.length ≤ 1000000) : F__law_right [.lst (a.map eW), .lst (b.map eW)] = some (.bl true, [.lst (a.map eW), .lst (b.map eW)]) := by
  have q2 := eq_E2 a b
  have mk : ∀ s : List Wo, dMk .lst (.lst (s.map eW)) = some (.lst (s.map eW)) := fun s => rfl
  unfold F__law_right m__law_right
  simp_arith! [mk]
  refine right_step hn hk' ha hb la lb lab _ _ _ _ _ fun y3 y4 y5 => ?_
  simp_arith [q2]
def bU : SM := (sSeq (sIf (m2 dNe (mCall F_multiplied (mCons (mV 4) (mCons (mCall F_added (mCons (mV 5) (mCons (mV 6) mNil))) mNil))) (mCall F_added (mCons (mCall F_multiplied (mCons (mV 4) (mCons (mV 5) mNil))) (mCons (mCall F_multiplied (mCons (mV 4) (mCons (mV 6) mNil))) mNil)))) (sRet (mC (.bl false))) sNil) (sSeq (sIf (m2 dNe (mCall F_multiplied (mCons (mCall F_added (mCons (mV 5) (mCons (mV 6) mNil))) (mCons (mV 4) mNil))) (mCall F_added (mCons (mCall F_multiplied (mCons (mV 5) (mCons (mV 4) mNil))) (mCons (mCall F_multiplied (mCons (mV 6) (mCons (mV 4) mNil))) mNil)))) (sRet (mC (.bl false))) sNil) (sSeq (sAsg 8 (mSl (mV 4) oNone (oSome (mC (.int 8))) dSl)) (sIf (m2 dNe (mCall F_multiplied (mCons (mCall F_multiplied (mCons (mV 8) (mCons (mSl (mV 5) oNone (oSome (mC (.int 8))) dSl) mNil))) (mCons (mV 6) mNil))) (mCall F_multiplied (mCons (mV 8) (mCons (mCall F_multiplied (mCons (mSl (mV 5) oNone (oSome (mC (.int 8))) dSl) (mCons (mV 6) mNil))) mNil)))) (sRet (mC (.bl false))) sNil))))
theorem r_bU {α : Type} {ρ : DE} {kn : DE → Option α} {kr : D → DE → Option α} : cs bU ρ kn kr = cs (sSeq (sIf (m2 dNe (mCall F_multiplied (mCons (mV 4) (mCons (mCall F_added (mCons (mV 5) (mCons (mV 6) mNil))) mNil))) (mCall F_added (mCons (mCall F_multiplied (mCons (mV 4) (mCons (mV 5) mNil))) (mCons (mCall F_multiplied (mCons (mV 4) (mCons (mV 6) mNil))) mNil)))) (sRet (mC (.bl false))) sNil) (sSeq (sIf (m2 dNe (mCall F_multiplied (mCons (mCall F_added (mCons (mV 5) (mCons (mV 6) mNil))) (mCons (mV 4) mNil))) (mCall F_added (mCons (mCall F_multiplied (mCons (mV 5) (mCons (mV 4) mNil))) (mCons (mCall F_multiplied (mCons (mV 6) (mCons (mV 4) mNil))) mNil)))) (sRet (mC (.bl false))) sNil) (sSeq (sAsg 8 (mSl (mV 4) oNone (oSome (mC (.int 8))) dSl)) (sIf (m2 dNe (mCall F_multiplied (mCons (mCall F_multiplied (mCons (mV 8) (mCons (mSl (mV 5) oNone (oSome (mC (.int 8))) dSl) mNil))) (mCons (mV 6) mNil))) (mCall F_multiplied (mCons (mV 8) (mCons (mCall F_multiplied (mCons (mSl (mV 5) oNone (oSome (mC (.int 8))) dSl) (mCons (mV 6) mNil))) mNil)))) (sRet (mC (.bl false))) sNil)))) ρ kn kr := rfl
def bT : SM := (sSeq (sAsg 7 (mLst (mCons (mTup (mCons (mV 4) (mCons (mV 5) mNil))) (mCons (mTup (mCons (mV 5) (mCons (mV 4) mNil))) (mCons (mTup (mCons (mV 4) (mCons (mLst mNil) mNil))) (mCons (mTup (mCons (mLst mNil) (mCons (mV 5) mNil))) (mCons (mTup (mCons (mV 4) (mCons (mV 4) mNil))) (mCons (mTup (mCons (mV 5) (mCons (mLst (mCons (mTup mNil) mNil)) mNil))) (mCons (mTup (mCons (mLst (mCons (mTup mNil) mNil)) (mCons (mV 5) mNil))) mNil))))))))) (sSeq (sIf (mNot (mTr (mB fAll (mCons (mLc (true && (true && true)) [9, 10] (mSeq (mV 7)) (gTp (gsCons (gNm 9) (gsCons (gNm 10) gsNil))) mYes (mCall F__law_right (mCons (mV 9) (mCons (mV 10) mNil)))) mNil)))) (sRet (mC (.bl false))) sNil) bU))
theorem r_bT {α : Type} {ρ : DE} {kn : DE → Option α} {kr : D → DE → Option α} : cs bT ρ kn kr = cs (sSeq (sAsg 7 (mLst (mCons (mTup (mCons (mV 4) (mCons (mV 5) mNil))) (mCons (mTup (mCons (mV 5) (mCons (mV 4) mNil))) (mCons (mTup (mCons (mV 4) (mCons (mLst mNil) mNil))) (mCons (mTup (mCons (mLst mNil) (mCons (mV 5) mNil))) (mCons (mTup (mCons (mV 4) (mCons (mV 4) mNil))) (mCons (mTup (mCons (mV 5) (mCons (mLst (mCons (mTup mNil) mNil)) mNil))) (mCons (mTup (mCons (mLst (mCons (mTup mNil) mNil)) (mCons (mV 5) mNil))) mNil))))))))) (sSeq (sIf (mNot (mTr (mB fAll (mCons (mLc (true && (true && true)) [9, 10] (mSeq (mV 7)) (gTp (gsCons (gNm 9) (gsCons (gNm 10) gsNil))) mYes (mCall F__law_right (mCons (mV 9) (mCons (mV 10) mNil)))) mNil)))) (sRet (mC (.bl false))) sNil) bU)) ρ kn kr := rfl
theorem r_b_law_0 {α : Type} {ρ : DE} {kn : DE → Option α} {kr : D → DE → Option α} : cs b_law_0 ρ kn kr = cs (sSeq (sAsg 2 (mCall F__law_bag (mCons (mV 0) (mCons (mV 1) mNil)))) (sSeq (sAsg 3 (mLRg (m2 dAdd (mC (.int 1)) (mCallO F__law_take (some (0, 2)) (mCons (mV 2) (mCons (mC (.int 30)) mNil)))))) (sSeq (sAsg 4 (mCallO F__law_sum (some (0, 2)) (mIo 2 (mCons (mV 3) (mCons (mA (m2 dIxP (mLst (mCons (mC (.int 8)) (mCons (mC (.int 8)) (mCons (mC (.int 8)) (mCons (mC (.int 40)) mNil))))) (mCallO F__law_take (some (0, 2)) (mCons (mV 2) (mCons (mC (.int 4)) mNil))))) (mCons (mC (.int 8)) mNil)))))) (sSeq (sAsg 5 (mCallO F__law_sum (some (0, 2)) (mCons (mV 2) (mCons (mV 3) (mCons (mC (.int 8)) (mCons (mC (.int 4)) mNil)))))) (sSeq (sIf (m2 dEq (mCallO F__law_take (some (0, 2)) (mCons (mV 2) (mCons (mC (.int 2)) mNil))) (mC (.int 1))) (sAsg 5 (mCallO F__law_plus (none) (mCons (mV 5) (mCons (mSlI (mV 4) oNone (oSomeI (mCallO F__law_take (some (0, 2)) (mCons (mV 2) (mCons (mC (.int 9)) mNil)))) dSl) mNil)))) sNil) (sSeq (sAsg 6 (mCallO F__law_sum (some (0, 2)) (mCons (mV 2) (mCons (mV 3) (mCons (mC (.int 8)) (mCons (mC (.int 3)) mNil)))))) bT)))))) ρ kn kr := rfl
def eP (p : List Wo × List Wo) : D := .tup [.lst (p.1.map eW), .lst (p.2.map eW)]
theorem tailU_ok {α : Type} {x0 x1 x2 x3 : Option D} {one oth thd : List Wo} (w1 : Wn 8 one) (w2 : Wn 8 oth) (w3 : Wn 8 thd) (l1 : one.length ≤ 40) (l2 : oth.length ≤ 40) (l3 : thd.length ≤ 40) {x7 x8 x9 x10 : Option D} {kn : DE → Option α} {kr : D → DE → Option α} {R : Option α}
    (hk : ∀ y7 y8 y9 y10, kn [x0, x1, x2, x3, some (.lst (one.map eW)), some (.lst (oth.map eW)), some (.lst (thd.map eW)), y7, y8, y9, y10] = R) :
    cs bU [x0, x1, x2, x3, some (.lst (one.map eW)), some (.lst (oth.map eW)), some (.lst (thd.map eW)), x7, x8, x9, x10] kn kr = R := by
  have bd : ∀ a b : List Wo, a.length ≤ 2000 → b.length ≤ 40 → a.length * b.length ≤ 1000000 := fun a b h1 h2 => Nat.le_trans (Nat.mul_le_mul h1 h2) (by omega)
  have bd2 : ∀ a b : List Wo, a.length ≤ 40 → b.length ≤ 2000 → a.length * b.length ≤ 1000000 := fun a b h1 h2 => Nat.le_trans (Nat.mul_le_mul h1 h2) (by omega)
  have al : ∀ a b : List Wo, (addS a b).length ≤ a.length + b.length := fun a b => by
    have := odd_len (a ++ b)
    rw [List.length_append] at this
    exact this
  have ml : ∀ a b : List Wo, a.length ≤ 40 → b.length ≤ 40 → (mulS a b).length ≤ 1600 := fun a b h1 h2 => by
    have := odd_len (prd a b)
    rw [prd_len] at this
    exact Nat.le_trans this (Nat.mul_le_mul h1 h2)
  have aw : ∀ {n : Nat} {a b : List Wo}, Wn n a → Wn n b → Wn n (addS a b) := fun h1 h2 => odd_wn (wn_app h1 h2)
  have mw : ∀ {n k : Nat} {a b : List Wo}, Wn n a → Wn k b → Wn (n + k) (mulS a b) := fun h1 h2 => odd_wn (prd_wn h1 h2)
  have wz : Wn 8 [] := fun w h => by cases h
  have wu : Wn 8 [[]] := fun w h => by
    rw [List.mem_singleton] at h
    rw [h]
    exact ⟨by simp, fun i hi => by cases hi⟩
  have a1 := al oth thd
  have m12 := ml one oth l1 l2
  have m13 := ml one thd l1 l3
  have m21 := ml oth one l2 l1
  have m31 := ml thd one l3 l1
  have e1 := added_ok (a := oth) (b := thd) (by omega)
  have W : ∀ {n : Nat} {a : List Wo}, n ≤ 100 → Wn n a → Wn 100 a := fun h h2 => wn_le h h2
  have e2 := mul_ok (n := 100) (a := one) (b := addS oth thd) (by omega) (W (by omega) w1) (W (by omega) (aw w2 w3)) (bd2 _ _ l1 (by omega)) (by omega)
  have e3 := mul_ok (n := 100) (a := one) (b := oth) (by omega) (W (by omega) w1) (W (by omega) w2) (bd _ _ (by omega) l2) (by omega)
  have e4 := mul_ok (n := 100) (a := one) (b := thd) (by omega) (W (by omega) w1) (W (by omega) w3) (bd _ _ (by omega) l3) (by omega)
  have e5 := added_ok (a := mulS one oth) (b := mulS one thd) (by omega)
  have e6 := mul_ok (n := 100) (a := addS oth thd) (b := one) (by omega) (W (by omega) (aw w2 w3)) (W (by omega) w1) (bd _ _ (by omega) l1) (by omega)
  have e7 := mul_ok (n := 100) (a := oth) (b := one) (by omega) (W (by omega) w2) (W (by omega) w1) (bd _ _ (by omega) l1) (by omega)
  have e8 := mul_ok (n := 100) (a := thd) (b := one) (by omega) (W (by omega) w3) (W (by omega) w1) (bd _ _ (by omega) l1) (by omega)
  have e9 := added_ok (a := mulS oth one) (b := mulS thd one) (by omega)
  have n1 : dNe (.lst ((mulS one (addS oth thd)).map eW)) (.lst ((addS (mulS one oth) (mulS one thd)).map eW)) = some (.bl false) := by
    rw [ne_eW, mul_add_r, decide_eq_false (fun h => h rfl)]
  have n2 : dNe (.lst ((mulS (addS oth thd) one).map eW)) (.lst ((addS (mulS oth one) (mulS thd one)).map eW)) = some (.bl false) := by
    rw [ne_eW, mul_add_l, decide_eq_false (fun h => h rfl)]
  have sl : ∀ s : List Wo, dSl (.lst (s.map eW)) none (some 8) = some (.lst ((s.take 8).map eW)) := fun s => by
    rw [r_slL, cut_map, show (8 : Int) = ((8 : Nat) : Int) from rfl, cut_take]
  have tk : ∀ {s : List Wo}, Wn 8 s → Wn 8 (s.take 8) := fun h w hw => h w (List.mem_of_mem_take hw)
  have tl : ∀ s : List Wo, (s.take 8).length ≤ 8 := fun s => by rw [List.length_take]; omega
  have t1 := tl one
  have t2 := tl oth
  have p1 := ml (one.take 8) (oth.take 8) (by omega) (by omega)
  have p2 := ml (oth.take 8) thd (by omega) l3
  have f1 := mul_ok (n := 100) (a := one.take 8) (b := oth.take 8) (by omega) (W (by omega) (tk w1)) (W (by omega) (tk w2)) (bd _ _ (by omega) (by omega)) (by omega)
  have f2 := mul_ok (n := 100) (a := mulS (one.take 8) (oth.take 8)) (b := thd) (by omega) (W (by omega) (mw (tk w1) (tk w2))) (W (by omega) w3) (bd _ _ (by omega) (by omega)) (by omega)
  have f3 := mul_ok (n := 100) (a := oth.take 8) (b := thd) (by omega) (W (by omega) (tk w2)) (W (by omega) w3) (bd _ _ (by omega) (by omega)) (by omega)
  have f4 := mul_ok (n := 100) (a := one.take 8) (b := mulS (oth.take 8) thd) (by omega) (W (by omega) (tk w1)) (W (by omega) (mw (tk w2) w3)) (bd2 _ _ (by omega) (by omega)) (by omega)
  have n3 : dNe (.lst ((mulS (mulS (one.take 8) (oth.take 8)) thd).map eW)) (.lst ((mulS (one.take 8) (mulS (oth.take 8) thd)).map eW)) = some (.bl false) := by
    rw [ne_eW, mul_assoc', decide_eq_false (fun h => h rfl)]
  rw [r_bU]
  simp_arith! [e1, e2, e3, e4, e5, e6, e7, e8, e9, n1, n2, sl, f1, f2, f3, f4, n3]
  exact hk _ _ _ _
theorem tail_ok {α : Type} {x0 x1 x2 x3 : Option D} {one oth thd : List Wo} (w1 : Wn 8 one) (w2 : Wn 8 oth) (w3 : Wn 8 thd) (l1 : one.length ≤ 40) (l2 : oth.length ≤ 40) (l3 : thd.length ≤ 40) {x7 x8 x9 x10 : Option D} {kn : DE → Option α} {kr : D → DE → Option α} {R : Option α}
    (hk : ∀ y7 y8 y9 y10, kn [x0, x1, x2, x3, some (.lst (one.map eW)), some (.lst (oth.map eW)), some (.lst (thd.map eW)), y7, y8, y9, y10] = R) :
    cs bT [x0, x1, x2, x3, some (.lst (one.map eW)), some (.lst (oth.map eW)), some (.lst (thd.map eW)), x7, x8, x9, x10] kn kr = R := by
  have bd : ∀ a b : List Wo, a.length ≤ 2000 → b.length ≤ 40 → a.length * b.length ≤ 1000000 := fun a b h1 h2 => Nat.le_trans (Nat.mul_le_mul h1 h2) (by omega)
  have bd2 : ∀ a b : List Wo, a.length ≤ 40 → b.length ≤ 2000 → a.length * b.length ≤ 1000000 := fun a b h1 h2 => Nat.le_trans (Nat.mul_le_mul h1 h2) (by omega)
  have al : ∀ a b : List Wo, (addS a b).length ≤ a.length + b.length := fun a b => by
    have := odd_len (a ++ b)
    rw [List.length_append] at this
    exact this
  have ml : ∀ a b : List Wo, a.length ≤ 40 → b.length ≤ 40 → (mulS a b).length ≤ 1600 := fun a b h1 h2 => by
    have := odd_len (prd a b)
    rw [prd_len] at this
    exact Nat.le_trans this (Nat.mul_le_mul h1 h2)
  have aw : ∀ {n : Nat} {a b : List Wo}, Wn n a → Wn n b → Wn n (addS a b) := fun h1 h2 => odd_wn (wn_app h1 h2)
  have mw : ∀ {n k : Nat} {a b : List Wo}, Wn n a → Wn k b → Wn (n + k) (mulS a b) := fun h1 h2 => odd_wn (prd_wn h1 h2)
  have wz : Wn 8 [] := fun w h => by cases h
  have wu : Wn 8 [[]] := fun w h => by
    rw [List.mem_singleton] at h
    rw [h]
    exact ⟨by simp, fun i hi => by cases hi⟩
  have key : ∀ a b : List Wo, Wn 8 a → Wn 8 b → a.length ≤ 40 → b.length ≤ 40 → F__law_right [.lst (a.map eW), .lst (b.map eW)] = some (.bl true, [.lst (a.map eW), .lst (b.map eW)]) := fun a b h1 h2 h3 h4 => right_ok (n := 8) (k := 8) (by omega) (by omega) h1 h2 (by omega) (by omega) (bd a b (by omega) h4)
  have g1 := key _ _ w1 w2 l1 l2
  have g2 := key _ _ w2 w1 l2 l1
  have g3 : F__law_right [.lst (one.map eW), .lst []] = some (.bl true, [.lst (one.map eW), .lst []]) := key one [] w1 wz l1 (by simp)
  have g4 : F__law_right [.lst [], .lst (oth.map eW)] = some (.bl true, [.lst [], .lst (oth.map eW)]) := key [] oth wz w2 (by simp) l2
  have g5 := key _ _ w1 w1 l1 l1
  have g6 : F__law_right [.lst (oth.map eW), .lst [.tup []]] = some (.bl true, [.lst (oth.map eW), .lst [.tup []]]) := key oth [[]] w2 wu l2 (by simp)
  have g7 : F__law_right [.lst [.tup []], .lst (oth.map eW)] = some (.bl true, [.lst [.tup []], .lst (oth.map eW)]) := key [[]] oth wu w2 (by simp) l2
  have am : fAll [.lst [.bl true, .bl true, .bl true, .bl true, .bl true, .bl true, .bl true]] = some (.bl true) := rfl
  have hu := fun x7 x8 x9 x10 => tailU_ok (x0 := x0) (x1 := x1) (x2 := x2) (x3 := x3) (x7 := x7) (x8 := x8) (x9 := x9) (x10 := x10) w1 w2 w3 l1 l2 l3 (kr := kr) hk
  rw [r_bT]
  simp_arith []
  rw [show ([.tup [.lst (one.map eW), .lst (oth.map eW)], .tup [.lst (oth.map eW), .lst (one.map eW)], .tup [.lst (one.map eW), .lst []], .tup [.lst [], .lst (oth.map eW)], .tup [.lst (one.map eW), .lst (one.map eW)], .tup [.lst (oth.map eW), .lst [.tup []]], .tup [.lst [.tup []], .lst (oth.map eW)]] : List D) = ([(one, oth), (oth, one), (one, []), ([], oth), (one, one), (oth, [[]]), ([[]], oth)] : List (List Wo × List Wo)).map eP from rfl]
  rw [lcm_map eP (fun _ => .bl true) (fun p hp => by
    have e : F__law_right [.lst (p.1.map eW), .lst (p.2.map eW)] = some (.bl true, [.lst (p.1.map eW), .lst (p.2.map eW)]) := by
      simp only [List.mem_cons, List.not_mem_nil, or_false] at hp
      rcases hp with rfl | rfl | rfl | rfl | rfl | rfl | rfl
      · exact g1
      · exact g2
      · exact g3
      · exact g4
      · exact g5
      · exact g6
      · exact g7
    unfold eP
    exact ⟨[x0, x1, x2, x3, some (.lst (one.map eW)), some (.lst (oth.map eW)), some (.lst (thd.map eW)), _, x8, some (.lst (p.1.map eW)), some (.lst (p.2.map eW))], by simp_arith! [e], rfl⟩) (by simp)]
  simp_arith [am]
  exact hu _ _ _ _
theorem rngD_nat (n : Nat) : rngD 0 n = (List.range n).map fun k => D.int (k : Nat) := by
  unfold rngD
  refine List.map_congr_left fun i _ => ?_
  rw [Int.zero_add]
theorem nm_eq (m : Nat) : nmD m = .lst (rngD 0 m) := by rw [rngD_nat]; rfl
theorem pick40 {r : Int} (h0 : 0 ≤ r) (h1 : r < 4) : ∃ k : Nat, k ≤ 40 ∧ dIxP (.lst [.int 8, .int 8, .int 8, .int 40]) (.int r) = some (.int (k : Nat)) := by
  have : r = 0 ∨ r = 1 ∨ r = 2 ∨ r = 3 := by omega
  rcases this with rfl | rfl | rfl | rfl
  · exact ⟨8, by decide, rfl⟩
  · exact ⟨8, by decide, rfl⟩
  · exact ⟨8, by decide, rfl⟩
  · exact ⟨40, by decide, rfl⟩
theorem step_ok {α : Type} {ns : List Int} {i : Nat} (hi : i < 1000) {x2 x3 x4 x5 x6 x7 x8 x9 x10 : Option D} {kn : DE → Option α} {kr : D → DE → Option α} {R : Option α}
    (hk : ∀ y2 y3 y4 y5 y6 y7 y8 y9 y10, kn [some (.rol ns), some (.int (i : Nat)), y2, y3, y4, y5, y6, y7, y8, y9, y10] = R) :
    cs b_law_0 [some (.rol ns), some (.int (i : Nat)), x2, x3, x4, x5, x6, x7, x8, x9, x10] kn kr = R := by
  obtain ⟨g, st, e0, s0, s1⟩ := bag_ok ns i hi
  obtain ⟨r1, d1, e1, r10, r11, hb1⟩ := take_bg ⟨g, st, rfl, s0, s1⟩ 30 (by omega) (by omega)
  obtain ⟨t, rfl⟩ := Int.eq_ofNat_of_zero_le r10
  obtain ⟨r2, d2, e2, r20, r21, hb2⟩ := take_bg hb1 4 (by omega) (by omega)
  obtain ⟨k, k40, ek⟩ := pick40 r20 r21
  obtain ⟨one, d3, e3, hb3, sm1, w1, l1⟩ := sum_dr hb2 (m := 1 + t) (by omega) (by omega) (k := k) (q := 8) (by omega) (by omega)
  obtain ⟨oth, d4, e4, hb4, sm2, w2, l2⟩ := sum_dr hb3 (m := 1 + t) (by omega) (by omega) (k := 8) (q := 4) (by omega) (by omega)
  obtain ⟨r5, d5, e5, r50, r51, hb5⟩ := take_bg hb4 2 (by omega) (by omega)
  have q5 : dEq (.int r5) (.int 1) = some (.bl (decide (r5 = 1))) := r_eqI
  have tn : Int.toNat (1 + ((t : Nat) : Int)) = 1 + t := by omega
  have l0 : lim62 (1 + ((t : Nat) : Int)) = true := lim62_of (by omega) (by omega)
  have t0 : 1 + t ≤ 16777216 := by omega
  rw [nm_eq] at e3 e4
  have c8 : ((8 : Nat) : Int) = 8 := rfl
  have c4 : ((4 : Nat) : Int) = 4 := rfl
  have c3 : ((3 : Nat) : Int) = 3 := rfl
  rw [c8] at e3
  rw [c8, c4] at e4
  by_cases z : r5 = 1
  · rw [decide_eq_true z] at q5
    obtain ⟨r6, d6, e6, r60, r61, hb6⟩ := take_bg hb5 9 (by omega) (by omega)
    obtain ⟨u, rfl⟩ := Int.eq_ofNat_of_zero_le r60
    have sl : cutG (one.map eW) none (some ((u : Nat) : Int)) = (one.take u).map eW := by
      rw [cut_map, cut_take]
    have on : ∀ ρ : DE, oNone ρ = some none := fun _ => rfl
    have tl : (one.take u).length ≤ 8 := by rw [List.length_take]; omega
    have pl := lawplus_ok (a := oth) (b := one.take u) (by omega)
    have al : (addS oth (one.take u)).length ≤ 40 := by
      have := odd_len (oth ++ one.take u)
      rw [List.length_append] at this
      unfold addS
      omega
    have aw : Wn 8 (addS oth (one.take u)) := odd_wn (wn_app (wn_le (by omega) w2) (fun w hw => w1 w (List.mem_of_mem_take hw)))
    obtain ⟨thd, d7, e7, hb7, sm3, w3, l3⟩ := sum_dr hb6 (m := 1 + t) (by omega) (by omega) (k := 8) (q := 3) (by omega) (by omega)
    rw [nm_eq, c8, c3] at e7
    rw [r_b_law_0]
    simp_arith! [e0, e1, e2, ek, e3, e4, e5, q5, tn, l0, t0, cl_io, ce_slI, on, e6, sl, pl, e7]
    exact tail_ok w1 aw (wn_le (by omega) w3) (by omega) al (by omega) fun y7 y8 y9 y10 => hk _ _ _ _ _ _ _ _ _
  · rw [decide_eq_false z] at q5
    obtain ⟨thd, d7, e7, hb7, sm3, w3, l3⟩ := sum_dr hb5 (m := 1 + t) (by omega) (by omega) (k := 8) (q := 3) (by omega) (by omega)
    rw [nm_eq, c8, c3] at e7
    rw [r_b_law_0]
    simp_arith! [e0, e1, e2, ek, e3, e4, e5, q5, tn, l0, t0, cl_io, ce_slI, e7]
    exact tail_ok w1 (wn_le (by omega) w2) (wn_le (by omega) w3) (by omega) (by omega) (by omega) fun y7 y8 y9 y10 => hk _ _ _ _ _ _ _ _ _
theorem law_loop {α : Type} {ns : List Int} {kn : DE → Option α} {kr : D → DE → Option α} : ∀ (ks : List Nat) (R : Option α) (x1 x2 x3 x4 x5 x6 x7 x8 x9 x10 : Option D), (∀ k ∈ ks, k < 100) →
    (∀ y1 y2 y3 y4 y5 y6 y7 y8 y9 y10, kn [some (.rol ns), y1, y2, y3, y4, y5, y6, y7, y8, y9, y10] = R) →
    cF (gNm 1) b_law_0 (ks.map fun k => D.int (k : Nat)) [some (.rol ns), x1, x2, x3, x4, x5, x6, x7, x8, x9, x10] kn kr = R
  | [], R, x1, x2, x3, x4, x5, x6, x7, x8, x9, x10, hi, hk => hk x1 x2 x3 x4 x5 x6 x7 x8 x9 x10
  | i :: ks, R, x1, x2, x3, x4, x5, x6, x7, x8, x9, x10, hi, hk => by
    have ih := fun x1 x2 x3 x4 x5 x6 x7 x8 x9 x10 => law_loop (ns := ns) (kn := kn) (kr := kr) ks R x1 x2 x3 x4 x5 x6 x7 x8 x9 x10 (fun y hy => hi y (by simp [hy])) hk
    have hi0 := hi i (by simp)
    rw [List.map_cons]
    simp_arith [↓cF_cons]
    exact step_ok (by omega) fun y2 y3 y4 y5 y6 y7 y8 y9 y10 => ih _ _ _ _ _ _ _ _ _ _
theorem rng_v8 (x : Int) (h0 : 0 ≤ x) : 0 ≤ (if (if 8 < x then (8 : Int) else x) > 3 then (if 8 < x then (8 : Int) else x) else 3) ∧ (if (if 8 < x then (8 : Int) else x) > 3 then (if 8 < x then (8 : Int) else x) else 3) ≤ 8 := by
  constructor <;> (split <;> split <;> omega)
theorem law_eq (ns : List Int) (h : ns.length ≤ 63) : ∃ e, F_law [.rol ns] = some (.bl true, [e]) := by
  have r8 := rng_v8 (ns.length : Nat) (by omega)
  refine ⟨.rol ns, ?_⟩
  unfold F_law m_law
  simp_arith []
  generalize (if (if 8 < (ns.length : Int) then (8 : Int) else (ns.length : Int)) > 3 then (if 8 < (ns.length : Int) then (8 : Int) else (ns.length : Int)) else 3) = n at *
  rw [if_pos (lim62_of (by omega) (by omega)), rngD_nat]
  refine law_loop _ _ _ _ _ _ _ _ _ _ _ _ (fun k hk => ?_) fun y1 y2 y3 y4 y5 y6 y7 y8 y9 y10 => ?_
  · have := List.mem_range.mp hk
    omega
  · simp_arith []
end L_k11
namespace L_k11
open PySem PySem.Spec PyProof.Rows L2 VS
theorem facts {P : Program} {w : World} {K : PySem.W.Frag} {h : Heap} {mg : Str → Option Value} {f : Addr} (X : K.In h) (G : h.Ns mainGlobals mg) (hfa : mg ("law" : Str) = some (.ref f)) (c : He.SaysD fa fn K) :
    ∃ fd : FuncData, (∀ (s : Shared) (v : Value), BindsTo s fd ⟨[v], []⟩ [("_law_script", v)]) ∧ ∀ base : Heap, K.In base → base.Ns mainGlobals mg → FnOk P w K mg base CX0 5 f fd p_law (fnSp K sg_law F_law) := by
  have GS : Gs mg := ⟨He.free_ok X G (c.fact 15 (f := .free "abs") rfl), He.free_ok X G (c.fact 16 (f := .free "all") rfl), He.free_ok X G (c.fact 17 (f := .free "bool") rfl), He.free_ok X G (c.fact 18 (f := .free "int") rfl), He.free_ok X G (c.fact 19 (f := .free "isinstance") rfl), He.free_ok X G (c.fact 20 (f := .free "len") rfl), He.free_ok X G (c.fact 21 (f := .free "list") rfl), He.free_ok X G (c.fact 22 (f := .free "max") rfl), He.free_ok X G (c.fact 23 (f := .free "min") rfl), He.free_ok X G (c.fact 24 (f := .free "range") rfl), He.free_ok X G (c.fact 25 (f := .free "sorted") rfl), He.free_ok X G (c.fact 26 (f := .free "tuple") rfl), He.free_ok X G (c.fact 27 (f := .free "zip") rfl)⟩
  obtain ⟨fd0, F0⟩ := c.def_ 0 (d := d_is_whole) rfl
  obtain ⟨fd1, F1⟩ := c.def_ 1 (d := d_is_word) rfl
  obtain ⟨fd2, F2⟩ := c.def_ 2 (d := d_is_sum) rfl
  obtain ⟨fd3, F3⟩ := c.def_ 3 (d := d_odd_ones) rfl
  obtain ⟨fd4, F4⟩ := c.def_ 4 (d := d_added) rfl
  obtain ⟨fd5, F5⟩ := c.def_ 5 (d := d_multiplied) rfl
  obtain ⟨fd6, F6⟩ := c.def_ 6 (d := d__law_bag) rfl
  obtain ⟨fd7, F7⟩ := c.def_ 7 (d := d__law_take) rfl
  obtain ⟨fd8, F8⟩ := c.def_ 8 (d := d__law_odd) rfl
  obtain ⟨fd9, F9⟩ := c.def_ 9 (d := d__law_plus) rfl
  obtain ⟨fd10, F10⟩ := c.def_ 10 (d := d__law_times) rfl
  obtain ⟨fd11, F11⟩ := c.def_ 11 (d := d__law_word) rfl
  obtain ⟨fd12, F12⟩ := c.def_ 12 (d := d__law_sum) rfl
  obtain ⟨fd13, F13⟩ := c.def_ 13 (d := d__law_right) rfl
  obtain ⟨fd14, F14⟩ := c.def_ 14 (d := d_law) rfl
  have e := hfa.symm.trans (He.glo_ok X G (c.fact 14 (f := .glo "law") rfl))
  cases e
  have b := FunD.bindsA (ps := ["_law_script"]) F14 fun _ _ _ _ _ _ us hl => match us, hl with | [_], _ => rfl
  refine ⟨fd14, fun s v => b s [v] rfl, fun base _ _ => ?_⟩
  have h_is_whole := ok_is_whole (P := P) (w := w) (base := base) GS  F0 (He.glo_ok X G (c.fact 0 (f := .glo "is_whole") rfl))
  have h_is_word := ok_is_word (P := P) (w := w) (base := base) GS h_is_whole F1 (He.glo_ok X G (c.fact 1 (f := .glo "is_word") rfl))
  have h_is_sum := ok_is_sum (P := P) (w := w) (base := base) GS h_is_word F2 (He.glo_ok X G (c.fact 2 (f := .glo "is_sum") rfl))
  have h_odd_ones := ok_odd_ones (P := P) (w := w) (base := base) GS  F3 (He.glo_ok X G (c.fact 3 (f := .glo "odd_ones") rfl))
  have h_added := ok_added (P := P) (w := w) (base := base) GS h_odd_ones F4 (He.glo_ok X G (c.fact 4 (f := .glo "added") rfl))
  have h_multiplied := ok_multiplied (P := P) (w := w) (base := base) GS h_odd_ones F5 (He.glo_ok X G (c.fact 5 (f := .glo "multiplied") rfl))
  have h__law_bag := ok__law_bag (P := P) (w := w) (base := base) GS  F6 (He.glo_ok X G (c.fact 6 (f := .glo "_law_bag") rfl))
  have h__law_take := ok__law_take (P := P) (w := w) (base := base) GS  F7 (He.glo_ok X G (c.fact 7 (f := .glo "_law_take") rfl))
  have h__law_odd := ok__law_odd (P := P) (w := w) (base := base) GS  F8 (He.glo_ok X G (c.fact 8 (f := .glo "_law_odd") rfl))
  have h__law_plus := ok__law_plus (P := P) (w := w) (base := base) GS h__law_odd F9 (He.glo_ok X G (c.fact 9 (f := .glo "_law_plus") rfl))
  have h__law_times := ok__law_times (P := P) (w := w) (base := base) GS h__law_odd F10 (He.glo_ok X G (c.fact 10 (f := .glo "_law_times") rfl))
  have h__law_word := ok__law_word (P := P) (w := w) (base := base) GS h__law_take F11 (He.glo_ok X G (c.fact 11 (f := .glo "_law_word") rfl))
  have h__law_sum := ok__law_sum (P := P) (w := w) (base := base) GS h__law_take h__law_word h__law_odd F12 (He.glo_ok X G (c.fact 12 (f := .glo "_law_sum") rfl))
  have h__law_right := ok__law_right (P := P) (w := w) (base := base) GS h_added h_multiplied h__law_plus h__law_times h_is_sum F13 (He.glo_ok X G (c.fact 13 (f := .glo "_law_right") rfl))
  exact ok_law GS h__law_bag h__law_take h__law_sum h__law_plus h__law_right h_added h_multiplied F14
end L_k11
open PySem PySem.W PySem.Calls PyProof.Rows
theorem PySem.Challenge.cw_bendfronts_k11_sums_reckoned_holds : PySem.Challenge.rw_bendfronts_k11_sums_reckoned.Holds := by
  w_on; o_law
  refine HandSHeadRun.head_any (r := OpenLaw.row PySem.Challenge.rw_bendfronts_k11_sums_reckoned) (q := view (OpenLaw.row PySem.Challenge.rw_bendfronts_k11_sums_reckoned).prog [17]) (H := L_k11.hk) (ob := L_k11.ob) (M := 4000) (loose := L_k11.loose) (d := HandSHeadRun.topDef (OpenLaw.row PySem.Challenge.rw_bendfronts_k11_sums_reckoned).prog 17) (kwd := []) L_k11.ob_eq
    (by kernel_rfl) (fun s => by kernel_rfl) L_k11.run (by kernel_rfl) (by kernel_rfl) (by kernel_rfl) (by rfl) (by first | assumption | decide +kernel) (by decide +kernel) ⟨rfl, rfl, rfl, rfl, rfl, by decide +kernel⟩ ?hw ?hc
  case hw => w_witness2
  case hc =>
    refine L2.walk_ofE (l := PySem.Challenge.rw_bendfronts_k11_sums_reckoned) (n := 63) (k := 5) (x := "_law_script") (CX := L2.CX0) rfl (by decide) (by kernel_rfl) ⟨rfl, by decide, by decide⟩ ?F (fun _ _ _ _ z => z)
    intro w mg fa h Y G hmg0
    obtain ⟨K, KX, c⟩ := Y
    have hmg : mg ("law" : PySem.Str) = some (.ref fa) := by
      have e : (HandSHeadRun.topDef (OpenLaw.row PySem.Challenge.rw_bendfronts_k11_sums_reckoned).prog 17).name = ("law" : PySem.Str) := by kernel_rfl
      rw [← e]
      exact hmg0
    obtain ⟨fd, hb, hF⟩ := L_k11.facts (P := (PySem.Challenge.rw_bendfronts_k11_sums_reckoned).prog) (w := w) KX G hmg c
    exact ⟨K, fd, _, KX, hb, VS.law_sp rfl L_k11.law_eq, hF⟩
