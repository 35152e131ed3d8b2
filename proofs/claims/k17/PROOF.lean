import PyProof.Rows.All
import Wide.All
import OpenK.AllK
import Wide.FinOn
import HandS.ForMost
import HandS.Defaults
import KE.KDictDisplayH
import HandS.HeadHook1
import KE.SortData
import KE.DataEq
import KE.DataFind
import HandS.IsInst
import HandS.TupAny
import HandS.Zip
import KE.SortUse
import KE.SortCalls
import KE.LtData
import KE.LtSeq
import KE.KSortTup
import HandS.HeadEnd
import HandS.Head0
import HandS.Head1
import HandS.Head2
import HandS.HeadHook2
import HandS.Style
import HandS.More
import HandS.WordsDict
import KE.KDictSum
import KE.KDictCopyH
import HandS.ExcValue
import HandS.Conv
import HandS.TryMany
import HandS.TryOnly
import HandS.ExcIs
import HandS.ExcOwn
import HandS.HeadHook4
import HandS.ExcCtx
import HandS.HotCalls
import HandS.TupLen
import KE.DataCmp
import HandS.New0
import PySem.Challenge.RW_bendfronts_k17_left_walks
set_option Elab.async false
set_option linter.all false
set_option maxRecDepth 100000
set_option maxHeartbeats 2000000
namespace VS
open PySem PySem.Spec PyProof.Rows L2
def clsNm : Nat → Str
  | 0 => "Sums"
  | 1 => "Straight"
  | _ => "Desk"
def exNm : Nat → Str
  | 0 => "NoHeights"
  | 1 => "TooMany"
  | 2 => "NoTable"
  | 3 => "NoSetting"
  | 4 => "NoBanding"
  | 5 => "NoMove"
  | 6 => "NoPaper"
  | 7 => "NoText"
  | 8 => "NoRow"
  | 9 => "NoName"
  | 10 => "FrontError"
  | 11 => "ValueError"
  | _ => "Exception"
def exSub (c n : Nat) : Bool := decide (c = n) || decide (10 ≤ n)
def vB (K : PySem.W.Frag) (n : Nat) : Value := if n ≤ 10 then .ref (He.ga K (exNm n)) else if n = 11 then .type "ValueError" else .type "Exception"
def excCB (K : PySem.W.Frag) (D : Addr) : Bool :=
  He.eqO (PySem.W.findIn K (.ref D) "__getattribute__") (some (some (.builtin "BaseException.__getattribute__"))) && (He.eqO (PySem.W.findIn K (.ref D) "__getattr__") (some none) &&
  (decide (PySem.W.subIn K (.ref D) (.type "BaseException") = some true) && (PySem.W.hasDictIn K D && (He.eqO (PySem.W.findIn K (.ref D) "__class__") (some (some (.builtin "object.__class__"))) &&
  (He.eqO (PySem.W.specialIn K (.builtin "object.__class__") "__get__") (some (some (.builtin "getset_descriptor.__get__"))) && (decide (PySem.W.takesIn K (.builtin "object.__class__") = some true) && decide (PySem.W.mroIn K D (.type "object") = some true)))))))
def exsB (K : PySem.W.Frag) (cs ns : List Nat) : Bool :=
  (cs.all fun c => He.Fa.ok K (.exc (exNm c)) && (He.Fa.ok K (.glo (exNm c)) && (excCB K (He.ga K (exNm c)) &&
    ns.all fun n => decide (PySem.W.exmOne K (.ref (He.ga K (exNm c))) (vB K n) = some (exSub c n)) && decide (PySem.W.kitOne K (.ref (He.ga K (exNm c))) (vB K n) = some (exSub c n))))) &&
  ns.all fun n => if n ≤ 10 then He.Fa.ok K (.glo (exNm n)) else He.Fa.ok K (.free (exNm n))
def mk0B (K : PySem.W.Frag) (C : Addr) : Bool := PySem.W.makesIn K C && (He.eqO (PySem.W.findIn K (.ref C) "__init__") (some (some (.builtin "object.__init__"))) && (decide (PySem.W.mroIn K C (.type "object") = some true) && (PySem.W.keepIn K (.ref C) && decide (PySem.W.mroIn K C (.ref C) = some true))))
def oneB (K : PySem.W.Frag) : Bool := He.Fa.ok K (.glo "ONE") && (match K.lookup (He.ga K "ONE") with
  | some ⟨.type c, none, .seq its _, _⟩ => decide (c = "list") && (match its.toList with
    | [.ref t] => (match K.lookup t with
      | some ⟨.type c2, _, .seq its2 _, _⟩ => decide (c2 = "tuple") && its2.toList.isEmpty
      | _ => false)
    | _ => false)
  | _ => false)
end VS
namespace L_k17
open PySem PySem.Spec PyProof.Rows L2 VS
def topS (i : Nat) : Stmt := PySem.Challenge.pw_bendfronts_k17_left_walks.main.body.getD i (.Pass ⟨0, 0, 0, 0⟩)
abbrev exCs : List Nat := [1]
abbrev exNs : List Nat := [1]
abbrev s_Sums_nought : Stmt := inClass (topS 20) 0
abbrev s_Sums_one : Stmt := inClass (topS 20) 1
abbrev s_Sums_of_name : Stmt := inClass (topS 20) 2
abbrev s_odd_ones : Stmt := topS 7
abbrev s_added : Stmt := topS 8
abbrev s_Sums_plus : Stmt := inClass (topS 20) 3
abbrev s_multiplied : Stmt := topS 9
abbrev s_Sums_times : Stmt := inClass (topS 20) 4
abbrev s_empty_table : Stmt := topS 12
abbrev s_born_table : Stmt := topS 13
abbrev s_crossed_table : Stmt := topS 14
abbrev s_over_end : Stmt := topS 15
abbrev s_ended_table : Stmt := topS 16
abbrev s_table_behind : Stmt := topS 17
abbrev s_look_table : Stmt := topS 21
abbrev s_tables_along : Stmt := topS 22
abbrev s_between : Stmt := topS 23
abbrev s__law_bag : Stmt := topS 25
abbrev s__law_take : Stmt := topS 26
abbrev s__law_odd : Stmt := topS 27
abbrev s__law_simple : Stmt := topS 28
abbrev s__law_steps : Stmt := topS 29
abbrev s__law_walked : Stmt := topS 30
abbrev s_law : Stmt := topS 31
def d_Sums_nought : He.DefD := ⟨("Sums", some "nought"), "nought", "Sums.nought", defArgs s_Sums_nought, defBody s_Sums_nought, defScope s_Sums_nought, [], []⟩
def d_Sums_one : He.DefD := ⟨("Sums", some "one"), "one", "Sums.one", defArgs s_Sums_one, defBody s_Sums_one, defScope s_Sums_one, [], []⟩
def d_Sums_of_name : He.DefD := ⟨("Sums", some "of_name"), "of_name", "Sums.of_name", defArgs s_Sums_of_name, defBody s_Sums_of_name, defScope s_Sums_of_name, [], []⟩
def d_odd_ones : He.DefD := ⟨("odd_ones", none), "odd_ones", "odd_ones", defArgs s_odd_ones, defBody s_odd_ones, defScope s_odd_ones, [], []⟩
def d_added : He.DefD := ⟨("added", none), "added", "added", defArgs s_added, defBody s_added, defScope s_added, [], []⟩
def d_Sums_plus : He.DefD := ⟨("Sums", some "plus"), "plus", "Sums.plus", defArgs s_Sums_plus, defBody s_Sums_plus, defScope s_Sums_plus, [], []⟩
def d_multiplied : He.DefD := ⟨("multiplied", none), "multiplied", "multiplied", defArgs s_multiplied, defBody s_multiplied, defScope s_multiplied, [], []⟩
def d_Sums_times : He.DefD := ⟨("Sums", some "times"), "times", "Sums.times", defArgs s_Sums_times, defBody s_Sums_times, defScope s_Sums_times, [], []⟩
def d_empty_table : He.DefD := ⟨("empty_table", none), "empty_table", "empty_table", defArgs s_empty_table, defBody s_empty_table, defScope s_empty_table, [], []⟩
def d_born_table : He.DefD := ⟨("born_table", none), "born_table", "born_table", defArgs s_born_table, defBody s_born_table, defScope s_born_table, [], []⟩
def d_crossed_table : He.DefD := ⟨("crossed_table", none), "crossed_table", "crossed_table", defArgs s_crossed_table, defBody s_crossed_table, defScope s_crossed_table, [], []⟩
def d_over_end : He.DefD := ⟨("over_end", none), "over_end", "over_end", defArgs s_over_end, defBody s_over_end, defScope s_over_end, [], []⟩
def d_ended_table : He.DefD := ⟨("ended_table", none), "ended_table", "ended_table", defArgs s_ended_table, defBody s_ended_table, defScope s_ended_table, [], []⟩
def d_table_behind : He.DefD := ⟨("table_behind", none), "table_behind", "table_behind", defArgs s_table_behind, defBody s_table_behind, defScope s_table_behind, [], []⟩
def d_look_table : He.DefD := ⟨("look_table", none), "look_table", "look_table", defArgs s_look_table, defBody s_look_table, defScope s_look_table, [], []⟩
def d_tables_along : He.DefD := ⟨("tables_along", none), "tables_along", "tables_along", defArgs s_tables_along, defBody s_tables_along, defScope s_tables_along, [], []⟩
def d_between : He.DefD := ⟨("between", none), "between", "between", defArgs s_between, defBody s_between, defScope s_between, [], []⟩
def d__law_bag : He.DefD := ⟨("_law_bag", none), "_law_bag", "_law_bag", defArgs s__law_bag, defBody s__law_bag, defScope s__law_bag, [], []⟩
def d__law_take : He.DefD := ⟨("_law_take", none), "_law_take", "_law_take", defArgs s__law_take, defBody s__law_take, defScope s__law_take, [], []⟩
def d__law_odd : He.DefD := ⟨("_law_odd", none), "_law_odd", "_law_odd", defArgs s__law_odd, defBody s__law_odd, defScope s__law_odd, [], []⟩
def d__law_simple : He.DefD := ⟨("_law_simple", none), "_law_simple", "_law_simple", defArgs s__law_simple, defBody s__law_simple, defScope s__law_simple, [], []⟩
def d__law_steps : He.DefD := ⟨("_law_steps", none), "_law_steps", "_law_steps", defArgs s__law_steps, defBody s__law_steps, defScope s__law_steps, [], []⟩
def d__law_walked : He.DefD := ⟨("_law_walked", none), "_law_walked", "_law_walked", defArgs s__law_walked, defBody s__law_walked, defScope s__law_walked, [], []⟩
def d_law : He.DefD := ⟨("law", none), "law", "law", defArgs s_law, defBody s_law, defScope s_law, [], []⟩
def fn : List He.DefD := [d_Sums_nought, d_Sums_one, d_Sums_of_name, d_odd_ones, d_added, d_Sums_plus, d_multiplied, d_Sums_times, d_empty_table, d_born_table, d_crossed_table, d_over_end, d_ended_table, d_table_behind, d_look_table, d_tables_along, d_between, d__law_bag, d__law_take, d__law_odd, d__law_simple, d__law_steps, d__law_walked, d_law]
def fa : List He.Fa := [.glo "odd_ones", .glo "added", .glo "multiplied", .glo "empty_table", .glo "born_table", .glo "crossed_table", .glo "over_end", .glo "ended_table", .glo "table_behind", .glo "look_table", .glo "tables_along", .glo "between", .glo "_law_bag", .glo "_law_take", .glo "_law_odd", .glo "_law_simple", .glo "_law_steps", .glo "_law_walked", .glo "law", .cls "Sums", .meth "Sums" "nought", .meth "Sums" "one", .meth "Sums" "of_name", .meth "Sums" "plus", .meth "Sums" "times", .free "abs", .free "any", .free "enumerate", .free "int", .free "len", .free "list", .free "max", .free "min", .free "range", .free "sorted", .str "BORN" "born", .str "CROSS" "cross", .int "MOST_WORDS" 200]
abbrev R : PySem.W.OpenRow := PySem.W.OpenLaw.row PySem.Challenge.rw_bendfronts_k17_left_walks
def exB (K : PySem.W.Frag) : Bool := exsB K exCs exNs && (He.Fa.ok K (.glo (clsNm 0)) && mk0B K (He.ga K (clsNm 0))) && oneB K
abbrev hk : PySem.W.Hook := He.hookX 5 fa fn [] [] exB
def ob (s : PySem.W.SharedT) : He.AlX := He.obsX 5 fa fn [] [] exB (HandSHeadRun.getT s)
theorem ob_eq (s : PySem.W.SharedT) : ob s = hk.obs s.abs := He.obsX_eq (HandSHeadRun.getT_eq s)
def loose0 : List PySem.Str := ["BORN", "CROSS", "FrontError", "TooMany", "ONE", "odd_ones", "added", "multiplied", "Ring", "empty_table", "born_table", "crossed_table", "over_end", "ended_table", "table_behind", "MOST_WORDS"]
def loose1 : List PySem.Str := ["Sums", "look_table", "tables_along", "between", "_law_bag", "_law_take", "_law_odd", "_law_simple", "_law_steps", "_law_walked"]
abbrev loose : List PySem.Str := loose0 ++ loose1
theorem run (w : World) : HandSHeadRun.RunEq R (PySem.W.view R.prog [31]) hk ob 6000 loose w := by
  intro os
  kernel_rfl
end L_k17
namespace VS
open PySem PySem.Spec PyProof.Rows L2 PySem.Calls
open Sem (wp)
def Et (K : PySem.W.Frag) (a : Addr) : Prop := ∃ (o : Obj) (n : Nat), K.lookup a = some o ∧ o.cls = .type "tuple" ∧ o.data = .seq #[] n
def Tp (K : PySem.W.Frag) (H : Hp) (a : Addr) (vs : List V) : Prop := H a = some (.tup vs) ∨ (vs = [] ∧ Et K a)
theorem Tp.of {K : PySem.W.Frag} {H : Hp} {a : Addr} {vs : List V} (h : H a = some (.tup vs)) : Tp K H a vs := .inl h
theorem Tp.sq {K : PySem.W.Frag} {H : Hp} {a : Addr} {vs : List V} (h : Tp K H a vs) : SqT K H a vs := by
  rcases h with h | ⟨rfl, o, n, h1, h2, h3⟩
  · exact SqT.of h
  · exact .inr ⟨o, #[], n, h1, h2, h3, by simp, .nil⟩
theorem Tp.keep {K : PySem.W.Frag} {H H' : Hp} {a : Addr} {vs : List V} (h : Tp K H a vs) (ht : H a = some (.tup vs) → H' a = some (.tup vs)) : Tp K H' a vs := h.imp ht id
theorem Tp.ne {K : PySem.W.Frag} {H : Hp} {a : Addr} {vs : List V} (h : Tp K H a vs) (hv : vs ≠ []) : H a = some (.tup vs) := h.resolve_right fun z => hv z.1
abbrev NK := List Int
def hN (k : NK) : Int := reduceHash (Builtin.Tuple.tupleHashOf (k.map hashInt))
abbrev nk (P : Program) (w : World) : HeapKind P w NK := tupleKind (PySem.intKind P w)
abbrev NEn := NK × Addr × V
abbrev NP : List NEn → List (NK × Addr × Value) → Prop := Paired fun (p : NEn) (q : NK × Addr × Value) => p.1 = q.1 ∧ p.2.1 = q.2.1 ∧ RelV p.2.2 q.2.2
def nO (a : Addr) (es : List NEn) : HO := .ext fun h => es.length ≤ sizeLine ∧ (a == sysModules) = false ∧ ∃ us : List (NK × Addr × Value), NP es us ∧
  ∃ o ents ep, h.get? a = some o ∧ o.ExactDict ∧ o.data = .dict ents ep ∧ ents.toList = us.map (fun x => (⟨hN x.1, .ref x.2.1, x.2.2⟩ : DictEntry)) ∧ (us.map (·.1)).Nodup
def KN (K : PySem.W.Frag) (H : Hp) (k : NK) (b : Addr) : Prop := Tp K H b (k.map V.int)
def KNs (K : PySem.W.Frag) (H : Hp) (es : List NEn) : Prop := ∀ e ∈ es, KN K H e.1 e.2.1
variable {K : PySem.W.Frag}
theorem KN.keep {H H' : Hp} {k : NK} {b : Addr} (h : KN K H k b) (ht : ∀ b ys, H b = some (.tup ys) → H' b = some (.tup ys)) : KN K H' k b := Tp.keep h (ht _ _)
theorem KNs.keep {H H' : Hp} {es : List NEn} (h : KNs K H es) (ht : ∀ b ys, H b = some (.tup ys) → H' b = some (.tup ys)) : KNs K H' es := fun e he => (h e he).keep ht
section
variable {P : Program} {w : World} {H : Hp} {h : Heap} {a : Addr}
theorem nO_new {es : List NEn} {H' : Hp} (z : es.length ≤ sizeLine) (hd : (a == sysModules) = false) {us : List (NK × Addr × Value)} (rel : NP es us)
    (dd : ∃ o ents ep, h.get? a = some o ∧ o.ExactDict ∧ o.data = .dict ents ep ∧ ents.toList = us.map (fun x => (⟨hN x.1, .ref x.2.1, x.2.2⟩ : DictEntry)) ∧ (us.map (·.1)).Nodup) : ObjOk P w H' h a (nO a es) := by
  obtain ⟨o, ents, ep, h1, h2, h3, h4, h5⟩ := dd
  refine ⟨⟨z, hd, us, rel, o, ents, ep, h1, h2, h3, h4, h5⟩, ⟨o, h1⟩, ?_⟩
  rintro h1 h2 ⟨z, hd, us, rel, o, ents, ep, k1, k2, k3, k4, k5⟩ q
  exact ⟨z, hd, us, rel, o, ents, ep, q _ k1, k2, k3, k4, k5⟩
theorem ints_are {ks : List Int} {us : List Value} (r : Vals (ks.map V.int) us) : ItemsAre (PySem.intKind P w) ks us := by
  induction ks generalizing us with
  | nil => rw [List.map_nil] at r; cases r; exact .nil
  | cons k ks ih =>
    rw [List.map_cons] at r
    cases r with
    | cons h t =>
      obtain ⟨t0, rfl⟩ := h
      exact .cons (by simp [PySem.intKind, Value.isInt]) (ih t)
theorem KN.is {k : NK} {b : Addr} (ok : HOk P w H h) (X : K.In h) (x : KN K H k b) : (nk P w).is h k b := by
  rcases x with x | ⟨e, o, n, h1, h2, h3⟩
  · obtain ⟨_, its, r, o, e1, e2, n, e3⟩ := (show ObjOk P w H h b (.tup _) from ok b _ x)
    exact ⟨o, _, n, e1, e2, e3, by simpa using ints_are r⟩
  · rw [List.map_eq_nil_iff] at e
    subst e
    exact ⟨o, _, n, X b o h1, h2, h3, .nil⟩
theorem n_rd {es : List NEn} (ok : HOk P w H h) (X : K.In h) (e : Rd H a (nO a es)) (kn : KNs K H es) : es.length ≤ sizeLine ∧ (a == sysModules) = false ∧ ∃ us, NP es us ∧ h.DictOfH (nk P w) a us := by
  obtain ⟨⟨z, y, us, r, o, ents, ep, h1, h2, h3, h4, h5⟩, _⟩ := (show ObjOk P w H h a (nO a es) from e.ok ok)
  refine ⟨z, y, us, r, o, ents, ep, h1, h2, h3, h4, fun x hx => ?_, h5⟩
  have all : ∀ {l : List NEn} {m : List (NK × Addr × Value)}, NP l m → KNs K H l → ∀ x ∈ m, (nk P w).is h x.1 x.2.1 := by
    intro l m q
    induction q with
    | nil => intro _ x hx; exact nomatch hx
    | @cons p q ps qs hq t ih =>
      intro kn x hx
      rcases List.mem_cons.mp hx with e | hx
      · subst e
        rw [← hq.1, ← hq.2.1]
        exact (kn p List.mem_cons_self).is ok X
      · exact ih (fun e he => kn e (List.mem_cons_of_mem _ he)) x hx
  exact all r kn x hx
end
def valN (es : List NEn) (k : NK) : Option V := (es.find? fun e => decide (e.1 = k)).map (·.2.2)
def putN (es : List NEn) (k : NK) (b : Addr) (v : V) : List NEn :=
  if (valN es k).isSome = true then es.map (fun e => if e.1 = k then (e.1, e.2.1, v) else e) else es ++ [(k, b, v)]
theorem valN_pos {p : NEn} {r : List NEn} {k : NK} (e : p.1 = k) : valN (p :: r) k = some p.2.2 := by simp [valN, List.find?_cons, e]
theorem valN_neg {p : NEn} {r : List NEn} {k : NK} (e : ¬ p.1 = k) : valN (p :: r) k = valN r k := by simp [valN, List.find?_cons, e]
theorem NP.val {es : List NEn} {us : List (NK × Addr × Value)} (r : NP es us) (k : NK) : RelO (valN es k) ((atKey us k).map (·.2)) := by
  induction r with
  | nil => exact True.intro
  | @cons p q ps qs h t ih =>
    obtain ⟨h1, _, h2⟩ := h
    by_cases e : p.1 = k
    · have e' : q.1 = k := h1.symm.trans e
      have b : atKey (q :: qs) k = some q.2 := by simp [atKey, List.find?_cons, e']
      rw [valN_pos e, b]; exact h2
    · have e' : ¬ q.1 = k := fun z => e (h1.trans z)
      have b : atKey (q :: qs) k = atKey qs k := by simp [atKey, List.find?_cons, e']
      rw [valN_neg e, b]; exact ih
theorem NP.put {es : List NEn} {us : List (NK × Addr × Value)} (r : NP es us) (k : NK) {b : Addr} {y : V} {u : Value} (ry : RelV y u) : NP (putN es k b y) (storedH us k b u) := by
  have e : (valN es k).isSome = (atKey us k).isSome := by rw [(r.val k).isSome_eq, Option.isSome_map]
  unfold putN storedH
  rw [e]
  by_cases q : (atKey us k).isSome = true
  · rw [if_pos q, if_pos q]
    clear e q
    induction r with
    | nil => exact .nil
    | @cons p q ps qs h t ih =>
      rw [List.map_cons, List.map_cons]
      refine .cons ?_ ih
      obtain ⟨h1, h2, h3⟩ := h
      unfold putAt
      by_cases e : p.1 = k
      · rw [if_pos e, if_pos (h1.symm.trans e)]; exact ⟨h1, h2, ry⟩
      · rw [if_neg e, if_neg (fun z => e (h1.trans z))]; exact ⟨h1, h2, h3⟩
  · rw [if_neg q, if_neg q]; exact Paired.snoc r ⟨rfl, rfl, ry⟩
theorem putN_len (es : List NEn) (k : NK) (b : Addr) (v : V) : (putN es k b v).length ≤ es.length + 1 := by
  unfold putN
  split
  · rw [List.length_map]; omega
  · simp
section
variable {X : Cx} {pins : List (Addr × Obj)} {σ : L2.St} {H : Hp} {s : Shared} {a b : Addr} {k : NK} {es : List NEn} {v : V} {r : Value} {A : Around} {E : Value → Shared → Prop}
theorem n_getItem {Q : Value → Shared → Prop} (hu : A.units + 50 < cLine) (I : Inv X pins σ H s) (e : Rd H a (nO a es)) (kn : KNs X.K H es) (kb : KN X.K H k b) (hv : valN es k = some v) (h : ∀ w' s', Inv X pins σ H s' → RelV v w' → Q w' s') :
    wpAny (model X.prog X.w) A (getItem (.ref a) (.ref b)) Q E s := by
  obtain ⟨z, hd, xs, rel, dd⟩ := n_rd (P := X.prog) (w := X.w) I.hok I.kIn e kn
  obtain ⟨w', hw, rw'⟩ := RelO.some_of (v := v) (o := (atKey xs k).map (·.2)) (by rw [← hv]; exact rel.val k)
  obtain ⟨p, hp, hp2⟩ := Option.map_eq_some_iff.mp hw
  refine wpAny_getItem_heap (show (nk X.prog X.w).room A.in1 from by show A.in1.units < cLine; show A.units + 1 < cLine; omega) (KN.is I.hok I.kIn kb) dd hp ?_
  rw [hp2]
  exact h w' _ (I.tok _) rw'
theorem n_setItem {Q : Unit → Shared → Prop} (hu : A.units + 50 < cLine) (I : Inv X pins σ H s) (e : H a = some (nO a es)) (kn : KNs X.K H es) (kb : KN X.K H k b) (l : es.length < sizeLine) (rv : RelV v r)
    (h : ∀ s', Inv X pins σ (upd H a (nO a (putN es k b v))) s' → Q () s') : wpAny (model X.prog X.w) A (setItem (.ref a) (.ref b) r) Q E s := by
  obtain ⟨z, hd, xs, rel, dd⟩ := n_rd (P := X.prog) (w := X.w) I.hok I.kIn (.inl e) kn
  have hz : xs.length ≤ sizeLine := by rw [← Paired.length rel]; exact z
  have hl : (putN es k b v).length ≤ sizeLine := by have := putN_len es k b v; omega
  refine wpAny_setItem_heap (hsz := hz) (show (nk X.prog X.w).room A.in1 from by show A.in1.units < cLine; show A.units + 1 < cLine; omega) (KN.is I.hok I.kIn kb) dd fun h' dd' hs => h _ ?_
  obtain ⟨q, es, ep, hq, h2, h3, h4, _, h5⟩ := dd'
  exact d_write I (by rw [e]; exact True.intro) hs ⟨q, hq⟩ (nO_new hl hd (rel.put k rv) ⟨q, es, ep, hq, h2, h3, h4, h5⟩)
theorem n_get2 {d : V} {Q : Value → Shared → Prop} (hu : A.units + 50 < cLine) (I : Inv X pins σ H s) (e : Rd H a (nO a es)) (kn : KNs X.K H es) (kb : KN X.K H k b) (rd : RelV d r) (h : ∀ w' s', Inv X pins σ H s' → RelV ((valN es k).getD d) w' → Q w' s') :
    wpAny (model X.prog X.w) A (call (.builtin "dict.get") [.ref a, .ref b, r]) Q E s := by
  obtain ⟨z, hd, xs, rel, dd⟩ := n_rd (P := X.prog) (w := X.w) I.hok I.kIn e kn
  refine call_meetsIn PySem.F.slot_dict_get dd.typeIs PySem.F.entry_dict_get (PySem.F.args_dict_get_3 _ _ _) (meetsH_dict_get_default (nk X.prog X.w) a b hd r) ⟨show (nk X.prog X.w).room A.in1 from by show A.in1.units < cLine; show A.units + 1 < cLine; omega, k, xs, KN.is I.hok I.kIn kb, dd, h _ _ (I.tok _) ((rel.val k).getD rd)⟩
end
def NGet (K : PySem.W.Frag) (H : Hp) (a : Addr) (es : List NEn) (y : V) (k : NK) : Prop := Rd H a (nO a es) ∧ KNs K H es ∧ ∃ b, y = .ref b ∧ KN K H k b
def tNGet (K : PySem.W.Frag) (td ty : TE) : TE := fun σ H Q => td σ H fun x H1 => ty σ H1 fun y H2 => ∃ a es k v, x = .ref a ∧ NGet K H2 a es y k ∧ valN es k = some v ∧ Q v H2
def tNGet2 (K : PySem.W.Frag) (td ty tx : TE) : TE := fun σ H Q => td σ H fun x H1 => ∃ a es, x = .ref a ∧ Rd H1 a (nO a es) ∧ KNs K H1 es ∧ ty σ H1 fun y H2 => tx σ H2 fun z H3 => ∃ es k, NGet K H3 a es y k ∧ Q ((valN es k).getD z) H3
def sNPut (K : PySem.W.Frag) (td ty tv : TE) : TS := fun D σ H => tv σ H fun v H1 => td σ H1 fun x H2 => ty σ H2 fun y H3 => ∃ a es k b, x = .ref a ∧ y = .ref b ∧ H3 a = some (nO a es) ∧ KNs K H3 es ∧ KN K H3 k b ∧ es.length < sizeLine ∧ D.nx σ (upd H3 a (nO a (putN es k b v)))
section
variable {X : Cx} {o i e f value : Expr} {pos pos' apos cpos : Pos} {td ty tv tx : TE}
theorem n_typeIs {pins : List (Addr × Obj)} {σ : L2.St} {H : Hp} {s : Shared} {a : Addr} {es : List NEn} (I : Inv X pins σ H s) (e : Rd H a (nO a es)) (kn : KNs X.K H es) :
    s.TypeIs (.ref a) "dict" ∧ (∀ b, Value.ref a = .ref b → ∃ ob, s.heap.get? b = some ob ∧ ob.dict = none) := by
  obtain ⟨_, hd, xs, _, dd⟩ := n_rd (P := X.prog) (w := X.w) I.hok I.kIn e kn
  refine ⟨dd.typeIs, fun b q => ?_⟩
  cases q
  obtain ⟨ob, _, _, h1, h2, _⟩ := dd
  exact ⟨ob, h1, h2.2.1⟩
theorem pe_nget (hu : X.A.units + 50 < cLine) (ho : PE X o td) (hi : PE X i ty) (hs : NoSl i) : PE X (.Subscript o i pos) (tNGet X.K td ty) := by
  refine ⟨fun pins s σ H Q I h => ?_⟩
  refine subD_of PySem.F.slot_dict_getitem.lookup hs (thn (ho.run pins s σ H _ I h) fun u s1 ⟨x, H1, I1, rx, q1⟩ => thn (hi.run pins s1 σ H1 _ I1 q1) fun iv s2 ⟨y, H2, I2, ry, a, es, k, v, ex, ⟨e, kn, b, ey, kb⟩, hv, q2⟩ => ?_)
  subst ex ey
  obtain rfl : u = Value.ref a := rx
  obtain rfl : iv = Value.ref b := ry
  exact ⟨(n_typeIs I2 e kn).1, n_getItem hu I2 e kn kb hv fun w' s3 I3 rw' => ⟨v, H2, I3, rw', q2⟩⟩
theorem ps_nput (hu : X.A.units + 50 < cLine) (ho : PE X o td) (hi : PE X i ty) (hv : PE X value tv) (hs : swapsWith value (some (.Subscript o i pos')) pos.line X.env = pure false) :
    PS X (.Assign [.Subscript o i pos'] value pos) (sNPut X.K td ty tv) := by
  refine ⟨fun pins s σ H D I h => ?_⟩
  refine wpAny_Assign_Subscript (thn (hv.run pins s σ H _ I h) fun r s1 ⟨v, H1, I1, rv, q1⟩ => thn (ho.run pins s1 σ H1 _ I1 q1) fun u s2 ⟨x, H2, I2, rx, q2⟩ => thn (hi.run pins s2 σ H2 _ I2 q2) fun iv s3 ⟨y, H3, I3, ry, a, es, k, b, ex, ey, e, kn, kb, l, q3⟩ => ?_) hs
  subst ex ey
  obtain rfl : u = Value.ref a := rx
  obtain rfl : iv = Value.ref b := ry
  exact n_setItem hu I3 e kn kb l rv fun s4 I4 => ⟨σ, _, I4, q3⟩
theorem pe_nget2 (hu : X.A.units + 50 < cLine) (ho : PE X o td) (he : PE X e ty) (hf : PE X f tx) (m : M2 X o "get" apos e f cpos) : PE X (.Call (.Attribute o "get" apos) [e, f] [] cpos) (tNGet2 X.K td ty tx) := by
  refine ⟨fun pins s σ H Q I h => ?_⟩
  refine wpAny_Call_method m.base m.few m.line PySem.F.plainAttrs_dict PySem.F.slot_dict_get PySem.F.type_dict_get (thn (ho.run pins s σ H _ I h) fun u s1 ⟨x, H1, I1, rx, a, es0, ex, d, d2, q1⟩ => ?_)
  subst ex
  obtain rfl : u = Value.ref a := rx
  obtain ⟨t1, t2⟩ := n_typeIs I1 d d2
  refine ⟨t1, t2, ?_⟩
  rw [m.trees]
  refine Calls.callWith_builtin rfl (Calls.evalArgs_plain (Calls.spliced_cons (thn (he.run pins s1 σ H1 _ I1 q1) fun iv s2 ⟨y, H2, I2, ry, q2⟩ =>
    Calls.spliced_cons (thn (hf.run pins s2 σ H2 _ I2 q2) fun fv s3 ⟨z, H3, I3, rz, es, k, ⟨e, kn, b, ey, kb⟩, q3⟩ => Calls.spliced_nil ?_))))
  subst ey
  obtain rfl : iv = Value.ref b := ry
  exact n_get2 hu I3 e kn kb rz fun w' s4 I4 rw' => ⟨_, H3, I4, rw', q3⟩
theorem n_empty {P : Program} {w : World} {H : Hp} (h : Heap) (hb : sysModules < h.objs.size) : ObjOk P w H (h.push { cls := .type "dict", data := .dict #[] }) h.objs.size (nO h.objs.size []) :=
  nO_new (Nat.zero_le _) (beq_eq_false_iff_ne.mpr (Ne.symm (Nat.ne_of_lt hb))) (us := []) .nil ⟨_, #[], 0, Heap.get?_push_size _ rfl, ⟨rfl, rfl, rfl⟩, rfl, rfl, List.nodup_nil⟩
def tNNew : TE := fun _ H Q => ∀ p, H p = none → Q (.ref p) (upd H p (nO p []))
theorem pe_nnew : PE X (.Dict [] [] pos) tNNew := ⟨fun pins s σ H Q I h =>
  wpAny_Dict_empty ⟨.ref s.heap.objs.size, _, I.laid (a := s.heap.objs.size) (o := nO s.heap.objs.size []) (t' := s.toks) (fun _ _ q => Heap.get?_push_of_some _ q) (Nat.le_refl _) (n_empty s.heap I.big), rfl, h _ (I.hok.fresh (Nat.le_refl _))⟩⟩
end
def ItNd (d : Addr) (o : Obj) (es : List NEn) : It :=
  ⟨fun i H => H d = some (.frz o (nO d es)) ∧ i < es.length, fun i H x H' => H' = H ∧ ∃ e, es[i]? = some e ∧ x = .ref e.2.1, fun i H => H d = some (.frz o (nO d es)) ∧ es.length ≤ i⟩
theorem frzN {X : Cx} {pins : List (Addr × Obj)} {σ : L2.St} {H : Hp} {s : Shared} {d : Addr} {o : Obj} {kvs : List NEn} (I : Inv X pins σ H s) (h : H d = some (.frz o (nO d kvs))) :
    (d == sysModules) = false ∧ s.heap.get? d = some o ∧ o.ExactDict ∧ ∃ (es : Array DictEntry) (ep : Nat), o.data = .dict es ep ∧ es.size = kvs.length ∧
      ∀ (i : Nat) (e : NEn), kvs[i]? = some e → ∃ en : DictEntry, es[i]? = some en ∧ en.key = .ref e.2.1 := by
  obtain ⟨hd, ⟨z, hs, us, rel, o', es, ep, h1, h2, h3, h4, h5⟩, _⟩ := I.hok d _ h
  rw [hd] at h1
  cases h1
  refine ⟨hs, hd, h2, es, ep, h3, ?_, fun i e he => ?_⟩
  · rw [← Array.length_toList, h4, List.length_map, Paired.length rel]
  · obtain ⟨b, hb, e1, e2, _⟩ := paired_get rel he
    refine ⟨⟨hN b.1, .ref b.2.1, b.2.2⟩, ?_, by rw [e2]⟩
    rw [← Array.getElem?_toList, h4, List.getElem?_map, hb]
    rfl
section
variable {P : Program} {w : World} {K : PySem.W.Frag} {tg : Expr} {d : Addr} {o : Obj} {es : Array DictEntry} {ep : Nat}
theorem turn_keysN {kvs : List NEn} (it : Addr) (hod : o.data = .dict es ep) : Turn P w K tg (ItNd d o kvs) [it] it (fun i h => h.IsKeyIter it d i kvs.length ep) where
  mem := by simp
  obj := fun i h st b hb => by
    have e : b = it := by simpa using hb
    subst e
    obtain ⟨oi, e, c, dd⟩ := st
    exact ⟨oi, e, fun v z => by rw [dd] at z; cases z⟩
  keep := fun i h h' st k => st.at fun oi e => k it (by simp) oi e
  item := by
    intro X hP hw hK hc i pins s σ H E I hf st hg
    subst hP hw hK
    obtain ⟨hd, hi⟩ := hg
    obtain ⟨f0, f1, f2, f3, f4, f5⟩ := hf it (by simp)
    obtain ⟨hs, hgd, hx, es', ep', hdt, hsz, ent⟩ := frzN I hd
    obtain ⟨rfl, rfl⟩ := dict_ep hod hdt
    obtain ⟨e0, he0⟩ : ∃ p, kvs[i]? = some p := ⟨kvs[i], List.getElem?_eq_getElem hi⟩
    obtain ⟨en, hen, hkey⟩ := ent i e0 he0
    refine next_key_item st hgd hdt hsz hen fun h' st' sb => ?_
    have I1 : Inv X pins σ H { s with heap := h' } := I.turned (t' := s.toks) (fun b ob hb e => (sb.2 b hb).trans e) f0 f1 f3 f4 f5
    obtain ⟨oi, e, c, dd⟩ := id st'
    exact ⟨en.key, rfl, go_of (s := { s with heap := h' }) e c dd (by decide) ⟨.ref e0.2.1, H, I1, hkey, ⟨rfl, e0, he0, rfl⟩, st', fun b hb => (hf b hb).1⟩⟩
  done := by
    intro X hP hw hK hc i pins s σ H E I hf st hg
    subst hP hw hK
    obtain ⟨hd, hi⟩ := hg
    obtain ⟨f0, f1, f2, f3, f4, f5⟩ := hf it (by simp)
    obtain ⟨hs, hgd, hx, es', ep', hdt, hsz, ent⟩ := frzN I hd
    obtain ⟨rfl, rfl⟩ := dict_ep hod hdt
    exact next_key_end (I.ok.hd hc) st hgd hdt hsz hi fun h' eb => ⟨rfl, I.turned (t' := s.toks) (fun b ob hb e => eb b ob hb e) f0 f1 f3 f4 f5⟩
  self := fun A i s Q E st h => by
    refine wpAny_pyIter_slot st.typeIs F.slot_dict_keyiterator_iter (wpAny_call_entry F.slot_dict_keyiterator_iter st.typeIs F.entry_dict_keyiterator_iter ?_ (F.args_dict_keyiterator_iter_1 _))
    show wpAny _ _ (ret (.ref it)) _ _ s
    exact wpAny_pure ⟨_, rfl, "dict_keyiterator", _, st.typeIs, F.slot_dict_keyiterator_next.lookup, h⟩
end
def iKeysN (td : TE) : TI := fun σ H R => td σ H fun x H1 => ∃ d o kvs, x = .ref d ∧ H1 d = some (.frz o (nO d kvs)) ∧ R (ItNd d o kvs) H1
theorem pi_keysN {X : Cx} {tg e : Expr} {td : TE} (he : PE X e td) : PI X tg e (iKeysN td) := by
  refine ⟨fun pins s σ H R I h => ?_⟩
  refine thn (he.run pins s σ H _ I h) fun u s1 ⟨x, H1, I1, rx, d, o, kvs, ex, hd, q⟩ => ?_
  subst ex
  obtain rfl : u = Value.ref d := rx
  obtain ⟨hs, hgd, hx, es, ep, hdt, hsz, ent⟩ := frzN I1 hd
  refine iter_keys hs hgd hx hdt (pi_one (tk := s1.toks) I1 _ (turn_keysN _ hdt) ⟨_, Heap.get?_push_size _ rfl, rfl, ?_⟩ q)
  rw [hsz] <;> rfl
end VS
namespace VS
open PySem PySem.Spec PyProof.Rows L2
inductive DKs where
  | K (ks : List Key) | T (ks : List (List Key))
  deriving Inhabited
def DKs.len : DKs → Nat
  | .K ks => ks.length
  | .T ks => ks.length
def dO : DKs → List V → HO
  | .K ks, vs => .dK (ks.zip vs)
  | .T ks, vs => .dT (ks.zip vs)
inductive D where
  | non | bl (b : Bool) | int (i : Int) | str (x : Str) | tup (xs : List D) | lst (xs : List D) | rol (ns : List Int) | dic (q : DKs) (xs : List D) | nd (ks : List NK) (xs : List D) | obj (a : Addr) | gon | ins (c : Nat) (xs : List D)
  deriving Inhabited
def clsFs : Nat → List Str
  | 0 => []
  | 1 => ["numbers"]
  | _ => ["kept"]
def inO (K : PySem.W.Frag) (c : Nat) (dx : Addr) (vs : List V) : HO := .ins (He.ga K (clsNm c)) dx ((clsFs c).zip vs)
inductive Gh where
  | un | fz | ow (r : Nat) (p : List Nat)
abbrev G := Addr → Gh
def lv (k : Nat) : Nat := if 99 ≤ k then k else k - 1
def Kc (K : PySem.W.Frag) (a : Addr) (xs : List V) : Prop :=
  ∃ (o : Obj) (its : Array Value) (n : Nat), K.lookup a = some o ∧ o.cls = .type "list" ∧ o.dict = none ∧ o.data = .seq its n ∧ its.size ≤ sizeLine ∧ Vals xs its.toList
theorem rol_sq {K : PySem.W.Frag} {H : Hp} {a : Addr} {xs : List V} (h : (∃ o, H a = some (.frz o (.lst xs))) ∨ Kc K a xs) : SqL K H a xs := h.elim (fun z => .inl (.inr z)) .inr
mutual
def Rep (K : PySem.W.Frag) (H : Hp) : D → V → Prop
  | .non, v => v = .non
  | .bl b, v => v = .bl b
  | .int i, v => v = .int i
  | .str x, v => v = .str x
  | .tup ds, v => ∃ a vs, v = .ref a ∧ Tp K H a vs ∧ RepL K H ds vs
  | .lst ds, v => ∃ a vs, v = .ref a ∧ H a = some (.lst vs) ∧ RepL K H ds vs
  | .rol ns, v => ∃ a, v = .ref a ∧ ((∃ o, H a = some (.frz o (.lst (ns.map V.int)))) ∨ Kc K a (ns.map V.int))
  | .dic q ds, v => ∃ a vs, v = .ref a ∧ Rd H a (dO q vs) ∧ q.len = ds.length ∧ RepL K H ds vs
  | .nd ks ds, v => ∃ a es, v = .ref a ∧ Rd H a (nO a es) ∧ es.map (·.1) = ks ∧ KNs K H es ∧ RepL K H ds (es.map (·.2.2))
  | .obj a, v => v = .ref a
  | .gon, v => ∃ a, v = .ref a
  | .ins c ds, v => ∃ a dx vs, v = .ref a ∧ H a = some (inO K c dx vs) ∧ (clsFs c).length = ds.length ∧ RepL K H ds vs
def RepL (K : PySem.W.Frag) (H : Hp) : List D → List V → Prop
  | [], vs => vs = []
  | d :: ds, vs => ∃ v r, vs = v :: r ∧ Rep K H d v ∧ RepL K H ds r
end
mutual
def Own (K : PySem.W.Frag) (H : Hp) (g : G) : D → Nat → Nat → List Nat → V → Prop
  | .non, _, _, _, v => v = .non
  | .bl b, _, _, _, v => v = .bl b
  | .int i, _, _, _, v => v = .int i
  | .str x, _, _, _, v => v = .str x
  | .tup ds, k, r, p, v => ∃ a vs, v = .ref a ∧ Tp K H a vs ∧ OwnL K H g ds (lv k) r p 0 vs
  | .lst ds, k, r, p, v => ∃ a vs, v = .ref a ∧ H a = some (.lst vs) ∧ g a = (if k = 0 then .fz else .ow r p) ∧ OwnL K H g ds (lv k) r p 0 vs
  | .rol ns, _, _, _, v => ∃ a, v = .ref a ∧ ((∃ o, H a = some (.frz o (.lst (ns.map V.int)))) ∨ Kc K a (ns.map V.int))
  | .dic q ds, k, r, p, v => ∃ a vs, v = .ref a ∧ (H a = some (dO q vs) ∨ (k = 0 ∧ ∃ o, H a = some (.frz o (dO q vs)))) ∧ q.len = ds.length ∧ g a = (if k = 0 then .fz else .ow r p) ∧ OwnL K H g ds (lv k) r p 0 vs
  | .nd ks ds, k, r, p, v => ∃ a es, v = .ref a ∧ (H a = some (nO a es) ∨ (k = 0 ∧ ∃ o, H a = some (.frz o (nO a es)))) ∧ es.map (·.1) = ks ∧ KNs K H es ∧ g a = (if k = 0 then .fz else .ow r p) ∧ OwnL K H g ds (lv k) r p 0 (es.map (·.2.2))
  | .obj a, _, _, _, v => v = .ref a
  | .gon, _, _, _, v => ∃ a, v = .ref a
  | .ins c ds, k, r, p, v => ∃ a dx vs, v = .ref a ∧ H a = some (inO K c dx vs) ∧ (clsFs c).length = ds.length ∧ g a = (if k = 0 then .fz else .ow r p) ∧ OwnL K H g ds (lv k) r p 0 vs
def OwnL (K : PySem.W.Frag) (H : Hp) (g : G) : List D → Nat → Nat → List Nat → Nat → List V → Prop
  | [], _, _, _, _, vs => vs = []
  | d :: ds, k, r, p, i, vs => ∃ v w, vs = v :: w ∧ Own K H g d k r (i :: p) v ∧ OwnL K H g ds k r p (i + 1) w
end
variable {K : PySem.W.Frag}
theorem own_rep {H : Hp} {g : G} : (d : D) → ∀ {k r p v}, Own K H g d k r p v → Rep K H d v
  | .non, _, _, _, _, h => h
  | .bl b, _, _, _, _, h => h
  | .int i, _, _, _, _, h => h
  | .str x, _, _, _, _, h => h
  | .obj a, _, _, _, _, h => h
  | .gon, _, _, _, _, h => h
  | .ins c ds, _, _, _, _, h => by
    obtain ⟨a, dx, vs, e, ha, hc, _, hl⟩ := h
    exact ⟨a, dx, vs, e, ha, hc, go ds hl⟩
  | .tup ds, _, _, _, _, h => by
    obtain ⟨a, vs, e, ha, hl⟩ := h
    exact ⟨a, vs, e, ha, go ds hl⟩
  | .lst ds, _, _, _, _, h => by
    obtain ⟨a, vs, e, ha, _, hl⟩ := h
    exact ⟨a, vs, e, ha, go ds hl⟩
  | .rol ns, _, _, _, _, h => by
    obtain ⟨a, e, hs⟩ := h
    exact ⟨a, e, hs⟩
  | .dic q ds, _, _, _, _, h => by
    obtain ⟨a, vs, e, ha, hq, _, hl⟩ := h
    exact ⟨a, vs, e, ha.elim .inl fun z => .inr z.2, hq, go ds hl⟩
  | .nd ks ds, _, _, _, _, h => by
    obtain ⟨a, es, e, ha, hq, hn, _, hl⟩ := h
    exact ⟨a, es, e, ha.elim .inl fun z => .inr z.2, hq, hn, go ds hl⟩
where
  go : (ds : List D) → ∀ {k r p i vs}, OwnL K H g ds k r p i vs → RepL K H ds vs
  | [], _, _, _, _, _, h => h
  | d :: ds, _, _, _, _, _, h => by
    obtain ⟨v, w, e, h1, h2⟩ := h
    exact ⟨v, w, e, own_rep d h1, go ds h2⟩
theorem rep_mono {H H' : Hp} (s : Same H H') : (d : D) → ∀ {v}, Rep K H d v → Rep K H' d v
  | .non, _, h => h
  | .bl b, _, h => h
  | .int i, _, h => h
  | .str x, _, h => h
  | .obj a, _, h => h
  | .gon, _, h => h
  | .ins c ds, _, h => by
    obtain ⟨a, dx, vs, e, ha, hc, hl⟩ := h
    exact ⟨a, dx, vs, e, s _ _ ha, hc, go ds hl⟩
  | .tup ds, _, h => by
    obtain ⟨a, vs, e, ha, hl⟩ := h
    exact ⟨a, vs, e, ha.keep (s _ _), go ds hl⟩
  | .lst ds, _, h => by
    obtain ⟨a, vs, e, ha, hl⟩ := h
    exact ⟨a, vs, e, s _ _ ha, go ds hl⟩
  | .rol ns, _, h => by
    obtain ⟨a, e, hs⟩ := h
    exact ⟨a, e, hs.imp (fun ⟨o, z⟩ => ⟨o, s _ _ z⟩) id⟩
  | .dic q ds, _, h => by
    obtain ⟨a, vs, e, ha, hq, hl⟩ := h
    exact ⟨a, vs, e, ha.imp (s _ _) fun ⟨o, z⟩ => ⟨o, s _ _ z⟩, hq, go ds hl⟩
  | .nd ks ds, _, h => by
    obtain ⟨a, es, e, ha, hq, hn, hl⟩ := h
    exact ⟨a, es, e, ha.imp (s _ _) fun ⟨o, z⟩ => ⟨o, s _ _ z⟩, hq, hn.keep fun b ys z => s _ _ z, go ds hl⟩
where
  go : (ds : List D) → ∀ {vs}, RepL K H ds vs → RepL K H' ds vs
  | [], _, h => h
  | d :: ds, _, h => by
    obtain ⟨v, w, e, h1, h2⟩ := h
    exact ⟨v, w, e, rep_mono s d h1, go ds h2⟩
def has (k n : Nat) : Bool := decide (99 ≤ k) || decide (n < k)
theorem lv_has {k n : Nat} : has (lv k) n = has k (n + 1) := by
  unfold has lv
  by_cases h : 99 ≤ k
  · simp [h]
  · have h2 : ¬ 99 ≤ k - 1 := by omega
    simp only [h, if_false, h2, decide_false, Bool.false_or]
    congr 1
    apply propext
    omega
theorem has0 {k : Nat} : has k 0 = decide (k ≠ 0) := by
  unfold has
  by_cases h : k = 0
  · subst h; rfl
  · simp only [h, ne_eq, not_false_eq_true, decide_true, Bool.or_eq_true, decide_eq_true_eq]
    omega
theorem has_le {j k : Nat} (h : j ≤ k) {n : Nat} (q : has j n = true) : has k n = true := by
  unfold has at *
  simp only [Bool.or_eq_true, decide_eq_true_eq] at *
  omega
def stb : HO → Bool
  | .tup _ => true
  | .frz _ _ => true
  | _ => false
theorem own_conv {H H' : Hp} {g g' : G} {r r' : Nat}
    (ht : ∀ a o, H a = some o → stb o = true → H' a = some o) : (d : D) → ∀ {k j p p' v},
    (99 ≤ k ∨ ∀ a, g a = .fz → g' a = .fz ∧ H' a = H a) →
    (∀ a q, g a = .ow r (q ++ p) → has k q.length = true → H' a = H a ∧ g' a = (if has j q.length = true then Gh.ow r' (q ++ p') else Gh.fz)) →
    (∀ n, has j n = true → has k n = true) → Own K H g d k r p v → Own K H' g' d j r' p' v
  | .non, _, _, _, _, _, _, _, _, h => h
  | .bl b, _, _, _, _, _, _, _, _, h => h
  | .int i, _, _, _, _, _, _, _, _, h => h
  | .str x, _, _, _, _, _, _, _, _, h => h
  | .obj a, _, _, _, _, _, _, _, _, h => h
  | .gon, _, _, _, _, _, _, _, _, h => h
  | .tup ds, k, j, p, p', v, hf, ho, hk, h => by
    obtain ⟨a, vs, e, ha, hl⟩ := h
    refine ⟨a, vs, e, ha.keep (fun z => ht _ _ z rfl), go ds (hf.imp (fun z => by unfold lv; rw [if_pos z]; exact z) id) (fun i b q hb hh => ?_) (fun n hn => by rw [lv_has] at *; exact hk _ hn) hl⟩
    have := ho b (q ++ [i]) (by simpa using hb) (by rw [lv_has] at hh; simpa using hh)
    rw [lv_has]
    simpa using this
  | .lst ds, k, j, p, p', v, hf, ho, hk, h => by
    obtain ⟨a, vs, e, ha, hg, hl⟩ := h
    have key : H' a = H a ∧ g' a = (if j = 0 then Gh.fz else Gh.ow r' p') := by
      by_cases k0 : k = 0
      · have j0 : j = 0 := by
          have := hk 0
          rw [has0, has0] at this
          by_cases z : j = 0
          · exact z
          · simp [z, k0] at this
        rw [if_pos k0] at hg
        rw [if_pos j0]
        have hf' := hf.resolve_left (by omega)
        exact ⟨(hf' a hg).2, (hf' a hg).1⟩
      · rw [if_neg k0] at hg
        obtain ⟨h1, h2⟩ := ho a [] hg (by show has k 0 = true; rw [has0]; simpa using k0)
        refine ⟨h1, h2.trans ?_⟩
        show (if has j 0 = true then _ else _) = _
        rw [has0]
        by_cases j0 : j = 0 <;> simp [j0]
    refine ⟨a, vs, e, key.1.trans ha, key.2, go ds (hf.imp (fun z => by unfold lv; rw [if_pos z]; exact z) id) (fun i b q hb hh => ?_) (fun n hn => by rw [lv_has] at *; exact hk _ hn) hl⟩
    have := ho b (q ++ [i]) (by simpa using hb) (by rw [lv_has] at hh; simpa using hh)
    rw [lv_has]
    simpa using this
  | .ins c ds, k, j, p, p', v, hf, ho, hk, h => by
    obtain ⟨a, dx, vs, e, ha, hc, hg, hl⟩ := h
    have key : H' a = H a ∧ g' a = (if j = 0 then Gh.fz else Gh.ow r' p') := by
      by_cases k0 : k = 0
      · have j0 : j = 0 := by
          have := hk 0
          rw [has0, has0] at this
          by_cases z : j = 0
          · exact z
          · simp [z, k0] at this
        rw [if_pos k0] at hg
        rw [if_pos j0]
        have hf' := hf.resolve_left (by omega)
        exact ⟨(hf' a hg).2, (hf' a hg).1⟩
      · rw [if_neg k0] at hg
        obtain ⟨h1, h2⟩ := ho a [] hg (by show has k 0 = true; rw [has0]; simpa using k0)
        refine ⟨h1, h2.trans ?_⟩
        show (if has j 0 = true then _ else _) = _
        rw [has0]
        by_cases j0 : j = 0 <;> simp [j0]
    refine ⟨a, dx, vs, e, key.1.trans ha, hc, key.2, go ds (hf.imp (fun z => by unfold lv; rw [if_pos z]; exact z) id) (fun i b q hb hh => ?_) (fun n hn => by rw [lv_has] at *; exact hk _ hn) hl⟩
    have := ho b (q ++ [i]) (by simpa using hb) (by rw [lv_has] at hh; simpa using hh)
    rw [lv_has]
    simpa using this
  | .rol ns, _, _, _, _, _, _, _, _, h => by
    obtain ⟨a, e, h⟩ := h
    exact ⟨a, e, h.imp (fun ⟨o, w⟩ => ⟨o, ht _ _ w rfl⟩) id⟩
  | .dic dk ds, k, j, p, p', v, hf, ho, hk, h => by
    obtain ⟨a, vs, e, ha, hq, hg, hl⟩ := h
    have key : H' a = H a ∧ g' a = (if j = 0 then Gh.fz else Gh.ow r' p') := by
      by_cases k0 : k = 0
      · have j0 : j = 0 := by
          have := hk 0
          rw [has0, has0] at this
          by_cases z : j = 0
          · exact z
          · simp [z, k0] at this
        rw [if_pos k0] at hg
        rw [if_pos j0]
        have hf' := hf.resolve_left (by omega)
        exact ⟨(hf' a hg).2, (hf' a hg).1⟩
      · rw [if_neg k0] at hg
        obtain ⟨h1, h2⟩ := ho a [] hg (by show has k 0 = true; rw [has0]; simpa using k0)
        refine ⟨h1, h2.trans ?_⟩
        show (if has j 0 = true then _ else _) = _
        rw [has0]
        by_cases j0 : j = 0 <;> simp [j0]
    have hz : k = 0 → j = 0 := fun k0 => by
      have := hk 0
      rw [has0, has0] at this
      by_cases z : j = 0
      · exact z
      · simp [z, k0] at this
    refine ⟨a, vs, e, ha.imp (fun z => key.1.trans z) (fun z => ⟨hz z.1, z.2.imp fun o w => key.1.trans w⟩), hq, key.2, go ds (hf.imp (fun z => by unfold lv; rw [if_pos z]; exact z) id) (fun i b q hb hh => ?_) (fun n hn => by rw [lv_has] at *; exact hk _ hn) hl⟩
    have := ho b (q ++ [i]) (by simpa using hb) (by rw [lv_has] at hh; simpa using hh)
    rw [lv_has]
    simpa using this
  | .nd dk ds, k, j, p, p', v, hf, ho, hk, h => by
    obtain ⟨a, vs, e, ha, hq, hn, hg, hl⟩ := h
    have key : H' a = H a ∧ g' a = (if j = 0 then Gh.fz else Gh.ow r' p') := by
      by_cases k0 : k = 0
      · have j0 : j = 0 := by
          have := hk 0
          rw [has0, has0] at this
          by_cases z : j = 0
          · exact z
          · simp [z, k0] at this
        rw [if_pos k0] at hg
        rw [if_pos j0]
        have hf' := hf.resolve_left (by omega)
        exact ⟨(hf' a hg).2, (hf' a hg).1⟩
      · rw [if_neg k0] at hg
        obtain ⟨h1, h2⟩ := ho a [] hg (by show has k 0 = true; rw [has0]; simpa using k0)
        refine ⟨h1, h2.trans ?_⟩
        show (if has j 0 = true then _ else _) = _
        rw [has0]
        by_cases j0 : j = 0 <;> simp [j0]
    have hz : k = 0 → j = 0 := fun k0 => by
      have := hk 0
      rw [has0, has0] at this
      by_cases z : j = 0
      · exact z
      · simp [z, k0] at this
    refine ⟨a, vs, e, ha.imp (fun z => key.1.trans z) (fun z => ⟨hz z.1, z.2.imp fun o w => key.1.trans w⟩), hq, hn.keep fun b ys z => ht _ _ z rfl, key.2, go ds (hf.imp (fun z => by unfold lv; rw [if_pos z]; exact z) id) (fun i b q hb hh => ?_) (fun n hn => by rw [lv_has] at *; exact hk _ hn) hl⟩
    have := ho b (q ++ [i]) (by simpa using hb) (by rw [lv_has] at hh; simpa using hh)
    rw [lv_has]
    simpa using this
where
  go : (ds : List D) → ∀ {k j p p' i vs},
    (99 ≤ k ∨ ∀ a, g a = .fz → g' a = .fz ∧ H' a = H a) →
    (∀ i a q, g a = .ow r (q ++ i :: p) → has k q.length = true → H' a = H a ∧ g' a = (if has j q.length = true then Gh.ow r' (q ++ i :: p') else Gh.fz)) →
    (∀ n, has j n = true → has k n = true) → OwnL K H g ds k r p i vs → OwnL K H' g' ds j r' p' i vs
  | [], _, _, _, _, _, _, _, _, _, h => h
  | d :: ds, _, _, _, _, i, _, hf, ho, hk, h => by
    obtain ⟨v, w, e, h1, h2⟩ := h
    exact ⟨v, w, e, own_conv ht d hf (fun a q => ho i a q) hk h1, go ds hf ho hk h2⟩
end VS
namespace VS
open PySem PySem.Spec PyProof.Rows L2
abbrev DE := List (Option D)
abbrev OE := List (Option Nat)
abbrev M := DE → Option (D × DE)
structure Sok (K : PySem.W.Frag) (κ : OE) (ρ : DE) (g : G) (σ : L2.St) (H : Hp) : Prop where
  ok : ∀ i k d, κ[i]? = some (some k) → ρ[i]? = some (some d) → ∃ v, σ[i]? = some (some v) ∧ Own K H g d k i [] v
  gok : ∀ a, g a ≠ .un → H a ≠ none
  len : ρ.length = σ.length
  lek : κ.length = σ.length
def SzOk (H : Hp) : Prop := ∀ a xs, (H a = some (.lst xs) ∨ H a = some (.tup xs)) → xs.length ≤ sizeLine
def En (n : Nat) (σ : L2.St) (H : Hp) : Prop := SzOk H ∧ σ.length = n
structure Pres (n t : Nat) (g : G) (H : Hp) (g' : G) (H' : Hp) : Prop where
  fz : ∀ a, g a = .fz → g' a = .fz ∧ H' a = H a
  un : ∀ a, g a = .un → H a ≠ none → g' a = .un ∧ H' a = H a
  tp : ∀ a r p, n ≤ r → r < t → g a = .ow r p → g' a = .ow r p ∧ H' a = H a
  tm : ∀ a r p, n ≤ r → r < t → g' a = .ow r p → g a = .ow r p
  tu : ∀ a o, H a = some o → stb o = true → H' a = some o
theorem Pres.refl {n t : Nat} {g : G} {H : Hp} : Pres n t g H g H :=
  ⟨fun _ h => ⟨h, rfl⟩, fun _ h _ => ⟨h, rfl⟩, fun _ _ _ _ _ h => ⟨h, rfl⟩, fun _ _ _ _ _ h => h, fun _ _ h _ => h⟩
theorem Pres.trans {n t : Nat} {g g1 g2 : G} {H H1 H2 : Hp} (a : Pres n t g H g1 H1) (b : Pres n t g1 H1 g2 H2) : Pres n t g H g2 H2 where
  fz := fun x h => ⟨(b.fz x (a.fz x h).1).1, (b.fz x (a.fz x h).1).2.trans (a.fz x h).2⟩
  un := fun x h hn => by
    obtain ⟨h1, h2⟩ := a.un x h hn
    obtain ⟨h3, h4⟩ := b.un x h1 (by rw [h2]; exact hn)
    exact ⟨h3, h4.trans h2⟩
  tp := fun x r p h1 h2 h => by
    obtain ⟨h3, h4⟩ := a.tp x r p h1 h2 h
    obtain ⟨h5, h6⟩ := b.tp x r p h1 h2 h3
    exact ⟨h5, h6.trans h4⟩
  tm := fun x r p h1 h2 h => a.tm x r p h1 h2 (b.tm x r p h1 h2 h)
  tu := fun x xs h hs => b.tu x xs (a.tu x xs h hs) hs
theorem Pres.less {n t t' : Nat} {g g' : G} {H H' : Hp} (a : Pres n t' g H g' H') (h : t ≤ t') : Pres n t g H g' H' :=
  ⟨a.fz, a.un, fun x r p h1 h2 => a.tp x r p h1 (by omega), fun x r p h1 h2 => a.tm x r p h1 (by omega), a.tu⟩
variable {K : PySem.W.Frag}
theorem Pres.own {n t : Nat} {g g' : G} {H H' : Hp} (a : Pres n t g H g' H') {d : D} {k r : Nat} {p : List Nat} {v : V} (h1 : n ≤ r) (h2 : r < t) (h : Own K H g d k r p v) : Own K H' g' d k r p v :=
  own_conv a.tu d (.inr a.fz) (fun x q e hh => ⟨(a.tp x r _ h1 h2 e).2, by rw [if_pos hh]; exact (a.tp x r _ h1 h2 e).1⟩) (fun _ z => z) h
theorem Pres.own0 {n t : Nat} {g g' : G} {H H' : Hp} (a : Pres n t g H g' H') {d : D} {r r' : Nat} {p p' : List Nat} {v : V} (h : Own K H g d 0 r p v) : Own K H' g' d 0 r' p' v :=
  own_conv a.tu d (.inr a.fz) (fun x q e hh => by simp [has] at hh) (fun _ z => z) h
theorem Sok.grow {κ : OE} {ρ : DE} {g : G} {σ : L2.St} {H H' : Hp} (S : Sok K κ ρ g σ H) (s : Same H H') : Sok K κ ρ g σ H' where
  ok := fun i k d h1 h2 => by
    obtain ⟨v, e, o⟩ := S.ok i k d h1 h2
    have key : ∀ a, g a ≠ .un → H' a = H a := fun a ha => by
      cases q : H a with
      | none => exact absurd q (S.gok a ha)
      | some u => exact s a u q
    exact ⟨v, e, own_conv (fun a xs e _ => s _ _ e) d (.inr fun a e => ⟨e, key a (by rw [e]; simp)⟩) (fun x q e hh => ⟨key x (by rw [e]; simp), by rw [if_pos hh]; exact e⟩) (fun _ z => z) o⟩
  gok := fun a h => by
    cases q : H a with
    | none => exact absurd q (S.gok a h)
    | some u => rw [s a u q]; simp
  len := S.len
  lek := S.lek
theorem Pres.grow {n t : Nat} {g : G} {H H' : Hp} (hg : ∀ a, g a ≠ .un → H a ≠ none) (s : Same H H') : Pres n t g H g H' := by
  have key : ∀ a, H a ≠ none → H' a = H a := fun a ha => by
    cases q : H a with
    | none => exact absurd q ha
    | some u => exact s a u q
  exact ⟨fun a h => ⟨h, key a (hg a (by rw [h]; simp))⟩, fun a h hn => ⟨h, key a hn⟩, fun a r p _ _ h => ⟨h, key a (hg a (by rw [h]; simp))⟩, fun a r p _ _ h => h, fun a xs h _ => s _ _ h⟩
theorem same_new {H : Hp} {p : Addr} {o : HO} (h : H p = none) : Same H (upd H p o) := fun b x e => by
  rw [upd_ne (ne_of_none e h)]
  exact e
inductive Rz where
  | rep | own (k : Nat)
def RzOk (K : PySem.W.Frag) (H : Hp) (g : G) (t : Nat) : Rz → D → V → Prop
  | .rep, d, v => Rep K H d v
  | .own k, d, v => Own K H g d k t [] v
theorem RzOk.rep {H : Hp} {g : G} {t : Nat} {rz : Rz} {d : D} {v : V} (h : RzOk K H g t rz d v) : Rep K H d v := by
  cases rz with
  | rep => exact h
  | own k => exact own_rep d h
def jPost (K : PySem.W.Frag) (n t : Nat) (κ' : OE) (rz : Rz) (pu : Bool) (g : G) (σ : L2.St) (H : Hp) (d : D) (ρ' : DE) (Q : VK) : Prop :=
  ∀ v H' g', Sok K κ' ρ' g' σ H' → Pres n t g H g' H' → (pu = true → Same H H') → RzOk K H' g' t rz d v → Q v H'
def jTE (K : PySem.W.Frag) (n : Nat) (κ : OE) (m : M) (rz : Rz) (κ' : OE) (pu : Bool) (t : Nat) : TE := fun σ H Q => En n σ H →
  ∃ g ρ, Sok K κ ρ g σ H ∧ ∃ d ρ', m ρ = some (d, ρ') ∧ jPost K n t κ' rz pu g σ H d ρ' Q
structure J (X : Cx) (κ : OE) (e : Expr) (m : M) (rz : Rz) (κ' : OE) (pu : Bool) : Prop where
  run : ∀ t, X.N.length ≤ t → PE X e (jTE X.K X.N.length κ m rz κ' pu t)
  pur : pu = true → ∀ ρ d ρ', m ρ = some (d, ρ') → ρ' = ρ
variable {X : Cx}
theorem Inv.sz {pins : List (Addr × Obj)} {σ : L2.St} {H : Hp} {s : Shared} (I : Inv X pins σ H s) : SzOk H := fun a xs h => by
  rcases h with h | h
  · exact (I.hok a _ h).1
  · exact (I.hok a _ h).1
theorem PE.imp {e : Expr} {t t' : TE} (h : PE X e t) (f : ∀ σ H Q, En X.N.length σ H → t' σ H Q → t σ H Q) : PE X e t' :=
  ⟨fun pins s σ H Q I q => h.run pins s σ H Q I (f σ H Q ⟨Inv.sz I, I.len⟩ q)⟩
def okk : Rz → Bool → Bool
  | .own _, _ => true
  | .rep, p => p
def andThen (ma : M) (f : D → DE → Option (D × DE)) : M := fun ρ => (ma ρ).bind fun x => f x.1 x.2
theorem two {n t : Nat} {κ κ1 κ2 : OE} {ma mb : M} {ra rb : Rz} {pa pb : Bool} (hn : n ≤ t) (ok : okk ra pb = true) {σ : L2.St} {H : Hp} {Q : V → V → Hp → Prop} {g : G} {ρ ρ1 ρ2 : DE} {x y : D}
    (S : Sok K κ ρ g σ H) (ea : ma ρ = some (x, ρ1)) (eb : mb ρ1 = some (y, ρ2)) (z : En n σ H)
    (h : ∀ v u H' g', Sok K κ2 ρ2 g' σ H' → Pres n t g H g' H' → ((pa && pb) = true → Same H H') → RzOk K H' g' t ra x v → RzOk K H' g' (t + 1) rb y u → Q v u H') :
    jTE K n κ ma ra κ1 pa t σ H fun v H1 => jTE K n κ1 mb rb κ2 pb (t + 1) σ H1 fun u H2 => Q v u H2 := by
  refine fun _ => ⟨g, ρ, S, x, ρ1, ea, fun v H1 g1 S1 P1 s1 r1 _ => ⟨g1, ρ1, S1, y, ρ2, eb, fun u H2 g2 S2 P2 s2 r2 => ?_⟩⟩
  refine h v u H2 g2 S2 (P1.trans (P2.less (Nat.le_succ t))) (fun e => ?_) ?_ r2
  · rw [Bool.and_eq_true] at e
    exact (s1 e.1).trans (s2 e.2)
  · cases ra with
    | rep => exact rep_mono (s2 ok) x r1
    | own k => exact P2.own hn (Nat.lt_succ_self t) r1
def isA : D → Bool
  | .non => true
  | .bl _ => true
  | .int _ => true
  | .str _ => true
  | _ => false
def av : D → V
  | .non => .non
  | .bl b => .bl b
  | .int i => .int i
  | .str x => .str x
  | _ => .non
theorem rep_atom {H : Hp} {d : D} (h : isA d = true) {v : V} (r : Rep K H d v) : v = av d := by
  cases d <;> first | exact r | cases h
theorem atom_own {H : Hp} {g : G} {d : D} (h : isA d = true) {k r : Nat} {p : List Nat} : Own K H g d k r p (av d) := by
  cases d <;> first | rfl | cases h
theorem atom_rz {H : Hp} {g : G} {d : D} (h : isA d = true) {t : Nat} {rz : Rz} : RzOk K H g t rz d (av d) := by
  cases rz with
  | rep => exact own_rep d (atom_own (g := g) h (k := 0) (r := 0) (p := []))
  | own k => exact atom_own h
structure AtOp (X : Cx) (r : R2) (f : D → D → Option D) : Prop where
  ans : ∀ (H : Hp) (x y z : D) (v u : V) (Q : VK), f x y = some z → Rep X.K H x v → Rep X.K H y u → Q (av z) H → r v u H Q
  atom : ∀ x y z, f x y = some z → isA z = true
def m2 (f : D → D → Option D) (ma mb : M) : M := fun ρ => (ma ρ).bind fun x => (mb x.2).bind fun y => (f x.1 y.1).map fun z => (z, y.2)
theorem m2_some {f : D → D → Option D} {ma mb : M} {ρ ρ' : DE} {d : D} (h : m2 f ma mb ρ = some (d, ρ')) : ∃ x ρ1 y, ma ρ = some (x, ρ1) ∧ mb ρ1 = some (y, ρ') ∧ f x y = some d := by
  unfold m2 at h
  cases ea : ma ρ with
  | none => rw [ea] at h; cases h
  | some p =>
    rw [ea] at h
    cases eb : mb p.2 with
    | none => simp [eb] at h
    | some q =>
      simp only [Option.bind_some, eb] at h
      cases ec : f p.1 q.1 with
      | none => rw [ec] at h; cases h
      | some z =>
        rw [ec] at h
        cases h
        exact ⟨p.1, p.2, q.1, rfl, eb, ec⟩
theorem J.two_read {κ κ1 κ2 : OE} {a b e : Expr} {ma mb : M} {ra rb : Rz} {pa pb : Bool} {r : R2} {f : D → D → Option D} (ha : J X κ a ma ra κ1 pa) (hb : J X κ1 b mb rb κ2 pb) (ok : okk ra pb = true) (op : AtOp X r f)
    (mk : ∀ {ta tb : TE}, PE X a ta → PE X b tb → PE X e (tOp r ta tb)) {rz : Rz} : J X κ e (m2 f ma mb) rz κ2 (pa && pb) := by
  refine ⟨fun t ht => PE.imp (mk (ha.run t ht) (hb.run (t + 1) (by omega))) fun σ H Q z q => ?_, fun hp ρ d ρ' h => ?_⟩
  · obtain ⟨g, ρ, S, d, ρ', em, post⟩ := q z
    obtain ⟨x, ρ1, y, ea, eb, ec⟩ := m2_some em
    refine two (K := X.K) (κ2 := κ2) ht ok S ea eb z fun v u H' g' S' P' s' r1 r2 => ?_
    exact op.ans H' x y d v u Q ec r1.rep r2.rep (post _ H' g' S' P' s' (atom_rz (op.atom _ _ _ ec)))
  · rw [Bool.and_eq_true] at hp
    obtain ⟨x, ρ1, y, ea, eb, ec⟩ := m2_some h
    rw [hb.pur hp.2 _ _ _ eb, ha.pur hp.1 _ _ _ ea]
end VS
namespace VS
open PySem PySem.Spec PyProof.Rows L2
variable {K : PySem.W.Frag} {X : Cx} {κ κ1 κ2 : OE} {pos : Pos}
def wk (κ' : OE) (g : G) : G := fun a => match g a with
  | .ow r q => (match κ'[r]? with
    | some (some k) => if has k q.length = true then .ow r q else .fz
    | _ => .ow r q)
  | z => z
def leO (κ' κ : OE) : Bool := decide (κ'.length = κ.length) && (List.range κ'.length).all fun i => match κ'[i]? with
  | some (some k') => (match κ[i]? with
    | some (some k) => decide (k' ≤ k)
    | _ => false)
  | _ => true
theorem leO_get {κ' κ : OE} (h : leO κ' κ = true) {i k' : Nat} (e : κ'[i]? = some (some k')) : ∃ k, κ[i]? = some (some k) ∧ k' ≤ k := by
  unfold leO at h
  rw [Bool.and_eq_true, List.all_eq_true] at h
  have hi : i < κ'.length := by
    obtain ⟨h1, _⟩ := List.getElem?_eq_some_iff.mp e
    exact h1
  have q := h.2 i (List.mem_range.mpr hi)
  rw [e] at q
  cases q2 : κ[i]? with
  | none => rw [q2] at q; cases q
  | some o => cases o with
    | none => rw [q2] at q; cases q
    | some k => rw [q2] at q; exact ⟨k, rfl, of_decide_eq_true q⟩
theorem leO_len {κ' κ : OE} (h : leO κ' κ = true) : κ'.length = κ.length := by
  unfold leO at h
  rw [Bool.and_eq_true] at h
  exact of_decide_eq_true h.1
theorem wk_fz {κ' : OE} {g : G} {a : Addr} (h : g a = .fz) : wk κ' g a = .fz := by unfold wk; rw [h]
theorem wk_un {κ' : OE} {g : G} {a : Addr} (h : g a = .un) : wk κ' g a = .un := by unfold wk; rw [h]
theorem wk_hi {κ' : OE} {g : G} {a : Addr} {r : Nat} {p : List Nat} (hr : κ'.length ≤ r) (h : g a = .ow r p) : wk κ' g a = .ow r p := by
  unfold wk
  rw [h]
  have : κ'[r]? = none := List.getElem?_eq_none_iff.mpr hr
  simp [this]
theorem wk_lo {κ' : OE} {g : G} {a : Addr} {r k : Nat} {p : List Nat} (hr : κ'[r]? = some (some k)) (h : g a = .ow r p) : wk κ' g a = if has k p.length = true then Gh.ow r p else Gh.fz := by
  unfold wk
  rw [h]
  simp [hr]
theorem wk_ne {κ' : OE} {g : G} {a : Addr} (h : wk κ' g a ≠ .un) : g a ≠ .un := fun z => h (wk_un z)
theorem wk_ow {κ' : OE} {g : G} {a : Addr} {r : Nat} {p : List Nat} (h : wk κ' g a = .ow r p) : g a = .ow r p := by
  unfold wk at h
  split at h
  · rename_i r' q' e
    split at h
    · split at h
      · cases h; exact e
      · cases h
    · cases h; exact e
  · exact h
theorem Sok.weaken {κ' : OE} {ρ : DE} {g : G} {σ : L2.St} {H : Hp} (S : Sok K κ ρ g σ H) (h : leO κ' κ = true) : Sok K κ' ρ (wk κ' g) σ H where
  ok := fun i k' d h1 h2 => by
    obtain ⟨k, e, l⟩ := leO_get h h1
    obtain ⟨v, es, o⟩ := S.ok i k d e h2
    exact ⟨v, es, own_conv (fun _ _ z _ => z) d (.inr fun a z => ⟨wk_fz z, rfl⟩) (fun a q z hh => ⟨rfl, by simpa using wk_lo h1 z⟩) (fun n z => has_le l z) o⟩
  gok := fun a z => S.gok a (wk_ne z)
  len := S.len
  lek := (leO_len h).trans S.lek
theorem Pres.weaken {n t : Nat} {g : G} {H : Hp} (hn : κ1.length = n) : Pres n t g H (wk κ1 g) H where
  fz := fun a h => ⟨wk_fz h, rfl⟩
  un := fun a h _ => ⟨wk_un h, rfl⟩
  tp := fun a r p h1 _ h => ⟨wk_hi (by omega) h, rfl⟩
  tm := fun a r p _ _ h => wk_ow h
  tu := fun _ _ h _ => h
theorem J.weak {e : Expr} {m : M} {rz : Rz} {pu : Bool} (h : J X κ e m rz κ1 pu) (hl : leO κ2 κ1 = true) (hn : κ2.length = X.N.length) : J X κ e m rz κ2 pu := by
  refine ⟨fun t ht => PE.imp (h.run t ht) fun σ H Q z q _ => ?_, h.pur⟩
  obtain ⟨g, ρ, S, d, ρ', em, post⟩ := q z
  refine ⟨g, ρ, S, d, ρ', em, fun v H' g' S' P' s' r' => post v H' (wk κ2 g') (S'.weaken hl) (P'.trans (Pres.weaken hn)) s' ?_⟩
  cases rz with
  | rep => exact r'
  | own k => exact (Pres.weaken (t := t + 1) hn).own (H' := H') ht (Nat.lt_succ_self t) r'
def mC (d : D) : M := fun ρ => some (d, ρ)
theorem j_const {e : Expr} {d : D} (hd : isA d = true) (h : PE X e (tC (av d))) {rz : Rz} : J X κ e (mC d) rz κ true := by
  refine ⟨fun t ht => PE.imp h fun σ H Q z q => ?_, fun _ ρ d' ρ' e => by cases e; rfl⟩
  obtain ⟨g, ρ, S, d', ρ', em, post⟩ := q z
  cases em
  exact post _ H g S Pres.refl (fun _ => Same.refl H) (atom_rz hd)
def mV (i : Nat) : M := fun ρ => match ρ[i]? with
  | some (some d) => some (d, ρ)
  | _ => none
theorem mV_some {i : Nat} {ρ ρ' : DE} {d : D} (h : mV i ρ = some (d, ρ')) : ρ[i]? = some (some d) ∧ ρ' = ρ := by
  unfold mV at h
  split at h
  · cases h; exact ⟨by assumption, rfl⟩
  · cases h
theorem j_var {i k : Nat} {e : Expr} (h : PE X e (tVar i)) (hk : κ[i]? = some (some k)) : J X κ e (mV i) .rep κ true := by
  refine ⟨fun t ht => PE.imp h fun σ H Q z q => ?_, fun _ ρ d' ρ' e => (mV_some e).2⟩
  obtain ⟨g, ρ, S, d', ρ', em, post⟩ := q z
  obtain ⟨e1, rfl⟩ := mV_some em
  obtain ⟨v, es, o⟩ := S.ok i k d' hk e1
  exact ⟨v, es, post v H g S Pres.refl (fun _ => Same.refl H) (own_rep d' o)⟩
theorem leO_set0 {κ : OE} {i k : Nat} (hk : κ[i]? = some (some k)) {k' : Nat} (hl : k' ≤ k) : leO (κ.set i (some k')) κ = true := by
  unfold leO
  rw [Bool.and_eq_true, List.all_eq_true]
  refine ⟨by simp, fun j hj => ?_⟩
  rw [List.getElem?_set]
  by_cases h : i = j
  · subst h
    have hi := (List.getElem?_eq_some_iff.mp hk).1
    have hk2 := hk
    rw [List.getElem?_eq_getElem hi] at hk2
    simp only [Option.some.injEq] at hk2
    simp [hi, hk2, hl]
  · simp only [h, if_false]
    cases q : κ[j]? with
    | none => rfl
    | some o => cases o with
      | none => rfl
      | some n => simp
theorem j_frz {i k : Nat} {e : Expr} (h : PE X e (tVar i)) (hk : κ[i]? = some (some k)) (hn : κ.length = X.N.length) : J X κ e (mV i) (.own 0) (κ.set i (some 0)) true := by
  refine ⟨fun t ht => PE.imp h fun σ H Q z q => ?_, fun _ ρ d' ρ' e => (mV_some e).2⟩
  obtain ⟨g, ρ, S, d', ρ', em, post⟩ := q z
  obtain ⟨e1, rfl⟩ := mV_some em
  have hl := leO_set0 hk (Nat.zero_le k)
  have S' := S.weaken hl
  obtain ⟨v, es, o⟩ := S'.ok i 0 d' (by rw [List.getElem?_set_self (List.getElem?_eq_some_iff.mp hk).1]) e1
  exact ⟨v, es, post v H _ S' (Pres.weaken (by simpa using hn)) (fun _ => Same.refl H) ((Pres.refl (n := 0) (t := 0)).own0 o)⟩
def OwnRows (K : PySem.W.Frag) (H : Hp) (g : G) (k : Nat) : Nat → List D → List V → Prop
  | _, [], vs => vs = []
  | t, d :: ds, vs => ∃ v r, vs = v :: r ∧ Own K H g d k t [] v ∧ OwnRows K H g k (t + 1) ds r
abbrev ML := DE → Option (List D × DE)
inductive Am where
  | rz (z : Rz) | io (i : Nat)
def RowsOk (K : PySem.W.Frag) (H : Hp) (g : G) (σ : L2.St) (ρ : DE) : Nat → List Am → List D → List V → Prop
  | _, [], ds, vs => ds = [] ∧ vs = []
  | t, .rz z :: ms, ds, vs => ∃ d ds' v vs', ds = d :: ds' ∧ vs = v :: vs' ∧ RzOk K H g t z d v ∧ RowsOk K H g σ ρ (t + 1) ms ds' vs'
  | t, .io i :: ms, ds, vs => ∃ d ds' v vs', ds = d :: ds' ∧ vs = v :: vs' ∧ (σ[i]? = some (some v) ∧ ρ[i]? = some (some d)) ∧ RowsOk K H g σ ρ (t + 1) ms ds' vs'
def jPostL (K : PySem.W.Frag) (n t : Nat) (κ' : OE) (ms : List Am) (pu : Bool) (g : G) (σ : L2.St) (H : Hp) (ds : List D) (ρ' : DE) (Q : List V → Hp → Prop) : Prop :=
  ∀ vs H' g', Sok K κ' ρ' g' σ H' → Pres n t g H g' H' → (pu = true → Same H H') → RowsOk K H' g' σ ρ' t ms ds vs → Q vs H'
def jTA (K : PySem.W.Frag) (n : Nat) (κ : OE) (m : ML) (ms : List Am) (κ' : OE) (pu : Bool) (t : Nat) : TA := fun σ H Q => En n σ H →
  ∃ g ρ, Sok K κ ρ g σ H ∧ ∃ ds ρ', m ρ = some (ds, ρ') ∧ jPostL K n t κ' ms pu g σ H ds ρ' Q
structure JA (X : Cx) (κ : OE) (es : List Expr) (m : ML) (ms : List Am) (κ' : OE) (pu : Bool) : Prop where
  run : ∀ t, X.N.length ≤ t → PA X es (jTA X.K X.N.length κ m ms κ' pu t)
  pur : pu = true → ∀ ρ d ρ', m ρ = some (d, ρ') → ρ' = ρ
theorem PA.imp {es : List Expr} {t t' : TA} (h : PA X es t) (f : ∀ σ H Q, En X.N.length σ H → t' σ H Q → t σ H Q) : PA X es t' :=
  ⟨fun pos pins s σ H Q I q => h.run pos pins s σ H Q I (f σ H Q ⟨Inv.sz I, I.len⟩ q)⟩
def mNil : ML := fun ρ => some ([], ρ)
def mCons (ma : M) (ml : ML) : ML := fun ρ => (ma ρ).bind fun x => (ml x.2).map fun y => (x.1 :: y.1, y.2)
theorem mCons_some {ma : M} {ml : ML} {ρ ρ' : DE} {ds : List D} (h : mCons ma ml ρ = some (ds, ρ')) : ∃ x ρ1 r, ma ρ = some (x, ρ1) ∧ ml ρ1 = some (r, ρ') ∧ ds = x :: r := by
  unfold mCons at h
  cases ea : ma ρ with
  | none => rw [ea] at h; cases h
  | some p =>
    rw [ea] at h
    cases eb : ml p.2 with
    | none => simp [eb] at h
    | some q =>
      simp only [Option.bind_some, eb, Option.map_some] at h
      cases h
      exact ⟨p.1, p.2, q.1, rfl, eb, rfl⟩
theorem ja_nil : JA X κ [] mNil [] κ true := by
  refine ⟨fun t ht => PA.imp pa_nil fun σ H Q z q => ?_, fun _ ρ d' ρ' e => by cases e; rfl⟩
  obtain ⟨g, ρ, S, ds, ρ', em, post⟩ := q z
  cases em
  exact post [] H g S Pres.refl (fun _ => Same.refl H) ⟨rfl, rfl⟩
theorem ja_cons {e : Expr} {es : List Expr} {ma : M} {ml : ML} {z : Rz} {ms : List Am} {pa pb : Bool} (ha : J X κ e ma z κ1 pa) (hb : JA X κ1 es ml ms κ2 pb) (ok : okk z pb = true)
    (hs : starEach (e :: es) X.env = (false, eval e X.env) :: starEach es X.env) : JA X κ (e :: es) (mCons ma ml) (.rz z :: ms) κ2 (pa && pb) := by
  refine ⟨fun t ht => PA.imp (pa_cons (ha.run t ht) (hb.run (t + 1) (by omega)) hs) fun σ H Q en q => ?_, fun hp ρ d ρ' h => ?_⟩
  · obtain ⟨g, ρ, S, ds, ρ', em, post⟩ := q en
    obtain ⟨x, ρ1, r, ea, eb, rfl⟩ := mCons_some em
    refine fun _ => ⟨g, ρ, S, x, ρ1, ea, fun v H1 g1 S1 P1 s1 r1 => fun _ => ⟨g1, ρ1, S1, r, ρ', eb, fun vs H2 g2 S2 P2 s2 r2 => ?_⟩⟩
    refine post (v :: vs) H2 g2 S2 (P1.trans (P2.less (Nat.le_succ t))) (fun e => ?_) ⟨x, r, v, vs, rfl, rfl, ?_, r2⟩
    · rw [Bool.and_eq_true] at e
      exact (s1 e.1).trans (s2 e.2)
    · cases z with
      | rep => exact rep_mono (s2 ok) x r1
      | own k => exact P2.own ht (Nat.lt_succ_self t) r1
  · rw [Bool.and_eq_true] at hp
    obtain ⟨x, ρ1, r, ea, eb, rfl⟩ := mCons_some h
    rw [hb.pur hp.2 _ _ _ eb, ha.pur hp.1 _ _ _ ea]
theorem ja_io {e : Expr} {es : List Expr} {i k : Nat} {ml : ML} {ms : List Am} (ha : PE X e (tVar i)) (hk : κ[i]? = some (some k)) (hb : JA X κ es ml ms κ2 true)
    (hs : starEach (e :: es) X.env = (false, eval e X.env) :: starEach es X.env) : JA X κ (e :: es) (mCons (mV i) ml) (.io i :: ms) κ2 true := by
  refine ⟨fun t ht => PA.imp (pa_cons ha (hb.run (t + 1) (by omega)) hs) fun σ H Q en q => ?_, fun hp ρ d ρ' h => ?_⟩
  · obtain ⟨g, ρ, S, ds, ρ', em, post⟩ := q en
    obtain ⟨x, ρ1, r, ea, eb, rfl⟩ := mCons_some em
    obtain ⟨e1, rfl⟩ := mV_some ea
    obtain ⟨v, es, o⟩ := S.ok i k x hk e1
    refine ⟨v, es, fun _ => ⟨g, ρ1, S, r, ρ', eb, fun vs H2 g2 S2 P2 s2 r2 => ?_⟩⟩
    have e2 := hb.pur rfl _ _ _ eb
    exact post (v :: vs) H2 g2 S2 (P2.less (Nat.le_succ t)) s2 ⟨x, r, v, vs, rfl, rfl, ⟨es, by rw [e2]; exact e1⟩, r2⟩
  · obtain ⟨x, ρ1, r, ea, eb, rfl⟩ := mCons_some h
    rw [hb.pur rfl _ _ _ eb, (mV_some ea).2]
def allOwn (k : Nat) : List Am → Bool
  | [] => true
  | .rz (.own j) :: ms => decide (j = k) && allOwn k ms
  | _ => false
theorem rows_own {H : Hp} {g : G} {σ : L2.St} {ρ : DE} {k : Nat} : ∀ {ms : List Am} {t : Nat} {ds : List D} {vs : List V}, allOwn k ms = true → RowsOk K H g σ ρ t ms ds vs → OwnRows K H g k t ds vs
  | [], _, _, _, _, h => by
    obtain ⟨rfl, rfl⟩ := h
    rfl
  | .rz .rep :: ms, _, _, _, h, _ => by cases h
  | .io i :: ms, _, _, _, h, _ => by cases h
  | .rz (.own j) :: ms, _, _, _, h, q => by
    obtain ⟨d, ds', v, vs', rfl, rfl, h1, h2⟩ := q
    have h' : (decide (j = k) && allOwn k ms) = true := h
    rw [Bool.and_eq_true, decide_eq_true_eq] at h'
    obtain ⟨rfl, h3⟩ := h'
    exact ⟨v, vs', rfl, h1, rows_own h3 h2⟩
def gat (n t c : Nat) (g : G) (p : Addr) (own : Bool) : G := fun a => if a = p then (if own then .ow t [] else .fz) else match g a with
  | .ow r q => if t ≤ r then (if r < t + c then .ow t (q ++ [r - t]) else .un) else .ow r q
  | z => z
theorem rows_len {H : Hp} {g : G} {k : Nat} : ∀ {t : Nat} {ds : List D} {vs : List V}, OwnRows K H g k t ds vs → vs.length = ds.length
  | _, [], _, h => by cases h; rfl
  | _, _ :: _, _, h => by
    obtain ⟨v, r, rfl, _, h⟩ := h
    simp [rows_len h]
theorem gat_ne {n t c : Nat} {g : G} {p a : Addr} {b : Bool} (h : a ≠ p) : gat n t c g p b a = match g a with
    | .ow r q => if t ≤ r then (if r < t + c then .ow t (q ++ [r - t]) else .un) else .ow r q
    | z => z := by
  unfold gat
  rw [if_neg h]
theorem rows_gather {H : Hp} {g : G} {n t c k : Nat} {p : Addr} {o : HO} {b : Bool} (hp : H p = none) (gok : ∀ a, g a ≠ .un → H a ≠ none) : ∀ {i : Nat} {ds : List D} {vs : List V}, i + ds.length ≤ c → OwnRows K H g k (t + i) ds vs →
    OwnL K (upd H p o) (gat n t c g p b) ds k t [] i vs
  | _, [], _, _, h => h
  | i, d :: ds, _, hc, h => by
    obtain ⟨v, r, rfl, h1, h2⟩ := h
    simp only [List.length_cons] at hc
    have ne : ∀ a, g a ≠ .un → a ≠ p := fun a h z => gok a h (z ▸ hp)
    refine ⟨v, r, rfl, own_conv (fun a xs e _ => ?_) d (.inr fun a e => ?_) (fun a q e hh => ?_) (fun _ z => z) h1, rows_gather hp gok (i := i + 1) (by omega) (by rw [← Nat.add_assoc]; exact h2)⟩
    · rw [upd_ne (ne_of_none e hp)]; exact e
    · have := ne a (by rw [e]; simp)
      exact ⟨by rw [gat_ne this, e], upd_ne this⟩
    · have := ne a (by rw [e]; simp)
      refine ⟨upd_ne this, ?_⟩
      rw [gat_ne this, e, if_pos hh]
      simp only [List.append_nil]
      rw [if_pos (by omega), if_pos (by omega)]
      simp
theorem Sok.gather {ρ : DE} {g : G} {σ : L2.St} {H : Hp} {n t c : Nat} {p : Addr} {o : HO} {b : Bool} (S : Sok K κ ρ g σ H) (hp : H p = none) (hn : σ.length ≤ t) : Sok K κ ρ (gat n t c g p b) σ (upd H p o) where
  ok := fun i k d h1 h2 => by
    obtain ⟨v, e, ow⟩ := S.ok i k d h1 h2
    have ne : ∀ a, g a ≠ .un → a ≠ p := fun a h z => S.gok a h (z ▸ hp)
    have hi : i < t := by
      have := (List.getElem?_eq_some_iff.mp e).1
      omega
    refine ⟨v, e, own_conv (fun a xs e _ => ?_) d (.inr fun a e => ?_) (fun a q e hh => ?_) (fun _ z => z) ow⟩
    · rw [upd_ne (ne_of_none e hp)]; exact e
    · have := ne a (by rw [e]; simp)
      exact ⟨by rw [gat_ne this, e], upd_ne this⟩
    · have := ne a (by rw [e]; simp)
      refine ⟨upd_ne this, ?_⟩
      rw [gat_ne this, e, if_pos hh]
      simp only []
      rw [if_neg (by omega)]
  gok := fun a h => by
    by_cases e : a = p
    · subst e; rw [upd_same]; simp
    · rw [upd_ne e]
      rw [gat_ne e] at h
      exact S.gok a fun z => by rw [z] at h; exact h rfl
  len := S.len
  lek := S.lek
theorem Pres.gather {g : G} {H : Hp} {n t c : Nat} {p : Addr} {o : HO} {b : Bool} (gok : ∀ a, g a ≠ .un → H a ≠ none) (hp : H p = none) : Pres n t g H (gat n t c g p b) (upd H p o) where
  fz := fun a e => by
    have : a ≠ p := fun z => gok a (by rw [e]; simp) (z ▸ hp)
    exact ⟨by rw [gat_ne this, e], upd_ne this⟩
  un := fun a e hh => by
    have : a ≠ p := fun z => hh (z ▸ hp)
    exact ⟨by rw [gat_ne this, e], upd_ne this⟩
  tp := fun a r q h1 h2 e => by
    have : a ≠ p := fun z => gok a (by rw [e]; simp) (z ▸ hp)
    exact ⟨by rw [gat_ne this, e]; simp only []; rw [if_neg (by omega)], upd_ne this⟩
  tm := fun a r q h1 h2 e => by
    by_cases z : a = p
    · subst z
      unfold gat at e
      rw [if_pos rfl] at e
      split at e
      · cases e; omega
      · cases e
    · rw [gat_ne z] at e
      split at e
      · rename_i r' q' e'
        split at e
        · split at e
          · cases e; omega
          · cases e
        · cases e; first | done | exact e'
      · exact e
  tu := fun a xs e _ => by rw [upd_ne (ne_of_none e hp)]; exact e
def mLst (ml : ML) : M := fun ρ => (ml ρ).bind fun x => if x.1.length ≤ 16777216 then some (.lst x.1, x.2) else none
def mTup (ml : ML) : M := fun ρ => (ml ρ).bind fun x => if x.1.length ≤ 16777216 then some (.tup x.1, x.2) else none
theorem mSeq_some {f : List D → D} {ml : ML} {ρ ρ' : DE} {d : D} (h : ((ml ρ).bind fun x => if x.1.length ≤ 16777216 then some (f x.1, x.2) else none) = some (d, ρ')) : ∃ ds, ml ρ = some (ds, ρ') ∧ ds.length ≤ sizeLine ∧ d = f ds := by
  cases ea : ml ρ with
  | none => rw [ea] at h; cases h
  | some p =>
    rw [ea] at h
    simp only [Option.bind_some] at h
    split at h
    · cases h
      exact ⟨p.1, rfl, by rw [sizeLine_eq]; assumption, rfl⟩
    · cases h
theorem j_lst {es : List Expr} {ml : ML} {k : Nat} {ms : List Am} {pu : Bool} (h : JA X κ es ml ms κ1 pu) {k' : Nat} (ha : allOwn (lv k') ms = true) (h0 : k' ≠ 0) : J X κ (.List es pos) (mLst ml) (.own k') κ1 pu := by
  refine ⟨fun t ht => PE.imp (pe_lst (h.run t ht)) fun σ H Q z q => ?_, fun hp ρ d ρ' e => ?_⟩
  · obtain ⟨g, ρ, S, d, ρ', em, post⟩ := q z
    obtain ⟨ds, el, hz, rfl⟩ := mSeq_some em
    refine fun _ => ⟨g, ρ, S, ds, ρ', el, fun vs H1 g1 S1 P1 s1 r1 => ?_⟩
    have r2 := rows_own ha r1
    refine ⟨by rw [rows_len r2]; exact hz, fun p np => ?_⟩
    have hlen : σ.length ≤ t := by rw [z.2]; exact ht
    refine post (.ref p) _ (gat X.N.length t ds.length g1 p true) (S1.gather np hlen) (P1.trans (Pres.gather S1.gok np)) (fun e => (s1 e).trans (same_new np)) ?_
    refine ⟨p, vs, rfl, upd_same, ?_, rows_gather np S1.gok (i := 0) (by omega) r2⟩
    rw [if_neg h0]
    unfold gat
    rw [if_pos rfl]
    rfl
  · obtain ⟨ds, el, hz, rfl⟩ := mSeq_some e
    exact h.pur hp _ _ _ el
theorem j_tup {es : List Expr} {ml : ML} {k' : Nat} {ms : List Am} {pu : Bool} {x1 : Nat} (h : JA X κ es ml ms κ1 pu) (ha : allOwn (lv k') ms = true) : J X κ (.Tuple es x1 pos) (mTup ml) (.own k') κ1 pu := by
  refine ⟨fun t ht => PE.imp (pe_tup (h.run t ht)) fun σ H Q z q => ?_, fun hp ρ d ρ' e => ?_⟩
  · obtain ⟨g, ρ, S, d, ρ', em, post⟩ := q z
    obtain ⟨ds, el, hz, rfl⟩ := mSeq_some em
    refine fun _ => ⟨g, ρ, S, ds, ρ', el, fun vs H1 g1 S1 P1 s1 r1 => ?_⟩
    have r2 := rows_own ha r1
    refine ⟨by rw [rows_len r2]; exact hz, fun p np => ?_⟩
    have hlen : σ.length ≤ t := by rw [z.2]; exact ht
    refine post (.ref p) _ (gat X.N.length t ds.length g1 p false) (S1.gather np hlen) (P1.trans (Pres.gather S1.gok np)) (fun e => (s1 e).trans (same_new np)) ?_
    exact ⟨p, vs, rfl, .inl upd_same, rows_gather np S1.gok (i := 0) (by omega) r2⟩
  · obtain ⟨ds, el, hz, rfl⟩ := mSeq_some e
    exact h.pur hp _ _ _ el
theorem J.less {e : Expr} {m : M} {j k : Nat} {pu : Bool} (h : J X κ e m (.own k) κ1 pu) (hl : j ≤ k) : J X κ e m (.own j) κ1 pu := by
  refine ⟨fun t ht => PE.imp (h.run t ht) fun σ H Q z q _ => ?_, h.pur⟩
  obtain ⟨g, ρ, S, d, ρ', em, post⟩ := q z
  refine ⟨g, ρ, S, d, ρ', em, fun v H' g' S' P' s' r' => ?_⟩
  let g2 : G := fun a => match g' a with
    | .ow r q => if r = t then (if has j q.length = true then .ow r q else .fz) else .ow r q
    | z => z
  have e2 : ∀ a, g2 a = match g' a with
    | .ow r q => if r = t then (if has j q.length = true then .ow r q else .fz) else .ow r q
    | z => z := fun _ => rfl
  have hlen : σ.length ≤ t := by rw [z.2]; exact ht
  have keep : ∀ a r q, r ≠ t → g' a = .ow r q → g2 a = .ow r q := fun a r q hr e => by rw [e2, e]; simp [hr]
  have P2 : Pres X.N.length t g' H' g2 H' := by
    refine ⟨fun a e => ⟨by rw [e2, e], rfl⟩, fun a e _ => ⟨by rw [e2, e], rfl⟩, fun a r p h1 h2 e => ⟨keep a r p (by omega) e, rfl⟩, fun a r p h1 h2 e => ?_, fun _ _ h _ => h⟩
    rw [e2] at e
    split at e
    · split at e
      · split at e
        · cases e; omega
        · cases e
      · cases e; assumption
    · rename_i hh; exact e
  refine post v H' g2 ⟨fun i k' d' h1 h2 => ?_, fun a hh => S'.gok a fun z => hh (by rw [e2, z]), S'.len, S'.lek⟩ (P'.trans P2) s' ?_
  · obtain ⟨v', es, o⟩ := S'.ok i k' d' h1 h2
    have hi : i < t := by
      have := (List.getElem?_eq_some_iff.mp es).1
      omega
    exact ⟨v', es, own_conv (fun _ _ z _ => z) d' (.inr fun a e => ⟨by rw [e2, e], rfl⟩) (fun a q e hh => ⟨rfl, by rw [if_pos hh]; exact keep a i _ (by omega) e⟩) (fun _ z => z) o⟩
  · exact own_conv (fun _ _ z _ => z) d (.inr fun a e => ⟨by rw [e2, e], rfl⟩) (fun a q e hh => ⟨rfl, by rw [e2, e]; simp⟩) (fun n z => has_le hl z) r'
def mA (m : M) : M := fun ρ => (m ρ).bind fun x => if isA x.1 = true then some x else none
theorem mA_some {m : M} {ρ ρ' : DE} {d : D} (h : mA m ρ = some (d, ρ')) : m ρ = some (d, ρ') ∧ isA d = true := by
  unfold mA at h
  cases e : m ρ with
  | none => rw [e] at h; cases h
  | some p =>
    rw [e] at h
    simp only [Option.bind_some] at h
    split at h
    · cases h; exact ⟨rfl, by assumption⟩
    · cases h
theorem J.asAtom {e : Expr} {m : M} {z z' : Rz} {pu : Bool} (h : J X κ e m z κ1 pu) : J X κ e (mA m) z' κ1 pu := by
  refine ⟨fun t ht => PE.imp (h.run t ht) fun σ H Q en q _ => ?_, fun hp ρ d ρ' e => h.pur hp _ _ _ (mA_some e).1⟩
  obtain ⟨g, ρ, S, d, ρ', em, post⟩ := q en
  obtain ⟨e1, e2⟩ := mA_some em
  refine ⟨g, ρ, S, d, ρ', e1, fun v H' g' S' P' s' r' => post v H' g' S' P' s' ?_⟩
  rw [rep_atom e2 r'.rep]
  exact atom_rz e2
end VS
namespace VS
open PySem PySem.Spec PyProof.Rows L2
variable {K : PySem.W.Frag} {X : Cx} {κ κ1 κ2 : OE} {pos : Pos}
mutual
def pyD : D → PyData
  | .non => .none
  | .bl b => .bool b
  | .int i => .int i
  | .str x => .str x
  | .tup xs => .tuple (pyL xs)
  | .lst xs => .list (pyL xs)
  | .rol ns => .list (ns.map .int)
  | .dic _ _ => .none
  | .nd _ _ => .none
  | .obj _ => .none
  | .gon => .none
  | .ins _ _ => .none
def pyL : List D → List PyData
  | [] => []
  | x :: xs => pyD x :: pyL xs
end
theorem dpAll_ints {H : Hp} : ∀ ns : List Int, DpAll K H (ns.map V.int) (ns.map PyData.int)
  | [] => .nil
  | n :: ns => .cons (.int n) (dpAll_ints ns)
mutual
def noD : D → Bool
  | .dic _ _ => false
  | .nd _ _ => false
  | .obj _ => false
  | .gon => false
  | .ins _ _ => false
  | .tup xs => noDL xs
  | .lst xs => noDL xs
  | _ => true
def noDL : List D → Bool
  | [] => true
  | x :: xs => noD x && noDL xs
end
theorem rep_dp {H : Hp} : (d : D) → noD d = true → ∀ {v}, Rep K H d v → Dp K H v (pyD d)
  | .non, _, _, h => by cases (show _ = _ from h); exact .non
  | .bl b, _, _, h => by cases (show _ = _ from h); exact .bl b
  | .int i, _, _, h => by cases (show _ = _ from h); exact .int i
  | .str x, _, _, h => by cases (show _ = _ from h); exact .str x
  | .tup ds, n, _, h => by
    obtain ⟨a, vs, rfl, ha, hl⟩ := h
    exact .tup ha.sq (go ds n hl)
  | .lst ds, n, _, h => by
    obtain ⟨a, vs, rfl, ha, hl⟩ := h
    exact .lst (SqL.of ha) (go ds n hl)
  | .rol ns, _, _, h => by
    obtain ⟨a, rfl, hs⟩ := h
    exact .lst (rol_sq hs) (dpAll_ints ns)
  | .dic _ _, n, _, _ => nomatch n
  | .nd _ _, n, _, _ => nomatch n
  | .obj _, n, _, _ => nomatch n
  | .gon, n, _, _ => nomatch n
  | .ins _ _, n, _, _ => nomatch n
where
  go : (ds : List D) → noDL ds = true → ∀ {vs}, RepL K H ds vs → DpAll K H vs (pyL ds)
  | [], _, _, h => by cases (show _ = _ from h); exact .nil
  | d :: ds, n, _, h => by
    obtain ⟨v, w, rfl, h1, h2⟩ := h
    have n' : (noD d && noDL ds) = true := n
    rw [Bool.and_eq_true] at n'
    exact .cons (rep_dp d n'.1 h1) (go ds n'.2 h2)
theorem repL_dp {H : Hp} (ds : List D) (n : noDL ds = true) {vs} (h : RepL K H ds vs) : DpAll K H vs (pyL ds) := rep_dp.go ds n h
theorem plain_ints : ∀ ns : List Int, PyData.plainAll (ns.map PyData.int) = true
  | [] => rfl
  | n :: ns => by
    show (PyData.plain (.int n) && PyData.plainAll (ns.map PyData.int)) = true
    rw [plain_ints ns]
    rfl
theorem plain_pyD : (d : D) → (pyD d).plain = true
  | .non => rfl
  | .bl _ => rfl
  | .int _ => rfl
  | .str _ => rfl
  | .tup ds => by
    show PyData.plainAll (pyL ds) = true
    exact go ds
  | .lst ds => by
    show PyData.plainAll (pyL ds) = true
    exact go ds
  | .rol ns => by
    show PyData.plainAll (ns.map .int) = true
    exact plain_ints ns
  | .dic _ _ => rfl
  | .nd _ _ => rfl
  | .obj _ => rfl
  | .gon => rfl
  | .ins _ _ => rfl
where
  go : (ds : List D) → PyData.plainAll (pyL ds) = true
  | [] => rfl
  | d :: ds => by
    show ((pyD d).plain && PyData.plainAll (pyL ds)) = true
    rw [plain_pyD d, go ds]
    rfl
theorem plain_pyL (ds : List D) : PyData.plainAll (pyL ds) = true := plain_pyD.go ds
def deq (a b : D) : Bool := PyData.eqv (pyD a) (pyD b)
def dep (a : D) : Nat := if noD a = true then (pyD a).depth else 1000
def depL (a : List D) : Nat := if noDL a = true then PyData.depthAll (pyL a) else 1000
theorem dep_no {a : D} (h : dep a ≤ 60) : noD a = true ∧ (pyD a).depth ≤ 60 := by
  unfold dep at h
  split at h
  · exact ⟨by assumption, h⟩
  · omega
theorem depL_no {a : List D} (h : depL a ≤ 60) : noDL a = true ∧ PyData.depthAll (pyL a) ≤ 60 := by
  unfold depL at h
  split at h
  · exact ⟨by assumption, h⟩
  · omega
def cmpOk (a b : D) : Bool := decide (dep a ≤ 60) && decide (dep b ≤ 60)
theorem cmp_no {a b : D} (h : cmpOk a b = true) : (noD a = true ∧ (pyD a).depth ≤ 60) ∧ noD b = true ∧ (pyD b).depth ≤ 60 := by
  unfold cmpOk at h
  rw [Bool.and_eq_true, decide_eq_true_eq, decide_eq_true_eq] at h
  exact ⟨dep_no h.1, dep_no h.2⟩
theorem OpR.at {f : Value → Value → Sem Value} {r : R2} (h : ∀ (pins : List (Addr × Obj)) (s : Shared) (σ : L2.St) (H : Hp) (x y : V) (v u : Value) (Q : VK), Inv X pins σ H s → RelV x v → RelV y u → r x y H Q →
    wpAny (model X.prog X.w) X.A (f v u) (EP X pins σ Q) X.xe s) : OpR X f r := h
def rDat (K : PySem.W.Frag) (f : D → D → Option D) : R2 := fun x y H Q => ∃ a b c, Rep K H a x ∧ Rep K H b y ∧ f a b = some c ∧ isA c = true ∧ Q (av c) H
theorem atOp {f : D → D → Option D} (h : ∀ x y z, f x y = some z → isA z = true) : AtOp X (rDat X.K f) f :=
  ⟨fun H x y z v u Q e rx ry q => ⟨x, y, z, rx, ry, e, h x y z e, q⟩, h⟩
def dI (C : Int → Int → Bool) (f : Int → Int → D) : D → D → Option D
  | .int i, .int j => if C i j = true then some (f i j) else none
  | _, _ => none
theorem dI_some {C : Int → Int → Bool} {f : Int → Int → D} {a b c : D} (h : dI C f a b = some c) : ∃ i j, a = .int i ∧ b = .int j ∧ C i j = true ∧ c = f i j := by
  unfold dI at h
  split at h
  · split at h
    · cases h; exact ⟨_, _, rfl, rfl, by assumption, rfl⟩
    · cases h
  · cases h
theorem opI' {f : Value → Value → Sem Value} {C : Int → Int → Prop} {Cb : Int → Int → Bool} {g : Int → Int → V} {gd : Int → Int → D} (h : OpR X f (rI C g)) (hc : ∀ i j, Cb i j = true → C i j) (hg : ∀ i j, av (gd i j) = g i j) : OpR X f (rDat X.K (dI Cb gd)) := by
  intro pins s σ H x y v u Q I rx ry q
  obtain ⟨a, b, c, ra, rb, e, ha, q⟩ := q
  obtain ⟨i, j, rfl, rfl, hC, rfl⟩ := dI_some e
  refine h pins s σ H x y v u Q I rx ry ⟨i, j, ra, rb, hc i j hC, ?_⟩
  rw [← hg i j]
  exact q
theorem opI0' {f : Value → Value → Sem Value} {g : Int → Int → V} {gd : Int → Int → D} (h : OpR X f (rI0 g)) (hg : ∀ i j, av (gd i j) = g i j) : OpR X f (rDat X.K (dI (fun _ _ => true) gd)) := by
  intro pins s σ H x y v u Q I rx ry q
  obtain ⟨a, b, c, ra, rb, e, ha, q⟩ := q
  obtain ⟨i, j, rfl, rfl, hC, rfl⟩ := dI_some e
  refine h pins s σ H x y v u Q I rx ry ⟨i, j, ra, rb, ?_⟩
  rw [← hg i j]
  exact q
def dAdd : D → D → Option D
  | .int i, .int j => some (.int (i + j))
  | .str i, .str j => if i.length + j.length ≤ 16777216 then some (.str (i ++ j)) else none
  | _, _ => none
theorem dAdd_a (x y z : D) (h : dAdd x y = some z) : isA z = true := by
  unfold dAdd at h
  split at h
  · cases h; rfl
  · split at h
    · cases h; rfl
    · cases h
  · cases h
theorem o_add : OpR X (binaryOp .Add) (rDat X.K dAdd) := by
  intro pins s σ H x y v u Q I rx ry q
  obtain ⟨a, b, c, ra, rb, e, ha, q⟩ := q
  unfold dAdd at e
  split at e
  · cases e
    exact op_add pins s σ H x y v u Q I rx ry ⟨_, _, ra, rb, q⟩
  · split at e
    · cases e
      exact op_add_str pins s σ H x y v u Q I rx ry ⟨_, _, ra, rb, by rw [sizeLine_eq]; assumption, q⟩
    · cases e
  · cases e
def dSub := dI (fun _ _ => true) fun i j => .int (i - j)
theorem o_sub : OpR X (binaryOp .Sub) (rDat X.K dSub) := opI0' op_sub fun _ _ => rfl
def cMul (i j : Int) : Bool := decide (i.natAbs < 18446744073709551616) || decide (j.natAbs < 18446744073709551616)
def dMul := dI cMul fun i j => .int (i * j)
theorem o_mul : OpR X (binaryOp .Mult) (rDat X.K dMul) := opI' op_mul (fun i j h => by
  unfold cMul at h
  simp only [Bool.or_eq_true, decide_eq_true_eq] at h
  rcases h with h | h
  · exact .inl ⟨by omega, by omega⟩
  · exact .inr ⟨by omega, by omega⟩) fun _ _ => rfl
def cDiv (i j : Int) : Bool := decide (0 < j) && decide (j < 1073741824)
def dDiv := dI cDiv fun i j => .int (i / j)
theorem o_div : OpR X (binaryOp .FloorDiv) (rDat X.K dDiv) := opI' op_fdiv (fun i j h => by
  unfold cDiv at h
  simp only [Bool.and_eq_true, decide_eq_true_eq] at h
  exact h) fun _ _ => rfl
def dMod := dI (fun _ j => decide (0 < j)) fun i j => .int (i % j)
theorem o_mod : OpR X (binaryOp .Mod) (rDat X.K dMod) := opI' op_mod (fun i j h => of_decide_eq_true h) fun _ _ => rfl
def cPow (i j : Int) : Bool := decide (0 ≤ j) && (decide (j ≤ 1000000) && decide (i.natAbs < 18446744073709551616))
theorem cPow_ok (i j : Int) (h : cPow i j = true) : CPow i j := by
  unfold cPow at h
  simp only [Bool.and_eq_true, decide_eq_true_eq] at h
  exact h
def dPow := dI cPow fun i j => .int (i ^ j.toNat)
theorem o_pow : OpR X (binaryOp .Pow) (rDat X.K dPow) := opI' op_pow cPow_ok fun _ _ => rfl
def dLt := dI (fun _ _ => true) fun i j => .bl (decide (i < j))
def dLe := dI (fun _ _ => true) fun i j => .bl (decide (i ≤ j))
def dGt := dI (fun _ _ => true) fun i j => .bl (decide (j < i))
def dGe := dI (fun _ _ => true) fun i j => .bl (decide (j ≤ i))
theorem o_lt : OpR X (compareOp .Lt) (rDat X.K dLt) := opI0' op_lt fun _ _ => rfl
theorem o_gt : OpR X (compareOp .Gt) (rDat X.K dGt) := opI0' op_gt fun _ _ => rfl
theorem o_ge : OpR X (compareOp .GtE) (rDat X.K dGe) := opI0' op_ge fun _ _ => rfl
theorem dI_a {C : Int → Int → Bool} {f : Int → Int → D} (h : ∀ i j, isA (f i j) = true) (x y z : D) (e : dI C f x y = some z) : isA z = true := by
  obtain ⟨i, j, rfl, rfl, _, rfl⟩ := dI_some e
  exact h i j
def dEq (a b : D) : Option D := if cmpOk a b = true then some (.bl (deq a b)) else none
def dNe (a b : D) : Option D := if cmpOk a b = true then some (.bl (!deq a b)) else none
theorem room_min {X : Cx} (hu : X.A.units + 100 < cLine) {a b : D} (h : cmpOk a b = true) : X.A.units + min (pyD a).depth (pyD b).depth < cLine := by
  have h2 := (cmp_no h).1.2
  omega
theorem fin_b {pins : List (Addr × Obj)} {σ : L2.St} {H : Hp} {s : Shared} {Q : VK} {k : Bool} (I : Inv X pins σ H s) (q : Q (.bl k) H) : EP X pins σ Q (.bool k) s := ⟨.bl k, H, I, rfl, q⟩
theorem o_eq (hu : X.A.units + 100 < cLine) : OpR X (compareOp .Eq) (rDat X.K dEq) := by
  intro pins s σ H x y v u Q I rx ry q
  obtain ⟨a, b, c, ra, rb, e, ha, q⟩ := q
  unfold dEq at e
  split at e
  · cases e
    obtain ⟨n1, n2⟩ := cmp_no (by assumption)
    obtain ⟨as, h1⟩ := Dp.reads I _ _ _ (rep_dp a n1.1 ra) rx
    obtain ⟨bs, h2⟩ := Dp.reads I _ _ _ (rep_dp b n2.1 rb) ry
    exact PySem.SeqAt.eq_plain h1 h2 (plain_pyD a) (plain_pyD b) (room_min hu (by assumption)) (fin_b I q)
  · cases e
theorem o_ne (hu : X.A.units + 100 < cLine) : OpR X (compareOp .NotEq) (rDat X.K dNe) := by
  intro pins s σ H x y v u Q I rx ry q
  obtain ⟨a, b, c, ra, rb, e, ha, q⟩ := q
  unfold dNe at e
  split at e
  · cases e
    obtain ⟨n1, n2⟩ := cmp_no (by assumption)
    obtain ⟨as, h1⟩ := Dp.reads I _ _ _ (rep_dp a n1.1 ra) rx
    obtain ⟨bs, h2⟩ := Dp.reads I _ _ _ (rep_dp b n2.1 rb) ry
    exact PySem.SeqAt.ne_plain h1 h2 (plain_pyD a) (plain_pyD b) (room_min hu (by assumption)) (fin_b I q)
  · cases e
theorem dEq_a (x y z : D) (h : dEq x y = some z) : isA z = true := by
  unfold dEq at h
  split at h
  · cases h; rfl
  · cases h
theorem dNe_a (x y z : D) (h : dNe x y = some z) : isA z = true := by
  unfold dNe at h
  split at h
  · cases h; rfl
  · cases h
inductive DK where
  | k (x : Key) | t (x : List Key)
def keyA : D → Option Key
  | .int i => some (.inl i)
  | .str x => some (.inr x)
  | _ => none
def keyAs0 : List D → Option (List Key)
  | [] => some []
  | d :: ds => (keyA d).bind fun k => (keyAs0 ds).map fun r => k :: r
def keyAs : List D → Option (List Key)
  | [] => none
  | d :: ds => keyAs0 (d :: ds)
def DKs.at : DKs → D → Option (Option Nat)
  | .K ks, d => (keyA d).map fun k => ks.findIdx? fun j => decide (j = k)
  | .T ks, .tup ds => (keyAs ds).map fun k => ks.findIdx? fun j => decide (j = k)
  | .T _, _ => none
theorem keyA_rep {H : Hp} {d : D} {k : Key} {v : V} (e : keyA d = some k) (r : Rep K H d v) : v = kV k := by
  cases d with
  | int i => cases e; exact r
  | str x => cases e; exact r
  | _ => cases e
theorem keyAs0_rep {H : Hp} : ∀ {ds : List D} {ks : List Key} {vs : List V}, keyAs0 ds = some ks → RepL K H ds vs → vs = ks.map kV
  | [], _, _, e, r => by cases e; exact r
  | d :: ds, _, _, e, r => by
    obtain ⟨v, w, rfl, h1, h2⟩ := r
    have e' : ((keyA d).bind fun k => (keyAs0 ds).map fun r => k :: r) = some _ := e
    cases e1 : keyA d with
    | none => rw [e1] at e'; cases e'
    | some k =>
      rw [e1] at e'
      simp only [Option.bind_some] at e'
      cases e2 : keyAs0 ds with
      | none => rw [e2] at e'; cases e'
      | some r => rw [e2] at e'; cases e'; rw [keyA_rep e1 h1, keyAs0_rep e2 h2]; rfl
theorem keyAs_rep {H : Hp} {ds : List D} {ks : List Key} {vs : List V} (e : keyAs ds = some ks) (r : RepL K H ds vs) : vs = ks.map kV := by
  cases ds with
  | nil => cases e
  | cons d ds => exact keyAs0_rep e r
theorem keyAs_ne {H : Hp} {ds : List D} {ks : List Key} {vs : List V} (e : keyAs ds = some ks) (r : RepL K H ds vs) : vs ≠ [] := by
  cases ds with
  | nil => cases e
  | cons d ds =>
    obtain ⟨v, w, rfl, _⟩ := r
    simp
theorem valV_zip {κ : Type} [DecidableEq κ] {k : κ} : ∀ {ks : List κ} {vs : List V}, ks.length = vs.length → valV (ks.zip vs) k = (ks.findIdx? fun j => decide (j = k)).bind fun j => vs[j]?
  | [], [], _ => rfl
  | a :: ks, v :: vs, h => by
    rw [List.zip_cons_cons, List.findIdx?_cons]
    by_cases e : a = k
    · rw [valV_pos e]
      simp [e]
    · rw [valV_neg e, valV_zip (by simpa using h)]
      simp only [e, decide_false, Bool.false_eq_true, if_false]
      cases ks.findIdx? (fun j => decide (j = k)) <;> simp
theorem dGet_of {H : Hp} {q : DKs} {d : D} {o : Option Nat} {a : Addr} {vs : List V} {y : V} (hd : Rd H a (dO q vs)) (hl : q.len = vs.length) (e : q.at d = some o) (r : Rep K H d y) : DGet H a y (o.bind fun j => vs[j]?) := by
  cases q with
  | K ks =>
    have e' : ((keyA d).map fun k => ks.findIdx? fun j => decide (j = k)) = some o := e
    cases e1 : keyA d with
    | none => rw [e1] at e'; cases e'
    | some k =>
      rw [e1] at e'
      cases e'
      exact .inl ⟨_, k, hd, keyA_rep e1 r, (valV_zip hl).symm⟩
  | T ks =>
    cases d with
    | tup ds =>
      have e' : ((keyAs ds).map fun k => ks.findIdx? fun j => decide (j = k)) = some o := e
      obtain ⟨b, ws, rfl, hb, hr⟩ := r
      cases e1 : keyAs ds with
      | none => rw [e1] at e'; cases e'
      | some k =>
        rw [e1] at e'
        cases e'
        have hb := hb.ne (keyAs_ne e1 hr)
        rw [keyAs_rep e1 hr] at hb
        exact .inr ⟨_, k, b, hd, rfl, hb, (valV_zip hl).symm⟩
    | _ => cases e
theorem DKs.at_lt {q : DKs} {d : D} {j : Nat} (e : q.at d = some (some j)) : j < q.len := by
  cases q with
  | K ks =>
    have e' : ((keyA d).map fun k => ks.findIdx? fun j => decide (j = k)) = some (some j) := e
    cases e1 : keyA d with
    | none => rw [e1] at e'; cases e'
    | some k => rw [e1] at e'; injection e' with e'; exact (List.findIdx?_eq_some_iff_findIdx_eq.mp e').1
  | T ks =>
    cases d with
    | tup ds =>
      have e' : ((keyAs ds).map fun k => ks.findIdx? fun j => decide (j = k)) = some (some j) := e
      cases e1 : keyAs ds with
      | none => rw [e1] at e'; cases e'
      | some k => rw [e1] at e'; injection e' with e'; exact (List.findIdx?_eq_some_iff_findIdx_eq.mp e').1
    | _ => cases e
def inL (x : D) (ys : List D) : Bool := (pyL ys).any fun y => PyData.eqv y (pyD x)
def dInG (neg : Bool) (x : D) : D → Option D
  | .lst ys => if (decide (depL ys ≤ 60) && decide (dep x ≤ 60)) = true then some (.bl (if neg then !inL x ys else inL x ys)) else none
  | .tup ys => if (decide (depL ys ≤ 60) && decide (dep x ≤ 60)) = true then some (.bl (if neg then !inL x ys else inL x ys)) else none
  | .dic q _ => (q.at x).map fun o => .bl (if neg then !o.isSome else o.isSome)
  | .str y => (match x with
    | .str z => some (.bl (if neg then !(!(Builtin.Str.occurrences y z 0 y.length 1).isEmpty) else !(Builtin.Str.occurrences y z 0 y.length 1).isEmpty))
    | _ => none)
  | _ => none
def dNi := dInG true
theorem dInG_a {neg : Bool} (x y z : D) (h : dInG neg x y = some z) : isA z = true := by
  unfold dInG at h
  split at h
  · split at h
    · cases h; rfl
    · cases h
  · split at h
    · cases h; rfl
    · cases h
  · cases e : DKs.at (by assumption) x with
    | none => rw [e] at h; cases h
    | some o => rw [e] at h; cases h; rfl
  · split at h
    · cases h; rfl
    · cases h
  · cases h
theorem in_no {ys : List D} {x : D} (h : (decide (depL ys ≤ 60) && decide (dep x ≤ 60)) = true) : (noDL ys = true ∧ PyData.depthAll (pyL ys) ≤ 60) ∧ noD x = true ∧ (pyD x).depth ≤ 60 := by
  rw [Bool.and_eq_true, decide_eq_true_eq, decide_eq_true_eq] at h
  exact ⟨depL_no h.1, dep_no h.2⟩
theorem room_in {X : Cx} (hu : X.A.units + 100 < cLine) {ys : List D} {x : D} (h : (decide (depL ys ≤ 60) && decide (dep x ≤ 60)) = true) : X.A.units + 1 + min (PyData.depthAll (pyL ys)) (pyD x).depth < cLine := by
  have h2 := (in_no h).1.2
  omega
theorem at_isSome {q : DKs} {d : D} {o : Option Nat} {vs : List V} (e : q.at d = some o) (hl : q.len = vs.length) : (o.bind fun j => vs[j]?).isSome = o.isSome := by
  cases o with
  | none => rfl
  | some j =>
    have := DKs.at_lt e
    rw [Option.bind_some, List.getElem?_eq_getElem (by omega)]
    rfl
theorem o_ni (hu : X.A.units + 100 < cLine) : OpR X (compareOp .NotIn) (rDat X.K dNi) := by
  intro pins s σ H x y v u Q I rx ry q
  obtain ⟨a, b, c, ra, rb, e, ha, q⟩ := q
  unfold dNi dInG at e
  split at e
  · split at e
    · cases e
      obtain ⟨n1, n2⟩ := in_no (by assumption)
      obtain ⟨as, h1⟩ := Dp.reads I _ _ _ (rep_dp a n2.1 ra) rx
      obtain ⟨bs, h2⟩ := Dp.reads I _ _ _ (rep_dp (.lst _) n1.1 rb) ry
      exact PySem.SeqAt.notIn_list_data h2 h1 (plain_pyL _) (plain_pyD a) (room_in hu (by assumption)) (fin_b I q)
    · cases e
  · split at e
    · cases e
      obtain ⟨n1, n2⟩ := in_no (by assumption)
      obtain ⟨as, h1⟩ := Dp.reads I _ _ _ (rep_dp a n2.1 ra) rx
      obtain ⟨bs, h2⟩ := Dp.reads I _ _ _ (rep_dp (.tup _) n1.1 rb) ry
      exact PySem.SeqAt.notIn_tuple_data h2 h1 (plain_pyL _) (plain_pyD a) (room_in hu (by assumption)) (fin_b I q)
    · cases e
  · rename_i dq ds
    cases eo : dq.at a with
    | none => rw [eo] at e; cases e
    | some o =>
      rw [eo] at e
      cases e
      obtain ⟨ad, vs, rfl, hd, hq, hl⟩ := rb
      have hlen : dq.len = vs.length := hq.trans (by
        clear q hd hq eo
        induction ds generalizing vs with
        | nil => cases (show _ = _ from hl); rfl
        | cons d ds ih =>
          obtain ⟨v1, w1, rfl, _, h2⟩ := hl
          simp [ih w1 h2])
      have ed := at_isSome (vs := vs) eo hlen
      cases (show u = Value.ref ad from ry)
      refine d_notIn (by omega) I (dGet_of hd hlen eo ra) rx fun s3 I3 => ⟨.bl (!(o.bind fun j => vs[j]?).isSome), H, I3, rfl, ?_⟩
      rw [ed]
      exact q
  · split at e
    · cases e
      exact op_notin_str pins s σ H x y v u Q I rx ry ⟨_, _, ra, rb, q⟩
    · cases e
  · cases e
end VS
namespace VS
open PySem PySem.Spec PyProof.Rows L2
variable {K : PySem.W.Frag} {X : Cx} {κ κ1 κ2 κ3 : OE} {pos : Pos}
def jTT (K : PySem.W.Frag) (n : Nat) (κ : OE) (m : M) (κ' : OE) (pu : Bool) (t : Nat) : TT := fun σ H Q => En n σ H →
  ∃ g ρ, Sok K κ ρ g σ H ∧ ∃ b ρ', m ρ = some (.bl b, ρ') ∧ ∀ H' g', Sok K κ' ρ' g' σ H' → Pres n t g H g' H' → (pu = true → Same H H') → Q b H'
structure JT (X : Cx) (κ : OE) (e : Expr) (m : M) (κ' : OE) (pu : Bool) : Prop where
  run : ∀ t, X.N.length ≤ t → PT X e (jTT X.K X.N.length κ m κ' pu t)
  pur : pu = true → ∀ ρ d ρ', m ρ = some (d, ρ') → ρ' = ρ
structure JW (X : Cx) (κ : OE) (e : Expr) (m : M) (κ' : OE) (pu : Bool) : Prop where
  run : ∀ t, X.N.length ≤ t → PW X e (jTT X.K X.N.length κ m κ' pu t)
  pur : pu = true → ∀ ρ d ρ', m ρ = some (d, ρ') → ρ' = ρ
theorem JW.jt {e : Expr} {m : M} {pu : Bool} (h : JW X κ e m κ1 pu) : JT X κ e m κ1 pu := ⟨fun t ht => (h.run t ht).pt, h.pur⟩
theorem PT.imp {e : Expr} {t t' : TT} (h : PT X e t) (f : ∀ σ H Q, En X.N.length σ H → t' σ H Q → t σ H Q) : PT X e t' :=
  ⟨fun pins s σ H Q I q => h.run pins s σ H Q I (f σ H Q ⟨Inv.sz I, I.len⟩ q)⟩
theorem PW.imp {e : Expr} {t t' : TT} (h : PW X e t) (f : ∀ σ H Q, En X.N.length σ H → t' σ H Q → t σ H Q) : PW X e t' :=
  ⟨fun wh pins s σ H Q I q => h.run wh pins s σ H Q I (f σ H Q ⟨Inv.sz I, I.len⟩ q)⟩
theorem JT.weak {e : Expr} {m : M} {pu : Bool} (h : JT X κ e m κ1 pu) (hl : leO κ2 κ1 = true) (hn : κ2.length = X.N.length) : JT X κ e m κ2 pu := by
  refine ⟨fun t ht => PT.imp (h.run t ht) fun σ H Q z q _ => ?_, h.pur⟩
  obtain ⟨g, ρ, S, b, ρ', em, post⟩ := q z
  exact ⟨g, ρ, S, b, ρ', em, fun H' g' S' P' s' => post H' (wk κ2 g') (S'.weaken hl) (P'.trans (Pres.weaken hn)) s'⟩
theorem JT.two_read {a b e : Expr} {ma mb : M} {ra rb : Rz} {pa pb : Bool} {r : R2} {f : D → D → Option D} (ha : J X κ a ma ra κ1 pa) (hb : J X κ1 b mb rb κ2 pb) (ok : okk ra pb = true) (op : AtOp X r f)
    (mk : ∀ {ta tb : TE}, PE X a ta → PE X b tb → PT X e (tTest (tOp r ta tb))) : JT X κ e (m2 f ma mb) κ2 (pa && pb) := by
  refine ⟨fun t ht => PT.imp (mk (ha.run t ht) (hb.run (t + 1) (by omega))) fun σ H Q z q => ?_, fun hp ρ d ρ' h => ?_⟩
  · obtain ⟨g, ρ, S, c, ρ', em, post⟩ := q z
    obtain ⟨x, ρ1, y, ea, eb, ec⟩ := m2_some em
    refine two (K := X.K) (κ2 := κ2) ht ok S ea eb z fun v u H' g' S' P' s' r1 r2 => ?_
    exact op.ans H' x y _ v u _ ec r1.rep r2.rep ⟨c, rfl, post H' g' S' P' s'⟩
  · rw [Bool.and_eq_true] at hp
    obtain ⟨x, ρ1, y, ea, eb, ec⟩ := m2_some h
    rw [hb.pur hp.2 _ _ _ eb, ha.pur hp.1 _ _ _ ea]
def truD : D → Option Bool
  | .non => some false
  | .bl b => some b
  | .int i => some (i != 0)
  | .str y => if y.length ≤ 16777216 then some ((y.length : Int) != 0) else none
  | .lst xs => some (!xs.isEmpty)
  | .tup xs => some (!xs.isEmpty)
  | .rol xs => some (!xs.isEmpty)
  | .dic _ _ => none
  | .nd _ _ => none
  | .obj _ => none
  | .gon => none
  | .ins _ _ => none
theorem repL_empty {H : Hp} {ds : List D} {vs : List V} (h : RepL K H ds vs) : vs.isEmpty = ds.isEmpty := by
  cases ds with
  | nil => cases (show _ = _ from h); rfl
  | cons d ds => obtain ⟨v, w, rfl, _⟩ := h; rfl
theorem truV_of {H : Hp} {d : D} {b : Bool} {v : V} (h : truD d = some b) (r : Rep K H d v) : TruV K v H b := by
  cases d with
  | obj a => cases h
  | gon => cases h
  | ins _ _ => cases h
  | nd _ _ => cases h
  | non => cases (show v = _ from r); cases h; rfl
  | bl c => cases (show v = _ from r); cases h; rfl
  | int i => cases (show v = _ from r); cases h; rfl
  | str y =>
    cases (show v = _ from r)
    simp only [truD] at h
    split at h
    · cases h; exact ⟨by rw [sizeLine_eq]; assumption, rfl⟩
    · cases h
  | lst xs =>
    obtain ⟨a, vs, rfl, ha, hl⟩ := r
    cases h
    exact .inl ⟨vs, SqL.of ha, by rw [repL_empty hl]⟩
  | tup xs =>
    obtain ⟨a, vs, rfl, ha, hl⟩ := r
    cases h
    exact .inr (.inl ⟨vs, ha.sq, by rw [repL_empty hl]⟩)
  | rol ns =>
    obtain ⟨a, rfl, ha⟩ := r
    cases h
    exact .inl ⟨_, rol_sq ha, by cases ns <;> rfl⟩
  | dic _ _ => cases h
def mTr (m : M) : M := fun ρ => (m ρ).bind fun x => (truD x.1).map fun b => (.bl b, x.2)
theorem mTr_some {m : M} {ρ ρ' : DE} {d : D} (h : mTr m ρ = some (d, ρ')) : ∃ x b, m ρ = some (x, ρ') ∧ truD x = some b ∧ d = .bl b := by
  unfold mTr at h
  cases e : m ρ with
  | none => rw [e] at h; cases h
  | some p =>
    rw [e] at h
    simp only [Option.bind_some] at h
    cases e2 : truD p.1 with
    | none => rw [e2] at h; cases h
    | some b => rw [e2] at h; cases h; exact ⟨p.1, b, rfl, e2, rfl⟩
theorem jt_val {e : Expr} {m : M} {rz : Rz} {pu : Bool} (h : J X κ e m rz κ1 pu) (he : ∀ whole, isTrue e X.env whole = (do let v ← whole; standAt e.pos; holding [v] (truthy v))) : JT X κ e (mTr m) κ1 pu := by
  refine ⟨fun t ht => PT.imp (pt_truth (h.run t ht) he) fun σ H Q z q => ?_, fun hp ρ d ρ' e => ?_⟩
  · obtain ⟨g, ρ, S, c, ρ', em, post⟩ := q z
    obtain ⟨x, b, e1, e2, e3⟩ := mTr_some em
    cases e3
    exact fun _ => ⟨g, ρ, S, x, ρ', e1, fun v H' g' S' P' s' r' => ⟨c, truV_of e2 r'.rep, post H' g' S' P' s'⟩⟩
  · obtain ⟨x, b, e1, e2, e3⟩ := mTr_some e
    exact h.pur hp _ _ _ e1
def mNot (m : M) : M := fun ρ => match m ρ with
  | some (.bl b, ρ') => some (.bl (!b), ρ')
  | _ => none
theorem mNot_some {m : M} {ρ ρ' : DE} {d : D} (h : mNot m ρ = some (d, ρ')) : ∃ b, m ρ = some (.bl b, ρ') ∧ d = .bl (!b) := by
  unfold mNot at h
  split at h
  · cases h; exact ⟨_, by assumption, rfl⟩
  · cases h
def mAnd (ma mb : M) : M := fun ρ => match ma ρ with
  | some (.bl true, ρ1) => mb ρ1
  | some (.bl false, ρ1) => some (.bl false, ρ1)
  | _ => none
def mOr (ma mb : M) : M := fun ρ => match ma ρ with
  | some (.bl false, ρ1) => mb ρ1
  | some (.bl true, ρ1) => some (.bl true, ρ1)
  | _ => none
theorem mAnd_some {ma mb : M} {ρ ρ' : DE} {d : D} (h : mAnd ma mb ρ = some (d, ρ')) : (∃ ρ1, ma ρ = some (.bl true, ρ1) ∧ mb ρ1 = some (d, ρ')) ∨ (ma ρ = some (.bl false, ρ') ∧ d = .bl false) := by
  unfold mAnd at h
  split at h
  · exact .inl ⟨_, by assumption, h⟩
  · cases h; exact .inr ⟨by assumption, rfl⟩
  · cases h
theorem jw_and1 {a : Expr} {ma : M} {pa : Bool} (h : JT X κ a ma κ1 pa) : JW X κ (.BoolOp .And [a] pos) ma κ1 pa := ⟨fun t ht => pw_and1 (h.run t ht), h.pur⟩
theorem jw_and {a b : Expr} {rest : List Expr} {ma mb : M} {pa pb : Bool} (ha : JT X κ a ma κ1 pa) (hb : JW X κ1 (.BoolOp .And (b :: rest) pos) mb κ2 pb) (hl : leO κ2 κ1 = true) (hn : κ2.length = X.N.length) :
    JW X κ (.BoolOp .And (a :: b :: rest) pos) (mAnd ma mb) κ2 (pa && pb) := by
  refine ⟨fun t ht => PW.imp (pw_and (ha.run t ht) (hb.run t ht)) fun σ H Q z q => ?_, fun hp ρ d ρ' e => ?_⟩
  · obtain ⟨g, ρ, S, c, ρ', em, post⟩ := q z
    intro _
    rcases mAnd_some em with ⟨ρ1, e1, e2⟩ | ⟨e1, e2⟩
    · refine ⟨g, ρ, S, true, ρ1, e1, fun H1 g1 S1 P1 s1 => ?_⟩
      refine iteT ?_
      refine fun _ => ⟨g1, ρ1, S1, c, ρ', e2, fun H2 g2 S2 P2 s2 => post H2 g2 S2 (P1.trans P2) fun e => ?_⟩
      rw [Bool.and_eq_true] at e
      exact (s1 e.1).trans (s2 e.2)
    · cases e2
      refine ⟨g, ρ, S, false, ρ', e1, fun H1 g1 S1 P1 s1 => ?_⟩
      refine iteF ?_
      refine post H1 _ (S1.weaken hl) (P1.trans (Pres.weaken hn)) fun e => ?_
      rw [Bool.and_eq_true] at e
      exact s1 e.1
  · rw [Bool.and_eq_true] at hp
    rcases mAnd_some e with ⟨ρ1, e1, e2⟩ | ⟨e1, e2⟩
    · rw [hb.pur hp.2 _ _ _ e2, ha.pur hp.1 _ _ _ e1]
    · exact ha.pur hp.1 _ _ _ e1
theorem j_not {e : Expr} {m : M} {rz rz' : Rz} {pu : Bool} (h : J X κ e m rz κ1 pu) : J X κ (.UnaryOp .Not e pos) (mNot m) rz' κ1 pu := by
  refine ⟨fun t ht => PE.imp (pe_not (h.run t ht)) fun σ H Q z q => ?_, fun hp ρ d ρ' e => ?_⟩
  · obtain ⟨g, ρ, S, c, ρ', em, post⟩ := q z
    obtain ⟨b, e1, e3⟩ := mNot_some em
    cases e3
    refine fun _ => ⟨g, ρ, S, .bl b, ρ', e1, fun v H' g' S' P' s' r' => ⟨b, r'.rep, post _ H' g' S' P' s' (atom_rz (d := .bl (!b)) rfl)⟩⟩
  · obtain ⟨b, e1, e3⟩ := mNot_some e
    exact h.pur hp _ _ _ e1
theorem Same.bool {p q : Bool} {H H1 H2 : Hp} (s1 : p = true → Same H H1) (s2 : q = true → Same H1 H2) : (p && q) = true → Same H H2 := fun e => by
  rw [Bool.and_eq_true] at e
  exact (s1 e.1).trans (s2 e.2)
def mIf (mc ma mb : M) : M := fun ρ => match mc ρ with
  | some (.bl true, ρ1) => ma ρ1
  | some (.bl false, ρ1) => mb ρ1
  | _ => none
def mCh (f f' : D → D → Option D) (ma mb mc : M) : M := fun ρ => (ma ρ).bind fun x => (mb x.2).bind fun y => match f x.1 y.1 with
  | some (.bl true) => (mc y.2).bind fun z => (f' y.1 z.1).map fun w => (w, z.2)
  | some (.bl false) => some (.bl false, y.2)
  | _ => none
end VS
namespace VS
open PySem PySem.Spec PyProof.Rows L2
variable {K : PySem.W.Frag} {X : Cx} {κ κ1 κ2 κ3 : OE} {pos : Pos}
theorem repL_get {H : Hp} : ∀ {ds : List D} {vs : List V} {i : Nat} {d : D}, RepL K H ds vs → ds[i]? = some d → ∃ v, vs[i]? = some v ∧ Rep K H d v
  | [], _, _, _, _, e => by simp at e
  | d :: ds, _, 0, _, h, e => by
    obtain ⟨v, w, rfl, h1, h2⟩ := h
    cases e
    exact ⟨v, rfl, h1⟩
  | d :: ds, _, i + 1, _, h, e => by
    obtain ⟨v, w, rfl, h1, h2⟩ := h
    exact repL_get (i := i) h2 e
theorem repL_len {H : Hp} : ∀ {ds : List D} {vs : List V}, RepL K H ds vs → vs.length = ds.length
  | [], _, h => by cases (show _ = _ from h); rfl
  | d :: ds, _, h => by
    obtain ⟨v, w, rfl, h1, h2⟩ := h
    simp [repL_len h2]
theorem repL_app {H : Hp} : ∀ {ds es : List D} {vs ws : List V}, RepL K H ds vs → RepL K H es ws → RepL K H (ds ++ es) (vs ++ ws)
  | [], _, _, _, h, q => by cases (show _ = _ from h); exact q
  | d :: ds, _, _, _, h, q => by
    obtain ⟨v, w, rfl, h1, h2⟩ := h
    exact ⟨v, _, rfl, h1, repL_app h2 q⟩
theorem repL_mono {H H' : Hp} (s : Same H H') (ds : List D) {vs : List V} (h : RepL K H ds vs) : RepL K H' ds vs := rep_mono.go s ds h
theorem ownL_repL {H : Hp} {g : G} {k r : Nat} {p : List Nat} {i : Nat} (ds : List D) {vs : List V} (h : OwnL K H g ds k r p i vs) : RepL K H ds vs := own_rep.go ds h
theorem ownL_get {H : Hp} {g : G} {k r : Nat} {p : List Nat} : ∀ {ds : List D} {vs : List V} {j i : Nat} {d : D}, OwnL K H g ds k r p j vs → ds[i]? = some d → ∃ v, vs[i]? = some v ∧ Own K H g d k r ((j + i) :: p) v
  | [], _, _, _, _, _, e => by simp at e
  | d :: ds, _, j, 0, _, h, e => by
    obtain ⟨v, w, rfl, h1, h2⟩ := h
    cases e
    exact ⟨v, rfl, h1⟩
  | d :: ds, _, j, i + 1, _, h, e => by
    obtain ⟨v, w, rfl, h1, h2⟩ := h
    have := ownL_get (j := j + 1) (i := i) h2 e
    rw [show j + 1 + i = j + (i + 1) by omega] at this
    exact this
def allRz : List Am → Bool
  | [] => true
  | .rz _ :: ms => allRz ms
  | _ => false
theorem rows_repL {H : Hp} {g : G} {σ : L2.St} {ρ : DE} : ∀ {ms : List Am} {t : Nat} {ds : List D} {vs : List V}, allRz ms = true → RowsOk K H g σ ρ t ms ds vs → RepL K H ds vs
  | [], _, _, _, _, h => by
    obtain ⟨rfl, rfl⟩ := h
    rfl
  | .io i :: ms, _, _, _, h, _ => by cases h
  | .rz z :: ms, _, _, _, h, q => by
    obtain ⟨d, ds', v, vs', rfl, rfl, h1, h2⟩ := q
    exact ⟨v, vs', rfl, h1.rep, rows_repL (ms := ms) h h2⟩
structure AtCall (X : Cx) (r : List V → Hp → VK → Prop) (f : List D → Option D) : Prop where
  ans : ∀ (H : Hp) (ds : List D) (z : D) (vs : List V) (Q : VK), SzOk H → f ds = some z → RepL X.K H ds vs → Q (av z) H → r vs H Q
  atom : ∀ ds z, f ds = some z → isA z = true
def mB (f : List D → Option D) (ml : ML) : M := fun ρ => (ml ρ).bind fun x => (f x.1).map fun z => (z, x.2)
theorem mB_some {f : List D → Option D} {ml : ML} {ρ ρ' : DE} {d : D} (h : mB f ml ρ = some (d, ρ')) : ∃ ds, ml ρ = some (ds, ρ') ∧ f ds = some d := by
  unfold mB at h
  cases e : ml ρ with
  | none => rw [e] at h; cases h
  | some p =>
    rw [e] at h
    simp only [Option.bind_some] at h
    cases e2 : f p.1 with
    | none => rw [e2] at h; cases h
    | some b => rw [e2] at h; cases h; exact ⟨p.1, rfl, e2⟩
theorem CallR.en {f : Value} {r : List V → Hp → VK → Prop} (h : CallR X f r) : CallR X f (fun vs H Q => SzOk H → r vs H Q) := fun pins s σ H xs us Q I rv q => h pins s σ H xs us Q I rv (q (Inv.sz I))
theorem j_callA {e : Expr} {es : List Expr} {ml : ML} {ms : List Am} {pu : Bool} {r : List V → Hp → VK → Prop} {f : List D → Option D} (ha : JA X κ es ml ms κ1 pu) (hm : allRz ms = true) (at1 : AtCall X r f)
    (mk : ∀ {t : TA}, PA X es t → PE X e (tCB (fun vs H Q => SzOk H → r vs H Q) t)) {rz : Rz} : J X κ e (mB f ml) rz κ1 pu := by
  refine ⟨fun t ht => PE.imp (mk (ha.run t ht)) fun σ H Q z q => ?_, fun hp ρ d ρ' e => ?_⟩
  · obtain ⟨g, ρ, S, d, ρ', em, post⟩ := q z
    obtain ⟨ds, e1, e2⟩ := mB_some em
    exact fun _ => ⟨g, ρ, S, ds, ρ', e1, fun vs H' g' S' P' s' r' => fun hz => at1.ans H' ds d vs Q hz e2 (rows_repL hm r') (post _ H' g' S' P' s' (atom_rz (at1.atom _ _ e2)))⟩
  · obtain ⟨ds, e1, e2⟩ := mB_some e
    exact ha.pur hp _ _ _ e1
def fLen : List D → Option D
  | [.lst xs] => some (.int xs.length)
  | [.tup xs] => some (.int xs.length)
  | [.rol xs] => some (.int xs.length)
  | [.dic (.K _) xs] => some (.int xs.length)
  | [.str y] => if y.length ≤ 16777216 then some (.int y.length) else none
  | _ => none
def rLenD : List V → Hp → VK → Prop := fun xs H Q => ∃ (a : Addr) (kvs : List (Key × V)), xs = [V.ref a] ∧ Rd H a (.dK kvs) ∧ Q (.int kvs.length) H
theorem cr_lenD : CallR X (.builtin "len") rLenD := by
  intro pins s σ H xs us Q I rv q0
  obtain ⟨a, kvs, rfl, ha, q1⟩ := q0
  obtain ⟨u, rfl, hu1⟩ := vals1 rv
  cases hu1
  exact d_len I ha fun t s2 I2 => ⟨.int kvs.length, H, I2, ⟨t, rfl⟩, q1⟩
def rLenA (K : PySem.W.Frag) : List V → Hp → VK → Prop := fun xs H Q => (∃ x n, xs = [x] ∧ LenV K x H n ∧ Q (.int n) H) ∨ rLenD xs H Q
theorem cr_len : CallR X (.builtin "len") (rLenA X.K) := call_len.or cr_lenD
theorem at_len : AtCall X (rLenA X.K) fLen where
  ans := fun H ds z vs Q hz e r q => by
    unfold fLen at e
    split at e
    · cases e
      obtain ⟨v, w, rfl, ⟨a, us, rfl, ha, hl⟩, h2⟩ := r
      cases (show _ = _ from h2)
      exact .inl ⟨_, us.length, rfl, .inl ⟨us, SqL.of ha, rfl⟩, by rw [repL_len hl]; exact q⟩
    · cases e
      obtain ⟨v, w, rfl, ⟨a, us, rfl, ha, hl⟩, h2⟩ := r
      cases (show _ = _ from h2)
      exact .inl ⟨_, us.length, rfl, .inr ⟨us, ha.sq, rfl⟩, by rw [repL_len hl]; exact q⟩
    · cases e
      obtain ⟨v, w, rfl, ⟨a, rfl, ha⟩, h2⟩ := r
      cases (show _ = _ from h2)
      exact .inl ⟨_, _, rfl, .inl ⟨_, rol_sq ha, rfl⟩, by rw [List.length_map]; exact q⟩
    · cases e
      obtain ⟨v, w, rfl, ⟨a, us, rfl, ha, hq, hl⟩, h2⟩ := r
      cases (show _ = _ from h2)
      rename_i ks xs
      have hz : ks.length = xs.length := hq
      have h3 := repL_len hl
      refine .inr ⟨a, _, rfl, ha, ?_⟩
      rw [List.length_zip, h3, hz, Nat.min_self]
      exact q
    · split at e
      · cases e
        obtain ⟨v, w, rfl, h1, h2⟩ := r
        cases (show _ = _ from h2)
        cases (show _ = _ from h1)
        exact .inl ⟨_, _, rfl, ⟨by rw [sizeLine_eq]; assumption, rfl⟩, q⟩
      · cases e
    · cases e
  atom := fun ds z e => by
    unfold fLen at e
    split at e <;> first | (cases e; rfl) | (split at e <;> first | (cases e; rfl) | cases e) | cases e
def fI1 (f : Int → D) : List D → Option D
  | [.int i] => some (f i)
  | _ => none
theorem at_i1 {r : List V → Hp → VK → Prop} {f : Int → D} (ha : ∀ i, isA (f i) = true) (h : ∀ i H Q, Q (av (f i)) H → r [.int i] H Q) : AtCall X r (fI1 f) where
  ans := fun H ds z vs Q _ e rr q => by
    unfold fI1 at e
    split at e
    · cases e
      obtain ⟨v, w, rfl, h1, h2⟩ := rr
      cases (show _ = _ from h2)
      cases (show _ = _ from h1)
      exact h _ H Q q
    · cases e
  atom := fun ds z e => by
    unfold fI1 at e
    split at e
    · cases e; exact ha _
    · cases e
def fI2 (f : Int → Int → D) : List D → Option D
  | [.int i, .int j] => some (f i j)
  | _ => none
theorem at_i2 {r : List V → Hp → VK → Prop} {f : Int → Int → D} (ha : ∀ i j, isA (f i j) = true) (h : ∀ i j H Q, Q (av (f i j)) H → r [.int i, .int j] H Q) : AtCall X r (fI2 f) where
  ans := fun H ds z vs Q _ e rr q => by
    unfold fI2 at e
    split at e
    · cases e
      obtain ⟨v, w, rfl, h1, v2, w2, rfl, h2, h3⟩ := rr
      cases (show _ = _ from h3)
      cases (show _ = _ from h1)
      cases (show _ = _ from h2)
      exact h _ _ H Q q
    · cases e
  atom := fun ds z e => by
    unfold fI2 at e
    split at e
    · cases e; exact ha _ _
    · cases e
def fAbs := fI1 fun i => .int (if i < 0 then -i else i)
theorem at_abs : AtCall X (fun xs H Q => ∃ i, xs = [.int i] ∧ Q (.int (if i < 0 then -i else i)) H) fAbs := at_i1 (fun _ => rfl) fun i H Q q => ⟨i, rfl, q⟩
def fMax2 := fI2 fun i j => .int (if j > i then j else i)
theorem at_max2 : AtCall X (fun xs H Q => ∃ i j, xs = [.int i, .int j] ∧ Q (.int (if j > i then j else i)) H) fMax2 := at_i2 (fun _ _ => rfl) fun i j H Q q => ⟨i, j, rfl, q⟩
def fMin2 := fI2 fun i j => .int (if j < i then j else i)
theorem at_min2 : AtCall X (fun xs H Q => ∃ i j, xs = [.int i, .int j] ∧ Q (.int (if j < i then j else i)) H) fMin2 := at_i2 (fun _ _ => rfl) fun i j H Q q => ⟨i, j, rfl, q⟩
def fInt : List D → Option D
  | [.int i] => some (.int i)
  | [.bl b] => some (.int (if b then 1 else 0))
  | _ => none
theorem at_int : AtCall X (fun xs H Q => (∃ i, xs = [.int i] ∧ Q (.int i) H) ∨ ∃ k, xs = [.bl k] ∧ Q (.int (if k then 1 else 0)) H) fInt where
  ans := fun H ds z vs Q _ e rr q => by
    unfold fInt at e
    split at e
    · cases e
      obtain ⟨v, w, rfl, h1, h2⟩ := rr
      cases (show _ = _ from h2)
      cases (show _ = _ from h1)
      exact .inl ⟨_, rfl, q⟩
    · cases e
      obtain ⟨v, w, rfl, h1, h2⟩ := rr
      cases (show _ = _ from h2)
      cases (show _ = _ from h1)
      exact .inr ⟨_, rfl, q⟩
    · cases e
  atom := fun ds z e => by
    unfold fInt at e
    split at e <;> first | (cases e; rfl) | cases e
def blsOf : List D → Option (List Bool)
  | [] => some []
  | .bl i :: r => (blsOf r).map (i :: ·)
  | _ => none
theorem bls_rep {H : Hp} : ∀ {ds : List D} {ns : List Bool} {vs : List V}, blsOf ds = some ns → RepL K H ds vs → vs = ns.map V.bl
  | [], _, _, e, h => by cases e; exact h
  | d :: ds, ns, vs, e, h => by
    obtain ⟨v, w, rfl, h1, h2⟩ := h
    cases d with
    | bl i =>
      simp only [blsOf] at e
      cases e2 : blsOf ds with
      | none => rw [e2] at e; cases e
      | some ms =>
        rw [e2] at e
        cases e
        cases (show _ = _ from h1)
        rw [bls_rep e2 h2]
        rfl
    | _ => simp [blsOf] at e
def fAll : List D → Option D
  | [.lst xs] => (blsOf xs).map fun ns => .bl (ns.all id)
  | _ => none
def fAny : List D → Option D
  | [.lst xs] => (blsOf xs).map fun ns => .bl (ns.any id)
  | _ => none
theorem at_any : AtCall X (rAny X.K) fAny where
  ans := fun H ds z vs Q _ e rr q => by
    unfold fAny at e
    split at e
    · rename_i xs
      cases e2 : blsOf xs with
      | none => rw [e2] at e; cases e
      | some ns =>
        rw [e2] at e
        cases e
        obtain ⟨v, w, rfl, ⟨a, us, rfl, ha, hl⟩, h2⟩ := rr
        cases (show _ = _ from h2)
        exact ⟨a, ns, rfl, by rw [← bls_rep e2 hl]; exact SqL.of ha, q⟩
    · cases e
  atom := fun ds z e => by
    unfold fAny at e
    split at e
    · rename_i xs
      cases e2 : blsOf xs with
      | none => rw [e2] at e; cases e
      | some ns => rw [e2] at e; cases e; rfl
    · cases e
def dIxS : D → D → Option D
  | .lst xs, .int i => atI xs i
  | .tup xs, .int i => atI xs i
  | .rol ns, .int i => (atI ns i).map .int
  | .str z, .int i => if z.length ≤ 16777216 then (atI z.cps.toList i).map fun c => .str ⟨#[c]⟩ else none
  | _, _ => none
def dGetD (q : DKs) (xs : List D) (d : D) : Option D := ((q.at d).bind fun o => o).bind fun j => xs[j]?
def dIx : D → D → Option D
  | .dic q xs, d => dGetD q xs d
  | x, i => dIxS x i
theorem dGetD_some {q : DKs} {xs : List D} {d z : D} (h : dGetD q xs d = some z) : ∃ j, q.at d = some (some j) ∧ xs[j]? = some z := by
  unfold dGetD at h
  cases e : q.at d with
  | none => rw [e] at h; cases h
  | some o =>
    rw [e] at h
    cases o with
    | none => cases h
    | some j => exact ⟨j, rfl, h⟩
theorem PE.or {e : Expr} {t t' : TE} (h : PE X e t) (h' : PE X e t') : PE X e (fun σ H Q => t σ H Q ∨ t' σ H Q) :=
  ⟨fun pins s σ H Q I q => q.elim (h.run pins s σ H Q I) (h'.run pins s σ H Q I)⟩
theorem dic_get {H : Hp} {q : DKs} {xs : List D} {d z : D} {v u : V} (h : dGetD q xs d = some z) (rx : Rep K H (.dic q xs) v) (ry : Rep K H d u) : ∃ a w, v = .ref a ∧ DGet H a u (some w) ∧ Rep K H z w := by
  obtain ⟨j, e1, e2⟩ := dGetD_some h
  obtain ⟨a, vs, rfl, ha, hq, hl⟩ := rx
  obtain ⟨w, e3, r3⟩ := repL_get hl e2
  have := dGet_of ha (hq.trans (repL_len hl).symm) e1 ry
  rw [Option.bind_some, e3] at this
  exact ⟨a, w, rfl, this, r3⟩
structure RepOp (X : Cx) (r : R2) (f : D → D → Option D) : Prop where
  ans : ∀ (H : Hp) (x y z : D) (v u : V) (Q : VK), f x y = some z → Rep X.K H x v → Rep X.K H y u → (∀ w, Rep X.K H z w → Q w H) → r v u H Q
theorem atI_rep {H : Hp} {ds : List D} {vs : List V} {i : Int} {d : D} (h : RepL K H ds vs) (e : atI ds i = some d) : ∃ v, atI vs i = some v ∧ Rep K H d v := by
  unfold atI at *
  rw [repL_len h]
  cases q : ixN ds.length i with
  | none => rw [q] at e; cases e
  | some j =>
    rw [q] at e
    exact repL_get h e
theorem rop_ix : RepOp X (rIx X.K) dIxS where
  ans := fun H x y z v u Q e rx ry q => by
    unfold dIxS at e
    split at e
    · obtain ⟨a, vs, rfl, ha, hl⟩ := rx
      cases (show _ = _ from ry)
      obtain ⟨w, e1, e2⟩ := atI_rep hl e
      exact .inl ⟨a, vs, _, w, rfl, rfl, SqL.of ha, e1, q w e2⟩
    · obtain ⟨a, vs, rfl, ha, hl⟩ := rx
      cases (show _ = _ from ry)
      obtain ⟨w, e1, e2⟩ := atI_rep hl e
      exact .inr (.inl ⟨a, vs, _, w, rfl, rfl, ha.sq, e1, q w e2⟩)
    · rename_i ns i
      obtain ⟨a, rfl, ha⟩ := rx
      cases (show _ = _ from ry)
      cases e2 : atI ns i with
      | none => rw [e2] at e; cases e
      | some n =>
        rw [e2] at e
        cases e
        refine .inl ⟨a, _, _, .int n, rfl, rfl, rol_sq ha, ?_, q _ rfl⟩
        unfold atI at *
        rw [List.length_map]
        cases q : ixN ns.length i with
        | none => rw [q] at e2; cases e2
        | some j =>
          rw [q] at e2
          simp only [Option.bind_some] at e2 ⊢
          rw [List.getElem?_map, e2]
          rfl
    · split at e
      · rename_i z' i hz
        cases (show _ = _ from rx)
        cases (show _ = _ from ry)
        cases e2 : atI z'.cps.toList i with
        | none => rw [e2] at e; cases e
        | some n =>
          rw [e2] at e
          cases e
          exact .inr (.inr ⟨_, _, n, rfl, rfl, by rw [sizeLine_eq]; assumption, e2, q _ rfl⟩)
      · cases e
    · cases e
def isDic : D → Bool
  | .dic _ _ => true
  | _ => false
theorem dIx_not {x y : D} (h : isDic x = false) : dIx x y = dIxS x y := by
  cases x <;> first | rfl | cases h
theorem j_ix (hu : X.A.units + 100 < cLine) {a b : Expr} {ma mb : M} {ra rb : Rz} {pa pb : Bool} (ha : J X κ a ma ra κ1 pa) (hb : J X κ1 b mb rb κ2 pb) (ok : okk ra pb = true) (hs : PlainIx b) : J X κ (.Subscript a b pos) (m2 dIx ma mb) .rep κ2 (pa && pb) := by
  refine ⟨fun t ht => PE.imp (PE.or (pe_ix ix_seq (ha.run t ht) (hb.run (t + 1) (by omega)) hs) (pe_dget (by omega) (ha.run t ht) (hb.run (t + 1) (by omega)) hs)) fun σ H Q z q => ?_, fun hp ρ d ρ' h => ?_⟩
  · obtain ⟨g, ρ, S, d, ρ', em, post⟩ := q z
    obtain ⟨x, ρ1, y, ea, eb, ec⟩ := m2_some em
    by_cases hx : isDic x = true
    · refine .inr (two (K := X.K) (κ2 := κ2) ht ok S ea eb z fun v u H' g' S' P' s' r1 r2 => ?_)
      cases x with
      | dic q xs =>
        obtain ⟨a', w, rfl, h1, h2⟩ := dic_get ec r1.rep r2.rep
        exact ⟨a', w, rfl, h1, post w H' g' S' P' s' h2⟩
      | _ => cases hx
    · refine .inl (two (K := X.K) (κ2 := κ2) ht ok S ea eb z fun v u H' g' S' P' s' r1 r2 => ?_)
      rw [dIx_not (by simpa using hx)] at ec
      exact rop_ix.ans H' x y d v u Q ec r1.rep r2.rep fun w hw => post w H' g' S' P' s' hw
  · rw [Bool.and_eq_true] at hp
    obtain ⟨x, ρ1, y, ea, eb, ec⟩ := m2_some h
    rw [hb.pur hp.2 _ _ _ eb, ha.pur hp.1 _ _ _ ea]
def RepLen (q : DKs) (vs : List V) : Prop := q.len = vs.length
theorem zip_inj {α β : Type} : ∀ {ks : List α} {us vs : List β}, ks.length = us.length → ks.length = vs.length → ks.zip us = ks.zip vs → us = vs
  | [], [], [], _, _, _ => rfl
  | k :: ks, u :: us, v :: vs, h1, h2, h => by
    simp only [List.zip_cons_cons, List.cons.injEq, Prod.mk.injEq] at h
    rw [h.1.2, zip_inj (by simpa using h1) (by simpa using h2) h.2]
theorem dO_inj {q : DKs} {us vs : List V} (h1 : q.len = us.length) (h2 : q.len = vs.length) (h : dO q us = dO q vs) : us = vs := by
  cases q with
  | K ks => injection h with h; exact zip_inj h1 h2 h
  | T ks => injection h with h; exact zip_inj h1 h2 h
theorem rd_inj {H : Hp} {a : Addr} {q : DKs} {us vs : List V} (h1 : q.len = us.length) (h2 : q.len = vs.length) (r1 : Rd H a (dO q us)) (r2 : Rd H a (dO q vs)) : us = vs := by
  rcases r1 with r1 | ⟨o, r1⟩ <;> rcases r2 with r2 | ⟨o', r2⟩ <;> rw [r1] at r2
  · injection r2 with r2; exact dO_inj h1 h2 r2
  · injection r2 with r2; cases q <;> cases r2
  · injection r2 with r2; cases q <;> cases r2
  · injection r2 with r2; injection r2 with r3 r4; exact dO_inj h1 h2 r4
inductive Nav (H : Hp) (σ : L2.St) (ρ : DE) (i : Nat) : Nat → V → D → Prop where
  | here {v : V} {d : D} : σ[i]? = some (some v) → ρ[i]? = some (some d) → Nav H σ ρ i 0 v d
  | lst {n j : Nat} {a : Addr} {vs : List V} {ds : List D} {v : V} {d : D} : Nav H σ ρ i n (.ref a) (.lst ds) → H a = some (.lst vs) → vs[j]? = some v → ds[j]? = some d → Nav H σ ρ i (n + 1) v d
  | tup {n j : Nat} {a : Addr} {vs : List V} {ds : List D} {v : V} {d : D} : Nav H σ ρ i n (.ref a) (.tup ds) → H a = some (.tup vs) → vs[j]? = some v → ds[j]? = some d → Nav H σ ρ i (n + 1) v d
  | dic {n j : Nat} {a : Addr} {q : DKs} {vs : List V} {ds : List D} {v : V} {d : D} : Nav H σ ρ i n (.ref a) (.dic q ds) → Rd H a (dO q vs) → RepLen q vs → vs[j]? = some v → ds[j]? = some d → Nav H σ ρ i (n + 1) v d
theorem Nav.mono {H H' : Hp} {σ : L2.St} {ρ : DE} {i n : Nat} {v : V} {d : D} (h : Nav H σ ρ i n v d) (s : Same H H') : Nav H' σ ρ i n v d := by
  induction h with
  | here h1 h2 => exact .here h1 h2
  | lst h1 h2 h3 h4 ih => exact .lst ih (s _ _ h2) h3 h4
  | tup h1 h2 h3 h4 ih => exact .tup ih (s _ _ h2) h3 h4
  | dic h1 h2 h5 h3 h4 ih => exact .dic ih (h2.imp (s _ _) fun ⟨o, z⟩ => ⟨o, s _ _ z⟩) h5 h3 h4
def subk (k n : Nat) : Nat := if 99 ≤ k then k else k - n
theorem lv_sub (k n : Nat) : lv (subk k n) = subk k (n + 1) := by
  unfold lv subk
  by_cases h : 99 ≤ k
  · simp [h]
  · have : ¬ 99 ≤ k - n := by omega
    simp only [h, if_false, this]
    omega
theorem Nav.own {H : Hp} {g : G} {κ : OE} {σ : L2.St} {ρ : DE} {i n k : Nat} {v : V} {d : D} (h : Nav H σ ρ i n v d) (S : Sok K κ ρ g σ H) (hk : κ[i]? = some (some k)) : ∃ p, p.length = n ∧ Own K H g d (subk k n) i p v := by
  induction h with
  | here h1 h2 =>
    obtain ⟨v', e1, o⟩ := S.ok i k _ hk h2
    rw [h1] at e1
    cases e1
    refine ⟨[], rfl, ?_⟩
    have : subk k 0 = k := by unfold subk; split <;> rfl
    rw [this]
    exact o
  | lst h1 h2 h3 h4 ih =>
    obtain ⟨p, e, a, vs, e1, e2, e3, o⟩ := ih
    cases e1
    rw [h2] at e2
    cases e2
    obtain ⟨v', e4, o'⟩ := ownL_get o h4
    rw [h3] at e4
    cases e4
    exact ⟨_, (congrArg (· + 1) e : _), by rw [← lv_sub]; exact o'⟩
  | tup h1 h2 h3 h4 ih =>
    obtain ⟨p, e, a, vs, e1, e2, o⟩ := ih
    cases e1
    have e2 := e2.ne (fun z => by
      subst z
      obtain ⟨v', e4, _⟩ := ownL_get o h4
      cases e4)
    rw [h2] at e2
    cases e2
    obtain ⟨v', e4, o'⟩ := ownL_get o h4
    rw [h3] at e4
    cases e4
    exact ⟨_, (congrArg (· + 1) e : _), by rw [← lv_sub]; exact o'⟩
  | dic h1 h2 h5 h3 h4 ih =>
    obtain ⟨p, e, a2, vs, e1, e2, e6, e3, o⟩ := ih
    cases e1
    have e7 : Rd H _ (dO _ vs) := e2.elim .inl fun z => .inr z.2
    cases rd_inj (e6.trans (repL_len (ownL_repL _ o)).symm) h5 e7 h2
    obtain ⟨v', e4, o'⟩ := ownL_get o h4
    rw [h3] at e4
    cases e4
    exact ⟨_, (congrArg (· + 1) e : _), by rw [← lv_sub]; exact o'⟩
structure JP (X : Cx) (κ : OE) (e : Expr) (m : M) (κ' : OE) (i n : Nat) : Prop where
  run : ∀ t, X.N.length ≤ t → PE X e (fun σ H Q => En X.N.length σ H → ∃ g ρ, Sok X.K κ ρ g σ H ∧ ∃ d ρ', m ρ = some (d, ρ') ∧
    ∀ v H' g', Sok X.K κ' ρ' g' σ H' → Pres X.N.length t g H g' H' → Same H H' → Nav H' σ ρ' i n v d → Q v H')
  pur : ∀ ρ d ρ', m ρ = some (d, ρ') → ρ' = ρ
theorem jp_var {i k : Nat} {e : Expr} (h : PE X e (tVar i)) (hk : κ[i]? = some (some k)) : JP X κ e (mV i) κ i 0 := by
  refine ⟨fun t ht => PE.imp h fun σ H Q z q => ?_, fun ρ d' ρ' e => (mV_some e).2⟩
  obtain ⟨g, ρ, S, d', ρ', em, post⟩ := q z
  obtain ⟨e1, rfl⟩ := mV_some em
  obtain ⟨v, es, o⟩ := S.ok i k d' hk e1
  exact ⟨v, es, post v H g S Pres.refl (Same.refl H) (.here es e1)⟩
theorem atI_at {α β : Type} {xs : List α} {ys : List β} {i : Int} {x : α} {y : β} (hl : xs.length = ys.length) (h1 : atI xs i = some x) (h2 : atI ys i = some y) : ∃ j : Nat, xs[j]? = some x ∧ ys[j]? = some y := by
  unfold atI at *
  rw [hl] at h1
  cases q : ixN ys.length i with
  | none => rw [q] at h1; cases h1
  | some j => rw [q] at h1 h2; exact ⟨j, h1, h2⟩
def dIxP : D → D → Option D
  | .lst xs, .int i => atI xs i
  | .tup xs, .int i => atI xs i
  | .dic q xs, d => dGetD q xs d
  | _, _ => none
theorem dic_getP {H : Hp} {q : DKs} {xs : List D} {d z : D} {v u : V} (h : dGetD q xs d = some z) (rx : Rep K H (.dic q xs) v) (ry : Rep K H d u) : ∃ (a : Addr) (w : V) (vs : List V) (j : Nat), v = .ref a ∧ DGet H a u (some w) ∧ Rd H a (dO q vs) ∧ RepLen q vs ∧ vs[j]? = some w ∧ xs[j]? = some z := by
  obtain ⟨j, e1, e2⟩ := dGetD_some h
  obtain ⟨a, vs, rfl, ha, hq, hl⟩ := rx
  obtain ⟨w, e3, r3⟩ := repL_get hl e2
  have := dGet_of ha (hq.trans (repL_len hl).symm) e1 ry
  rw [Option.bind_some, e3] at this
  exact ⟨a, w, vs, j, rfl, this, ha, hq.trans (repL_len hl).symm, e3, e2⟩
theorem jp_ix (hu : X.A.units + 100 < cLine) {a b : Expr} {ma mb : M} {rb : Rz} {i n k : Nat} (ha : JP X κ a ma κ1 i n) (hb : J X κ1 b mb rb κ2 true) (hs : PlainIx b) (hk : κ2[i]? = some (some k)) : JP X κ (.Subscript a b pos) (m2 dIxP ma mb) κ2 i (n + 1) := by
  refine ⟨fun t ht => PE.imp (PE.or (pe_ix ix_seq (ha.run t ht) (hb.run (t + 1) (by omega)) hs) (pe_dget (by omega) (ha.run t ht) (hb.run (t + 1) (by omega)) hs)) fun σ H Q z q => ?_, fun ρ d ρ' h => ?_⟩
  · obtain ⟨g, ρ, S, d, ρ', em, post⟩ := q z
    obtain ⟨x, ρ1, y, ea, eb, ec⟩ := m2_some em
    by_cases hx : isDic x = true
    · refine .inr fun _ => ⟨g, ρ, S, x, ρ1, ea, fun v H1 g1 S1 P1 s1 n1 => fun _ => ⟨g1, ρ1, S1, y, ρ', eb, fun u H2 g2 S2 P2 s2 r2 => ?_⟩⟩
      have e2 := hb.pur rfl _ _ _ eb
      subst e2
      have n2 := n1.mono (s2 rfl)
      obtain ⟨p, _, o⟩ := n2.own S2 hk
      cases x with
      | dic q xs =>
        obtain ⟨a', w, vs, j, rfl, h1, h2, h3, h4, h5⟩ := dic_getP ec (own_rep _ o) r2.rep
        exact ⟨a', w, rfl, h1, post w H2 g2 S2 (P1.trans (P2.less (Nat.le_succ t))) (s1.trans (s2 rfl)) (.dic n2 h2 h3 h4 h5)⟩
      | _ => cases hx
    refine .inl fun _ => ⟨g, ρ, S, x, ρ1, ea, fun v H1 g1 S1 P1 s1 n1 => fun _ => ⟨g1, ρ1, S1, y, ρ', eb, fun u H2 g2 S2 P2 s2 r2 => ?_⟩⟩
    have e2 := hb.pur rfl _ _ _ eb
    subst e2
    have n2 := n1.mono (s2 rfl)
    obtain ⟨p, _, o⟩ := n2.own S2 hk
    have fin : ∀ w, Nav H2 σ ρ' i (n + 1) w d → Q w H2 := fun w hw => post w H2 g2 S2 (P1.trans (P2.less (Nat.le_succ t))) (s1.trans (s2 rfl)) hw
    have hr := own_rep x o
    unfold dIxP at ec
    split at ec
    · obtain ⟨a, vs, rfl, ha, hl⟩ := hr
      cases (show _ = _ from r2.rep)
      obtain ⟨w, e1, e2⟩ := atI_rep hl ec
      obtain ⟨j, h1, h2⟩ := atI_at (repL_len hl) e1 ec
      exact .inl ⟨a, vs, _, w, rfl, rfl, SqL.of ha, e1, fin w (.lst n2 ha h1 h2)⟩
    · obtain ⟨a, vs, rfl, ha, hl⟩ := hr
      cases (show _ = _ from r2.rep)
      obtain ⟨w, e1, e2⟩ := atI_rep hl ec
      obtain ⟨j, h1, h2⟩ := atI_at (repL_len hl) e1 ec
      exact .inr (.inl ⟨a, vs, _, w, rfl, rfl, ha.sq, e1, fin w (.tup n2 (ha.ne fun z => by rw [z] at h1; cases h1) h1 h2)⟩)
    · exact (hx rfl).elim
    · cases ec
  · obtain ⟨x, ρ1, y, ea, eb, ec⟩ := m2_some h
    rw [hb.pur rfl _ _ _ eb, ha.pur _ _ _ ea]
theorem jp_frz {e : Expr} {m : M} {i n k : Nat} (h : JP X κ e m κ1 i n) (hk : κ1[i]? = some (some k)) (h99 : n < 99) (hn : κ1.length = X.N.length) : J X κ e m (.own 0) (κ1.set i (some (min k n))) true := by
  refine ⟨fun t ht => PE.imp (h.run t ht) fun σ H Q z q => ?_, fun _ => h.pur⟩
  obtain ⟨g, ρ, S, d, ρ', em, post⟩ := q z
  refine fun _ => ⟨g, ρ, S, d, ρ', em, fun v H' g' S' P' s' nv => ?_⟩
  have hl := leO_set0 hk (Nat.min_le_left k n)
  have S2 := S'.weaken hl
  obtain ⟨p, e1, o⟩ := nv.own S2 (k := min k n) (by rw [List.getElem?_set_self (List.getElem?_eq_some_iff.mp hk).1])
  have e0 : subk (min k n) n = 0 := by
    unfold subk
    rw [if_neg (by omega)]
    omega
  rw [e0] at o
  exact post v H' _ S2 (P'.trans (Pres.weaken (by simpa using hn))) (fun _ => s') ((Pres.refl (n := 0) (t := 0)).own0 o)
def tyn : D → String
  | .non => "NoneType"
  | .bl _ => "bool"
  | .int _ => "int"
  | .str _ => "str"
  | .tup _ => "tuple"
  | .lst _ => "list"
  | .rol _ => "list"
  | .dic _ _ => "list"
  | .nd _ _ => "list"
  | .obj _ => "list"
  | .gon => "list"
  | .ins _ _ => "list"
def isTn (c t : String) : Bool := t == c || (c == "int" && t == "bool")
def isT (c : String) (d : D) : Option Bool := match d with
  | .tup [] => none
  | .rol _ => none
  | .dic _ _ => none
  | .nd _ _ => none
  | .obj _ => none
  | .gon => none
  | .ins _ _ => none
  | d => some (isTn c (tyn d))
def mIsT (c : String) (m : M) : M := fun ρ => (m ρ).bind fun x => (isT c x.1).map fun b => (.bl b, x.2)
end VS
namespace VS
open PySem PySem.Spec PyProof.Rows L2
variable {K : PySem.W.Frag} {X : Cx} {κ κ1 κ2 κ3 : OE} {pos : Pos}
inductive Out where
  | nx (ρ : DE) | rt (d : D) (ρ : DE)
abbrev SM := DE → Option Out
structure RC where
  r : Nat
  κr : OE
def Fx (rc : RC) (s0 σ : List (Option V)) : Prop := ∀ (i k : Nat), rc.κr[i]? = some (some k) → σ[i]? = s0[i]?
def jEnd (K : PySem.W.Frag) (n t : Nat) (κn : OE) (rc : RC) (s0 : L2.St) (g : G) (H : Hp) (Dd : Ends) : Out → Prop
  | .nx ρ' => ∀ σ' H' g', Sok K κn ρ' g' σ' H' → Pres n t g H g' H' → Fx rc s0 σ' → Dd.nx σ' H'
  | .rt d ρ' => ∀ v σ' H' g' rr, n ≤ rr → Sok K rc.κr ρ' g' σ' H' → Pres n t g H g' H' → Fx rc s0 σ' → Own K H' g' d rc.r rr [] v → Dd.rt v H'
def jTS (K : PySem.W.Frag) (n : Nat) (κ : OE) (m : SM) (κn : OE) (rc : RC) (s0 : L2.St) (t : Nat) : TS := fun Dd σ H => En n σ H →
  ∃ g ρ, Sok K κ ρ g σ H ∧ Fx rc s0 σ ∧ ∃ o, m ρ = some o ∧ jEnd K n t κn rc s0 g H Dd o
structure JS (X : Cx) (κ : OE) (st : Stmt) (m : SM) (κn : OE) (rc : RC) : Prop where
  run : ∀ s0 t, X.N.length ≤ t → PS X st (jTS X.K X.N.length κ m κn rc s0 t)
structure JB (X : Cx) (κ : OE) (sts : List Stmt) (m : SM) (κn : OE) (rc : RC) : Prop where
  run : ∀ s0 t, X.N.length ≤ t → PSs X sts (jTS X.K X.N.length κ m κn rc s0 t)
theorem PS.imp {st : Stmt} {t t' : TS} (h : PS X st t) (f : ∀ σ H D, En X.N.length σ H → t' D σ H → t D σ H) : PS X st t' :=
  ⟨fun pins s σ H D I q => h.run pins s σ H D I (f σ H D ⟨Inv.sz I, I.len⟩ q)⟩
theorem PSs.imp {st : List Stmt} {t t' : TS} (h : PSs X st t) (f : ∀ σ H D, En X.N.length σ H → t' D σ H → t D σ H) : PSs X st t' :=
  ⟨fun pins s σ H D I q => h.run pins s σ H D I (f σ H D ⟨Inv.sz I, I.len⟩ q)⟩
variable {rc : RC}
theorem jEnd.pre {n t : Nat} {κn : OE} {s0 : L2.St} {g g1 : G} {H H1 : Hp} {Dd : Ends} {o : Out} (P : Pres n t g H g1 H1) (h : jEnd K n t κn rc s0 g H Dd o) : jEnd K n t κn rc s0 g1 H1 Dd o := by
  cases o with
  | nx ρ' => exact fun σ' H' g' S' P' F' => h σ' H' g' S' (P.trans P') F'
  | rt d ρ' => exact fun v σ' H' g' rr hr S' P' F' => h v σ' H' g' rr hr S' (P.trans P') F'
theorem JS.weak {st : Stmt} {m : SM} {κn κn' : OE} (h : JS X κ1 st m κn rc) (h1 : leO κ1 κ = true) (h2 : leO κn' κn = true) (hn : κ1.length = X.N.length) (hn' : κn'.length = X.N.length) : JS X κ st m κn' rc := by
  refine ⟨fun s0 t ht => PS.imp (h.run s0 t ht) fun σ H D z q en => ?_⟩
  obtain ⟨g, ρ, S, fx, o, em, post⟩ := q en
  refine ⟨wk κ1 g, ρ, S.weaken h1, fx, o, em, ?_⟩
  have := post.pre (Pres.weaken (H := H) (t := t) hn)
  cases o with
  | nx ρ' => exact fun σ' H' g' S' P' F' => this σ' H' _ (S'.weaken h2) (P'.trans (Pres.weaken hn')) F'
  | rt d ρ' => exact this
theorem JB.weak {st : List Stmt} {m : SM} {κn κn' : OE} (h : JB X κ1 st m κn rc) (h1 : leO κ1 κ = true) (h2 : leO κn' κn = true) (hn : κ1.length = X.N.length) (hn' : κn'.length = X.N.length) : JB X κ st m κn' rc := by
  refine ⟨fun s0 t ht => PSs.imp (h.run s0 t ht) fun σ H D z q en => ?_⟩
  obtain ⟨g, ρ, S, fx, o, em, post⟩ := q en
  refine ⟨wk κ1 g, ρ, S.weaken h1, fx, o, em, ?_⟩
  have := post.pre (Pres.weaken (H := H) (t := t) hn)
  cases o with
  | nx ρ' => exact fun σ' H' g' S' P' F' => this σ' H' _ (S'.weaken h2) (P'.trans (Pres.weaken hn')) F'
  | rt d ρ' => exact this
def sNil : SM := fun ρ => some (.nx ρ)
def sSeq (a b : SM) : SM := fun ρ => match a ρ with
  | some (.nx ρ1) => b ρ1
  | x => x
theorem sSeq_some {a b : SM} {ρ : DE} {o : Out} (h : sSeq a b ρ = some o) : (∃ ρ1, a ρ = some (.nx ρ1) ∧ b ρ1 = some o) ∨ (∃ d ρ1, a ρ = some (.rt d ρ1) ∧ o = .rt d ρ1) := by
  unfold sSeq at h
  split at h
  · exact .inl ⟨_, by assumption, h⟩
  · cases o with
    | nx ρ' => rename_i hh; exact (hh _ h).elim
    | rt d ρ' => exact .inr ⟨d, ρ', h, rfl⟩
theorem jb_nil : JB X κ [] sNil κ rc := by
  refine ⟨fun s0 t ht => PSs.imp pss_nil fun σ H D z q => ?_⟩
  obtain ⟨g, ρ, S, fx, o, em, post⟩ := q z
  cases em
  exact post σ H g S Pres.refl fx
theorem jb_one {st : Stmt} {m : SM} (h : JS X κ st m κ1 rc) : JB X κ [st] m κ1 rc := ⟨fun s0 t ht => pss_one (h.run s0 t ht)⟩
theorem jb_cons {st : Stmt} {rest : List Stmt} {a b : SM} (ha : JS X κ st a κ1 rc) (hb : JB X κ1 rest b κ2 rc) : JB X κ (st :: rest) (sSeq a b) κ2 rc := by
  refine ⟨fun s0 t ht => PSs.imp (pss_cons (ha.run s0 t ht) (hb.run s0 t ht)) fun σ H D z q en => ?_⟩
  obtain ⟨g, ρ, S, fx, o, em, post⟩ := q z
  rcases sSeq_some em with ⟨ρ1, e1, e2⟩ | ⟨d, ρ1, e1, rfl⟩
  · exact ⟨g, ρ, S, fx, _, e1, fun σ' H' g' S' P' F' en' => ⟨g', ρ1, S', F', o, e2, post.pre P'⟩⟩
  · exact ⟨g, ρ, S, fx, _, e1, post⟩
def mvG (t i : Nat) (s : List Nat) (dr : Nat → List Nat → Bool) (g : G) : G := fun a => match g a with
  | .ow r q => if r = t then .ow i (q ++ s) else if dr r q = true then .un else .ow r q
  | z => z
section
variable {t i : Nat} {s : List Nat} {dr : Nat → List Nat → Bool} {g : G} {a : Addr}
theorem mvG_fz (h : g a = .fz) : mvG t i s dr g a = .fz := by unfold mvG; rw [h]
theorem mvG_un (h : g a = .un) : mvG t i s dr g a = .un := by unfold mvG; rw [h]
theorem mvG_t {q : List Nat} (h : g a = .ow t q) : mvG t i s dr g a = .ow i (q ++ s) := by unfold mvG; rw [h]; simp
theorem mvG_o {r : Nat} {q : List Nat} (hr : r ≠ t) (hd : dr r q = false) (h : g a = .ow r q) : mvG t i s dr g a = .ow r q := by unfold mvG; rw [h]; simp [hr, hd]
theorem mvG_ne (h : mvG t i s dr g a ≠ .un) : g a ≠ .un := fun z => h (mvG_un z)
theorem mvG_inv {r : Nat} {q : List Nat} (hr : r ≠ i) (h : mvG t i s dr g a = .ow r q) : g a = .ow r q := by
  unfold mvG at h
  split at h
  · rename_i r' q' e
    split at h
    · cases h; exact (hr rfl).elim
    · split at h
      · cases h
      · cases h; exact e
  · exact h
end
theorem Pres.mv {n t i : Nat} {s : List Nat} {dr : Nat → List Nat → Bool} {g : G} {H H' : Hp} (hi : i < n) (hd : ∀ r q, n ≤ r → dr r q = false) (ht : ∀ r, r ≠ t → n ≤ r → True)
    (keep : ∀ a, (∀ q, g a ≠ .ow i q) → H a ≠ none → H' a = H a) (gok : ∀ a, g a ≠ .un → H a ≠ none) (st : ∀ a o, H a = some o → stb o = true → H' a = some o) : Pres n t g H (mvG t i s dr g) H' where
  fz := fun a h => ⟨mvG_fz h, keep a (fun q e => by rw [h] at e; cases e) (gok a (by rw [h]; simp))⟩
  un := fun a h hn => ⟨mvG_un h, keep a (fun q e => by rw [h] at e; cases e) hn⟩
  tp := fun a r p h1 h2 h => ⟨mvG_o (by omega) (hd r p h1) h, keep a (fun q e => by rw [h] at e; cases e; omega) (gok a (by rw [h]; simp))⟩
  tm := fun a r p h1 h2 h => mvG_inv (by omega) h
  tu := st
theorem set_some {α : Type} {l : List α} {i : Nat} {x : α} {j : Nat} {y : α} (h : (l.set i x)[j]? = some y) : (j = i ∧ y = x ∧ i < l.length) ∨ (j ≠ i ∧ l[j]? = some y) := by
  rw [List.getElem?_set] at h
  by_cases e : i = j
  · subst e
    split at h
    · split at h
      · cases h; exact .inl ⟨rfl, rfl, by assumption⟩
      · cases h
    · rename_i hh; exact (hh rfl).elim
  · rw [if_neg e] at h
    exact .inr ⟨fun z => e z.symm, h⟩
theorem Sok.store {ρ : DE} {g : G} {σ : L2.St} {H : Hp} {t i k : Nat} {d : D} {v : V} (S : Sok K κ ρ g σ H) (ht : σ.length ≤ t) (hi : i < σ.length) (o : Own K H g d k t [] v) :
    Sok K (κ.set i (some k)) (ρ.set i (some d)) (mvG t i [] (fun r _ => decide (r = i)) g) (σ.set i (some v)) H where
  ok := fun j k' d' h1 h2 => by
    rcases set_some h1 with ⟨rfl, e, _⟩ | ⟨hj, h1⟩
    · cases e
      rcases set_some h2 with ⟨_, e, _⟩ | ⟨hh, _⟩
      · cases e
        refine ⟨v, List.getElem?_set_self hi, own_conv (fun _ _ z _ => z) d (.inr fun a z => ⟨mvG_fz z, rfl⟩) (fun a q z hh => ⟨rfl, ?_⟩) (fun _ z => z) o⟩
        rw [if_pos hh, mvG_t z]
        simp
      · exact (hh rfl).elim
    · rcases set_some h2 with ⟨e, _, _⟩ | ⟨_, h2⟩
      · exact (hj e).elim
      · obtain ⟨v', es, o'⟩ := S.ok j k' d' h1 h2
        have hjt : j < t := by
          have := (List.getElem?_eq_some_iff.mp es).1
          omega
        refine ⟨v', by rw [List.getElem?_set_ne (Ne.symm hj)]; exact es, own_conv (fun _ _ z _ => z) d' (.inr fun a z => ⟨mvG_fz z, rfl⟩) (fun a q z hh => ⟨rfl, ?_⟩) (fun _ z => z) o'⟩
        rw [if_pos hh]
        exact mvG_o (by omega) (by simpa using hj) z
  gok := fun a h => S.gok a (mvG_ne h)
  len := by simp [S.len]
  lek := by simp [S.lek]
theorem Pres.store {n t i : Nat} {g : G} {H : Hp} (hi : i < n) (gok : ∀ a, g a ≠ .un → H a ≠ none) : Pres n t g H (mvG t i [] (fun r _ => decide (r = i)) g) H :=
  Pres.mv hi (fun r q h => by simp; omega) (fun _ _ _ => trivial) (fun _ _ _ => rfl) gok fun _ _ h _ => h
def sAsg (i : Nat) (m : M) : SM := fun ρ => (m ρ).map fun x => .nx (x.2.set i (some x.1))
theorem sAsg_some {i : Nat} {m : M} {ρ : DE} {o : Out} (h : sAsg i m ρ = some o) : ∃ d ρ1, m ρ = some (d, ρ1) ∧ o = .nx (ρ1.set i (some d)) := by
  unfold sAsg at h
  cases e : m ρ with
  | none => rw [e] at h; cases h
  | some p => rw [e] at h; cases h; exact ⟨p.1, p.2, rfl, rfl⟩
def notFx (rc : RC) (i : Nat) : Bool := match rc.κr[i]? with
  | some (some _) => false
  | _ => true
theorem Fx.set {s0 σ : L2.St} {i : Nat} {x : Option V} (h : Fx rc s0 σ) (hi : notFx rc i = true) : Fx rc s0 (σ.set i x) := fun j k e => by
  have hj : i ≠ j := by
    rintro rfl
    unfold notFx at hi
    rw [e] at hi
    cases hi
  rw [List.getElem?_set_ne hj]
  exact h j k e
theorem js_asgG {st : Stmt} {e : Expr} {m : M} {k i : Nat} {pu : Bool} (h : J X κ e m (.own k) κ1 pu) (mk : ∀ {te : TE}, PE X e te → PS X st (tAsg te (gName i))) (hi : i < X.N.length) (hf : notFx rc i = true) : JS X κ st (sAsg i m) (κ1.set i (some k)) rc := by
  refine ⟨fun s0 t ht => PS.imp (mk (h.run t ht)) fun σ H D z q en => ?_⟩
  obtain ⟨g, ρ, S, fx, o, em, post⟩ := q z
  obtain ⟨d, ρ1, e1, rfl⟩ := sAsg_some em
  refine ⟨g, ρ, S, d, ρ1, e1, fun v H' g' S' P' s' r' => ?_⟩
  have hl : σ.length = X.N.length := en.2
  exact post _ H' _ (S'.store (by omega) (by omega) r') (P'.trans (Pres.store hi S'.gok)) (fx.set hf)
theorem js_set {i : Nat} {x : Str} {e : Expr} {pos' : Pos} {m : M} {k : Nat} {pu : Bool} (h : J X κ e m (.own k) κ1 pu) (hN : X.N.Nodup) (hi : X.N[i]? = some x) (hx : Loc X.env.scope x) (hs : swapsWith e (some (.Name x pos')) pos.line X.env = pure false)
    (hf : X.fn x = true ∨ X.env.scope.names.lookup x = some .local) (hfx : notFx rc i = true) : JS X κ (.Assign [.Name x pos'] e pos) (sAsg i m) (κ1.set i (some k)) rc :=
  js_asgG h (fun he => ps_set hN hi hx he hs hf) (List.getElem?_eq_some_iff.mp hi).1 hfx
def sExp (m : M) : SM := fun ρ => (m ρ).map fun x => .nx x.2
theorem sExp_some {m : M} {ρ : DE} {o : Out} (h : sExp m ρ = some o) : ∃ d ρ1, m ρ = some (d, ρ1) ∧ o = .nx ρ1 := by
  unfold sExp at h
  cases e : m ρ with
  | none => rw [e] at h; cases h
  | some p => rw [e] at h; cases h; exact ⟨p.1, p.2, rfl, rfl⟩
theorem js_exp {e : Expr} {m : M} {rz : Rz} {pu : Bool} (h : J X κ e m rz κ1 pu) (hs : swapsWith e none pos.line X.env = pure false) : JS X κ (.Expr e pos) (sExp m) κ1 rc := by
  refine ⟨fun s0 t ht => PS.imp (ps_expr (h.run t ht) hs) fun σ H D z q en => ?_⟩
  obtain ⟨g, ρ, S, fx, o, em, post⟩ := q z
  obtain ⟨d, ρ1, e1, rfl⟩ := sExp_some em
  exact ⟨g, ρ, S, d, ρ1, e1, fun v H' g' S' P' s' r' => post _ H' _ S' P' fx⟩
def sRet (m : M) : SM := fun ρ => (m ρ).map fun x => .rt x.1 x.2
theorem sRet_some {m : M} {ρ : DE} {o : Out} (h : sRet m ρ = some o) : ∃ d ρ1, m ρ = some (d, ρ1) ∧ o = .rt d ρ1 := by
  unfold sRet at h
  cases e : m ρ with
  | none => rw [e] at h; cases h
  | some p => rw [e] at h; cases h; exact ⟨p.1, p.2, rfl, rfl⟩
theorem js_ret {e : Expr} {m : M} {pu : Bool} {κn : OE} (h : J X κ e m (.own rc.r) κ1 pu) (hl : leO rc.κr κ1 = true) (hn : rc.κr.length = X.N.length) : JS X κ (.Return (some e) pos) (sRet m) κn rc := by
  refine ⟨fun s0 t ht => PS.imp (ps_ret ((h.weak hl hn).run t ht)) fun σ H D z q en => ?_⟩
  obtain ⟨g, ρ, S, fx, o, em, post⟩ := q z
  obtain ⟨d, ρ1, e1, rfl⟩ := sRet_some em
  exact ⟨g, ρ, S, d, ρ1, e1, fun v H' g' S' P' s' r' => post v σ H' g' t ht S' P' fx r'⟩
def sRetN : SM := fun ρ => some (.rt .non ρ)
def sIf (c : M) (a b : SM) : SM := fun ρ => match c ρ with
  | some (.bl true, ρ1) => a ρ1
  | some (.bl false, ρ1) => b ρ1
  | _ => none
theorem sIf_some {c : M} {a b : SM} {ρ : DE} {o : Out} (h : sIf c a b ρ = some o) : ∃ k ρ1, c ρ = some (.bl k, ρ1) ∧ ((k = true ∧ a ρ1 = some o) ∨ (k = false ∧ b ρ1 = some o)) := by
  unfold sIf at h
  split at h
  · exact ⟨true, _, by assumption, .inl ⟨rfl, h⟩⟩
  · exact ⟨false, _, by assumption, .inr ⟨rfl, h⟩⟩
  · cases h
theorem js_if {c : Expr} {a b : List Stmt} {mc : M} {ma mb : SM} {pc : Bool} (hc : JT X κ c mc κ1 pc) (ha : JB X κ1 a ma κ2 rc) (hb : JB X κ1 b mb κ2 rc) : JS X κ (.If c a b pos) (sIf mc ma mb) κ2 rc := by
  refine ⟨fun s0 t ht => PS.imp (ps_if (hc.run t ht) (ha.run s0 t ht) (hb.run s0 t ht)) fun σ H D z q => ?_⟩
  obtain ⟨g, ρ, S, fx, o, em, post⟩ := q z
  obtain ⟨k, ρ1, e1, e2⟩ := sIf_some em
  refine fun _ => ⟨g, ρ, S, k, ρ1, e1, fun H1 g1 S1 P1 s1 => ?_⟩
  rcases e2 with ⟨rfl, e2⟩ | ⟨rfl, e2⟩
  · exact iteT fun _ => ⟨g1, ρ1, S1, fx, o, e2, post.pre P1⟩
  · exact iteF fun _ => ⟨g1, ρ1, S1, fx, o, e2, post.pre P1⟩
def itW (mc : M) (mb : SM) : Nat → SM
  | 0, _ => none
  | n + 1, ρ => match mc ρ with
    | some (.bl true, ρ1) => (match mb ρ1 with
      | some (.nx ρ2) => itW mc mb n ρ2
      | x => x)
    | some (.bl false, ρ1) => some (.nx ρ1)
    | _ => none
def sWhile (mc : M) (mb : SM) : SM := itW mc mb 100000
end VS
namespace VS
open PySem PySem.Spec PyProof.Rows L2
variable {K : PySem.W.Frag} {X : Cx} {κ κ1 κ2 κ3 : OE} {pos : Pos} {rc : RC}
abbrev Src := G → Hp → Prop
structure Dlv (K : PySem.W.Frag) (J0 : It) (src : Src) (ds : List D) : Prop where
  go : ∀ i g H, src g H → i < ds.length → J0.go i H
  stop : ∀ i g H, src g H → ds.length ≤ i → J0.stop i H
  yld : ∀ i g H x H' d, src g H → (∀ a, g a ≠ .un → H a ≠ none) → J0.yld i H x H' → ds[i]? = some d → Same H H' ∧ Own K H' g d 0 0 [] x
  keep : ∀ g H g' H', src g H → (∀ a, g a = .fz → g' a = .fz ∧ H' a = H a) → (∀ a o, H a = some o → stb o = true → H' a = some o) → src g' H'
theorem own_fz {H H' : Hp} {g g' : G} {d : D} {r r' : Nat} {p p' : List Nat} {v : V} (hf : ∀ a, g a = .fz → g' a = .fz ∧ H' a = H a) (ht : ∀ a o, H a = some o → stb o = true → H' a = some o) (o : Own K H g d 0 r p v) : Own K H' g' d 0 r' p' v :=
  own_conv ht d (.inr hf) (fun a q e hh => by simp [has] at hh) (fun _ z => z) o
theorem ownL_fz {H H' : Hp} {g g' : G} {r r' : Nat} {p p' : List Nat} (hf : ∀ a, g a = .fz → g' a = .fz ∧ H' a = H a) (ht : ∀ a o, H a = some o → stb o = true → H' a = some o) : ∀ {ds : List D} {i j : Nat} {vs : List V},
    OwnL K H g ds 0 r p i vs → OwnL K H' g' ds 0 r' p' j vs
  | [], _, _, _, h => h
  | d :: ds, _, _, _, h => by
    obtain ⟨v, w, e, h1, h2⟩ := h
    exact ⟨v, w, e, own_fz hf ht h1, ownL_fz hf ht h2⟩
def FzL (K : PySem.W.Frag) (a : Addr) (ds : List D) : Src := fun g H => ∃ vs, H a = some (.lst vs) ∧ g a = .fz ∧ OwnL K H g ds 0 0 [] 0 vs
def FzT (K : PySem.W.Frag) (a : Addr) (ds : List D) : Src := fun g H => ∃ vs, Tp K H a vs ∧ OwnL K H g ds 0 0 [] 0 vs
theorem FzL.keep {a : Addr} {ds : List D} {g g' : G} {H H' : Hp} (h : FzL K a ds g H) (hf : ∀ a, g a = .fz → g' a = .fz ∧ H' a = H a) (ht : ∀ a o, H a = some o → stb o = true → H' a = some o) : FzL K a ds g' H' := by
  obtain ⟨vs, h1, h2, h3⟩ := h
  exact ⟨vs, by rw [(hf a h2).2]; exact h1, (hf a h2).1, ownL_fz hf ht h3⟩
theorem FzT.keep {a : Addr} {ds : List D} {g g' : G} {H H' : Hp} (h : FzT K a ds g H) (hf : ∀ a, g a = .fz → g' a = .fz ∧ H' a = H a) (ht : ∀ a o, H a = some o → stb o = true → H' a = some o) : FzT K a ds g' H' := by
  obtain ⟨vs, h1, h3⟩ := h
  exact ⟨vs, h1.keep (fun z => ht _ _ z rfl), ownL_fz hf ht h3⟩
theorem ownL_len {H : Hp} {g : G} {k r : Nat} {p : List Nat} {i : Nat} {ds : List D} {vs : List V} (h : OwnL K H g ds k r p i vs) : vs.length = ds.length := repL_len (ownL_repL ds h)
theorem ownL_at {H : Hp} {g : G} {ds : List D} {vs : List V} (h : OwnL K H g ds 0 0 [] 0 vs) {i : Nat} {d : D} {v : V} (e : ds[i]? = some d) (ev : vs[i]? = some v) : Own K H g d 0 0 [] v := by
  obtain ⟨v', e', o⟩ := ownL_get h e
  rw [ev] at e'
  cases e'
  exact own_fz (fun a z => ⟨z, rfl⟩) (fun _ _ z _ => z) o
theorem ex_at {α : Type} {xs : List α} {i : Nat} (h : i < xs.length) : ∃ x, xs[i]? = some x := ⟨xs[i], List.getElem?_eq_getElem h⟩
theorem dlv_list {a : Addr} {ds : List D} : Dlv K (Itl K a) (FzL K a ds) ds where
  go := fun i g H ⟨vs, h1, _, h3⟩ hi => by
    obtain ⟨x, e⟩ := ex_at (xs := vs) (by rw [ownL_len h3]; exact hi)
    exact ⟨vs, x, SqL.of h1, e⟩
  stop := fun i g H ⟨vs, h1, _, h3⟩ hi => ⟨vs, SqL.of h1, by rw [ownL_len h3]; exact hi⟩
  yld := fun i g H x H' d ⟨vs, h1, _, h3⟩ gok y e => by
    obtain ⟨rfl, y⟩ := y
    exact ⟨Same.refl _, ownL_at h3 e (y vs (SqL.of h1))⟩
  keep := fun g H g' H' h => h.keep
theorem dlv_tup {a : Addr} {ds : List D} : Dlv K (Itt K a) (FzT K a ds) ds where
  go := fun i g H ⟨vs, h1, h3⟩ hi => by
    obtain ⟨x, e⟩ := ex_at (xs := vs) (by rw [ownL_len h3]; exact hi)
    exact ⟨vs, x, h1.sq, e⟩
  stop := fun i g H ⟨vs, h1, h3⟩ hi => ⟨vs, h1.sq, by rw [ownL_len h3]; exact hi⟩
  yld := fun i g H x H' d ⟨vs, h1, h3⟩ gok y e => by
    obtain ⟨rfl, y⟩ := y
    exact ⟨Same.refl _, ownL_at h3 e (y vs h1.sq)⟩
  keep := fun g H g' H' h => h.keep
def rngD (lo : Int) (n : Nat) : List D := (List.range n).map fun i => .int (lo + (i : Nat))
theorem dlv_range {lo : Int} {n : Nat} : Dlv K (Itr lo n) (fun _ _ => True) (rngD lo n) where
  go := fun i g H _ hi => by
    rw [show (rngD lo n).length = n by simp [rngD]] at hi
    exact hi
  stop := fun i g H _ hi => by
    rw [show (rngD lo n).length = n by simp [rngD]] at hi
    exact hi
  yld := fun i g H x H' d _ gok y e => by
    obtain ⟨rfl, rfl⟩ := y
    unfold rngD at e
    rw [List.getElem?_map] at e
    cases q : (List.range n)[i]? with
    | none => rw [q] at e; cases e
    | some j =>
      rw [q] at e
      cases e
      have : j = i := by
        rw [List.getElem?_eq_some_iff] at q
        obtain ⟨h, e⟩ := q
        simpa using e.symm
      subst this
      exact ⟨Same.refl _, rfl⟩
  keep := fun _ _ _ _ _ _ _ => trivial
def enumD (ds : List D) : List D := (List.range ds.length).zipWith (fun i d => .tup [.int (i : Nat), d]) ds
theorem enumD_get {ds : List D} {i : Nat} {d : D} (e : (enumD ds)[i]? = some d) : ∃ x, ds[i]? = some x ∧ d = .tup [.int (i : Nat), x] := by
  unfold enumD at e
  rw [List.getElem?_zipWith] at e
  cases q : (List.range ds.length)[i]? with
  | none => rw [q] at e; simp at e
  | some j =>
    rw [q] at e
    cases q2 : ds[i]? with
    | none => rw [q2] at e; simp at e
    | some x =>
      rw [q2] at e
      simp only [Option.some.injEq] at e
      have : j = i := by
        rw [List.getElem?_eq_some_iff] at q
        obtain ⟨h, e⟩ := q
        simpa using e.symm
      subst this
      exact ⟨x, rfl, e.symm⟩
theorem enumD_len (ds : List D) : (enumD ds).length = ds.length := by simp [enumD]
theorem own_new {H : Hp} {g : G} {d : D} {r r' : Nat} {p p' : List Nat} {v : V} {T : Addr} {o : HO} (gok : ∀ a, g a ≠ .un → H a ≠ none) (nT : H T = none) (h : Own K H g d 0 r p v) : Own K (upd H T o) g d 0 r' p' v :=
  own_fz (fun a e => ⟨e, upd_ne (fun z => gok a (by rw [e]; simp) (z ▸ nT))⟩) (fun a u e _ => by rw [upd_ne (ne_of_none e nT)]; exact e) h
theorem dlv_enum {a : Addr} {ds : List D} : Dlv K (Ite K a) (FzL K a ds) (enumD ds) where
  go := fun i g H ⟨vs, h1, _, h3⟩ hi => by
    obtain ⟨x, e⟩ := ex_at (xs := vs) (i := i) (by rw [ownL_len h3, ← enumD_len]; exact hi)
    exact ⟨vs, x, SqL.of h1, e⟩
  stop := fun i g H ⟨vs, h1, _, h3⟩ hi => ⟨vs, SqL.of h1, by rw [ownL_len h3, ← enumD_len]; exact hi⟩
  yld := fun i g H x H' d ⟨vs, h1, _, h3⟩ gok y e => by
    obtain ⟨T, w, rfl, nT, rfl, y⟩ := y
    obtain ⟨z, e1, rfl⟩ := enumD_get e
    have s := same_new (o := .tup [.int (i : Nat), w]) nT
    exact ⟨s, T, _, rfl, .inl upd_same, .int i, [w], rfl, rfl, w, [], rfl, own_new gok nT (ownL_at h3 e1 (y vs (SqL.of h1))), rfl⟩
  keep := fun g H g' H' h => h.keep
def zipD (ds es : List D) : List D := ds.zipWith (fun x y => .tup [x, y]) es
structure JI (X : Cx) (κ : OE) (tg iter : Expr) (m : ML) (κ' : OE) (pu : Bool) : Prop where
  run : ∀ t, X.N.length ≤ t → PI X tg iter (fun σ H R => En X.N.length σ H → ∃ g ρ, Sok X.K κ ρ g σ H ∧ ∃ ds ρ', m ρ = some (ds, ρ') ∧
    ∀ J0 src H' g', Sok X.K κ' ρ' g' σ H' → Pres X.N.length t g H g' H' → (pu = true → Same H H') → Dlv X.K J0 src ds → src g' H' → R J0 H')
  pur : pu = true → ∀ ρ ds ρ', m ρ = some (ds, ρ') → ρ' = ρ
theorem PI.imp {tg iter : Expr} {w w' : TI} (h : PI X tg iter w) (f : ∀ σ H R, En X.N.length σ H → w' σ H R → w σ H R) : PI X tg iter w' :=
  ⟨fun pins s σ H R I q => h.run pins s σ H R I (f σ H R ⟨Inv.sz I, I.len⟩ q)⟩
def iSeq (K : PySem.W.Frag) (tl : TE) : TI := fun σ H R => tl σ H fun x H1 => ∃ a, x = .ref a ∧ (((∃ xs, SqL K H1 a xs) ∧ R (Itl K a) H1) ∨ ((∃ xs, SqT K H1 a xs) ∧ R (Itt K a) H1))
theorem pi_seq {tg l : Expr} {tl : TE} (hl : PE X l tl) : PI X tg l (iSeq X.K tl) := ⟨fun pins s σ H R I h => thn (hl.run pins s σ H _ I h) fun v s1 q1 => by
  obtain ⟨x, H1, I1, r1, a, rfl, q⟩ := q1
  cases r1
  have nw : ∀ b ∈ [s1.heap.objs.size], FpOk X pins H1 b := fun b hb => by
    rw [List.mem_singleton.mp hb]
    exact I1.fpOk (Nat.le_refl _) (I1.hok.fresh (Nat.le_refl _))
  rcases q with ⟨⟨xs, hq⟩, q⟩ | ⟨⟨xs, hq⟩, q⟩
  · obtain ⟨us, _, pl, _⟩ := I1.list hq
    exact wpAny_pyIter_list pl.isList ⟨_, _, _, _, H1, rfl, I1.kept (t' := s1.toks) fun _ _ z => Heap.get?_push_of_some _ z, turn_list a _, ⟨_, Heap.get?_push_size _ rfl, rfl, rfl⟩, nw, q⟩
  · obtain ⟨us, _, pl, _⟩ := I1.tuple hq
    exact wpAny_pyIter_tuple (show s1.heap.IsTuple a us.toArray from pl) ⟨_, _, _, _, H1, rfl, I1.kept (t' := s1.toks) fun _ _ z => Heap.get?_push_of_some _ z, turn_tuple a _, ⟨_, Heap.get?_push_size _ rfl, rfl, rfl⟩, nw, q⟩⟩
def seqOf : D → Option (List D)
  | .lst xs => some xs
  | .tup xs => some xs
  | _ => none
def mSeq (m : M) : ML := fun ρ => (m ρ).bind fun x => (seqOf x.1).map fun ds => (ds, x.2)
theorem mSeq_some' {m : M} {ρ ρ' : DE} {ds : List D} (h : mSeq m ρ = some (ds, ρ')) : ∃ x, m ρ = some (x, ρ') ∧ (x = .lst ds ∨ x = .tup ds) := by
  unfold mSeq at h
  cases e : m ρ with
  | none => rw [e] at h; cases h
  | some p =>
    rw [e] at h
    simp only [Option.bind_some] at h
    cases e2 : seqOf p.1 with
    | none => rw [e2] at h; cases h
    | some b =>
      rw [e2] at h
      cases h
      refine ⟨p.1, rfl, ?_⟩
      unfold seqOf at e2
      split at e2
      · cases e2; left; assumption
      · cases e2; right; assumption
      · cases e2
theorem own_src {H : Hp} {g : G} {x : D} {ds : List D} {v : V} {r : Nat} {p : List Nat} (o : Own K H g x 0 r p v) (e : x = .lst ds ∨ x = .tup ds) : ∃ a, v = .ref a ∧ ((x = .lst ds ∧ FzL K a ds g H) ∨ (x = .tup ds ∧ FzT K a ds g H)) := by
  have o' : Own K H g x 0 0 [] v := own_fz (fun a z => ⟨z, rfl⟩) (fun _ _ z _ => z) o
  rcases e with rfl | rfl
  · obtain ⟨a, vs, rfl, ha, hg, hl⟩ := o'
    exact ⟨a, rfl, .inl ⟨rfl, vs, ha, hg, hl⟩⟩
  · obtain ⟨a, vs, rfl, ha, hl⟩ := o'
    exact ⟨a, rfl, .inr ⟨rfl, vs, ha, hl⟩⟩
theorem ji_seq {tg l : Expr} {m : M} {pu : Bool} (h : J X κ l m (.own 0) κ1 pu) : JI X κ tg l (mSeq m) κ1 pu := by
  refine ⟨fun t ht => PI.imp (pi_seq (h.run t ht)) fun σ H R z q => ?_, fun hp ρ d ρ' e => by
    obtain ⟨x, e1, _⟩ := mSeq_some' e
    exact h.pur hp _ _ _ e1⟩
  obtain ⟨g, ρ, S, ds, ρ', em, post⟩ := q z
  obtain ⟨x, e1, e2⟩ := mSeq_some' em
  refine fun _ => ⟨g, ρ, S, x, ρ', e1, fun v H' g' S' P' s' r' => ?_⟩
  obtain ⟨a, rfl, hx⟩ := own_src r' e2
  refine ⟨a, rfl, ?_⟩
  rcases hx with ⟨_, f⟩ | ⟨_, f⟩
  · obtain ⟨vs, h1, h2, h3⟩ := id f
    exact .inl ⟨⟨vs, SqL.of h1⟩, post _ _ H' g' S' P' s' dlv_list f⟩
  · obtain ⟨vs, h1, h3⟩ := id f
    exact .inr ⟨⟨vs, h1.sq⟩, post _ _ H' g' S' P' s' dlv_tup f⟩
def lim62 (i : Int) : Bool := decide (i.natAbs < 4611686018427387904)
theorem lim62_ok {i : Int} (h : lim62 i = true) : -(2 ^ 62) ≤ i ∧ i < 2 ^ 62 := by
  unfold lim62 at h
  simp only [decide_eq_true_eq] at h
  omega
theorem lim62_of {i : Int} (h1 : -4000000000000000000 < i) (h2 : i < 4000000000000000000) : lim62 i = true := by
  unfold lim62
  rw [decide_eq_true_eq]
  omega
def mRng1 (ml : ML) : ML := fun ρ => (ml ρ).bind fun x => match x.1 with
  | [.int j] => if lim62 j = true then some (rngD 0 j.toNat, x.2) else none
  | _ => none
def mRng2 (ml : ML) : ML := fun ρ => (ml ρ).bind fun x => match x.1 with
  | [.int i, .int j] => if lim62 i = true ∧ lim62 j = true then some (rngD i (j - i).toNat, x.2) else none
  | _ => none
theorem mRng1_some {ml : ML} {ρ ρ' : DE} {ds : List D} (h : mRng1 ml ρ = some (ds, ρ')) : ∃ j, ml ρ = some ([.int j], ρ') ∧ lim62 j = true ∧ ds = rngD 0 j.toNat := by
  unfold mRng1 at h
  cases e : ml ρ with
  | none => rw [e] at h; cases h
  | some p =>
    rw [e] at h
    simp only [Option.bind_some] at h
    split at h
    · rename_i j ej
      split at h
      · cases h; exact ⟨j, by rw [← ej], by assumption, rfl⟩
      · cases h
    · cases h
theorem mRng2_some {ml : ML} {ρ ρ' : DE} {ds : List D} (h : mRng2 ml ρ = some (ds, ρ')) : ∃ i j, ml ρ = some ([.int i, .int j], ρ') ∧ lim62 i = true ∧ lim62 j = true ∧ ds = rngD i (j - i).toNat := by
  unfold mRng2 at h
  cases e : ml ρ with
  | none => rw [e] at h; cases h
  | some p =>
    rw [e] at h
    simp only [Option.bind_some] at h
    split at h
    · rename_i i j ej
      split at h
      · rename_i hh
        cases h; exact ⟨i, j, by rw [← ej], hh.1, hh.2, rfl⟩
      · cases h
    · cases h
theorem ji_range1 {tg a : Expr} {p : Pos} {ml : ML} {ms : List Am} {pu : Bool} (h : JA X κ [a] ml ms κ1 pu) (hm : allRz ms = true) (hg : Gl X "range") (hmg : X.mg "range" = none) (hs : starEach [a] X.env = [(false, eval a X.env)]) :
    JI X κ tg (.Call (.Name "range" p) [a] [] pos) (mRng1 ml) κ1 pu := by
  refine ⟨fun t ht => PI.imp (pi_range1 hg hmg (h.run t ht) hs) fun σ H R z q => ?_, fun hp ρ d ρ' e => by
    obtain ⟨_, e1, _⟩ := mRng1_some e
    exact h.pur hp _ _ _ e1⟩
  obtain ⟨g, ρ, S, ds, ρ', em, post⟩ := q z
  obtain ⟨j, e1, hj, rfl⟩ := mRng1_some em
  refine fun _ => ⟨g, ρ, S, _, ρ', e1, fun vs H' g' S' P' s' r' => ?_⟩
  obtain ⟨v, w, rfl, h1, h2⟩ := rows_repL hm r'
  cases (show _ = _ from h1)
  cases (show _ = _ from h2)
  exact ⟨j, rfl, (lim62_ok hj).1, (lim62_ok hj).2, post _ _ H' g' S' P' s' dlv_range trivial⟩
theorem ji_range2 {tg a b : Expr} {p : Pos} {ml : ML} {ms : List Am} {pu : Bool} (h : JA X κ [a, b] ml ms κ1 pu) (hm : allRz ms = true) (hg : Gl X "range") (hmg : X.mg "range" = none) (hs : starEach [a, b] X.env = [(false, eval a X.env), (false, eval b X.env)])
    (hs2 : starEach [b] X.env = [(false, eval b X.env)]) : JI X κ tg (.Call (.Name "range" p) [a, b] [] pos) (mRng2 ml) κ1 pu := by
  refine ⟨fun t ht => PI.imp (pi_range2 hg hmg (h.run t ht) hs hs2) fun σ H R z q => ?_, fun hp ρ d ρ' e => by
    obtain ⟨_, _, e1, _⟩ := mRng2_some e
    exact h.pur hp _ _ _ e1⟩
  obtain ⟨g, ρ, S, ds, ρ', em, post⟩ := q z
  obtain ⟨i, j, e1, hi, hj, rfl⟩ := mRng2_some em
  refine fun _ => ⟨g, ρ, S, _, ρ', e1, fun vs H' g' S' P' s' r' => ?_⟩
  obtain ⟨v, w, rfl, h1, v2, w2, rfl, h2, h3⟩ := rows_repL hm r'
  cases (show _ = _ from h1)
  cases (show _ = _ from h2)
  cases (show _ = _ from h3)
  exact ⟨i, j, rfl, ⟨(lim62_ok hi).1, (lim62_ok hi).2, (lim62_ok hj).1, (lim62_ok hj).2⟩, post _ _ H' g' S' P' s' dlv_range trivial⟩
def mEnum (ml : ML) : ML := fun ρ => (ml ρ).bind fun x => match x.1 with
  | [.lst ds] => some (enumD ds, x.2)
  | _ => none
theorem mEnum_some {ml : ML} {ρ ρ' : DE} {ds : List D} (h : mEnum ml ρ = some (ds, ρ')) : ∃ es, ml ρ = some ([.lst es], ρ') ∧ ds = enumD es := by
  unfold mEnum at h
  cases e : ml ρ with
  | none => rw [e] at h; cases h
  | some p =>
    rw [e] at h
    simp only [Option.bind_some] at h
    split at h
    · rename_i es ej
      cases h; exact ⟨es, by rw [← ej], rfl⟩
    · cases h
def mZip (ml : ML) : ML := fun ρ => (ml ρ).bind fun x => match x.1 with
  | [.lst ds, .lst es] => some (zipD ds es, x.2)
  | [.tup ds, .tup es] => some (zipD ds es, x.2)
  | _ => none
theorem ji_enum {e : Expr} {p tpos : Pos} {elts : List Expr} {kk : Nat} {ml : ML} {pu : Bool} (h : JA X κ [e] ml [.rz (.own 0)] κ1 pu) (hg : Gl X "enumerate") (hmg : X.mg "enumerate" = none) (hs : starEach [e] X.env = [(false, eval e X.env)]) :
    JI X κ (.Tuple elts kk tpos) (.Call (.Name "enumerate" p) [e] [] pos) (mEnum ml) κ1 pu := by
  refine ⟨fun t ht => PI.imp (pi_enum hg hmg (h.run t ht) hs) fun σ H R z q => ?_, fun hp ρ d ρ' e => by
    obtain ⟨_, e1, _⟩ := mEnum_some e
    exact h.pur hp _ _ _ e1⟩
  obtain ⟨g, ρ, S, ds, ρ', em, post⟩ := q z
  obtain ⟨es, e1, rfl⟩ := mEnum_some em
  refine fun _ => ⟨g, ρ, S, _, ρ', e1, fun vs H' g' S' P' s' r' => ?_⟩
  obtain ⟨d, ds', v, vs', e2, rfl, h1, h2⟩ := r'
  cases e2
  obtain ⟨_, rfl⟩ := h2
  obtain ⟨a, rfl, hx⟩ := own_src h1 (.inl rfl)
  rcases hx with ⟨_, f⟩ | ⟨e3, _⟩
  · obtain ⟨us, k1, k2, k3⟩ := id f
    exact ⟨a, us, rfl, SqL.of k1, post _ _ H' g' S' P' s' dlv_enum f⟩
  · cases e3
end VS
namespace VS
open PySem PySem.Spec PyProof.Rows L2
variable {K : PySem.W.Frag} {X : Cx} {κ κ1 κ2 κ3 : OE} {pos : Pos} {rc : RC}
abbrev MG := D → DE → Option DE
def gPost (K : PySem.W.Frag) (n t : Nat) (κ' : OE) (ts : List Nat) (g : G) (σ : L2.St) (H : Hp) (ρ' : DE) (Q : L2.St → Hp → Prop) : Prop :=
  ∀ σ' g', Sok K κ' ρ' g' σ' H → Pres n t g H g' H → (∀ j : Nat, j ∉ ts → σ'[j]? = σ[j]?) → Q σ' H
def jTG (K : PySem.W.Frag) (n : Nat) (κ : OE) (m : MG) (κ' : OE) (ts : List Nat) (t : Nat) : TG := fun v σ H Q => σ.length = n → ∃ g ρ d, Sok K κ ρ g σ H ∧ Own K H g d 0 0 [] v ∧ ∃ ρ', m d ρ = some ρ' ∧ gPost K n t κ' ts g σ H ρ' Q
structure JG (X : Cx) (κ : OE) (tg : Expr) (m : MG) (κ' : OE) (ts : List Nat) : Prop where
  run : ∀ t, X.N.length ≤ t → PG X tg (jTG X.K X.N.length κ m κ' ts t)
  out : ∀ d ρ ρ', m d ρ = some ρ' → ρ'.length = ρ.length ∧ ∀ j : Nat, j ∉ ts → ρ'[j]? = ρ[j]?
structure JGs (X : Cx) (κ : OE) (tg : List Expr) (m : List D → DE → Option DE) (κ' : OE) (ts : List Nat) : Prop where
  run : ∀ t, X.N.length ≤ t → PGs X tg (fun vs σ H Q => σ.length = X.N.length → ∃ g ρ ds i, Sok X.K κ ρ g σ H ∧ OwnL X.K H g ds 0 0 [] i vs ∧ ∃ ρ', m ds ρ = some ρ' ∧ gPost X.K X.N.length t κ' ts g σ H ρ' Q)
  out : ∀ d ρ ρ', m d ρ = some ρ' → ρ'.length = ρ.length ∧ ∀ j : Nat, j ∉ ts → ρ'[j]? = ρ[j]?
theorem PG.imp {tg : Expr} {w w' : TG} (h : PG X tg w) (f : ∀ v σ H Q, σ.length = X.N.length → w' v σ H Q → w v σ H Q) : PG X tg w' :=
  ⟨fun pins s σ H v u Q I r q => h.run pins s σ H v u Q I r (f v σ H Q I.len q)⟩
theorem PGs.imp {tg : List Expr} {w w' : TGs} (h : PGs X tg w) (f : ∀ v σ H Q, σ.length = X.N.length → w' v σ H Q → w v σ H Q) : PGs X tg w' :=
  ⟨fun pins s σ H v u Q I r q => h.run pins s σ H v u Q I r (f v σ H Q I.len q)⟩
def gNm (i : Nat) : MG := fun d ρ => some (ρ.set i (some d))
theorem jg_name {i : Nat} {x : Str} (hN : X.N.Nodup) (hi : X.N[i]? = some x) (hx : Loc X.env.scope x) (hf : X.fn x = true ∨ X.env.scope.names.lookup x = some .local) : JG X κ (.Name x pos) (gNm i) (κ.set i (some 0)) [i] := by
  refine ⟨fun t ht => PG.imp (pg_name hN hi hx hf) fun v σ H Q hl q => ?_, fun d ρ ρ' e => by
    cases e
    exact ⟨by simp, fun j hj => by rw [List.getElem?_set_ne (by simpa using fun e => hj (by simp [e]))]⟩⟩
  obtain ⟨g, ρ, d, S, o, ρ', em, post⟩ := q hl
  cases em
  have hi' : i < X.N.length := (List.getElem?_eq_some_iff.mp hi).1
  refine post _ _ (S.store (t := t) (by omega) (by omega) (own_fz (fun a z => ⟨z, rfl⟩) (fun _ _ z _ => z) o)) (Pres.store hi' S.gok) fun j hj => ?_
  rw [List.getElem?_set_ne (by simpa using fun e => hj (by simp [e]))]
def gsNil : List D → DE → Option DE := fun ds ρ => match ds with
  | [] => some ρ
  | _ => none
def gsCons (m : MG) (ms : List D → DE → Option DE) : List D → DE → Option DE := fun ds ρ => match ds with
  | d :: r => (m d ρ).bind fun ρ1 => ms r ρ1
  | [] => none
theorem jgs_nil : JGs X κ [] gsNil κ [] := by
  refine ⟨fun t ht => PGs.imp pgs_nil fun v σ H Q hl q => ?_, fun ds ρ ρ' e => by
    cases ds with
    | nil => cases e; exact ⟨rfl, fun _ _ => rfl⟩
    | cons _ _ => cases e⟩
  obtain ⟨g, ρ, ds, i, S, o, ρ', em, post⟩ := q hl
  cases ds with
  | nil =>
    cases em
    exact ⟨o, post σ g S Pres.refl fun _ _ => rfl⟩
  | cons _ _ => cases em
theorem jgs_cons {e : Expr} {es : List Expr} {m : MG} {ms : List D → DE → Option DE} {ts1 ts2 : List Nat} (h1 : JG X κ e m κ1 ts1) (h2 : JGs X κ1 es ms κ2 ts2)
    (mk : ∀ {t : TG} {u : TGs}, PG X e t → PGs X es u → PGs X (e :: es) (gCons t u)) : JGs X κ (e :: es) (gsCons m ms) κ2 (ts1 ++ ts2) := by
  refine ⟨fun t ht => PGs.imp (mk (h1.run t ht) (h2.run t ht)) fun vs σ H Q hl q => ?_, fun ds ρ ρ' e => by
    cases ds with
    | nil => cases e
    | cons d r =>
      have e' : (m d ρ).bind (fun ρ1 => ms r ρ1) = some ρ' := e
      cases e1 : m d ρ with
      | none => rw [e1] at e'; cases e'
      | some ρ1 =>
        rw [e1] at e'
        obtain ⟨l1, o1⟩ := h1.out _ _ _ e1
        obtain ⟨l2, o2⟩ := h2.out _ _ _ e'
        exact ⟨l2.trans l1, fun j hj => by
          simp only [List.mem_append, not_or] at hj
          rw [o2 j hj.2, o1 j hj.1]⟩⟩
  obtain ⟨g, ρ, ds, i, S, o, ρ', em, post⟩ := q hl
  cases ds with
  | nil => cases em
  | cons d r =>
    obtain ⟨v, w, rfl, o1, o2⟩ := o
    have em' : (m d ρ).bind (fun ρ1 => ms r ρ1) = some ρ' := em
    cases e1 : m d ρ with
    | none => rw [e1] at em'; cases em'
    | some ρ1 =>
      rw [e1] at em'
      refine ⟨v, w, rfl, fun _ => ⟨g, ρ, d, S, own_fz (fun a z => ⟨z, rfl⟩) (fun _ _ z _ => z) o1, ρ1, e1, fun σ1 g1 S1 P1 f1 => ?_⟩⟩
      refine fun _ => ⟨g1, ρ1, r, i + 1, S1, ownL_fz P1.fz P1.tu o2, ρ', em', fun σ2 g2 S2 P2 f2 => post σ2 g2 S2 (P1.trans P2) fun j hj => ?_⟩
      simp only [List.mem_append, not_or] at hj
      rw [f2 j hj.2, f1 j hj.1]
def gTp (ms : List D → DE → Option DE) : MG := fun d ρ => match d with
  | .tup ds => ms ds ρ
  | _ => none
theorem jg_tup {es : List Expr} {k n : Nat} {ms : List D → DE → Option DE} {ts : List Nat} (hc : X.calm = true) (h : JGs X κ es ms κ1 ts)
    (hn : (assignEach es X.env).length = n) (hst : (assignEach es X.env).findIdx? (·.1) = none) (hlen : ∀ ds ρ ρ', ms ds ρ = some ρ' → ds.length = n) : JG X κ (.Tuple es k pos) (gTp ms) κ1 ts := by
  refine ⟨fun t ht => PG.imp (pg_tup hc (h.run t ht) hn hst) fun v σ H Q hl q => ?_, fun d ρ ρ' e => by
    unfold gTp at e
    split at e
    · exact h.out _ _ _ e
    · cases e⟩
  obtain ⟨g, ρ, d, S, o, ρ', em, post⟩ := q hl
  unfold gTp at em
  split at em
  · obtain ⟨a, vs, rfl, ha, ol⟩ := o
    exact ⟨a, vs, rfl, ha.sq, by rw [ownL_len ol]; exact hlen _ _ _ em, fun _ => ⟨g, ρ, _, 0, S, ol, ρ', em, post⟩⟩
  · cases em
theorem gs_len0 (ds : List D) (ρ ρ' : DE) (h : gsNil ds ρ = some ρ') : ds.length = 0 := by
  cases ds with
  | nil => rfl
  | cons _ _ => cases h
theorem gs_lenS {m : MG} {ms : List D → DE → Option DE} {n : Nat} (h : ∀ ds ρ ρ', ms ds ρ = some ρ' → ds.length = n) (ds : List D) (ρ ρ' : DE) (e : gsCons m ms ds ρ = some ρ') : ds.length = n + 1 := by
  cases ds with
  | nil => cases e
  | cons d r =>
    have e' : (m d ρ).bind (fun ρ1 => ms r ρ1) = some ρ' := e
    cases e1 : m d ρ with
    | none => rw [e1] at e'; cases e'
    | some ρ1 =>
      rw [e1] at e'
      simp [h _ _ _ e']
def itF (mg : MG) (mb : SM) : List D → SM
  | [], ρ => some (.nx ρ)
  | d :: ds, ρ => (mg d ρ).bind fun ρ1 => match mb ρ1 with
    | some (.nx ρ2) => itF mg mb ds ρ2
    | x => x
def sFor (ml : ML) (mg : MG) (mb : SM) : SM := fun ρ => (ml ρ).bind fun x => itF mg mb x.1 x.2
theorem sFor_some {ml : ML} {mg : MG} {mb : SM} {ρ : DE} {o : Out} (h : sFor ml mg mb ρ = some o) : ∃ ds ρ1, ml ρ = some (ds, ρ1) ∧ itF mg mb ds ρ1 = some o := by
  unfold sFor at h
  cases e : ml ρ with
  | none => rw [e] at h; cases h
  | some p => rw [e] at h; exact ⟨p.1, p.2, rfl, h⟩
def notFxs (rc : RC) (ts : List Nat) : Bool := ts.all (notFx rc)
theorem Fx.sets {s0 σ σ' : L2.St} {ts : List Nat} (h : Fx rc s0 σ) (hi : notFxs rc ts = true) (e : ∀ j : Nat, j ∉ ts → σ'[j]? = σ[j]?) : Fx rc s0 σ' := fun j k ej => by
  have hj : j ∉ ts := fun hm => by
    have := List.all_eq_true.mp hi j hm
    unfold notFx at this
    rw [ej] at this
    cases this
  rw [e j hj]
  exact h j k ej
theorem drop_cons {α : Type} {xs : List α} {i : Nat} {x : α} (h : xs[i]? = some x) : xs.drop i = x :: xs.drop (i + 1) := by
  obtain ⟨hi, e⟩ := List.getElem?_eq_some_iff.mp h
  rw [List.drop_eq_getElem_cons hi, e]
abbrev jTI (K : PySem.W.Frag) (n : Nat) (κ : OE) (m : ML) (κ' : OE) (pu : Bool) (t : Nat) : TI := fun σ H R => En n σ H → ∃ g ρ, Sok K κ ρ g σ H ∧ ∃ ds ρ', m ρ = some (ds, ρ') ∧
    ∀ J0 src H' g', Sok K κ' ρ' g' σ H' → Pres n t g H g' H' → (pu = true → Same H H') → Dlv K J0 src ds → src g' H' → R J0 H'
theorem for_read {ml : ML} {mg : MG} {mb : SM} {ts : List Nat} {n t : Nat} {s0 : L2.St} {pu : Bool}
    (hf : notFxs rc ts = true) {σ : L2.St} {H : Hp} {D : Ends} (z : En n σ H) (q : jTS K n κ (sFor ml mg mb) κ1 rc s0 t D σ H) : tFor (jTI K n κ ml κ1 pu t) (jTG K n κ1 mg κ2 ts t) (jTS K n κ2 mb κ1 rc s0 t) D σ H := by
  obtain ⟨g, ρ, S, fx, o, em, post⟩ := q z
  obtain ⟨ds, ρ1, e1, e2⟩ := sFor_some em
  refine fun _ => ⟨g, ρ, S, ds, ρ1, e1, fun J0 src H1 g1 S1 P1 _ dl s1 => ?_⟩
  refine ⟨fun i m σ' H' => m = ds.length - i ∧ i ≤ ds.length ∧ ∃ g' ρ', Sok K κ1 ρ' g' σ' H' ∧ Fx rc s0 σ' ∧ src g' H' ∧ itF mg mb (ds.drop i) ρ' = some o ∧ Pres n t g H g' H', ⟨ds.length, by omega, Nat.zero_le _, g1, ρ1, S1, fx, s1, e2, P1⟩, ?_⟩
  rintro i m σ2 H2 ⟨rfl, hle, g2, ρ2, S2, fx2, s2, e3, P2⟩
  have post2 := post.pre P2
  by_cases hlt : i < ds.length
  · obtain ⟨d, ed⟩ := ex_at hlt
    rw [drop_cons ed] at e3
    have e3' : (mg d ρ2).bind (fun ρ1 => match mb ρ1 with | some (.nx ρ2) => itF mg mb (ds.drop (i + 1)) ρ2 | x => x) = some o := e3
    cases e4 : mg d ρ2 with
    | none => rw [e4] at e3'; cases e3'
    | some ρ3 =>
      rw [e4] at e3'
      simp only [Option.bind_some] at e3'
      refine .inr ⟨dl.go i g2 H2 s2 hlt, fun σ' H' => i + 1 ≤ ds.length ∧ ∃ g' ρ', Sok K κ1 ρ' g' σ' H' ∧ Fx rc s0 σ' ∧ src g' H' ∧ itF mg mb (ds.drop (i + 1)) ρ' = some o ∧ Pres n t g H g' H', fun σ' H' hh => ⟨ds.length - (i + 1), by omega, rfl, hh⟩, fun x H' y => ?_⟩
      obtain ⟨sm, ox⟩ := dl.yld i g2 H2 x H' d s2 S2.gok y ed
      have P3 : Pres n t g2 H2 g2 H' := Pres.grow S2.gok sm
      refine fun _ => ⟨g2, ρ2, d, S2.grow sm, ox, ρ3, e4, fun σ4 g4 S4 P4 f4 => ?_⟩
      have fx4 := fx2.sets hf f4
      have P5 := P3.trans P4
      have s4 := dl.keep _ _ _ _ s2 P5.fz P5.tu
      refine fun _ => ?_
      cases eb : mb ρ3 with
      | none => rw [eb] at e3'; cases e3'
      | some ob =>
        rw [eb] at e3'
        refine ⟨g4, ρ3, S4, fx4, ob, eb, ?_⟩
        cases ob with
        | nx ρ5 => exact fun σ' H6 g6 S6 P6 F6 => ⟨hlt, g6, ρ5, S6, F6, dl.keep _ _ _ _ s4 P6.fz P6.tu, e3', P2.trans (P5.trans P6)⟩
        | rt d' ρ5 =>
          cases e3'
          exact post2.pre P5
  · have hi' : i = ds.length := by omega
    subst hi'
    rw [List.drop_length] at e3
    cases e3
    exact .inl ⟨dl.stop _ g2 H2 s2 (Nat.le_refl _), post2 σ2 H2 g2 S2 Pres.refl fx2⟩
theorem js_for {tg iter : Expr} {b : List Stmt} {ml : ML} {mg : MG} {mb : SM} {ts : List Nat} (hp : PassesOwn (model X.prog X.w) X.A X.env X.xe) (hc : X.calm = true) {pu : Bool} (hi : JI X κ tg iter ml κ1 pu) (hg : JG X κ1 tg mg κ2 ts) (hb : JB X κ2 b mb κ1 rc)
    (hf : notFxs rc ts = true) (hs : ∀ x, foldedSetIterable iter X.env x = pure x) : JS X κ (.For tg iter b [] pos) (sFor ml mg mb) κ1 rc :=
  ⟨fun s0 t ht => PS.imp (ps_for hp hc (hi.run t ht) (hg.run t ht) (hb.run s0 t ht) hs) fun _ _ _ z q => for_read hf z q⟩
end VS
namespace VS
open PySem PySem.Spec PyProof.Rows L2
variable {K : PySem.W.Frag} {X : Cx} {κ κ1 κ2 κ3 κ4 : OE} {pos : Pos} {rc : RC}
def wp {α : Type} (l : List (Option α)) : List Nat → List (Option α)
  | [] => l
  | v :: vs => (wp l vs).set v none
theorem wp_wipe (σ : L2.St) : ∀ vs, wipe σ vs = wp σ vs
  | [] => rfl
  | v :: vs => by
    show (wipe σ vs).set v none = (wp σ vs).set v none
    rw [wp_wipe σ vs]
theorem wp_len {α : Type} (l : List (Option α)) : ∀ vs, (wp l vs).length = l.length
  | [] => rfl
  | v :: vs => by
    show ((wp l vs).set v none).length = _
    rw [List.length_set, wp_len l vs]
theorem wp_some {α : Type} {l : List (Option α)} {i : Nat} {x : α} : ∀ {vs}, (wp l vs)[i]? = some (some x) → l[i]? = some (some x) ∧ i ∉ vs
  | [], h => ⟨h, by simp⟩
  | v :: vs, h => by
    have h' : ((wp l vs).set v none)[i]? = some (some x) := h
    rw [List.getElem?_set] at h'
    by_cases e : v = i
    · rw [if_pos e] at h'
      split at h' <;> cases h'
    · rw [if_neg e] at h'
      obtain ⟨h1, h2⟩ := wp_some h'
      exact ⟨h1, by simp only [List.mem_cons, not_or]; exact ⟨fun z => e z.symm, h2⟩⟩
theorem wp_out {α : Type} {l : List (Option α)} {i : Nat} : ∀ {vs}, i ∉ vs → (wp l vs)[i]? = l[i]?
  | [], _ => rfl
  | v :: vs, h => by
    simp only [List.mem_cons, not_or] at h
    show ((wp l vs).set v none)[i]? = _
    rw [List.getElem?_set_ne (fun e => h.1 e.symm), wp_out h.2]
theorem Sok.wipe {ρ : DE} {g : G} {σ : L2.St} {H : Hp} {vs : List Nat} (S : Sok K κ ρ g σ H) (hk : ∀ i ∈ vs, ∀ k, κ[i]? ≠ some (some k)) : Sok K κ (wp ρ vs) g (wp σ vs) H where
  ok := fun i k d h1 h2 => by
    obtain ⟨h3, hi⟩ := wp_some h2
    obtain ⟨v, e, o⟩ := S.ok i k d h1 h3
    exact ⟨v, by rw [wp_out hi]; exact e, o⟩
  gok := S.gok
  len := by rw [wp_len, wp_len]; exact S.len
  lek := by rw [wp_len]; exact S.lek
theorem Sok.unwipe {ρ : DE} {g : G} {σ σ' : L2.St} {H : Hp} {vs : List Nat} (S : Sok K κ ρ g σ' H) (hs : wp σ' vs = wp σ vs) (hk : ∀ i ∈ vs, ∀ k, κ[i]? ≠ some (some k)) : Sok K κ ρ g σ H where
  ok := fun i k d h1 h2 => by
    obtain ⟨v, e, o⟩ := S.ok i k d h1 h2
    have hi : i ∉ vs := fun z => hk i z k h1
    refine ⟨v, ?_, o⟩
    rw [← wp_out (l := σ) hi, ← hs, wp_out hi]
    exact e
  gok := S.gok
  len := by
    have := congrArg List.length hs
    rw [wp_len, wp_len] at this
    rw [S.len, this]
  lek := by
    have := congrArg List.length hs
    rw [wp_len, wp_len] at this
    rw [S.lek, this]
def noneAt (κ : OE) (vs : List Nat) : Bool := vs.all fun i => match κ[i]? with
  | some (some _) => false
  | _ => true
theorem noneAt_ok {vs : List Nat} (h : noneAt κ vs = true) : ∀ i ∈ vs, ∀ k, κ[i]? ≠ some (some k) := fun i hi k e => by
  have := List.all_eq_true.mp h i hi
  rw [e] at this
  cases this
theorem own_push {H : Hp} {g : G} {t k : Nat} {L : Addr} {acc : List D} {e : D} {y : V} {vacc : List V} (t' : Nat) (ht : t ≠ t')
    (hL : H L = some (.lst vacc)) (o : Own K H g (.lst acc) k t [] (.ref L)) (h0 : k ≠ 0) (oe : Own K H g e (lv k) t' [] y) :
    Own K (upd H L (.lst (vacc ++ [y]))) (mvG t' t [acc.length] (fun _ _ => false) g) (.lst (acc ++ [e])) k t [] (.ref L) := by
  obtain ⟨a, vs, e1, h1, h2, h3⟩ := o
  cases e1
  rw [hL] at h1
  cases h1
  rw [if_neg h0] at h2
  have nL : ∀ a r q, g a = .ow r q → (r ≠ t ∨ q ≠ []) → a ≠ L := fun a r q e h z => by
    subst z
    rw [h2] at e
    cases e
    rcases h with h | h
    · exact h rfl
    · exact h rfl
  have nf : ∀ a, g a = .fz → a ≠ L := fun a e z => by
    subst z
    rw [h2] at e
    cases e
  have st : ∀ a o, H a = some o → stb o = true → upd H L (.lst (vacc ++ [y])) a = some o := fun a o e hs => by
    rw [upd_ne]
    · exact e
    · rintro rfl
      rw [hL] at e
      cases e
      cases hs
  refine ⟨L, _, rfl, upd_same, by rw [if_neg h0]; exact mvG_o ht rfl h2, ?_⟩
  have grow : ∀ {ds : List D} {vs : List V} {i : Nat}, OwnL K H g ds (lv k) t [] i vs → OwnL K (upd H L (.lst (vacc ++ [y]))) (mvG t' t [i + ds.length] (fun _ _ => false) g) (ds ++ [e]) (lv k) t [] i (vs ++ [y]) := by
    intro ds
    induction ds with
    | nil =>
      intro vs i h
      cases (show _ = _ from h)
      refine ⟨y, [], rfl, own_conv st e (.inr fun a z => ⟨mvG_fz z, upd_ne (nf a z)⟩) (fun a q z hh => ⟨upd_ne (nL a _ _ z (.inl (Ne.symm ht))), ?_⟩) (fun _ z => z) oe, rfl⟩
      rw [if_pos hh, mvG_t z]
      simp
    | cons d ds ih =>
      intro vs i h
      obtain ⟨v, w, rfl, o1, o2⟩ := h
      refine ⟨v, w ++ [y], rfl, own_conv st d (.inr fun a z => ⟨mvG_fz z, upd_ne (nf a z)⟩) (fun a q z hh => ⟨upd_ne (nL a _ _ z (.inr (by simp))), ?_⟩) (fun _ z => z) o1, ?_⟩
      · rw [if_pos hh]
        exact mvG_o ht rfl z
      · have := ih o2
        rw [show i + 1 + ds.length = i + (d :: ds).length by simp; omega] at this
        exact this
  have := grow h3
  rw [Nat.zero_add] at this
  exact this
theorem Sok.push {ρ : DE} {g : G} {σ : L2.St} {H : Hp} {t t' : Nat} {L : Addr} {s : List Nat} {o o' : HO} (S : Sok K κ ρ g σ H) (ht : σ.length ≤ t) (ht' : σ.length ≤ t') (hL : H L = some o) (hs : stb o = false) (h2 : g L = .ow t []) :
    Sok K κ ρ (mvG t' t s (fun _ _ => false) g) σ (upd H L o') where
  ok := fun i k d h1 h3 => by
    obtain ⟨v, e, w⟩ := S.ok i k d h1 h3
    have hi : i < σ.length := (List.getElem?_eq_some_iff.mp e).1
    refine ⟨v, e, own_conv (fun a u z hz => ?_) d (.inr fun a z => ⟨mvG_fz z, upd_ne ?_⟩) (fun a q z hh => ⟨upd_ne ?_, ?_⟩) (fun _ z => z) w⟩
    · rw [upd_ne]
      · exact z
      · rintro rfl
        rw [hL] at z
        cases z
        rw [hs] at hz
        cases hz
    · rintro rfl
      rw [h2] at z
      cases z
    · rintro rfl
      have zz := h2.symm.trans z
      injection zz with z1 z2
      omega
    · rw [if_pos hh]
      exact mvG_o (by omega) rfl z
  gok := fun a h => by
    by_cases e : a = L
    · subst e; rw [upd_same]; simp
    · rw [upd_ne e]; exact S.gok a (mvG_ne h)
  len := S.len
  lek := S.lek
theorem Pres.push {n t t' : Nat} {g : G} {H : Hp} {L : Addr} {s : List Nat} {o o' : HO} (gok : ∀ a, g a ≠ .un → H a ≠ none) (ht' : t ≤ t') (hL : H L = some o) (hs : stb o = false) (h2 : g L = .ow t []) :
    Pres n t g H (mvG t' t s (fun _ _ => false) g) (upd H L o') where
  fz := fun a z => ⟨mvG_fz z, upd_ne (by rintro rfl; rw [h2] at z; cases z)⟩
  un := fun a z _ => ⟨mvG_un z, upd_ne (by rintro rfl; rw [h2] at z; cases z)⟩
  tp := fun a r p h1 h3 z => ⟨mvG_o (by omega) rfl z, upd_ne (by rintro rfl; rw [h2] at z; cases z; omega)⟩
  tm := fun a r p h1 h3 z => mvG_inv (by omega) z
  tu := fun a u z hz => by
    rw [upd_ne]
    · exact z
    · rintro rfl
      rw [hL] at z
      cases z
      rw [hs] at hz
      cases hz
def mYes : M := fun ρ => some (.bl true, ρ)
def cpL (vs : List Nat) (mg : MG) (mc me : M) : List D → DE → Option (List D × DE)
  | [], ρ => some ([], ρ)
  | d :: ds, ρ => (mg d (wp ρ vs)).bind fun ρ2 => match mc ρ2 with
    | some (.bl true, ρ3) => (me ρ3).bind fun x => (cpL vs mg mc me ds x.2).map fun y => (x.1 :: y.1, y.2)
    | some (.bl false, ρ3) => cpL vs mg mc me ds ρ3
    | _ => none
theorem cpL_cons {vs : List Nat} {mg : MG} {mc me : M} {d : D} {ds es : List D} {ρ ρ' : DE} (h : cpL vs mg mc me (d :: ds) ρ = some (es, ρ')) : ∃ ρ2 b ρ3, mg d (wp ρ vs) = some ρ2 ∧ mc ρ2 = some (.bl b, ρ3) ∧
    ((b = true ∧ ∃ e ρ4 r, me ρ3 = some (e, ρ4) ∧ cpL vs mg mc me ds ρ4 = some (r, ρ') ∧ es = e :: r) ∨ (b = false ∧ cpL vs mg mc me ds ρ3 = some (es, ρ'))) := by
  have h' : ((mg d (wp ρ vs)).bind fun ρ2 => match mc ρ2 with
    | some (.bl true, ρ3) => (me ρ3).bind fun x => (cpL vs mg mc me ds x.2).map fun y => (x.1 :: y.1, y.2)
    | some (.bl false, ρ3) => cpL vs mg mc me ds ρ3
    | _ => none) = some (es, ρ') := h
  cases e1 : mg d (wp ρ vs) with
  | none => rw [e1] at h'; cases h'
  | some ρ2 =>
    rw [e1] at h'
    simp only [Option.bind_some] at h'
    split at h'
    · rename_i ρ3 ec
      cases e2 : me ρ3 with
      | none => rw [e2] at h'; cases h'
      | some x =>
        rw [e2] at h'
        simp only [Option.bind_some] at h'
        cases e3 : cpL vs mg mc me ds x.2 with
        | none => rw [e3] at h'; cases h'
        | some y =>
          rw [e3] at h'
          cases h'
          exact ⟨ρ2, true, ρ3, rfl, ec, .inl ⟨rfl, x.1, x.2, y.1, e2, e3, rfl⟩⟩
    · rename_i ρ3 ec
      exact ⟨ρ2, false, ρ3, rfl, ec, .inr ⟨rfl, h'⟩⟩
    · cases h'
def mLc (pu : Bool) (vs : List Nat) (ml : ML) (mg : MG) (mc me : M) : M := fun ρ => (ml ρ).bind fun x => (cpL vs mg mc me x.1 x.2).bind fun y =>
  if y.1.length ≤ 16777216 then some (.lst y.1, if pu then x.2 else y.2) else none
theorem mLc_some {pu : Bool} {vs : List Nat} {ml : ML} {mg : MG} {mc me : M} {ρ ρ' : DE} {d : D} (h : mLc pu vs ml mg mc me ρ = some (d, ρ')) : ∃ ds ρ1 es ρ2, ml ρ = some (ds, ρ1) ∧ cpL vs mg mc me ds ρ1 = some (es, ρ2) ∧ es.length ≤ sizeLine ∧ d = .lst es ∧ ρ' = (if pu then ρ1 else ρ2) := by
  unfold mLc at h
  cases e : ml ρ with
  | none => rw [e] at h; cases h
  | some x =>
    rw [e] at h
    simp only [Option.bind_some] at h
    cases e2 : cpL vs mg mc me x.1 x.2 with
    | none => rw [e2] at h; cases h
    | some y =>
      rw [e2] at h
      simp only [Option.bind_some] at h
      split at h
      · cases h
        exact ⟨x.1, x.2, y.1, y.2, rfl, e2, by rw [sizeLine_eq]; assumption, rfl, rfl⟩
      · cases h
theorem lc_core' {n t : Nat} {tg iter elt : Expr} {ifs : List Expr} {own : List (Str × Nat)} {ml : ML} {mg : MG} {mc me : M} {ts : List Nat} {pi pc pe : Bool} {k : Nat} {wi : TI} {gt : TG} {tt : TT} {te : TE}
    (hn : X.N.length = n) (ht : n ≤ t) (h0 : k ≠ 0) (hκ : noneAt κ1 (own.map (·.2)) = true) (hκn : κ1.length = n)
    (hts : ts.all (fun i => (own.map (·.2)).contains i) = true) (hgo : ∀ d ρ ρ', mg d ρ = some ρ' → ρ'.length = ρ.length ∧ ∀ j : Nat, j ∉ ts → ρ'[j]? = ρ[j]?)
    (hcp : pc = true → ∀ ρ d ρ', mc ρ = some (d, ρ') → ρ' = ρ) (hep : pe = true → ∀ ρ d ρ', me ρ = some (d, ρ') → ρ' = ρ)
    (h1 : leO κ1 κ4 = true) (h2 : leO κ1 κ3 = true)
    (hwi : wi = fun σ H R => En n σ H → ∃ g ρ, Sok X.K κ ρ g σ H ∧ ∃ ds ρ', ml ρ = some (ds, ρ') ∧ ∀ J0 src H' g', Sok X.K κ1 ρ' g' σ H' → Pres n t g H g' H' → (pi = true → Same H H') → Dlv X.K J0 src ds → src g' H' → R J0 H')
    (hgt : gt = fun v σ H Q => σ.length = n → ∃ g ρ d, Sok X.K κ1 ρ g σ H ∧ Own X.K H g d 0 0 [] v ∧ ∃ ρ', mg d ρ = some ρ' ∧ gPost X.K n (t + 1) κ2 ts g σ H ρ' Q)
    (htt : tt = jTT X.K n κ2 mc κ3 pc (t + 1)) (hte : te = jTE X.K n κ3 me (.own (lv k)) κ4 pe (t + 1)) (σ : L2.St) (H : Hp) (Q : VK) (en : En n σ H)
    (q : ∃ g ρ, Sok X.K κ ρ g σ H ∧ ∃ d ρ', mLc (pi && (pc && pe)) (own.map (·.2)) ml mg mc me ρ = some (d, ρ') ∧ jPost X.K n t κ1 (.own k) (pi && (pc && pe)) g σ H d ρ' Q) : tLc wi gt tt te (own.map (·.2)) σ H Q := by
  obtain ⟨g, ρ, S, d, ρ', em, post⟩ := q
  obtain ⟨ds, ρ1, es, ρ2, e1, e2, hz, rfl, rfl⟩ := mLc_some em
  subst hwi hgt htt hte
  refine fun _ => ⟨g, ρ, S, ds, ρ1, e1, fun J0 src H1 g1 S1 P1 s1 dl sr => fun L nL => ?_⟩
  have hk := noneAt_ok hκ
  have lenσ : σ.length = n := en.2
  -- the new list
  let gL : G := fun a => if a = L then .ow t [] else g1 a
  have gLL : gL L = .ow t [] := if_pos rfl
  have gLo : ∀ a, a ≠ L → gL a = g1 a := fun a h => if_neg h
  have gLk : ∀ a, g1 a ≠ .un → gL a = g1 a := fun a h => gLo a fun z => S1.gok a h (z ▸ nL)
  have same0 : Same H1 (upd H1 L (.lst [])) := same_new nL
  have S1w := (S1.grow same0).wipe (vs := own.map (·.2)) hk
  have SL : Sok X.K κ1 (wp ρ1 (own.map (·.2))) gL (wp σ (own.map (·.2))) (upd H1 L (.lst [])) := by
    refine ⟨fun i k d h3 h4 => ?_, fun a h => ?_, S1w.len, S1w.lek⟩
    · obtain ⟨v, e, o⟩ := S1w.ok i k d h3 h4
      exact ⟨v, e, own_conv (fun _ _ z _ => z) d (.inr fun a z => ⟨by rw [gLk a (by rw [z]; simp)]; exact z, rfl⟩) (fun a q z hh => ⟨rfl, by rw [if_pos hh, gLk a (by rw [z]; simp)]; exact z⟩) (fun _ z => z) o⟩
    · by_cases e : a = L
      · subst e; rw [upd_same]; simp
      · rw [upd_ne e]; rw [gLo a e] at h; exact S1.gok a h
  have PL : Pres n t g1 H1 gL (upd H1 L (.lst [])) := by
    have hne : ∀ a, H1 a ≠ none → a ≠ L := fun a h z => h (z ▸ nL)
    refine ⟨fun a z => ?_, fun a z hh => ?_, fun a r p h3 h4 z => ?_, fun a r p h3 h4 z => ?_, fun a u z _ => same0 _ _ z⟩
    · have := hne a (S1.gok a (by rw [z]; simp))
      exact ⟨by rw [gLo a this]; exact z, upd_ne this⟩
    · have := hne a hh
      exact ⟨by rw [gLo a this]; exact z, upd_ne this⟩
    · have := hne a (S1.gok a (by rw [z]; simp))
      exact ⟨by rw [gLo a this]; exact z, upd_ne this⟩
    · by_cases e : a = L
      · subst e; rw [gLL] at z; cases z; omega
      · rw [gLo a e] at z; exact z
  have OL : Own X.K (upd H1 L (.lst [])) gL (.lst []) k t [] (.ref L) := ⟨L, [], rfl, upd_same, by rw [if_neg h0]; exact gLL, rfl⟩
  have wlen : (wp σ (own.map (·.2))).length = n := by rw [wp_len]; exact lenσ
  let W : Nat → Hp → Prop := fun i H' => i ≤ ds.length ∧ ∃ g' ρ' acc r, Sok X.K κ1 (wp ρ' (own.map (·.2))) g' (wp σ (own.map (·.2))) H' ∧ src g' H' ∧ Own X.K H' g' (.lst acc) k t [] (.ref L) ∧ cpL (own.map (·.2)) mg mc me (ds.drop i) ρ' = some (r, ρ2) ∧ acc ++ r = es ∧
    Pres n t g H g' H' ∧ ((pi && (pc && pe)) = true → Same H1 H') ∧ ((pi && (pc && pe)) = true → ρ'.length = ρ1.length ∧ ∀ j : Nat, j ∉ own.map (·.2) → ρ'[j]? = ρ1[j]?) ∧ ρ'.length = n
  refine ⟨fun i m H' => m = ds.length - i ∧ W i H', ⟨ds.length, by simp, Nat.zero_le _, gL, ρ1, [], es, SL, dl.keep _ _ _ _ sr PL.fz PL.tu, OL, by simpa using e2, rfl, P1.trans PL, fun _ => same0, fun _ => ⟨rfl, fun _ _ => rfl⟩, by rw [S1.len]; exact lenσ⟩, ?_⟩
  rintro i m H2 ⟨rfl, hle, g2, ρ3, acc, r, S2, sr2, O2, e3, er, P2, sm2, ag2, ln2⟩
  by_cases hlt : i < ds.length
  · obtain ⟨d, ed⟩ := ex_at hlt
    rw [drop_cons ed] at e3
    obtain ⟨ρ4, b, ρ5, e4, e5, e6⟩ := cpL_cons e3
    refine .inr ⟨dl.go i g2 H2 sr2 hlt, W (i + 1), fun H' hh => ⟨ds.length - (i + 1), by omega, rfl, hh⟩, fun x H3 y => ?_⟩
    obtain ⟨sm, ox⟩ := dl.yld i g2 H2 x H3 d sr2 S2.gok y ed
    have P3 : Pres n (t + 1) g2 H2 g2 H3 := Pres.grow S2.gok sm
    rw [wp_wipe]
    refine fun _ => ⟨g2, wp ρ3 (own.map (·.2)), d, S2.grow sm, ox, ρ4, e4, fun σ4 g4 S4 P4 f4 => ?_⟩
    have P5 := P3.trans P4
    have sr4 := dl.keep _ _ _ _ sr2 P5.fz P5.tu
    have O4 := P5.own ht (Nat.lt_succ_self t) O2
    have tsin : ∀ j, j ∉ own.map (·.2) → j ∉ ts := fun j hj hm => hj (by simpa using List.all_eq_true.mp hts j hm)
    have lenσ4 : σ4.length = n := by rw [← S4.len, (hgo _ _ _ e4).1, wp_len]; exact ln2
    have wpn : ∀ (l : L2.St), l.length = n → ∀ j, j ∈ own.map (·.2) → (wp l (own.map (·.2)))[j]? = if j < n then some none else none := fun l hl j hj => by
      by_cases hjn : j < n
      · rw [if_pos hjn]
        cases q : (wp l (own.map (·.2)))[j]? with
        | none => rw [List.getElem?_eq_none_iff, wp_len] at q; omega
        | some o => cases o with
          | none => rfl
          | some z => exact ((wp_some q).2 hj).elim
      · rw [if_neg hjn, List.getElem?_eq_none_iff, wp_len]; omega
    have wσ : wp σ4 (own.map (·.2)) = wp σ (own.map (·.2)) := by
      apply List.ext_getElem?
      intro j
      by_cases hj : j ∈ own.map (·.2)
      · rw [wpn _ lenσ4 j hj, wpn _ lenσ j hj]
      · rw [wp_out hj, f4 j (tsin j hj), wp_out hj]
    refine ⟨(wp_wipe _ _).trans wσ, fun _ => ?_⟩
    refine ⟨g4, ρ4, S4, b, ρ5, e5, fun H6 g6 S6 P6 s6 => ?_⟩
    have sr6 := dl.keep _ _ _ _ sr4 P6.fz P6.tu
    have O6 := P6.own ht (Nat.lt_succ_self t) O4
    have back : ∀ {κ' : OE} {ρ6 : DE} {g' : G} {H' : Hp}, Sok X.K κ' ρ6 g' σ4 H' → leO κ1 κ' = true → Sok X.K κ1 (wp ρ6 (own.map (·.2))) (wk κ1 g') (wp σ (own.map (·.2))) H' := fun {κ' ρ6 g' H'} s hl => by
      have := (s.weaken hl).wipe (vs := own.map (·.2)) hk
      rw [wσ] at this
      exact this
    have agree : (pi && (pc && pe)) = true → ρ4.length = ρ1.length ∧ ∀ j : Nat, j ∉ own.map (·.2) → ρ4[j]? = ρ1[j]? := fun hp => by
      obtain ⟨l1, a1⟩ := ag2 hp
      refine ⟨by rw [(hgo _ _ _ e4).1, wp_len]; exact l1, fun j hj => ?_⟩
      rw [(hgo _ _ _ e4).2 j (tsin j hj), wp_out hj]
      exact a1 j hj
    have P26 : Pres n t g H g6 H6 := P2.trans ((P5.trans P6).less (Nat.le_succ t))
    rcases e6 with ⟨rfl, e, ρ7, r7, e7, e8, rfl⟩ | ⟨rfl, e8⟩
    · refine iteT fun _ => ⟨g6, ρ5, S6, e, ρ7, e7, fun y H8 g8 S8 P8 s8 r8 => ?_⟩
      have O8 := P8.own ht (Nat.lt_succ_self t) O6
      have sr8 := dl.keep _ _ _ _ sr6 P8.fz P8.tu
      obtain ⟨L', vacc, eL, hL, hgL, hl⟩ := id O8
      cases eL
      rw [if_neg h0] at hgL
      have hz2 : vacc.length < sizeLine := by
        rw [ownL_len hl]
        have : (acc ++ e :: r7).length ≤ sizeLine := by rw [er]; exact hz
        simp at this
        omega
      refine ⟨vacc, hL, hz2, hlt, ?_⟩
      have S9 := S8.push (t := t) (t' := t + 1) (s := [acc.length]) (o' := .lst (vacc ++ [y])) (by omega) (by omega) hL rfl hgL
      have P9 : Pres n t g8 H8 _ _ := Pres.push (o' := .lst (vacc ++ [y])) (s := [acc.length]) S8.gok (Nat.le_succ t) hL rfl hgL
      have O9 := own_push (t + 1) (by omega) hL O8 h0 r8
      have Pw : Pres n t (mvG (t + 1) t [acc.length] (fun _ _ => false) g8) (upd H8 L (.lst (vacc ++ [y]))) (wk κ1 (mvG (t + 1) t [acc.length] (fun _ _ => false) g8)) (upd H8 L (.lst (vacc ++ [y]))) := Pres.weaken hκn
      have Pw1 : Pres n (t + 1) (mvG (t + 1) t [acc.length] (fun _ _ => false) g8) (upd H8 L (.lst (vacc ++ [y]))) (wk κ1 (mvG (t + 1) t [acc.length] (fun _ _ => false) g8)) (upd H8 L (.lst (vacc ++ [y]))) := Pres.weaken hκn
      refine ⟨_, ρ7, acc ++ [e], r7, back S9 h1, dl.keep _ _ _ _ sr8 (P9.trans Pw).fz (P9.trans Pw).tu, Pw1.own ht (Nat.lt_succ_self t) O9, e8, by rw [List.append_assoc]; exact er, P26.trans ((P8.less (Nat.le_succ t)).trans (P9.trans Pw)), fun hp => ?_, fun hp => ?_, ?_⟩
      · have hp' := hp
        simp only [Bool.and_eq_true] at hp'
        have sA : Same H1 H8 := ((sm2 hp).trans sm).trans ((s6 hp'.2.1).trans (s8 hp'.2.2))
        intro b u z
        rw [upd_ne (by rintro rfl; rw [nL] at z; cases z)]
        exact sA b u z
      · have hp' := hp
        simp only [Bool.and_eq_true] at hp'
        obtain ⟨l1, a1⟩ := agree hp
        rw [hep hp'.2.2 _ _ _ e7, hcp hp'.2.1 _ _ _ e5]
        exact ⟨l1, a1⟩
      · rw [S8.len, lenσ4]
    · refine iteF ?_
      have Pw : Pres n t g6 H6 (wk κ1 g6) H6 := Pres.weaken hκn
      refine ⟨hlt, wk κ1 g6, ρ5, acc, r, back S6 h2, dl.keep _ _ _ _ sr6 Pw.fz Pw.tu, (Pres.weaken (t := t + 1) hκn).own (H' := H6) ht (Nat.lt_succ_self t) O6, e8, er, P26.trans (Pres.weaken hκn), fun hp => ?_, fun hp => ?_, ?_⟩
      · have hp' := hp
        simp only [Bool.and_eq_true] at hp'
        exact ((sm2 hp).trans sm).trans (s6 hp'.2.1)
      · have hp' := hp
        simp only [Bool.and_eq_true] at hp'
        rw [hcp hp'.2.1 _ _ _ e5]
        exact agree hp
      · rw [S6.len, lenσ4]
  · have hi' : i = ds.length := by omega
    subst hi'
    rw [List.drop_length] at e3
    cases e3
    rw [List.append_nil] at er
    subst er
    have Sσ : Sok X.K κ1 (wp ρ2 (own.map (·.2))) g2 σ H2 := S2.unwipe (vs := own.map (·.2)) (by
      apply List.ext_getElem?
      intro j
      by_cases hj : j ∈ own.map (·.2)
      · cases q : (wp σ (own.map (·.2)))[j]? with
        | none => rw [List.getElem?_eq_none_iff] at q ⊢; rw [wp_len]; exact q
        | some o => cases o with
          | some z => exact ((wp_some q).2 hj).elim
          | none =>
            have hjn := (List.getElem?_eq_some_iff.mp q).1
            cases q2 : (wp (wp σ (own.map (·.2))) (own.map (·.2)))[j]? with
            | none => rw [List.getElem?_eq_none_iff] at q2; rw [wp_len] at q2; omega
            | some o2 => cases o2 with
              | none => rfl
              | some z => exact ((wp_some q2).2 hj).elim
      · rw [wp_out hj]) hk
    refine .inl ⟨dl.stop _ g2 H2 sr2 (Nat.le_refl _), post (.ref L) H2 g2 ?_ P2 (fun hp => ?_) O2⟩
    · -- the slots' data: those outside
      have take : ∀ ρx : DE, ρx.length = n → (∀ j : Nat, j ∉ own.map (·.2) → ρx[j]? = ρ2[j]?) → Sok X.K κ1 ρx g2 σ H2 := fun ρx hl ha =>
        ⟨fun i k d h3 h4 => by
          have hi : i ∉ own.map (·.2) := fun z => hk i z k h3
          exact Sσ.ok i k d h3 (by rw [wp_out hi, ← ha i hi]; exact h4), Sσ.gok, by rw [hl, lenσ], Sσ.lek⟩
      by_cases hp : (pi && (pc && pe)) = true
      · rw [if_pos hp]
        obtain ⟨l1, a1⟩ := ag2 hp
        exact take ρ1 (by rw [← l1]; exact ln2) fun j hj => (a1 j hj).symm
      · rw [if_neg hp]
        exact take ρ2 ln2 fun _ _ => rfl
    · have hp' := hp
      simp only [Bool.and_eq_true] at hp'
      exact (s1 hp'.1).trans (sm2 hp)
structure JTs (X : Cx) (κ : OE) (cs : List Expr) (m : M) (κ' : OE) (pu : Bool) : Prop where
  run : ∀ t, X.N.length ≤ t → PTs X cs (jTT X.K X.N.length κ m κ' pu t)
  pur : pu = true → ∀ ρ d ρ', m ρ = some (d, ρ') → ρ' = ρ
theorem PTs.imp {cs : List Expr} {t t' : TT} (h : PTs X cs t) (f : ∀ σ H Q, En X.N.length σ H → t' σ H Q → t σ H Q) : PTs X cs t' :=
  ⟨fun pins s σ H Q I q => h.run pins s σ H Q I (f σ H Q ⟨Inv.sz I, I.len⟩ q)⟩
theorem jts_nil : JTs X κ [] mYes κ true := by
  refine ⟨fun t ht => PTs.imp pts_nil fun σ H Q z q => ?_, fun _ ρ d ρ' e => by cases e; rfl⟩
  obtain ⟨g, ρ, S, b, ρ', em, post⟩ := q z
  cases em
  exact post H g S Pres.refl fun _ => Same.refl H
theorem jts_one {c : Expr} {m : M} {pu : Bool} (h : JT X κ c m κ1 pu) : JTs X κ [c] m κ1 pu := ⟨fun t ht => pts_one (h.run t ht), h.pur⟩
def InBlk (X : Cx) (scope : Scope) (F : Cx → Prop) : Prop := ∀ (s : Shared) (H : Hp) (C : Addr) (cl : List (Str × Addr)) (fp : List Addr), F (X.blk s H scope (compEnvC scope cl C X.env) fp)
theorem j_lc {tg iter elt : Expr} {ifs : List Expr} {scope : Scope} {own : List (Str × Nat)} {ml : ML} {mg : MG} {mc me : M} {ts : List Nat} {pi pc pe : Bool} {k : Nat} (hc : X.calm = true) (hN : X.N.Nodup)
    (hi : JI X κ tg iter ml κ1 pi) (ok : BlkOk X.N X.env.scope scope own) (hg : InBlk X scope fun Y => JG Y κ1 tg mg κ2 ts) (ht : InBlk X scope fun Y => JTs Y κ2 ifs mc κ3 pc) (he : InBlk X scope fun Y => J Y κ3 elt me (.own (lv k)) κ4 pe)
    (hs : ∀ x, foldedSetIterable iter X.env x = pure x) (h0 : k ≠ 0) (hκ : noneAt κ1 (own.map (·.2)) = true) (hκn : κ1.length = X.N.length) (hts : ts.all (fun i => (own.map (·.2)).contains i) = true) (h1 : leO κ1 κ4 = true) (h2 : leO κ1 κ3 = true) :
    J X κ (.ListComp elt [⟨tg, iter, ifs, 0⟩] scope pos) (mLc (pi && (pc && pe)) (own.map (·.2)) ml mg mc me) (.own k) κ1 (pi && (pc && pe)) := by
  refine ⟨fun t htt => PE.imp (pe_lc (te := jTE X.K X.N.length κ3 me (.own (lv k)) κ4 pe (t + 1)) (tt := jTT X.K X.N.length κ2 mc κ3 pc (t + 1)) (g := jTG X.K X.N.length κ1 mg κ2 ts (t + 1)) hc hN (hi.run t htt) ok (fun s H C cl fp => (hg s H C cl fp).run (t + 1) (by exact Nat.le_succ_of_le htt)) (fun s H C cl fp => (ht s H C cl fp).run (t + 1) (by exact Nat.le_succ_of_le htt)) (fun s H C cl fp => (he s H C cl fp).run (t + 1) (by exact Nat.le_succ_of_le htt)) hs) fun σ H Q z q => ?_, fun hp ρ d ρ' e => ?_⟩
  · exact lc_core' (tg := tg) (iter := iter) (elt := elt) (ifs := ifs) rfl htt h0 hκ hκn hts (hg X.s_0 H 0 [] []).out (ht X.s_0 H 0 [] []).pur (he X.s_0 H 0 [] []).pur h1 h2 rfl rfl rfl rfl σ H Q z (q z)
  · obtain ⟨ds, ρ1, es, ρ2, e1, e2, hz, rfl, rfl⟩ := mLc_some e
    rw [if_pos hp]
    simp only [Bool.and_eq_true] at hp
    exact hi.pur hp.1 _ _ _ e1
theorem js_lc {i : Nat} {y : Str} {py spos : Pos} {tg iter elt : Expr} {ifs : List Expr} {scope : Scope} {own : List (Str × Nat)} {ml : ML} {mg : MG} {mc me : M} {ts : List Nat} {pi pc pe : Bool} {k : Nat} (hc : X.calm = true) (hN : X.N.Nodup)
    (hy : X.N[i]? = some y) (hyl : X.env.scope.names.lookup y = some .local) (hsw : swapsWith (.ListComp elt [⟨tg, iter, ifs, 0⟩] scope pos) (some (.Name y py)) spos.line X.env = pure true)
    (hi : JI X κ tg iter ml κ1 pi) (ok : BlkOk X.N X.env.scope scope own) (hg : InBlk X scope fun Y => JG Y κ1 tg mg κ2 ts) (ht : InBlk X scope fun Y => JTs Y κ2 ifs mc κ3 pc) (he : InBlk X scope fun Y => J Y κ3 elt me (.own (lv k)) κ4 pe)
    (hs : ∀ x, foldedSetIterable iter X.env x = pure x) (h0 : k ≠ 0) (hκ : noneAt κ1 (own.map (·.2)) = true) (hκn : κ1.length = X.N.length) (hts : ts.all (fun i => (own.map (·.2)).contains i) = true) (h1 : leO κ1 κ4 = true) (h2 : leO κ1 κ3 = true)
    (hfx : notFx rc i = true) : JS X κ (.Assign [.Name y py] (.ListComp elt [⟨tg, iter, ifs, 0⟩] scope pos) spos) (sAsg i (mLc (pi && (pc && pe)) (own.map (·.2)) ml mg mc me)) (κ1.set i (some k)) rc := by
  have hin : i < X.N.length := (List.getElem?_eq_some_iff.mp hy).1
  refine ⟨fun s0 t htt => PS.imp (ps_setLc (te := jTE X.K X.N.length κ3 me (.own (lv k)) κ4 pe (t + 1)) (tt := jTT X.K X.N.length κ2 mc κ3 pc (t + 1)) (g := jTG X.K X.N.length κ1 mg κ2 ts (t + 1)) hc hN hy hyl hsw (hi.run t htt) ok (fun s H C cl fp => (hg s H C cl fp).run (t + 1) (by exact Nat.le_succ_of_le htt)) (fun s H C cl fp => (ht s H C cl fp).run (t + 1) (by exact Nat.le_succ_of_le htt)) (fun s H C cl fp => (he s H C cl fp).run (t + 1) (by exact Nat.le_succ_of_le htt)) hs) fun σ H D z q => ?_⟩
  obtain ⟨g, ρ, S, fx, o, em, post⟩ := q z
  obtain ⟨d, ρ1, e1, rfl⟩ := sAsg_some em
  refine lc_core' (tg := tg) (iter := iter) (elt := elt) (ifs := ifs) rfl htt h0 hκ hκn hts (hg X.s_0 H 0 [] []).out (ht X.s_0 H 0 [] []).pur (he X.s_0 H 0 [] []).pur h1 h2 rfl rfl rfl rfl σ H _ z ⟨g, ρ, S, d, ρ1, e1, fun v H' g' S' P' s' r' => ?_⟩
  have hl : σ.length = X.N.length := z.2
  exact post _ H' _ (S'.store (by omega) (by omega) r') (P'.trans (Pres.store hin S'.gok)) (fx.set hfx)
end VS
namespace VS
open PySem PySem.Spec PyProof.Rows L2
variable {K : PySem.W.Frag} {X : Cx} {κ κ1 κ2 κ3 κ4 : OE} {pos : Pos} {rc : RC}
structure Sg where
  ks : List Nat
  r : Nat
  ks' : List (Option Nat)
abbrev FM := List D → Option (D × List D)
def ArgsOk (K : PySem.W.Frag) (H : Hp) (g : G) : List Nat → Nat → List D → List V → Prop
  | [], _, ds, vs => ds = [] ∧ vs = []
  | k :: ks, j, ds, vs => ∃ d ds' v vs', ds = d :: ds' ∧ vs = v :: vs' ∧ Own K H g d k j [] v ∧ ArgsOk K H g ks (j + 1) ds' vs'
def ArgsPost (K : PySem.W.Frag) (H : Hp) (g : G) (ks' : List (Option Nat)) (ds : List D) (vs : List V) : Prop :=
  ∀ (j k : Nat) (d : D) (v : V), ks'[j]? = some (some k) → ds[j]? = some d → vs[j]? = some v → Own K H g d k j [] v
def fnSp (K : PySem.W.Frag) (sg : Sg) (f : FM) : Sp := fun vs H Q _ => ∃ g ds, (∀ a, g a ≠ .un → H a ≠ none) ∧ ArgsOk K H g sg.ks 0 ds vs ∧ ∃ d ds', f ds = some (d, ds') ∧ ds'.length = ds.length ∧
  ∀ v H' g' rr, sg.ks.length ≤ rr → (∀ a, g' a ≠ .un → H' a ≠ none) → Pres 0 0 g H g' H' → Own K H' g' d sg.r rr [] v → ArgsPost K H' g' sg.ks' ds' vs → Q v H'
theorem argsOk_len {H : Hp} {g : G} : ∀ {ks : List Nat} {j : Nat} {ds : List D} {vs : List V}, ArgsOk K H g ks j ds vs → ds.length = ks.length ∧ vs.length = ks.length
  | [], _, _, _, h => by obtain ⟨rfl, rfl⟩ := h; exact ⟨rfl, rfl⟩
  | k :: ks, _, _, _, h => by
    obtain ⟨d, ds', v, vs', rfl, rfl, _, h⟩ := h
    obtain ⟨h1, h2⟩ := argsOk_len h
    exact ⟨by simp [h1], by simp [h2]⟩
theorem argsOk_get {H : Hp} {g : G} : ∀ {ks : List Nat} {j : Nat} {ds : List D} {vs : List V} {i k : Nat} {d : D}, ArgsOk K H g ks j ds vs → ks[i]? = some k → ds[i]? = some d → ∃ v, vs[i]? = some v ∧ Own K H g d k (j + i) [] v
  | [], _, _, _, _, _, _, _, e, _ => by simp at e
  | k :: ks, j, _, _, 0, _, _, h, e, ed => by
    obtain ⟨d, ds', v, vs', rfl, rfl, o, h⟩ := h
    cases e
    cases ed
    exact ⟨v, rfl, o⟩
  | k :: ks, j, _, _, i + 1, _, _, h, e, ed => by
    obtain ⟨d, ds', v, vs', rfl, rfl, o, h⟩ := h
    have := argsOk_get (i := i) h e ed
    rw [show j + 1 + i = j + (i + 1) by omega] at this
    exact this
def outsD (ks' : List (Option Nat)) (ρ : DE) : Nat → List D → Option (List D)
  | _, [] => some []
  | j, d :: ds => (match ks'[j]? with
    | some (some _) => (match ρ[j]? with
      | some (some d') => some d'
      | _ => none)
    | _ => some d).bind fun x => (outsD ks' ρ (j + 1) ds).map fun r => x :: r
theorem outsD_get {ks' : List (Option Nat)} {ρ : DE} : ∀ {j : Nat} {ds es : List D}, outsD ks' ρ j ds = some es → es.length = ds.length ∧ ∀ i k d, ks'[j + i]? = some (some k) → es[i]? = some d → ρ[j + i]? = some (some d)
  | _, [], _, h => by cases h; exact ⟨rfl, fun i k d _ e => by simp at e⟩
  | j, d :: ds, es, h => by
    have h' : ((match ks'[j]? with
    | some (some _) => (match ρ[j]? with
      | some (some d') => some d'
      | _ => none)
    | _ => some d).bind fun x => (outsD ks' ρ (j + 1) ds).map fun r => x :: r) = some es := h
    cases e : (match ks'[j]? with
    | some (some _) => (match ρ[j]? with
      | some (some d') => some d'
      | _ => none)
    | _ => some d) with
    | none => rw [e] at h'; cases h'
    | some x =>
      rw [e] at h'
      simp only [Option.bind_some] at h'
      cases e2 : outsD ks' ρ (j + 1) ds with
      | none => rw [e2] at h'; cases h'
      | some r =>
        rw [e2] at h'
        cases h'
        obtain ⟨h1, h2⟩ := outsD_get e2
        refine ⟨by simp [h1], fun i k d' ek ed => ?_⟩
        cases i with
        | zero =>
          simp only [Nat.add_zero] at ek ⊢
          cases ed
          rw [ek] at e
          simp only at e
          split at e
          · cases e; assumption
          · cases e
        | succ i =>
          have := h2 i k d' (by rw [show j + 1 + i = j + (i + 1) by omega]; exact ek) ed
          rw [show j + 1 + i = j + (i + 1) by omega] at this
          exact this
def fM (np n : Nat) (ks' : List (Option Nat)) (m : SM) : FM := fun ds => if ds.length = np then (match m (ds.map some ++ List.replicate (n - ds.length) none) with
  | some (.rt d ρ) => (outsD ks' ρ 0 ds).map fun es => (d, es)
  | some (.nx ρ) => (outsD ks' ρ 0 ds).map fun es => (.non, es)
  | none => none) else none
theorem fM_some {np n : Nat} {ks' : List (Option Nat)} {m : SM} {ds es : List D} {d : D} (h : fM np n ks' m ds = some (d, es)) : ds.length = np ∧ ∃ o ρ, m (ds.map some ++ List.replicate (n - ds.length) none) = some o ∧ (o = .rt d ρ ∨ (o = .nx ρ ∧ d = .non)) ∧ outsD ks' ρ 0 ds = some es := by
  unfold fM at h
  split at h
  case isFalse => cases h
  refine ⟨by assumption, ?_⟩
  split at h
  · rename_i d' ρ e
    cases e2 : outsD ks' ρ 0 ds with
    | none => rw [e2] at h; cases h
    | some r => rw [e2] at h; cases h; exact ⟨_, ρ, e, .inl rfl, e2⟩
  · rename_i ρ e
    cases e2 : outsD ks' ρ 0 ds with
    | none => rw [e2] at h; cases h
    | some r => rw [e2] at h; cases h; exact ⟨_, ρ, e, .inr ⟨rfl, rfl⟩, e2⟩
  · cases h
def κ0 (sg : Sg) (n : Nat) : OE := sg.ks.map some ++ List.replicate (n - sg.ks.length) none
def rcOf (sg : Sg) (n : Nat) : RC := ⟨sg.r, sg.ks' ++ List.replicate (n - sg.ks'.length) none⟩
theorem app_some {α β : Type} {f : α → β} {l : List α} {m i : Nat} {x : β} (h : (l.map (fun a => some (f a)) ++ List.replicate m none)[i]? = some (some x)) : ∃ a, l[i]? = some a ∧ x = f a := by
  by_cases hi : i < l.length
  · rw [List.getElem?_append_left (by simpa using hi), List.getElem?_map] at h
    cases e : l[i]? with
    | none => rw [e] at h; cases h
    | some a => rw [e] at h; cases h; exact ⟨a, rfl, rfl⟩
  · rw [List.getElem?_append_right (by simpa using hi), List.getElem?_replicate] at h
    split at h <;> cases h
theorem body_ok {sg : Sg} {m : SM} {n : Nat} {N : List Str} {sts : List Stmt} (hN : X.N = N) (hn : N.length = n) (h : JB X (κ0 sg n) sts m (rcOf sg n).κr (rcOf sg n)) (h1 : sg.ks.length ≤ n) (h2 : sg.ks'.length = sg.ks.length)
    {vs : List V} {H : Hp} {Q : VK} {E : XK} {np : Nat} (q : fnSp X.K sg (fM np n sg.ks' m) vs H Q E) :
    PSs X sts (jTS X.K n (κ0 sg n) m (rcOf sg n).κr (rcOf sg n) (L2.start N vs) n) ∧ jTS X.K n (κ0 sg n) m (rcOf sg n).κr (rcOf sg n) (L2.start N vs) n { nx := fun _ H' => Q .non H', rt := Q } (L2.start N vs) H := by
  subst hN
  subst hn
  refine ⟨h.run _ _ (Nat.le_refl _), fun en => ?_⟩
  obtain ⟨g, ds, gok, ao, d, es, e, el, post⟩ := q
  obtain ⟨_, o, ρ, em, eo, ex⟩ := fM_some e
  obtain ⟨l1, l2⟩ := argsOk_len ao
  have st : ∀ (i : Nat) (v : V), vs[i]? = some v → (L2.start X.N vs)[i]? = some (some v) := fun i v e => by
    unfold L2.start
    rw [List.getElem?_append_left (by simpa using (List.getElem?_eq_some_iff.mp e).1), List.getElem?_map, e]
    rfl
  refine ⟨g, ds.map some ++ List.replicate (X.N.length - ds.length) none, ⟨fun i k d' ek ed => ?_, gok, ?_, ?_⟩, fun _ _ _ => rfl, o, em, ?_⟩
  · obtain ⟨k', ek', rfl⟩ := app_some (f := fun x => x) ek
    obtain ⟨d2, ed', rfl⟩ := app_some (f := fun x => x) ed
    obtain ⟨v, ev, ov⟩ := argsOk_get ao ek' ed'
    rw [Nat.zero_add] at ov
    exact ⟨v, st i v ev, ov⟩
  · have := en.2
    simp only [List.length_append, List.length_map, List.length_replicate]
    omega
  · have := en.2
    unfold κ0
    simp only [List.length_append, List.length_map, List.length_replicate]
    omega
  · have fin : ∀ (v : V) (σ' : L2.St) (H' : Hp) (g' : G) (rr : Nat), X.N.length ≤ rr → Sok X.K (rcOf sg X.N.length).κr ρ g' σ' H' → Pres X.N.length X.N.length g H g' H' → Fx (rcOf sg X.N.length) (L2.start X.N vs) σ' → Own X.K H' g' d sg.r rr [] v → Q v H' := fun v σ' H' g' rr hr S' P' F' o' => by
      refine post v H' g' rr (Nat.le_trans h1 hr) S'.gok ⟨P'.fz, P'.un, fun a r p _ h3 _ => by omega, fun a r p _ h3 _ => by omega, P'.tu⟩ o' fun j k d' v' ek ed ev => ?_
      have ek' : (rcOf sg X.N.length).κr[j]? = some (some k) := by
        show (sg.ks' ++ _)[j]? = _
        rw [List.getElem?_append_left (List.getElem?_eq_some_iff.mp ek).1]
        exact ek
      have hρ := (outsD_get ex).2 j k d' (by rw [Nat.zero_add]; exact ek) ed
      rw [Nat.zero_add] at hρ
      obtain ⟨v2, e2, o2⟩ := S'.ok j k d' ek' hρ
      rw [F' j k ek', st j v' ev] at e2
      cases e2
      exact o2
    rcases eo with rfl | ⟨rfl, rfl⟩
    · exact fun v σ' H' g' rr hr S' P' F' o' => fin v σ' H' g' rr hr S' P' F' o'
    · exact fun σ' H' g' S' P' F' => fin .non σ' H' g' X.N.length (Nat.le_refl _) S' P' F' rfl
theorem fnSp_len {sg : Sg} {f : FM} {ps : List Str} (h : ps.length = sg.ks.length) (vs : List V) (H : Hp) (Q : VK) (E : XK) (q : fnSp K sg f vs H Q E) : vs.length = ps.length := by
  obtain ⟨g, ds, _, ao, _⟩ := q
  rw [(argsOk_len ao).2, h]
theorem fM_len {np n : Nat} {ks' : List (Option Nat)} {m : SM} (ds : List D) (d : D) (es : List D) (h : fM np n ks' m ds = some (d, es)) : ds.length = np ∧ es.length = np := by
  obtain ⟨h1, o, ρ, _, _, h2⟩ := fM_some h
  exact ⟨h1, by rw [(outsD_get h2).1, h1]⟩
def mCall (f : FM) (ml : ML) : M := fun ρ => (ml ρ).bind fun x => (f x.1).map fun y => (y.1, x.2)
theorem mCall_some {f : FM} {ml : ML} {ρ ρ' : DE} {d : D} (h : mCall f ml ρ = some (d, ρ')) : ∃ ds es, ml ρ = some (ds, ρ') ∧ f ds = some (d, es) := by
  unfold mCall at h
  cases e : ml ρ with
  | none => rw [e] at h; cases h
  | some p =>
    rw [e] at h
    simp only [Option.bind_some] at h
    cases e2 : f p.1 with
    | none => rw [e2] at h; cases h
    | some b => rw [e2] at h; cases h; exact ⟨p.1, b.2, rfl, e2⟩
def gAll (H : Hp) : G := fun a => match H a with
  | none => .un
  | some _ => .fz
theorem gAll_fz {H : Hp} {a : Addr} (h : H a ≠ none) : gAll H a = .fz := by
  unfold gAll
  cases e : H a with
  | none => exact (h e).elim
  | some o => rfl
theorem gAll_gok (H : Hp) (a : Addr) (h : gAll H a ≠ .un) : H a ≠ none := fun e => h (by unfold gAll; rw [e])
theorem rep_all {H : Hp} : (d : D) → ∀ {v r p}, Rep K H d v → Own K H (gAll H) d 0 r p v
  | .non, _, _, _, h => h
  | .bl _, _, _, _, h => h
  | .int _, _, _, _, h => h
  | .str _, _, _, _, h => h
  | .obj _, _, _, _, h => h
  | .gon, _, _, _, h => h
  | .ins c ds, _, _, _, h => by
    obtain ⟨a, dx, vs, e, ha, hc, hl⟩ := h
    exact ⟨a, dx, vs, e, ha, hc, gAll_fz (by rw [ha]; simp), go ds hl⟩
  | .tup ds, _, _, _, h => by
    obtain ⟨a, vs, e, ha, hl⟩ := h
    exact ⟨a, vs, e, ha, go ds hl⟩
  | .lst ds, _, _, _, h => by
    obtain ⟨a, vs, e, ha, hl⟩ := h
    exact ⟨a, vs, e, ha, gAll_fz (by rw [ha]; simp), go ds hl⟩
  | .rol ns, _, _, _, h => h
  | .dic q ds, _, _, _, h => by
    obtain ⟨a, vs, e, ha, hq, hl⟩ := h
    exact ⟨a, vs, e, ha.imp id fun z => ⟨rfl, z⟩, hq, gAll_fz (by rcases ha with z | ⟨o, z⟩ <;> rw [z] <;> simp), go ds hl⟩
  | .nd q ds, _, _, _, h => by
    obtain ⟨a, es, e, ha, hq, hn, hl⟩ := h
    exact ⟨a, es, e, ha.imp id fun z => ⟨rfl, z⟩, hq, hn, gAll_fz (by rcases ha with z | ⟨o, z⟩ <;> rw [z] <;> simp), go ds hl⟩
where
  go : (ds : List D) → ∀ {vs r p i}, RepL K H ds vs → OwnL K H (gAll H) ds 0 r p i vs
  | [], _, _, _, _, h => h
  | d :: ds, _, _, _, _, h => by
    obtain ⟨v, w, e, h1, h2⟩ := h
    exact ⟨v, w, e, rep_all d h1, go ds h2⟩
theorem args_all {H : Hp} : ∀ {ds : List D} {vs : List V} {j n : Nat}, ds.length = n → RepL K H ds vs → ArgsOk K H (gAll H) (List.replicate n 0) j ds vs
  | [], _, _, _, e, h => by
    cases e
    cases (show _ = _ from h)
    exact ⟨rfl, rfl⟩
  | d :: ds, _, _, _, e, h => by
    cases e
    obtain ⟨v, w, rfl, h1, h2⟩ := h
    exact ⟨d, ds, v, w, rfl, rfl, rep_all d h1, args_all rfl h2⟩
theorem call_pure {e : Expr} {es : List Expr} {ml : ML} {ms : List Am} {pu : Bool} {f : FM} {n r : Nat} {ks' : List (Option Nat)} {E : XK} (ha : JA X κ es ml ms κ1 pu) (hm : allRz ms = true) (hlen : ∀ ds d es, f ds = some (d, es) → ds.length = n ∧ es.length = n)
    (mk : ∀ {t : TA}, PA X es t → PE X e (tCall (fnSp X.K ⟨List.replicate n 0, r, ks'⟩ f) [] E t)) {rz : Rz} (hr : rz = .rep ∨ (rz = .own r ∧ 99 ≤ r)) : J X κ e (mCall f ml) rz κ1 pu := by
  refine ⟨fun t ht => PE.imp (mk (ha.run t ht)) fun σ H Q z q => ?_, fun hp ρ d ρ' e => ?_⟩
  · obtain ⟨g, ρ, S, d, ρ', em, post⟩ := q z
    obtain ⟨ds, es, e1, e2⟩ := mCall_some em
    refine fun _ => ⟨g, ρ, S, ds, ρ', e1, fun vs H1 g1 S1 P1 s1 r1 => ?_⟩
    obtain ⟨l1, l2⟩ := hlen _ _ _ e2
    rw [List.append_nil]
    refine ⟨gAll H1, ds, gAll_gok H1, args_all l1 (rows_repL hm r1), d, es, e2, by rw [l1, l2], fun v H' g' rr hrr gok' P o _ => ?_⟩
    have sm : Same H1 H' := fun a u e => by rw [(P.fz a (gAll_fz (by rw [e]; simp))).2]; exact e
    have old : ∀ a, H1 a ≠ none → g' a = .fz := fun a h => (P.fz a (gAll_fz h)).1
    have sm' : ∀ a, H1 a ≠ none → H' a = H1 a := fun a h => (P.fz a (gAll_fz h)).2
    rcases hr with rfl | ⟨rfl, h99⟩
    · exact post v H' g1 (S1.grow sm) (P1.trans (Pres.grow S1.gok sm)) (fun e => (s1 e).trans sm) (own_rep d o)
    · let g2 : G := fun a => match H1 a with
        | some _ => g1 a
        | none => (match g' a with
          | .ow r' q => if r' = rr then .ow t q else .un
          | _ => .un)
      have g2o : ∀ a, H1 a ≠ none → g2 a = g1 a := fun a h => by
        show (match H1 a with | some _ => g1 a | none => _) = _
        cases e : H1 a with
        | none => exact (h e).elim
        | some u => rfl
      have g2n : ∀ a, H1 a = none → g2 a = (match g' a with
          | .ow r' q => if r' = rr then .ow t q else .un
          | _ => .un) := fun a h => by
        show (match H1 a with | some _ => g1 a | none => _) = _
        rw [h]
      have P2 : Pres X.N.length t g1 H1 g2 H' := by
        refine ⟨fun a h => ?_, fun a h hn => ⟨(g2o a hn).trans h, sm' a hn⟩, fun a r' p h1 h2 h => ?_, fun a r' p h1 h2 h => ?_, fun a u h _ => sm a u h⟩
        · have := S1.gok a (by rw [h]; simp)
          exact ⟨(g2o a this).trans h, sm' a this⟩
        · have := S1.gok a (by rw [h]; simp)
          exact ⟨(g2o a this).trans h, sm' a this⟩
        · cases e : H1 a with
          | some u => rw [g2o a (by rw [e]; simp)] at h; exact h
          | none =>
            rw [g2n a e] at h
            split at h
            · split at h
              · cases h; omega
              · cases h
            · cases h
      refine post v H' g2 ⟨fun i k d' h1 h2 => ?_, fun a h => ?_, S1.len, S1.lek⟩ (P1.trans P2) (fun e => (s1 e).trans sm) ?_
      · obtain ⟨v', e', o'⟩ := S1.ok i k d' h1 h2
        refine ⟨v', e', own_conv (fun a u z _ => sm a u z) d' (.inr fun a z => P2.fz a z) (fun a q z hh => ?_) (fun _ z => z) o'⟩
        have := S1.gok a (by rw [z]; simp)
        exact ⟨sm' a this, by rw [if_pos hh, g2o a this]; exact z⟩
      · cases e : H1 a with
        | some u => rw [sm' a (by rw [e]; simp), e]; simp
        | none =>
          rw [g2n a e] at h
          refine gok' a fun z => ?_
          rw [z] at h
          exact h rfl
      · refine own_conv (fun _ _ z _ => z) d (.inl h99) (fun a q z hh => ⟨rfl, ?_⟩) (fun _ z => z) o
        have e : H1 a = none := by
          cases e : H1 a with
          | none => rfl
          | some u =>
            have := old a (by rw [e]; simp)
            rw [z] at this
            cases this
        rw [if_pos hh, g2n a e, z]
        simp
  · obtain ⟨ds, es, e1, e2⟩ := mCall_some e
    exact ha.pur hp _ _ _ e1
end VS
namespace VS
open PySem PySem.Spec PyProof.Rows L2
variable {K : PySem.W.Frag} {X : Cx} {κ κ1 κ2 κ3 κ4 : OE} {pos : Pos} {rc : RC}
def ioR (io : Option (Nat × Nat)) (r : Nat) : Option Nat := match io with
  | some (j0, i0) => if r = i0 then some j0 else none
  | none => none
def msOk (io : Option (Nat × Nat)) (κ : OE) : Nat → List Am → List Nat → Bool
  | _, [], [] => true
  | j, .rz (.own k) :: ms, k' :: ks => decide (k = k') && msOk io κ (j + 1) ms ks
  | j, .io i :: ms, k' :: ks => decide (io = some (j, i)) && (decide (κ[i]? = some (some k')) && msOk io κ (j + 1) ms ks)
  | _, _, _ => false
def gcall (t m : Nat) (io : Option (Nat × Nat)) (g : G) : G := fun a => match g a with
  | .ow r q => if t ≤ r ∧ r < t + m then .ow (r - t) q else (match ioR io r with
    | some j => .ow j q
    | none => .un)
  | z => z
theorem msOk_len {io : Option (Nat × Nat)} {κ : OE} : ∀ {j : Nat} {ms : List Am} {ks : List Nat}, msOk io κ j ms ks = true → ms.length = ks.length
  | _, [], [], _ => rfl
  | _, .rz (.own k) :: ms, k' :: ks, h => by
    have h' : (decide (k = k') && msOk io κ _ ms ks) = true := h
    rw [Bool.and_eq_true] at h'
    simp [msOk_len h'.2]
  | _, .io i :: ms, k' :: ks, h => by
    have h' : (decide (io = some (_, i)) && (decide (κ[i]? = some (some k')) && msOk io κ _ ms ks)) = true := h
    simp only [Bool.and_eq_true] at h'
    simp [msOk_len h'.2.2]
  | _, [], _ :: _, h => by cases h
  | _, .rz .rep :: _, _, h => by cases h
  | _, .rz (.own _) :: _, [], h => by cases h
  | _, .io _ :: _, [], h => by cases h
theorem args_call {n t m : Nat} {io : Option (Nat × Nat)} {g : G} {H : Hp} {ρ : DE} {σ : L2.St} (S : Sok K κ ρ g σ H) (hσ : σ.length = n) (hn : n ≤ t) : ∀ {j : Nat} {ms : List Am} {ks : List Nat} {ds : List D} {vs : List V}, msOk io κ j ms ks = true → j + ms.length ≤ m →
    RowsOk K H g σ ρ (t + j) ms ds vs → ArgsOk K H (gcall t m io g) ks j ds vs
  | _, [], [], _, _, _, _, h => h
  | j, .rz (.own k) :: ms, k' :: ks, _, _, h, hl, r => by
    have h' : (decide (k = k') && msOk io κ (j + 1) ms ks) = true := h
    rw [Bool.and_eq_true, decide_eq_true_eq] at h'
    obtain ⟨rfl, h'⟩ := h'
    obtain ⟨d, ds', v, vs', rfl, rfl, h1, h2⟩ := r
    simp only [List.length_cons] at hl
    refine ⟨d, ds', v, vs', rfl, rfl, own_conv (fun _ _ z _ => z) d (.inr fun a z => ⟨by unfold gcall; rw [z], rfl⟩) (fun a q z hh => ⟨rfl, ?_⟩) (fun _ z => z) h1, args_call S hσ hn h' (by omega) (by rw [← Nat.add_assoc]; exact h2)⟩
    rw [if_pos hh]
    unfold gcall
    rw [z]
    simp only []
    rw [if_pos (by omega)]
    congr 1
    omega
  | j, .io i :: ms, k' :: ks, _, _, h, hl, r => by
    have h' : (decide (io = some (j, i)) && (decide (κ[i]? = some (some k')) && msOk io κ (j + 1) ms ks)) = true := h
    simp only [Bool.and_eq_true, decide_eq_true_eq] at h'
    obtain ⟨e1, e2, h'⟩ := h'
    obtain ⟨d, ds', v, vs', rfl, rfl, ⟨h1, h3⟩, h2⟩ := r
    simp only [List.length_cons] at hl
    obtain ⟨v2, e3, o⟩ := S.ok i k' d e2 h3
    rw [h1] at e3
    cases e3
    have hi : i < t := by
      have := (List.getElem?_eq_some_iff.mp h1).1
      omega
    refine ⟨d, ds', v, vs', rfl, rfl, own_conv (fun _ _ z _ => z) d (.inr fun a z => ⟨by unfold gcall; rw [z], rfl⟩) (fun a q z hh => ⟨rfl, ?_⟩) (fun _ z => z) o, args_call S hσ hn h' (by omega) (by rw [← Nat.add_assoc]; exact h2)⟩
    rw [if_pos hh]
    unfold gcall
    rw [z]
    simp only []
    rw [if_neg (by omega), e1]
    simp [ioR]
  | _, [], _ :: _, _, _, h, _, _ => by cases h
  | _, .rz .rep :: _, _, _, _, h, _, _ => by cases h
  | _, .rz (.own _) :: _, [], _, _, h, _, _ => by cases h
  | _, .io _ :: _, [], _, _, h, _, _ => by cases h
def gback (t m rr : Nat) (io : Option (Nat × Nat)) (g g' : G) : G := fun a => match g' a with
  | .fz => .fz
  | .ow r q => if r = rr then .ow t q else (match io with
    | some (j0, i0) => if r = j0 then .ow i0 q else .un
    | none => .un)
  | .un => (match gcall t m io g a with
    | .un => g a
    | _ => .un)
def upO (io : Option (Nat × Nat)) (ks' : List (Option Nat)) (κ : OE) : OE := match io with
  | some (j0, i0) => κ.set i0 ((ks'[j0]?).getD none)
  | none => κ
def upD (io : Option (Nat × Nat)) (es : List D) (ρ : DE) : DE := match io with
  | some (j0, i0) => ρ.set i0 es[j0]?
  | none => ρ
def mCallO (f : FM) (io : Option (Nat × Nat)) (ml : ML) : M := fun ρ => (ml ρ).bind fun x => (f x.1).map fun y => (y.1, upD io y.2 x.2)
theorem mCallO_some {f : FM} {io : Option (Nat × Nat)} {ml : ML} {ρ ρ' : DE} {d : D} (h : mCallO f io ml ρ = some (d, ρ')) : ∃ ds ρ1 es, ml ρ = some (ds, ρ1) ∧ f ds = some (d, es) ∧ ρ' = upD io es ρ1 := by
  unfold mCallO at h
  cases e : ml ρ with
  | none => rw [e] at h; cases h
  | some p =>
    rw [e] at h
    simp only [Option.bind_some] at h
    cases e2 : f p.1 with
    | none => rw [e2] at h; cases h
    | some b => rw [e2] at h; cases h; exact ⟨p.1, p.2, b.2, rfl, e2, rfl⟩
def ioIn (io : Option (Nat × Nat)) (m n : Nat) : Bool := match io with
  | some (j0, i0) => decide (j0 < m) && decide (i0 < n)
  | none => true
theorem rows_io {H : Hp} {g : G} {σ : L2.St} {ρ : DE} {j0 i0 : Nat} {κ : OE} : ∀ {ms : List Am} {t j : Nat} {ks : List Nat} {ds : List D} {vs : List V}, msOk (some (j0, i0)) κ j ms ks = true → RowsOk K H g σ ρ t ms ds vs →
    ∀ i, ms[i]? = some (.io i0) → j + i = j0 ∧ ∃ v, vs[i]? = some v ∧ σ[i0]? = some (some v)
  | [], _, _, _, _, _, _, _, i, e => by simp at e
  | .rz (.own k) :: ms, t, j, k' :: ks, _, _, h, r, i, e => by
    have h' : (decide (k = k') && msOk (some (j0, i0)) κ (j + 1) ms ks) = true := h
    rw [Bool.and_eq_true] at h'
    obtain ⟨d, ds', v, vs', rfl, rfl, h1, h2⟩ := r
    cases i with
    | zero => cases e
    | succ i =>
      obtain ⟨q1, q2⟩ := rows_io h'.2 h2 i e
      exact ⟨by omega, q2⟩
  | .io i :: ms, t, j, k' :: ks, _, _, h, r, i2, e => by
    have h' : (decide (some (j0, i0) = some (j, i)) && (decide (κ[i]? = some (some k')) && msOk (some (j0, i0)) κ (j + 1) ms ks)) = true := h
    simp only [Bool.and_eq_true, decide_eq_true_eq] at h'
    obtain ⟨d, ds', v, vs', rfl, rfl, h1, h2⟩ := r
    cases i2 with
    | zero =>
      have e1 := h'.1
      cases e1
      exact ⟨rfl, v, rfl, h1.1⟩
    | succ i2 =>
      obtain ⟨q1, q2⟩ := rows_io h'.2.2 h2 i2 e
      exact ⟨by omega, q2⟩
  | .rz .rep :: _, _, _, _, _, _, h, _, _, _ => by cases h
  | .rz (.own _) :: _, _, _, [], _, _, h, _, _, _ => by cases h
  | .io _ :: _, _, _, [], _, _, h, _, _, _ => by cases h
def ioThere (io : Option (Nat × Nat)) (ms : List Am) : Bool := match io with
  | some (j0, i0) => (match ms[j0]? with
    | some (.io i) => decide (i = i0)
    | _ => false)
  | none => true
theorem call_own {e : Expr} {es : List Expr} {ml : ML} {ms : List Am} {pu : Bool} {f : FM} {sg : Sg} {io : Option (Nat × Nat)} {E : XK} (ha : JA X κ es ml ms κ1 pu) (hm : msOk io κ1 0 ms sg.ks = true) (hio : ioIn io sg.ks.length X.N.length = true) (hth : ioThere io ms = true)
    (hlen : ∀ ds d es, f ds = some (d, es) → es.length = ds.length)
    (mk : ∀ {t : TA}, PA X es t → PE X e (tCall (fnSp X.K sg f) [] E t)) : J X κ e (mCallO f io ml) (.own sg.r) (upO io sg.ks' κ1) false := by
  refine ⟨fun t ht => PE.imp (mk (ha.run t ht)) fun σ H Q z q => ?_, fun hp => by cases hp⟩
  obtain ⟨g, ρ, S, d, ρ', em, post⟩ := q z
  obtain ⟨ds, ρ1, es, e1, e2, rfl⟩ := mCallO_some em
  refine fun _ => ⟨g, ρ, S, ds, ρ1, e1, fun vs H1 g1 S1 P1 s1 r1 => ?_⟩
  have hml := msOk_len hm
  show fnSp X.K sg f (vs ++ []) H1 Q E
  rw [List.append_nil]
  have lenσ : σ.length = X.N.length := z.2
  have ao : ArgsOk X.K H1 (gcall t sg.ks.length io g1) sg.ks 0 ds vs := args_call S1 lenσ ht (j := 0) hm (by omega) r1
  have gcn : ∀ a, gcall t sg.ks.length io g1 a ≠ .un → g1 a ≠ .un := fun a h zz => h (by unfold gcall; rw [zz])
  refine ⟨_, ds, fun a h => S1.gok a (gcn a h), ao, d, es, e2, hlen _ _ _ e2, fun v H' g' rr hrr gok' P o ap => ?_⟩
  -- the map behind
  have bfz : ∀ a, g' a = .fz → gback t sg.ks.length rr io g1 g' a = .fz := fun a h => by unfold gback; rw [h]
  have keep : ∀ a, gcall t sg.ks.length io g1 a = .un → H1 a ≠ none → gback t sg.ks.length rr io g1 g' a = g1 a ∧ H' a = H1 a := fun a h hn => by
    obtain ⟨h1, h2⟩ := P.un a h hn
    refine ⟨?_, h2⟩
    unfold gback
    rw [h1]
    simp only []
    rw [h]
  have cfz : ∀ a, g1 a = .fz → gcall t sg.ks.length io g1 a = .fz := fun a h => by unfold gcall; rw [h]
  have cun : ∀ a, g1 a = .un → gcall t sg.ks.length io g1 a = .un := fun a h => by unfold gcall; rw [h]
  have cow : ∀ a r q, g1 a = .ow r q → r < t → ioR io r = none → gcall t sg.ks.length io g1 a = .un := fun a r q h hr hi => by
    unfold gcall
    rw [h]
    simp only []
    rw [if_neg (by omega), hi]
  have ion : ∀ r, X.N.length ≤ r → ioR io r = none := fun r hr => by
    cases io with
    | none => rfl
    | some p =>
      obtain ⟨j0, i0⟩ := p
      have : decide (j0 < sg.ks.length) = true ∧ decide (i0 < X.N.length) = true := by
        have h : (decide (j0 < sg.ks.length) && decide (i0 < X.N.length)) = true := hio
        rw [Bool.and_eq_true] at h
        exact h
      have h2 := of_decide_eq_true this.2
      show (if r = i0 then some j0 else none) = none
      rw [if_neg (by omega)]
  have P2 : Pres X.N.length t g1 H1 (gback t sg.ks.length rr io g1 g') H' := by
    refine ⟨fun a h => ?_, fun a h hn => ?_, fun a r p h1 h2 h => ?_, fun a r p h1 h2 h => ?_, fun a u h hs => P.tu a u h hs⟩
    · obtain ⟨h3, h4⟩ := P.fz a (cfz a h)
      exact ⟨bfz a h3, h4⟩
    · obtain ⟨h3, h4⟩ := keep a (cun a h) hn
      exact ⟨h3.trans h, h4⟩
    · obtain ⟨h3, h4⟩ := keep a (cow a r p h h2 (ion r h1)) (S1.gok a (by rw [h]; simp))
      exact ⟨h3.trans h, h4⟩
    · unfold gback at h
      split at h
      · cases h
      · split at h
        · cases h; omega
        · split at h
          · rename_i j0 i0
            split at h
            · cases h
              have h' : (decide (j0 < sg.ks.length) && decide (r < X.N.length)) = true := hio
              rw [Bool.and_eq_true] at h'
              have := of_decide_eq_true h'.2
              omega
            · cases h
          · cases h
      · split at h
        · exact h
        · cases h
  refine post v H' _ ⟨fun i k d' h1 h2 => ?_, fun a h => ?_, ?_, ?_⟩ (P1.trans P2) (fun e => by cases e) ?_
  · -- the slots
    cases hio2 : ioR io i with
    | none =>
      have h1' : κ1[i]? = some (some k) := by
        cases io with
        | none => exact h1
        | some p =>
          obtain ⟨j0, i0⟩ := p
          have hne : i ≠ i0 := fun e => by
            have : (if i = i0 then some j0 else none) = none := hio2
            rw [if_pos e] at this
            cases this
          have h1'' : (κ1.set i0 ((sg.ks'[j0]?).getD none))[i]? = some (some k) := h1
          rw [List.getElem?_set_ne (Ne.symm hne)] at h1''
          exact h1''
      have h2' : ρ1[i]? = some (some d') := by
        cases io with
        | none => exact h2
        | some p =>
          obtain ⟨j0, i0⟩ := p
          have hne : i ≠ i0 := fun e => by
            have : (if i = i0 then some j0 else none) = none := hio2
            rw [if_pos e] at this
            cases this
          have h2'' : (ρ1.set i0 es[j0]?)[i]? = some (some d') := h2
          rw [List.getElem?_set_ne (Ne.symm hne)] at h2''
          exact h2''
      obtain ⟨v', e', o'⟩ := S1.ok i k d' h1' h2'
      have hi : i < t := by
        have := (List.getElem?_eq_some_iff.mp e').1
        omega
      refine ⟨v', e', own_conv (fun a u z hz => P.tu a u z hz) d' (.inr fun a z => P2.fz a z) (fun a q z hh => ?_) (fun _ z => z) o'⟩
      obtain ⟨h3, h4⟩ := keep a (cow a i _ z hi hio2) (S1.gok a (by rw [z]; simp))
      exact ⟨h4, by rw [if_pos hh]; exact h3.trans z⟩
    | some j =>
      cases io with
      | none => cases hio2
      | some p =>
        obtain ⟨j0, i0⟩ := p
        have e3 : i = i0 ∧ j0 = j := by
          have : (if i = i0 then some j0 else none) = some j := hio2
          by_cases e : i = i0
          · rw [if_pos e] at this; cases this; exact ⟨e, rfl⟩
          · rw [if_neg e] at this; cases this
        obtain ⟨rfl, rfl⟩ := e3
        have h1'' : (κ1.set i ((sg.ks'[j0]?).getD none))[i]? = some (some k) := h1
        have h2'' : (ρ1.set i es[j0]?)[i]? = some (some d') := h2
        rcases set_some h1'' with ⟨_, ek, _⟩ | ⟨hh, _⟩
        · rcases set_some h2'' with ⟨_, ed, _⟩ | ⟨hh, _⟩
          · have ek' : sg.ks'[j0]? = some (some k) := by
              cases q : sg.ks'[j0]? with
              | none => rw [q] at ek; cases ek
              | some o => rw [q] at ek; cases ek; rfl
            have hth' : ms[j0]? = some (.io i) := by
              have h : (match ms[j0]? with
                | some (.io i2) => decide (i2 = i)
                | _ => false) = true := hth
              split at h
              · rename_i i2 e4
                rw [of_decide_eq_true h] at e4
                exact e4
              · cases h
            obtain ⟨_, v', ev, es'⟩ := rows_io hm r1 j0 hth'
            refine ⟨v', es', own_conv (fun a u z _ => z) d' (.inr fun a z => ⟨bfz a z, rfl⟩) (fun a q z hh => ⟨rfl, ?_⟩) (fun _ z => z) (ap j0 k d' v' ek' ed.symm ev)⟩
            rw [if_pos hh]
            unfold gback
            rw [z]
            simp only []
            have hj : j0 < sg.ks.length := by
              have h' : (decide (j0 < sg.ks.length) && decide (i < X.N.length)) = true := hio
              rw [Bool.and_eq_true] at h'
              exact of_decide_eq_true h'.1
            rw [if_neg (by omega)]
            simp
          · exact (hh rfl).elim
        · exact (hh rfl).elim
  · unfold gback at h
    split at h
    · exact gok' a (by rename_i e; rw [e]; simp)
    · exact gok' a (by rename_i e; rw [e]; simp)
    · rename_i e
      split at h
      · rename_i e2
        have hn := S1.gok a h
        rw [(P.un a e2 hn).2]
        exact hn
      · exact (h rfl).elim
  · cases io with
    | none => exact S1.len
    | some p => show (ρ1.set _ _).length = _; rw [List.length_set]; exact S1.len
  · cases io with
    | none => exact S1.lek
    | some p => show (κ1.set _ _).length = _; rw [List.length_set]; exact S1.lek
  · refine own_conv (fun _ _ z _ => z) d (.inr fun a z => ⟨bfz a z, rfl⟩) (fun a q z hh => ⟨rfl, ?_⟩) (fun _ z => z) o
    rw [if_pos hh]
    unfold gback
    rw [z]
    simp
end VS
namespace VS
open PySem PySem.Spec PyProof.Rows L2
variable {K : PySem.W.Frag} {X : Cx} {κ κ1 κ2 κ3 κ4 : OE} {pos : Pos} {rc : RC}
theorem Sok.rewrite {ρ : DE} {g g' : G} {σ : L2.St} {H H' : Hp} {i k : Nat} {L : Addr} {dN : D} {o : HO} (S : Sok K κ ρ g σ H) (hk : κ[i]? = some (some k)) (hv : σ[i]? = some (some (.ref L)))
    (hL : H L = some o) (hs : stb o = false) (hg : g L = .ow i []) (hH : ∀ a, a ≠ L → H' a = H a) (hL' : H' L ≠ none) (hg' : ∀ a, g a ≠ .un → (∀ q, g a ≠ .ow i q) → (∀ r q, g a = .ow r q → r < σ.length) → g' a = g a) (hgz : ∀ a, g a = .fz → g' a = .fz) (hgn : ∀ a, g' a ≠ .un → g a ≠ .un)
    (o' : Own K H' g' dN k i [] (.ref L)) : Sok K κ (ρ.set i (some dN)) g' σ H' where
  ok := fun j k' d' h1 h2 => by
    rcases set_some h2 with ⟨rfl, e, _⟩ | ⟨hj, h2⟩
    · cases e
      rw [hk] at h1
      cases h1
      exact ⟨_, hv, o'⟩
    · obtain ⟨v', es, w⟩ := S.ok j k' d' h1 h2
      have hjl := (List.getElem?_eq_some_iff.mp es).1
      refine ⟨v', es, own_conv (fun a u z hz => ?_) d' (.inr fun a z => ⟨hgz a z, hH a ?_⟩) (fun a q z hh => ⟨hH a ?_, ?_⟩) (fun _ z => z) w⟩
      · rw [hH a]
        · exact z
        · rintro rfl
          rw [hL] at z
          cases z
          rw [hs] at hz
          cases hz
      · rintro rfl
        rw [hg] at z
        cases z
      · rintro rfl
        rw [hg] at z
        injection z with z1 z2
        exact hj z1.symm
      · rw [if_pos hh, hg' a (by rw [z]; simp) (fun q' e => by rw [z] at e; injection e with z1 z2; exact hj z1) (fun r q' e => by rw [z] at e; cases e; exact hjl)]
        exact z
  gok := fun a h => by
    by_cases e : a = L
    · subst e; exact hL'
    · rw [hH a e]; exact S.gok a (hgn a h)
  len := by rw [List.length_set]; exact S.len
  lek := S.lek
theorem Pres.rewrite {n t i : Nat} {g g' : G} {H H' : Hp} {L : Addr} {o : HO} (gok : ∀ a, g a ≠ .un → H a ≠ none) (hi : i < n) (hL : H L = some o) (hs : stb o = false) (hg : g L = .ow i []) (hH : ∀ a, a ≠ L → H' a = H a)
    (hgz : ∀ a, g a = .fz → g' a = .fz) (hgu : ∀ a, g a = .un → g' a = .un) (hgt : ∀ a r q, n ≤ r → r < t → g a = .ow r q → g' a = .ow r q) (hgm : ∀ a r q, n ≤ r → r < t → g' a = .ow r q → g a = .ow r q) : Pres n t g H g' H' where
  fz := fun a z => ⟨hgz a z, hH a (by rintro rfl; rw [hg] at z; cases z)⟩
  un := fun a z _ => ⟨hgu a z, hH a (by rintro rfl; rw [hg] at z; cases z)⟩
  tp := fun a r p h1 h2 z => ⟨hgt a r p h1 h2 z, hH a (by rintro rfl; rw [hg] at z; injection z with z1 z2; omega)⟩
  tm := hgm
  tu := fun a u z hz => by
    rw [hH a]
    · exact z
    · rintro rfl
      rw [hL] at z
      cases z
      rw [hs] at hz
      cases hz
def sApp (i : Nat) (me : M) : SM := fun ρ => match ρ[i]? with
  | some (some (.lst _)) => (me ρ).bind fun x => (match x.2[i]? with
    | some (some (.lst ds)) => if ds.length < 16777216 then some (.nx (x.2.set i (some (.lst (ds ++ [x.1]))))) else none
    | _ => none)
  | _ => none
theorem sApp_some {i : Nat} {me : M} {ρ : DE} {o : Out} (h : sApp i me ρ = some o) : ∃ ds0 d ρ1 ds, ρ[i]? = some (some (.lst ds0)) ∧ me ρ = some (d, ρ1) ∧ ρ1[i]? = some (some (.lst ds)) ∧ ds.length < sizeLine ∧ o = .nx (ρ1.set i (some (.lst (ds ++ [d])))) := by
  unfold sApp at h
  split at h
  · rename_i ds0 e0
    cases e : me ρ with
    | none => rw [e] at h; cases h
    | some p =>
      rw [e] at h
      simp only [Option.bind_some] at h
      split at h
      · rename_i ds e1
        split at h
        · cases h
          exact ⟨ds0, p.1, p.2, ds, e0, rfl, e1, by rw [sizeLine_eq]; assumption, rfl⟩
        · cases h
      · cases h
  · cases h
theorem lst_own {H : Hp} {g : G} {ds : List D} {k r : Nat} {p : List Nat} {v : V} (o : Own K H g (.lst ds) k r p v) (h0 : k ≠ 0) : ∃ L vs, v = .ref L ∧ H L = some (.lst vs) ∧ g L = .ow r p ∧ vs.length = ds.length := by
  obtain ⟨L, vs, e, h1, h2, h3⟩ := o
  rw [if_neg h0] at h2
  exact ⟨L, vs, e, h1, h2, ownL_len h3⟩
theorem js_app {e : Expr} {me : M} {i k : Nat} {k0 : Nat} {pu : Bool} {st : Stmt} (he : J X κ e me (.own (lv k)) κ1 pu) (hk0 : κ[i]? = some (some k0)) (hk : κ1[i]? = some (some k)) (h0 : k ≠ 0) (hi : i < X.N.length)
    (mk : ∀ {t : TE}, PE X e t → PS X st (tDrop (tBM X.K "list" rAppend (tVar i) (tCons t tNil)))) : JS X κ st (sApp i me) κ1 rc := by
  refine ⟨fun s0 t ht => PS.imp (mk (he.run t ht)) fun σ H D z q => ?_⟩
  obtain ⟨g, ρ, S, fx, o, em, post⟩ := q z
  obtain ⟨ds0, d, ρ1, ds, e0, e1, e2, hz, rfl⟩ := sApp_some em
  obtain ⟨v, ev, o0⟩ := S.ok i k0 _ hk0 e0
  obtain ⟨L, vs0, rfl, hL0, _⟩ := o0
  refine ⟨.ref L, ev, .inl ⟨rfl, vs0, SqL.of hL0⟩, fun _ => ⟨g, ρ, S, d, ρ1, e1, fun y H1 g1 S1 P1 s1 r1 => ?_⟩⟩
  obtain ⟨v', ev', o1⟩ := S1.ok i k _ hk e2
  rw [ev] at ev'
  cases ev'
  obtain ⟨L', vs, eL, hL, hg, hlen⟩ := lst_own o1 h0
  cases eL
  refine ⟨L, vs, y, rfl, rfl, hL, by rw [hlen]; exact hz, ?_⟩
  have hl : σ.length = X.N.length := z.2
  have o2 := own_push (y := y) t (by omega : i ≠ t) hL o1 h0 r1
  refine post σ _ (mvG t i [ds.length] (fun _ _ => false) g1) (S1.rewrite hk ev hL rfl hg (fun a h => upd_ne h) (by rw [upd_same]; simp) (fun a h1 h2 h3 => ?_) (fun a h => mvG_fz h) (fun a h => mvG_ne h) o2)
    (P1.trans (Pres.rewrite S1.gok hi hL rfl hg (fun a h => upd_ne h) (fun a h => mvG_fz h) (fun a h => mvG_un h) (fun a r q h1 h2 h => mvG_o (by omega) rfl h) fun a r q h1 h2 h => mvG_inv (by omega) h)) fx
  cases e : g1 a with
  | un => exact (h1 e).elim
  | fz => exact mvG_fz e
  | ow r q => exact mvG_o (by have := h3 r q e; omega) rfl e
theorem ownL_app {H : Hp} {g : G} : ∀ {ds : List D} {vs : List V} {i j l : Nat}, OwnL K H g ds 0 0 [] i vs → ∀ {es : List D} {ws : List V}, OwnL K H g es 0 0 [] j ws → OwnL K H g (ds ++ es) 0 0 [] l (vs ++ ws)
  | [], _, _, _, _, h, _, _, h2 => by cases (show _ = _ from h); exact ownL_fz (fun a z => ⟨z, rfl⟩) (fun _ _ z _ => z) h2
  | d :: ds, _, i, j, l, h, es, ws, h2 => by
    obtain ⟨v, w, rfl, o1, o2⟩ := h
    exact ⟨v, w ++ ws, rfl, own_fz (fun a z => ⟨z, rfl⟩) (fun _ _ z _ => z) o1, ownL_app o2 h2⟩
theorem ownL_take {H : Hp} {g : G} {k r : Nat} {p : List Nat} : ∀ (n : Nat) {ds : List D} {vs : List V} {i : Nat}, OwnL K H g ds k r p i vs → OwnL K H g (ds.take n) k r p i (vs.take n)
  | 0, _, _, _, _ => by simp only [List.take_zero]; rfl
  | n + 1, [], _, _, h => by cases (show _ = _ from h); rfl
  | n + 1, d :: ds, _, _, h => by
    obtain ⟨v, w, rfl, o1, o2⟩ := h
    exact ⟨v, _, rfl, o1, ownL_take n o2⟩
theorem mut1 {n t i : Nat} {ρ : DE} {g : G} {σ : L2.St} {H : Hp} {L : Addr} {ds ds' : List D} {vs vs' : List V} (S : Sok K κ ρ g σ H) (hn : σ.length = n) (hk : κ[i]? = some (some 1)) (hv : σ[i]? = some (some (.ref L))) (hL : H L = some (.lst vs)) (hg : g L = .ow i [])
    (ol : OwnL K H g ds' 0 0 [] 0 vs') : Sok K κ (ρ.set i (some (.lst ds'))) g σ (upd H L (.lst vs')) ∧ Pres n t g H g (upd H L (.lst vs')) := by
  have hi : i < n := by
    have := (List.getElem?_eq_some_iff.mp hv).1
    omega
  have P : Pres n t g H g (upd H L (.lst vs')) := Pres.rewrite S.gok hi hL rfl hg (fun a h => upd_ne h) (fun _ z => z) (fun _ z => z) (fun _ _ _ _ _ z => z) fun _ _ _ _ _ z => z
  refine ⟨S.rewrite hk hv hL rfl hg (fun a h => upd_ne h) (by rw [upd_same]; simp) (fun _ _ _ _ => rfl) (fun _ z => z) (fun _ z => z) ?_, P⟩
  exact ⟨L, vs', rfl, upd_same, by rw [if_neg (by decide)]; exact hg, ownL_fz P.fz P.tu ol⟩
theorem own1_list {ρ : DE} {g : G} {σ : L2.St} {H : Hp} {i : Nat} {ds : List D} (S : Sok K κ ρ g σ H) (hk : κ[i]? = some (some 1)) (e : ρ[i]? = some (some (.lst ds))) : ∃ L vs, σ[i]? = some (some (.ref L)) ∧ H L = some (.lst vs) ∧ g L = .ow i [] ∧ OwnL K H g ds 0 0 [] 0 vs := by
  obtain ⟨v, ev, L, vs, rfl, h1, h2, h3⟩ := S.ok i 1 _ hk e
  rw [if_neg (by decide)] at h2
  exact ⟨L, vs, ev, h1, h2, ownL_fz (fun a z => ⟨z, rfl⟩) (fun _ _ z _ => z) h3⟩
def sRev (i : Nat) : SM := fun ρ => match ρ[i]? with
  | some (some (.lst ds)) => some (.nx (ρ.set i (some (.lst ds.reverse))))
  | _ => none
def sAug (f : Int → Int → Int) (i : Nat) (me : M) : SM := fun ρ => match ρ[i]? with
  | some (some (.int a)) => (match me ρ with
    | some (.int b, ρ1) => some (.nx (ρ1.set i (some (.int (f a b)))))
    | _ => none)
  | _ => none
def sSet (i : Nat) (me mj : M) : SM := fun ρ => (me ρ).bind fun x => match x.2[i]? with
  | some (some (.lst ds)) => (match mj x.2 with
    | some (.int k, ρ2) => (match ixN ds.length k with
      | some j => some (.nx (ρ2.set i (some (.lst (ds.set j x.1)))))
      | none => none)
    | _ => none)
  | _ => none
theorem sSet_some {i : Nat} {me mj : M} {ρ : DE} {o : Out} (h : sSet i me mj ρ = some o) : ∃ d ρ1 ds k ρ2 j, me ρ = some (d, ρ1) ∧ ρ1[i]? = some (some (.lst ds)) ∧ mj ρ1 = some (.int k, ρ2) ∧ ixN ds.length k = some j ∧ o = .nx (ρ2.set i (some (.lst (ds.set j d)))) := by
  unfold sSet at h
  cases e : me ρ with
  | none => rw [e] at h; cases h
  | some p =>
    rw [e] at h
    simp only [Option.bind_some] at h
    split at h
    · rename_i ds e1
      split at h
      · rename_i k ρ2 e2
        split at h
        · rename_i j e3
          cases h
          exact ⟨p.1, p.2, ds, k, ρ2, j, rfl, e1, e2, e3, rfl⟩
        · cases h
      · cases h
    · cases h
theorem own_setI {H : Hp} {g : G} {t k i j : Nat} {L : Addr} {ds : List D} {e : D} {y : V} {vs : List V} (ht : i ≠ t) (hL : H L = some (.lst vs)) (o : Own K H g (.lst ds) k i [] (.ref L)) (h0 : k ≠ 0) (oe : Own K H g e (lv k) t [] y) (hj : j < ds.length) :
    Own K (upd H L (.lst (vs.set j y))) (mvG t i [j] (fun _ _ => false) g) (.lst (ds.set j e)) k i [] (.ref L) := by
  obtain ⟨a, vs', e1, h1, h2, h3⟩ := o
  cases e1
  rw [hL] at h1
  cases h1
  rw [if_neg h0] at h2
  have nL : ∀ a r q, g a = .ow r q → (r ≠ i ∨ q ≠ []) → a ≠ L := fun a r q e h z => by
    subst z
    rw [h2] at e
    cases e
    rcases h with h | h
    · exact h rfl
    · exact h rfl
  have nf : ∀ a, g a = .fz → a ≠ L := fun a e z => by
    subst z
    rw [h2] at e
    cases e
  have st : ∀ a o, H a = some o → stb o = true → upd H L (.lst (vs.set j y)) a = some o := fun a o e hs => by
    rw [upd_ne]
    · exact e
    · rintro rfl
      rw [hL] at e
      cases e
      cases hs
  refine ⟨L, _, rfl, upd_same, by rw [if_neg h0]; exact mvG_o ht rfl h2, ?_⟩
  have conv1 : ∀ {d : D} {v : V} {m : Nat}, Own K H g d (lv k) i [m] v → Own K (upd H L (.lst (vs.set j y))) (mvG t i [j] (fun _ _ => false) g) d (lv k) i [m] v := fun {d v m} o1 =>
    own_conv st d (.inr fun a z => ⟨mvG_fz z, upd_ne (nf a z)⟩) (fun a q z hh => ⟨upd_ne (nL a _ _ z (.inr (by simp))), by rw [if_pos hh]; exact mvG_o ht rfl z⟩) (fun _ z => z) o1
  have all : ∀ {es : List D} {ws : List V} {m : Nat}, OwnL K H g es (lv k) i [] m ws → OwnL K (upd H L (.lst (vs.set j y))) (mvG t i [j] (fun _ _ => false) g) es (lv k) i [] m ws := by
    intro es
    induction es with
    | nil => intro ws m h; exact h
    | cons d es ih =>
      intro ws m h
      obtain ⟨v, w, rfl, o1, o2⟩ := h
      exact ⟨v, w, rfl, conv1 o1, ih o2⟩
  have put : ∀ {es : List D} {ws : List V} {m l : Nat}, m + l = j → l < es.length → OwnL K H g es (lv k) i [] m ws → OwnL K (upd H L (.lst (vs.set j y))) (mvG t i [j] (fun _ _ => false) g) (es.set l e) (lv k) i [] m (ws.set l y) := by
    intro es
    induction es with
    | nil => intro ws m l _ hl _; simp at hl
    | cons d es ih =>
      intro ws m l hml hl h
      obtain ⟨v, w, rfl, o1, o2⟩ := h
      cases l with
      | zero =>
        refine ⟨y, w, rfl, own_conv st e (.inr fun a z => ⟨mvG_fz z, upd_ne (nf a z)⟩) (fun a q z hh => ⟨upd_ne (nL a _ _ z (.inl (Ne.symm ht))), ?_⟩) (fun _ z => z) oe, all o2⟩
        rw [if_pos hh, mvG_t z]
        have : m = j := by omega
        subst this
        simp
      | succ l =>
        simp only [List.length_cons] at hl
        exact ⟨v, w.set l y, rfl, conv1 o1, ih (by omega) (by omega) o2⟩
  exact put (by omega) hj h3
theorem js_seti {e b : Expr} {me mj : M} {i k k1 : Nat} {rj : Rz} {pe : Bool} {st : Stmt} (he : J X κ e me (.own (lv k)) κ1 pe) (hj : J X κ1 b mj rj κ2 true) (hk1 : κ1[i]? = some (some k1)) (hk : κ2[i]? = some (some k)) (h0 : k ≠ 0)
    (mk : ∀ {te tj : TE}, PE X e te → PE X b tj → PS X st (tAsg te (gSub (tVar i) tj rSetL))) : JS X κ st (sSet i me mj) κ2 rc := by
  refine ⟨fun s0 t ht => PS.imp (mk (he.run t ht) (hj.run (t + 1) (by omega))) fun σ H D z q => ?_⟩
  obtain ⟨g, ρ, S, fx, o, em, post⟩ := q z
  obtain ⟨d, ρ1, ds, kk, ρ2, j, e1, e2, e3, e4, rfl⟩ := sSet_some em
  have hr := hj.pur rfl _ _ _ e3
  subst hr
  refine fun _ => ⟨g, ρ, S, d, ρ2, e1, fun y H1 g1 S1 P1 s1 r1 => ?_⟩
  obtain ⟨v, ev, o1⟩ := S1.ok i k1 _ hk1 e2
  refine ⟨v, ev, fun _ => ⟨g1, ρ2, S1, .int kk, ρ2, e3, fun u H2 g2 S2 P2 s2 r2 => ?_⟩⟩
  cases (show _ = _ from r2.rep)
  obtain ⟨v', ev', o2⟩ := S2.ok i k _ hk e2
  rw [ev] at ev'
  cases ev'
  obtain ⟨L, vs, rfl, hL, hg, hlen⟩ := lst_own o2 h0
  have hjl : j < ds.length := by
    unfold ixN at e4
    split at e4
    · split at e4
      · cases e4; omega
      · cases e4
    · split at e4
      · cases e4; omega
      · cases e4
  refine ⟨L, vs, kk, j, rfl, rfl, hL, by rw [hlen]; exact e4, ?_⟩
  have hl : σ.length = X.N.length := z.2
  have hi : i < σ.length := (List.getElem?_eq_some_iff.mp ev).1
  have r1' := P2.own ht (Nat.lt_succ_self t) r1
  have o3 := own_setI (t := t) (by omega : i ≠ t) hL o2 h0 r1' hjl
  refine post σ _ (mvG t i [j] (fun _ _ => false) g2) (S2.rewrite hk ev hL rfl hg (fun a h => upd_ne h) (by rw [upd_same]; simp) (fun a h1 h2 h3 => ?_) (fun a h => mvG_fz h) (fun a h => mvG_ne h) o3)
    (P1.trans ((P2.less (Nat.le_succ t)).trans (Pres.rewrite S2.gok (by omega) hL rfl hg (fun a h => upd_ne h) (fun a h => mvG_fz h) (fun a h => mvG_un h) (fun a r q h1 h2 h => mvG_o (by omega) rfl h) fun a r q h1 h2 h => mvG_inv (by omega) h))) fx
  cases e : g2 a with
  | un => exact (h1 e).elim
  | fz => exact mvG_fz e
  | ow r q => exact mvG_o (by have := h3 r q e; omega) rfl e
end VS
namespace VS
open PySem PySem.Spec PyProof.Rows L2
variable {K : PySem.W.Frag} {X : Cx} {κ κ1 κ2 κ3 κ4 : OE} {pos : Pos} {rc : RC}
def nwG (p : Addr) (t : Nat) (g : G) : G := fun a => if a = p then .ow t [] else g a
theorem nwG_p {p : Addr} {t : Nat} {g : G} : nwG p t g p = .ow t [] := if_pos rfl
theorem nwG_o {p a : Addr} {t : Nat} {g : G} (h : a ≠ p) : nwG p t g a = g a := if_neg h
theorem Sok.new {ρ : DE} {g : G} {σ : L2.St} {H : Hp} {p : Addr} {t : Nat} {o : HO} (S : Sok K κ ρ g σ H) (hp : H p = none) : Sok K κ ρ (nwG p t g) σ (upd H p o) := by
  have ne : ∀ a, g a ≠ .un → a ≠ p := fun a h z => S.gok a h (z ▸ hp)
  refine ⟨fun i k d h3 h4 => ?_, fun a h => ?_, S.len, S.lek⟩
  · obtain ⟨v, e, w⟩ := S.ok i k d h3 h4
    exact ⟨v, e, own_conv (fun a u z _ => same_new hp _ _ z) d (.inr fun a z => ⟨by rw [nwG_o (ne a (by rw [z]; simp))]; exact z, upd_ne (ne a (by rw [z]; simp))⟩) (fun a q z hh => ⟨upd_ne (ne a (by rw [z]; simp)), by rw [if_pos hh, nwG_o (ne a (by rw [z]; simp))]; exact z⟩) (fun _ z => z) w⟩
  · by_cases e : a = p
    · subst e; rw [upd_same]; simp
    · rw [upd_ne e]; rw [nwG_o e] at h; exact S.gok a h
theorem Pres.new {n t t' : Nat} {g : G} {H : Hp} {p : Addr} {o : HO} (gok : ∀ a, g a ≠ .un → H a ≠ none) (hp : H p = none) (ht : t ≤ t') : Pres n t g H (nwG p t' g) (upd H p o) := by
  have hne : ∀ a, H a ≠ none → a ≠ p := fun a h z => h (z ▸ hp)
  refine ⟨fun a z => ?_, fun a z hh => ?_, fun a r q h3 h4 z => ?_, fun a r q h3 h4 z => ?_, fun a u z _ => same_new hp _ _ z⟩
  · have := hne a (gok a (by rw [z]; simp))
    exact ⟨by rw [nwG_o this]; exact z, upd_ne this⟩
  · have := hne a hh
    exact ⟨by rw [nwG_o this]; exact z, upd_ne this⟩
  · have := hne a (gok a (by rw [z]; simp))
    exact ⟨by rw [nwG_o this]; exact z, upd_ne this⟩
  · by_cases e : a = p
    · subst e; rw [nwG_p] at z; cases z; omega
    · rw [nwG_o e] at z; exact z
theorem own_newL {H : Hp} {g : G} {p : Addr} {t : Nat} {ds : List D} {vs : List V} (gok : ∀ a, g a ≠ .un → H a ≠ none) (hp : H p = none) (ol : OwnL K H g ds 0 0 [] 0 vs) : Own K (upd H p (.lst vs)) (nwG p t g) (.lst ds) 1 t [] (.ref p) := by
  have ne : ∀ a, g a ≠ .un → a ≠ p := fun a h z => gok a h (z ▸ hp)
  exact ⟨p, vs, rfl, upd_same, by rw [if_neg (by decide)]; exact nwG_p, ownL_fz (fun a z => ⟨by rw [nwG_o (ne a (by rw [z]; simp))]; exact z, upd_ne (ne a (by rw [z]; simp))⟩) (fun a u z _ => same_new hp _ _ z) ol⟩
theorem own_newT {H : Hp} {g : G} {p : Addr} {t : Nat} {ds : List D} {vs : List V} (gok : ∀ a, g a ≠ .un → H a ≠ none) (hp : H p = none) (ol : OwnL K H g ds 0 0 [] 0 vs) : Own K (upd H p (.tup vs)) (nwG p t g) (.tup ds) 1 t [] (.ref p) := by
  have ne : ∀ a, g a ≠ .un → a ≠ p := fun a h z => gok a h (z ▸ hp)
  exact ⟨p, vs, rfl, .inl upd_same, ownL_fz (fun a z => ⟨by rw [nwG_o (ne a (by rw [z]; simp))]; exact z, upd_ne (ne a (by rw [z]; simp))⟩) (fun a u z _ => same_new hp _ _ z) ol⟩
theorem gives_post {n t : Nat} {g : G} {σ : L2.St} {H : Hp} {ρ : DE} {z : D} {vs : List V} {ds : List D} {b : Bool} {Q : VK} {pu : Bool} (S : Sok K κ ρ g σ H) (hz : z = (if b then .lst ds else .tup ds)) (ol : OwnL K H g ds 0 0 [] 0 vs) {g0 : G} {H0 : Hp} (P : Pres n t g0 H0 g H) (s : pu = true → Same H0 H)
    (post : jPost K n t κ (.own 1) pu g0 σ H0 z ρ Q) (p : Addr) (hp : H p = none) : Q (.ref p) (upd H p (if b then .lst vs else .tup vs)) := by
  refine post (.ref p) _ (nwG p t g) (S.new hp) (P.trans (Pres.new S.gok hp (Nat.le_refl t))) (fun e => (s e).trans (same_new hp)) ?_
  cases b with
  | true => rw [hz]; exact own_newL S.gok hp ol
  | false => rw [hz]; exact own_newT S.gok hp ol
theorem rep_post {n t : Nat} {g : G} {σ : L2.St} {H : Hp} {ρ : DE} {z : D} {o : HO} {Q : VK} {pu : Bool} (S : Sok K κ ρ g σ H) {g0 : G} {H0 : Hp} (P : Pres n t g0 H0 g H) (s : pu = true → Same H0 H)
    (post : jPost K n t κ .rep pu g0 σ H0 z ρ Q) (p : Addr) (hp : H p = none) (r : Rep K (upd H p o) z (.ref p)) : Q (.ref p) (upd H p o) :=
  post (.ref p) _ g (S.grow (same_new hp)) (P.trans (Pres.grow S.gok (same_new hp))) (fun e => (s e).trans (same_new hp)) r
def dCat : D → D → Option D
  | .int i, .int j => some (.int (i + j))
  | .str i, .str j => if i.length + j.length ≤ 16777216 then some (.str (i ++ j)) else none
  | .lst xs, .lst ys => if xs.length + ys.length ≤ 16777216 then some (.lst (xs ++ ys)) else none
  | .tup xs, .tup ys => if xs.length + ys.length ≤ 16777216 then some (.tup (xs ++ ys)) else none
  | _, _ => none
def rCatD (K : PySem.W.Frag) : R2 := fun x y H Q => (rDat K dAdd x y H Q ∨ rCat x y H Q) ∨ rCatA K x y H Q
theorem o_cat : OpR X (binaryOp .Add) (rCatD X.K) := (o_add.or op_cat).or op_catA
theorem repL_nil {H : Hp} {ds : List D} {vs : List V} (h : RepL K H ds vs) (e : vs = []) : ds = [] := by
  cases ds with
  | nil => rfl
  | cons d ds => obtain ⟨v, w, rfl, _⟩ := h; cases e
theorem cat_rep {H : Hp} {x y z : D} {v u : V} {Q : VK} (e : dCat x y = some z) (rx : Rep K H x v) (ry : Rep K H y u) (q0 : ∀ w, Rep K H z w → Q w H) (q1 : ∀ p o, H p = none → Rep K (upd H p o) z (.ref p) → Q (.ref p) (upd H p o)) : rCatD K v u H Q := by
  unfold dCat at e
  split at e
  · cases e
    exact .inl (.inl ⟨_, _, _, rx, ry, rfl, rfl, q0 _ rfl⟩)
  · split at e
    · cases e
      exact .inl (.inl ⟨_, _, _, rx, ry, (by simp only [dAdd]; rw [if_pos (by assumption)] : dAdd _ _ = some (.str _)), rfl, q0 _ rfl⟩)
    · cases e
  · split at e
    · cases e
      obtain ⟨a, vs, rfl, ha, hl⟩ := rx
      obtain ⟨b, ws, rfl, hb, hm⟩ := ry
      refine .inl (.inr ⟨a, b, vs, ws, rfl, rfl, ha, hb, by rw [repL_len hl, repL_len hm, sizeLine_eq]; assumption, fun p hp => q1 p _ hp ?_⟩)
      exact ⟨p, _, rfl, upd_same, repL_mono (same_new hp) _ (repL_app hl hm)⟩
    · cases e
  · split at e
    · cases e
      obtain ⟨a, vs, rfl, ha, hl⟩ := rx
      obtain ⟨b, ws, rfl, hb, hm⟩ := ry
      refine .inr ⟨a, b, vs, ws, rfl, rfl, ha.sq, hb.sq, by rw [repL_len hl, repL_len hm, sizeLine_eq]; assumption, fun h => ?_, fun _ h => ?_, fun _ _ p hp => q1 p _ hp ?_⟩
      · have := repL_nil hl h
        subst this h
        exact q0 _ ⟨b, ws, rfl, hb, hm⟩
      · have := repL_nil hm h
        subst this h
        rw [List.append_nil] at q0
        exact q0 _ ⟨a, vs, rfl, ha, hl⟩
      · exact ⟨p, _, rfl, .inl upd_same, repL_mono (same_new hp) _ (repL_app hl hm)⟩
    · cases e
  · cases e
theorem j_cat {a b e : Expr} {ma mb : M} {ra rb : Rz} {pa pb : Bool} (ha : J X κ a ma ra κ1 pa) (hb : J X κ1 b mb rb κ2 pb) (ok : okk ra pb = true) (mk : ∀ {ta tb : TE}, PE X a ta → PE X b tb → PE X e (tOp (rCatD X.K) ta tb)) : J X κ e (m2 dCat ma mb) .rep κ2 (pa && pb) := by
  refine ⟨fun t ht => PE.imp (mk (ha.run t ht) (hb.run (t + 1) (by omega))) fun σ H Q z q => ?_, fun hp ρ d ρ' h => ?_⟩
  · obtain ⟨g, ρ, S, d, ρ', em, post⟩ := q z
    obtain ⟨x, ρ1, y, ea, eb, ec⟩ := m2_some em
    refine two (K := X.K) (κ2 := κ2) ht ok S ea eb z fun v u H' g' S' P' s' r1 r2 => ?_
    exact cat_rep ec r1.rep r2.rep (fun w hw => post w H' g' S' P' s' hw) fun p o hp r => rep_post S' P' s' post p hp r
  · rw [Bool.and_eq_true] at hp
    obtain ⟨x, ρ1, y, ea, eb, ec⟩ := m2_some h
    rw [hb.pur hp.2 _ _ _ eb, ha.pur hp.1 _ _ _ ea]
theorem j_catO {a b e : Expr} {ma mb : M} {pa pb : Bool} (ha : J X κ a ma (.own 0) κ1 pa) (hb : J X κ1 b mb (.own 0) κ2 pb) (mk : ∀ {ta tb : TE}, PE X a ta → PE X b tb → PE X e (tOp (rCatD X.K) ta tb)) : J X κ e (m2 dCat ma mb) (.own 1) κ2 (pa && pb) := by
  refine ⟨fun t ht => PE.imp (mk (ha.run t ht) (hb.run (t + 1) (by omega))) fun σ H Q z q => ?_, fun hp ρ d ρ' h => ?_⟩
  · obtain ⟨g, ρ, S, d, ρ', em, post⟩ := q z
    obtain ⟨x, ρ1, y, ea, eb, ec⟩ := m2_some em
    refine two (K := X.K) (κ2 := κ2) ht rfl S ea eb z fun v u H' g' S' P' s' r1 r2 => ?_
    unfold dCat at ec
    have f0 : ∀ {d : D} {w : V} {r : Nat}, Own X.K H' g' d 0 r [] w → ∀ {ds}, d = .lst ds ∨ d = .tup ds → ∃ a vs, w = .ref a ∧ (d = .lst ds → H' a = some (.lst vs)) ∧ (d = .tup ds → Tp X.K H' a vs) ∧ OwnL X.K H' g' ds 0 0 [] 0 vs := fun {d w r} o {ds} hd => by
      rcases hd with rfl | rfl
      · obtain ⟨a, vs, rfl, h1, _, h3⟩ := o
        exact ⟨a, vs, rfl, fun _ => h1, (fun e => by cases e), ownL_fz (fun a z => ⟨z, rfl⟩) (fun _ _ z _ => z) h3⟩
      · obtain ⟨a, vs, rfl, h1, h3⟩ := o
        exact ⟨a, vs, rfl, (fun e => by cases e), fun _ => h1, ownL_fz (fun a z => ⟨z, rfl⟩) (fun _ _ z _ => z) h3⟩
    split at ec
    · cases ec
      exact .inl (.inl ⟨_, _, _, r1.rep, r2.rep, rfl, rfl, post _ H' g' S' P' s' rfl⟩)
    · split at ec
      · cases ec
        exact .inl (.inl ⟨_, _, _, r1.rep, r2.rep, (by simp only [dAdd]; rw [if_pos (by assumption)] : dAdd _ _ = some (.str _)), rfl, post _ H' g' S' P' s' rfl⟩)
      · cases ec
    · split at ec
      · cases ec
        obtain ⟨a, vs, rfl, h1, _, ol1⟩ := f0 r1 (.inl rfl)
        obtain ⟨b, ws, rfl, h2, _, ol2⟩ := f0 r2 (.inl rfl)
        refine .inl (.inr ⟨a, b, vs, ws, rfl, rfl, h1 rfl, h2 rfl, by rw [ownL_len ol1, ownL_len ol2, sizeLine_eq]; assumption, fun p hp => ?_⟩)
        exact gives_post (b := true) S' rfl (ownL_app ol1 ol2) P' s' post p hp
      · cases ec
    · split at ec
      · cases ec
        obtain ⟨a, vs, rfl, _, h1, ol1⟩ := f0 r1 (.inr rfl)
        obtain ⟨b, ws, rfl, _, h2, ol2⟩ := f0 r2 (.inr rfl)
        refine .inr ⟨a, b, vs, ws, rfl, rfl, (h1 rfl).sq, (h2 rfl).sq, by rw [ownL_len ol1, ownL_len ol2, sizeLine_eq]; assumption, fun h => ?_, fun _ h => ?_, fun _ _ p hp => ?_⟩
        · subst h
          have e := repL_nil (ownL_repL _ ol1) rfl
          subst e
          exact post _ H' g' S' P' s' ⟨b, ws, rfl, h2 rfl, ownL_fz (fun a z => ⟨z, rfl⟩) (fun _ _ z _ => z) ol2⟩
        · subst h
          have e := repL_nil (ownL_repL _ ol2) rfl
          subst e
          rw [List.append_nil] at post
          exact post _ H' g' S' P' s' ⟨a, vs, rfl, h1 rfl, ownL_fz (fun a z => ⟨z, rfl⟩) (fun _ _ z _ => z) ol1⟩
        · exact gives_post (b := false) S' rfl (ownL_app ol1 ol2) P' s' post p hp
      · cases ec
    · cases ec
  · rw [Bool.and_eq_true] at hp
    obtain ⟨x, ρ1, y, ea, eb, ec⟩ := m2_some h
    rw [hb.pur hp.2 _ _ _ eb, ha.pur hp.1 _ _ _ ea]
def cutG {α : Type} (xs : List α) (lo hi : Option Int) : List α := (xs.drop (HT.sIx xs.length 0 lo)).take (HT.sIx xs.length xs.length hi - HT.sIx xs.length 0 lo)
abbrev MO := DE → Option (Option Int)
structure JO (X : Cx) (κ : OE) (e : Option Expr) (m : MO) (κ' : OE) : Prop where
  run : ∀ t, X.N.length ≤ t → PO X e (fun σ H Q => En X.N.length σ H → ∃ g ρ, Sok X.K κ ρ g σ H ∧ ∃ o, m ρ = some o ∧ ∀ H' g', Sok X.K κ' ρ g' σ H' → Pres X.N.length t g H g' H' → Same H H' → Q o H')
theorem PO.imp {e : Option Expr} {t t' : TO} (h : PO X e t) (f : ∀ σ H Q, En X.N.length σ H → t' σ H Q → t σ H Q) : PO X e t' := ⟨fun pins s σ H Q I q => h.run pins s σ H Q I (f σ H Q ⟨Inv.sz I, I.len⟩ q)⟩
def oNone : MO := fun _ => some none
def oSome (m : M) : MO := fun ρ => match m ρ with
  | some (.int i, _) => some (some i)
  | _ => none
def mSl (ma : M) (ml mu : MO) (f : D → Option Int → Option Int → Option D) : M := fun ρ => (ma ρ).bind fun x => (ml x.2).bind fun l => (mu x.2).bind fun u => (f x.1 l u).map fun z => (z, x.2)
def dSl : D → Option Int → Option Int → Option D
  | .lst xs, l, u => some (.lst (cutG xs l u))
  | .tup xs, l, u => some (.tup (cutG xs l u))
  | .str z, l, u => if z.length ≤ 16777216 then some (.str (cutS z l u)) else none
  | _, _, _ => none
theorem own0_seq {H : Hp} {g : G} {ds : List D} {v : V} {r : Nat} {p : List Nat} : (Own K H g (.lst ds) 0 r p v → ∃ a vs, v = .ref a ∧ H a = some (.lst vs) ∧ OwnL K H g ds 0 0 [] 0 vs) ∧ (Own K H g (.tup ds) 0 r p v → ∃ a vs, v = .ref a ∧ Tp K H a vs ∧ OwnL K H g ds 0 0 [] 0 vs) := by
  refine ⟨fun o => ?_, fun o => ?_⟩
  · obtain ⟨a, vs, rfl, h1, _, h3⟩ := o
    exact ⟨a, vs, rfl, h1, ownL_fz (fun a z => ⟨z, rfl⟩) (fun _ _ z _ => z) h3⟩
  · obtain ⟨a, vs, rfl, h1, h3⟩ := o
    exact ⟨a, vs, rfl, h1, ownL_fz (fun a z => ⟨z, rfl⟩) (fun _ _ z _ => z) h3⟩
section tupsort
open PySem PySem.Calls PyProof.Rows PySem.SeqAt PySem.W
variable {M : Model} {prog : Program} {w : World} {A : Around} {E : Value → Shared → Prop} {s : Shared}
def neT : PyData → Bool
  | .tuple (_ :: _) => true
  | _ => false
theorem firsts_ok : ∀ {vs : List Value} {ds : List PyData} {Q : List (Option Value) → Shared → Prop}, PySem.W.EachIs (fun v d => ∃ as, Reads s.heap v d as) vs ds → (∀ d ∈ ds, ∃ r, d = .tuple r) →
    (∀ fs : List (Option Value), fs.map (·.isSome) = ds.map neT → Q fs s) → wpAny M A (vs.mapM firstOfTuple') Q E s
  | _, _, Q, .nil, _, h => by rw [List.mapM_nil]; exact wpAny_pure (h [] rfl)
  | _, _, Q, .cons (b := d) ⟨as, r⟩ t, ht, h => by
    obtain ⟨r0, rfl⟩ := ht d (by simp)
    rw [List.mapM_cons, kas_first_eq]
    cases r with
    | @tuple a o xs n _ _ ho hc hd hr =>
      refine wpAny_bind (wpAny_bind (PySem.W.Looks.here (show PySem.W.Looks M s.heap (typeOf (.ref a)) o.cls from (PySem.W.Looks.ld ho).andThen .now) ?_))
      rw [hc, if_neg (by first | decide | simp)]
      refine wpAny_bind (listItems_at ho hd (wpAny_pure ?_))
      have e0 : (xs[0]?).isSome = neT (.tuple r0) := by
        rw [← Array.getElem?_toList]
        cases q : xs.toList with
        | nil => rw [q] at hr; cases hr; rfl
        | cons f fr => rw [q] at hr; cases hr; rfl
      exact wpAny_bind (firsts_ok t (fun d hd => ht d (by simp [hd])) fun fs hfs => wpAny_pure (h _ (by rw [List.map_cons, List.map_cons, e0, hfs])))
theorem kind_tup {vs : List Value} {ds : List PyData} (e : PySem.W.EachIs (fun v d => ∃ as, Reads s.heap v d as) vs ds) (ht : ∀ d ∈ ds, ∃ r, d = .tuple r) (hm : ∃ d ∈ ds, d = .tuple []) (h2 : 2 ≤ vs.length) {Q : SortKind → Shared → Prop}
    (h : Q (if (ds.head?.map neT) = some true then general' else oneType') s) : wpAny M A (keyKind' vs.toArray) Q E s := by
  rw [keyKind'_eq, List.mapM_toArray, map_eq_pure_bind]
  refine wpAny_bind (wpAny_bind (firsts_ok e ht fun fs hfs => wpAny_pure ?_))
  have na : (fs.toArray.all fun x => x.isSome) = false := by
    obtain ⟨d, hd, rfl⟩ := hm
    have : false ∈ fs.map (·.isSome) := by rw [hfs]; exact List.mem_map.mpr ⟨_, hd, rfl⟩
    obtain ⟨f, hf, e0⟩ := List.mem_map.mp this
    rw [List.all_toArray, ← Bool.not_eq_true, List.all_eq_true]
    intro z
    rw [z f hf] at e0
    cases e0
  rw [if_neg (by rw [na]; simp)]
  cases ds with
  | nil => obtain ⟨d, hd, _⟩ := hm; cases hd
  | cons d ds =>
    cases fs with
    | nil => cases hfs
    | cons f fs =>
      have e0 : f.isSome = neT d := by
        rw [List.map_cons, List.map_cons] at hfs
        exact (List.cons.inj hfs).1
      have e1 : (((f :: fs).toArray[0]?).bind id).isSome = f.isSome := by simp
      by_cases q : neT d = true
      · rw [if_pos (by rw [e1, e0, q])]
        rw [if_pos (by rw [List.head?_cons, Option.map_some, q])] at h
        exact wpAny_pure h
      · rw [if_neg (by rw [e1, e0]; exact q)]
        rw [if_neg (by rw [List.head?_cons, Option.map_some]; simpa using q)] at h
        rw [oneTypeOnly'_eq, List.mapM_toArray, map_eq_pure_bind]
        refine wpAny_bind (wpAny_bind (wpAny_bind (kas_mapM (r := Value.type "tuple") _ (fun v hv Q' hq => ?_) (wpAny_pure ?_))))
        · obtain ⟨d', hd', as, r⟩ := e.left v hv
          obtain ⟨r0, rfl⟩ := ht d' hd'
          exact (looks_reads r).here hq
        · have hall : ((List.map (fun _ => Value.type "tuple") vs).toArray.all fun x => x == Value.type "tuple") = true := by
            simp only [List.all_toArray, List.all_map, List.all_eq_true]
            intro _ _
            exact beq_self_eq_true _
          have h0 : (List.map (fun _ => Value.type "tuple") vs).toArray[0]? = some (Value.type "tuple") := by
            cases vs with
            | nil => simp at h2
            | cons v vs => simp
          rw [h0]
          simp only [hall, if_true]
          exact wpAny_pure (wpAny_pure h)
theorem call_tuple_lt' {Q : Value → Shared → Prop} {l b : Addr} {items items2 : Array Value} {e r : Nat → Bool} (hl : s.heap.IsTuple l items) (hb : s.heap.IsTuple b items2)
    (he : ∀ j (h1 : j < items.size) (h2 : j < items2.size), EqAt A.in1 s items[j] items2[j] (e j)) (hr : ∀ j (h1 : j < items.size) (h2 : j < items2.size), e j = false → RcLt A.in1 s items[j] items2[j] (r j))
    (h : Q (.bool (firstLt e r (decide (items.size < items2.size)) (List.range (min items.size items2.size)))) s) : wpAny (model prog w) A (call (.builtin "tuple.__lt__") [.ref l, .ref b]) Q E s := by
  obtain ⟨⟨cls, dd, data, sl⟩, ho, hc, n, hd⟩ := id hl
  obtain ⟨⟨cls2, dd2, data2, sl2⟩, ho2, hc2, n2, hd2⟩ := id hb
  simp only at hc hd hc2 hd2
  subst hc hd hc2 hd2
  exact call_meets F.slot_tuple_lt ⟨_, ho, rfl⟩ F.entry_tuple_lt (F.args_tuple_lt_2 _ _) (tuple_ltAt l b items items2 n n2 dd dd2 sl sl2 e r) ⟨ho, ho2, he, hr, h⟩
theorem oneLt_tup {xs ys : List PyData} {a b : Value} {as bs : List Addr} {Q : Bool → Shared → Prop} (ra : Reads s.heap a (.tuple xs) as) (rb : Reads s.heap b (.tuple ys) bs) (hal : alikeAll xs ys = true)
    (hu : A.units + min (PyData.tuple xs).depth (PyData.tuple ys).depth < cLine) (hq : Q (dataLt (.tuple xs) (.tuple ys)) s) : wpAny (model prog w) A (oneLt' true a b) Q E s := by
  cases ra with
  | @tuple l o vs n _ as₁ h1 h2 h3 h4 =>
    cases rb with
    | @tuple l' o' vs' n' _ bs₁ k1 k2 k3 k4 =>
      have n1 : vs.size = xs.length := by simpa using ReadsAll.length _ _ _ h4
      have n2 : vs'.size = ys.length := by simpa using ReadsAll.length _ _ _ k4
      rw [dataLt_tuple, ← firstLt_toks xs ys hal, ← n1, ← n2] at hq
      rw [oneLt'_eq]
      simp only [if_true]
      refine wpAny_bind (wpAny_cRoomFor (room_here hu) ?_)
      refine wpAny_bind (wpAny_callSpecialIfBound?_slot (T := "tuple") ⟨_, h1, h2⟩ F.slot_tuple_lt (call_tuple_lt' (e := pairEq xs ys) (r := fun j => dataLt (xs.getD j .none) (ys.getD j .none)) ⟨_, h1, h2, _, h3⟩ ⟨_, k1, k2, _, k3⟩ (fun j j1 j2 => ?_) (fun j j1 j2 hj => ?_) ?_))
      · have := eqAt_alikeAll xs ys A.in1 s vs.toList vs'.toList _ _ h4 k4 hal (PySem.SeqAt.room_in hu) j (by simpa using j1) (by simpa using j2)
        simpa using this
      · have := rcLt_alikeAll xs ys A.in1 s vs.toList vs'.toList _ _ h4 k4 hal (PySem.SeqAt.room_in hu) j (by simpa using j1) (by simpa using j2) hj
        simpa using this
      · exact wpAny_truthy_bool hq
theorem sortsAt_tup {vs : List Value} {ds : List PyData} (e : PySem.W.EachIs (fun v d => ∃ as, Reads s.heap v d as) vs ds) (hal : AllAlike ds) (ht : ∀ d ∈ ds, ∃ r, d = .tuple r) (hm : ∃ d ∈ ds, d = .tuple []) (hu : ∀ d, d ∈ ds → A.units + d.depth < cLine) : SortsAt prog w A s (dataKind s.heap ds) vs := by
  have room : ∀ {d d' : PyData}, d ∈ ds → A.units + min d.depth d'.depth < cLine := fun {d d'} hd => Nat.lt_of_le_of_lt (Nat.add_le_add_left (Nat.min_le_left _ _) _) (hu d hd)
  refine ⟨fun v hv => ?_, _, ?_, fun h2 E Q hq => kind_tup e ht hm h2 hq⟩
  · obtain ⟨d, hd, as, r⟩ := e.left v hv
    exact ⟨_, dataKind_some hal hd r⟩
  · intro E x y a b Q ha hb hq
    obtain ⟨d, as, hd, ra, rfl⟩ := dataKind_inv ha
    obtain ⟨d', as', hd', rb, rfl⟩ := dataKind_inv hb
    obtain ⟨r1, rfl⟩ := ht d hd
    obtain ⟨r2, rfl⟩ := ht d' hd'
    have hdd := hal _ hd _ hd'
    split
    · exact oneLt_alike (f := false) (fun h => nomatch h) ra rb hdd (fun h => nomatch h) (room hd) hq
    · rw [keyLt'_oneType]
      exact oneLt_tup ra rb (by simpa [alike] using hdd) (room hd) hq
theorem sorted_dataT {β : Type} {bs : List β} {enc : β → PyData} {vs : List Value} {R : Value → β → Prop} {l : Addr} {Q : Value → Shared → Prop} (hl : s.heap.IsList l vs.toArray) (e : EachIs R vs bs) (er : EachIs (fun v b => ∃ as, Reads s.heap v (enc b) as) vs bs) (hal : AllAlike (bs.map enc)) (hk : (∀ d ∈ bs.map enc, ∃ r, d = .tuple r) ∨ Sortable (bs.map enc)) (hL : bs.length ≤ sizeLine)
    (hu : ∀ b, b ∈ bs → A.units + 2 + (enc b).depth < cLine) (h : ∀ out, out.length = bs.length → EachIs R out (bs.mergeSort (dataLe false enc)) → Q (.ref (s.heap.objs.size + 1)) { s with heap := sortedAll s.heap vs (List.toArray out) }) :
    wpAny (model prog w) A (call (.builtin "sorted") [.ref l]) Q E s := by
  rcases hk with ht | hk
  · by_cases hm : ∃ d ∈ bs.map enc, d = .tuple []
    · have er' : EachIs (fun v b => ∃ as, Reads (sortingHeap (copyHeap s.heap vs) (s.heap.objs.size + 1) vs) v (enc b) as) vs bs := er.mono fun _ _ ⟨as, r⟩ => ⟨as, PyProof.Rows.Reads.keeps (fun _ _ => sorting_copy_old) r⟩
      exact sorted_vals hl (sortsAt_tup (s := { s with heap := sortingHeap (copyHeap s.heap vs) (s.heap.objs.size + 1) vs }) (each_map (R := fun v d => ∃ as, Reads (sortingHeap (copyHeap s.heap vs) (s.heap.objs.size + 1) vs) v d as) enc er') hal ht hm (bound_map hu)) (by rw [e.length]; exact hL)
        (h _ (by rw [sortVals_length false rfl]; exact e.length) (sortVals_data false e er' hal))
    · refine sorted_data hl e er hal (.inl fun d hd => ?_) hL hu h
      obtain ⟨r, rfl⟩ := ht d hd
      cases r with
      | nil => exact absurd ⟨_, hd, rfl⟩ hm
      | cons x r => exact ⟨x, r, rfl⟩
  · exact sorted_data hl e er hal hk hL hu h
end tupsort
inductive Mk where
  | lst | tup | srt
def srtOk (ds : List D) : Bool := (ds.all fun a => ds.all fun b => PySem.W.alike (pyD a) (pyD b)) && ((ds.all fun a => match a with | .tup _ => true | _ => false) || (ds.all fun a => match a with | .tup _ => false | .non => false | _ => true)) && (ds.all fun a => decide (dep a ≤ 60)) && decide (ds.length ≤ 16777216)
def srtD (ds : List D) : List D := ds.mergeSort (PySem.W.dataLe false pyD)
def dMk : Mk → D → Option D
  | .lst, .lst xs => some (.lst xs)
  | .lst, .tup xs => some (.lst xs)
  | .tup, .lst xs => some (.tup xs)
  | .tup, .tup xs => some (.tup xs)
  | .srt, .lst xs => if srtOk xs = true then some (.lst (srtD xs)) else none
  | _, _ => none
def rMk (X : Cx) : Mk → List V → Hp → VK → Prop
  | .lst => fun xs H Q => ∃ p ys, xs = [.ref p] ∧ (SqL X.K H p ys ∨ SqT X.K H p ys) ∧ ∀ l, H l = none → Q (.ref l) (upd H l (.lst ys))
  | .tup => fun xs H Q => ∃ p ys, xs = [.ref p] ∧ ((SqL X.K H p ys ∧ ∀ l, H l = none → Q (.ref l) (upd H l (.tup ys))) ∨ (SqT X.K H p ys ∧ Q (.ref p) H))
  | .srt => fun xs H Q => ∃ a vs ds, ∃ R : V → D → Prop, xs = [.ref a] ∧ H a = some (.lst vs) ∧ RepL X.K H ds vs ∧ Paired R vs ds ∧ srtOk ds = true ∧ ∀ ys p, H p = none → Paired R ys (srtD ds) → Q (.ref p) (upd H p (.lst ys))
theorem each_of_vals {R : V → D → Prop} : ∀ {vs : List V} {us : List Value} {ds : List D}, Vals vs us → Paired R vs ds → PySem.W.EachIs (fun u d => ∃ v, RelV v u ∧ R v d) us ds
  | _, _, _, .nil, .nil => .nil
  | _, _, _, .cons r t, .cons h q => .cons ⟨_, r, h⟩ (each_of_vals t q)
theorem vals_of_each {R : V → D → Prop} : ∀ {us : List Value} {ds : List D}, PySem.W.EachIs (fun u d => ∃ v, RelV v u ∧ R v d) us ds → ∃ vs, Vals vs us ∧ Paired R vs ds
  | _, _, .nil => ⟨[], .nil, .nil⟩
  | _, _, .cons ⟨v, r, h⟩ t => by
    obtain ⟨vs, h1, h2⟩ := vals_of_each t
    exact ⟨v :: vs, .cons r h1, .cons h h2⟩
theorem reads_of {pins : List (Addr × Obj)} {σ : L2.St} {H : Hp} {s : Shared} (I : Inv X pins σ H s) : ∀ {ds : List D} {vs : List V} {us : List Value}, (∀ d ∈ ds, noD d = true) → RepL X.K H ds vs → Vals vs us → PySem.W.EachIs (fun u d => ∃ as, Reads s.heap u (pyD d) as) us ds
  | [], _, _, _, h, r => by cases (show _ = _ from h); cases r; exact .nil
  | d :: ds, _, _, n, h, r => by
    obtain ⟨v, w, rfl, h1, h2⟩ := h
    cases r with
    | cons r1 r2 => exact .cons (Dp.reads I _ _ _ (rep_dp d (n d (by simp)) h1) r1) (reads_of I (fun x hx => n x (by simp [hx])) h2 r2)
theorem cr_srt (hu : X.A.units + 100 < cLine) : CallR X (.builtin "sorted") (rMk X .srt) := fun pins s σ H xs us Q I r h => by
  obtain ⟨a, vs, ds, R, rfl, ha, hr, hp, ok, q⟩ := h
  obtain ⟨its, rv, hl, hz⟩ := I.list (SqL.of ha)
  rw [Vals.ref1 r]
  unfold srtOk at ok
  simp only [Bool.and_eq_true, Bool.or_eq_true, List.all_eq_true, decide_eq_true_eq] at ok
  obtain ⟨⟨⟨k1, k2⟩, k3⟩, k4⟩ := ok
  refine sorted_dataT (enc := pyD) hl.isList (each_of_vals rv hp) (reads_of I (fun d hd => (dep_no (k3 d hd)).1) hr rv) ?_ ?_ (by rw [sizeLine_eq]; exact k4) (fun b hb => ?_) fun out h1 h2 => ?_
  · intro d hd d' hd'
    obtain ⟨b, hb, rfl⟩ := List.mem_map.mp hd
    obtain ⟨b', hb', rfl⟩ := List.mem_map.mp hd'
    exact k1 b hb b' hb'
  · rcases k2 with k2 | k2
    · left
      intro d hd
      obtain ⟨b, hb, rfl⟩ := List.mem_map.mp hd
      have := k2 b hb
      split at this
      · exact ⟨_, rfl⟩
      · cases this
    · right; right
      intro d hd
      obtain ⟨b, hb, rfl⟩ := List.mem_map.mp hd
      have := k2 b hb
      cases b <;> first
        | (simp at this; done)
        | exact (Bool.noConfusion (show false = true from (dep_no (k3 _ hb)).1))
        | exact ⟨by simp [pyD], by simp [pyD]⟩
  · have := (dep_no (k3 b hb)).2
    omega
  · obtain ⟨ys, v1, v2⟩ := vals_of_each h2
    obtain ⟨ep, he⟩ := PyProof.Rows.sortedAll_at s.heap its out.toArray
    have hlen : ys.length ≤ sizeLine := by
      rw [v1.length, h1, sizeLine_eq]
      exact k4
    exact ⟨.ref _, upd H (s.heap.objs.size + 1) (.lst ys), I.laid (t' := s.toks) (fun _ _ => PyProof.Rows.sortedAll_old) (Nat.le_succ _) ⟨hlen, out, ep, v1, he⟩, rfl, q ys _ (I.hok.fresh (Nat.le_succ _)) v2⟩
theorem paired_own {H : Hp} {g : G} : ∀ {ds : List D} {vs : List V} {i : Nat}, OwnL K H g ds 0 0 [] i vs → Paired (fun v d => Own K H g d 0 0 [] v) vs ds
  | [], _, _, h => by cases (show _ = _ from h); exact .nil
  | d :: ds, _, _, h => by
    obtain ⟨v, w, rfl, h1, h2⟩ := h
    exact .cons (own_fz (fun a z => ⟨z, rfl⟩) (fun _ _ z _ => z) h1) (paired_own h2)
theorem own_paired {H : Hp} {g : G} : ∀ {ds : List D} {vs : List V} {i : Nat}, Paired (fun v d => Own K H g d 0 0 [] v) vs ds → OwnL K H g ds 0 0 [] i vs
  | _, _, _, .nil => rfl
  | _, _, _, .cons h t => ⟨_, _, rfl, own_fz (fun a z => ⟨z, rfl⟩) (fun _ _ z _ => z) h, own_paired t⟩
def mMk (k : Mk) (ml : ML) : M := mB (fun ds => match ds with
  | [d] => dMk k d
  | _ => none) ml
theorem j_mkO {k : Mk} {a e : Expr} {ml : ML} {pa : Bool} (h : JA X κ [a] ml [.rz (.own 0)] κ1 pa) (mk : ∀ {t : TA}, PA X [a] t → PE X e (tCB (rMk X k) t)) : J X κ e (mMk k ml) (.own 1) κ1 pa := by
  refine ⟨fun t ht => PE.imp (mk (h.run t ht)) fun σ H Q z q => ?_, fun hp ρ d ρ' e => ?_⟩
  · obtain ⟨g, ρ, S, d, ρ', em, post⟩ := q z
    obtain ⟨ds, e1, e2⟩ := mB_some em
    refine fun _ => ⟨g, ρ, S, ds, ρ', e1, fun vs H' g' S' P' s' r' => ?_⟩
    obtain ⟨x, ds', v, vs', rfl, rfl, h1, h2⟩ := r'
    obtain ⟨rfl, rfl⟩ := h2
    have e2' : dMk k x = some d := e2
    unfold dMk at e2'
    split at e2'
    · cases e2'
      obtain ⟨a, us, rfl, k1, k2⟩ := own0_seq.1 h1
      exact ⟨a, us, rfl, .inl (SqL.of k1), fun p hp => gives_post (b := true) S' rfl k2 P' s' post p hp⟩
    · cases e2'
      obtain ⟨a, us, rfl, k1, k2⟩ := own0_seq.2 h1
      exact ⟨a, us, rfl, .inr k1.sq, fun p hp => gives_post (b := true) S' rfl k2 P' s' post p hp⟩
    · cases e2'
      obtain ⟨a, us, rfl, k1, k2⟩ := own0_seq.1 h1
      exact ⟨a, us, rfl, .inl ⟨SqL.of k1, fun p hp => gives_post (b := false) S' rfl k2 P' s' post p hp⟩⟩
    · cases e2'
      obtain ⟨a, us, rfl, k1, k2⟩ := own0_seq.2 h1
      exact ⟨a, us, rfl, .inr ⟨k1.sq, post _ H' g' S' P' s' ⟨a, us, rfl, k1, ownL_fz (fun a z => ⟨z, rfl⟩) (fun _ _ z _ => z) k2⟩⟩⟩
    · split at e2'
      · cases e2'
        obtain ⟨a, us, rfl, k1, k2⟩ := own0_seq.1 h1
        exact ⟨a, us, _, _, rfl, k1, ownL_repL _ k2, paired_own k2, by assumption, fun ys p hp hr => gives_post (b := true) S' rfl (own_paired hr) P' s' post p hp⟩
      · cases e2'
    · cases e2'
  · obtain ⟨ds, e1, e2⟩ := mB_some e
    exact h.pur hp _ _ _ e1
def dCnt : D → D → Option D
  | .lst ys, x => if (decide (depL ys ≤ 60) && decide (dep x ≤ 60)) = true then some (.int (((pyL ys).countP fun y => PyData.eqv y (pyD x) : Nat) : Int)) else none
  | _, _ => none
def rCnt (X : Cx) : V → List V → Hp → VK → Prop := fun x xs H Q => ∃ ys y z v, xs = [v] ∧ Rep X.K H (.lst ys) x ∧ Rep X.K H y v ∧ dCnt (.lst ys) y = some z ∧ Q (av z) H
theorem mt_cnt (hu : X.A.units + 100 < cLine) : MtR X "list.count" (rCnt X) := fun pins s σ H x xs v us Q I rx rxs h => by
  obtain ⟨ys, y, z, w, rfl, rx', ry', e, q⟩ := h
  obtain ⟨a, vs, rfl, ha, hl⟩ := rx'
  cases rx
  obtain ⟨u, rfl, ru⟩ := rxs.one
  obtain ⟨its, rv, pl, hz⟩ := I.list (SqL.of ha)
  simp only [dCnt] at e
  split at e
  · cases e
    obtain ⟨n1, n2⟩ := in_no (by assumption)
    obtain ⟨as, h1⟩ := Dp.readsAll I _ _ _ (repL_dp ys n1.1 hl) rv
    obtain ⟨bs, h2⟩ := Dp.reads I _ _ _ (rep_dp y n2.1 ry') ru
    exact SeqAt.count_list_data (bs := bs) (as := as) pl.isList (by simpa using h1) h2 (plain_pyL ys) (plain_pyD y) (room_in hu (by assumption)) ⟨.int _, H, I.tok _, ⟨_, rfl⟩, q⟩
  · cases e
theorem dCnt_a (x y z : D) (h : dCnt x y = some z) : isA z = true := by
  unfold dCnt at h
  split at h
  · split at h
    · cases h; rfl
    · cases h
  · cases h
theorem j_cnt {o a e : Expr} {mo ma : M} {ro ra : Rz} {po pa : Bool} (ho : J X κ o mo ro κ1 po) (ha : J X κ1 a ma ra κ2 pa) (ok : okk ro pa = true) (mk : ∀ {to t : TE}, PE X o to → PE X a t → PE X e (tBM X.K "list" (rCnt X) to (tCons t tNil))) {rz : Rz} :
    J X κ e (m2 dCnt mo ma) rz κ2 (po && pa) := by
  refine ⟨fun t ht => PE.imp (mk (ho.run t ht) (ha.run (t + 1) (by omega))) fun σ H Q z q => ?_, fun hp ρ d ρ' h => ?_⟩
  · obtain ⟨g, ρ, S, d, ρ', em, post⟩ := q z
    obtain ⟨x, ρ1, y, ea, eb, ec⟩ := m2_some em
    have hx : ∃ ys, x = .lst ys := by
      unfold dCnt at ec
      split at ec
      · exact ⟨_, rfl⟩
      · cases ec
    obtain ⟨ys, rfl⟩ := hx
    refine fun _ => ⟨g, ρ, S, _, ρ1, ea, fun v H1 g1 S1 P1 s1 r1 => ?_⟩
    obtain ⟨L, vs, rfl, hL, hl⟩ := r1.rep
    refine ⟨.inl ⟨rfl, vs, SqL.of hL⟩, fun _ => ⟨g1, ρ1, S1, y, ρ', eb, fun u H2 g2 S2 P2 s2 r2 => ?_⟩⟩
    have r1' : RzOk X.K H2 g2 t ro (.lst ys) (.ref L) := by
      cases ro with
      | rep => exact rep_mono (s2 ok) (.lst ys) r1
      | own k => exact P2.own ht (Nat.lt_succ_self t) r1
    exact ⟨ys, y, d, u, rfl, r1'.rep, r2.rep, ec, post _ H2 g2 S2 (P1.trans (P2.less (Nat.le_succ t))) (Same.bool s1 s2) (atom_rz (dCnt_a _ _ _ ec))⟩
  · rw [Bool.and_eq_true] at hp
    obtain ⟨x, ρ1, y, ea, eb, ec⟩ := m2_some h
    rw [ha.pur hp.2 _ _ _ eb, ho.pur hp.1 _ _ _ ea]
end VS
namespace VS
open PySem PySem.Spec PyProof.Rows L2
variable {K : PySem.W.Frag} {X : Cx} {κ κ1 κ2 κ3 κ4 : OE} {pos : Pos} {rc : RC}
def itM (j : Nat) (mb : SM) : List D → DE → Option (List D × DE)
  | [], ρ => some ([], ρ)
  | d :: ds, ρ => match mb (ρ.set j (some d)) with
    | some (.nx ρ1) => (match ρ1[j]? with
      | some (some d') => (itM j mb ds ρ1).map fun x => (d' :: x.1, x.2)
      | _ => none)
    | _ => none
def sForM (i j : Nat) (mb : SM) : SM := fun ρ => match ρ[i]? with
  | some (some (.lst ds)) => (itM j mb ds ρ).map fun x => .nx (x.2.set i (some (.lst x.1)))
  | _ => none
def stG (t j m : Nat) (g : G) : G := fun a => match g a with
  | .ow r q => if r = t ∧ q.getLast? = some m then .ow j q.dropLast else .ow r q
  | z => z
section
variable {t j m : Nat} {g : G} {a : Addr}
end
end VS
namespace VS
open PySem PySem.Spec PyProof.Rows L2
variable {P : Program} {w : World} {K : PySem.W.Frag} {mg : Str → Option Value} {base : Heap}
variable {X : Cx} {κ κ1 κ2 κ3 κ4 : OE} {pos : Pos} {rc : RC}
theorem j_mov {i k : Nat} {e : Expr} (h : PE X e (tVar i)) (hk : κ[i]? = some (some k)) : J X κ e (mV i) (.own k) (κ.set i none) true := by
  refine ⟨fun t ht => PE.imp h fun σ H Q z q => ?_, fun _ ρ d' ρ' e => (mV_some e).2⟩
  obtain ⟨g, ρ, S, d', ρ', em, post⟩ := q z
  obtain ⟨e1, rfl⟩ := mV_some em
  obtain ⟨v, es, o⟩ := S.ok i k d' hk e1
  have hi : i < X.N.length := by
    have := (List.getElem?_eq_some_iff.mp es).1
    have := z.2
    omega
  refine ⟨v, es, post v H (mvG i t [] (fun _ _ => false) g) ⟨fun m k' d2 h1 h2 => ?_, fun a h => S.gok a (mvG_ne h), S.len, by simp [S.lek]⟩ ⟨fun a z => ⟨mvG_fz z, rfl⟩, fun a z _ => ⟨mvG_un z, rfl⟩, fun a r p h1 h2 z => ⟨mvG_o (by omega) rfl z, rfl⟩, fun a r p h1 h2 z => mvG_inv (by omega) z, fun _ _ z _ => z⟩ (fun _ => Same.refl H) ?_⟩
  · rcases set_some h1 with ⟨_, e, _⟩ | ⟨hm, h1⟩
    · cases e
    · obtain ⟨v', es', w⟩ := S.ok m k' d2 h1 h2
      exact ⟨v', es', own_conv (fun _ _ z _ => z) d2 (.inr fun a z => ⟨mvG_fz z, rfl⟩) (fun a q z hh => ⟨rfl, by rw [if_pos hh]; exact mvG_o hm rfl z⟩) (fun _ z => z) w⟩
  · exact own_conv (fun _ _ z _ => z) d' (.inr fun a z => ⟨mvG_fz z, rfl⟩) (fun a q z hh => ⟨rfl, by rw [if_pos hh, mvG_t z]; simp⟩) (fun _ z => z) o
def sTgt (m : M) (mg : MG) : SM := fun ρ => (m ρ).bind fun x => (mg x.1 x.2).map fun ρ2 => .nx ρ2
theorem js_tgt {tg e : Expr} {m : M} {mgd : MG} {ts : List Nat} {pu : Bool} (h : J X κ e m (.own 0) κ1 pu) (hg : JG X κ1 tg mgd κ2 ts) (hf : notFxs rc ts = true) (hs : swapsWithSole [tg] e pos.line X.env = pure false) (hw : swappedStores [tg] e X.env = pure none)
    (h1 : (assignEach [tg] X.env).map (·.2) = [assign tg X.env]) : JS X κ (.Assign [tg] e pos) (sTgt m mgd) κ2 rc := by
  refine ⟨fun s0 t ht => PS.imp (ps_asg (h.run t ht) (hg.run t ht) hs hw h1) fun σ H D z q => ?_⟩
  obtain ⟨g, ρ, S, fx, o, em, post⟩ := q z
  unfold sTgt at em
  cases e1 : m ρ with
  | none => rw [e1] at em; cases em
  | some x =>
    rw [e1] at em
    simp only [Option.bind_some] at em
    cases e2 : mgd x.1 x.2 with
    | none => rw [e2] at em; cases em
    | some ρ2 =>
      rw [e2] at em
      cases em
      refine fun _ => ⟨g, ρ, S, x.1, x.2, e1, fun v H' g' S' P' s' r' => fun _ => ⟨g', x.2, x.1, S', own_fz (fun a z => ⟨z, rfl⟩) (fun _ _ z _ => z) r', ρ2, e2, fun σ2 g2 S2 P2 f2 => post σ2 H' g2 S2 (P'.trans P2) (fx.sets hf f2)⟩⟩
theorem j_glS {x : Str} {z : Str} (hg : Gl X x) (hm : ∃ t, X.mg x = some (.str z t)) (hd : (x == ("__debug__" : Str)) = false) {rz : Rz} : J X κ (.Name x pos) (mC (.str z)) rz κ true := by
  obtain ⟨t, hm⟩ := hm
  exact j_const rfl (pe_glob (v := .str z) hg hm ⟨t, rfl⟩ hd)
theorem j_glI {x : Str} {i : Int} (hg : Gl X x) (hm : ∃ t, X.mg x = some (.int i t)) (hd : (x == ("__debug__" : Str)) = false) {rz : Rz} : J X κ (.Name x pos) (mC (.int i)) rz κ true := by
  obtain ⟨t, hm⟩ := hm
  exact j_const rfl (pe_glob (v := .int i) hg hm ⟨t, rfl⟩ hd)
def mNeg (m : M) : M := fun ρ => match m ρ with
  | some (.int i, ρ') => some (.int (-i), ρ')
  | _ => none
theorem j_neg {e : Expr} {m : M} {rz rz' : Rz} {pu : Bool} (h : J X κ e m rz κ1 pu) : J X κ (.UnaryOp .USub e pos) (mNeg m) rz' κ1 pu := by
  have key : ∀ {ρ ρ' d}, mNeg m ρ = some (d, ρ') → ∃ i, m ρ = some (.int i, ρ') ∧ d = .int (-i) := fun {ρ ρ' d} e => by
    unfold mNeg at e
    split at e
    · cases e; exact ⟨_, by assumption, rfl⟩
    · cases e
  refine ⟨fun t ht => PE.imp (pe_un un_neg (h.run t ht)) fun σ H Q z q => ?_, fun hp ρ d ρ' e => ?_⟩
  · obtain ⟨g, ρ, S, c, ρ', em, post⟩ := q z
    obtain ⟨i, e1, rfl⟩ := key em
    refine fun _ => ⟨g, ρ, S, .int i, ρ', e1, fun v H' g' S' P' s' r' => ?_⟩
    cases (show _ = _ from r'.rep)
    exact ⟨i, rfl, post _ H' g' S' P' s' (atom_rz (d := .int (-i)) rfl)⟩
  · obtain ⟨i, e1, _⟩ := key e
    exact h.pur hp _ _ _ e1
structure Has (P : Program) (w : World) (K : PySem.W.Frag) (mg : Str → Option Value) (base : Heap) (x : Str) (lev : Nat) (ps : List Str) (sg : Sg) (f : FM) : Prop where
  ex : ∃ fa fd, mg x = some (.ref fa) ∧ PySem.W.keepIn K (.ref fa) = true ∧ Binds K fd ps [] ∧ FnOk P w K mg base CX0 lev fa fd ps (fnSp K sg f)
abbrev FnP (K : PySem.W.Frag) (x : Str) (st : Stmt) (f : Addr) (fd : FuncData) : Prop := FunD K x x (defArgs st) (defBody st) (defScope st) [] [] f fd
abbrev cxD (P : Program) (w : World) (K : PySem.W.Frag) (mg : Str → Option Value) (base : Heap) (N : List Str) (qual : Str) (scope : Scope) (f : Addr) (cd : Value) (A : Around) (outer : List Env) (s : Shared) (H : Hp) (E : XK) : Cx :=
  (cxOf CX0 P w K mg base N qual scope f cd A outer s H E).nox
theorem has_mk {x : Str} {st : Stmt} {fa : Addr} {fd : FuncData} {N ps : List Str} {k n np : Nat} {sg : Sg} {m : SM} (F : FnP K x st fa fd) (hm : mg x = some (.ref fa)) (S : FnScope N ps (defScope st)) (hN : N.length = n) (hp : ps.length = sg.ks.length) (h1 : sg.ks.length ≤ n) (h2 : sg.ks'.length = sg.ks.length)
    (bd : ∀ (kV doc pm : Value) (an : Option Addr) (cdv ct : Value) (us : List Value), us.length = ps.length → bindArgs (PySem.W.fnOf x x (defArgs st) (defBody st) (defScope st) .none kV doc pm an cdv ct) ⟨us, []⟩ = pure (ps.zip us))
    (body : ∀ (cdv : Value) (A : Around) (outer : List Env) (s : Shared) (H : Hp) (E : XK), Room k (A.deeper (envOfC x (defScope st) s.heap.objs.size fa cdv)) → JB (cxD P w K mg base N x (defScope st) fa cdv A outer s H E) (κ0 sg n) (defBody st) m (rcOf sg n).κr (rcOf sg n)) :
    Has P w K mg base x (k + 1) ps sg (fM np n sg.ks' m) := by
  refine ⟨fa, fd, hm, F.kp, F.bindsN bd, F.ok S (fun vs H Q E q => fnSp_len hp vs H Q E q) fun cdv A outer s H vs Q E hr q => ?_⟩
  obtain ⟨b1, b2⟩ := body_ok (X := cxD P w K mg base N x (defScope st) fa cdv A outer s H E) rfl hN (body cdv A outer s H E hr) h1 h2 q
  exact ⟨_, b1.nox, b2⟩
theorem has_call {x : Str} {lev n : Nat} {ps : List Str} {sg : Sg} {f : FM} {e : Expr} {es : List Expr} {t : TA} {p : Pos} (h : Has X.prog X.w X.K X.mg X.base x lev ps sg f) (hr : Room n X.A) (hl : lev ≤ n) (hg : Gl X x) (ha : PA X (e :: es) t)
    (hd : (x == ("__debug__" : Str)) = false) (he : starEach (e :: es) X.env = (false, eval e X.env) :: starEach es X.env) (hpl : (backTo pos (starEach es X.env)).any (·.1) = false) : PE X (.Call (.Name x p) (e :: es) [] pos) (tCall (fnSp X.K sg f) [] E0 t) := by
  obtain ⟨fa, fd, hm, hk, hb, F⟩ := h.ex
  exact pe_call F (hr.mono hl) hg hm hk hb .nil pass0 ha hd he hpl
theorem units_of {n : Nat} {A : Around} (hr : Room n A) : A.units + 100 < cLine := by
  have := hr.un
  omega
end VS
namespace VS
open PySem PySem.Spec PyProof.Rows L2
variable {X : Cx} {κ κ1 κ2 κ3 κ4 : OE} {pos : Pos} {rc : RC}
end VS
namespace VS
open PySem PySem.Spec PyProof.Rows L2
variable {P : Program} {w : World} {K : PySem.W.Frag} {mg : Str → Option Value} {base : Heap}
theorem fn_mk {x : Str} {st : Stmt} {fa : Addr} {fd : FuncData} {N ps : List Str} {k n np : Nat} {sg : Sg} {m : SM} (F : FnP K x st fa fd) (S : FnScope N ps (defScope st)) (hN : N.length = n) (hp : ps.length = sg.ks.length) (h1 : sg.ks.length ≤ n) (h2 : sg.ks'.length = sg.ks.length)
    (body : ∀ (cdv : Value) (A : Around) (outer : List Env) (s : Shared) (H : Hp) (E : XK), Room k (A.deeper (envOfC x (defScope st) s.heap.objs.size fa cdv)) → JB (cxD P w K mg base N x (defScope st) fa cdv A outer s H E) (κ0 sg n) (defBody st) m (rcOf sg n).κr (rcOf sg n)) :
    FnOk P w K mg base CX0 (k + 1) fa fd ps (fnSp K sg (fM np n sg.ks' m)) := by
  refine F.ok S (fun vs H Q E q => fnSp_len hp vs H Q E q) fun cdv A outer s H vs Q E hr q => ?_
  obtain ⟨b1, b2⟩ := body_ok (X := cxD P w K mg base N x (defScope st) fa cdv A outer s H E) rfl hN (body cdv A outer s H E hr) h1 h2 q
  exact ⟨_, b1.nox, b2⟩
theorem law_sp {sg : Sg} {F : FM} {n : Nat} (hsg : sg.ks = [0]) (law : ∀ ns : List Int, ns.length ≤ n → ∃ e, F [.rol ns] = some (.bl true, [e])) (H : Hp) (a : Addr) (ns : List Int) (hl : ns.length ≤ n) (hO : Only H) (hS : SqL K H a (ns.map V.int)) :
    fnSp K sg F [.ref a] H (fun v _ => v = .bl true) fun _ _ _ => False := by
  obtain ⟨e, he⟩ := law ns hl
  refine ⟨gAll H, [.rol ns], gAll_gok H, ?_, .bl true, [e], he, rfl, fun v H' g' rr _ _ _ o _ => o⟩
  rw [hsg]
  refine ⟨_, [], _, [], rfl, rfl, ⟨a, rfl, ?_⟩, rfl, rfl⟩
  rcases hS with h | h
  · rcases h with h | h
    · rcases hO a with z | ⟨o, xs, z⟩
      · rw [z] at h; cases h
      · rw [z] at h; cases h
    · exact .inl h
  · exact .inr h
end VS
namespace VS
open PySem PySem.Spec PyProof.Rows L2
section
variable {ρ : DE} {f f' : D → D → Option D} {ma mb mc m : M} {ml : ML} {i j : Int}
def one {α β : Type} (o : Option α) (k : α → Option β) : Option β := match o with
  | some x => k x
  | none => none
theorem ap_v {i : Nat} : mV i ρ = (match ρ[i]? with | some (some d) => some (d, ρ) | _ => none) := rfl
theorem ap_c {d : D} : mC d ρ = some (d, ρ) := rfl
theorem ap_2 : m2 f ma mb ρ = (match ma ρ with | some (x, ρ1) => (match mb ρ1 with | some (y, ρ2) => (match f x y with | some z => some (z, ρ2) | none => none) | none => none) | none => none) := by
  unfold m2
  cases ma ρ with
  | none => rfl
  | some x =>
    simp only [Option.bind_some]
    cases mb x.2 with
    | none => rfl
    | some y =>
      simp only [Option.bind_some]
      cases f x.1 y.1 <;> rfl
theorem ap_A : mA m ρ = (match m ρ with | some (x, ρ1) => (match isA x with | true => some (x, ρ1) | false => none) | none => none) := by
  unfold mA
  cases m ρ with
  | none => rfl
  | some x =>
    simp only [Option.bind_some]
    cases isA x.1 <;> rfl
theorem ap_nil : mNil ρ = some ([], ρ) := rfl
theorem ap_cons : mCons m ml ρ = (match m ρ with | some (x, ρ1) => (match ml ρ1 with | some (xs, ρ2) => some (x :: xs, ρ2) | none => none) | none => none) := by
  unfold mCons
  cases m ρ with
  | none => rfl
  | some x =>
    simp only [Option.bind_some]
    cases ml x.2 <;> rfl
theorem ap_lst : mLst ml ρ = (match ml ρ with | some (xs, ρ1) => (if xs.length ≤ 16777216 then some (.lst xs, ρ1) else none) | none => none) := by
  unfold mLst
  cases ml ρ <;> rfl
theorem ap_tup : mTup ml ρ = (match ml ρ with | some (xs, ρ1) => (if xs.length ≤ 16777216 then some (.tup xs, ρ1) else none) | none => none) := by
  unfold mTup
  cases ml ρ <;> rfl
theorem ap_B {g : List D → Option D} : mB g ml ρ = (match ml ρ with | some (xs, ρ1) => (match g xs with | some z => some (z, ρ1) | none => none) | none => none) := by
  unfold mB
  cases ml ρ with
  | none => rfl
  | some x =>
    simp only [Option.bind_some]
    cases g x.1 <;> rfl
theorem ap_call {g : FM} : mCall g ml ρ = (match ml ρ with | some (xs, ρ1) => (match g xs with | some (z, es) => some (z, ρ1) | none => none) | none => none) := by
  unfold mCall
  cases ml ρ with
  | none => rfl
  | some x =>
    simp only [Option.bind_some]
    cases g x.1 <;> rfl
theorem ap_callN {g : FM} : mCallO g none ml ρ = (match ml ρ with | some (xs, ρ1) => (match g xs with | some (z, es) => some (z, ρ1) | none => none) | none => none) := by
  unfold mCallO
  cases ml ρ with
  | none => rfl
  | some x =>
    simp only [Option.bind_some]
    cases g x.1 <;> rfl
theorem ap_callO {g : FM} {j i : Nat} : mCallO g (some (j, i)) ml ρ = (match ml ρ with | some (xs, ρ1) => (match g xs with | some (z, es) => some (z, ρ1.set i es[j]?) | none => none) | none => none) := by
  unfold mCallO
  cases ml ρ with
  | none => rfl
  | some x =>
    simp only [Option.bind_some]
    cases g x.1 <;> rfl
theorem ap_T : mTr m ρ = (match m ρ with | some (x, ρ1) => (match truD x with | some b => some (.bl b, ρ1) | none => none) | none => none) := by
  unfold mTr
  cases m ρ with
  | none => rfl
  | some x =>
    simp only [Option.bind_some]
    cases truD x.1 <;> rfl
theorem ap_isT {c : String} : mIsT c m ρ = (match m ρ with | some (x, ρ1) => (match isT c x with | some b => some (.bl b, ρ1) | none => none) | none => none) := by
  unfold mIsT
  cases m ρ with
  | none => rfl
  | some x =>
    simp only [Option.bind_some]
    cases isT c x.1 <;> rfl
theorem ap_not : mNot m ρ = (match m ρ with | some (.bl b, ρ1) => some (.bl (!b), ρ1) | _ => none) := rfl
theorem ap_neg : mNeg m ρ = (match m ρ with | some (.int i, ρ1) => some (.int (-i), ρ1) | _ => none) := rfl
theorem ap_and : mAnd ma mb ρ = (match ma ρ with | some (.bl true, ρ1) => mb ρ1 | some (.bl false, ρ1) => some (.bl false, ρ1) | _ => none) := rfl
theorem ap_or : mOr ma mb ρ = (match ma ρ with | some (.bl false, ρ1) => mb ρ1 | some (.bl true, ρ1) => some (.bl true, ρ1) | _ => none) := rfl
theorem ap_if : mIf mc ma mb ρ = (match mc ρ with | some (.bl true, ρ1) => ma ρ1 | some (.bl false, ρ1) => mb ρ1 | _ => none) := rfl
theorem ap_ch : mCh f f' ma mb mc ρ = (match ma ρ with | some (x, ρ1) => (match mb ρ1 with | some (y, ρ2) => (match f x y with | some (.bl true) => (match mc ρ2 with | some (z, ρ3) => (match f' y z with | some w => some (w, ρ3) | none => none) | none => none) | some (.bl false) => some (.bl false, ρ2) | _ => none) | none => none) | none => none) := by
  unfold mCh
  cases ma ρ with
  | none => rfl
  | some x =>
    simp only [Option.bind_some]
    cases mb x.2 with
    | none => rfl
    | some y =>
      simp only [Option.bind_some]
      cases f x.1 y.1 with
      | none => rfl
      | some w => cases w with
        | bl b => cases b with
          | true =>
            simp only []
            cases mc y.2 with
            | none => rfl
            | some z =>
              simp only [Option.bind_some]
              cases f' y.1 z.1 <;> rfl
          | false => rfl
        | _ => rfl
variable {a b : SM}
theorem ap_seq : sSeq a b ρ = (match a ρ with | some (.nx ρ1) => b ρ1 | x => x) := rfl
theorem ap_snil : sNil ρ = some (.nx ρ) := rfl
theorem ap_sif : sIf mc a b ρ = (match mc ρ with | some (.bl true, ρ1) => a ρ1 | some (.bl false, ρ1) => b ρ1 | _ => none) := rfl
theorem ap_ret : sRet m ρ = (match m ρ with | some (x, ρ1) => some (.rt x ρ1) | none => none) := by
  unfold sRet
  cases m ρ <;> rfl
theorem ap_retN : sRetN ρ = some (.rt .non ρ) := rfl
theorem ap_asg {i : Nat} : sAsg i m ρ = (match m ρ with | some (x, ρ1) => some (.nx (ρ1.set i (some x))) | none => none) := by
  unfold sAsg
  cases m ρ <;> rfl
theorem ap_exp : sExp m ρ = (match m ρ with | some (x, ρ1) => some (.nx ρ1) | none => none) := by
  unfold sExp
  cases m ρ <;> rfl
theorem ap_tgt {mg : MG} : sTgt m mg ρ = (match m ρ with | some (x, ρ1) => (match mg x ρ1 with | some ρ2 => some (.nx ρ2) | none => none) | none => none) := by
  unfold sTgt
  cases m ρ with
  | none => rfl
  | some x =>
    simp only [Option.bind_some]
    cases mg x.1 x.2 <;> rfl
theorem ap_app {i : Nat} : sApp i m ρ = (match ρ[i]? with | some (some (.lst _)) => (match m ρ with | some (x, ρ1) => (match ρ1[i]? with | some (some (.lst ds)) => if ds.length < 16777216 then some (.nx (ρ1.set i (some (.lst (ds ++ [x]))))) else none | _ => none) | none => none) | _ => none) := by
  unfold sApp
  cases ρ[i]? with
  | none => rfl
  | some o => cases o with
    | none => rfl
    | some d => cases d with
      | lst ds => cases m ρ <;> rfl
      | _ => rfl
theorem ap_rev {i : Nat} : sRev i ρ = (match ρ[i]? with | some (some (.lst ds)) => some (.nx (ρ.set i (some (.lst ds.reverse)))) | _ => none) := rfl
theorem ap_set {i : Nat} : sSet i ma mb ρ = (match ma ρ with | some (x, ρ1) => (match ρ1[i]? with | some (some (.lst ds)) => (match mb ρ1 with | some (.int k, ρ2) => (match ixN ds.length k with | some j => some (.nx (ρ2.set i (some (.lst (ds.set j x))))) | none => none) | _ => none) | _ => none) | none => none) := by
  unfold sSet
  cases ma ρ <;> rfl
theorem ap_aug {g : Int → Int → Int} {i : Nat} : sAug g i m ρ = (match ρ[i]? with | some (some (.int a)) => (match m ρ with | some (.int b, ρ1) => some (.nx (ρ1.set i (some (.int (g a b))))) | _ => none) | _ => none) := rfl
theorem ap_for {mg : MG} : sFor ml mg b ρ = (match ml ρ with | some (ds, ρ1) => itF mg b ds ρ1 | none => none) := by
  unfold sFor
  cases ml ρ <;> rfl
theorem ap_forM {i j : Nat} : sForM i j b ρ = (match ρ[i]? with | some (some (.lst ds)) => (match itM j b ds ρ with | some (xs, ρ1) => some (.nx (ρ1.set i (some (.lst xs)))) | none => none) | _ => none) := by
  unfold sForM
  cases ρ[i]? with
  | none => rfl
  | some o => cases o with
    | none => rfl
    | some d => cases d with
      | lst ds =>
        simp only []
        cases itM j b ds ρ <;> rfl
      | _ => rfl
theorem ap_rng1 : mRng1 ml ρ = (match ml ρ with | some ([.int j], ρ1) => (match lim62 j with | true => some (rngD 0 j.toNat, ρ1) | false => none) | _ => none) := by
  unfold mRng1
  cases ml ρ with
  | none => rfl
  | some p =>
    obtain ⟨xs, ρ1⟩ := p
    simp only [Option.bind_some]
    cases xs with
    | nil => rfl
    | cons x xs => cases xs with
      | nil => cases x with
        | int j =>
          simp only []
          cases lim62 j <;> rfl
        | _ => rfl
      | cons y ys => cases x <;> rfl
theorem ap_rng2 : mRng2 ml ρ = (match ml ρ with | some ([.int i, .int j], ρ1) => (match lim62 i && lim62 j with | true => some (rngD i (j - i).toNat, ρ1) | false => none) | _ => none) := by
  unfold mRng2
  cases ml ρ with
  | none => rfl
  | some p =>
    obtain ⟨xs, ρ1⟩ := p
    simp only [Option.bind_some]
    cases xs with
    | nil => rfl
    | cons x xs => cases xs with
      | nil => cases x <;> rfl
      | cons y ys => cases ys with
        | nil => cases x with
          | int i => cases y with
            | int j =>
              simp only []
              cases lim62 i <;> cases lim62 j <;> simp
            | _ => rfl
          | _ => cases y <;> rfl
        | cons z zs => cases x with
          | int i => cases y <;> rfl
          | _ => rfl
theorem ap_mseq : mSeq m ρ = (match m ρ with | some (.lst xs, ρ1) => some (xs, ρ1) | some (.tup xs, ρ1) => some (xs, ρ1) | _ => none) := by
  unfold mSeq
  cases m ρ with
  | none => rfl
  | some p =>
    obtain ⟨x, ρ1⟩ := p
    simp only [Option.bind_some]
    cases x <;> rfl
theorem ap_enum : mEnum ml ρ = (match ml ρ with | some ([.lst xs], ρ1) => some (enumD xs, ρ1) | _ => none) := by
  unfold mEnum
  cases ml ρ with
  | none => rfl
  | some p =>
    obtain ⟨xs, ρ1⟩ := p
    simp only [Option.bind_some]
    cases xs with
    | nil => rfl
    | cons x xs => cases xs with
      | nil => cases x <;> rfl
      | cons y ys => cases x <;> rfl
theorem ap_lc {pu : Bool} {vs : List Nat} {mg : MG} {me : M} : mLc pu vs ml mg mc me ρ = (match ml ρ with | some (ds, ρ1) => (match cpL vs mg mc me ds ρ1 with | some (es, ρ2) => (if es.length ≤ 16777216 then some (.lst es, if pu then ρ1 else ρ2) else none) | none => none) | none => none) := by
  unfold mLc
  cases ml ρ with
  | none => rfl
  | some p =>
    simp only [Option.bind_some]
    cases cpL vs mg mc me p.1 p.2 <;> rfl
theorem ap_yes : mYes ρ = some (.bl true, ρ) := rfl
theorem ap_gnm {i : Nat} {d : D} : gNm i d ρ = some (ρ.set i (some d)) := rfl
theorem ap_gtp {ms : List D → DE → Option DE} {ds : List D} : gTp ms (.tup ds) ρ = ms ds ρ := rfl
theorem ap_gnil : gsNil [] ρ = some ρ := rfl
theorem ap_gcons {g : MG} {ms : List D → DE → Option DE} {d : D} {ds : List D} : gsCons g ms (d :: ds) ρ = (match g d ρ with | some ρ1 => ms ds ρ1 | none => none) := by
  show (g d ρ).bind _ = _
  cases g d ρ <;> rfl
theorem ap_fM {np n : Nat} {ks' : List (Option Nat)} {m : SM} {ds : List D} : fM np n ks' m ds = (match decide (ds.length = np) with | true => (match m (ds.map some ++ List.replicate (n - ds.length) none) with | some (.rt d ρ) => (match outsD ks' ρ 0 ds with | some es => some (d, es) | none => none) | some (.nx ρ) => (match outsD ks' ρ 0 ds with | some es => some (.non, es) | none => none) | none => none) | false => none) := by
  unfold fM
  by_cases h : ds.length = np
  · simp only [h, if_true, decide_true]
    cases m (ds.map some ++ List.replicate (n - np) none) with
    | none => rfl
    | some o => cases o with
      | rt d ρ =>
        simp only []
        cases outsD ks' ρ 0 ds <;> rfl
      | nx ρ =>
        simp only []
        cases outsD ks' ρ 0 ds <;> rfl
  · simp only [h, if_false, decide_false]
theorem ap_on {ks' : List (Option Nat)} {j : Nat} : outsD ks' ρ j [] = some [] := rfl
theorem ap_oc {ks' : List (Option Nat)} {j : Nat} {d : D} {ds : List D} : outsD ks' ρ j (d :: ds) = (match ks'[j]? with
    | some (some _) => (match ρ[j]? with
      | some (some d') => (match outsD ks' ρ (j + 1) ds with | some es => some (d' :: es) | none => none)
      | _ => none)
    | _ => (match outsD ks' ρ (j + 1) ds with | some es => some (d :: es) | none => none)) := by
  rw [outsD]
  cases ks'[j]? with
  | none => cases outsD ks' ρ (j + 1) ds <;> rfl
  | some o => cases o with
    | none => cases outsD ks' ρ (j + 1) ds <;> rfl
    | some k => cases ρ[j]? with
      | none => rfl
      | some q => cases q with
        | none => rfl
        | some d' => cases outsD ks' ρ (j + 1) ds <;> rfl
theorem r_add : dAdd (.int i) (.int j) = some (.int (i + j)) := rfl
theorem r_sub : dSub (.int i) (.int j) = some (.int (i - j)) := rfl
theorem cMul_l (h : -1000000000000000000 < i ∧ i < 1000000000000000000) : cMul i j = true := by
  unfold cMul
  have h1 : i.natAbs < 18446744073709551616 := by omega
  simp [h1]
theorem cMul_r (h : -1000000000000000000 < j ∧ j < 1000000000000000000) : cMul i j = true := by
  unfold cMul
  have h1 : j.natAbs < 18446744073709551616 := by omega
  simp [h1]
theorem r_mul (h : cMul i j = true) : dMul (.int i) (.int j) = some (.int (i * j)) := by unfold dMul dI; simp only [h, if_true]
theorem r_div (h : 0 < j) (h2 : j < 1073741824) : dDiv (.int i) (.int j) = some (.int (i / j)) := by unfold dDiv dI cDiv; simp [h, h2]
theorem r_mod (h : 0 < j) : dMod (.int i) (.int j) = some (.int (i % j)) := by unfold dMod dI; simp [h]
theorem r_pow (h : 0 ≤ j) (h1 : j ≤ 1000000) (hi : i.natAbs < 18446744073709551616) : dPow (.int i) (.int j) = some (.int (i ^ j.toNat)) := by unfold dPow dI cPow; simp [h, h1, hi]
theorem r_lt : dLt (.int i) (.int j) = some (.bl (decide (i < j))) := rfl
theorem r_le : dLe (.int i) (.int j) = some (.bl (decide (i ≤ j))) := rfl
theorem r_gt : dGt (.int i) (.int j) = some (.bl (decide (j < i))) := rfl
theorem r_ge : dGe (.int i) (.int j) = some (.bl (decide (j ≤ i))) := rfl
theorem dq_int : deq (.int i) (.int j) = decide (i = j) := by
  unfold deq pyD PyData.eqv
  rfl
theorem dq_str {x y : Str} : deq (.str x) (.str y) = decide (x = y) := by
  unfold deq pyD PyData.eqv
  rfl
theorem r_eqI : dEq (.int i) (.int j) = some (.bl (decide (i = j))) := by
  unfold dEq
  rw [dq_int]
  rfl
theorem r_eqS {x y : Str} : dEq (.str x) (.str y) = some (.bl (decide (x = y))) := by
  unfold dEq
  rw [dq_str]
  rfl
theorem r_neI : dNe (.int i) (.int j) = some (.bl (!decide (i = j))) := by
  unfold dNe
  rw [dq_int]
  rfl
theorem r_neS {x y : Str} : dNe (.str x) (.str y) = some (.bl (!decide (x = y))) := by
  unfold dNe
  rw [dq_str]
  rfl
theorem r_ixL {xs : List D} : dIx (.lst xs) (.int i) = atI xs i := rfl
theorem r_ixT {xs : List D} : dIx (.tup xs) (.int i) = atI xs i := rfl
theorem r_ixR {xs : List Int} : dIx (.rol xs) (.int i) = (atI xs i).map .int := rfl
theorem r_ipL {xs : List D} : dIxP (.lst xs) (.int i) = atI xs i := rfl
theorem r_ipT {xs : List D} : dIxP (.tup xs) (.int i) = atI xs i := rfl
theorem at_nn {α : Type} {xs : List α} {n : Nat} (h : n < xs.length) : atI xs (n : Int) = xs[n]? := by
  unfold atI ixN
  have h1 : (0 : Int) ≤ (n : Int) := by omega
  have h2 : (n : Int) < (xs.length : Int) := by omega
  simp [h1, h2]
theorem r_len {xs : List D} : fLen [.lst xs] = some (.int xs.length) := rfl
theorem r_lenT {xs : List D} : fLen [.tup xs] = some (.int xs.length) := rfl
theorem r_lenR {xs : List Int} : fLen [.rol xs] = some (.int xs.length) := rfl
theorem r_abs : fAbs [.int i] = some (.int (if i < 0 then -i else i)) := rfl
theorem r_max : fMax2 [.int i, .int j] = some (.int (if j > i then j else i)) := rfl
theorem r_min : fMin2 [.int i, .int j] = some (.int (if j < i then j else i)) := rfl
theorem a_int : isA (.int i) = true := rfl
theorem a_bl {b : Bool} : isA (.bl b) = true := rfl
theorem a_str {b : Str} : isA (.str b) = true := rfl
theorem a_non : isA .non = true := rfl
theorem t_bl {b : Bool} : truD (.bl b) = some b := rfl
end
theorem itF_inv {mg : MG} {mb : SM} (I : Nat → DE → Prop) : ∀ (ds : List D) (k : Nat) (ρ : DE), (∀ (i : Nat) (d : D), ds[i]? = some d → ∀ ρ, I (k + i) ρ → ∃ ρ1 ρ2, mg d ρ = some ρ1 ∧ mb ρ1 = some (.nx ρ2) ∧ I (k + i + 1) ρ2) → I k ρ → ∃ ρ', itF mg mb ds ρ = some (.nx ρ') ∧ I (k + ds.length) ρ'
  | [], k, ρ, _, h => ⟨ρ, rfl, h⟩
  | d :: ds, k, ρ, st, h => by
    obtain ⟨ρ1, ρ2, e1, e2, h2⟩ := st 0 d rfl ρ h
    obtain ⟨ρ', e3, h3⟩ := itF_inv I ds (k + 1) ρ2 (fun i d e ρ hh => by
      have := st (i + 1) d e ρ (by rw [show k + (i + 1) = k + 1 + i by omega]; exact hh)
      rw [show k + (i + 1) + 1 = k + 1 + i + 1 by omega] at this
      exact this) h2
    refine ⟨ρ', ?_, by rw [show k + (d :: ds).length = k + 1 + ds.length by simp; omega]; exact h3⟩
    simp only [itF]
    rw [e1]
    simp only [Option.bind_some]
    rw [e2]
    exact e3
end VS
namespace VS
open PySem PySem.Spec PyProof.Rows L2
theorem deq_self (d : D) : deq d d = true := PySem.SeqAt.eqv_refl_plain _ (plain_pyD d)
theorem pyL_map (ds : List D) : pyL ds = ds.map pyD := by
  induction ds with
  | nil => rfl
  | cons d ds ih => simp only [pyL, List.map_cons, ih]
theorem depL_pl {k : Nat} (hk : k < 1000) : ∀ {ds : List D}, (∀ d ∈ ds, dep d ≤ k) → noDL ds = true ∧ PyData.depthAll (pyL ds) ≤ k
  | [], _ => ⟨rfl, by
    show PyData.depthAll [] ≤ k
    rw [PyData.depthAll]
    exact Nat.zero_le k⟩
  | d :: ds, h => by
    have h1 := h d (by simp)
    obtain ⟨h2, h3⟩ := depL_pl hk (ds := ds) fun x hx => h x (by simp [hx])
    have h4 : noD d = true ∧ (pyD d).depth ≤ k := by
      unfold dep at h1
      split at h1
      · exact ⟨by assumption, h1⟩
      · omega
    refine ⟨by show (noD d && noDL ds) = true; rw [h4.1, h2]; rfl, ?_⟩
    show PyData.depthAll (pyD d :: pyL ds) ≤ k
    rw [PyData.depthAll]
    exact Nat.max_le.mpr ⟨h4.2, h3⟩
theorem depL_le {k : Nat} {ds : List D} (h : ∀ d ∈ ds, dep d ≤ k) (hk : k < 1000 := by omega) : depL ds ≤ k := by
  obtain ⟨h1, h2⟩ := depL_pl hk h
  unfold depL
  rw [if_pos h1]
  exact h2
theorem dep_lst {k : Nat} {ds : List D} (h : ∀ d ∈ ds, dep d ≤ k) (hk : k < 999 := by omega) : dep (.lst ds) ≤ k + 1 := by
  obtain ⟨h1, h2⟩ := depL_pl (by omega) h
  unfold dep
  rw [if_pos (show noD (.lst ds) = true from h1)]
  show PyData.depth (.list (pyL ds)) ≤ k + 1
  rw [PyData.depth]
  omega
theorem dep_tup {k : Nat} {ds : List D} (h : ∀ d ∈ ds, dep d ≤ k) (hk : k < 999 := by omega) : dep (.tup ds) ≤ k + 1 := by
  obtain ⟨h1, h2⟩ := depL_pl (by omega) h
  unfold dep
  rw [if_pos (show noD (.tup ds) = true from h1)]
  show PyData.depth (.tuple (pyL ds)) ≤ k + 1
  rw [PyData.depth]
  omega
theorem dep_atom {d : D} (h : isA d = true) : dep d = 0 := by
  cases d <;> first | (cases h; done) | (unfold dep pyD; simp [PyData.depth, noD])
theorem cmp_ok {a b : D} (h : dep a ≤ 60) (h2 : dep b ≤ 60) : cmpOk a b = true := by
  unfold cmpOk
  simp [h, h2]
theorem eq_same {a : D} (h : dep a ≤ 60) : dEq a a = some (.bl true) := by
  unfold dEq
  rw [if_pos (cmp_ok h h), deq_self]
theorem cnt_str (ws : List Str) (w : Str) : dCnt (.lst (ws.map D.str)) (.str w) = some (.int ((ws.countP fun x => decide (x = w) : Nat) : Int)) := by
  unfold dCnt
  have h0 : depL (ws.map D.str) ≤ 0 := depL_le fun d hd => by
    obtain ⟨x, _, rfl⟩ := List.mem_map.mp hd
    rw [dep_atom rfl]
    exact Nat.le_refl 0
  simp only []
  rw [if_pos (by rw [Bool.and_eq_true, decide_eq_true_eq, decide_eq_true_eq, dep_atom rfl]; omega)]
  congr 3
  rw [pyL_map, List.map_map, List.countP_map]
  refine congrArg Nat.cast (List.countP_congr fun x _ => ?_)
  have := dq_str (x := x) (y := w)
  show (deq (.str x) (.str w) = true) ↔ _
  rw [this]
theorem enumD_eq (ds : List D) : enumD ds = (List.range ds.length).map fun i => .tup [.int (i : Nat), (ds[i]?).getD default] := by
  unfold enumD
  apply List.ext_getElem?
  intro j
  rw [List.getElem?_zipWith, List.getElem?_map]
  by_cases h : j < ds.length
  · rw [List.getElem?_range h, List.getElem?_eq_getElem h]
    simp only [Option.map_some, List.getElem?_eq_getElem h, Option.getD_some]
  · rw [List.getElem?_eq_none (by simp; omega)]
    simp
mutual
def sd : D → Bool
  | .non => true
  | .int _ => true
  | .str _ => true
  | .tup xs => sdL xs
  | .lst xs => sdL xs
  | _ => false
def sdL : List D → Bool
  | [] => true
  | x :: xs => sd x && sdL xs
end
theorem deq_iff : (a b : D) → sd a = true → sd b = true → (deq a b = true ↔ a = b)
  | .non, b, _, hb => by cases b <;> first | (cases hb; done) | simp [deq, pyD, PyData.eqv]
  | .int i, b, _, hb => by cases b <;> first | (cases hb; done) | simp [deq, pyD, PyData.eqv]
  | .str x, b, _, hb => by cases b <;> first | (cases hb; done) | simp [deq, pyD, PyData.eqv]
  | .tup xs, b, ha, hb => by
    cases b <;> first | (cases hb; done) | (simp [deq, pyD, PyData.eqv]; done) | skip
    have := go xs _ ha hb
    simp only [deq, pyD, PyData.eqv, D.tup.injEq]
    exact this
  | .lst xs, b, ha, hb => by
    cases b <;> first | (cases hb; done) | (simp [deq, pyD, PyData.eqv]; done) | skip
    have := go xs _ ha hb
    simp only [deq, pyD, PyData.eqv, D.lst.injEq]
    exact this
  | .bl _, _, h, _ => nomatch h
  | .rol _, _, h, _ => nomatch h
  | .dic _ _, _, h, _ => nomatch h
  | .nd _ _, _, h, _ => nomatch h
  | .obj _, _, h, _ => nomatch h
  | .gon, _, h, _ => nomatch h
  | .ins _ _, _, h, _ => nomatch h
where
  go : (xs ys : List D) → sdL xs = true → sdL ys = true → (PyData.eqvAll (pyL xs) (pyL ys) = true ↔ xs = ys)
  | [], [], _, _ => by simp [pyL, PyData.eqvAll]
  | [], _ :: _, _, _ => by simp [pyL, PyData.eqvAll]
  | _ :: _, [], _, _ => by simp [pyL, PyData.eqvAll]
  | x :: xs, y :: ys, h1, h2 => by
    have h1' : (sd x && sdL xs) = true := h1
    have h2' : (sd y && sdL ys) = true := h2
    rw [Bool.and_eq_true] at h1' h2'
    have a := deq_iff x y h1'.1 h2'.1
    have b := go xs ys h1'.2 h2'.2
    simp only [pyL, PyData.eqvAll, Bool.and_eq_true, List.cons.injEq]
    rw [← b, ← a]
    rfl
end VS
namespace VS
open PySem PySem.Spec PyProof.Rows L2
variable {K : PySem.W.Frag} {X : Cx} {κ κ1 κ2 : OE} {pos : Pos} {rc : RC}
def isNon : D → Bool
  | .non => true
  | _ => false
def dIsV (neg : Bool) (x : D) : D → Option D
  | .non => some (.bl (if neg then !(isNon x) else isNon x))
  | .bl k => (match x with
    | .bl j => some (.bl (if neg then !(decide (j = k)) else decide (j = k)))
    | _ => none)
  | _ => none
theorem dIsV_a {neg : Bool} (x y z : D) (h : dIsV neg x y = some z) : isA z = true := by
  unfold dIsV at h
  split at h
  · cases h; rfl
  · split at h
    · cases h; rfl
    · cases h
  · cases h
theorem rep_isNon {H : Hp} {d : D} {v : V} (r : Rep K H d v) : decide (v = .non) = isNon d := by
  cases d with
  | non => cases (show v = .non from r); rfl
  | bl b => cases (show _ = _ from r); rfl
  | int b => cases (show _ = _ from r); rfl
  | str b => cases (show _ = _ from r); rfl
  | tup ds => obtain ⟨a, vs, rfl, _⟩ := r; rfl
  | lst ds => obtain ⟨a, vs, rfl, _⟩ := r; rfl
  | rol ns => obtain ⟨a, rfl, _⟩ := r; rfl
  | dic q ds => obtain ⟨a, vs, rfl, _⟩ := r; rfl
  | nd q ds => obtain ⟨a, vs, rfl, _⟩ := r; rfl
  | obj a => cases (show _ = _ from r); rfl
  | gon => obtain ⟨a, rfl⟩ := r; rfl
  | ins c ds => obtain ⟨a, dx, vs, rfl, _⟩ := r; rfl
theorem o_isnot : OpR X (compareOp .IsNot) (rDat X.K (dIsV true)) := by
  intro pins s σ H x y v u Q I rx ry q
  obtain ⟨a, b, c, ra, rb, e, ha, q⟩ := q
  unfold dIsV at e
  split at e
  · cases e
    cases (show _ = _ from rb)
    refine op_notN pins s σ H x .non v u Q I rx ry ⟨rfl, ?_⟩
    rw [rep_isNon ra]
    exact q
  · split at e
    · cases e
      cases (show _ = _ from rb)
      cases (show _ = _ from ra)
      exact op_notBl pins s σ H _ _ v u Q I rx ry ⟨_, _, rfl, rfl, q⟩
    · cases e
  · cases e
structure MutOp (X : Cx) (r : V → List V → Hp → VK → Prop) (f : List D → List D → Option (D × List D)) : Prop where
  ans : ∀ (H : Hp) (g : G) (L : Addr) (vs avs : List V) (ds as ds' : List D) (z : D) (Q : VK), H L = some (.lst vs) → OwnL X.K H g ds 0 0 [] 0 vs → OwnL X.K H g as 0 0 [] 0 avs → f ds as = some (z, ds') →
    (∀ v vs', OwnL X.K H g ds' 0 0 [] 0 vs' → Own X.K H g z 0 0 [] v → Q v (upd H L (.lst vs'))) → r (.ref L) avs H Q
def mMut (i : Nat) (f : List D → List D → Option (D × List D)) (ml : ML) : M := fun ρ => match ρ[i]? with
  | some (some (.lst _)) => (ml ρ).bind fun x => (match x.2[i]? with
    | some (some (.lst ds)) => (f ds x.1).map fun y => (y.1, x.2.set i (some (.lst y.2)))
    | _ => none)
  | _ => none
theorem mMut_some {i : Nat} {f : List D → List D → Option (D × List D)} {ml : ML} {ρ ρ' : DE} {d : D} (h : mMut i f ml ρ = some (d, ρ')) : ∃ ds0 as ρ1 ds ds', ρ[i]? = some (some (.lst ds0)) ∧ ml ρ = some (as, ρ1) ∧ ρ1[i]? = some (some (.lst ds)) ∧ f ds as = some (d, ds') ∧ ρ' = ρ1.set i (some (.lst ds')) := by
  unfold mMut at h
  split at h
  · rename_i ds0 e0
    cases e : ml ρ with
    | none => rw [e] at h; cases h
    | some p =>
      rw [e] at h
      simp only [Option.bind_some] at h
      split at h
      · rename_i ds e1
        cases e2 : f ds p.1 with
        | none => rw [e2] at h; cases h
        | some y => rw [e2] at h; cases h; exact ⟨ds0, p.1, p.2, ds, y.2, e0, rfl, e1, e2, rfl⟩
      · cases h
  · cases h
theorem rows_fz {H : Hp} {g : G} : ∀ {t i : Nat} {ds : List D} {vs : List V}, OwnRows K H g 0 t ds vs → OwnL K H g ds 0 0 [] i vs
  | _, _, [], _, h => h
  | _, _, d :: ds, _, h => by
    obtain ⟨v, r, rfl, h1, h2⟩ := h
    exact ⟨v, r, rfl, own_fz (fun a z => ⟨z, rfl⟩) (fun _ _ z _ => z) h1, rows_fz h2⟩
theorem j_mut {e : Expr} {es : List Expr} {i k0 : Nat} {ml : ML} {ms : List Am} {pu : Bool} {r : V → List V → Hp → VK → Prop} {f : List D → List D → Option (D × List D)} (ha : JA X κ es ml ms κ1 pu) (hm : allOwn 0 ms = true) (hk0 : κ[i]? = some (some k0)) (hk : κ1[i]? = some (some 1)) (op : MutOp X r f)
    (mk : ∀ {t : TA}, PA X es t → PE X e (tBM X.K "list" r (tVar i) t)) : J X κ e (mMut i f ml) (.own 0) κ1 false := by
  refine ⟨fun t ht => PE.imp (mk (ha.run t ht)) fun σ H Q z q => ?_, fun hp => by cases hp⟩
  obtain ⟨g, ρ, S, d, ρ', em, post⟩ := q z
  obtain ⟨ds0, as, ρ1, ds, ds', e0, e1, e2, e3, rfl⟩ := mMut_some em
  obtain ⟨v, ev, o0⟩ := S.ok i k0 _ hk0 e0
  obtain ⟨L, vs0, rfl, hL0, _⟩ := o0
  refine ⟨.ref L, ev, .inl ⟨rfl, vs0, SqL.of hL0⟩, fun en2 => ⟨g, ρ, S, as, ρ1, e1, fun avs H1 g1 S1 P1 s1 r1 => ?_⟩⟩
  obtain ⟨L', vs, ev', hL, hg, ol⟩ := own1_list S1 hk e2
  rw [ev] at ev'
  cases ev'
  have al := rows_fz (i := 0) (rows_own hm r1)
  refine op.ans H1 g1 L vs avs ds as ds' d Q hL ol al e3 fun v vs' ol' ov => ?_
  obtain ⟨S2, P2⟩ := mut1 (n := X.N.length) (t := t) (ds := ds) S1 z.2 hk ev hL hg ol'
  exact post v _ g1 S2 (P1.trans P2) (fun hp => by cases hp) (own_fz P2.fz P2.tu ov)
theorem j_mut0 {e : Expr} {i : Nat} {r : V → List V → Hp → VK → Prop} {f : List D → List D → Option (D × List D)} (hk : κ[i]? = some (some 1)) (op : MutOp X r f)
    (mk : PE X e (tBM0 X.K "list" r (tVar i))) : J X κ e (mMut i f mNil) (.own 0) κ false := by
  refine ⟨fun t ht => PE.imp mk fun σ H Q z q => ?_, fun hp => by cases hp⟩
  obtain ⟨g, ρ, S, d, ρ', em, post⟩ := q z
  obtain ⟨ds0, as, ρ1, ds, ds', e0, e1, e2, e3, rfl⟩ := mMut_some em
  cases e1
  obtain ⟨L, vs, ev, hL, hg, ol⟩ := own1_list S hk e2
  refine ⟨.ref L, ev, .inl ⟨rfl, vs, SqL.of hL⟩, ?_⟩
  refine op.ans H g L vs [] ds [] ds' d Q hL ol rfl e3 fun v vs' ol' ov => ?_
  obtain ⟨S2, P2⟩ := mut1 (n := X.N.length) (t := t) (ds := ds) S z.2 hk ev hL hg ol'
  exact post v _ g S2 P2 (fun hp => by cases hp) (own_fz P2.fz P2.tu ov)
def fPop : List D → List D → Option (D × List D)
  | ds, [] => match ds[ds.length - 1]? with
    | some d => some (d, ds.dropLast)
    | none => none
  | _, _ => none
theorem u_pop : MutOp X rPop fPop where
  ans := fun H g L vs avs ds as ds' z Q hL ol al e q => by
    unfold fPop at e
    split at e
    · split at e
      · rename_i d ed
        cases e
        cases (show _ = _ from al)
        obtain ⟨v, ev, ov⟩ := ownL_get ol ed
        refine ⟨L, vs, v, rfl, rfl, hL, by rw [ownL_len ol]; exact ev, ?_⟩
        refine q v _ ?_ (own_fz (fun a z => ⟨z, rfl⟩) (fun _ _ z _ => z) ov)
        rw [List.dropLast_eq_take, List.dropLast_eq_take, ownL_len ol]
        exact ownL_take _ ol
      · cases e
    · cases e
def fExt : List D → List D → Option (D × List D)
  | ds, [.lst es] => if ds.length + es.length ≤ 16777216 then some (.non, ds ++ es) else none
  | _, _ => none
theorem u_ext : MutOp X rExtend fExt where
  ans := fun H g L vs avs ds as ds' z Q hL ol al e q => by
    unfold fExt at e
    split at e
    · rename_i es
      split at e
      · rename_i hi
        cases e
        obtain ⟨v1, w1, rfl, o1, e3⟩ := al
        cases (show _ = _ from e3)
        obtain ⟨b, zs, rfl, hb, hg, ob⟩ := o1
        refine ⟨L, b, vs, zs, rfl, rfl, hL, hb, by rw [ownL_len ol, ownL_len ob, sizeLine_eq]; exact hi, ?_⟩
        exact q .non _ (ownL_app (j := 0) ol (ownL_fz (fun a z => ⟨z, rfl⟩) (fun _ _ z _ => z) (r' := 0) (p' := []) (j := 0) ob)) rfl
      · cases e
    · cases e
end VS
namespace VS
open PySem PySem.Spec PyProof.Rows L2
variable {K : PySem.W.Frag} {X : Cx} {κ κ1 κ2 : OE} {pos : Pos} {rc : RC}
theorem ownL_set {H : Hp} {g : G} {e : D} {y : V} (oe : Own K H g e 0 0 [] y) : ∀ {ds : List D} {vs : List V} {i j : Nat}, OwnL K H g ds 0 0 [] i vs → OwnL K H g (ds.set j e) 0 0 [] i (vs.set j y)
  | [], _, _, _, h => by cases (show _ = _ from h); exact rfl
  | d :: ds, _, i, 0, h => by
    obtain ⟨v, w, rfl, o1, o2⟩ := h
    exact ⟨y, w, rfl, own_fz (fun a z => ⟨z, rfl⟩) (fun _ _ z _ => z) oe, o2⟩
  | d :: ds, _, i, j + 1, h => by
    obtain ⟨v, w, rfl, o1, o2⟩ := h
    exact ⟨v, w.set j y, rfl, o1, ownL_set oe o2⟩
def putI (i : Nat) (mj : M) (d : D) : DE → Option DE := fun ρ => match ρ[i]? with
  | some (some (.lst ds)) => (match mj ρ with
    | some (.int k, _) => (match ixN ds.length k with
      | some j => some (ρ.set i (some (.lst (ds.set j d))))
      | none => none)
    | _ => none)
  | _ => none
def sSwap (i : Nat) (m ma mb : M) : SM := fun ρ => match m ρ with
  | some (.tup [d1, d2], ρ1) => (match putI i ma d1 ρ1 with
    | some ρ2 => (match putI i mb d2 ρ2 with
      | some ρ3 => some (.nx ρ3)
      | none => none)
    | none => none)
  | _ => none
end VS
namespace VS
open PySem PySem.Spec PyProof.Rows L2
variable {K : PySem.W.Frag} {X : Cx} {κ κ1 κ2 κ3 κ4 : OE} {pos : Pos} {rc : RC}
end VS
namespace VS
open PySem PySem.Spec PyProof.Rows L2
variable {K : PySem.W.Frag} {X : Cx} {κ κ1 κ2 : OE} {pos : Pos} {rc : RC}
mutual
def noL : D → Bool
  | .lst _ => false
  | .obj _ => false
  | .gon => false
  | .ins _ _ => false
  | .dic _ _ => false
  | .nd _ _ => false
  | .tup xs => noLL xs
  | _ => true
def noLL : List D → Bool
  | [] => true
  | x :: xs => noL x && noLL xs
end
theorem own_noL {H : Hp} {g : G} : (d : D) → noL d = true → ∀ {k k' r r' p p' v}, Own K H g d k r p v → Own K H g d k' r' p' v
  | .non, _, _, _, _, _, _, _, _, h => h
  | .bl b, _, _, _, _, _, _, _, _, h => h
  | .int b, _, _, _, _, _, _, _, _, h => h
  | .str b, _, _, _, _, _, _, _, _, h => h
  | .obj b, e, _, _, _, _, _, _, _, _ => nomatch e
  | .gon, e, _, _, _, _, _, _, _, _ => nomatch e
  | .ins _ _, e, _, _, _, _, _, _, _, _ => nomatch e
  | .rol b, _, _, _, _, _, _, _, _, h => h
  | .lst ds, e, _, _, _, _, _, _, _, _ => by
    have e' : false = true := e
    cases e'
  | .dic q ds, e, _, _, _, _, _, _, _, _ => by
    have e' : false = true := e
    cases e'
  | .nd q ds, e, _, _, _, _, _, _, _, _ => by
    have e' : false = true := e
    cases e'
  | .tup ds, e, _, _, _, _, _, _, _, h => by
    obtain ⟨a, vs, rfl, ha, hl⟩ := h
    exact ⟨a, vs, rfl, ha, go ds e hl⟩
where
  go : (ds : List D) → noLL ds = true → ∀ {k k' r r' p p' i i' vs}, OwnL K H g ds k r p i vs → OwnL K H g ds k' r' p' i' vs
  | [], _, _, _, _, _, _, _, _, _, _, h => h
  | d :: ds, e, _, _, _, _, _, _, _, _, _, h => by
    obtain ⟨v, w, rfl, h1, h2⟩ := h
    have e' : (noL d && noLL ds) = true := e
    rw [Bool.and_eq_true] at e'
    exact ⟨v, w, rfl, own_noL d e'.1 h1, go ds e'.2 h2⟩
def mFl (m : M) : M := fun ρ => match m ρ with
  | some (.lst ds, ρ1) => if noLL ds = true then some (.lst ds, ρ1) else none
  | _ => none
theorem J.flat {e : Expr} {m : M} {pu : Bool} (h : J X κ e m (.own 1) κ1 pu) {k : Nat} (h0 : k ≠ 0) : J X κ e (mFl m) (.own k) κ1 pu := by
  have key : ∀ {ρ ρ' d}, mFl m ρ = some (d, ρ') → ∃ ds, m ρ = some (.lst ds, ρ') ∧ d = .lst ds ∧ noLL ds = true := fun {ρ ρ' d} e => by
    unfold mFl at e
    split at e
    · split at e
      · cases e; exact ⟨_, by assumption, rfl, by assumption⟩
      · cases e
    · cases e
  refine ⟨fun t ht => PE.imp (h.run t ht) fun σ H Q z q _ => ?_, fun hp ρ d ρ' e => ?_⟩
  · obtain ⟨g, ρ, S, d, ρ', em, post⟩ := q z
    obtain ⟨ds, e1, rfl, e2⟩ := key em
    refine ⟨g, ρ, S, .lst ds, ρ', e1, fun v H' g' S' P' s' r' => post v H' g' S' P' s' ?_⟩
    obtain ⟨a, vs, rfl, ha, hg, hl⟩ := r'
    refine ⟨a, vs, rfl, ha, ?_, own_noL.go ds e2 hl⟩
    rw [if_neg (by decide)] at hg
    rw [if_neg h0]
    exact hg
  · obtain ⟨ds, e1, _, _⟩ := key e
    exact h.pur hp _ _ _ e1
end VS
namespace VS
open PySem PySem.Spec PyProof.Rows L2
variable {K : PySem.W.Frag} {X : Cx} {κ κ1 κ2 : OE} {pos : Pos} {rc : RC}
end VS
namespace VS
open PySem PySem.Spec PyProof.Rows L2
variable {K : PySem.W.Frag} {X : Cx} {κ κ1 κ2 : OE} {pos : Pos} {rc : RC}
def sPar (i j : Nat) (ml : ML) : SM := fun ρ => match ml ρ with
  | some ([d1, d2], ρ1) => some (.nx ((ρ1.set i (some d1)).set j (some d2)))
  | _ => none
end VS
namespace VS
open PySem PySem.Spec PyProof.Rows L2
variable {K : PySem.W.Frag} {X : Cx} {κ κ1 κ2 : OE} {pos : Pos} {rc : RC}
end VS
namespace VS
open PySem PySem.Spec PyProof.Rows L2
variable {K : PySem.W.Frag} {X : Cx} {κ κ1 κ2 κ3 κ4 : OE} {pos : Pos} {rc : RC}
def kD : Key → D
  | .inl i => .int i
  | .inr x => .str x
def DKs.keys : DKs → List D
  | .K ks => ks.map kD
  | .T ks => ks.map fun k => .tup (k.map kD)
def Lkd (d : Addr) (od : Obj) (u : HO) : Src := fun g H => H d = some (.frz od u) ∧ g d = .fz
theorem Lkd.keep {d : Addr} {od : Obj} {u : HO} {g g' : G} {H H' : Hp} (h : Lkd d od u g H) (hf : ∀ a, g a = .fz → g' a = .fz ∧ H' a = H a) : Lkd d od u g' H' := ⟨(hf d h.2).2.trans h.1, (hf d h.2).1⟩
def isDO : HO → Bool
  | .dK _ => true
  | .dT _ => true
  | .ext _ => true
  | _ => false
theorem own_swap {H : Hp} {g : G} {a0 : Addr} {u o1 o2 : HO} {od : Obj} (h1 : H a0 = some o1) (hu : isDO u = true) (hg : g a0 = .fz)
    (h12 : (o1 = u ∧ o2 = .frz od u) ∨ (o1 = .frz od u ∧ o2 = u)) : (d : D) → ∀ {k r p v}, Own K H g d k r p v → Own K (upd H a0 o2) g d k r p v
  | .non, _, _, _, _, h => h
  | .bl _, _, _, _, _, h => h
  | .int _, _, _, _, _, h => h
  | .str _, _, _, _, _, h => h
  | .obj _, _, _, _, _, h => h
  | .gon, _, _, _, _, h => h
  | .ins c ds, _, _, _, _, h => by
    obtain ⟨a, dx, vs, rfl, ha, hc, hg', hl⟩ := h
    have ne : a ≠ a0 := fun z => by
      rw [z, h1] at ha
      rcases h12 with ⟨rfl, rfl⟩ | ⟨rfl, rfl⟩ <;> cases ha
      cases hu
    exact ⟨a, dx, vs, rfl, by rw [upd_ne ne]; exact ha, hc, hg', go ds hl⟩
  | .tup ds, _, _, _, _, h => by
    obtain ⟨a, vs, rfl, ha, hl⟩ := h
    refine ⟨a, vs, rfl, ha.keep fun ha => ?_, go ds hl⟩
    have ne : a ≠ a0 := fun z => by
      rw [z, h1] at ha
      rcases h12 with ⟨rfl, rfl⟩ | ⟨rfl, rfl⟩ <;> cases ha
      cases hu
    rw [upd_ne ne]
    exact ha
  | .lst ds, _, _, _, _, h => by
    obtain ⟨a, vs, rfl, ha, hg', hl⟩ := h
    have ne : a ≠ a0 := fun z => by
      rw [z, h1] at ha
      rcases h12 with ⟨rfl, rfl⟩ | ⟨rfl, rfl⟩ <;> cases ha
      cases hu
    exact ⟨a, vs, rfl, by rw [upd_ne ne]; exact ha, hg', go ds hl⟩
  | .rol ns, _, _, _, _, h => by
    obtain ⟨a, rfl, h⟩ := h
    refine ⟨a, rfl, h.imp (fun ⟨o, w⟩ => ⟨o, ?_⟩) id⟩
    have ne : a ≠ a0 := fun z => by
      rw [z, h1] at w
      rcases h12 with ⟨rfl, rfl⟩ | ⟨rfl, rfl⟩ <;> cases w <;> cases hu
    rw [upd_ne ne]
    exact w
  | .dic q ds, k, _, _, _, h => by
    obtain ⟨a, vs, rfl, ha, hq, hg', hl⟩ := h
    have hl' := go ds hl
    by_cases e : a = a0
    · subst e
      have k0 : k = 0 := by
        rw [hg] at hg'
        split at hg'
        · assumption
        · cases hg'
      refine ⟨a, vs, rfl, ?_, hq, hg', hl'⟩
      rw [upd_same, k0]
      rw [h1] at ha
      rcases h12 with ⟨rfl, rfl⟩ | ⟨rfl, rfl⟩
      · refine .inr ⟨rfl, od, ?_⟩
        rcases ha with ha | ⟨_, o, ha⟩
        · cases ha; rfl
        · cases ha; cases hu
      · refine .inl ?_
        rcases ha with ha | ⟨_, o, ha⟩
        · cases q <;> cases ha
        · cases ha; rfl
    · exact ⟨a, vs, rfl, by rw [upd_ne e]; exact ha, hq, hg', hl'⟩
  | .nd q ds, k, _, _, _, h => by
    obtain ⟨a, vs, rfl, ha, hq, hn, hg', hl⟩ := h
    have hl' := go ds hl
    have hn' : KNs K (upd H a0 o2) vs := hn.keep fun b ys z => by
      have ne : b ≠ a0 := fun z0 => by
        rw [z0, h1] at z
        rcases h12 with ⟨rfl, rfl⟩ | ⟨rfl, rfl⟩ <;> cases z
        cases hu
      rw [upd_ne ne]; exact z
    by_cases e : a = a0
    · subst e
      have k0 : k = 0 := by
        rw [hg] at hg'
        split at hg'
        · assumption
        · cases hg'
      refine ⟨a, vs, rfl, ?_, hq, hn', hg', hl'⟩
      rw [upd_same, k0]
      rw [h1] at ha
      rcases h12 with ⟨rfl, rfl⟩ | ⟨rfl, rfl⟩
      · refine .inr ⟨rfl, od, ?_⟩
        rcases ha with ha | ⟨_, o, ha⟩
        · cases ha; rfl
        · cases ha; cases hu
      · refine .inl ?_
        rcases ha with ha | ⟨_, o, ha⟩
        · cases ha
        · cases ha; rfl
    · exact ⟨a, vs, rfl, by rw [upd_ne e]; exact ha, hq, hn', hg', hl'⟩
where
  go : (ds : List D) → ∀ {k r p i vs}, OwnL K H g ds k r p i vs → OwnL K (upd H a0 o2) g ds k r p i vs
  | [], _, _, _, _, _, h => h
  | d :: ds, _, _, _, _, _, h => by
    obtain ⟨v, w, rfl, h2, h3⟩ := h
    exact ⟨v, w, rfl, own_swap h1 hu hg h12 d h2, go ds h3⟩
theorem Sok.swap {ρ : DE} {g : G} {σ : L2.St} {H : Hp} {a0 : Addr} {u o1 o2 : HO} {od : Obj} (S : Sok K κ ρ g σ H) (h1 : H a0 = some o1) (hu : isDO u = true) (hg : g a0 = .fz)
    (h12 : (o1 = u ∧ o2 = .frz od u) ∨ (o1 = .frz od u ∧ o2 = u)) : Sok K κ ρ g σ (upd H a0 o2) where
  ok := fun i k d e1 e2 => by
    obtain ⟨v, e, o⟩ := S.ok i k d e1 e2
    exact ⟨v, e, own_swap h1 hu hg h12 d o⟩
  gok := fun a h => by
    by_cases e : a = a0
    · subst e; rw [upd_same]; simp
    · rw [upd_ne e]; exact S.gok a h
  len := S.len
  lek := S.lek
theorem Pres.swap {n t : Nat} {g g' : G} {H H' : Hp} {a0 : Addr} {u : HO} {od : Obj} (P : Pres n t g (upd H a0 (.frz od u)) g' H') (h1 : H a0 = some u) (hu : isDO u = true) (hg : g a0 = .fz) : Pres n t g H g' (upd H' a0 u) where
  fz := fun a h => by
    obtain ⟨h2, h3⟩ := P.fz a h
    refine ⟨h2, ?_⟩
    by_cases e : a = a0
    · subst e; rw [upd_same, h1]
    · rw [upd_ne e, h3, upd_ne e]
  un := fun a h hn => by
    have e : a ≠ a0 := fun z => by rw [z, hg] at h; cases h
    obtain ⟨h2, h3⟩ := P.un a h (by rw [upd_ne e]; exact hn)
    exact ⟨h2, by rw [upd_ne e, h3, upd_ne e]⟩
  tp := fun a r p q1 q2 h => by
    have e : a ≠ a0 := fun z => by rw [z, hg] at h; cases h
    obtain ⟨h2, h3⟩ := P.tp a r p q1 q2 h
    exact ⟨h2, by rw [upd_ne e, h3, upd_ne e]⟩
  tm := P.tm
  tu := fun a o h hs => by
    have e : a ≠ a0 := fun z => by
      rw [z, h1] at h
      cases h
      cases u <;> first | (cases hu; done) | cases hs
    rw [upd_ne e]
    exact P.tu a o (by rw [upd_ne e]; exact h) hs
def mKeys (i : Nat) : ML := fun ρ => match ρ[i]? with
  | some (some (.dic q _)) => some (q.keys, ρ)
  | _ => none
theorem PS.or {st : Stmt} {t t' : TS} (h : PS X st t) (h' : PS X st t') : PS X st (fun D σ H => t D σ H ∨ t' D σ H) :=
  ⟨fun pins s σ H D I q => q.elim (h.run pins s σ H D I) (h'.run pins s σ H D I)⟩
theorem En.upd {n : Nat} {σ : L2.St} {H : Hp} {a : Addr} {od : Obj} {u : HO} (en : En n σ H) : En n σ (upd H a (.frz od u)) := ⟨fun b xs h => by
  by_cases e : b = a
  · subst e
    rw [upd_same] at h
    rcases h with h | h <;> cases h
  · rw [upd_ne e] at h
    exact en.1 b xs h, en.2⟩
theorem Same.swap {H H' : Hp} {a0 : Addr} {u : HO} {od : Obj} (s : Same (upd H a0 (.frz od u)) H') (h1 : H a0 = some u) : Same H (upd H' a0 u) := fun a o h => by
  by_cases e : a = a0
  · subst e; rw [upd_same]; rw [h1] at h; exact h
  · rw [upd_ne e]; exact s a o (by rw [upd_ne e]; exact h)
theorem lock_post {n t k : Nat} {κ' : OE} {pu : Bool} {g : G} {σ : L2.St} {H : Hp} {r : D} {ρ' : DE} {Q : VK} {d : Addr} {od : Obj} {u : HO} (h1 : H d = some u) (hu : isDO u = true) (hg : g d = .fz) (h : jPost K n t κ' (.own k) pu g σ H r ρ' Q) :
    jPost K n t κ' (.own k) pu g σ (upd H d (.frz od u)) r ρ' (fun v H' => H' d = some (.frz od u) ∧ Q v (upd H' d u)) := by
  intro v H' g' S' P' s' o'
  obtain ⟨h2, h3⟩ := P'.fz d hg
  rw [upd_same] at h3
  exact ⟨h3, h v _ g' (S'.swap h3 hu h2 (.inr ⟨rfl, rfl⟩)) (P'.swap h1 hu hg) (fun e => Same.swap (s' e) h1) (own_swap h3 hu h2 (.inr ⟨rfl, rfl⟩) r o')⟩
section
variable {tg iter elt : Expr} {ifs : List Expr} {scope : Scope} {own : List (Str × Nat)} {mg : MG} {mc me : M} {ts : List Nat} {pc pe : Bool} {k i : Nat}
end
end VS
namespace VS
open PySem PySem.Spec PyProof.Rows L2
variable {K : PySem.W.Frag} {X : Cx} {κ κ1 κ2 κ3 κ4 : OE} {pos : Pos} {rc : RC}
def mD (q : DKs) : M := fun ρ => some (.dic q [], ρ)
def putL {κ α : Type} [DecidableEq κ] (ks : List κ) (xs : List α) (k : κ) (v : α) : List κ × List α :=
  if ks.any (fun j => decide (j = k)) = true then (ks, ks.zipWith (fun j x => if j = k then v else x) xs) else (ks ++ [k], xs ++ [v])
def dPut : DKs → List D → D → D → Option (DKs × List D)
  | .K ks, xs, d, v => (keyA d).map fun k => (.K (putL ks xs k v).1, (putL ks xs k v).2)
  | .T ks, xs, .tup ds, v => (keyAs ds).map fun k => (.T (putL ks xs k v).1, (putL ks xs k v).2)
  | .T _, _, _, _ => none
theorem putL_own {κ : Type} [DecidableEq κ] {H : Hp} {g : G} {k : κ} {d : D} {v : V} (ov : Own K H g d 0 0 [] v) : ∀ {ks : List κ} {ds : List D} {vs : List V} {i j : Nat}, OwnL K H g ds 0 0 [] i vs →
    OwnL K H g (ks.zipWith (fun a x => if a = k then d else x) ds) 0 0 [] j (ks.zipWith (fun a x => if a = k then v else x) vs)
  | [], _, _, _, _, _ => rfl
  | _ :: _, [], _, _, _, h => by cases (show _ = _ from h); rfl
  | a :: ks, x :: ds, _, i, j, h => by
    obtain ⟨u, w, rfl, h1, h2⟩ := h
    refine ⟨_, _, rfl, ?_, putL_own ov h2⟩
    by_cases e : a = k
    · simp only [e, if_true]
      exact own_fz (fun a z => ⟨z, rfl⟩) (fun _ _ z _ => z) ov
    · simp only [e, if_false]
      exact own_fz (fun a z => ⟨z, rfl⟩) (fun _ _ z _ => z) h1
theorem putL_ownL {κ : Type} [DecidableEq κ] {H : Hp} {g : G} {k : κ} {d : D} {v : V} (ov : Own K H g d 0 0 [] v) {ks : List κ} {ds : List D} {vs : List V} (h : OwnL K H g ds 0 0 [] 0 vs) (hl : ks.length = ds.length) :
    (putL ks ds k d).1 = (putL ks vs k v).1 ∧ OwnL K H g (putL ks ds k d).2 0 0 [] 0 (putL ks vs k v).2 := by
  unfold putL
  split
  · exact ⟨rfl, putL_own ov h⟩
  · exact ⟨rfl, ownL_app (l := 0) h (j := 0) (es := [d]) (ws := [v]) ⟨v, [], rfl, own_fz (fun a z => ⟨z, rfl⟩) (fun _ _ z _ => z) ov, rfl⟩⟩
def sPut (i : Nat) (me mk : M) : SM := fun ρ => match me ρ with
  | some (d, ρ1) => (match ρ1[i]? with
    | some (some (.dic q xs)) => if xs.length < 16777216 then (match mk ρ1 with
      | some (kd, ρ2) => (match dPut q xs kd d with
        | some (q', xs') => some (.nx (ρ2.set i (some (.dic q' xs'))))
        | none => none)
      | none => none) else none
    | _ => none)
  | none => none
def dGet2 (q : DKs) (xs : List D) (d x : D) : Option D := (q.at d).map fun o => (o.bind fun j => xs[j]?).getD x
def mGet2 (md mk mx : M) : M := fun ρ => match md ρ with
  | some (.dic q xs, ρ1) => (match mk ρ1 with
    | some (kd, ρ2) => (match mx ρ2 with
      | some (x, ρ3) => (match dGet2 q xs kd x with
        | some z => some (z, ρ3)
        | none => none)
      | none => none)
    | none => none)
  | _ => none
abbrev MDs := DE → Option (List D × List D)
structure JDs (X : Cx) (κ : OE) (keys : List (Option Expr)) (values : List Expr) (m : MDs) : Prop where
  run : ∀ pos t, X.N.length ≤ t → ∃ trs, PPs X pos keys values trs ∧ ∀ σ H Q, (∃ g ρ, Sok X.K κ ρ g σ H ∧ ∃ ks xs, m ρ = some (ks, xs) ∧ ∀ ps H' g', Sok X.K κ ρ g' σ H' → Pres X.N.length t g H g' H' → Same H H' →
    RepL X.K H' ks (ps.map (·.1)) → OwnL X.K H' g' xs 0 0 [] 0 (ps.map (·.2)) → Q ps H') → tPairs trs σ H Q
def dsNil : MDs := fun _ => some ([], [])
def dsCons (mk mv : M) (m : MDs) : MDs := fun ρ => match mk ρ with
  | some (k, _) => (match mv ρ with
    | some (v, _) => (match m ρ with
      | some (ks, xs) => some (k :: ks, v :: xs)
      | none => none)
    | none => none)
  | none => none
def dispK : List D → List D → Option (List Key × List D)
  | [], [] => some ([], [])
  | k :: ks, x :: xs => (keyA k).bind fun k' => (dispK ks xs).map fun p => (k' :: p.1, x :: p.2)
  | _, _ => none
def mDisp (m : MDs) : M := fun ρ => match m ρ with
  | some (ks, xs) => (match dispK ks xs with
    | some (ks', xs') => if ks'.Nodup ∧ xs'.length ≤ 15 then some (.dic (.K ks') xs', ρ) else none
    | none => none)
  | none => none
end VS
namespace VS
open PySem PySem.Spec PyProof.Rows L2 PySem.Calls
variable {K : PySem.W.Frag} {X : Cx} {κ κ1 κ2 κ3 κ4 : OE} {pos : Pos} {rc : RC}
def srtK (ks : List Key) : List Key := ks.mergeSort (PySem.W.dataLe false fun k => pyD (kD k))
def alikeK : List Key → Bool
  | [] => true
  | .inl _ :: ks => ks.all fun k => match k with | .inl _ => true | _ => false
  | .inr _ :: ks => ks.all fun k => match k with | .inr _ => true | _ => false
def mSrtD (m : M) : M := fun ρ => match m ρ with
  | some (.dic (.K ks) _, ρ1) => if alikeK ks = true ∧ ks.length ≤ 16777216 then some (.lst ((srtK ks).map kD), ρ1) else none
  | _ => none
end VS
namespace VS
open PySem PySem.Spec PyProof.Rows L2 PySem.Calls
variable {K : PySem.W.Frag} {X : Cx} {κ κ1 κ2 κ3 κ4 : OE} {pos : Pos} {rc : RC}
section
variable {prog : Program} {w : World} {A : Around} {E : Value → Shared → Prop} {s : Shared}
end
def sNo : SM := fun _ => none
theorem js_no {st : Stmt} {κn : OE} : JS X κ st sNo κn rc := ⟨fun s0 t ht => PS.imp ps_never fun σ H D z q => by
  obtain ⟨g, ρ, S, fx, o, em, post⟩ := q z
  cases em⟩
def ev2 {α : Type} : List α → List α
  | [] => []
  | [a] => [a]
  | a :: _ :: r => a :: ev2 r
def mEv2 (m : M) : M := fun ρ => match m ρ with
  | some (.lst ds, ρ1) => some (.lst (ev2 ds), ρ1)
  | _ => none
end VS
namespace VS
open PySem PySem.Spec PyProof.Rows L2 PySem.Calls
variable {K : PySem.W.Frag} {X : Cx} {κ κ1 κ2 κ3 κ4 : OE} {pos : Pos} {rc : RC}
def gTpL (ms : List D → DE → Option DE) : MG := fun d ρ => match d with
  | .lst ds => ms ds ρ
  | _ => none
theorem ap_gtpL {ms : List D → DE → Option DE} {ds : List D} {ρ : DE} : gTpL ms (.lst ds) ρ = ms ds ρ := rfl
section
variable {ρ : DE} {i j : Int}
theorem ap_mk {k : Mk} {ml : ML} : mMk k ml ρ = (match ml ρ with | some ([x], ρ1) => (match dMk k x with | some z => some (z, ρ1) | none => none) | _ => none) := by
  unfold mMk
  rw [ap_B]
  cases ml ρ with
  | none => rfl
  | some p =>
    obtain ⟨xs, ρ1⟩ := p
    match xs with
    | [] => rfl
    | [x] => rfl
    | _ :: _ :: _ => rfl
theorem ap_mut {i : Nat} {f : List D → List D → Option (D × List D)} {ml : ML} : mMut i f ml ρ = (match ρ[i]? with | some (some (.lst _)) => (match ml ρ with | some (as, ρ1) => (match ρ1[i]? with | some (some (.lst ds)) => (match f ds as with | some (z, ds') => some (z, ρ1.set i (some (.lst ds'))) | none => none) | _ => none) | none => none) | _ => none) := by
  unfold mMut
  rcases ρ[i]? with _ | _ | d
  · rfl
  · rfl
  cases d with
  | lst ds0 =>
    simp only []
    cases ml ρ with
    | none => rfl
    | some p =>
      obtain ⟨xs, ρ1⟩ := p
      simp only [Option.bind_some]
      rcases ρ1[i]? with _ | _ | d
      · rfl
      · rfl
      cases d with
      | lst ds => simp only []; cases f ds xs <;> rfl
      | _ => rfl
  | _ => rfl
theorem ap_swap {i : Nat} {m ma mb : M} : sSwap i m ma mb ρ = (match m ρ with
  | some (.tup [d1, d2], ρ1) => (match putI i ma d1 ρ1 with
    | some ρ2 => (match putI i mb d2 ρ2 with
      | some ρ3 => some (.nx ρ3)
      | none => none)
    | none => none)
  | _ => none) := rfl
theorem ap_putI {i : Nat} {mj : M} {d : D} : putI i mj d ρ = (match ρ[i]? with
  | some (some (.lst ds)) => (match mj ρ with
    | some (.int k, _) => (match ixN ds.length k with
      | some j => some (ρ.set i (some (.lst (ds.set j d))))
      | none => none)
    | _ => none)
  | _ => none) := rfl
theorem ap_ev2 {m : M} : mEv2 m ρ = (match m ρ with | some (.lst ds, ρ1) => some (.lst (ev2 ds), ρ1) | _ => none) := rfl
theorem ap_keys {i : Nat} : mKeys i ρ = (match ρ[i]? with | some (some (.dic q _)) => some (q.keys, ρ) | _ => none) := rfl
theorem ap_mD {q : DKs} : mD q ρ = some (.dic q [], ρ) := rfl
theorem ap_put {i : Nat} {me mk : M} : sPut i me mk ρ = (match me ρ with
  | some (d, ρ1) => (match ρ1[i]? with
    | some (some (.dic q xs)) => if xs.length < 16777216 then (match mk ρ1 with
      | some (kd, ρ2) => (match dPut q xs kd d with
        | some (q', xs') => some (.nx (ρ2.set i (some (.dic q' xs'))))
        | none => none)
      | none => none) else none
    | _ => none)
  | none => none) := rfl
theorem ap_get2 {md mk mx : M} : mGet2 md mk mx ρ = (match md ρ with
  | some (.dic q xs, ρ1) => (match mk ρ1 with
    | some (kd, ρ2) => (match mx ρ2 with
      | some (x, ρ3) => (match dGet2 q xs kd x with
        | some z => some (z, ρ3)
        | none => none)
      | none => none)
    | none => none)
  | _ => none) := rfl
theorem ap_disp {m : MDs} : mDisp m ρ = (match m ρ with
  | some (ks, xs) => (match dispK ks xs with
    | some (ks', xs') => if ks'.Nodup ∧ xs'.length ≤ 15 then some (.dic (.K ks') xs', ρ) else none
    | none => none)
  | none => none) := rfl
theorem ap_dsN : dsNil ρ = some ([], []) := rfl
theorem ap_dsC {mk mv : M} {m : MDs} : dsCons mk mv m ρ = (match mk ρ with
  | some (k, _) => (match mv ρ with
    | some (v, _) => (match m ρ with
      | some (ks, xs) => some (k :: ks, v :: xs)
      | none => none)
    | none => none)
  | none => none) := rfl
theorem ap_srtD {m : M} : mSrtD m ρ = (match m ρ with
  | some (.dic (.K ks) _, ρ1) => if alikeK ks = true ∧ ks.length ≤ 16777216 then some (.lst ((srtK ks).map kD), ρ1) else none
  | _ => none) := rfl
theorem ap_sl {ma : M} {ml mu : MO} {f : D → Option Int → Option Int → Option D} : mSl ma ml mu f ρ = (match ma ρ with | some (x, ρ1) => (match ml ρ1 with | some l => (match mu ρ1 with | some u => (match f x l u with | some z => some (z, ρ1) | none => none) | none => none) | none => none) | none => none) := by
  unfold mSl
  cases ma ρ with
  | none => rfl
  | some p =>
    simp only [Option.bind_some]
    cases ml p.2 with
    | none => rfl
    | some l =>
      simp only [Option.bind_some]
      cases mu p.2 with
      | none => rfl
      | some u =>
        simp only [Option.bind_some]
        cases f p.1 l u <;> rfl
theorem ap_oS {m : M} : oSome m ρ = (match m ρ with | some (.int i, _) => some (some i) | _ => none) := rfl
theorem ap_oN : oNone ρ = some none := rfl
theorem r_catI : dCat (.int i) (.int j) = some (.int (i + j)) := rfl
theorem r_cat {xs ys : List D} (h : xs.length + ys.length ≤ 16777216) : dCat (.lst xs) (.lst ys) = some (.lst (xs ++ ys)) := by unfold dCat; simp only [h, if_true]
theorem r_catT {xs ys : List D} (h : xs.length + ys.length ≤ 16777216) : dCat (.tup xs) (.tup ys) = some (.tup (xs ++ ys)) := by unfold dCat; simp only [h, if_true]
theorem r_mkL {xs : List D} : dMk .lst (.lst xs) = some (.lst xs) := rfl
theorem r_mkLT {xs : List D} : dMk .lst (.tup xs) = some (.lst xs) := rfl
theorem r_mkT {xs : List D} : dMk .tup (.lst xs) = some (.tup xs) := rfl
theorem r_slL {xs : List D} {l u : Option Int} : dSl (.lst xs) l u = some (.lst (cutG xs l u)) := rfl
theorem r_slT {xs : List D} {l u : Option Int} : dSl (.tup xs) l u = some (.tup (cutG xs l u)) := rfl
theorem at0 {α : Type} {x : α} {xs : List α} : atI (x :: xs) 0 = some x := by simp [atI, ixN]
theorem at1 {α : Type} {x y : α} {xs : List α} : atI (x :: y :: xs) 1 = some y := (at_nn (xs := x :: y :: xs) (n := 1) (by simp)).trans rfl
theorem ix_nn {n k : Nat} (h : k < n) : ixN n (k : Int) = some k := by simp [ixN, h]
end
end VS
namespace VS
open PySem PySem.Spec PyProof.Rows L2 PySem.Calls
variable {K : PySem.W.Frag} {X : Cx} {κ κ1 κ2 κ3 κ4 : OE} {pos : Pos} {rc : RC}
def rngC (lo c : Int) (n : Nat) : List D := (List.range n).map fun i => .int (lo + (i : Nat) * c)
theorem rngC_len (lo c : Int) (n : Nat) : (rngC lo c n).length = n := by simp [rngC]
theorem dlv_rangeC {lo c : Int} {n : Nat} : Dlv K (Itc lo c n) (fun _ _ => True) (rngC lo c n) where
  go := fun i g H _ hi => by
    rw [rngC_len] at hi
    exact hi
  stop := fun i g H _ hi => by
    rw [rngC_len] at hi
    exact hi
  yld := fun i g H x H' d _ gok y e => by
    obtain ⟨rfl, rfl⟩ := y
    unfold rngC at e
    rw [List.getElem?_map] at e
    cases q : (List.range n)[i]? with
    | none => rw [q] at e; cases e
    | some j =>
      rw [q] at e
      have hj : j = i := by
        have := List.getElem?_eq_some_iff.mp q
        obtain ⟨h1, h2⟩ := this
        simpa using h2.symm
      subst hj
      cases e
      exact ⟨Same.refl _, rfl⟩
  keep := fun g H g' H' _ _ _ => trivial
def okC (i j c : Int) : Bool := decide (c ≠ 0) && (decide (c.natAbs < 1073741824) && (Builtin.Range.small i j c && decide (Builtin.Range.rangeSize i j c = ((Builtin.Range.rangeSize i j c).toNat : Int))))
def mRng3 (ml : ML) : ML := fun ρ => match ml ρ with
  | some ([.int i, .int j, .int c], ρ1) => (match okC i j c with
    | true => some (rngC i c (Builtin.Range.rangeSize i j c).toNat, ρ1)
    | false => none)
  | _ => none
theorem mRng3_some {ml : ML} {ρ ρ' : DE} {ds : List D} (h : mRng3 ml ρ = some (ds, ρ')) : ∃ i j c, ∃ n : Nat, ml ρ = some ([.int i, .int j, .int c], ρ') ∧ RgC i j c n ∧ ds = rngC i c n := by
  unfold mRng3 at h
  split at h
  · split at h
    · rename_i hc
      cases h
      unfold okC at hc
      simp only [Bool.and_eq_true, decide_eq_true_eq] at hc
      exact ⟨_, _, _, _, by assumption, ⟨hc.1, hc.2.1, hc.2.2.1, hc.2.2.2⟩, rfl⟩
    · cases h
  · cases h
theorem ji_range3 {tg a b c : Expr} {p : Pos} {ml : ML} {ms : List Am} {pu : Bool} (h : JA X κ [a, b, c] ml ms κ1 pu) (hm : allRz ms = true) (hg : Gl X "range") (hmg : X.mg "range" = none)
    (hs : starEach [a, b, c] X.env = (false, eval a X.env) :: starEach [b, c] X.env) (hs2 : (backTo pos (starEach [b, c] X.env)).any (·.1) = false) : JI X κ tg (.Call (.Name "range" p) [a, b, c] [] pos) (mRng3 ml) κ1 pu := by
  refine ⟨fun t ht => PI.imp (pi_range3 hg hmg (h.run t ht) hs hs2) fun σ H R z q => ?_, fun hp ρ d ρ' e => by
    obtain ⟨_, _, _, _, e1, _⟩ := mRng3_some e
    exact h.pur hp _ _ _ e1⟩
  obtain ⟨g, ρ, S, ds, ρ', em, post⟩ := q z
  obtain ⟨i, j, k, n, e1, hr, rfl⟩ := mRng3_some em
  refine fun _ => ⟨g, ρ, S, _, ρ', e1, fun vs H' g' S' P' s' r' => ?_⟩
  obtain ⟨v, w, rfl, h1, v2, w2, rfl, h2, v3, w3, rfl, h3, h4⟩ := rows_repL hm r'
  cases (show _ = _ from h1)
  cases (show _ = _ from h2)
  cases (show _ = _ from h3)
  cases (show _ = _ from h4)
  exact ⟨i, j, k, n, rfl, hr, post _ _ H' g' S' P' s' dlv_rangeC trivial⟩
def mCh3 (f f' f'' : D → D → Option D) (ma mb mc md : M) : M := fun ρ => match ma ρ with
  | some (x, ρ1) => (match mb ρ1 with
    | some (y, ρ2) => (match f x y with
      | some (.bl false) => some (.bl false, ρ2)
      | some (.bl true) => (match mc ρ2 with
        | some (w, ρ3) => (match f' y w with
          | some (.bl false) => some (.bl false, ρ3)
          | some (.bl true) => (match md ρ3 with
            | some (v, ρ4) => (match f'' w v with
              | some z => some (z, ρ4)
              | none => none)
            | none => none)
          | _ => none)
        | none => none)
      | _ => none)
    | none => none)
  | none => none
def mLRg (m : M) : M := fun ρ => match m ρ with
  | some (.int n, ρ1) => (match lim62 n && decide (n.toNat ≤ 16777216) with
    | true => some (.lst (rngD 0 n.toNat), ρ1)
    | false => none)
  | _ => none
end VS
namespace VS
open PySem PySem.Spec PyProof.Rows L2 PySem.Calls
variable {K : PySem.W.Frag} {X : Cx} {κ κ1 κ2 κ3 κ4 : OE} {pos : Pos} {rc : RC}
end VS
namespace VS
open PySem PySem.Spec PyProof.Rows L2 PySem.Calls
variable {K : PySem.W.Frag} {X : Cx} {κ κ1 κ2 κ3 κ4 : OE} {pos : Pos} {rc : RC}
theorem Sok.rewriteP {ρ : DE} {g : G} {σ : L2.St} {H H' : Hp} {i k : Nat} {v : V} {b : Addr} {p0 : List Nat} {dN : D} {o : HO} (S : Sok K κ ρ g σ H) (hk : κ[i]? = some (some k)) (hv : σ[i]? = some (some v))
    (hL : H b = some o) (hs : stb o = false) (hg : g b = .ow i p0) (hH : ∀ a, a ≠ b → H' a = H a) (hL' : H' b ≠ none) (o' : Own K H' g dN k i [] v) : Sok K κ (ρ.set i (some dN)) g σ H' where
  ok := fun j k' d' h1 h2 => by
    rcases set_some h2 with ⟨rfl, e, _⟩ | ⟨hj, h2⟩
    · cases e; rw [hk] at h1; cases h1
      exact ⟨_, hv, o'⟩
    · obtain ⟨v', es, w⟩ := S.ok j k' d' h1 h2
      refine ⟨v', es, own_conv (fun a u z hz => ?_) d' (.inr fun a z => ⟨z, hH a ?_⟩) (fun a q z hh => ⟨hH a ?_, by rw [if_pos hh]; exact z⟩) (fun _ z => z) w⟩
      · rw [hH a]
        · exact z
        · rintro rfl; rw [hL] at z; cases z; rw [hs] at hz; cases hz
      · rintro rfl; rw [hg] at z; cases z
      · rintro rfl; rw [hg] at z; injection z with z1 z2; exact hj z1.symm
  gok := fun a h => by
    by_cases e : a = b
    · subst e; exact hL'
    · rw [hH a e]; exact S.gok a h
  len := by rw [List.length_set]; exact S.len
  lek := S.lek
theorem Pres.rewriteP {n t i : Nat} {g : G} {H H' : Hp} {b : Addr} {p0 : List Nat} {o : HO} (hi : i < n) (hL : H b = some o) (hs : stb o = false) (hg : g b = .ow i p0) (hH : ∀ a, a ≠ b → H' a = H a) : Pres n t g H g H' where
  fz := fun a z => ⟨z, hH a (by rintro rfl; rw [hg] at z; cases z)⟩
  un := fun a z _ => ⟨z, hH a (by rintro rfl; rw [hg] at z; cases z)⟩
  tp := fun a r p h1 h2 z => ⟨z, hH a (by rintro rfl; rw [hg] at z; injection z with z1 z2; omega)⟩
  tm := fun _ _ _ _ _ z => z
  tu := fun a u z hz => by
    rw [hH a]
    · exact z
    · rintro rfl; rw [hL] at z; cases z; rw [hs] at hz; cases hz
theorem mut2 {n t i j : Nat} {ρ : DE} {g : G} {σ : L2.St} {H : Hp} {L b : Addr} {ds : List D} {ys' : List D} {vs ws ws' : List V} (S : Sok K κ ρ g σ H) (hn : σ.length = n) (hk : κ[i]? = some (some 2)) (hv : σ[i]? = some (some (.ref L)))
    (hL : H L = some (.lst vs)) (hgL : g L = .ow i []) (ol : OwnL K H g ds 1 i [] 0 vs) (hj : j < ds.length) (hb : vs[j]? = some (.ref b)) (hB : H b = some (.lst ws)) (hgb : g b = .ow i [j]) (oy : OwnL K H g ys' 0 0 [] 0 ws') :
    Sok K κ (ρ.set i (some (.lst (ds.set j (.lst ys'))))) g σ (upd H b (.lst ws')) ∧ Pres n t g H g (upd H b (.lst ws')) := by
  have hi : i < n := by
    have := (List.getElem?_eq_some_iff.mp hv).1
    omega
  have P : Pres n t g H g (upd H b (.lst ws')) := Pres.rewriteP hi hB rfl hgb fun a h => upd_ne h
  have hLb : L ≠ b := fun z => by rw [z, hgb] at hgL; cases hgL
  have st : ∀ a o, H a = some o → stb o = true → upd H b (.lst ws') a = some o := fun a o e hs => by
    rw [upd_ne]
    · exact e
    · rintro rfl; rw [hB] at e; cases e; cases hs
  have nf : ∀ a, g a = .fz → a ≠ b := fun a e z => by rw [z, hgb] at e; cases e
  have conv1 : ∀ {d : D} {v : V} {m : Nat}, m ≠ j → Own K H g d 1 i [m] v → Own K (upd H b (.lst ws')) g d 1 i [m] v := fun {d v m} hm o1 =>
    own_conv st d (.inr fun a z => ⟨z, upd_ne (nf a z)⟩) (fun a q z hh => ⟨upd_ne fun e => by
      rw [e, hgb] at z
      injection z with z1 z2
      have := congrArg List.getLast? z2
      simp at this
      exact hm this.symm, by rw [if_pos hh]; exact z⟩) (fun _ z => z) o1
  have all : ∀ {es : List D} {us : List V} {m : Nat}, j < m → OwnL K H g es 1 i [] m us → OwnL K (upd H b (.lst ws')) g es 1 i [] m us := by
    intro es
    induction es with
    | nil => intro us m _ h; exact h
    | cons d es ih =>
      intro us m hm h
      obtain ⟨v, w, rfl, o1, o2⟩ := h
      exact ⟨v, w, rfl, conv1 (by omega) o1, ih (by omega) o2⟩
  have put : ∀ {es : List D} {us : List V} {m l : Nat}, m + l = j → l < es.length → us[l]? = some (.ref b) → OwnL K H g es 1 i [] m us → OwnL K (upd H b (.lst ws')) g (es.set l (.lst ys')) 1 i [] m us := by
    intro es
    induction es with
    | nil => intro us m l _ hl _ _; simp at hl
    | cons d es ih =>
      intro us m l hml hl hu h
      obtain ⟨v, w, rfl, o1, o2⟩ := h
      cases l with
      | zero =>
        cases hu
        have hm : m = j := by omega
        subst hm
        exact ⟨_, w, rfl, ⟨b, ws', rfl, upd_same, by rw [if_neg (by decide)]; exact hgb, ownL_fz P.fz P.tu oy⟩, all (by omega) o2⟩
      | succ l =>
        exact ⟨v, w, rfl, conv1 (by omega) o1, ih (by omega) (by simpa using hl) hu o2⟩
  refine ⟨S.rewriteP hk hv hB rfl hgb (fun a h => upd_ne h) (by rw [upd_same]; simp) ?_, P⟩
  exact ⟨L, vs, rfl, (upd_ne hLb).trans hL, by rw [if_neg (by decide)]; exact hgL, put (by omega) hj hb ol⟩
def sSet2 (i : Nat) (me ma mb : M) : SM := fun ρ => match me ρ with
  | some (d, ρ1) => (match ρ1[i]? with
    | some (some (.lst ds)) => (match ma ρ1 with
      | some (.int p, ρ2) => (match ixN ds.length p with
        | some j => (match ds[j]? with
          | some (.lst ys) => (match mb ρ2 with
            | some (.int q, ρ3) => (match ixN ys.length q with
              | some l => some (.nx (ρ3.set i (some (.lst (ds.set j (.lst (ys.set l d)))))))
              | none => none)
            | _ => none)
          | _ => none)
        | none => none)
      | _ => none)
    | _ => none)
  | none => none
theorem sSet2_some {i : Nat} {me ma mb : M} {ρ : DE} {o : Out} (h : sSet2 i me ma mb ρ = some o) : ∃ d ρ1 ds p ρ2 j ys q ρ3 l, me ρ = some (d, ρ1) ∧ ρ1[i]? = some (some (.lst ds)) ∧ ma ρ1 = some (.int p, ρ2) ∧ ixN ds.length p = some j ∧ ds[j]? = some (.lst ys) ∧ mb ρ2 = some (.int q, ρ3) ∧ ixN ys.length q = some l ∧
    o = .nx (ρ3.set i (some (.lst (ds.set j (.lst (ys.set l d)))))) := by
  unfold sSet2 at h
  split at h
  · rename_i d ρ1 e1
    split at h
    · rename_i ds e2
      split at h
      · rename_i p ρ2 e3
        split at h
        · rename_i j e4
          split at h
          · rename_i ys e5
            split at h
            · rename_i q ρ3 e6
              split at h
              · rename_i l e7
                cases h
                exact ⟨d, ρ1, ds, p, ρ2, j, ys, q, ρ3, l, e1, e2, e3, e4, e5, e6, e7, rfl⟩
              · cases h
            · cases h
          · cases h
        · cases h
      · cases h
    · cases h
  · cases h
theorem ixN_lt {n : Nat} {k : Int} {j : Nat} (h : ixN n k = some j) : j < n := by
  unfold ixN at h
  split at h
  · split at h
    · cases h; omega
    · cases h
  · split at h
    · cases h; omega
    · cases h
theorem js_set2 {e x a b : Expr} {me ma mb : M} {i : Nat} {ra rb : Rz} {pe : Bool} {p2 : Pos} {st : Stmt} (he : J X κ e me (.own 0) κ1 pe) (pv : PE X x (tVar i)) (ha : J X κ1 a ma ra κ2 true) (hb : J X κ2 b mb rb κ3 true) (hs : PlainIx a) (hk1 : κ1[i]? = some (some 2)) (hk2 : κ2[i]? = some (some 2)) (hk : κ3[i]? = some (some 2))
    (mk : ∀ {te to tj : TE}, PE X e te → PE X (.Subscript x a p2) to → PE X b tj → PS X st (tAsg te (gSub to tj rSetL))) : JS X κ st (sSet2 i me ma mb) κ3 rc := by
  refine ⟨fun s0 t ht => PS.imp (mk (he.run t ht) (pe_ix ix_seq pv (ha.run (t + 1) (by omega)) hs) (hb.run (t + 2) (by omega))) fun σ H D z q => ?_⟩
  obtain ⟨g, ρ, S, fx, o, em, post⟩ := q z
  obtain ⟨d, ρ1, ds, p, ρ2, j, ys, q0, ρ3, l, e1, e2, e3, e4, e5, e6, e7, rfl⟩ := sSet2_some em
  have h1 := ha.pur rfl _ _ _ e3
  subst h1
  have h2 := hb.pur rfl _ _ _ e6
  subst h2
  refine fun _ => ⟨g, ρ, S, d, _, e1, fun y H1 g1 S1 P1 s1 r1 => ?_⟩
  obtain ⟨v0, ev, L, _, rfl, _⟩ := S1.ok i 2 _ hk1 e2
  refine ⟨_, ev, fun _ => ⟨g1, _, S1, .int p, _, e3, fun u H2 g2 S2 P2 s2 r2 => ?_⟩⟩
  cases (show _ = _ from r2.rep)
  obtain ⟨v2, ev2, L2, vs, e9, hL, hg, ol⟩ := S2.ok i 2 _ hk2 e2
  rw [ev] at ev2
  cases ev2
  cases e9
  obtain ⟨w, hw, o1⟩ := ownL_get ol e5
  have hlen := ownL_len ol
  have hat : atI vs p = some w := by
    unfold atI
    rw [hlen, e4]
    exact hw
  refine .inl ⟨L, vs, p, w, rfl, rfl, SqL.of hL, hat, fun _ => ⟨g2, _, S2, .int q0, _, e6, fun u3 H3 g3 S3 P3 s3 r3 => ?_⟩⟩
  cases (show _ = _ from r3.rep)
  obtain ⟨v3, ev3, L3, vs3, e9, hL3, hg3, ol3⟩ := S3.ok i 2 _ hk e2
  rw [ev] at ev3
  cases ev3
  cases e9
  have hvs : H3 L = some (.lst vs) := s3 rfl _ _ hL
  rw [hvs] at hL3
  cases hL3
  obtain ⟨w3, hw3, b, ws, e8, hB, hgb, oly⟩ := ownL_get ol3 e5
  rw [hw] at hw3
  cases hw3
  subst e8
  rw [if_neg (by decide)] at hg3
  rw [if_neg (by decide), Nat.zero_add] at hgb
  have oly0 : OwnL X.K H3 g3 ys 0 0 [] 0 ws := ownL_fz (fun a z => ⟨z, rfl⟩) (fun _ _ z _ => z) oly
  have od : Own X.K H3 g3 d 0 0 [] y := P3.own0 (P2.own0 (r' := 0) (p' := []) r1)
  have hj : j < ds.length := ixN_lt e4
  obtain ⟨S4, P4⟩ := mut2 (n := X.N.length) (t := t) S3 z.2 hk ev hvs hg3 ol3 hj hw hB hgb (ownL_set (j := l) od oly0)
  refine ⟨b, ws, q0, l, rfl, rfl, hB, by rw [ownL_len oly0]; exact e7, ?_⟩
  exact post σ _ g3 S4 (P1.trans ((P2.less (by omega)).trans ((P3.less (by omega)).trans P4))) fx
end VS
namespace VS
open PySem PySem.Spec PyProof.Rows L2 PySem.Calls
variable {K : PySem.W.Frag} {X : Cx} {κ κ1 κ2 κ3 κ4 : OE} {pos : Pos} {rc : RC}
def mF (m : M) : M := fun ρ => match m ρ with
  | some (.lst ds, ρ1) => (match ds.all isA with
    | true => some (.lst ds, ρ1)
    | false => none)
  | _ => none
theorem mF_some {m : M} {ρ ρ' : DE} {d : D} (h : mF m ρ = some (d, ρ')) : ∃ ds, m ρ = some (.lst ds, ρ') ∧ ds.all isA = true ∧ d = .lst ds := by
  unfold mF at h
  split at h
  · split at h
    · cases h
      exact ⟨_, by assumption, by assumption, rfl⟩
    · cases h
  · cases h
def allz (κ0 κ : OE) : Bool := (List.range κ.length).all fun i => match κ[i]? with
  | some (some _) => decide (κ0[i]? = some (some 0))
  | _ => true
theorem ownL_plain {H H' : Hp} {g g' : G} : ∀ {ds : List D} {vs : List V} {k k' r r' : Nat} {p p' : List Nat} {i i' : Nat}, ds.all isA = true → OwnL K H g ds k r p i vs → OwnL K H' g' ds k' r' p' i' vs
  | [], _, _, _, _, _, _, _, _, _, _, h => h
  | d :: ds, vs, k, k', r, r', p, p', i, i', ha, h => by
    obtain ⟨v, w, rfl, o1, o2⟩ := h
    rw [List.all_cons, Bool.and_eq_true] at ha
    have e := rep_atom ha.1 (own_rep d o1)
    subst e
    exact ⟨_, w, rfl, atom_own ha.1, ownL_plain ha.2 o2⟩
theorem fresh_core {κ0 : OE} {n t k : Nat} {ρ : DE} {g g' : G} {σ : L2.St} {H H' : Hp} {ds : List D} {v : V} (S : Sok K κ ρ g σ H) (hn : κ0.length = n) (hnt : n ≤ t) (hz : allz κ0 κ = true) (P' : Pres n t (wk κ0 g) H g' H') (sm : Same H H') (hk : k ≠ 0) (hd : ds.all isA = true) (r' : Own K H' g' (.lst ds) k t [] v) :
    ∃ g2, Sok K κ ρ g2 σ H' ∧ Pres n t g H g2 H' ∧ Own K H' g2 (.lst ds) 99 t [] v := by
  obtain ⟨a, vs, rfl, hH', hg', ol⟩ := r'
  rw [if_neg hk] at hg'
  have nfz : wk κ0 g a ≠ .fz := fun z => by rw [(P'.fz a z).1] at hg'; cases hg'
  have nfg : g a ≠ .fz := fun z => nfz (wk_fz z)
  have key : ∀ x, g x ≠ .un → H' x = H x := fun x hx => by
    cases q : H x with
    | none => exact absurd q (S.gok x hx)
    | some u => exact sm x u q
  have nov : ∀ (j k' : Nat) (q : List Nat), κ[j]? = some (some k') → g a ≠ .ow j q := fun j k' q hj z => by
    have hjl : j < κ.length := (List.getElem?_eq_some_iff.mp hj).1
    have z0 : κ0[j]? = some (some 0) := by
      have := List.all_eq_true.mp hz j (List.mem_range.mpr hjl)
      rw [hj] at this
      exact of_decide_eq_true this
    have := wk_lo z0 z
    rw [show has 0 q.length = false by simp [has]] at this
    exact nfz this
  refine ⟨nwG a t g, ⟨fun i k' d h1 h2 => ?_, fun x hx => ?_, S.len, S.lek⟩, ⟨fun x z => ?_, fun x z hx => ?_, fun x r p h1 h2 z => ?_, fun x r p h1 h2 z => ?_, fun x u z _ => sm _ _ z⟩, ⟨a, vs, rfl, hH', by rw [if_neg (by decide)]; exact nwG_p, ownL_plain hd ol⟩⟩
  · obtain ⟨v, e, o⟩ := S.ok i k' d h1 h2
    refine ⟨v, e, own_conv (fun x u z _ => sm _ _ z) d (.inr fun x z => ?_) (fun x q z hh => ?_) (fun _ z => z) o⟩
    · have hx : x ≠ a := fun w => nfg (w ▸ z)
      exact ⟨by rw [nwG_o hx]; exact z, key x (by rw [z]; simp)⟩
    · rw [List.append_nil] at z ⊢
      have hx : x ≠ a := fun w => nov i k' q h1 (w ▸ z)
      exact ⟨key x (by rw [z]; simp), by rw [if_pos hh, nwG_o hx]; exact z⟩
  · by_cases w : x = a
    · subst w; rw [hH']; simp
    · rw [nwG_o w] at hx
      rw [key x hx]
      exact S.gok x hx
  · have hx : x ≠ a := fun w => nfg (w ▸ z)
    exact ⟨by rw [nwG_o hx]; exact z, key x (by rw [z]; simp)⟩
  · have hxa : x ≠ a := fun w => by
      subst w
      rw [(P'.un x (wk_un z) hx).1] at hg'
      cases hg'
    refine ⟨by rw [nwG_o hxa]; exact z, ?_⟩
    cases q : H x with
    | none => exact absurd q hx
    | some u => exact sm x u q
  · have hxa : x ≠ a := fun w => by
      subst w
      rw [(P'.tp x r p h1 h2 (wk_hi (by omega) z)).1] at hg'
      cases hg'
      omega
    exact ⟨by rw [nwG_o hxa]; exact z, key x (by rw [z]; simp)⟩
  · by_cases w : x = a
    · subst w; rw [nwG_p] at z; cases z; omega
    · rw [nwG_o w] at z; exact z
theorem J.fresh {κ0 : OE} {e : Expr} {m : M} {k : Nat} (h : J X κ0 e m (.own k) κ1 true) (hk : k ≠ 0) (hl : leO κ0 κ = true) (hn : κ0.length = X.N.length) (hz : allz κ0 κ = true) : J X κ e (mF m) (.own 99) κ true := by
  refine ⟨fun t ht => PE.imp (h.run t ht) fun σ H Q z q _ => ?_, fun hp ρ d ρ' e => ?_⟩
  · obtain ⟨g, ρ, S, d, ρ', em, post⟩ := q z
    obtain ⟨ds, e1, hd, rfl⟩ := mF_some em
    refine ⟨wk κ0 g, ρ, S.weaken hl, .lst ds, ρ', e1, fun v H' g' S' P' s' r' => ?_⟩
    have sm := s' rfl
    have e2 := h.pur rfl _ _ _ e1
    subst e2
    obtain ⟨g2, S2, P2, o2⟩ := fresh_core S hn ht hz P' sm hk hd r'
    exact post v H' g2 S2 P2 (fun _ => sm) o2
  · obtain ⟨ds, e1, _⟩ := mF_some e
    exact h.pur rfl _ _ _ e1
theorem js_lcF {κ0 : OE} {i : Nat} {y : Str} {py spos : Pos} {tg iter elt : Expr} {ifs : List Expr} {scope : Scope} {own : List (Str × Nat)} {ml : ML} {mg : MG} {mc me : M} {ts : List Nat} {k : Nat} (hc : X.calm = true) (hN : X.N.Nodup)
    (hy : X.N[i]? = some y) (hyl : X.env.scope.names.lookup y = some .local) (hsw : swapsWith (.ListComp elt [⟨tg, iter, ifs, 0⟩] scope pos) (some (.Name y py)) spos.line X.env = pure true)
    (hi : JI X κ0 tg iter ml κ1 true) (ok : BlkOk X.N X.env.scope scope own) (hg : InBlk X scope fun Y => JG Y κ1 tg mg κ2 ts) (ht : InBlk X scope fun Y => JTs Y κ2 ifs mc κ3 true) (he : InBlk X scope fun Y => J Y κ3 elt me (.own (lv k)) κ4 true)
    (hs : ∀ x, foldedSetIterable iter X.env x = pure x) (h0 : k ≠ 0) (hκ : noneAt κ1 (own.map (·.2)) = true) (hκn : κ1.length = X.N.length) (hts : ts.all (fun i => (own.map (·.2)).contains i) = true) (h1 : leO κ1 κ4 = true) (h2 : leO κ1 κ3 = true)
    (hfx : notFx rc i = true) (hl : leO κ0 κ = true) (hn0 : κ0.length = X.N.length) (hz : allz κ0 κ = true) : JS X κ (.Assign [.Name y py] (.ListComp elt [⟨tg, iter, ifs, 0⟩] scope pos) spos) (sAsg i (mF (mLc (true && (true && true)) (own.map (·.2)) ml mg mc me))) (κ.set i (some 99)) rc := by
  have hin : i < X.N.length := (List.getElem?_eq_some_iff.mp hy).1
  refine ⟨fun s0 t htt => PS.imp (ps_setLc (te := jTE X.K X.N.length κ3 me (.own (lv k)) κ4 true (t + 1)) (tt := jTT X.K X.N.length κ2 mc κ3 true (t + 1)) (g := jTG X.K X.N.length κ1 mg κ2 ts (t + 1)) hc hN hy hyl hsw (hi.run t htt) ok (fun s H C cl fp => (hg s H C cl fp).run (t + 1) (by exact Nat.le_succ_of_le htt)) (fun s H C cl fp => (ht s H C cl fp).run (t + 1) (by exact Nat.le_succ_of_le htt)) (fun s H C cl fp => (he s H C cl fp).run (t + 1) (by exact Nat.le_succ_of_le htt)) hs) fun σ H D z q => ?_⟩
  obtain ⟨g, ρ, S, fx, o, em, post⟩ := q z
  obtain ⟨d, ρ1, e1, rfl⟩ := sAsg_some em
  obtain ⟨ds, e3, hd, rfl⟩ := mF_some e1
  have e2 : ρ1 = ρ := by
    have e1 := e3
    rw [ap_lc] at e1
    cases eml : ml ρ with
    | none => rw [eml] at e1; cases e1
    | some p =>
      obtain ⟨es, ρ2⟩ := p
      have hp := hi.pur rfl _ _ _ eml
      rw [eml] at e1
      simp only [Bool.and_self, if_true] at e1
      split at e1
      · split at e1
        · cases e1
          exact hp
        · cases e1
      · cases e1
  subst e2
  refine lc_core' (tg := tg) (iter := iter) (elt := elt) (ifs := ifs) rfl htt h0 hκ hκn hts (hg X.s_0 H 0 [] []).out (ht X.s_0 H 0 [] []).pur (he X.s_0 H 0 [] []).pur h1 h2 rfl rfl rfl rfl σ H _ z ⟨wk κ0 g, ρ1, S.weaken hl, .lst ds, ρ1, e3, fun v H' g' S' P' s' r' => ?_⟩
  have hl' : σ.length = X.N.length := z.2
  obtain ⟨g2, S2, P2, o2⟩ := fresh_core S hn0 htt hz P' (s' rfl) h0 hd r'
  exact post _ H' _ (S2.store (by omega) (by omega) o2) (P2.trans (Pres.store hin S2.gok)) (fx.set hfx)
end VS
namespace VS
open L2
section
universe u
variable {α β : Type}
def bo (o : Option β) (k : β → Option α) : Option α := match o with
  | some x => k x
  | none => none
def cv (o : Option (Option D)) (k : D → Option α) : Option α := match o with
  | some (some d) => k d
  | _ => none
def tst (x : D) (a b : Option α) : Option α := match x with
  | .bl true => a
  | .bl false => b
  | _ => none
def onI (x : D) (k : Int → Option α) : Option α := match x with
  | .int i => k i
  | _ => none
def onL (x : D) (k : List D → Option α) : Option α := match x with
  | .lst i => k i
  | _ => none
def onT (x : D) (k : List D → Option α) : Option α := match x with
  | .tup i => k i
  | _ => none
def ce (m : M) (ρ : DE) (k : D → DE → Option α) : Option α := match m ρ with
  | some (x, ρ1) => k x ρ1
  | none => none
def cl (m : ML) (ρ : DE) (k : List D → DE → Option α) : Option α := match m ρ with
  | some (x, ρ1) => k x ρ1
  | none => none
def co (m : MO) (ρ : DE) (k : Option Int → Option α) : Option α := match m ρ with
  | some x => k x
  | none => none
def ct (m : M) (ρ : DE) (a b : DE → Option α) : Option α := match m ρ with
  | some (.bl true, ρ1) => a ρ1
  | some (.bl false, ρ1) => b ρ1
  | _ => none
def cd (m : MDs) (ρ : DE) (k : List D → List D → Option α) : Option α := match m ρ with
  | some x => k x.1 x.2
  | none => none
def cs (m : SM) (ρ : DE) (kn : DE → Option α) (kr : D → DE → Option α) : Option α := match m ρ with
  | some (.nx ρ1) => kn ρ1
  | some (.rt d ρ1) => kr d ρ1
  | none => none
def cF (mg : MG) (mb : SM) (ds : List D) (ρ : DE) (kn : DE → Option α) (kr : D → DE → Option α) : Option α := cs (itF mg mb ds) ρ kn kr
def cW (mc : M) (mb : SM) (n : Nat) (ρ : DE) (kn : DE → Option α) (kr : D → DE → Option α) : Option α := cs (itW mc mb n) ρ kn kr
variable {m ma mb mc md : M} {ml : ML} {ρ ρ' : DE} {k : D → DE → Option α} {kl : List D → DE → Option α} {ko : Option Int → Option α} {a b : DE → Option α} {f f' : D → D → Option D}
theorem bo_s {x : β} {k : β → Option α} : bo (some x) k = k x := rfl
theorem bo_n {k : β → Option α} : bo none k = none := rfl
theorem cv_s {d : D} {k : D → Option α} : cv (some (some d)) k = k d := rfl
theorem tst_t {x y : Option α} : tst (.bl true) x y = x := rfl
theorem tst_f {x y : Option α} : tst (.bl false) x y = y := rfl
theorem tst_d {p : Prop} [Decidable p] {x y : Option α} : tst (.bl (decide p)) x y = if p then x else y := by
  by_cases h : p <;> simp [h, tst]
theorem tst_n {p : Bool} {x y : Option α} : tst (.bl (!p)) x y = tst (.bl p) y x := by cases p <;> rfl
theorem tst_a {p q : Bool} {x y : Option α} : tst (.bl (p && q)) x y = tst (.bl p) (tst (.bl q) x y) y := by cases p <;> cases q <;> rfl
theorem tst_o {p q : Bool} {x y : Option α} : tst (.bl (p || q)) x y = tst (.bl p) x (tst (.bl q) x y) := by cases p <;> cases q <;> rfl
theorem onI_s {i : Int} {k : Int → Option α} : onI (.int i) k = k i := rfl
theorem onL_s {i : List D} {k : List D → Option α} : onL (.lst i) k = k i := rfl
theorem onT_s {i : List D} {k : List D → Option α} : onT (.tup i) k = k i := rfl
theorem ce_v {i : Nat} : ce (mV i) ρ k = cv ρ[i]? fun d => k d ρ := by
  unfold ce mV cv
  rcases ρ[i]? with _ | _ | d <;> rfl
theorem ce_c {d : D} : ce (mC d) ρ k = k d ρ := rfl
theorem ce_2 : ce (m2 f ma mb) ρ k = ce ma ρ fun x ρ1 => ce mb ρ1 fun y ρ2 => bo (f x y) fun z => k z ρ2 := by
  unfold ce
  rw [ap_2]
  cases ma ρ with
  | none => rfl
  | some p =>
    simp only []
    cases mb p.2 with
    | none => rfl
    | some q =>
      simp only []
      cases f p.1 q.1 <;> rfl
theorem ce_A : ce (mA m) ρ k = ce m ρ fun x ρ1 => if isA x = true then k x ρ1 else none := by
  unfold ce
  rw [ap_A]
  cases m ρ with
  | none => rfl
  | some p =>
    simp only []
    cases isA p.1 <;> rfl
theorem cl_nil : cl mNil ρ kl = kl [] ρ := rfl
theorem cl_cons : cl (mCons m ml) ρ kl = ce m ρ fun x ρ1 => cl ml ρ1 fun xs ρ2 => kl (x :: xs) ρ2 := by
  unfold cl ce
  rw [ap_cons]
  cases m ρ with
  | none => rfl
  | some p =>
    simp only []
    cases ml p.2 <;> rfl
theorem ce_lst : ce (mLst ml) ρ k = cl ml ρ fun xs ρ1 => if xs.length ≤ 16777216 then k (.lst xs) ρ1 else none := by
  unfold cl ce
  rw [ap_lst]
  cases ml ρ with
  | none => rfl
  | some p =>
    simp only []
    by_cases h : p.1.length ≤ 16777216 <;> simp only [h, if_true, if_false]
theorem ce_tup : ce (mTup ml) ρ k = cl ml ρ fun xs ρ1 => if xs.length ≤ 16777216 then k (.tup xs) ρ1 else none := by
  unfold cl ce
  rw [ap_tup]
  cases ml ρ with
  | none => rfl
  | some p =>
    simp only []
    by_cases h : p.1.length ≤ 16777216 <;> simp only [h, if_true, if_false]
theorem ce_B {g : List D → Option D} : ce (mB g ml) ρ k = cl ml ρ fun xs ρ1 => bo (g xs) fun z => k z ρ1 := by
  unfold cl ce
  rw [ap_B]
  cases ml ρ with
  | none => rfl
  | some p =>
    simp only []
    cases g p.1 <;> rfl
theorem ce_call {g : FM} : ce (mCall g ml) ρ k = cl ml ρ fun xs ρ1 => bo (g xs) fun z => k z.1 ρ1 := by
  unfold cl ce
  rw [ap_call]
  cases ml ρ with
  | none => rfl
  | some p =>
    simp only []
    cases g p.1 <;> rfl
theorem ce_callN {g : FM} : ce (mCallO g none ml) ρ k = cl ml ρ fun xs ρ1 => bo (g xs) fun z => k z.1 ρ1 := by
  unfold cl ce
  rw [ap_callN]
  cases ml ρ with
  | none => rfl
  | some p =>
    simp only []
    cases g p.1 <;> rfl
theorem ce_callO {g : FM} {j i : Nat} : ce (mCallO g (some (j, i)) ml) ρ k = cl ml ρ fun xs ρ1 => bo (g xs) fun z => k z.1 (ρ1.set i z.2[j]?) := by
  unfold cl ce
  rw [ap_callO]
  cases ml ρ with
  | none => rfl
  | some p =>
    simp only []
    cases g p.1 <;> rfl
theorem ce_T : ce (mTr m) ρ k = ce m ρ fun x ρ1 => bo (truD x) fun b => k (.bl b) ρ1 := by
  unfold ce
  rw [ap_T]
  cases m ρ with
  | none => rfl
  | some p =>
    simp only []
    cases truD p.1 <;> rfl
theorem ce_isT {c : String} : ce (mIsT c m) ρ k = ce m ρ fun x ρ1 => bo (isT c x) fun b => k (.bl b) ρ1 := by
  unfold ce
  rw [ap_isT]
  cases m ρ with
  | none => rfl
  | some p =>
    simp only []
    cases isT c p.1 <;> rfl
theorem ce_not : ce (mNot m) ρ k = ct m ρ (fun ρ1 => k (.bl false) ρ1) fun ρ1 => k (.bl true) ρ1 := by
  unfold ce ct
  rw [ap_not]
  rcases m ρ with _ | ⟨x, ρ1⟩
  · rfl
  cases x with
  | bl b => cases b <;> rfl
  | _ => rfl
theorem ce_neg : ce (mNeg m) ρ k = ce m ρ fun x ρ1 => onI x fun i => k (.int (-i)) ρ1 := by
  unfold ce
  rw [ap_neg]
  rcases m ρ with _ | ⟨x, ρ1⟩
  · rfl
  cases x <;> rfl
theorem ce_and : ce (mAnd ma mb) ρ k = ct ma ρ (fun ρ1 => ce mb ρ1 k) fun ρ1 => k (.bl false) ρ1 := by
  unfold ce ct
  rw [ap_and]
  rcases ma ρ with _ | ⟨x, ρ1⟩
  · rfl
  cases x with
  | bl b => cases b <;> rfl
  | _ => rfl
theorem ce_or : ce (mOr ma mb) ρ k = ct ma ρ (fun ρ1 => k (.bl true) ρ1) fun ρ1 => ce mb ρ1 k := by
  unfold ce ct
  rw [ap_or]
  rcases ma ρ with _ | ⟨x, ρ1⟩
  · rfl
  cases x with
  | bl b => cases b <;> rfl
  | _ => rfl
theorem ce_ch : ce (mCh f f' ma mb mc) ρ k = ce ma ρ fun x ρ1 => ce mb ρ1 fun y ρ2 => bo (f x y) fun z => tst z (ce mc ρ2 fun w ρ3 => bo (f' y w) fun v => k v ρ3) (k (.bl false) ρ2) := by
  unfold ce
  rw [ap_ch]
  rcases ma ρ with _ | ⟨x, ρ1⟩
  · rfl
  simp only []
  rcases mb ρ1 with _ | ⟨y, ρ2⟩
  · rfl
  simp only []
  rcases f x y with _ | z
  · rfl
  simp only [bo]
  cases z with
  | bl b =>
    cases b with
    | true =>
      simp only [tst]
      rcases mc ρ2 with _ | ⟨w, ρ3⟩
      · rfl
      simp only []
      cases f' y w <;> rfl
    | false => rfl
  | _ => rfl
theorem ce_sl {mlo mhi : MO} {g : D → Option Int → Option Int → Option D} : ce (mSl ma mlo mhi g) ρ k = ce ma ρ fun x ρ1 => co mlo ρ1 fun l => co mhi ρ1 fun h => bo (g x l h) fun z => k z ρ1 := by
  unfold ce co
  rw [ap_sl]
  rcases ma ρ with _ | ⟨x, ρ1⟩
  · rfl
  simp only []
  rcases mlo ρ1 with _ | l
  · rfl
  simp only []
  rcases mhi ρ1 with _ | h
  · rfl
  simp only []
  cases g x l h <;> rfl
theorem co_s : co (oSome m) ρ ko = ce m ρ fun x _ => onI x fun i => ko (some i) := by
  unfold co ce
  rw [ap_oS]
  rcases m ρ with _ | ⟨x, ρ1⟩
  · rfl
  cases x <;> rfl
theorem co_n : co oNone ρ ko = ko none := rfl
theorem ce_mk {kk : Mk} : ce (mMk kk ml) ρ k = cl ml ρ fun xs ρ1 => match xs with
    | [x] => bo (dMk kk x) fun z => k z ρ1
    | _ => none := by
  unfold ce cl
  rw [ap_mk]
  rcases ml ρ with _ | ⟨xs, ρ1⟩
  · rfl
  match xs with
  | [] => rfl
  | [x] => simp only []; cases dMk kk x <;> rfl
  | _ :: _ :: _ => rfl
theorem ce_mut {i : Nat} {g : List D → List D → Option (D × List D)} : ce (mMut i g ml) ρ k = cv ρ[i]? fun x => onL x fun _ => cl ml ρ fun as ρ1 => cv ρ1[i]? fun y => onL y fun ds => bo (g ds as) fun r => k r.1 (ρ1.set i (some (.lst r.2))) := by
  unfold ce cl
  rw [ap_mut]
  rcases ρ[i]? with _ | _ | d
  · rfl
  · rfl
  cases d with
  | lst ds0 =>
    simp only [cv, onL]
    rcases ml ρ with _ | ⟨xs, ρ1⟩
    · rfl
    simp only []
    rcases ρ1[i]? with _ | _ | d
    · rfl
    · rfl
    cases d with
    | lst ds => simp only [cv, onL]; rcases g ds xs with _ | ⟨z, ds'⟩ <;> rfl
    | _ => rfl
  | _ => rfl
theorem ce_mD {q : DKs} : ce (mD q) ρ k = k (.dic q []) ρ := rfl
theorem ce_get2 : ce (mGet2 md ma mb) ρ k = ce md ρ fun x ρ1 => ce ma ρ1 fun y ρ2 => ce mb ρ2 fun z ρ3 => match x with
    | .dic q xs => bo (dGet2 q xs y z) fun w => k w ρ3
    | _ => none := by
  unfold ce
  rw [ap_get2]
  rcases md ρ with _ | ⟨x, ρ1⟩
  · rfl
  cases x with
  | dic q xs =>
    simp only []
    rcases ma ρ1 with _ | ⟨y, ρ2⟩
    · rfl
    simp only []
    rcases mb ρ2 with _ | ⟨z, ρ3⟩
    · rfl
    simp only []
    cases dGet2 q xs y z <;> rfl
  | _ =>
    simp only []
    rcases ma ρ1 with _ | ⟨y, ρ2⟩
    · rfl
    simp only []
    rcases mb ρ2 with _ | ⟨z, ρ3⟩ <;> rfl
theorem ce_disp {m : MDs} : ce (mDisp m) ρ k = cd m ρ fun ks xs => bo (dispK ks xs) fun r => if r.1.Nodup ∧ r.2.length ≤ 15 then k (.dic (.K r.1) r.2) ρ else none := by
  unfold ce cd
  rw [ap_disp]
  rcases m ρ with _ | ⟨ks, xs⟩
  · rfl
  simp only []
  rcases dispK ks xs with _ | ⟨ks', xs'⟩
  · rfl
  simp only [bo]
  by_cases h : ks'.Nodup ∧ xs'.length ≤ 15
  · rw [if_pos h, if_pos h]
  · rw [if_neg h, if_neg h]
theorem cd_n {k : List D → List D → Option α} : cd dsNil ρ k = k [] [] := rfl
theorem cd_c {m : MDs} {k : List D → List D → Option α} : cd (dsCons ma mb m) ρ k = ce ma ρ fun x _ => ce mb ρ fun y _ => cd m ρ fun ks vs => k (x :: ks) (y :: vs) := by
  unfold cd ce
  rw [ap_dsC]
  rcases ma ρ with _ | ⟨x, ρ1⟩
  · rfl
  simp only []
  rcases mb ρ with _ | ⟨y, ρ2⟩
  · rfl
  simp only []
  rcases m ρ with _ | ⟨ks, vs⟩ <;> rfl
theorem ce_F : ce (mF m) ρ k = ce m ρ fun x ρ1 => onL x fun ds => if ds.all isA = true then k (.lst ds) ρ1 else none := by
  unfold ce mF
  rcases m ρ with _ | ⟨x, ρ1⟩
  · rfl
  cases x with
  | lst ds => simp only [onL]; cases ds.all isA <;> rfl
  | _ => rfl
theorem ce_Fl : ce (mFl m) ρ k = ce m ρ fun x ρ1 => onL x fun ds => if noLL ds = true then k (.lst ds) ρ1 else none := by
  unfold ce mFl
  rcases m ρ with _ | ⟨x, ρ1⟩
  · rfl
  cases x with
  | lst ds => simp only [onL]; cases noLL ds <;> rfl
  | _ => rfl
theorem ce_lrg : ce (mLRg m) ρ k = ce m ρ fun x ρ1 => onI x fun n => if lim62 n = true ∧ n.toNat ≤ 16777216 then k (.lst (rngD 0 n.toNat)) ρ1 else none := by
  unfold ce mLRg
  rcases m ρ with _ | ⟨x, ρ1⟩
  · rfl
  cases x with
  | int n =>
    simp only [onI]
    by_cases h : lim62 n = true ∧ n.toNat ≤ 16777216
    · rw [if_pos h, h.1, decide_eq_true h.2]
      rfl
    · rw [if_neg h]
      cases e1 : lim62 n with
      | false => rfl
      | true =>
        rw [decide_eq_false fun z => h ⟨e1, z⟩]
        rfl
  | _ => rfl
theorem ce_srtD : ce (mSrtD m) ρ k = ce m ρ fun x ρ1 => match x with
    | .dic (.K ks) _ => if alikeK ks = true ∧ ks.length ≤ 16777216 then k (.lst ((srtK ks).map kD)) ρ1 else none
    | _ => none := by
  unfold ce
  rw [ap_srtD]
  rcases m ρ with _ | ⟨x, ρ1⟩
  · rfl
  cases x with
  | dic q xs => cases q with
    | K ks =>
      simp only []
      by_cases h : alikeK ks = true ∧ ks.length ≤ 16777216
      · rw [if_pos h, if_pos h]
      · rw [if_neg h, if_neg h]
    | T ks => rfl
  | _ => rfl
theorem ce_ch3 {f'' : D → D → Option D} : ce (mCh3 f f' f'' ma mb mc md) ρ k = ce ma ρ fun x ρ1 => ce mb ρ1 fun y ρ2 => bo (f x y) fun z => tst z (ce mc ρ2 fun w ρ3 => bo (f' y w) fun z2 => tst z2 (ce md ρ3 fun v ρ4 => bo (f'' w v) fun z3 => k z3 ρ4) (k (.bl false) ρ3)) (k (.bl false) ρ2) := by
  unfold ce mCh3
  rcases ma ρ with _ | ⟨x, ρ1⟩
  · rfl
  simp only []
  rcases mb ρ1 with _ | ⟨y, ρ2⟩
  · rfl
  simp only []
  rcases f x y with _ | z
  · rfl
  cases z with
  | bl b =>
    cases b with
    | false => rfl
    | true =>
      simp only [tst, bo]
      rcases mc ρ2 with _ | ⟨w, ρ3⟩
      · rfl
      simp only []
      rcases f' y w with _ | z2
      · rfl
      cases z2 with
      | bl b =>
        cases b with
        | false => rfl
        | true =>
          simp only []
          rcases md ρ3 with _ | ⟨v, ρ4⟩
          · rfl
          simp only []
          cases f'' w v <;> rfl
      | _ => rfl
  | _ => rfl
def cp1 (vs : List Nat) (mg : MG) (mc me : M) (ρ : DE) (d : D) : Option (Option D × DE) := bo (mg d (wp ρ vs)) fun ρ2 => ct mc ρ2 (fun ρ3 => ce me ρ3 fun x ρ4 => some (some x, ρ4)) fun ρ3 => some (none, ρ3)
theorem cpL_each {τ : Type} {e : τ → D} {f : τ → Option D} {vs : List Nat} {mg : MG} {mc me : M} {ρ : DE} : ∀ (xs : List τ), (∀ x ∈ xs, ∃ ρ4, cp1 vs mg mc me ρ (e x) = some (f x, ρ4) ∧ wp ρ4 vs = wp ρ vs) → ∀ ρ0, wp ρ0 vs = wp ρ vs → ∃ ρ', cpL vs mg mc me (xs.map e) ρ0 = some (xs.filterMap f, ρ') ∧ wp ρ' vs = wp ρ vs
  | [], h, ρ0, h0 => ⟨ρ0, rfl, h0⟩
  | d :: ds, h, ρ0, h0 => by
    obtain ⟨ρ5, h1, hw⟩ := h d (by simp)
    have ih := cpL_each ds fun x hx => h x (by simp [hx])
    rw [List.filterMap_cons, List.map_cons]
    unfold cp1 bo at h1
    simp only [cpL]
    rw [h0]
    generalize mg (e d) (wp ρ vs) = A at h1 ⊢
    rcases A with _ | ρ2
    · cases h1
    simp only [Option.bind_some, ct] at h1 ⊢
    generalize mc ρ2 = B at h1 ⊢
    rcases B with _ | ⟨x, ρ3⟩
    · cases h1
    cases x with
    | bl b =>
      cases b with
      | true =>
        simp only [ce] at h1 ⊢
        generalize me ρ3 = C at h1 ⊢
        rcases C with _ | ⟨y, ρ4⟩
        · cases h1
        simp only [Option.bind_some] at h1 ⊢
        injection h1 with h1
        rw [Prod.mk.injEq] at h1
        obtain ⟨h1, rfl⟩ := h1
        rw [← h1]
        obtain ⟨ρ', e, hw'⟩ := ih ρ4 hw
        exact ⟨ρ', by rw [e]; rfl, hw'⟩
      | false =>
        simp only [] at h1 ⊢
        injection h1 with h1
        rw [Prod.mk.injEq] at h1
        obtain ⟨h1, rfl⟩ := h1
        rw [← h1]
        obtain ⟨ρ', e, hw'⟩ := ih ρ3 hw
        exact ⟨ρ', e, hw'⟩
    | _ => cases h1
def cP (vs : List Nat) (mg : MG) (mc me : M) (ds : List D) (ρ : DE) (kl : List D → DE → Option α) : Option α := match cpL vs mg mc me ds ρ with
  | some (es, ρ1) => kl es ρ1
  | none => none
theorem cP_nil {vs : List Nat} {mg : MG} : cP vs mg mc me [] ρ kl = kl [] ρ := rfl
theorem cP_cons {me : M} {ns : List Nat} {mg : MG} {d : D} {ds : List D} : cP ns mg mc me (d :: ds) ρ kl = bo (mg d (wp ρ ns)) fun ρ2 => ct mc ρ2 (fun ρ3 => ce me ρ3 fun x ρ4 => cP ns mg mc me ds ρ4 fun es ρ1 => kl (x :: es) ρ1) fun ρ3 => cP ns mg mc me ds ρ3 kl := by
  unfold cP
  simp only [cpL]
  rcases mg d (wp ρ ns) with _ | ρ2
  · rfl
  simp only [Option.bind_some, bo, ct]
  rcases mc ρ2 with _ | ⟨x, ρ3⟩
  · rfl
  cases x with
  | bl b =>
    cases b with
    | true =>
      simp only [ce]
      rcases me ρ3 with _ | ⟨y, ρ4⟩
      · rfl
      simp only [Option.bind_some]
      rcases cpL ns mg mc me ds ρ4 with _ | ⟨es, ρ5⟩ <;> rfl
    | false => rfl
  | _ => rfl
theorem ce_lc {me : M} {ns : List Nat} {mg : MG} {pu : Bool} : ce (mLc pu ns ml mg mc me) ρ k = cl ml ρ fun ds ρ1 => cP ns mg mc me ds ρ1 fun es ρ2 => if es.length ≤ 16777216 then k (.lst es) (if pu = true then ρ1 else ρ2) else none := by
  unfold ce cl cP
  rw [ap_lc]
  rcases ml ρ with _ | ⟨ds, ρ1⟩
  · rfl
  simp only []
  rcases cpL ns mg mc me ds ρ1 with _ | ⟨es, ρ2⟩
  · rfl
  simp only []
  by_cases h : es.length ≤ 16777216
  · rw [if_pos h, if_pos h]
  · rw [if_neg h, if_neg h]
theorem cP_each {τ : Type} {e : τ → D} {f : τ → Option D} {vs : List Nat} {mg : MG} {mc me : M} {xs : List τ} {kp : List D → Option α} (h : ∀ x ∈ xs, ∃ ρ4, cp1 vs mg mc me ρ (e x) = some (f x, ρ4) ∧ wp ρ4 vs = wp ρ vs) (hk : ∀ es ρ2, kl es ρ2 = kp es) : cP vs mg mc me (xs.map e) ρ kl = kp (xs.filterMap f) := by
  obtain ⟨ρ2, e2, _⟩ := cpL_each xs h ρ rfl
  unfold cP
  rw [e2]
  exact hk _ _
theorem cP_map {τ : Type} {e : τ → D} (g : τ → D) {vs : List Nat} {mg : MG} {mc me : M} {xs : List τ} {kp : List D → Option α} (h : ∀ x ∈ xs, ∃ ρ4, cp1 vs mg mc me ρ (e x) = some (some (g x), ρ4) ∧ wp ρ4 vs = wp ρ vs) (hk : ∀ es ρ2, kl es ρ2 = kp es) : cP vs mg mc me (xs.map e) ρ kl = kp (xs.map g) := by
  rw [cP_each (f := fun x => some (g x)) h hk, List.filterMap_eq_map']
theorem cP_flt {τ : Type} {e : τ → D} (g : τ → D) (p : τ → Bool) {vs : List Nat} {mg : MG} {mc me : M} {xs : List τ} {kp : List D → Option α} (h : ∀ x ∈ xs, ∃ ρ4, cp1 vs mg mc me ρ (e x) = some (if p x = true then some (g x) else none, ρ4) ∧ wp ρ4 vs = wp ρ vs) (hk : ∀ es ρ2, kl es ρ2 = kp es) : cP vs mg mc me (xs.map e) ρ kl = kp ((xs.filter p).map g) := by
  rw [cP_each (f := fun x => if p x = true then some (g x) else none) h hk]
  congr 1
  clear h hk
  induction xs with
  | nil => rfl
  | cons x xs ih => by_cases hp : p x = true <;> simp [hp, ih]
theorem cp1_e {vs : List Nat} {mg : MG} {mc me : M} {d : D} : cp1 vs mg mc me ρ d = bo (mg d (wp ρ vs)) fun ρ2 => ct mc ρ2 (fun ρ3 => ce me ρ3 fun x ρ4 => some (some x, ρ4)) fun ρ3 => some (none, ρ3) := rfl
theorem cl_seq : cl (mSeq m) ρ kl = ce m ρ fun x ρ1 => bo (seqOf x) fun ds => kl ds ρ1 := by
  unfold cl ce mSeq
  rcases m ρ with _ | ⟨x, ρ1⟩
  · rfl
  simp only [Option.bind_some]
  cases seqOf x <;> rfl
theorem cl_rng1 : cl (mRng1 ml) ρ kl = cl ml ρ fun xs ρ1 => match xs with
    | [.int j] => if lim62 j = true then kl (rngD 0 j.toNat) ρ1 else none
    | _ => none := by
  unfold cl
  rw [ap_rng1]
  rcases ml ρ with _ | ⟨xs, ρ1⟩
  · rfl
  match xs with
  | [] => rfl
  | [x] => cases x with
    | int j => simp only []; cases lim62 j <;> rfl
    | _ => rfl
  | x :: _ :: _ => cases x <;> rfl
theorem cl_rng2 : cl (mRng2 ml) ρ kl = cl ml ρ fun xs ρ1 => match xs with
    | [.int i, .int j] => if lim62 i = true ∧ lim62 j = true then kl (rngD i (j - i).toNat) ρ1 else none
    | _ => none := by
  unfold cl
  rw [ap_rng2]
  rcases ml ρ with _ | ⟨xs, ρ1⟩
  · rfl
  match xs with
  | [] => rfl
  | [x] => cases x <;> rfl
  | [x, y] => cases x with
    | int i => cases y with
      | int j => simp only []; cases lim62 i <;> cases lim62 j <;> rfl
      | _ => rfl
    | _ => cases y <;> rfl
  | x :: y :: _ :: _ => cases x with
    | int i => cases y <;> rfl
    | _ => rfl
theorem cl_rng3 : cl (mRng3 ml) ρ kl = cl ml ρ fun xs ρ1 => match xs with
    | [.int i, .int j, .int c] => if okC i j c = true then kl (rngC i c (PySem.Builtin.Range.rangeSize i j c).toNat) ρ1 else none
    | _ => none := by
  unfold cl mRng3
  rcases ml ρ with _ | ⟨xs, ρ1⟩
  · rfl
  match xs with
  | [.int i, .int j, .int c] => simp only []; cases okC i j c <;> rfl
  | [] => rfl
  | [x] => cases x <;> rfl
  | [x, y] => cases x <;> cases y <;> rfl
  | .int i :: .int j :: .int c :: _ :: _ => rfl
  | .int i :: .int j :: .non :: _ => rfl
  | .int i :: .int j :: .bl _ :: _ => rfl
  | .int i :: .int j :: .str _ :: _ => rfl
  | .int i :: .int j :: .tup _ :: _ => rfl
  | .int i :: .int j :: .lst _ :: _ => rfl
  | .int i :: .int j :: .rol _ :: _ => rfl
  | .int i :: .int j :: .dic _ _ :: _ => rfl
  | .int i :: .int j :: .nd _ _ :: _ => rfl
  | .int i :: .int j :: .obj _ :: _ => rfl
  | .int i :: .int j :: .gon :: _ => rfl
  | .int i :: .int j :: .ins _ _ :: _ => rfl
  | .int i :: .non :: _ :: _ => rfl
  | .int i :: .bl _ :: _ :: _ => rfl
  | .int i :: .str _ :: _ :: _ => rfl
  | .int i :: .tup _ :: _ :: _ => rfl
  | .int i :: .lst _ :: _ :: _ => rfl
  | .int i :: .rol _ :: _ :: _ => rfl
  | .int i :: .dic _ _ :: _ :: _ => rfl
  | .int i :: .nd _ _ :: _ :: _ => rfl
  | .int i :: .obj _ :: _ :: _ => rfl
  | .int i :: .gon :: _ :: _ => rfl
  | .int i :: .ins _ _ :: _ :: _ => rfl
  | .non :: _ :: _ :: _ => rfl
  | .bl _ :: _ :: _ :: _ => rfl
  | .str _ :: _ :: _ :: _ => rfl
  | .tup _ :: _ :: _ :: _ => rfl
  | .lst _ :: _ :: _ :: _ => rfl
  | .rol _ :: _ :: _ :: _ => rfl
  | .dic _ _ :: _ :: _ :: _ => rfl
  | .nd _ _ :: _ :: _ :: _ => rfl
  | .obj _ :: _ :: _ :: _ => rfl
  | .gon :: _ :: _ :: _ => rfl
  | .ins _ _ :: _ :: _ :: _ => rfl
theorem cl_enum : cl (mEnum ml) ρ kl = cl ml ρ fun xs ρ1 => match xs with
    | [.lst ds] => kl (enumD ds) ρ1
    | _ => none := by
  unfold cl
  rw [ap_enum]
  rcases ml ρ with _ | ⟨xs, ρ1⟩
  · rfl
  match xs with
  | [] => rfl
  | [x] => cases x <;> rfl
  | x :: _ :: _ => cases x <;> rfl
theorem cl_zip : cl (mZip ml) ρ kl = cl ml ρ fun xs ρ1 => match xs with
    | [.lst ds, .lst es] => kl (zipD ds es) ρ1
    | [.tup ds, .tup es] => kl (zipD ds es) ρ1
    | _ => none := by
  unfold cl mZip
  rcases ml ρ with _ | ⟨xs, ρ1⟩
  · rfl
  match xs with
  | [] => rfl
  | [x] => cases x <;> rfl
  | [x, y] => cases x <;> cases y <;> rfl
  | x :: y :: _ :: _ => cases x <;> cases y <;> rfl
theorem cl_keys {i : Nat} : cl (mKeys i) ρ kl = cv ρ[i]? fun x => match x with
    | .dic q _ => kl q.keys ρ
    | _ => none := by
  unfold cl
  rw [ap_keys]
  rcases ρ[i]? with _ | _ | d
  · rfl
  · rfl
  cases d <;> rfl
theorem ct_of {ρ : DE} : ct m ρ a b = ce m ρ fun x ρ1 => tst x (a ρ1) (b ρ1) := by
  unfold ct ce
  rcases m ρ with _ | ⟨x, ρ1⟩
  · rfl
  cases x with
  | bl p => cases p <;> rfl
  | _ => rfl
theorem ct_not : ct (mNot m) ρ a b = ct m ρ b a := by
  rw [ct_of, ce_not]
  rfl
theorem ct_and : ct (mAnd ma mb) ρ a b = ct ma ρ (fun ρ1 => ct mb ρ1 a b) b := by
  rw [ct_of, ce_and]
  unfold ct
  simp only [tst, ce]
  rcases ma ρ with _ | ⟨x, ρ1⟩
  · rfl
  cases x with
  | bl p =>
    cases p with
    | true =>
      simp only []
      rcases mb ρ1 with _ | ⟨y, ρ2⟩
      · rfl
      cases y with
      | bl q => cases q <;> rfl
      | _ => rfl
    | false => rfl
  | _ => rfl
theorem ct_or : ct (mOr ma mb) ρ a b = ct ma ρ a (fun ρ1 => ct mb ρ1 a b) := by
  rw [ct_of, ce_or]
  unfold ct
  simp only [tst, ce]
  rcases ma ρ with _ | ⟨x, ρ1⟩
  · rfl
  cases x with
  | bl p =>
    cases p with
    | false =>
      simp only []
      rcases mb ρ1 with _ | ⟨y, ρ2⟩
      · rfl
      cases y with
      | bl q => cases q <;> rfl
      | _ => rfl
    | true => rfl
  | _ => rfl
theorem ct_T : ct (mTr m) ρ a b = ce m ρ fun x ρ1 => bo (truD x) fun q => tst (.bl q) (a ρ1) (b ρ1) := by rw [ct_of, ce_T]
theorem ct_2 : ct (m2 f ma mb) ρ a b = ce (m2 f ma mb) ρ fun x ρ1 => tst x (a ρ1) (b ρ1) := ct_of
theorem ct_ch : ct (mCh f f' ma mb mc) ρ a b = ce (mCh f f' ma mb mc) ρ fun x ρ1 => tst x (a ρ1) (b ρ1) := ct_of
theorem ct_v {i : Nat} : ct (mV i) ρ a b = ce (mV i) ρ fun x ρ1 => tst x (a ρ1) (b ρ1) := ct_of
theorem ct_c {d : D} : ct (mC d) ρ a b = tst d (a ρ) (b ρ) := ct_of
theorem ct_yes : ct mYes ρ a b = a ρ := rfl
theorem ct_isT {c : String} : ct (mIsT c m) ρ a b = ce (mIsT c m) ρ fun x ρ1 => tst x (a ρ1) (b ρ1) := ct_of
theorem ct_A : ct (mA m) ρ a b = ce (mA m) ρ fun x ρ1 => tst x (a ρ1) (b ρ1) := ct_of
theorem ct_cl {g : FM} : ct (mCall g ml) ρ a b = ce (mCall g ml) ρ fun x ρ1 => tst x (a ρ1) (b ρ1) := ct_of
theorem ct_clO {g : FM} {io : Option (Nat × Nat)} : ct (mCallO g io ml) ρ a b = ce (mCallO g io ml) ρ fun x ρ1 => tst x (a ρ1) (b ρ1) := ct_of
theorem ct_B {g : List D → Option D} : ct (mB g ml) ρ a b = ce (mB g ml) ρ fun x ρ1 => tst x (a ρ1) (b ρ1) := ct_of
variable {s s1 s2 : SM} {kn : DE → Option α} {kr : D → DE → Option α}
theorem cs_seq : cs (sSeq s1 s2) ρ kn kr = cs s1 ρ (fun ρ1 => cs s2 ρ1 kn kr) kr := by
  unfold cs
  rw [ap_seq]
  rcases s1 ρ with _ | o
  · rfl
  cases o <;> rfl
theorem cs_nil : cs sNil ρ kn kr = kn ρ := rfl
theorem cs_if : cs (sIf m s1 s2) ρ kn kr = ct m ρ (fun ρ1 => cs s1 ρ1 kn kr) fun ρ1 => cs s2 ρ1 kn kr := by
  unfold cs ct
  rw [ap_sif]
  rcases m ρ with _ | ⟨x, ρ1⟩
  · rfl
  cases x with
  | bl b => cases b <;> rfl
  | _ => rfl
theorem cs_ret : cs (sRet m) ρ kn kr = ce m ρ kr := by
  unfold cs ce
  rw [ap_ret]
  rcases m ρ with _ | ⟨x, ρ1⟩ <;> rfl
theorem cs_no : cs sNo ρ kn kr = none := rfl
theorem cs_asg {i : Nat} : cs (sAsg i m) ρ kn kr = ce m ρ fun x ρ1 => kn (ρ1.set i (some x)) := by
  unfold cs ce
  rw [ap_asg]
  rcases m ρ with _ | ⟨x, ρ1⟩ <;> rfl
theorem cs_exp : cs (sExp m) ρ kn kr = ce m ρ fun x ρ1 => kn ρ1 := by
  unfold cs ce
  rw [ap_exp]
  rcases m ρ with _ | ⟨x, ρ1⟩ <;> rfl
theorem cs_tgt {mg : MG} : cs (sTgt m mg) ρ kn kr = ce m ρ fun x ρ1 => bo (mg x ρ1) kn := by
  unfold cs ce
  rw [ap_tgt]
  rcases m ρ with _ | ⟨x, ρ1⟩
  · rfl
  simp only []
  rcases mg x ρ1 with _ | ρ2 <;> rfl
theorem cs_par {i j : Nat} : cs (sPar i j ml) ρ kn kr = cl ml ρ fun xs ρ1 => match xs with
    | [d1, d2] => kn ((ρ1.set i (some d1)).set j (some d2))
    | _ => none := by
  unfold cs cl sPar
  rcases ml ρ with _ | ⟨xs, ρ1⟩
  · rfl
  match xs with
  | [] => rfl
  | [x] => rfl
  | [x, y] => rfl
  | _ :: _ :: _ :: _ => rfl
theorem cs_app {i : Nat} : cs (sApp i m) ρ kn kr = cv ρ[i]? fun x => onL x fun _ => ce m ρ fun y ρ1 => cv ρ1[i]? fun z => onL z fun ds => if ds.length < 16777216 then kn (ρ1.set i (some (.lst (ds ++ [y])))) else none := by
  unfold cs ce
  rw [ap_app]
  rcases ρ[i]? with _ | _ | d
  · rfl
  · rfl
  cases d with
  | lst ds0 =>
    simp only [cv, onL]
    rcases m ρ with _ | ⟨y, ρ1⟩
    · rfl
    simp only []
    rcases ρ1[i]? with _ | _ | d
    · rfl
    · rfl
    cases d with
    | lst ds =>
      simp only []
      by_cases h : ds.length < 16777216
      · rw [if_pos h, if_pos h]
      · rw [if_neg h, if_neg h]
    | _ => rfl
  | _ => rfl
theorem cs_set {i : Nat} : cs (sSet i ma mb) ρ kn kr = ce ma ρ fun x ρ1 => cv ρ1[i]? fun z => onL z fun ds => ce mb ρ1 fun y ρ2 => onI y fun p => bo (ixN ds.length p) fun j => kn (ρ2.set i (some (.lst (ds.set j x)))) := by
  unfold cs ce
  rw [ap_set]
  rcases ma ρ with _ | ⟨x, ρ1⟩
  · rfl
  simp only []
  rcases ρ1[i]? with _ | _ | d
  · rfl
  · rfl
  cases d with
  | lst ds =>
    simp only [cv, onL]
    rcases mb ρ1 with _ | ⟨y, ρ2⟩
    · rfl
    cases y with
    | int p => simp only [onI]; rcases ixN ds.length p with _ | j <;> rfl
    | _ => rfl
  | _ => rfl
theorem cs_set2 {i : Nat} : cs (sSet2 i m ma mb) ρ kn kr = ce m ρ fun x ρ1 => cv ρ1[i]? fun z => onL z fun ds => ce ma ρ1 fun y ρ2 => onI y fun p => bo (ixN ds.length p) fun j => bo ds[j]? fun w => onL w fun ys => ce mb ρ2 fun v ρ3 => onI v fun q => bo (ixN ys.length q) fun l => kn (ρ3.set i (some (.lst (ds.set j (.lst (ys.set l x)))))) := by
  unfold cs ce sSet2
  rcases m ρ with _ | ⟨x, ρ1⟩
  · rfl
  simp only []
  rcases ρ1[i]? with _ | _ | d
  · rfl
  · rfl
  cases d with
  | lst ds =>
    simp only [cv, onL]
    rcases ma ρ1 with _ | ⟨y, ρ2⟩
    · rfl
    cases y with
    | int p =>
      simp only [onI]
      rcases ixN ds.length p with _ | j
      · rfl
      simp only [bo]
      rcases ds[j]? with _ | w
      · rfl
      cases w with
      | lst ys =>
        simp only []
        rcases mb ρ2 with _ | ⟨v, ρ3⟩
        · rfl
        cases v with
        | int q => simp only []; rcases ixN ys.length q with _ | l <;> rfl
        | _ => rfl
      | _ => rfl
    | _ => rfl
  | _ => rfl
theorem cs_put {i : Nat} : cs (sPut i ma mb) ρ kn kr = ce ma ρ fun x ρ1 => cv ρ1[i]? fun z => match z with
    | .dic q xs => if xs.length < 16777216 then ce mb ρ1 fun y ρ2 => bo (dPut q xs y x) fun r => kn (ρ2.set i (some (.dic r.1 r.2))) else none
    | _ => none := by
  unfold cs ce
  rw [ap_put]
  rcases ma ρ with _ | ⟨x, ρ1⟩
  · rfl
  simp only []
  rcases ρ1[i]? with _ | _ | d
  · rfl
  · rfl
  cases d with
  | dic q xs =>
    simp only [cv]
    by_cases h : xs.length < 16777216
    · rw [if_pos h, if_pos h]
      rcases mb ρ1 with _ | ⟨y, ρ2⟩
      · rfl
      simp only []
      rcases dPut q xs y x with _ | ⟨q', xs'⟩ <;> rfl
    · rw [if_neg h, if_neg h]
  | _ => rfl
theorem cs_for {mg : MG} : cs (sFor ml mg s) ρ kn kr = cl ml ρ fun ds ρ1 => cF mg s ds ρ1 kn kr := by
  unfold cs cl
  rw [ap_for]
  rcases ml ρ with _ | ⟨ds, ρ1⟩
  · rfl
  rfl
theorem cF_nil {mg : MG} : cF mg s [] ρ kn kr = kn ρ := rfl
theorem cF_cons {mg : MG} {d : D} {ds : List D} : cF mg s (d :: ds) ρ kn kr = bo (mg d ρ) fun ρ1 => cs s ρ1 (fun ρ2 => cF mg s ds ρ2 kn kr) kr := by
  unfold cF cs
  simp only [itF]
  rcases mg d ρ with _ | ρ1
  · rfl
  simp only [Option.bind_some, bo]
  rcases s ρ1 with _ | o
  · rfl
  cases o <;> rfl
theorem cs_while : cs (sWhile m s) ρ kn kr = cW m s 100000 ρ kn kr := rfl
theorem cW_s {n : Nat} : cW m s (n + 1) ρ kn kr = ct m ρ (fun ρ1 => cs s ρ1 (fun ρ2 => cW m s n ρ2 kn kr) kr) kn := by
  unfold cW cs ct
  simp only [itW]
  rcases m ρ with _ | ⟨x, ρ1⟩
  · rfl
  cases x with
  | bl b =>
    cases b with
    | true =>
      simp only []
      rcases s ρ1 with _ | o
      · rfl
      cases o <;> rfl
    | false => rfl
  | _ => rfl
theorem g_cons {g : MG} {ms : List D → DE → Option DE} {d : D} {ds : List D} : gsCons g ms (d :: ds) ρ = bo (g d ρ) fun ρ1 => ms ds ρ1 := by
  rw [ap_gcons]
  rcases g d ρ with _ | ρ1 <;> rfl
def fo' (ks' : List (Option Nat)) (ds : List D) (d : D) (ρ : DE) : Option (D × List D) := bo (outsD ks' ρ 0 ds) fun es => some (d, es)
theorem f_run {np n : Nat} {ks' : List (Option Nat)} {ds : List D} (h : ds.length = np) : fM np n ks' s ds = cs s (ds.map some ++ List.replicate (n - ds.length) none) (fo' ks' ds .non) (fo' ks' ds) := by
  rw [ap_fM, decide_eq_true h]
  simp only [cs]
  rcases s (ds.map some ++ List.replicate (n - ds.length) none) with _ | o
  · rfl
  cases o with
  | nx ρ => simp only [fo', bo]; rcases outsD ks' ρ 0 ds with _ | es <;> rfl
  | rt d ρ => simp only [fo', bo]; rcases outsD ks' ρ 0 ds with _ | es <;> rfl
theorem fo_z {d : D} {ds : List D} {ks' : List (Option Nat)} : fo' ks' ds d ρ = bo (outsD ks' ρ 0 ds) fun es => some (d, es) := rfl
theorem o_n {ks' : List (Option Nat)} {j : Nat} : outsD ks' ρ j [] = some [] := rfl
def ox (ks' : List (Option Nat)) (ρ : DE) (j : Nat) (d : D) : Option D := match ks'[j]? with
  | some (some _) => (match ρ[j]? with
    | some (some d') => some d'
    | _ => none)
  | _ => some d
theorem o_c {ks' : List (Option Nat)} {j : Nat} {d : D} {ds : List D} : outsD ks' ρ j (d :: ds) = bo (ox ks' ρ j d) fun x => bo (outsD ks' ρ (j + 1) ds) fun r => some (x :: r) := by
  rw [outsD]
  show (ox ks' ρ j d).bind _ = _
  rcases ox ks' ρ j d with _ | x
  · rfl
  simp only [Option.bind_some, bo]
  rcases outsD ks' ρ (j + 1) ds with _ | r <;> rfl
theorem if_le {n : Nat} {x y : β} (h : n ≤ 16777216) : (if n ≤ 16777216 then x else y) = x := if_pos h
theorem if_lt {n : Nat} {x y : β} (h : n < 16777216) : (if n < 16777216 then x else y) = x := if_pos h
def Wp (o : Option α) (P : α → Prop) : Prop := ∃ x, o = some x ∧ P x
end
end VS
namespace VS
open L2
section
variable {α : Type}
def ce_v_1 (ρ : DE) (k : D → DE → Option α) : D → Option α := fun d => k d ρ
theorem ce_v_1_e {ρ : DE} {k : D → DE → Option α} {d : D} : ce_v_1 ρ k d = k d ρ := rfl
theorem ce_v' {i : Nat} {ρ : DE} {k : D → DE → Option α} : ce (mV i) ρ k = cv ρ[i]? (ce_v_1 ρ k) := ce_v
def ce_2_3 (k : D → DE → Option α) (ρ2 : DE) : D → Option α := fun z => k z ρ2
theorem ce_2_3_e {k : D → DE → Option α} {ρ2 : DE} {z : D} : ce_2_3 k ρ2 z = k z ρ2 := rfl
def ce_2_2 (f : D → D → Option D) (k : D → DE → Option α) (x : D) : D → DE → Option α := fun y ρ2 => bo (f x y) (ce_2_3 k ρ2)
theorem ce_2_2_e {f : D → D → Option D} {k : D → DE → Option α} {x : D} {y : D} {ρ2 : DE} : ce_2_2 f k x y ρ2 = bo (f x y) (ce_2_3 k ρ2) := rfl
def ce_2_1 (f : D → D → Option D) (mb : M) (k : D → DE → Option α) : D → DE → Option α := fun x ρ1 => ce mb ρ1 (ce_2_2 f k x)
theorem ce_2_1_e {f : D → D → Option D} {mb : M} {k : D → DE → Option α} {x : D} {ρ1 : DE} : ce_2_1 f mb k x ρ1 = ce mb ρ1 (ce_2_2 f k x) := rfl
theorem ce_2' {f : D → D → Option D} {ma : M} {mb : M} {ρ : DE} {k : D → DE → Option α} : ce (m2 f ma mb) ρ k = ce ma ρ (ce_2_1 f mb k) := ce_2
def ce_A_1 (k : D → DE → Option α) : D → DE → Option α := fun x ρ1 => if isA x = true then k x ρ1 else none
theorem ce_A_1_e {k : D → DE → Option α} {x : D} {ρ1 : DE} : ce_A_1 k x ρ1 = if isA x = true then k x ρ1 else none := rfl
theorem ce_A' {m : M} {ρ : DE} {k : D → DE → Option α} : ce (mA m) ρ k = ce m ρ (ce_A_1 k) := ce_A
def cl_cons_2 (kl : List D → DE → Option α) (x : D) : List D → DE → Option α := fun xs ρ2 => kl (x :: xs) ρ2
theorem cl_cons_2_e {kl : List D → DE → Option α} {x : D} {xs : List D} {ρ2 : DE} : cl_cons_2 kl x xs ρ2 = kl (x :: xs) ρ2 := rfl
def cl_cons_1 (ml : ML) (kl : List D → DE → Option α) : D → DE → Option α := fun x ρ1 => cl ml ρ1 (cl_cons_2 kl x)
theorem cl_cons_1_e {ml : ML} {kl : List D → DE → Option α} {x : D} {ρ1 : DE} : cl_cons_1 ml kl x ρ1 = cl ml ρ1 (cl_cons_2 kl x) := rfl
theorem cl_cons' {m : M} {ml : ML} {ρ : DE} {kl : List D → DE → Option α} : cl (mCons m ml) ρ kl = ce m ρ (cl_cons_1 ml kl) := cl_cons
def ce_lst_1 (k : D → DE → Option α) : List D → DE → Option α := fun xs ρ1 => if xs.length ≤ 16777216 then k (.lst xs) ρ1 else none
theorem ce_lst_1_e {k : D → DE → Option α} {xs : List D} {ρ1 : DE} : ce_lst_1 k xs ρ1 = if xs.length ≤ 16777216 then k (.lst xs) ρ1 else none := rfl
theorem ce_lst' {ml : ML} {ρ : DE} {k : D → DE → Option α} : ce (mLst ml) ρ k = cl ml ρ (ce_lst_1 k) := ce_lst
def ce_tup_1 (k : D → DE → Option α) : List D → DE → Option α := fun xs ρ1 => if xs.length ≤ 16777216 then k (.tup xs) ρ1 else none
theorem ce_tup_1_e {k : D → DE → Option α} {xs : List D} {ρ1 : DE} : ce_tup_1 k xs ρ1 = if xs.length ≤ 16777216 then k (.tup xs) ρ1 else none := rfl
theorem ce_tup' {ml : ML} {ρ : DE} {k : D → DE → Option α} : ce (mTup ml) ρ k = cl ml ρ (ce_tup_1 k) := ce_tup
def ce_B_2 (k : D → DE → Option α) (ρ1 : DE) : D → Option α := fun z => k z ρ1
theorem ce_B_2_e {k : D → DE → Option α} {ρ1 : DE} {z : D} : ce_B_2 k ρ1 z = k z ρ1 := rfl
def ce_B_1 (g : List D → Option D) (k : D → DE → Option α) : List D → DE → Option α := fun xs ρ1 => bo (g xs) (ce_B_2 k ρ1)
theorem ce_B_1_e {g : List D → Option D} {k : D → DE → Option α} {xs : List D} {ρ1 : DE} : ce_B_1 g k xs ρ1 = bo (g xs) (ce_B_2 k ρ1) := rfl
theorem ce_B' {g : List D → Option D} {ml : ML} {ρ : DE} {k : D → DE → Option α} : ce (mB g ml) ρ k = cl ml ρ (ce_B_1 g k) := ce_B
def ce_call_2 (k : D → DE → Option α) (ρ1 : DE) : D × List D → Option α := fun z => k z.1 ρ1
theorem ce_call_2_e {k : D → DE → Option α} {ρ1 : DE} {z : D × List D} : ce_call_2 k ρ1 z = k z.1 ρ1 := rfl
def ce_call_1 (g : FM) (k : D → DE → Option α) : List D → DE → Option α := fun xs ρ1 => bo (g xs) (ce_call_2 k ρ1)
theorem ce_call_1_e {g : FM} {k : D → DE → Option α} {xs : List D} {ρ1 : DE} : ce_call_1 g k xs ρ1 = bo (g xs) (ce_call_2 k ρ1) := rfl
theorem ce_call' {g : FM} {ml : ML} {ρ : DE} {k : D → DE → Option α} : ce (mCall g ml) ρ k = cl ml ρ (ce_call_1 g k) := ce_call
def ce_callN_2 (k : D → DE → Option α) (ρ1 : DE) : D × List D → Option α := fun z => k z.1 ρ1
theorem ce_callN_2_e {k : D → DE → Option α} {ρ1 : DE} {z : D × List D} : ce_callN_2 k ρ1 z = k z.1 ρ1 := rfl
def ce_callN_1 (g : FM) (k : D → DE → Option α) : List D → DE → Option α := fun xs ρ1 => bo (g xs) (ce_callN_2 k ρ1)
theorem ce_callN_1_e {g : FM} {k : D → DE → Option α} {xs : List D} {ρ1 : DE} : ce_callN_1 g k xs ρ1 = bo (g xs) (ce_callN_2 k ρ1) := rfl
theorem ce_callN' {g : FM} {ml : ML} {ρ : DE} {k : D → DE → Option α} : ce (mCallO g none ml) ρ k = cl ml ρ (ce_callN_1 g k) := ce_callN
def ce_callO_2 (j : Nat) (i : Nat) (k : D → DE → Option α) (ρ1 : DE) : D × List D → Option α := fun z => k z.1 (ρ1.set i z.2[j]?)
theorem ce_callO_2_e {j : Nat} {i : Nat} {k : D → DE → Option α} {ρ1 : DE} {z : D × List D} : ce_callO_2 j i k ρ1 z = k z.1 (ρ1.set i z.2[j]?) := rfl
def ce_callO_1 (g : FM) (j : Nat) (i : Nat) (k : D → DE → Option α) : List D → DE → Option α := fun xs ρ1 => bo (g xs) (ce_callO_2 j i k ρ1)
theorem ce_callO_1_e {g : FM} {j : Nat} {i : Nat} {k : D → DE → Option α} {xs : List D} {ρ1 : DE} : ce_callO_1 g j i k xs ρ1 = bo (g xs) (ce_callO_2 j i k ρ1) := rfl
theorem ce_callO' {g : FM} {j : Nat} {i : Nat} {ml : ML} {ρ : DE} {k : D → DE → Option α} : ce (mCallO g (some (j, i)) ml) ρ k = cl ml ρ (ce_callO_1 g j i k) := ce_callO
def ce_T_2 (k : D → DE → Option α) (ρ1 : DE) : Bool → Option α := fun b => k (.bl b) ρ1
theorem ce_T_2_e {k : D → DE → Option α} {ρ1 : DE} {b : Bool} : ce_T_2 k ρ1 b = k (.bl b) ρ1 := rfl
def ce_T_1 (k : D → DE → Option α) : D → DE → Option α := fun x ρ1 => bo (truD x) (ce_T_2 k ρ1)
theorem ce_T_1_e {k : D → DE → Option α} {x : D} {ρ1 : DE} : ce_T_1 k x ρ1 = bo (truD x) (ce_T_2 k ρ1) := rfl
theorem ce_T' {m : M} {ρ : DE} {k : D → DE → Option α} : ce (mTr m) ρ k = ce m ρ (ce_T_1 k) := ce_T
def ce_isT_2 (k : D → DE → Option α) (ρ1 : DE) : Bool → Option α := fun b => k (.bl b) ρ1
theorem ce_isT_2_e {k : D → DE → Option α} {ρ1 : DE} {b : Bool} : ce_isT_2 k ρ1 b = k (.bl b) ρ1 := rfl
def ce_isT_1 (c : String) (k : D → DE → Option α) : D → DE → Option α := fun x ρ1 => bo (isT c x) (ce_isT_2 k ρ1)
theorem ce_isT_1_e {c : String} {k : D → DE → Option α} {x : D} {ρ1 : DE} : ce_isT_1 c k x ρ1 = bo (isT c x) (ce_isT_2 k ρ1) := rfl
theorem ce_isT' {c : String} {m : M} {ρ : DE} {k : D → DE → Option α} : ce (mIsT c m) ρ k = ce m ρ (ce_isT_1 c k) := ce_isT
def ce_not_1 (k : D → DE → Option α) : DE → Option α := fun ρ1 => k (.bl false) ρ1
theorem ce_not_1_e {k : D → DE → Option α} {ρ1 : DE} : ce_not_1 k ρ1 = k (.bl false) ρ1 := rfl
def ce_not_2 (k : D → DE → Option α) : DE → Option α := fun ρ1 => k (.bl true) ρ1
theorem ce_not_2_e {k : D → DE → Option α} {ρ1 : DE} : ce_not_2 k ρ1 = k (.bl true) ρ1 := rfl
theorem ce_not' {m : M} {ρ : DE} {k : D → DE → Option α} : ce (mNot m) ρ k = ct m ρ ((ce_not_1 k)) (ce_not_2 k) := ce_not
def ce_neg_2 (k : D → DE → Option α) (ρ1 : DE) : Int → Option α := fun i => k (.int (-i)) ρ1
theorem ce_neg_2_e {k : D → DE → Option α} {ρ1 : DE} {i : Int} : ce_neg_2 k ρ1 i = k (.int (-i)) ρ1 := rfl
def ce_neg_1 (k : D → DE → Option α) : D → DE → Option α := fun x ρ1 => onI x (ce_neg_2 k ρ1)
theorem ce_neg_1_e {k : D → DE → Option α} {x : D} {ρ1 : DE} : ce_neg_1 k x ρ1 = onI x (ce_neg_2 k ρ1) := rfl
theorem ce_neg' {m : M} {ρ : DE} {k : D → DE → Option α} : ce (mNeg m) ρ k = ce m ρ (ce_neg_1 k) := ce_neg
def ce_and_1 (mb : M) (k : D → DE → Option α) : DE → Option α := fun ρ1 => ce mb ρ1 k
theorem ce_and_1_e {mb : M} {k : D → DE → Option α} {ρ1 : DE} : ce_and_1 mb k ρ1 = ce mb ρ1 k := rfl
def ce_and_2 (k : D → DE → Option α) : DE → Option α := fun ρ1 => k (.bl false) ρ1
theorem ce_and_2_e {k : D → DE → Option α} {ρ1 : DE} : ce_and_2 k ρ1 = k (.bl false) ρ1 := rfl
theorem ce_and' {ma : M} {mb : M} {ρ : DE} {k : D → DE → Option α} : ce (mAnd ma mb) ρ k = ct ma ρ ((ce_and_1 mb k)) (ce_and_2 k) := ce_and
def ce_or_1 (k : D → DE → Option α) : DE → Option α := fun ρ1 => k (.bl true) ρ1
theorem ce_or_1_e {k : D → DE → Option α} {ρ1 : DE} : ce_or_1 k ρ1 = k (.bl true) ρ1 := rfl
def ce_or_2 (mb : M) (k : D → DE → Option α) : DE → Option α := fun ρ1 => ce mb ρ1 k
theorem ce_or_2_e {mb : M} {k : D → DE → Option α} {ρ1 : DE} : ce_or_2 mb k ρ1 = ce mb ρ1 k := rfl
theorem ce_or' {ma : M} {mb : M} {ρ : DE} {k : D → DE → Option α} : ce (mOr ma mb) ρ k = ct ma ρ ((ce_or_1 k)) (ce_or_2 mb k) := ce_or
def ce_ch_5 (k : D → DE → Option α) (ρ3 : DE) : D → Option α := fun v => k v ρ3
theorem ce_ch_5_e {k : D → DE → Option α} {ρ3 : DE} {v : D} : ce_ch_5 k ρ3 v = k v ρ3 := rfl
def ce_ch_4 (f' : D → D → Option D) (k : D → DE → Option α) (y : D) : D → DE → Option α := fun w ρ3 => bo (f' y w) (ce_ch_5 k ρ3)
theorem ce_ch_4_e {f' : D → D → Option D} {k : D → DE → Option α} {y : D} {w : D} {ρ3 : DE} : ce_ch_4 f' k y w ρ3 = bo (f' y w) (ce_ch_5 k ρ3) := rfl
def ce_ch_3 (f' : D → D → Option D) (mc : M) (k : D → DE → Option α) (y : D) (ρ2 : DE) : D → Option α := fun z => tst z (ce mc ρ2 (ce_ch_4 f' k y)) (k (.bl false) ρ2)
theorem ce_ch_3_e {f' : D → D → Option D} {mc : M} {k : D → DE → Option α} {y : D} {ρ2 : DE} {z : D} : ce_ch_3 f' mc k y ρ2 z = tst z (ce mc ρ2 (ce_ch_4 f' k y)) (k (.bl false) ρ2) := rfl
def ce_ch_2 (f : D → D → Option D) (f' : D → D → Option D) (mc : M) (k : D → DE → Option α) (x : D) : D → DE → Option α := fun y ρ2 => bo (f x y) (ce_ch_3 f' mc k y ρ2)
theorem ce_ch_2_e {f : D → D → Option D} {f' : D → D → Option D} {mc : M} {k : D → DE → Option α} {x : D} {y : D} {ρ2 : DE} : ce_ch_2 f f' mc k x y ρ2 = bo (f x y) (ce_ch_3 f' mc k y ρ2) := rfl
def ce_ch_1 (f : D → D → Option D) (f' : D → D → Option D) (mb : M) (mc : M) (k : D → DE → Option α) : D → DE → Option α := fun x ρ1 => ce mb ρ1 (ce_ch_2 f f' mc k x)
theorem ce_ch_1_e {f : D → D → Option D} {f' : D → D → Option D} {mb : M} {mc : M} {k : D → DE → Option α} {x : D} {ρ1 : DE} : ce_ch_1 f f' mb mc k x ρ1 = ce mb ρ1 (ce_ch_2 f f' mc k x) := rfl
theorem ce_ch' {f : D → D → Option D} {f' : D → D → Option D} {ma : M} {mb : M} {mc : M} {ρ : DE} {k : D → DE → Option α} : ce (mCh f f' ma mb mc) ρ k = ce ma ρ (ce_ch_1 f f' mb mc k) := ce_ch
def ce_sl_4 (k : D → DE → Option α) (ρ1 : DE) : D → Option α := fun z => k z ρ1
theorem ce_sl_4_e {k : D → DE → Option α} {ρ1 : DE} {z : D} : ce_sl_4 k ρ1 z = k z ρ1 := rfl
def ce_sl_3 (g : D → Option Int → Option Int → Option D) (k : D → DE → Option α) (x : D) (ρ1 : DE) (l : Option Int) : Option Int → Option α := fun h => bo (g x l h) (ce_sl_4 k ρ1)
theorem ce_sl_3_e {g : D → Option Int → Option Int → Option D} {k : D → DE → Option α} {x : D} {ρ1 : DE} {l : Option Int} {h : Option Int} : ce_sl_3 g k x ρ1 l h = bo (g x l h) (ce_sl_4 k ρ1) := rfl
def ce_sl_2 (mhi : MO) (g : D → Option Int → Option Int → Option D) (k : D → DE → Option α) (x : D) (ρ1 : DE) : Option Int → Option α := fun l => co mhi ρ1 (ce_sl_3 g k x ρ1 l)
theorem ce_sl_2_e {mhi : MO} {g : D → Option Int → Option Int → Option D} {k : D → DE → Option α} {x : D} {ρ1 : DE} {l : Option Int} : ce_sl_2 mhi g k x ρ1 l = co mhi ρ1 (ce_sl_3 g k x ρ1 l) := rfl
def ce_sl_1 (mlo : MO) (mhi : MO) (g : D → Option Int → Option Int → Option D) (k : D → DE → Option α) : D → DE → Option α := fun x ρ1 => co mlo ρ1 (ce_sl_2 mhi g k x ρ1)
theorem ce_sl_1_e {mlo : MO} {mhi : MO} {g : D → Option Int → Option Int → Option D} {k : D → DE → Option α} {x : D} {ρ1 : DE} : ce_sl_1 mlo mhi g k x ρ1 = co mlo ρ1 (ce_sl_2 mhi g k x ρ1) := rfl
theorem ce_sl' {ma : M} {mlo : MO} {mhi : MO} {g : D → Option Int → Option Int → Option D} {ρ : DE} {k : D → DE → Option α} : ce (mSl ma mlo mhi g) ρ k = ce ma ρ (ce_sl_1 mlo mhi g k) := ce_sl
def co_s_2 (ko : Option Int → Option α) : Int → Option α := fun i => ko (some i)
theorem co_s_2_e {ko : Option Int → Option α} {i : Int} : co_s_2 ko i = ko (some i) := rfl
def co_s_1 (ko : Option Int → Option α) : D → DE → Option α := fun x _ => onI x (co_s_2 ko)
theorem co_s_1_e {ko : Option Int → Option α} {x : D} {u1 : DE} : co_s_1 ko x u1 = onI x (co_s_2 ko) := rfl
theorem co_s' {m : M} {ρ : DE} {ko : Option Int → Option α} : co (oSome m) ρ ko = ce m ρ (co_s_1 ko) := co_s
def ce_mk_2 (k : D → DE → Option α) (ρ1 : DE) : D → Option α := fun z => k z ρ1
theorem ce_mk_2_e {k : D → DE → Option α} {ρ1 : DE} {z : D} : ce_mk_2 k ρ1 z = k z ρ1 := rfl
def ce_mk_1 (kk : Mk) (k : D → DE → Option α) : List D → DE → Option α := fun xs ρ1 => match xs with | [x] => bo (dMk kk x) (ce_mk_2 k ρ1) | _ => none
theorem ce_mk_1_e {kk : Mk} {k : D → DE → Option α} {xs : List D} {ρ1 : DE} : ce_mk_1 kk k xs ρ1 = match xs with | [x] => bo (dMk kk x) (ce_mk_2 k ρ1) | _ => none := rfl
theorem ce_mk' {kk : Mk} {ml : ML} {ρ : DE} {k : D → DE → Option α} : ce (mMk kk ml) ρ k = cl ml ρ (ce_mk_1 kk k) := ce_mk
def ce_mut_6 (i : Nat) (k : D → DE → Option α) (ρ1 : DE) : D × List D → Option α := fun r => k r.1 (ρ1.set i (some (.lst r.2)))
theorem ce_mut_6_e {i : Nat} {k : D → DE → Option α} {ρ1 : DE} {r : D × List D} : ce_mut_6 i k ρ1 r = k r.1 (ρ1.set i (some (.lst r.2))) := rfl
def ce_mut_5 (i : Nat) (g : List D → List D → Option (D × List D)) (k : D → DE → Option α) (as : List D) (ρ1 : DE) : List D → Option α := fun ds => bo (g ds as) (ce_mut_6 i k ρ1)
theorem ce_mut_5_e {i : Nat} {g : List D → List D → Option (D × List D)} {k : D → DE → Option α} {as : List D} {ρ1 : DE} {ds : List D} : ce_mut_5 i g k as ρ1 ds = bo (g ds as) (ce_mut_6 i k ρ1) := rfl
def ce_mut_4 (i : Nat) (g : List D → List D → Option (D × List D)) (k : D → DE → Option α) (as : List D) (ρ1 : DE) : D → Option α := fun y => onL y (ce_mut_5 i g k as ρ1)
theorem ce_mut_4_e {i : Nat} {g : List D → List D → Option (D × List D)} {k : D → DE → Option α} {as : List D} {ρ1 : DE} {y : D} : ce_mut_4 i g k as ρ1 y = onL y (ce_mut_5 i g k as ρ1) := rfl
def ce_mut_3 (i : Nat) (g : List D → List D → Option (D × List D)) (k : D → DE → Option α) : List D → DE → Option α := fun as ρ1 => cv ρ1[i]? (ce_mut_4 i g k as ρ1)
theorem ce_mut_3_e {i : Nat} {g : List D → List D → Option (D × List D)} {k : D → DE → Option α} {as : List D} {ρ1 : DE} : ce_mut_3 i g k as ρ1 = cv ρ1[i]? (ce_mut_4 i g k as ρ1) := rfl
def ce_mut_2 (i : Nat) (g : List D → List D → Option (D × List D)) (ml : ML) (ρ : DE) (k : D → DE → Option α) : List D → Option α := fun _ => cl ml ρ (ce_mut_3 i g k)
theorem ce_mut_2_e {i : Nat} {g : List D → List D → Option (D × List D)} {ml : ML} {ρ : DE} {k : D → DE → Option α} {u0 : List D} : ce_mut_2 i g ml ρ k u0 = cl ml ρ (ce_mut_3 i g k) := rfl
def ce_mut_1 (i : Nat) (g : List D → List D → Option (D × List D)) (ml : ML) (ρ : DE) (k : D → DE → Option α) : D → Option α := fun x => onL x (ce_mut_2 i g ml ρ k)
theorem ce_mut_1_e {i : Nat} {g : List D → List D → Option (D × List D)} {ml : ML} {ρ : DE} {k : D → DE → Option α} {x : D} : ce_mut_1 i g ml ρ k x = onL x (ce_mut_2 i g ml ρ k) := rfl
theorem ce_mut' {i : Nat} {g : List D → List D → Option (D × List D)} {ml : ML} {ρ : DE} {k : D → DE → Option α} : ce (mMut i g ml) ρ k = cv ρ[i]? (ce_mut_1 i g ml ρ k) := ce_mut
def ce_get2_4 (k : D → DE → Option α) (ρ3 : DE) : D → Option α := fun w => k w ρ3
theorem ce_get2_4_e {k : D → DE → Option α} {ρ3 : DE} {w : D} : ce_get2_4 k ρ3 w = k w ρ3 := rfl
def ce_get2_3 (k : D → DE → Option α) (x : D) (y : D) : D → DE → Option α := fun z ρ3 => match x with | .dic q xs => bo (dGet2 q xs y z) (ce_get2_4 k ρ3) | _ => none
theorem ce_get2_3_e {k : D → DE → Option α} {x : D} {y : D} {z : D} {ρ3 : DE} : ce_get2_3 k x y z ρ3 = match x with | .dic q xs => bo (dGet2 q xs y z) (ce_get2_4 k ρ3) | _ => none := rfl
def ce_get2_2 (mb : M) (k : D → DE → Option α) (x : D) : D → DE → Option α := fun y ρ2 => ce mb ρ2 (ce_get2_3 k x y)
theorem ce_get2_2_e {mb : M} {k : D → DE → Option α} {x : D} {y : D} {ρ2 : DE} : ce_get2_2 mb k x y ρ2 = ce mb ρ2 (ce_get2_3 k x y) := rfl
def ce_get2_1 (ma : M) (mb : M) (k : D → DE → Option α) : D → DE → Option α := fun x ρ1 => ce ma ρ1 (ce_get2_2 mb k x)
theorem ce_get2_1_e {ma : M} {mb : M} {k : D → DE → Option α} {x : D} {ρ1 : DE} : ce_get2_1 ma mb k x ρ1 = ce ma ρ1 (ce_get2_2 mb k x) := rfl
theorem ce_get2' {md : M} {ma : M} {mb : M} {ρ : DE} {k : D → DE → Option α} : ce (mGet2 md ma mb) ρ k = ce md ρ (ce_get2_1 ma mb k) := ce_get2
def ce_disp_2 (ρ : DE) (k : D → DE → Option α) : List Key × List D → Option α := fun r => if r.1.Nodup ∧ r.2.length ≤ 15 then k (.dic (.K r.1) r.2) ρ else none
theorem ce_disp_2_e {ρ : DE} {k : D → DE → Option α} {r : List Key × List D} : ce_disp_2 ρ k r = if r.1.Nodup ∧ r.2.length ≤ 15 then k (.dic (.K r.1) r.2) ρ else none := rfl
def ce_disp_1 (ρ : DE) (k : D → DE → Option α) : List D → List D → Option α := fun ks xs => bo (dispK ks xs) (ce_disp_2 ρ k)
theorem ce_disp_1_e {ρ : DE} {k : D → DE → Option α} {ks : List D} {xs : List D} : ce_disp_1 ρ k ks xs = bo (dispK ks xs) (ce_disp_2 ρ k) := rfl
theorem ce_disp' {m : MDs} {ρ : DE} {k : D → DE → Option α} : ce (mDisp m) ρ k = cd m ρ (ce_disp_1 ρ k) := ce_disp
def cd_c_3 (k : List D → List D → Option α) (x : D) (y : D) : List D → List D → Option α := fun ks vs => k (x :: ks) (y :: vs)
theorem cd_c_3_e {k : List D → List D → Option α} {x : D} {y : D} {ks : List D} {vs : List D} : cd_c_3 k x y ks vs = k (x :: ks) (y :: vs) := rfl
def cd_c_2 (m : MDs) (ρ : DE) (k : List D → List D → Option α) (x : D) : D → DE → Option α := fun y _ => cd m ρ (cd_c_3 k x y)
theorem cd_c_2_e {m : MDs} {ρ : DE} {k : List D → List D → Option α} {x : D} {y : D} {u1 : DE} : cd_c_2 m ρ k x y u1 = cd m ρ (cd_c_3 k x y) := rfl
def cd_c_1 (mb : M) (m : MDs) (ρ : DE) (k : List D → List D → Option α) : D → DE → Option α := fun x _ => ce mb ρ (cd_c_2 m ρ k x)
theorem cd_c_1_e {mb : M} {m : MDs} {ρ : DE} {k : List D → List D → Option α} {x : D} {u1 : DE} : cd_c_1 mb m ρ k x u1 = ce mb ρ (cd_c_2 m ρ k x) := rfl
theorem cd_c' {ma : M} {mb : M} {m : MDs} {ρ : DE} {k : List D → List D → Option α} : cd (dsCons ma mb m) ρ k = ce ma ρ (cd_c_1 mb m ρ k) := cd_c
def ce_F_2 (k : D → DE → Option α) (ρ1 : DE) : List D → Option α := fun ds => if ds.all isA = true then k (.lst ds) ρ1 else none
theorem ce_F_2_e {k : D → DE → Option α} {ρ1 : DE} {ds : List D} : ce_F_2 k ρ1 ds = if ds.all isA = true then k (.lst ds) ρ1 else none := rfl
def ce_F_1 (k : D → DE → Option α) : D → DE → Option α := fun x ρ1 => onL x (ce_F_2 k ρ1)
theorem ce_F_1_e {k : D → DE → Option α} {x : D} {ρ1 : DE} : ce_F_1 k x ρ1 = onL x (ce_F_2 k ρ1) := rfl
theorem ce_F' {m : M} {ρ : DE} {k : D → DE → Option α} : ce (mF m) ρ k = ce m ρ (ce_F_1 k) := ce_F
def ce_Fl_2 (k : D → DE → Option α) (ρ1 : DE) : List D → Option α := fun ds => if noLL ds = true then k (.lst ds) ρ1 else none
theorem ce_Fl_2_e {k : D → DE → Option α} {ρ1 : DE} {ds : List D} : ce_Fl_2 k ρ1 ds = if noLL ds = true then k (.lst ds) ρ1 else none := rfl
def ce_Fl_1 (k : D → DE → Option α) : D → DE → Option α := fun x ρ1 => onL x (ce_Fl_2 k ρ1)
theorem ce_Fl_1_e {k : D → DE → Option α} {x : D} {ρ1 : DE} : ce_Fl_1 k x ρ1 = onL x (ce_Fl_2 k ρ1) := rfl
theorem ce_Fl' {m : M} {ρ : DE} {k : D → DE → Option α} : ce (mFl m) ρ k = ce m ρ (ce_Fl_1 k) := ce_Fl
def ce_lrg_2 (k : D → DE → Option α) (ρ1 : DE) : Int → Option α := fun n => if lim62 n = true ∧ n.toNat ≤ 16777216 then k (.lst (rngD 0 n.toNat)) ρ1 else none
theorem ce_lrg_2_e {k : D → DE → Option α} {ρ1 : DE} {n : Int} : ce_lrg_2 k ρ1 n = if lim62 n = true ∧ n.toNat ≤ 16777216 then k (.lst (rngD 0 n.toNat)) ρ1 else none := rfl
def ce_lrg_1 (k : D → DE → Option α) : D → DE → Option α := fun x ρ1 => onI x (ce_lrg_2 k ρ1)
theorem ce_lrg_1_e {k : D → DE → Option α} {x : D} {ρ1 : DE} : ce_lrg_1 k x ρ1 = onI x (ce_lrg_2 k ρ1) := rfl
theorem ce_lrg' {m : M} {ρ : DE} {k : D → DE → Option α} : ce (mLRg m) ρ k = ce m ρ (ce_lrg_1 k) := ce_lrg
def ce_srtD_1 (k : D → DE → Option α) : D → DE → Option α := fun x ρ1 => match x with | .dic (.K ks) _ => if alikeK ks = true ∧ ks.length ≤ 16777216 then k (.lst ((srtK ks).map kD)) ρ1 else none | _ => none
theorem ce_srtD_1_e {k : D → DE → Option α} {x : D} {ρ1 : DE} : ce_srtD_1 k x ρ1 = match x with | .dic (.K ks) _ => if alikeK ks = true ∧ ks.length ≤ 16777216 then k (.lst ((srtK ks).map kD)) ρ1 else none | _ => none := rfl
theorem ce_srtD' {m : M} {ρ : DE} {k : D → DE → Option α} : ce (mSrtD m) ρ k = ce m ρ (ce_srtD_1 k) := ce_srtD
def ce_ch3_7 (k : D → DE → Option α) (ρ4 : DE) : D → Option α := fun z3 => k z3 ρ4
theorem ce_ch3_7_e {k : D → DE → Option α} {ρ4 : DE} {z3 : D} : ce_ch3_7 k ρ4 z3 = k z3 ρ4 := rfl
def ce_ch3_6 (f'' : D → D → Option D) (k : D → DE → Option α) (w : D) : D → DE → Option α := fun v ρ4 => bo (f'' w v) (ce_ch3_7 k ρ4)
theorem ce_ch3_6_e {f'' : D → D → Option D} {k : D → DE → Option α} {w : D} {v : D} {ρ4 : DE} : ce_ch3_6 f'' k w v ρ4 = bo (f'' w v) (ce_ch3_7 k ρ4) := rfl
def ce_ch3_5 (f'' : D → D → Option D) (md : M) (k : D → DE → Option α) (w : D) (ρ3 : DE) : D → Option α := fun z2 => tst z2 (ce md ρ3 (ce_ch3_6 f'' k w)) (k (.bl false) ρ3)
theorem ce_ch3_5_e {f'' : D → D → Option D} {md : M} {k : D → DE → Option α} {w : D} {ρ3 : DE} {z2 : D} : ce_ch3_5 f'' md k w ρ3 z2 = tst z2 (ce md ρ3 (ce_ch3_6 f'' k w)) (k (.bl false) ρ3) := rfl
def ce_ch3_4 (f' : D → D → Option D) (f'' : D → D → Option D) (md : M) (k : D → DE → Option α) (y : D) : D → DE → Option α := fun w ρ3 => bo (f' y w) (ce_ch3_5 f'' md k w ρ3)
theorem ce_ch3_4_e {f' : D → D → Option D} {f'' : D → D → Option D} {md : M} {k : D → DE → Option α} {y : D} {w : D} {ρ3 : DE} : ce_ch3_4 f' f'' md k y w ρ3 = bo (f' y w) (ce_ch3_5 f'' md k w ρ3) := rfl
def ce_ch3_3 (f' : D → D → Option D) (f'' : D → D → Option D) (mc : M) (md : M) (k : D → DE → Option α) (y : D) (ρ2 : DE) : D → Option α := fun z => tst z (ce mc ρ2 (ce_ch3_4 f' f'' md k y)) (k (.bl false) ρ2)
theorem ce_ch3_3_e {f' : D → D → Option D} {f'' : D → D → Option D} {mc : M} {md : M} {k : D → DE → Option α} {y : D} {ρ2 : DE} {z : D} : ce_ch3_3 f' f'' mc md k y ρ2 z = tst z (ce mc ρ2 (ce_ch3_4 f' f'' md k y)) (k (.bl false) ρ2) := rfl
def ce_ch3_2 (f : D → D → Option D) (f' : D → D → Option D) (f'' : D → D → Option D) (mc : M) (md : M) (k : D → DE → Option α) (x : D) : D → DE → Option α := fun y ρ2 => bo (f x y) (ce_ch3_3 f' f'' mc md k y ρ2)
theorem ce_ch3_2_e {f : D → D → Option D} {f' : D → D → Option D} {f'' : D → D → Option D} {mc : M} {md : M} {k : D → DE → Option α} {x : D} {y : D} {ρ2 : DE} : ce_ch3_2 f f' f'' mc md k x y ρ2 = bo (f x y) (ce_ch3_3 f' f'' mc md k y ρ2) := rfl
def ce_ch3_1 (f : D → D → Option D) (f' : D → D → Option D) (f'' : D → D → Option D) (mb : M) (mc : M) (md : M) (k : D → DE → Option α) : D → DE → Option α := fun x ρ1 => ce mb ρ1 (ce_ch3_2 f f' f'' mc md k x)
theorem ce_ch3_1_e {f : D → D → Option D} {f' : D → D → Option D} {f'' : D → D → Option D} {mb : M} {mc : M} {md : M} {k : D → DE → Option α} {x : D} {ρ1 : DE} : ce_ch3_1 f f' f'' mb mc md k x ρ1 = ce mb ρ1 (ce_ch3_2 f f' f'' mc md k x) := rfl
theorem ce_ch3' {f : D → D → Option D} {f' : D → D → Option D} {f'' : D → D → Option D} {ma : M} {mb : M} {mc : M} {md : M} {ρ : DE} {k : D → DE → Option α} : ce (mCh3 f f' f'' ma mb mc md) ρ k = ce ma ρ (ce_ch3_1 f f' f'' mb mc md k) := ce_ch3
def cl_seq_2 (kl : List D → DE → Option α) (ρ1 : DE) : List D → Option α := fun ds => kl ds ρ1
theorem cl_seq_2_e {kl : List D → DE → Option α} {ρ1 : DE} {ds : List D} : cl_seq_2 kl ρ1 ds = kl ds ρ1 := rfl
def cl_seq_1 (kl : List D → DE → Option α) : D → DE → Option α := fun x ρ1 => bo (seqOf x) (cl_seq_2 kl ρ1)
theorem cl_seq_1_e {kl : List D → DE → Option α} {x : D} {ρ1 : DE} : cl_seq_1 kl x ρ1 = bo (seqOf x) (cl_seq_2 kl ρ1) := rfl
theorem cl_seq' {m : M} {ρ : DE} {kl : List D → DE → Option α} : cl (mSeq m) ρ kl = ce m ρ (cl_seq_1 kl) := cl_seq
def cl_rng1_1 (kl : List D → DE → Option α) : List D → DE → Option α := fun xs ρ1 => match xs with | [.int j] => if lim62 j = true then kl (rngD 0 j.toNat) ρ1 else none | _ => none
theorem cl_rng1_1_e {kl : List D → DE → Option α} {xs : List D} {ρ1 : DE} : cl_rng1_1 kl xs ρ1 = match xs with | [.int j] => if lim62 j = true then kl (rngD 0 j.toNat) ρ1 else none | _ => none := rfl
theorem cl_rng1' {ml : ML} {ρ : DE} {kl : List D → DE → Option α} : cl (mRng1 ml) ρ kl = cl ml ρ (cl_rng1_1 kl) := cl_rng1
def cl_rng2_1 (kl : List D → DE → Option α) : List D → DE → Option α := fun xs ρ1 => match xs with | [.int i, .int j] => if lim62 i = true ∧ lim62 j = true then kl (rngD i (j - i).toNat) ρ1 else none | _ => none
theorem cl_rng2_1_e {kl : List D → DE → Option α} {xs : List D} {ρ1 : DE} : cl_rng2_1 kl xs ρ1 = match xs with | [.int i, .int j] => if lim62 i = true ∧ lim62 j = true then kl (rngD i (j - i).toNat) ρ1 else none | _ => none := rfl
theorem cl_rng2' {ml : ML} {ρ : DE} {kl : List D → DE → Option α} : cl (mRng2 ml) ρ kl = cl ml ρ (cl_rng2_1 kl) := cl_rng2
def cl_rng3_1 (kl : List D → DE → Option α) : List D → DE → Option α := fun xs ρ1 => match xs with | [.int i, .int j, .int c] => if okC i j c = true then kl (rngC i c (PySem.Builtin.Range.rangeSize i j c).toNat) ρ1 else none | _ => none
theorem cl_rng3_1_e {kl : List D → DE → Option α} {xs : List D} {ρ1 : DE} : cl_rng3_1 kl xs ρ1 = match xs with | [.int i, .int j, .int c] => if okC i j c = true then kl (rngC i c (PySem.Builtin.Range.rangeSize i j c).toNat) ρ1 else none | _ => none := rfl
theorem cl_rng3' {ml : ML} {ρ : DE} {kl : List D → DE → Option α} : cl (mRng3 ml) ρ kl = cl ml ρ (cl_rng3_1 kl) := cl_rng3
def cl_enum_1 (kl : List D → DE → Option α) : List D → DE → Option α := fun xs ρ1 => match xs with | [.lst ds] => kl (enumD ds) ρ1 | _ => none
theorem cl_enum_1_e {kl : List D → DE → Option α} {xs : List D} {ρ1 : DE} : cl_enum_1 kl xs ρ1 = match xs with | [.lst ds] => kl (enumD ds) ρ1 | _ => none := rfl
theorem cl_enum' {ml : ML} {ρ : DE} {kl : List D → DE → Option α} : cl (mEnum ml) ρ kl = cl ml ρ (cl_enum_1 kl) := cl_enum
def cl_zip_1 (kl : List D → DE → Option α) : List D → DE → Option α := fun xs ρ1 => match xs with | [.lst ds, .lst es] => kl (zipD ds es) ρ1 | [.tup ds, .tup es] => kl (zipD ds es) ρ1 | _ => none
theorem cl_zip_1_e {kl : List D → DE → Option α} {xs : List D} {ρ1 : DE} : cl_zip_1 kl xs ρ1 = match xs with | [.lst ds, .lst es] => kl (zipD ds es) ρ1 | [.tup ds, .tup es] => kl (zipD ds es) ρ1 | _ => none := rfl
theorem cl_zip' {ml : ML} {ρ : DE} {kl : List D → DE → Option α} : cl (mZip ml) ρ kl = cl ml ρ (cl_zip_1 kl) := cl_zip
def cl_keys_1 (ρ : DE) (kl : List D → DE → Option α) : D → Option α := fun x => match x with | .dic q _ => kl q.keys ρ | _ => none
theorem cl_keys_1_e {ρ : DE} {kl : List D → DE → Option α} {x : D} : cl_keys_1 ρ kl x = match x with | .dic q _ => kl q.keys ρ | _ => none := rfl
theorem cl_keys' {i : Nat} {ρ : DE} {kl : List D → DE → Option α} : cl (mKeys i) ρ kl = cv ρ[i]? (cl_keys_1 ρ kl) := cl_keys
theorem ct_not' {m : M} {ρ : DE} {a : DE → Option α} {b : DE → Option α} : ct (mNot m) ρ a b = ct m ρ b a := ct_not
def ct_and_1 (mb : M) (a : DE → Option α) (b : DE → Option α) : DE → Option α := fun ρ1 => ct mb ρ1 a b
theorem ct_and_1_e {mb : M} {a : DE → Option α} {b : DE → Option α} {ρ1 : DE} : ct_and_1 mb a b ρ1 = ct mb ρ1 a b := rfl
theorem ct_and' {ma : M} {mb : M} {ρ : DE} {a : DE → Option α} {b : DE → Option α} : ct (mAnd ma mb) ρ a b = ct ma ρ ((ct_and_1 mb a b)) b := ct_and
def ct_or_1 (mb : M) (a : DE → Option α) (b : DE → Option α) : DE → Option α := fun ρ1 => ct mb ρ1 a b
theorem ct_or_1_e {mb : M} {a : DE → Option α} {b : DE → Option α} {ρ1 : DE} : ct_or_1 mb a b ρ1 = ct mb ρ1 a b := rfl
theorem ct_or' {ma : M} {mb : M} {ρ : DE} {a : DE → Option α} {b : DE → Option α} : ct (mOr ma mb) ρ a b = ct ma ρ a ((ct_or_1 mb a b)) := ct_or
def ct_T_2 (a : DE → Option α) (b : DE → Option α) (ρ1 : DE) : Bool → Option α := fun q => tst (.bl q) (a ρ1) (b ρ1)
theorem ct_T_2_e {a : DE → Option α} {b : DE → Option α} {ρ1 : DE} {q : Bool} : ct_T_2 a b ρ1 q = tst (.bl q) (a ρ1) (b ρ1) := rfl
def ct_T_1 (a : DE → Option α) (b : DE → Option α) : D → DE → Option α := fun x ρ1 => bo (truD x) (ct_T_2 a b ρ1)
theorem ct_T_1_e {a : DE → Option α} {b : DE → Option α} {x : D} {ρ1 : DE} : ct_T_1 a b x ρ1 = bo (truD x) (ct_T_2 a b ρ1) := rfl
theorem ct_T' {m : M} {ρ : DE} {a : DE → Option α} {b : DE → Option α} : ct (mTr m) ρ a b = ce m ρ (ct_T_1 a b) := ct_T
def ct_2_1 (a : DE → Option α) (b : DE → Option α) : D → DE → Option α := fun x ρ1 => tst x (a ρ1) (b ρ1)
theorem ct_2_1_e {a : DE → Option α} {b : DE → Option α} {x : D} {ρ1 : DE} : ct_2_1 a b x ρ1 = tst x (a ρ1) (b ρ1) := rfl
theorem ct_2' {f : D → D → Option D} {ma : M} {mb : M} {ρ : DE} {a : DE → Option α} {b : DE → Option α} : ct (m2 f ma mb) ρ a b = ce (m2 f ma mb) ρ (ct_2_1 a b) := ct_2
def ct_ch_1 (a : DE → Option α) (b : DE → Option α) : D → DE → Option α := fun x ρ1 => tst x (a ρ1) (b ρ1)
theorem ct_ch_1_e {a : DE → Option α} {b : DE → Option α} {x : D} {ρ1 : DE} : ct_ch_1 a b x ρ1 = tst x (a ρ1) (b ρ1) := rfl
theorem ct_ch' {f : D → D → Option D} {f' : D → D → Option D} {ma : M} {mb : M} {mc : M} {ρ : DE} {a : DE → Option α} {b : DE → Option α} : ct (mCh f f' ma mb mc) ρ a b = ce (mCh f f' ma mb mc) ρ (ct_ch_1 a b) := ct_ch
def ct_v_1 (a : DE → Option α) (b : DE → Option α) : D → DE → Option α := fun x ρ1 => tst x (a ρ1) (b ρ1)
theorem ct_v_1_e {a : DE → Option α} {b : DE → Option α} {x : D} {ρ1 : DE} : ct_v_1 a b x ρ1 = tst x (a ρ1) (b ρ1) := rfl
theorem ct_v' {i : Nat} {ρ : DE} {a : DE → Option α} {b : DE → Option α} : ct (mV i) ρ a b = ce (mV i) ρ (ct_v_1 a b) := ct_v
def ct_isT_1 (a : DE → Option α) (b : DE → Option α) : D → DE → Option α := fun x ρ1 => tst x (a ρ1) (b ρ1)
theorem ct_isT_1_e {a : DE → Option α} {b : DE → Option α} {x : D} {ρ1 : DE} : ct_isT_1 a b x ρ1 = tst x (a ρ1) (b ρ1) := rfl
theorem ct_isT' {c : String} {m : M} {ρ : DE} {a : DE → Option α} {b : DE → Option α} : ct (mIsT c m) ρ a b = ce (mIsT c m) ρ (ct_isT_1 a b) := ct_isT
def ct_A_1 (a : DE → Option α) (b : DE → Option α) : D → DE → Option α := fun x ρ1 => tst x (a ρ1) (b ρ1)
theorem ct_A_1_e {a : DE → Option α} {b : DE → Option α} {x : D} {ρ1 : DE} : ct_A_1 a b x ρ1 = tst x (a ρ1) (b ρ1) := rfl
theorem ct_A' {m : M} {ρ : DE} {a : DE → Option α} {b : DE → Option α} : ct (mA m) ρ a b = ce (mA m) ρ (ct_A_1 a b) := ct_A
def ct_cl_1 (a : DE → Option α) (b : DE → Option α) : D → DE → Option α := fun x ρ1 => tst x (a ρ1) (b ρ1)
theorem ct_cl_1_e {a : DE → Option α} {b : DE → Option α} {x : D} {ρ1 : DE} : ct_cl_1 a b x ρ1 = tst x (a ρ1) (b ρ1) := rfl
theorem ct_cl' {ml : ML} {ρ : DE} {a : DE → Option α} {b : DE → Option α} {g : FM} : ct (mCall g ml) ρ a b = ce (mCall g ml) ρ (ct_cl_1 a b) := ct_cl
def ct_clO_1 (a : DE → Option α) (b : DE → Option α) : D → DE → Option α := fun x ρ1 => tst x (a ρ1) (b ρ1)
theorem ct_clO_1_e {a : DE → Option α} {b : DE → Option α} {x : D} {ρ1 : DE} : ct_clO_1 a b x ρ1 = tst x (a ρ1) (b ρ1) := rfl
theorem ct_clO' {ml : ML} {ρ : DE} {a : DE → Option α} {b : DE → Option α} {g : FM} {io : Option (Nat × Nat)} : ct (mCallO g io ml) ρ a b = ce (mCallO g io ml) ρ (ct_clO_1 a b) := ct_clO
def ct_B_1 (a : DE → Option α) (b : DE → Option α) : D → DE → Option α := fun x ρ1 => tst x (a ρ1) (b ρ1)
theorem ct_B_1_e {a : DE → Option α} {b : DE → Option α} {x : D} {ρ1 : DE} : ct_B_1 a b x ρ1 = tst x (a ρ1) (b ρ1) := rfl
theorem ct_B' {ml : ML} {ρ : DE} {a : DE → Option α} {b : DE → Option α} {g : List D → Option D} : ct (mB g ml) ρ a b = ce (mB g ml) ρ (ct_B_1 a b) := ct_B
def cs_seq_1 (s2 : SM) (kn : DE → Option α) (kr : D → DE → Option α) : DE → Option α := fun ρ1 => cs s2 ρ1 kn kr
theorem cs_seq_1_e {s2 : SM} {kn : DE → Option α} {kr : D → DE → Option α} {ρ1 : DE} : cs_seq_1 s2 kn kr ρ1 = cs s2 ρ1 kn kr := rfl
theorem cs_seq' {s1 : SM} {s2 : SM} {ρ : DE} {kn : DE → Option α} {kr : D → DE → Option α} : cs (sSeq s1 s2) ρ kn kr = cs s1 ρ ((cs_seq_1 s2 kn kr)) kr := cs_seq
def cs_if_1 (s1 : SM) (kn : DE → Option α) (kr : D → DE → Option α) : DE → Option α := fun ρ1 => cs s1 ρ1 kn kr
theorem cs_if_1_e {s1 : SM} {kn : DE → Option α} {kr : D → DE → Option α} {ρ1 : DE} : cs_if_1 s1 kn kr ρ1 = cs s1 ρ1 kn kr := rfl
def cs_if_2 (s2 : SM) (kn : DE → Option α) (kr : D → DE → Option α) : DE → Option α := fun ρ1 => cs s2 ρ1 kn kr
theorem cs_if_2_e {s2 : SM} {kn : DE → Option α} {kr : D → DE → Option α} {ρ1 : DE} : cs_if_2 s2 kn kr ρ1 = cs s2 ρ1 kn kr := rfl
theorem cs_if' {m : M} {s1 : SM} {s2 : SM} {ρ : DE} {kn : DE → Option α} {kr : D → DE → Option α} : cs (sIf m s1 s2) ρ kn kr = ct m ρ ((cs_if_1 s1 kn kr)) (cs_if_2 s2 kn kr) := cs_if
def cs_asg_1 (i : Nat) (kn : DE → Option α) : D → DE → Option α := fun x ρ1 => kn (ρ1.set i (some x))
theorem cs_asg_1_e {i : Nat} {kn : DE → Option α} {x : D} {ρ1 : DE} : cs_asg_1 i kn x ρ1 = kn (ρ1.set i (some x)) := rfl
theorem cs_asg' {i : Nat} {m : M} {ρ : DE} {kn : DE → Option α} {kr : D → DE → Option α} : cs (sAsg i m) ρ kn kr = ce m ρ (cs_asg_1 i kn) := cs_asg
def cs_exp_1 (kn : DE → Option α) : D → DE → Option α := fun x ρ1 => kn ρ1
theorem cs_exp_1_e {kn : DE → Option α} {x : D} {ρ1 : DE} : cs_exp_1 kn x ρ1 = kn ρ1 := rfl
theorem cs_exp' {m : M} {ρ : DE} {kn : DE → Option α} {kr : D → DE → Option α} : cs (sExp m) ρ kn kr = ce m ρ (cs_exp_1 kn) := cs_exp
def cs_tgt_1 (mg : MG) (kn : DE → Option α) : D → DE → Option α := fun x ρ1 => bo (mg x ρ1) kn
theorem cs_tgt_1_e {mg : MG} {kn : DE → Option α} {x : D} {ρ1 : DE} : cs_tgt_1 mg kn x ρ1 = bo (mg x ρ1) kn := rfl
theorem cs_tgt' {m : M} {mg : MG} {ρ : DE} {kn : DE → Option α} {kr : D → DE → Option α} : cs (sTgt m mg) ρ kn kr = ce m ρ (cs_tgt_1 mg kn) := cs_tgt
def cs_par_1 (i : Nat) (j : Nat) (kn : DE → Option α) : List D → DE → Option α := fun xs ρ1 => match xs with | [d1, d2] => kn ((ρ1.set i (some d1)).set j (some d2)) | _ => none
theorem cs_par_1_e {i : Nat} {j : Nat} {kn : DE → Option α} {xs : List D} {ρ1 : DE} : cs_par_1 i j kn xs ρ1 = match xs with | [d1, d2] => kn ((ρ1.set i (some d1)).set j (some d2)) | _ => none := rfl
theorem cs_par' {i : Nat} {j : Nat} {ml : ML} {ρ : DE} {kn : DE → Option α} {kr : D → DE → Option α} : cs (sPar i j ml) ρ kn kr = cl ml ρ (cs_par_1 i j kn) := cs_par
def cs_app_5 (i : Nat) (kn : DE → Option α) (y : D) (ρ1 : DE) : List D → Option α := fun ds => if ds.length < 16777216 then kn (ρ1.set i (some (.lst (ds ++ [y])))) else none
theorem cs_app_5_e {i : Nat} {kn : DE → Option α} {y : D} {ρ1 : DE} {ds : List D} : cs_app_5 i kn y ρ1 ds = if ds.length < 16777216 then kn (ρ1.set i (some (.lst (ds ++ [y])))) else none := rfl
def cs_app_4 (i : Nat) (kn : DE → Option α) (y : D) (ρ1 : DE) : D → Option α := fun z => onL z (cs_app_5 i kn y ρ1)
theorem cs_app_4_e {i : Nat} {kn : DE → Option α} {y : D} {ρ1 : DE} {z : D} : cs_app_4 i kn y ρ1 z = onL z (cs_app_5 i kn y ρ1) := rfl
def cs_app_3 (i : Nat) (kn : DE → Option α) : D → DE → Option α := fun y ρ1 => cv ρ1[i]? (cs_app_4 i kn y ρ1)
theorem cs_app_3_e {i : Nat} {kn : DE → Option α} {y : D} {ρ1 : DE} : cs_app_3 i kn y ρ1 = cv ρ1[i]? (cs_app_4 i kn y ρ1) := rfl
def cs_app_2 (i : Nat) (m : M) (ρ : DE) (kn : DE → Option α) : List D → Option α := fun _ => ce m ρ (cs_app_3 i kn)
theorem cs_app_2_e {i : Nat} {m : M} {ρ : DE} {kn : DE → Option α} {u0 : List D} : cs_app_2 i m ρ kn u0 = ce m ρ (cs_app_3 i kn) := rfl
def cs_app_1 (i : Nat) (m : M) (ρ : DE) (kn : DE → Option α) : D → Option α := fun x => onL x (cs_app_2 i m ρ kn)
theorem cs_app_1_e {i : Nat} {m : M} {ρ : DE} {kn : DE → Option α} {x : D} : cs_app_1 i m ρ kn x = onL x (cs_app_2 i m ρ kn) := rfl
theorem cs_app' {i : Nat} {m : M} {ρ : DE} {kn : DE → Option α} {kr : D → DE → Option α} : cs (sApp i m) ρ kn kr = cv ρ[i]? (cs_app_1 i m ρ kn) := cs_app
def cs_set_6 (i : Nat) (kn : DE → Option α) (x : D) (ds : List D) (ρ2 : DE) : Nat → Option α := fun j => kn (ρ2.set i (some (.lst (ds.set j x))))
theorem cs_set_6_e {i : Nat} {kn : DE → Option α} {x : D} {ds : List D} {ρ2 : DE} {j : Nat} : cs_set_6 i kn x ds ρ2 j = kn (ρ2.set i (some (.lst (ds.set j x)))) := rfl
def cs_set_5 (i : Nat) (kn : DE → Option α) (x : D) (ds : List D) (ρ2 : DE) : Int → Option α := fun p => bo (ixN ds.length p) (cs_set_6 i kn x ds ρ2)
theorem cs_set_5_e {i : Nat} {kn : DE → Option α} {x : D} {ds : List D} {ρ2 : DE} {p : Int} : cs_set_5 i kn x ds ρ2 p = bo (ixN ds.length p) (cs_set_6 i kn x ds ρ2) := rfl
def cs_set_4 (i : Nat) (kn : DE → Option α) (x : D) (ds : List D) : D → DE → Option α := fun y ρ2 => onI y (cs_set_5 i kn x ds ρ2)
theorem cs_set_4_e {i : Nat} {kn : DE → Option α} {x : D} {ds : List D} {y : D} {ρ2 : DE} : cs_set_4 i kn x ds y ρ2 = onI y (cs_set_5 i kn x ds ρ2) := rfl
def cs_set_3 (i : Nat) (mb : M) (kn : DE → Option α) (x : D) (ρ1 : DE) : List D → Option α := fun ds => ce mb ρ1 (cs_set_4 i kn x ds)
theorem cs_set_3_e {i : Nat} {mb : M} {kn : DE → Option α} {x : D} {ρ1 : DE} {ds : List D} : cs_set_3 i mb kn x ρ1 ds = ce mb ρ1 (cs_set_4 i kn x ds) := rfl
def cs_set_2 (i : Nat) (mb : M) (kn : DE → Option α) (x : D) (ρ1 : DE) : D → Option α := fun z => onL z (cs_set_3 i mb kn x ρ1)
theorem cs_set_2_e {i : Nat} {mb : M} {kn : DE → Option α} {x : D} {ρ1 : DE} {z : D} : cs_set_2 i mb kn x ρ1 z = onL z (cs_set_3 i mb kn x ρ1) := rfl
def cs_set_1 (i : Nat) (mb : M) (kn : DE → Option α) : D → DE → Option α := fun x ρ1 => cv ρ1[i]? (cs_set_2 i mb kn x ρ1)
theorem cs_set_1_e {i : Nat} {mb : M} {kn : DE → Option α} {x : D} {ρ1 : DE} : cs_set_1 i mb kn x ρ1 = cv ρ1[i]? (cs_set_2 i mb kn x ρ1) := rfl
theorem cs_set' {i : Nat} {ma : M} {mb : M} {ρ : DE} {kn : DE → Option α} {kr : D → DE → Option α} : cs (sSet i ma mb) ρ kn kr = ce ma ρ (cs_set_1 i mb kn) := cs_set
def cs_set2_11 (i : Nat) (kn : DE → Option α) (x : D) (ds : List D) (j : Nat) (ys : List D) (ρ3 : DE) : Nat → Option α := fun l => kn (ρ3.set i (some (.lst (ds.set j (.lst (ys.set l x))))))
theorem cs_set2_11_e {i : Nat} {kn : DE → Option α} {x : D} {ds : List D} {j : Nat} {ys : List D} {ρ3 : DE} {l : Nat} : cs_set2_11 i kn x ds j ys ρ3 l = kn (ρ3.set i (some (.lst (ds.set j (.lst (ys.set l x)))))) := rfl
def cs_set2_10 (i : Nat) (kn : DE → Option α) (x : D) (ds : List D) (j : Nat) (ys : List D) (ρ3 : DE) : Int → Option α := fun q => bo (ixN ys.length q) (cs_set2_11 i kn x ds j ys ρ3)
theorem cs_set2_10_e {i : Nat} {kn : DE → Option α} {x : D} {ds : List D} {j : Nat} {ys : List D} {ρ3 : DE} {q : Int} : cs_set2_10 i kn x ds j ys ρ3 q = bo (ixN ys.length q) (cs_set2_11 i kn x ds j ys ρ3) := rfl
def cs_set2_9 (i : Nat) (kn : DE → Option α) (x : D) (ds : List D) (j : Nat) (ys : List D) : D → DE → Option α := fun v ρ3 => onI v (cs_set2_10 i kn x ds j ys ρ3)
theorem cs_set2_9_e {i : Nat} {kn : DE → Option α} {x : D} {ds : List D} {j : Nat} {ys : List D} {v : D} {ρ3 : DE} : cs_set2_9 i kn x ds j ys v ρ3 = onI v (cs_set2_10 i kn x ds j ys ρ3) := rfl
def cs_set2_8 (i : Nat) (mb : M) (kn : DE → Option α) (x : D) (ds : List D) (ρ2 : DE) (j : Nat) : List D → Option α := fun ys => ce mb ρ2 (cs_set2_9 i kn x ds j ys)
theorem cs_set2_8_e {i : Nat} {mb : M} {kn : DE → Option α} {x : D} {ds : List D} {ρ2 : DE} {j : Nat} {ys : List D} : cs_set2_8 i mb kn x ds ρ2 j ys = ce mb ρ2 (cs_set2_9 i kn x ds j ys) := rfl
def cs_set2_7 (i : Nat) (mb : M) (kn : DE → Option α) (x : D) (ds : List D) (ρ2 : DE) (j : Nat) : D → Option α := fun w => onL w (cs_set2_8 i mb kn x ds ρ2 j)
theorem cs_set2_7_e {i : Nat} {mb : M} {kn : DE → Option α} {x : D} {ds : List D} {ρ2 : DE} {j : Nat} {w : D} : cs_set2_7 i mb kn x ds ρ2 j w = onL w (cs_set2_8 i mb kn x ds ρ2 j) := rfl
def cs_set2_6 (i : Nat) (mb : M) (kn : DE → Option α) (x : D) (ds : List D) (ρ2 : DE) : Nat → Option α := fun j => bo ds[j]? (cs_set2_7 i mb kn x ds ρ2 j)
theorem cs_set2_6_e {i : Nat} {mb : M} {kn : DE → Option α} {x : D} {ds : List D} {ρ2 : DE} {j : Nat} : cs_set2_6 i mb kn x ds ρ2 j = bo ds[j]? (cs_set2_7 i mb kn x ds ρ2 j) := rfl
def cs_set2_5 (i : Nat) (mb : M) (kn : DE → Option α) (x : D) (ds : List D) (ρ2 : DE) : Int → Option α := fun p => bo (ixN ds.length p) (cs_set2_6 i mb kn x ds ρ2)
theorem cs_set2_5_e {i : Nat} {mb : M} {kn : DE → Option α} {x : D} {ds : List D} {ρ2 : DE} {p : Int} : cs_set2_5 i mb kn x ds ρ2 p = bo (ixN ds.length p) (cs_set2_6 i mb kn x ds ρ2) := rfl
def cs_set2_4 (i : Nat) (mb : M) (kn : DE → Option α) (x : D) (ds : List D) : D → DE → Option α := fun y ρ2 => onI y (cs_set2_5 i mb kn x ds ρ2)
theorem cs_set2_4_e {i : Nat} {mb : M} {kn : DE → Option α} {x : D} {ds : List D} {y : D} {ρ2 : DE} : cs_set2_4 i mb kn x ds y ρ2 = onI y (cs_set2_5 i mb kn x ds ρ2) := rfl
def cs_set2_3 (i : Nat) (ma : M) (mb : M) (kn : DE → Option α) (x : D) (ρ1 : DE) : List D → Option α := fun ds => ce ma ρ1 (cs_set2_4 i mb kn x ds)
theorem cs_set2_3_e {i : Nat} {ma : M} {mb : M} {kn : DE → Option α} {x : D} {ρ1 : DE} {ds : List D} : cs_set2_3 i ma mb kn x ρ1 ds = ce ma ρ1 (cs_set2_4 i mb kn x ds) := rfl
def cs_set2_2 (i : Nat) (ma : M) (mb : M) (kn : DE → Option α) (x : D) (ρ1 : DE) : D → Option α := fun z => onL z (cs_set2_3 i ma mb kn x ρ1)
theorem cs_set2_2_e {i : Nat} {ma : M} {mb : M} {kn : DE → Option α} {x : D} {ρ1 : DE} {z : D} : cs_set2_2 i ma mb kn x ρ1 z = onL z (cs_set2_3 i ma mb kn x ρ1) := rfl
def cs_set2_1 (i : Nat) (ma : M) (mb : M) (kn : DE → Option α) : D → DE → Option α := fun x ρ1 => cv ρ1[i]? (cs_set2_2 i ma mb kn x ρ1)
theorem cs_set2_1_e {i : Nat} {ma : M} {mb : M} {kn : DE → Option α} {x : D} {ρ1 : DE} : cs_set2_1 i ma mb kn x ρ1 = cv ρ1[i]? (cs_set2_2 i ma mb kn x ρ1) := rfl
theorem cs_set2' {i : Nat} {m : M} {ma : M} {mb : M} {ρ : DE} {kn : DE → Option α} {kr : D → DE → Option α} : cs (sSet2 i m ma mb) ρ kn kr = ce m ρ (cs_set2_1 i ma mb kn) := cs_set2
def cs_put_4 (i : Nat) (kn : DE → Option α) (ρ2 : DE) : DKs × List D → Option α := fun r => kn (ρ2.set i (some (.dic r.1 r.2)))
theorem cs_put_4_e {i : Nat} {kn : DE → Option α} {ρ2 : DE} {r : DKs × List D} : cs_put_4 i kn ρ2 r = kn (ρ2.set i (some (.dic r.1 r.2))) := rfl
def cs_put_3 (i : Nat) (kn : DE → Option α) (x : D) (q : DKs) (xs : List D) : D → DE → Option α := fun y ρ2 => bo (dPut q xs y x) (cs_put_4 i kn ρ2)
theorem cs_put_3_e {i : Nat} {kn : DE → Option α} {x : D} {q : DKs} {xs : List D} {y : D} {ρ2 : DE} : cs_put_3 i kn x q xs y ρ2 = bo (dPut q xs y x) (cs_put_4 i kn ρ2) := rfl
def cs_put_2 (i : Nat) (mb : M) (kn : DE → Option α) (x : D) (ρ1 : DE) : D → Option α := fun z => match z with | .dic q xs => if xs.length < 16777216 then ce mb ρ1 (cs_put_3 i kn x q xs) else none | _ => none
theorem cs_put_2_e {i : Nat} {mb : M} {kn : DE → Option α} {x : D} {ρ1 : DE} {z : D} : cs_put_2 i mb kn x ρ1 z = match z with | .dic q xs => if xs.length < 16777216 then ce mb ρ1 (cs_put_3 i kn x q xs) else none | _ => none := rfl
def cs_put_1 (i : Nat) (mb : M) (kn : DE → Option α) : D → DE → Option α := fun x ρ1 => cv ρ1[i]? (cs_put_2 i mb kn x ρ1)
theorem cs_put_1_e {i : Nat} {mb : M} {kn : DE → Option α} {x : D} {ρ1 : DE} : cs_put_1 i mb kn x ρ1 = cv ρ1[i]? (cs_put_2 i mb kn x ρ1) := rfl
theorem cs_put' {i : Nat} {ma : M} {mb : M} {ρ : DE} {kn : DE → Option α} {kr : D → DE → Option α} : cs (sPut i ma mb) ρ kn kr = ce ma ρ (cs_put_1 i mb kn) := cs_put
def cs_for_1 (mg : MG) (s : SM) (kn : DE → Option α) (kr : D → DE → Option α) : List D → DE → Option α := fun ds ρ1 => cF mg s ds ρ1 kn kr
theorem cs_for_1_e {mg : MG} {s : SM} {kn : DE → Option α} {kr : D → DE → Option α} {ds : List D} {ρ1 : DE} : cs_for_1 mg s kn kr ds ρ1 = cF mg s ds ρ1 kn kr := rfl
theorem cs_for' {ml : ML} {mg : MG} {s : SM} {ρ : DE} {kn : DE → Option α} {kr : D → DE → Option α} : cs (sFor ml mg s) ρ kn kr = cl ml ρ (cs_for_1 mg s kn kr) := cs_for
def cF_cons_2 (mg : MG) (s : SM) (ds : List D) (kn : DE → Option α) (kr : D → DE → Option α) : DE → Option α := fun ρ2 => cF mg s ds ρ2 kn kr
theorem cF_cons_2_e {mg : MG} {s : SM} {ds : List D} {kn : DE → Option α} {kr : D → DE → Option α} {ρ2 : DE} : cF_cons_2 mg s ds kn kr ρ2 = cF mg s ds ρ2 kn kr := rfl
def cF_cons_1 (mg : MG) (s : SM) (ds : List D) (kn : DE → Option α) (kr : D → DE → Option α) : DE → Option α := fun ρ1 => cs s ρ1 ((cF_cons_2 mg s ds kn kr)) kr
theorem cF_cons_1_e {mg : MG} {s : SM} {ds : List D} {kn : DE → Option α} {kr : D → DE → Option α} {ρ1 : DE} : cF_cons_1 mg s ds kn kr ρ1 = cs s ρ1 ((cF_cons_2 mg s ds kn kr)) kr := rfl
theorem cF_cons' {mg : MG} {s : SM} {d : D} {ds : List D} {ρ : DE} {kn : DE → Option α} {kr : D → DE → Option α} : cF mg s (d :: ds) ρ kn kr = bo (mg d ρ) (cF_cons_1 mg s ds kn kr) := cF_cons
def cW_s_2 (m : M) (s : SM) (n : Nat) (kn : DE → Option α) (kr : D → DE → Option α) : DE → Option α := fun ρ2 => cW m s n ρ2 kn kr
theorem cW_s_2_e {m : M} {s : SM} {n : Nat} {kn : DE → Option α} {kr : D → DE → Option α} {ρ2 : DE} : cW_s_2 m s n kn kr ρ2 = cW m s n ρ2 kn kr := rfl
def cW_s_1 (m : M) (s : SM) (n : Nat) (kn : DE → Option α) (kr : D → DE → Option α) : DE → Option α := fun ρ1 => cs s ρ1 ((cW_s_2 m s n kn kr)) kr
theorem cW_s_1_e {m : M} {s : SM} {n : Nat} {kn : DE → Option α} {kr : D → DE → Option α} {ρ1 : DE} : cW_s_1 m s n kn kr ρ1 = cs s ρ1 ((cW_s_2 m s n kn kr)) kr := rfl
theorem cW_s' {m : M} {s : SM} {n : Nat} {ρ : DE} {kn : DE → Option α} {kr : D → DE → Option α} : cW m s (n + 1) ρ kn kr = ct m ρ ((cW_s_1 m s n kn kr)) kn := cW_s
def cP_cons_4 (kl : List D → DE → Option α) (x : D) : List D → DE → Option α := fun es ρ1 => kl (x :: es) ρ1
theorem cP_cons_4_e {kl : List D → DE → Option α} {x : D} {es : List D} {ρ1 : DE} : cP_cons_4 kl x es ρ1 = kl (x :: es) ρ1 := rfl
def cP_cons_3 (ns : List Nat) (mg : MG) (mc : M) (me : M) (ds : List D) (kl : List D → DE → Option α) : D → DE → Option α := fun x ρ4 => cP ns mg mc me ds ρ4 (cP_cons_4 kl x)
theorem cP_cons_3_e {ns : List Nat} {mg : MG} {mc : M} {me : M} {ds : List D} {kl : List D → DE → Option α} {x : D} {ρ4 : DE} : cP_cons_3 ns mg mc me ds kl x ρ4 = cP ns mg mc me ds ρ4 (cP_cons_4 kl x) := rfl
def cP_cons_2 (ns : List Nat) (mg : MG) (mc : M) (me : M) (ds : List D) (kl : List D → DE → Option α) : DE → Option α := fun ρ3 => ce me ρ3 (cP_cons_3 ns mg mc me ds kl)
theorem cP_cons_2_e {ns : List Nat} {mg : MG} {mc : M} {me : M} {ds : List D} {kl : List D → DE → Option α} {ρ3 : DE} : cP_cons_2 ns mg mc me ds kl ρ3 = ce me ρ3 (cP_cons_3 ns mg mc me ds kl) := rfl
def cP_cons_5 (ns : List Nat) (mg : MG) (mc : M) (me : M) (ds : List D) (kl : List D → DE → Option α) : DE → Option α := fun ρ3 => cP ns mg mc me ds ρ3 kl
theorem cP_cons_5_e {ns : List Nat} {mg : MG} {mc : M} {me : M} {ds : List D} {kl : List D → DE → Option α} {ρ3 : DE} : cP_cons_5 ns mg mc me ds kl ρ3 = cP ns mg mc me ds ρ3 kl := rfl
def cP_cons_1 (ns : List Nat) (mg : MG) (mc : M) (me : M) (ds : List D) (kl : List D → DE → Option α) : DE → Option α := fun ρ2 => ct mc ρ2 ((cP_cons_2 ns mg mc me ds kl)) (cP_cons_5 ns mg mc me ds kl)
theorem cP_cons_1_e {ns : List Nat} {mg : MG} {mc : M} {me : M} {ds : List D} {kl : List D → DE → Option α} {ρ2 : DE} : cP_cons_1 ns mg mc me ds kl ρ2 = ct mc ρ2 ((cP_cons_2 ns mg mc me ds kl)) (cP_cons_5 ns mg mc me ds kl) := rfl
theorem cP_cons' {ns : List Nat} {mg : MG} {mc : M} {me : M} {d : D} {ds : List D} {ρ : DE} {kl : List D → DE → Option α} : cP ns mg mc me (d :: ds) ρ kl = bo (mg d (wp ρ ns)) (cP_cons_1 ns mg mc me ds kl) := cP_cons
def ce_lc_2 (pu : Bool) (k : D → DE → Option α) (ρ1 : DE) : List D → DE → Option α := fun es ρ2 => if es.length ≤ 16777216 then k (.lst es) (if pu = true then ρ1 else ρ2) else none
theorem ce_lc_2_e {pu : Bool} {k : D → DE → Option α} {ρ1 : DE} {es : List D} {ρ2 : DE} : ce_lc_2 pu k ρ1 es ρ2 = if es.length ≤ 16777216 then k (.lst es) (if pu = true then ρ1 else ρ2) else none := rfl
def ce_lc_1 (pu : Bool) (ns : List Nat) (mg : MG) (mc : M) (me : M) (k : D → DE → Option α) : List D → DE → Option α := fun ds ρ1 => cP ns mg mc me ds ρ1 (ce_lc_2 pu k ρ1)
theorem ce_lc_1_e {pu : Bool} {ns : List Nat} {mg : MG} {mc : M} {me : M} {k : D → DE → Option α} {ds : List D} {ρ1 : DE} : ce_lc_1 pu ns mg mc me k ds ρ1 = cP ns mg mc me ds ρ1 (ce_lc_2 pu k ρ1) := rfl
theorem ce_lc' {pu : Bool} {ns : List Nat} {ml : ML} {mg : MG} {mc : M} {me : M} {ρ : DE} {k : D → DE → Option α} : ce (mLc pu ns ml mg mc me) ρ k = cl ml ρ (ce_lc_1 pu ns mg mc me k) := ce_lc
def cp1_e_3 : D → DE → Option (Option D × DE) := fun x ρ4 => some (some x, ρ4)
theorem cp1_e_3_e {x : D} {ρ4 : DE} : cp1_e_3 x ρ4 = some (some x, ρ4) := rfl
def cp1_e_2 (me : M) : DE → Option (Option D × DE) := fun ρ3 => ce me ρ3 (cp1_e_3)
theorem cp1_e_2_e {me : M} {ρ3 : DE} : cp1_e_2 me ρ3 = ce me ρ3 (cp1_e_3) := rfl
def cp1_e_4 : DE → Option (Option D × DE) := fun ρ3 => some (none, ρ3)
theorem cp1_e_4_e {ρ3 : DE} : cp1_e_4 ρ3 = some (none, ρ3) := rfl
def cp1_e_1 (mc : M) (me : M) : DE → Option (Option D × DE) := fun ρ2 => ct mc ρ2 ((cp1_e_2 me)) (cp1_e_4)
theorem cp1_e_1_e {mc : M} {me : M} {ρ2 : DE} : cp1_e_1 mc me ρ2 = ct mc ρ2 ((cp1_e_2 me)) (cp1_e_4) := rfl
theorem cp1_e' {vs : List Nat} {mg : MG} {mc : M} {me : M} {ρ : DE} {d : D} : cp1 vs mg mc me ρ d = bo (mg d (wp ρ vs)) (cp1_e_1 mc me) := cp1_e
def g_cons_1 (ms : List D → DE → Option DE) (ds : List D) : DE → Option DE := fun ρ1 => ms ds ρ1
theorem g_cons_1_e {ms : List D → DE → Option DE} {ds : List D} {ρ1 : DE} : g_cons_1 ms ds ρ1 = ms ds ρ1 := rfl
theorem g_cons' {g : MG} {ms : List D → DE → Option DE} {d : D} {ds : List D} {ρ : DE} : gsCons g ms (d :: ds) ρ = bo (g d ρ) (g_cons_1 ms ds) := g_cons
def fo_z_1 (d : D) : List D → Option (D × List D) := fun es => some (d, es)
theorem fo_z_1_e {d : D} {es : List D} : fo_z_1 d es = some (d, es) := rfl
theorem fo_z' {ks' : List (Option Nat)} {ds : List D} {d : D} {ρ : DE} : fo' ks' ds d ρ = bo (outsD ks' ρ 0 ds) (fo_z_1 d) := fo_z
def o_c_2 (x : D) : List D → Option (List D) := fun r => some (x :: r)
theorem o_c_2_e {x : D} {r : List D} : o_c_2 x r = some (x :: r) := rfl
def o_c_1 (ks' : List (Option Nat)) (ρ : DE) (j : Nat) (ds : List D) : D → Option (List D) := fun x => bo (outsD ks' ρ (j + 1) ds) (o_c_2 x)
theorem o_c_1_e {ks' : List (Option Nat)} {ρ : DE} {j : Nat} {ds : List D} {x : D} : o_c_1 ks' ρ j ds x = bo (outsD ks' ρ (j + 1) ds) (o_c_2 x) := rfl
theorem o_c' {ks' : List (Option Nat)} {ρ : DE} {j : Nat} {d : D} {ds : List D} : outsD ks' ρ j (d :: ds) = bo (ox ks' ρ j d) (o_c_1 ks' ρ j ds) := o_c
end
end VS
namespace VS
open PySem VS L2
theorem ne_of_eq {x y : D} {p : Bool} (h : dEq x y = some (.bl p)) : dNe x y = some (.bl !p) := by
  unfold dEq at h
  unfold dNe
  split at h
  · rename_i c
    rw [if_pos c]
    injection h with h
    injection h with h
    rw [h]
  · cases h
theorem r_isN {x : D} : dIsV false x .non = some (.bl (isNon x)) := rfl
theorem r_isnN {x : D} : dIsV true x .non = some (.bl !(isNon x)) := rfl
theorem n_non : isNon .non = true := rfl
theorem n_int {i : Int} : isNon (.int i) = false := rfl
theorem n_bl {i : Bool} : isNon (.bl i) = false := rfl
theorem n_str {i : Str} : isNon (.str i) = false := rfl
theorem n_lst {i : List D} : isNon (.lst i) = false := rfl
theorem n_tup {i : List D} : isNon (.tup i) = false := rfl
theorem iT_int {i : Int} : isT "int" (.int i) = some true ∧ isT "bool" (.int i) = some false ∧ isT "str" (.int i) = some false ∧ isT "tuple" (.int i) = some false ∧ isT "list" (.int i) = some false := ⟨rfl, rfl, rfl, rfl, rfl⟩
theorem iT_bl {b : Bool} : isT "int" (.bl b) = some true ∧ isT "bool" (.bl b) = some true ∧ isT "str" (.bl b) = some false ∧ isT "tuple" (.bl b) = some false ∧ isT "list" (.bl b) = some false := ⟨rfl, rfl, rfl, rfl, rfl⟩
theorem iT_str {x : Str} : isT "int" (.str x) = some false ∧ isT "bool" (.str x) = some false ∧ isT "str" (.str x) = some true ∧ isT "tuple" (.str x) = some false ∧ isT "list" (.str x) = some false := ⟨rfl, rfl, rfl, rfl, rfl⟩
theorem iT_tup {x : D} {xs : List D} : isT "int" (.tup (x :: xs)) = some false ∧ isT "bool" (.tup (x :: xs)) = some false ∧ isT "str" (.tup (x :: xs)) = some false ∧ isT "tuple" (.tup (x :: xs)) = some true ∧ isT "list" (.tup (x :: xs)) = some false := ⟨rfl, rfl, rfl, rfl, rfl⟩
theorem iT_lst {xs : List D} : isT "int" (.lst xs) = some false ∧ isT "bool" (.lst xs) = some false ∧ isT "str" (.lst xs) = some false ∧ isT "tuple" (.lst xs) = some false ∧ isT "list" (.lst xs) = some true := ⟨rfl, rfl, rfl, rfl, rfl⟩
theorem iT_non  : isT "int" (.non) = some false ∧ isT "bool" (.non) = some false ∧ isT "str" (.non) = some false ∧ isT "tuple" (.non) = some false ∧ isT "list" (.non) = some false := ⟨rfl, rfl, rfl, rfl, rfl⟩
theorem r_int {i : Int} : fInt [.int i] = some (.int i) := rfl
theorem r_intB {p : Prop} [Decidable p] : fInt [.bl (decide p)] = some (.int (if p then 1 else 0)) := by
  by_cases h : p <;> simp [fInt, h]
theorem r_intT : fInt [.bl true] = some (.int 1) := rfl
theorem r_intF : fInt [.bl false] = some (.int 0) := rfl
theorem r_ext {ds es : List D} (h : ds.length + es.length ≤ 16777216) : fExt ds [.lst es] = some (.non, ds ++ es) := by
  unfold fExt
  simp only [h, if_true]
theorem all_map {τ : Type} (p : τ → Bool) (xs : List τ) : fAll [.lst (xs.map fun x => D.bl (p x))] = some (.bl (xs.all p)) := by
  show (blsOf (xs.map fun x => D.bl (p x))).map _ = _
  have : blsOf (xs.map fun x => D.bl (p x)) = some (xs.map p) := by
    induction xs with
    | nil => rfl
    | cons x xs ih => simp [blsOf, ih]
  rw [this]
  simp
theorem any_map {τ : Type} (p : τ → Bool) (xs : List τ) : fAny [.lst (xs.map fun x => D.bl (p x))] = some (.bl (xs.any p)) := by
  show (blsOf (xs.map fun x => D.bl (p x))).map _ = _
  have : blsOf (xs.map fun x => D.bl (p x)) = some (xs.map p) := by
    induction xs with
    | nil => rfl
    | cons x xs ih => simp [blsOf, ih]
  rw [this]
  simp
theorem at_last {α : Type} {xs : List α} {x : α} : atI (xs ++ [x]) (-1) = some x := by
  unfold atI ixN
  rw [if_neg (by omega), if_pos (by simp only [List.length_append, List.length_cons, List.length_nil]; omega)]
  simp only [List.length_append, List.length_cons, List.length_nil, Option.bind_some]
  rw [show (-1 + ((xs.length + (0 + 1) : Nat) : Int)).toNat = xs.length by omega]
  simp
theorem cnt_map {τ : Type} (f : τ → Str) (xs : List τ) (w : Str) : dCnt (.lst (xs.map fun x => D.str (f x))) (.str w) = some (.int ((xs.countP fun x => decide (f x = w) : Nat) : Int)) := by
  have := cnt_str (xs.map f) w
  rw [List.map_map, List.countP_map] at this
  exact this
theorem if_nd {β : Type} {ks : List Key} {x y : β} (h : ks.Nodup) : (if ks.Nodup then x else y) = x := if_pos h
theorem bo_ite {α β : Type} {p : Prop} [Decidable p] {x y : Option β} {k : β → Option α} : bo (if p then x else y) k = if p then bo x k else bo y k := by split <;> rfl
theorem tst_ite {α : Type} {p : Prop} [Decidable p] {x y : D} {a b : Option α} : tst (if p then x else y) a b = if p then tst x a b else tst y a b := by split <;> rfl
theorem at2 {α : Type} {x y z : α} {xs : List α} : atI (x :: y :: z :: xs) 2 = some z := (at_nn (xs := x :: y :: z :: xs) (n := 2) (by simp)).trans rfl
theorem at3 {α : Type} {x y z w : α} {xs : List α} : atI (x :: y :: z :: w :: xs) 3 = some w := (at_nn (xs := x :: y :: z :: w :: xs) (n := 3) (by simp)).trans rfl
theorem at4 {α : Type} {x y z w v : α} {xs : List α} : atI (x :: y :: z :: w :: v :: xs) 4 = some v := (at_nn (xs := x :: y :: z :: w :: v :: xs) (n := 4) (by simp)).trans rfl
theorem atm1 {α : Type} {x : α} : atI [x] (-1) = some x := rfl
theorem at_pick {α : Type} {p : Prop} [Decidable p] {x y : α} {xs : List α} : atI (x :: y :: xs) (if p then 1 else 0) = some (if p then y else x) := by
  by_cases h : p
  · rw [if_pos h, if_pos h, at1]
  · rw [if_neg h, if_neg h, at0]
theorem tst_b {α : Type} {p : Bool} {a b : Option α} : tst (.bl p) a b = if p = true then a else b := by cases p <;> rfl
def oxi (a : Option (Option Nat)) (b : Option (Option D)) (d : D) : Option D := match a with
  | some (some _) => (match b with
    | some (some d') => some d'
    | _ => none)
  | _ => some d
theorem ox_e {ks' : List (Option Nat)} {ρ : DE} {j : Nat} {d : D} : ox ks' ρ j d = oxi ks'[j]? ρ[j]? d := rfl
theorem oxi_0 {b : Option (Option D)} {d : D} : oxi (some none) b d = some d := rfl
theorem oxi_n {b : Option (Option D)} {d : D} : oxi none b d = some d := rfl
theorem oxi_1 {k : Nat} {d d' : D} : oxi (some (some k)) (some (some d')) d = some d' := rfl
theorem Wp.mk {α : Type} {o : Option α} {P : α → Prop} {x : α} (e : o = some x) (h : P x) : Wp o P := ⟨x, e, h⟩
theorem Wp.val {α : Type} {P : α → Prop} {x : α} (h : P x) : Wp (some x) P := ⟨x, rfl, h⟩
theorem Wp.imp {α : Type} {o : Option α} {P Q : α → Prop} (h : Wp o P) (f : ∀ x, P x → Q x) : Wp o Q := by
  obtain ⟨x, e, p⟩ := h
  exact ⟨x, e, f x p⟩
theorem all_isA {τ : Type} {e : τ → D} (h : ∀ x, isA (e x) = true) (xs : List τ) : ((xs.map e).all isA) = true := by
  rw [List.all_eq_true]
  intro d hd
  obtain ⟨x, _, rfl⟩ := List.mem_map.mp hd
  exact h x
theorem lcm_map {α τ : Type} (e g : τ → D) {vs : List Nat} {mg : MG} {mc me : M} {xs : List τ} {ρ ρ1 : DE} {k : D → DE → Option α} (h : ∀ x ∈ xs, ∃ ρ4, cp1 vs mg mc me ρ (e x) = some (some (g x), ρ4) ∧ wp ρ4 vs = wp ρ vs) (hl : xs.length ≤ 16777216) : cP vs mg mc me (xs.map e) ρ (ce_lc_2 true k ρ1) = k (.lst (xs.map g)) ρ1 := by
  rw [cP_map g (kp := fun es => if es.length ≤ 16777216 then k (.lst es) ρ1 else none) h fun es ρ2 => by rw [ce_lc_2_e, if_pos rfl], if_pos (by simpa using hl)]
theorem lcm_flt {α τ : Type} (e g : τ → D) (p : τ → Bool) {vs : List Nat} {mg : MG} {mc me : M} {xs : List τ} {ρ ρ1 : DE} {k : D → DE → Option α} (h : ∀ x ∈ xs, ∃ ρa ρb, cp1 vs mg mc me ρ (e x) = (if p x = true then some (some (g x), ρa) else some (none, ρb)) ∧ wp ρa vs = wp ρ vs ∧ wp ρb vs = wp ρ vs) (hl : xs.length ≤ 16777216) : cP vs mg mc me (xs.map e) ρ (ce_lc_2 true k ρ1) = k (.lst ((xs.filter p).map g)) ρ1 := by
  rw [cP_flt g p (kp := fun es => if es.length ≤ 16777216 then k (.lst es) ρ1 else none) (fun x hx => by
    obtain ⟨ρa, ρb, h1, h2, h3⟩ := h x hx
    by_cases hp : p x = true
    · exact ⟨ρa, by rw [h1, if_pos hp, if_pos hp], h2⟩
    · exact ⟨ρb, by rw [h1, if_neg hp, if_neg hp], h3⟩) fun es ρ2 => by rw [ce_lc_2_e, if_pos rfl], if_pos (by rw [List.length_map]; exact Nat.le_trans (List.length_filter_le _ _) hl)]
end VS
namespace VS
open PySem PySem.Spec PyProof.Rows L2
variable {P : Program} {w : World} {K : PySem.W.Frag} {mg : Str → Option Value} {base : Heap}
variable {X : Cx} {W : WX} {κ κ1 κ2 κx : OE} {pos : Pos} {rc : RC}
def exVal (mg : Str → Option Value) (n : Nat) : Option Value := if n ≤ 10 then mg (exNm n) else if n = 11 then some (.type "ValueError") else some (.type "Exception")
structure ExS (K : PySem.W.Frag) (mg : Str → Option Value) (cs ns : List Nat) : Prop where
  mkx : ∀ c ∈ cs, ∀ C, mg (exNm c) = some (.ref C) → PySem.W.excIn K C He.veBase "ValueError.__new__" = true ∧ PySem.W.keepIn K (.ref C) = true ∧ PySem.W.subIn K (.ref C) (.type "BaseException") = some true ∧ PySem.W.typeIn K (.ref C) = some (.type "type")
  cl : ∀ c ∈ cs, ∀ C, mg (exNm c) = some (.ref C) → ExcC K C
  at_ : ∀ c ∈ cs, ∃ C, mg (exNm c) = some (.ref C)
  own : ∀ n ∈ ns, n ≤ 10 → ∃ C, mg (exNm n) = some (.ref C)
  blt : ∀ n ∈ ns, ¬ n ≤ 10 → mg (exNm n) = none
  em : ∀ c ∈ cs, ∀ n ∈ ns, ∀ C v, mg (exNm c) = some (.ref C) → exVal mg n = some v → PySem.W.exmOne K (.ref C) v = some (exSub c n) ∧ PySem.W.kitOne K (.ref C) v = some (exSub c n)
abbrev XM := DE → Option (Nat × DE)
def xNo : XM := fun _ => none
def xPost (X : Cx) (W : WX) (κx : OE) (rc : RC) (s0 : L2.St) (t : Nat) (g : G) (H : Hp) (c : Nat) (ρ' : DE) : Prop :=
  ∀ C σ' H' g', X.mg (exNm c) = some (.ref C) → Sok X.K κx ρ' g' σ' H' → Pres X.N.length t g H g' H' → Fx rc s0 σ' → W (.ref C) none σ' H'
theorem xPost.pre {s0 : L2.St} {t : Nat} {g g1 : G} {H H1 : Hp} {c : Nat} {ρ' : DE} (P : Pres X.N.length t g H g1 H1) (h : xPost X W κx rc s0 t g H c ρ') : xPost X W κx rc s0 t g1 H1 c ρ' :=
  fun C σ' H' g' hC S' P' F' => h C σ' H' g' hC S' (P.trans P') F'
def jX (X : Cx) (W : WX) (κ : OE) (m : XM) (κx : OE) (rc : RC) (s0 : L2.St) (t : Nat) : L2.St → Hp → Prop := fun σ H => En X.N.length σ H →
  ∃ g ρ, Sok X.K κ ρ g σ H ∧ Fx rc s0 σ ∧ ∃ c ρ', m ρ = some (c, ρ') ∧ xPost X W κx rc s0 t g H c ρ'
structure JX (X : Cx) (W : WX) (κ : OE) (e : Expr) (m : XM) (κx : OE) (rc : RC) : Prop where
  run : ∀ s0 t, X.N.length ≤ t → PE X e (fun σ H _ => jX X W κ m κx rc s0 t σ H)
structure JSX (X : Cx) (W : WX) (κ : OE) (st : Stmt) (m : XM) (κx : OE) (rc : RC) : Prop where
  run : ∀ s0 t, X.N.length ≤ t → PS X st (fun _ σ H => jX X W κ m κx rc s0 t σ H)
structure JBX (X : Cx) (W : WX) (κ : OE) (sts : List Stmt) (m : XM) (κx : OE) (rc : RC) : Prop where
  run : ∀ s0 t, X.N.length ≤ t → PSs X sts (fun _ σ H => jX X W κ m κx rc s0 t σ H)
theorem jx_none {s0 : L2.St} {t : Nat} {σ : L2.St} {H : Hp} (z : En X.N.length σ H) (q : jX X W κ xNo κx rc s0 t σ H) : False := by
  obtain ⟨g, ρ, S, fx, c, ρ', em, post⟩ := q z
  cases em
theorem jsx_no {st : Stmt} : JSX X W κ st xNo κx rc := ⟨fun s0 t ht => ⟨fun pins s σ H Q I q => (jx_none ⟨Inv.sz I, I.len⟩ q).elim⟩⟩
theorem jbx_no {sts : List Stmt} : JBX X W κ sts xNo κx rc := ⟨fun s0 t ht => ⟨fun pins s σ H Q I q => (jx_none ⟨Inv.sz I, I.len⟩ q).elim⟩⟩
theorem jX.weak {m : XM} {s0 : L2.St} {t : Nat} {σ : L2.St} {H : Hp} (hl : leO κ1 κ = true) (hn : κ1.length = X.N.length) (q : jX X W κ m κx rc s0 t σ H) : jX X W κ1 m κx rc s0 t σ H := fun z => by
  obtain ⟨g, ρ, S, fx, c, ρ', em, post⟩ := q z
  exact ⟨wk κ1 g, ρ, S.weaken hl, fx, c, ρ', em, fun C σ' H' g' hC S' P' F' => by
    refine post C σ' H' g' hC S' ?_ F'
    exact (Pres.weaken (t := t) (H := H) hn).trans P'⟩
theorem JSX.weak {st : Stmt} {m : XM} (h : JSX X W κ1 st m κx rc) (hl : leO κ1 κ = true) (hn : κ1.length = X.N.length) : JSX X W κ st m κx rc :=
  ⟨fun s0 t ht => PS.imp (h.run s0 t ht) fun σ H D z q => jX.weak hl hn q⟩
theorem JBX.weak {st : List Stmt} {m : XM} (h : JBX X W κ1 st m κx rc) (hl : leO κ1 κ = true) (hn : κ1.length = X.N.length) : JBX X W κ st m κx rc :=
  ⟨fun s0 t ht => PSs.imp (h.run s0 t ht) fun σ H D z q => jX.weak hl hn q⟩
abbrev FX := List D → Option Nat
def fnSpX (K : PySem.W.Frag) (mg : Str → Option Value) (sg : Sg) (f : FM) (fx : FX) : Sp := fun vs H Q E => fnSp K sg f vs H Q E ∨
  ∃ g ds, (∀ a, g a ≠ .un → H a ≠ none) ∧ ArgsOk K H g sg.ks 0 ds vs ∧ ∃ c, fx ds = some c ∧
    ∀ C H' g', mg (exNm c) = some (.ref C) → (∀ a, g' a ≠ .un → H' a ≠ none) → Pres 0 0 g H g' H' → E (.ref C) none H'
def fxM (np n : Nat) (m : XM) : FX := fun ds => if ds.length = np then (m (ds.map some ++ List.replicate (n - ds.length) none)).map fun x => x.1 else none
theorem fxM_some {np n : Nat} {m : XM} {ds : List D} {c : Nat} (h : fxM np n m ds = some c) : ds.length = np ∧ ∃ ρ', m (ds.map some ++ List.replicate (n - ds.length) none) = some (c, ρ') := by
  unfold fxM at h
  split at h
  case isFalse => cases h
  refine ⟨by assumption, ?_⟩
  cases e : m (ds.map some ++ List.replicate (n - ds.length) none) with
  | none => rw [e] at h; cases h
  | some x => rw [e] at h; cases h; exact ⟨x.2, rfl⟩
theorem fxM_len {np n : Nat} {m : XM} (ds : List D) (c : Nat) (h : fxM np n m ds = some c) : ds.length = np := (fxM_some h).1
theorem fnSpX_len {sg : Sg} {f : FM} {fx : FX} {ps : List Str} (h : ps.length = sg.ks.length) (vs : List V) (H : Hp) (Q : VK) (E : XK) (q : fnSpX K mg sg f fx vs H Q E) : vs.length = ps.length := by
  rcases q with q | ⟨g, ds, _, ao, _⟩
  · exact fnSp_len h vs H Q E q
  · rw [(argsOk_len ao).2, h]
theorem body_okX {sg : Sg} {mx : XM} {n np : Nat} {N : List Str} (hN : X.N = N) (hn : N.length = n) (h1 : sg.ks.length ≤ n) {vs : List V} {H : Hp} {E : XK}
    (q : ∃ g ds, (∀ a, g a ≠ .un → H a ≠ none) ∧ ArgsOk X.K H g sg.ks 0 ds vs ∧ ∃ c, fxM np n mx ds = some c ∧
      ∀ C H' g', X.mg (exNm c) = some (.ref C) → (∀ a, g' a ≠ .un → H' a ≠ none) → Pres 0 0 g H g' H' → E (.ref C) none H') :
    jX X (fun cls d _ H => E cls d H) (κ0 sg n) mx κx (rcOf sg n) (L2.start N vs) n (L2.start N vs) H := by
  subst hN
  subst hn
  intro en
  obtain ⟨g, ds, gok, ao, c, e, post⟩ := q
  obtain ⟨_, ρ', em⟩ := fxM_some e
  obtain ⟨l1, l2⟩ := argsOk_len ao
  have st : ∀ (i : Nat) (v : V), vs[i]? = some v → (L2.start X.N vs)[i]? = some (some v) := fun i v e => by
    unfold L2.start
    rw [List.getElem?_append_left (by simpa using (List.getElem?_eq_some_iff.mp e).1), List.getElem?_map, e]
    rfl
  refine ⟨g, ds.map some ++ List.replicate (X.N.length - ds.length) none, ⟨fun i k d' ek ed => ?_, gok, ?_, ?_⟩, fun _ _ _ => rfl, c, ρ', em, ?_⟩
  · obtain ⟨k', ek', rfl⟩ := app_some (f := fun x => x) ek
    obtain ⟨d2, ed', rfl⟩ := app_some (f := fun x => x) ed
    obtain ⟨v, ev, ov⟩ := argsOk_get ao ek' ed'
    rw [Nat.zero_add] at ov
    exact ⟨v, st i v ev, ov⟩
  · have := en.2
    simp only [List.length_append, List.length_map, List.length_replicate]
    omega
  · have := en.2
    unfold κ0
    simp only [List.length_append, List.length_map, List.length_replicate]
    omega
  · exact fun C σ' H' g' hC S' P' F' => post C H' g' hC S'.gok ⟨P'.fz, P'.un, fun a r p _ h3 _ => by omega, fun a r p _ h3 _ => by omega, P'.tu⟩
structure HasX (P : Program) (w : World) (K : PySem.W.Frag) (mg : Str → Option Value) (base : Heap) (x : Str) (lev : Nat) (ps : List Str) (sg : Sg) (f : FM) (fx : FX) : Prop where
  ex : ∃ fa fd, mg x = some (.ref fa) ∧ PySem.W.keepIn K (.ref fa) = true ∧ Binds K fd ps [] ∧ FnOk P w K mg base (L2N.CX P w) lev fa fd ps (fnSpX K mg sg f fx)
abbrev cxX (P : Program) (w : World) (K : PySem.W.Frag) (mg : Str → Option Value) (base : Heap) (N : List Str) (qual : Str) (scope : Scope) (f : Addr) (cd : Value) (A : Around) (outer : List Env) (s : Shared) (H : Hp) (E : XK) : Cx :=
  cxOf (L2N.CX P w) P w K mg base N qual scope f cd A outer s H E
abbrev wX (E : XK) : WX := fun cls d _ H => E cls d H
theorem has_mkX {x : Str} {st : Stmt} {fa : Addr} {fd : FuncData} {N ps : List Str} {k n np : Nat} {sg : Sg} {m : SM} {mx : XM} (F : FnP K x st fa fd) (hm : mg x = some (.ref fa)) (S : FnScope N ps (defScope st)) (hN : N.length = n) (hp : ps.length = sg.ks.length) (h1 : sg.ks.length ≤ n) (h2 : sg.ks'.length = sg.ks.length)
    (bd : ∀ (kV doc pm : Value) (an : Option Addr) (cdv ct : Value) (us : List Value), us.length = ps.length → bindArgs (PySem.W.fnOf x x (defArgs st) (defBody st) (defScope st) .none kV doc pm an cdv ct) ⟨us, []⟩ = pure (ps.zip us))
    (body : ∀ (cdv : Value) (A : Around) (outer : List Env) (s : Shared) (H : Hp) (E : XK), Room k (A.deeper (envOfC x (defScope st) s.heap.objs.size fa cdv)) →
      L2N.Takes (cxX P w K mg base N x (defScope st) fa cdv A outer s H E) (wX E) → PassesOwn (model P w) (A.deeper (envOfC x (defScope st) s.heap.objs.size fa cdv)) (envOfC x (defScope st) s.heap.objs.size fa cdv) (cxX P w K mg base N x (defScope st) fa cdv A outer s H E).xe →
      JB (cxX P w K mg base N x (defScope st) fa cdv A outer s H E) (κ0 sg n) (defBody st) m (rcOf sg n).κr (rcOf sg n) ∧
      JBX (cxX P w K mg base N x (defScope st) fa cdv A outer s H E) (wX E) (κ0 sg n) (defBody st) mx κx (rcOf sg n)) :
    HasX P w K mg base x (k + 1) ps sg (fM np n sg.ks' m) (fxM np n mx) := by
  refine ⟨fa, fd, hm, F.kp, F.bindsN bd, F.ok S (fun vs H Q E q => fnSpX_len hp vs H Q E q) fun cdv A outer s H vs Q E hr q => ?_⟩
  have tk : L2N.Takes (cxX P w K mg base N x (defScope st) fa cdv A outer s H E) (wX E) := L2N.takes_of rfl rfl rfl rfl
  have po : PassesOwn (model P w) (A.deeper (envOfC x (defScope st) s.heap.objs.size fa cdv)) (envOfC x (defScope st) s.heap.objs.size fa cdv) (cxX P w K mg base N x (defScope st) fa cdv A outer s H E).xe :=
    passes_of (X := cxX P w K mg base N x (defScope st) fa cdv A outer s H E) rfl
  obtain ⟨hb, hx⟩ := body cdv A outer s H E hr tk po
  rcases q with q | q
  · obtain ⟨b1, b2⟩ := body_ok (X := cxX P w K mg base N x (defScope st) fa cdv A outer s H E) rfl hN hb h1 h2 q
    exact ⟨_, b1, b2⟩
  · exact ⟨_, hx.run (L2.start N vs) n (Nat.le_of_eq hN), body_okX (X := cxX P w K mg base N x (defScope st) fa cdv A outer s H E) rfl hN h1 q⟩
theorem has_callN {x : Str} {lev n : Nat} {ps : List Str} {sg : Sg} {f : FM} {fx : FX} {e : Expr} {es : List Expr} {t : TA} {p : Pos} (h : HasX X.prog X.w X.K X.mg X.base x lev ps sg f fx) (hr : Room n X.A) (hl : lev ≤ n) (hg : Gl X x) (ha : PA X (e :: es) t)
    (hd : (x == ("__debug__" : Str)) = false) (he : starEach (e :: es) X.env = (false, eval e X.env) :: starEach es X.env) (hpl : (backTo pos (starEach es X.env)).any (·.1) = false) : PE X (.Call (.Name x p) (e :: es) [] pos) (tCall (fnSp X.K sg f) [] E0 t) := by
  obtain ⟨fa, fd, hm, hk, hb, F⟩ := h.ex
  have G := F.imp (sp' := fnSp X.K sg f) fun vs H Q E q => .inl q
  refine PE.imp (pe_callS (E := fun _ => E0) G (hr.mono hl) hg hm hk hb (fun σ pins H s e s' I c => ?_) ha hd he hpl) fun σ H Q z q => ?_
  · obtain ⟨_, _, _, _, _, _, _, _, _, _, _, _, c⟩ := c
    exact c.elim
  · unfold tCall at q
    simp only [List.append_nil] at q
    exact q
theorem has_callX {x : Str} {lev n : Nat} {ps : List Str} {sg : Sg} {f : FM} {fx : FX} {e : Expr} {es : List Expr} {t : TA} {p : Pos} (h : HasX X.prog X.w X.K X.mg X.base x lev ps sg f fx) (hr : Room n X.A) (hl : lev ≤ n) (hg : Gl X x) (tk : L2N.Takes X W) (ha : PA X (e :: es) t)
    (hd : (x == ("__debug__" : Str)) = false) (he : starEach (e :: es) X.env = (false, eval e X.env) :: starEach es X.env) (hpl : (backTo pos (starEach es X.env)).any (·.1) = false) : PE X (.Call (.Name x p) (e :: es) [] pos) (tCallS (fnSpX X.K X.mg sg f fx) (WE W) t) := by
  obtain ⟨fa, fd, hm, hk, hb, F⟩ := h.ex
  exact pe_callS F (hr.mono hl) hg hm hk hb (fun σ => L2N.passAt tk σ) ha hd he hpl
def xCall (fx : FX) (ml : ML) : XM := fun ρ => (ml ρ).bind fun x => (fx x.1).map fun c => (c, x.2)
theorem xCall_some {fx : FX} {ml : ML} {ρ ρ' : DE} {c : Nat} (h : xCall fx ml ρ = some (c, ρ')) : ∃ ds, ml ρ = some (ds, ρ') ∧ fx ds = some c := by
  unfold xCall at h
  cases e : ml ρ with
  | none => rw [e] at h; cases h
  | some p =>
    rw [e] at h
    simp only [Option.bind_some] at h
    cases e2 : fx p.1 with
    | none => rw [e2] at h; cases h
    | some b => rw [e2] at h; cases h; exact ⟨p.1, rfl, e2⟩
theorem jx_call {e : Expr} {es : List Expr} {ml : ML} {ms : List Am} {pu : Bool} {f : FM} {fx : FX} {n r : Nat} {ks' : List (Option Nat)} (ha : JA X κ es ml ms κ1 pu) (hm : allRz ms = true) (hlen : ∀ ds c, fx ds = some c → ds.length = n)
    (mk : ∀ {t : TA}, PA X es t → PE X e (tCallS (fnSpX X.K X.mg ⟨List.replicate n 0, r, ks'⟩ f fx) (WE W) t)) (hl : leO κx κ1 = true) (hn : κx.length = X.N.length) : JX X W κ e (xCall fx ml) κx rc := by
  refine ⟨fun s0 t ht => PE.imp (mk (ha.run t ht)) fun σ H Q z q => ?_⟩
  obtain ⟨g, ρ, S, F0, c, ρ', em, post⟩ := q z
  obtain ⟨ds, e1, e2⟩ := xCall_some em
  refine fun _ => ⟨g, ρ, S, ds, ρ', e1, fun vs H1 g1 S1 P1 s1 r1 => .inr ?_⟩
  refine ⟨gAll H1, ds, gAll_gok H1, args_all (hlen _ _ e2) (rows_repL hm r1), c, e2, fun C H' g' hC gok' P => ?_⟩
  have sm : Same H1 H' := fun a u e => by rw [(P.fz a (gAll_fz (by rw [e]; simp))).2]; exact e
  exact post C σ H' (wk κx g1) hC ((S1.grow sm).weaken hl) (P1.trans ((Pres.grow S1.gok sm).trans (Pres.weaken hn))) F0
def xIf (mc : M) (ax bx : XM) : XM := fun ρ => match mc ρ with
  | some (.bl true, ρ1) => ax ρ1
  | some (.bl false, ρ1) => bx ρ1
  | _ => none
theorem xIf_some {mc : M} {ax bx : XM} {ρ : DE} {x : Nat × DE} (h : xIf mc ax bx ρ = some x) : ∃ k ρ1, mc ρ = some (.bl k, ρ1) ∧ ((k = true ∧ ax ρ1 = some x) ∨ (k = false ∧ bx ρ1 = some x)) := by
  unfold xIf at h
  split at h
  · exact ⟨true, _, by assumption, .inl ⟨rfl, h⟩⟩
  · exact ⟨false, _, by assumption, .inr ⟨rfl, h⟩⟩
  · cases h
theorem jsx_exp {e : Expr} {m : XM} (h : JX X W κ e m κx rc) (hs : swapsWith e none pos.line X.env = pure false) : JSX X W κ (.Expr e pos) m κx rc := ⟨fun s0 t ht => PS.imp (ps_expr (h.run s0 t ht) hs) fun σ H D z q => q⟩
theorem jsx_set {i : Nat} {x : Str} {e : Expr} {pos' : Pos} {m : XM} (h : JX X W κ e m κx rc) (hN : X.N.Nodup) (hi : X.N[i]? = some x) (hx : Loc X.env.scope x) (hs : swapsWith e (some (.Name x pos')) pos.line X.env = pure false)
    (hf : X.fn x = true ∨ X.env.scope.names.lookup x = some .local) : JSX X W κ (.Assign [.Name x pos'] e pos) m κx rc := ⟨fun s0 t ht => PS.imp (ps_set hN hi hx (h.run s0 t ht) hs hf) fun σ H D z q => q⟩
theorem jsx_if {c : Expr} {a b : List Stmt} {mc : M} {ax bx : XM} {pc : Bool} (hc : JT X κ c mc κ1 pc) (ha : JBX X W κ1 a ax κx rc) (hb : JBX X W κ1 b bx κx rc) : JSX X W κ (.If c a b pos) (xIf mc ax bx) κx rc := by
  refine ⟨fun s0 t ht => PS.imp (ps_if (hc.run t ht) (ha.run s0 t ht) (hb.run s0 t ht)) fun σ H D z q => ?_⟩
  obtain ⟨g, ρ, S, fx, c, ρ', em, post⟩ := q z
  obtain ⟨k, ρ1, e1, e2⟩ := xIf_some em
  refine fun _ => ⟨g, ρ, S, k, ρ1, e1, fun H1 g1 S1 P1 s1 => ?_⟩
  rcases e2 with ⟨rfl, e2⟩ | ⟨rfl, e2⟩
  · exact iteT fun _ => ⟨g1, ρ1, S1, fx, c, ρ', e2, post.pre P1⟩
  · exact iteF fun _ => ⟨g1, ρ1, S1, fx, c, ρ', e2, post.pre P1⟩
def xRaise (c : Nat) : XM := fun ρ => some (c, ρ)
theorem jsx_raise {c : Nat} {cs ns : List Nat} {x m : Str} {j : Nat} {p p2 p3 : Pos} (E : ExS X.K X.mg cs ns) (hc : cs.contains c = true) (hx : x = exNm c) (cm : X.calm = true) (tk : L2N.Takes X W) (hg : Gl X x) (hd : (x == ("__debug__" : Str)) = false)
    (hl : leO κx κ = true) (hn : κx.length = X.N.length) : JSX X W κ (.Raise (some (.Call (.Name x p) [.Constant (.str m) j p2] [] p3)) none pos) (xRaise c) κx rc := by
  subst hx
  have hc' : c ∈ cs := List.contains_iff_mem.mp hc
  obtain ⟨C, eC⟩ := E.at_ c hc'
  obtain ⟨h1, h2, h3, h4⟩ := E.mkx c hc' C eC
  refine ⟨fun s0 t ht => PS.imp (L2N.ps_raise cm tk (L2N.pmk_own PySem.F.excBase_ValueError h1 eC h2 (raises_own h3 h4) hg hd)) fun σ H D z q => ?_⟩
  obtain ⟨g, ρ, S, fx, c', ρ', em, post⟩ := q z
  cases em
  exact post C σ H (wk κx g) eC (S.weaken hl) (Pres.weaken hn) fx
def xSeq (ax : XM) (a : SM) (bx : XM) : XM := fun ρ => match ax ρ with
  | some x => some x
  | none => (match a ρ with
    | some (.nx ρ1) => bx ρ1
    | _ => none)
theorem xSeq_some {ax : XM} {a : SM} {bx : XM} {ρ : DE} {x : Nat × DE} (h : xSeq ax a bx ρ = some x) : ax ρ = some x ∨ ∃ ρ1, a ρ = some (.nx ρ1) ∧ bx ρ1 = some x := by
  unfold xSeq at h
  split at h
  · rename_i e; exact .inl (by rw [e]; exact h)
  · split at h
    · exact .inr ⟨_, by assumption, h⟩
    · cases h
theorem jbx_cons {st : Stmt} {rest : List Stmt} {a : SM} {ax bx : XM} (hx : JSX X W κ st ax κx rc) (ha : JS X κ st a κ1 rc) (hb : JBX X W κ1 rest bx κx rc) : JBX X W κ (st :: rest) (xSeq ax a bx) κx rc := by
  refine ⟨fun s0 t ht => PSs.imp (pss_cons (PS.or (hx.run s0 t ht) (ha.run s0 t ht)) (hb.run s0 t ht)) fun σ H D z q => ?_⟩
  obtain ⟨g, ρ, S, fx, c, ρ', em, post⟩ := q z
  rcases xSeq_some em with e | ⟨ρ1, e1, e2⟩
  · exact .inl fun _ => ⟨g, ρ, S, fx, c, ρ', e, post⟩
  · exact .inr fun _ => ⟨g, ρ, S, fx, _, e1, fun σ' H' g' S' P' F' en' => ⟨g', ρ1, S', F', c, ρ', e2, post.pre P'⟩⟩
theorem jbx_one {st : Stmt} {ax : XM} (hx : JSX X W κ st ax κx rc) : JBX X W κ [st] ax κx rc := ⟨fun s0 t ht => pss_one (hx.run s0 t ht)⟩
open Classical in
theorem exName {cs ns : List Nat} {n : Nat} {x : Str} (E : ExS X.K X.mg cs ns) (hn : ns.contains n = true) (hx : x = exNm n) (h12 : n ≤ 12) (hg : Gl X x) : ∃ v, exVal X.mg n = some v ∧ Names X x v := by
  subst hx
  have hn' : n ∈ ns := List.contains_iff_mem.mp hn
  have hd : ∀ k, k ≤ 12 → (exNm k == ("__debug__" : Str)) = false := by decide +kernel
  by_cases h : n ≤ 10
  · obtain ⟨C, e⟩ := E.own n hn' h
    exact ⟨.ref C, by unfold exVal; rw [if_pos h]; exact e, hg, hd n h12, .inl e⟩
  · have e := E.blt n hn' h
    by_cases h11 : n = 11
    · subst h11
      exact ⟨.type "ValueError", rfl, hg, hd 11 h12, .inr ⟨e, by decide +kernel, by decide +kernel⟩⟩
    · have : n = 12 := by omega
      subst this
      exact ⟨.type "Exception", rfl, hg, hd 12 h12, .inr ⟨e, by decide +kernel, by decide +kernel⟩⟩
theorem skyN {B : Heap} {l : List Env} {a : Addr} {cls : Value} {d : Option Addr} {L : Addr} {h : Heap} (k : Sky B l a (L2N.Zn cls d) L h) : Sky B l a (Zc cls d) L h := by
  rcases k with ⟨h1, h2, h3, o, v, h4, h5, h6⟩ | ⟨h1, h2, h3, o, v, T, oT, ts, h4, h5, h6⟩ | ⟨h1, h2, h3, o, v, T, oT, ts, h4, h5, h6⟩
  · exact .inl ⟨h1, h2, h3, o, v, h4, h5.zc, h6⟩
  · exact .inr (.inl ⟨h1, h2, h3, o, v, T, oT, ts, h4, h5.zc, h6⟩)
  · exact .inr (.inr ⟨h1, h2, h3, o, v, T, oT, ts, h4, h5.zc, h6⟩)
theorem takesN_of (tk : L2.Takes X W) : L2N.Takes X W := fun u s' ⟨a, B, sI, pins, σ, H, cls, d, e, I, nb, up, sky, r⟩ => tk u s' ⟨a, B, sI, pins, σ, H, cls, d, e, I, nb, up, skyN sky, r⟩
def sTryN (cs : List Nat) (n : Nat) (mb : SM) (bx : XM) (su : SM) : SM := fun ρ => match mb ρ with
  | some o => some o
  | none => (match bx ρ with
    | some (c, ρ1) => if (cs.contains c && exSub c n) = true then su ρ1 else none
    | none => none)
theorem sTryN_some {cs : List Nat} {n : Nat} {mb : SM} {bx : XM} {su : SM} {ρ : DE} {o : Out} (h : sTryN cs n mb bx su ρ = some o) :
    mb ρ = some o ∨ ∃ c ρ1, bx ρ = some (c, ρ1) ∧ c ∈ cs ∧ exSub c n = true ∧ su ρ1 = some o := by
  unfold sTryN at h
  split at h
  · rename_i e; exact .inl (by rw [e]; exact h)
  · split at h
    · rename_i c ρ1 e
      split at h
      · rename_i hc
        rw [Bool.and_eq_true] at hc
        exact .inr ⟨c, ρ1, e, List.contains_iff_mem.mp hc.1, hc.2, h⟩
      · cases h
    · cases h
theorem js_tryN {cs ns : List Nat} {n : Nat} {x : Str} {body suite : List Stmt} {b₀ : Stmt} {np pos' : Pos} {mb : SM} {bx : XM} {su : SM} (E : ExS X.K X.mg cs ns) (hs : X.stack = X.env :: X.outer) (hf : X.env.frame = some X.env.locals)
    (hn : ns.contains n = true) (hx : x = exNm n) (h12 : n ≤ 12) (hg : Gl X x)
    (hb : ∀ (W : WX) (pn : List (Addr × Obj)) (xe : Value → Shared → Prop), L2N.Takes (X.tr pn xe) W → PassesOwn (model X.prog X.w) X.A X.env xe → JB (X.tr pn xe) κ body mb κ2 rc ∧ JBX (X.tr pn xe) W κ body bx κx rc)
    (hsu : ∀ (c C : Nat) (a : Addr) (oe : Obj) (pn : List (Addr × Obj)), c ∈ cs → X.mg (exNm c) = some (.ref C) → Zc (.ref C) none oe → (∃ vs, oe.data = .fields vs) → JB (X.suite a ((a, oe) :: pn)) κx (b₀ :: suite) su κ2 rc) :
    JS X κ (.Try body [.ExceptHandler (some (.Name x np)) none (b₀ :: suite) pos'] [] [] pos) (sTryN cs n mb bx su) κ2 rc := by
  obtain ⟨hv, ev, hnm⟩ := exName E hn hx h12 hg
  refine ⟨fun s0 t ht => ?_⟩
  refine PS.imp (ps_try_only (X := X) (Wout := fun _ _ _ _ => False) (tb := fun W D σ H => jX X W κ bx κx rc s0 t σ H ∨ jTS X.K X.N.length κ mb κ2 rc s0 t D σ H)
    (ts := fun a cls d D σ H => ∃ c C, c ∈ cs ∧ X.mg (exNm c) = some (.ref C) ∧ cls = .ref C ∧ d = none ∧ jTS X.K X.N.length κx su κ2 rc s0 t D σ H) hs hf hnm takes_none5
    (fun W pn xe tk po => ?_) (fun a oe cls d pn hz hfl => ?_)) fun σ H D z q => ?_
  · obtain ⟨h1, h2⟩ := hb W pn xe (takesN_of tk) po
    have r1 := h1.run s0 t ht
    have r2 := h2.run s0 t ht
    exact ⟨fun pins s σ H D I q => q.elim (r2.run pins s σ H D I) (r1.run pins s σ H D I)⟩
  · refine ⟨fun pins s σ H D I q => ?_⟩
    obtain ⟨c, C, hc, hC, rfl, rfl, q⟩ := q
    exact ((hsu c C a oe pn hc hC hz hfl).run s0 t ht).run pins s σ H D I q
  · obtain ⟨g, ρ, S, fx, o, em, post⟩ := q z
    rcases sTryN_some em with e | ⟨c, ρ1, e, hc, hsub, ho⟩
    · exact .inr fun _ => ⟨g, ρ, S, fx, o, e, post⟩
    · refine .inl fun _ => ⟨g, ρ, S, fx, c, ρ1, e, fun C σ' H' g' hC S' P' F' => ⟨true, ?_, fun _ a ha => ⟨c, C, hc, hC, rfl, rfl, fun en => ?_⟩, fun z => nomatch z⟩⟩
      · rw [(E.em c hc n (List.contains_iff_mem.mp hn) C hv hC ev).1, hsub]
      · exact ⟨g', ρ1, S', F', o, ho, post.pre P'⟩
theorem excCB_ok {D : Addr} (h : excCB K D = true) : ExcC K D := by
  obtain ⟨h1, h⟩ := He.ba h
  obtain ⟨h2, h⟩ := He.ba h
  obtain ⟨h3, h⟩ := He.ba h
  obtain ⟨h4, h⟩ := He.ba h
  obtain ⟨h5, h⟩ := He.ba h
  obtain ⟨h6, h⟩ := He.ba h
  obtain ⟨h7, h8⟩ := He.ba h
  exact ⟨He.eqO_ok h1, He.eqO_ok h2, of_decide_eq_true h3, h4, He.eqO_ok h5, He.eqO_ok h6, of_decide_eq_true h7, of_decide_eq_true h8⟩
theorem exs_ok {h : Heap} {cs ns : List Nat} (X : K.In h) (G : h.Ns mainGlobals mg) (e : exsB K cs ns = true) : ExS K mg cs ns := by
  obtain ⟨e1, e2⟩ := He.ba e
  have at1 : ∀ c ∈ cs, He.Fa.ok K (.exc (exNm c)) = true ∧ mg (exNm c) = some (.ref (He.ga K (exNm c))) ∧ excCB K (He.ga K (exNm c)) = true ∧
      ∀ n ∈ ns, PySem.W.exmOne K (.ref (He.ga K (exNm c))) (vB K n) = some (exSub c n) ∧ PySem.W.kitOne K (.ref (He.ga K (exNm c))) (vB K n) = some (exSub c n) := fun c hc => by
    obtain ⟨a1, a⟩ := He.ba (List.all_eq_true.mp e1 c hc)
    obtain ⟨a2, a⟩ := He.ba a
    obtain ⟨a3, a4⟩ := He.ba a
    refine ⟨a1, He.glo_ok X G a2, a3, fun n hn => ?_⟩
    obtain ⟨b1, b2⟩ := He.ba (List.all_eq_true.mp a4 n hn)
    exact ⟨of_decide_eq_true b1, of_decide_eq_true b2⟩
  have at2 : ∀ n ∈ ns, (n ≤ 10 → mg (exNm n) = some (.ref (He.ga K (exNm n)))) ∧ (¬ n ≤ 10 → mg (exNm n) = none) := fun n hn => by
    have a := List.all_eq_true.mp e2 n hn
    refine ⟨fun h => ?_, fun h => ?_⟩
    · rw [if_pos h] at a
      exact He.glo_ok X G a
    · rw [if_neg h] at a
      exact He.free_ok X G a
  have un : ∀ {c C}, c ∈ cs → mg (exNm c) = some (.ref C) → C = He.ga K (exNm c) := fun {c C} hc e => by
    have := (at1 c hc).2.1.symm.trans e
    injection this with this
    injection this with this
    exact this.symm
  refine ⟨fun c hc C eC => ?_, fun c hc C eC => ?_, fun c hc => ⟨_, (at1 c hc).2.1⟩, fun n hn h => ⟨_, (at2 n hn).1 h⟩, fun n hn h => (at2 n hn).2 h, fun c hc n hn C v eC ev => ?_⟩
  · rw [un hc eC]
    exact He.exc_ok (at1 c hc).1
  · rw [un hc eC]
    exact excCB_ok (at1 c hc).2.2.1
  · rw [un hc eC]
    have : v = vB K n := by
      unfold exVal at ev
      unfold vB
      by_cases h : n ≤ 10
      · rw [if_pos h] at ev ⊢
        have := ((at2 n hn).1 h).symm.trans ev
        injection this with this
        exact this.symm
      · rw [if_neg h] at ev ⊢
        by_cases h2 : n = 11
        · rw [if_pos h2] at ev ⊢; injection ev with ev; exact ev.symm
        · rw [if_neg h2] at ev ⊢; injection ev with ev; exact ev.symm
    rw [this]
    exact (at1 c hc).2.2.2 n hn
end VS
namespace VS
open PySem PySem.Spec PyProof.Rows L2
section
variable {α : Type} {ρ ρ1 ρ2 : DE} {kn : DE → Option α} {kr : D → DE → Option α} {k : D → DE → Option α}
theorem run_cs (s : SM) (ρ : DE) : s ρ = cs s ρ (fun ρ1 => some (.nx ρ1)) fun d ρ1 => some (.rt d ρ1) := by
  unfold cs
  rcases s ρ with _ | o
  · rfl
  cases o <;> rfl
theorem cs_tryN_n {es : List Nat} {n : Nat} {mb : SM} {bx : XM} {su : SM} {o : Out} (h : mb ρ = some o) : cs (sTryN es n mb bx su) ρ kn kr = cs mb ρ kn kr := by
  unfold cs sTryN
  rw [h]
theorem cs_tryN_x {es : List Nat} {n c : Nat} {mb : SM} {bx : XM} {su : SM} (h : mb ρ = none) (hx : bx ρ = some (c, ρ1)) (hc : (es.contains c && exSub c n) = true) : cs (sTryN es n mb bx su) ρ kn kr = cs su ρ1 kn kr := by
  unfold cs sTryN
  rw [h, hx]
  simp only [hc, if_true]
def orX (a b : Option (Nat × DE)) : Option (Nat × DE) := match a with
  | some x => some x
  | none => b
theorem orX_n {b : Option (Nat × DE)} : orX none b = b := rfl
theorem orX_s {x : Nat × DE} {b : Option (Nat × DE)} : orX (some x) b = some x := rfl
theorem xSeq_e {ax bx : XM} {a : SM} : xSeq ax a bx ρ = orX (ax ρ) (cs a ρ bx fun _ _ => none) := by
  unfold xSeq orX cs
  rcases ax ρ with _ | x
  · simp only []
    rcases a ρ with _ | o
    · rfl
    cases o <;> rfl
  · rfl
theorem xCall_e {fx : FX} {ml : ML} : xCall fx ml ρ = cl ml ρ fun xs ρ1 => bo (fx xs) fun c => some (c, ρ1) := by
  unfold xCall cl
  rcases ml ρ with _ | ⟨xs, ρ1⟩
  · rfl
  simp only [Option.bind_some, bo]
  rcases fx xs with _ | c <;> rfl
theorem xNo_e : xNo ρ = none := rfl
theorem fx_run {np n : Nat} {m : XM} {ds : List D} (h : ds.length = np) : fxM np n m ds = bo (m (ds.map some ++ List.replicate (n - ds.length) none)) fun x => some x.1 := by
  unfold fxM
  rw [if_pos h]
  rcases m (ds.map some ++ List.replicate (n - ds.length) none) with _ | x <;> rfl
end
end VS
namespace VS
open PySem PySem.Spec PyProof.Rows L2
variable {K : PySem.W.Frag} {X : Cx} {W : WX} {κ κ1 κ2 κx : OE} {pos : Pos} {rc : RC}
def itX (mg : MG) (mb : SM) (bx : XM) : List D → XM
  | [], _ => none
  | d :: ds, ρ => (mg d ρ).bind fun ρ1 => match bx ρ1 with
    | some x => some x
    | none => (match mb ρ1 with
      | some (.nx ρ2) => itX mg mb bx ds ρ2
      | _ => none)
def xFor (ml : ML) (mg : MG) (mb : SM) (bx : XM) : XM := fun ρ => (ml ρ).bind fun x => itX mg mb bx x.1 x.2
theorem xFor_some {ml : ML} {mg : MG} {mb : SM} {bx : XM} {ρ : DE} {o : Nat × DE} (h : xFor ml mg mb bx ρ = some o) : ∃ ds ρ1, ml ρ = some (ds, ρ1) ∧ itX mg mb bx ds ρ1 = some o := by
  unfold xFor at h
  cases e : ml ρ with
  | none => rw [e] at h; cases h
  | some p => rw [e] at h; exact ⟨p.1, p.2, rfl, h⟩
theorem itX_cons {mg : MG} {mb : SM} {bx : XM} {d : D} {ds : List D} {ρ : DE} {o : Nat × DE} (h : itX mg mb bx (d :: ds) ρ = some o) : ∃ ρ1, mg d ρ = some ρ1 ∧ (bx ρ1 = some o ∨ ∃ ρ2, mb ρ1 = some (.nx ρ2) ∧ itX mg mb bx ds ρ2 = some o) := by
  have h' : (mg d ρ).bind (fun ρ1 => match bx ρ1 with
    | some x => some x
    | none => (match mb ρ1 with
      | some (.nx ρ2) => itX mg mb bx ds ρ2
      | _ => none)) = some o := h
  cases e : mg d ρ with
  | none => rw [e] at h'; cases h'
  | some ρ1 =>
    rw [e] at h'
    simp only [Option.bind_some] at h'
    refine ⟨ρ1, rfl, ?_⟩
    split at h'
    · rename_i e1; exact .inl (by rw [e1]; exact h')
    · split at h'
      · exact .inr ⟨_, by assumption, h'⟩
      · cases h'
theorem jsx_for {tg iter : Expr} {b : List Stmt} {ml : ML} {mg : MG} {mb : SM} {bx : XM} {ts : List Nat} (hp : PassesOwn (model X.prog X.w) X.A X.env X.xe) (hc : X.calm = true) {pu : Bool} (hi : JI X κ tg iter ml κ1 pu) (hg : JG X κ1 tg mg κ2 ts) (hb : JB X κ2 b mb κ1 rc) (hx : JBX X W κ2 b bx κx rc)
    (hf : notFxs rc ts = true) (hs : ∀ x, foldedSetIterable iter X.env x = pure x) : JSX X W κ (.For tg iter b [] pos) (xFor ml mg mb bx) κx rc := by
  refine ⟨fun s0 t ht => PS.imp (ps_for (tb := fun D σ H => jX X W κ2 bx κx rc s0 t σ H ∨ jTS X.K X.N.length κ2 mb κ1 rc s0 t D σ H) hp hc (hi.run t ht) (hg.run t ht)
    ⟨fun pins s σ H D I q => q.elim ((hx.run s0 t ht).run pins s σ H D I) ((hb.run s0 t ht).run pins s σ H D I)⟩ hs) fun σ H D z q => ?_⟩
  obtain ⟨g, ρ, S, fx, c, ρ', em, post⟩ := q z
  obtain ⟨ds, ρ1, e1, e2⟩ := xFor_some em
  refine fun _ => ⟨g, ρ, S, ds, ρ1, e1, fun J0 src H1 g1 S1 P1 _ dl s1 => ?_⟩
  refine ⟨fun i m σ' H' => m = ds.length - i ∧ i ≤ ds.length ∧ ∃ g' ρ2, Sok X.K κ1 ρ2 g' σ' H' ∧ Fx rc s0 σ' ∧ src g' H' ∧ itX mg mb bx (ds.drop i) ρ2 = some (c, ρ') ∧ Pres X.N.length t g H g' H', ⟨ds.length, by omega, Nat.zero_le _, g1, ρ1, S1, fx, s1, e2, P1⟩, ?_⟩
  rintro i m σ2 H2 ⟨rfl, hle, g2, ρ2, S2, fx2, s2, e3, P2⟩
  by_cases hlt : i < ds.length
  · obtain ⟨d, ed⟩ := ex_at hlt
    rw [drop_cons ed] at e3
    obtain ⟨ρ3, e4, e5⟩ := itX_cons e3
    refine .inr ⟨dl.go i g2 H2 s2 hlt, fun σ' H' => i + 1 ≤ ds.length ∧ ∃ g' ρ2, Sok X.K κ1 ρ2 g' σ' H' ∧ Fx rc s0 σ' ∧ src g' H' ∧ itX mg mb bx (ds.drop (i + 1)) ρ2 = some (c, ρ') ∧ Pres X.N.length t g H g' H', fun σ' H' hh => ⟨ds.length - (i + 1), by omega, rfl, hh⟩, fun x H' y => ?_⟩
    obtain ⟨sm, ox⟩ := dl.yld i g2 H2 x H' d s2 S2.gok y ed
    have P3 : Pres X.N.length t g2 H2 g2 H' := Pres.grow S2.gok sm
    refine fun _ => ⟨g2, ρ2, d, S2.grow sm, ox, ρ3, e4, fun σ4 g4 S4 P4 f4 => ?_⟩
    have fx4 := fx2.sets hf f4
    have P5 := P3.trans P4
    have s4 := dl.keep _ _ _ _ s2 P5.fz P5.tu
    rcases e5 with eb | ⟨ρ5, eb, e6⟩
    · exact .inl fun _ => ⟨g4, ρ3, S4, fx4, c, ρ', eb, (post.pre P2).pre P5⟩
    · exact .inr fun _ => ⟨g4, ρ3, S4, fx4, _, eb, fun σ' H6 g6 S6 P6 F6 => ⟨hlt, g6, ρ5, S6, F6, dl.keep _ _ _ _ s4 P6.fz P6.tu, e6, P2.trans (P5.trans P6)⟩⟩
  · have hi' : i = ds.length := by omega
    subst hi'
    rw [List.drop_length] at e3
    cases e3
section
variable {α : Type} {ρ : DE}
theorem itX_c {mg : MG} {mb : SM} {bx : XM} {d : D} {ds : List D} : itX mg mb bx (d :: ds) ρ = bo (mg d ρ) fun ρ1 => orX (bx ρ1) (cs mb ρ1 (itX mg mb bx ds) fun _ _ => none) := by
  show (mg d ρ).bind _ = _
  rcases mg d ρ with _ | ρ1
  · rfl
  simp only [Option.bind_some, bo]
  rcases bx ρ1 with _ | x
  · simp only [orX, cs]
    rcases mb ρ1 with _ | o
    · rfl
    cases o <;> rfl
  · rfl
theorem xFor_e {ml : ML} {mg : MG} {mb : SM} {bx : XM} : xFor ml mg mb bx ρ = cl ml ρ fun ds ρ1 => itX mg mb bx ds ρ1 := by
  unfold xFor cl
  rcases ml ρ with _ | ⟨xs, ρ1⟩ <;> rfl
end
end VS
namespace VS
open PySem PySem.Spec PyProof.Rows L2
variable {K : PySem.W.Frag} {X : Cx} {W : WX} {κ κ1 κ2 κx : OE} {pos : Pos} {rc : RC}
end VS
namespace VS
open PySem PySem.Spec PyProof.Rows L2 L2H
variable {P : Program} {w : World} {K : PySem.W.Frag} {mg : Str → Option Value} {base : Heap}
variable {X : Cx} {W : WX} {κ κ1 κ2 κ3 κ4 κx : OE} {pos : Pos} {rc : RC}
theorem exc_name {cs ns : List Nat} {n : Nat} {x : Str} {p3 : Pos} (E : ExS X.K X.mg cs ns) (hn : ns.contains n = true) (hx : x = exNm n) (h12 : n ≤ 12) (hg : Gl X x) :
    ∃ (v : Value) (cv : V), exVal X.mg n = some v ∧ PE X (.Name x p3) (tC cv) ∧ ∀ u, RelV cv u → u = v := by
  obtain ⟨v, ev, hg', hd, hnm⟩ := exName E hn hx h12 hg
  subst hx
  have hn' : n ∈ ns := List.contains_iff_mem.mp hn
  rcases hnm with hm | ⟨hm, hb, hne⟩
  · by_cases h : n ≤ 10
    · obtain ⟨A, eA⟩ := E.own n hn' h
      cases hm.symm.trans eA
      exact ⟨_, .ref A, ev, pe_glob hg' hm rfl hd, fun u r => r⟩
    · cases (E.blt n hn' h).symm.trans hm
  · by_cases h : n ≤ 10
    · obtain ⟨A, eA⟩ := E.own n hn' h
      cases eA.symm.trans hm
    · have ev' := ev
      unfold exVal at ev'
      rw [if_neg h] at ev'
      split at ev'
      · cases ev'; exact ⟨_, .ty "ValueError", ev, pe_bltn hg' hm hb rfl hne hd, fun u r => r⟩
      · cases ev'; exact ⟨_, .ty "Exception", ev, pe_bltn hg' hm hb rfl hne hd, fun u r => r⟩
inductive ExNs (X : Cx) (cs ns : List Nat) : List Expr → List Nat → Prop where
  | nil : ExNs X cs ns [] []
  | cons {n : Nat} {x : Str} {p : Pos} {es : List Expr} {l : List Nat} (hn : ns.contains n = true) (hx : x = exNm n) (h12 : n ≤ 12) (hg : Gl X x) (r : ExNs X cs ns es l) : ExNs X cs ns (.Name x p :: es) (n :: l)
theorem ExNs.pa {cs ns : List Nat} (E : ExS X.K X.mg cs ns) {c C : Nat} (hc : c ∈ cs) (hC : X.mg (exNm c) = some (.ref C)) : ∀ {es l}, ExNs X cs ns es l →
    ∃ (t : TA) (vs : List V) (us : List Value), PA X es t ∧ (∀ σ H Q, Q vs H → t σ H Q) ∧ vs.length = l.length ∧ (∀ ws, Vals vs ws → ws = us) ∧ PySem.W.kitAny X.K (.ref C) us = some (l.any fun n => exSub c n) := by
  intro es l h
  induction h with
  | nil => exact ⟨_, [], [], pa_nil, fun σ H Q q => q, rfl, fun ws r => by cases r; rfl, rfl⟩
  | @cons n x p es l hn hx h12 hg r ih =>
    obtain ⟨t, vs, us, h1, h2, hn2, h3, h4⟩ := ih
    obtain ⟨v, cv, ev, hv, hu⟩ := exc_name (p3 := p) E hn hx h12 hg
    have hem := (E.em c hc n (List.contains_iff_mem.mp hn) C v hC ev).2
    refine ⟨_, cv :: vs, v :: us, pa_cons hv h1, fun σ H Q q => ?_, by simp [hn2], fun ws r => ?_, ?_⟩
    · exact h2 σ H _ q
    · cases r with
      | cons a b => rw [hu _ a, h3 _ b]
    · show (match PySem.W.kitOne X.K (.ref C) v with | some true => some true | some false => PySem.W.kitAny X.K (.ref C) us | none => none) = _
      rw [hem, List.any_cons]
      cases exSub c n
      · simpa using h4
      · rfl
structure FnZ (P : Program) (w : World) (K : PySem.W.Frag) (mg : Str → Option Value) (base : Heap) (C k : Nat) (f : Addr) (fd : FuncData) (ps : List Str) (sp : Addr → Sp) : Prop where
  len : ∀ a vs H Q E, sp a vs H Q E → vs.length = ps.length
  run : ∀ (A : Around) (outer : List Env) (s : Shared) (H : Hp) (as : Args) (us : List Value) (vs : List V) (Q : VK) (E : XK) (p : Addr × Obj), RoomH k A ∧ Hot1 A p ∧ L2N.Zn (.ref C) none p.2 ∧ PinOk outer H s p ∧ Env0 P w K mg base A outer s H →
    BindsTo s fd as (ps.zip us) → Vals vs us → sp p.1 vs H Q E → codeAny (model P w) A (.call (.ref f) as) (CR CX0 outer P w H s Q E) s
structure HasZ (P : Program) (w : World) (K : PySem.W.Frag) (mg : Str → Option Value) (base : Heap) (cs : List Nat) (x : Str) (lev : Nat) (ps : List Str) (sg : Sg) (f : Nat → Addr → FM) : Prop where
  ex : ∃ fa fd, mg x = some (.ref fa) ∧ PySem.W.keepIn K (.ref fa) = true ∧ Binds K fd ps [] ∧
    ∀ c ∈ cs, ∀ C, mg (exNm c) = some (.ref C) → FnZ P w K mg base C lev fa fd ps fun a => fnSp K sg (f c a)
structure JIH (X : Cx) (κ : OE) (tg iter : Expr) (m : ML) (κ' : OE) (pu : Bool) : Prop where
  run : ∀ t, X.N.length ≤ t → PIH X tg iter (fun σ H R => En X.N.length σ H → ∃ g ρ, Sok X.K κ ρ g σ H ∧ ∃ ds ρ', m ρ = some (ds, ρ') ∧
    ∀ J0 src H' g', Sok X.K κ' ρ' g' σ H' → Pres X.N.length t g H g' H' → (pu = true → Same H H') → Dlv X.K J0 src ds → src g' H' → R J0 H')
  pur : pu = true → ∀ ρ ds ρ', m ρ = some (ds, ρ') → ρ' = ρ
theorem PIH.imp {tg iter : Expr} {w w' : TI} (h : PIH X tg iter w) (f : ∀ σ H R, En X.N.length σ H → w' σ H R → w σ H R) : PIH X tg iter w' :=
  ⟨fun pins s σ H R I q => h.run pins s σ H R I (f σ H R ⟨Inv.sz I, I.len⟩ q)⟩
end VS
namespace VS
open PySem PySem.Spec PyProof.Rows L2 L2H
variable {P : Program} {w : World} {K : PySem.W.Frag} {mg : Str → Option Value} {base : Heap}
variable {X : Cx} {W : WX} {κ κ1 κ2 κ3 κ4 κx : OE} {pos : Pos} {rc : RC}
structure JTX (X : Cx) (W : WX) (κ : OE) (e : Expr) (m : XM) (κx : OE) (rc : RC) : Prop where
  run : ∀ s0 t, X.N.length ≤ t → PT X e (fun σ H _ => jX X W κ m κx rc s0 t σ H)
structure JAX (X : Cx) (W : WX) (κ : OE) (es : List Expr) (m : XM) (κx : OE) (rc : RC) : Prop where
  run : ∀ s0 t, X.N.length ≤ t → PA X es (fun σ H _ => jX X W κ m κx rc s0 t σ H)
structure JIX (X : Cx) (W : WX) (κ : OE) (tg e : Expr) (m : XM) (κx : OE) (rc : RC) : Prop where
  run : ∀ s0 t, X.N.length ≤ t → PI X tg e (fun σ H _ => jX X W κ m κx rc s0 t σ H)
theorem pe_no {e : Expr} : PE X e (fun _ _ _ => False) := ⟨fun _ _ _ _ _ _ q => q.elim⟩
theorem pss_no {es : List Stmt} : PSs X es (fun _ _ _ => False) := ⟨fun _ _ _ _ _ _ q => q.elim⟩
theorem pg_no {e : Expr} : PG X e (fun _ _ _ _ => False) := ⟨fun _ _ _ _ _ _ _ _ _ q => q.elim⟩
theorem jx_in {e a : Expr} {m : XM} (h : JX X W κ a m κx rc) (mk : ∀ ta, PE X a ta → ∃ k : L2.St → Hp → (V → Hp → Prop) → V → Hp → Prop, PE X e (fun σ H Q => ta σ H (k σ H Q))) : JX X W κ e m κx rc :=
  ⟨fun s0 t ht => (mk _ (h.run s0 t ht)).elim fun _ z => z⟩
theorem jix_in {tg e a : Expr} {m : XM} (h : JX X W κ a m κx rc) (mk : ∀ ta, PE X a ta → ∃ k : L2.St → Hp → (It → Hp → Prop) → V → Hp → Prop, PI X tg e (fun σ H Q => ta σ H (k σ H Q))) : JIX X W κ tg e m κx rc :=
  ⟨fun s0 t ht => (mk _ (h.run s0 t ht)).elim fun _ z => z⟩
theorem jsx_inI {e : Stmt} {tg a : Expr} {m : XM} (h : JIX X W κ tg a m κx rc) (mk : ∀ ta, PI X tg a ta → ∃ k : _ → L2.St → Hp → It → Hp → Prop, PS X e (fun D σ H => ta σ H (k D σ H))) : JSX X W κ e m κx rc :=
  ⟨fun s0 t ht => (mk _ (h.run s0 t ht)).elim fun _ z => z⟩
def xOr (a b : XM) : XM := fun ρ => match a ρ with
  | some x => some x
  | none => b ρ
theorem xOr_some {a b : XM} {ρ : DE} {x : Nat × DE} (h : xOr a b ρ = some x) : a ρ = some x ∨ b ρ = some x := by
  unfold xOr at h
  split at h
  · rename_i e; exact .inl (e.trans h)
  · exact .inr h
theorem jX.or {a b : XM} {s0 : L2.St} {t : Nat} {σ : L2.St} {H : Hp} (en : En X.N.length σ H) (q : jX X W κ (xOr a b) κx rc s0 t σ H) : jX X W κ a κx rc s0 t σ H ∨ jX X W κ b κx rc s0 t σ H := by
  obtain ⟨g, ρ, S, fx, c, ρ', em, post⟩ := q en
  rcases xOr_some em with e | e
  · exact .inl fun _ => ⟨g, ρ, S, fx, c, ρ', e, post⟩
  · exact .inr fun _ => ⟨g, ρ, S, fx, c, ρ', e, post⟩
theorem JX.or {e : Expr} {a b : XM} (ha : JX X W κ e a κx rc) (hb : JX X W κ e b κx rc) : JX X W κ e (xOr a b) κx rc :=
  ⟨fun s0 t ht => ⟨fun pins s σ H Q I q => (jX.or ⟨Inv.sz I, I.len⟩ q).elim ((ha.run s0 t ht).run pins s σ H Q I) ((hb.run s0 t ht).run pins s σ H Q I)⟩⟩
theorem JTX.or {e : Expr} {a b : XM} (ha : JTX X W κ e a κx rc) (hb : JTX X W κ e b κx rc) : JTX X W κ e (xOr a b) κx rc :=
  ⟨fun s0 t ht => ⟨fun pins s σ H Q I q => (jX.or ⟨Inv.sz I, I.len⟩ q).elim ((ha.run s0 t ht).run pins s σ H Q I) ((hb.run s0 t ht).run pins s σ H Q I)⟩⟩
theorem JSX.or {e : Stmt} {a b : XM} (ha : JSX X W κ e a κx rc) (hb : JSX X W κ e b κx rc) : JSX X W κ e (xOr a b) κx rc :=
  ⟨fun s0 t ht => ⟨fun pins s σ H Q I q => (jX.or ⟨Inv.sz I, I.len⟩ q).elim ((ha.run s0 t ht).run pins s σ H Q I) ((hb.run s0 t ht).run pins s σ H Q I)⟩⟩
theorem JAX.or {e : List Expr} {a b : XM} (ha : JAX X W κ e a κx rc) (hb : JAX X W κ e b κx rc) : JAX X W κ e (xOr a b) κx rc :=
  ⟨fun s0 t ht => ⟨fun pos pins s σ H Q I q => (jX.or ⟨Inv.sz I, I.len⟩ q).elim ((ha.run s0 t ht).run pos pins s σ H Q I) ((hb.run s0 t ht).run pos pins s σ H Q I)⟩⟩
end VS
namespace VS
open PySem PySem.Spec PyProof.Rows L2 L2H
variable {P : Program} {w : World} {K : PySem.W.Frag} {mg : Str → Option Value} {base : Heap}
variable {X : Cx} {W : WX} {κ κ1 κ2 κ3 κ4 κx : OE} {pos : Pos} {rc : RC}
def subG (i : Nat) (p : List Nat) (t : Nat) (g : G) : G := fun a => match g a with
  | .ow r q => if r = i then (if q.drop (q.length - p.length) = p then .ow t (q.take (q.length - p.length)) else .un) else .ow r q
  | z => z
section
variable {i t : Nat} {p : List Nat} {g : G} {a : Addr}
theorem subG_fz (h : g a = .fz) : subG i p t g a = .fz := by unfold subG; rw [h]
theorem subG_un (h : g a = .un) : subG i p t g a = .un := by unfold subG; rw [h]
theorem subG_at {q : List Nat} (h : g a = .ow i (q ++ p)) : subG i p t g a = .ow t q := by
  unfold subG
  rw [h]
  simp
theorem subG_o {r : Nat} {q : List Nat} (hr : r ≠ i) (h : g a = .ow r q) : subG i p t g a = .ow r q := by unfold subG; rw [h]; simp [hr]
theorem subG_ne (h : subG i p t g a ≠ .un) : g a ≠ .un := fun z => h (subG_un z)
theorem subG_inv {r : Nat} {q : List Nat} (hr : r ≠ t) (h : subG i p t g a = .ow r q) : g a = .ow r q := by
  unfold subG at h
  split at h
  · split at h
    · split at h
      · cases h; exact (hr rfl).elim
      · cases h
    · rename_i e _; cases h; exact e
  · exact h
end
def dIxQ : D → D → Option D
  | .lst xs, .int i => atI xs i
  | .tup xs, .int i => atI xs i
  | _, _ => none
theorem r_iqL {xs : List D} {i : Int} : dIxQ (.lst xs) (.int i) = atI xs i := rfl
theorem j_ixO {a b : Expr} {ma mb : M} {rb : Rz} {pa pb : Bool} {k : Nat} (ha : J X κ a ma (.own k) κ1 pa) (hb : J X κ1 b mb rb κ2 pb) (hs : PlainIx b) : J X κ (.Subscript a b pos) (m2 dIxQ ma mb) (.own (lv k)) κ2 (pa && pb) := by
  refine ⟨fun t ht => PE.imp (pe_ix ix_seq (ha.run t ht) (hb.run (t + 1) (by omega)) hs) fun σ H Q z q => ?_, fun hp ρ d ρ' h => ?_⟩
  · obtain ⟨g, ρ, S, d, ρ', em, post⟩ := q z
    obtain ⟨x, ρ1, y, ea, eb, ec⟩ := m2_some em
    refine two (K := X.K) (κ2 := κ2) ht rfl S ea eb z fun v u H' g' S' P' s' r1 r2 => ?_
    have fin : ∀ {ds : List D} {vs : List V} {j : Nat} {w : V}, OwnL X.K H' g' ds (lv k) t [] 0 vs → ds[j]? = some d → vs[j]? = some w → Q w H' := fun {ds vs j w} h2 k1 k2 => by
      obtain ⟨w', e3, o⟩ := ownL_get h2 k1
      rw [k2] at e3
      cases e3
      refine post w H' (subG t [0 + j] t g') ⟨fun m k' d2 h1 h2 => ?_, fun a h => S'.gok a (subG_ne h), S'.len, S'.lek⟩ (P'.trans ⟨fun a z => ⟨subG_fz z, rfl⟩, fun a z _ => ⟨subG_un z, rfl⟩, fun a r q h1 h2 z => ⟨subG_o (by omega) z, rfl⟩, fun a r q h1 h2 z => subG_inv (by omega) z, fun _ _ z _ => z⟩) s' ?_
      · obtain ⟨v', es', w⟩ := S'.ok m k' d2 h1 h2
        have hm : m < X.N.length := by
          have h3 := (List.getElem?_eq_some_iff.mp es').1
          have h4 := z.2
          omega
        exact ⟨v', es', own_conv (fun _ _ z _ => z) d2 (.inr fun a z => ⟨subG_fz z, rfl⟩) (fun a q z hh => ⟨rfl, by rw [if_pos hh]; exact subG_o (by omega) z⟩) (fun _ z => z) w⟩
      · exact own_conv (fun _ _ z _ => z) d (.inr fun a z => ⟨subG_fz z, rfl⟩) (fun a q z hh => ⟨rfl, by rw [if_pos hh, subG_at z]; simp⟩) (fun _ z => z) o
    unfold dIxQ at ec
    split at ec
    · obtain ⟨a, vs, rfl, h1, _, h2⟩ := r1
      cases (show _ = _ from r2.rep)
      obtain ⟨w, e1, e2⟩ := atI_rep (ownL_repL _ h2) ec
      obtain ⟨j, k1, k2⟩ := atI_at (ownL_len h2) e1 ec
      exact .inl ⟨a, vs, _, w, rfl, rfl, SqL.of h1, e1, fin h2 k2 k1⟩
    · obtain ⟨a, vs, rfl, h1, h2⟩ := r1
      cases (show _ = _ from r2.rep)
      obtain ⟨w, e1, e2⟩ := atI_rep (ownL_repL _ h2) ec
      obtain ⟨j, k1, k2⟩ := atI_at (ownL_len h2) e1 ec
      exact .inr (.inl ⟨a, vs, _, w, rfl, rfl, h1.sq, e1, fin h2 k2 k1⟩)
    · cases ec
  · rw [Bool.and_eq_true] at hp
    obtain ⟨x, ρ1, y, ea, eb, ec⟩ := m2_some h
    rw [hb.pur hp.2 _ _ _ eb, ha.pur hp.1 _ _ _ ea]
end VS
namespace VS
open PySem PySem.Spec PyProof.Rows L2
variable {K : PySem.W.Frag} {X : Cx} {κ κ1 κ2 κ3 κ4 : OE} {pos : Pos} {rc : RC}
open Classical in
noncomputable def mAt (ρ0 : DE) (m : ML) : ML := fun ρ => if ρ = ρ0 then m ρ else none
theorem mAt_some {ρ0 ρ : DE} {m : ML} {r : List D × DE} (h : mAt ρ0 m ρ = some r) : ρ = ρ0 ∧ m ρ = some r := by
  unfold mAt at h
  split at h
  · exact ⟨by assumption, h⟩
  · cases h
theorem mAt_self {ρ0 : DE} {m : ML} : mAt ρ0 m ρ0 = m ρ0 := by
  unfold mAt
  rw [if_pos rfl]
end VS
namespace VS
open PySem PySem.Spec PyProof.Rows L2 PySem.Calls
variable {K : PySem.W.Frag} {X : Cx} {κ κ1 κ2 κ3 κ4 : OE} {pos : Pos} {rc : RC}
section
variable {i t : Nat} {L a : Addr} {f : List Nat → Option (List Nat)} {g : G}
end
def mNl (m : M) : M := fun ρ => match m ρ with
  | some (d, ρ1) => if noL d = true then some (d, ρ1) else none
  | _ => none
theorem mNl_some {m : M} {ρ ρ' : DE} {d : D} (h : mNl m ρ = some (d, ρ')) : m ρ = some (d, ρ') ∧ noL d = true := by
  unfold mNl at h
  split at h
  · split at h
    · cases h; exact ⟨by assumption, by assumption⟩
    · cases h
  · cases h
theorem J.noL {e : Expr} {m : M} {pu : Bool} {k : Nat} (h : J X κ e m (.own k) κ1 pu) {k' : Nat} : J X κ e (mNl m) (.own k') κ1 pu := by
  refine ⟨fun t ht => PE.imp (h.run t ht) fun σ H Q z q _ => ?_, fun hp ρ d ρ' e => h.pur hp _ _ _ (mNl_some e).1⟩
  obtain ⟨g, ρ, S, d, ρ', em, post⟩ := q z
  obtain ⟨e1, e2⟩ := mNl_some em
  exact ⟨g, ρ, S, d, ρ', e1, fun v H' g' S' P' s' r' => post v H' g' S' P' s' (own_noL d e2 r')⟩
section
variable {t i m : Nat} {g : G} {a : Addr}
end
end VS
namespace VS
open PySem PySem.Spec PyProof.Rows L2
variable {K : PySem.W.Frag} {X : Cx} {κ κ1 κ2 κ3 κ4 : OE} {pos : Pos} {rc : RC}
def intsA : List D → Option (List Int)
  | [] => some []
  | .int i :: ds => (intsA ds).map fun r => i :: r
  | _ => none
def nkA : D → Option NK
  | .tup ds => intsA ds
  | _ => none
def nkD (k : NK) : D := .tup (k.map D.int)
theorem intsA_rep {H : Hp} : ∀ {ds : List D} {r : List Int} {vs : List V}, intsA ds = some r → RepL K H ds vs → vs = r.map V.int
  | [], _, _, e, h => by cases e; exact h
  | .int i :: ds, r, _, e, h => by
    obtain ⟨v, w, rfl, h1, h2⟩ := h
    have e' : ((intsA ds).map fun r => i :: r) = some r := e
    cases e1 : intsA ds with
    | none => rw [e1] at e'; cases e'
    | some r2 =>
      rw [e1] at e'
      cases e'
      cases (show v = V.int i from h1)
      rw [intsA_rep e1 h2]
      rfl
  | .non :: _, _, _, e, _ => nomatch e
  | .bl _ :: _, _, _, e, _ => nomatch e
  | .str _ :: _, _, _, e, _ => nomatch e
  | .tup _ :: _, _, _, e, _ => nomatch e
  | .lst _ :: _, _, _, e, _ => nomatch e
  | .rol _ :: _, _, _, e, _ => nomatch e
  | .dic _ _ :: _, _, _, e, _ => nomatch e
  | .nd _ _ :: _, _, _, e, _ => nomatch e
  | .obj _ :: _, _, _, e, _ => nomatch e
  | .gon :: _, _, _, e, _ => nomatch e
  | .ins _ _ :: _, _, _, e, _ => nomatch e
theorem nkA_rep {H : Hp} {d : D} {k : NK} {v : V} (e : nkA d = some k) (h : Rep K H d v) : ∃ b, v = .ref b ∧ KN K H k b := by
  unfold nkA at e
  split at e
  · obtain ⟨b, vs, rfl, hb, hu⟩ := h
    rw [intsA_rep e hu] at hb
    exact ⟨b, rfl, hb⟩
  · cases e
theorem intsA_map : ∀ r : List Int, intsA (r.map D.int) = some r
  | [] => rfl
  | i :: r => by
    show ((intsA (r.map D.int)).map fun r => i :: r) = _
    rw [intsA_map r]
    rfl
theorem ownL_ints {H : Hp} {g : G} {k r : Nat} {p : List Nat} : ∀ (xs : List Int) (i : Nat), OwnL K H g (xs.map D.int) k r p i (xs.map V.int)
  | [], _ => rfl
  | x :: xs, i => ⟨V.int x, xs.map V.int, rfl, rfl, ownL_ints xs (i + 1)⟩
theorem own_nkD {H : Hp} {g : G} {k : Nat} {r : Nat} {p : List Nat} {x : NK} {b : Addr} (h : KN K H x b) : Own K H g (nkD x) k r p (.ref b) :=
  ⟨b, _, rfl, h, ownL_ints _ _⟩
theorem valN_at {k : NK} : ∀ {es : List NEn}, valN es k = ((es.map (·.1)).findIdx? fun j => decide (j = k)).bind fun j => (es.map (·.2.2))[j]?
  | [] => rfl
  | e :: es => by
    rw [List.map_cons, List.map_cons, List.findIdx?_cons]
    by_cases h : e.1 = k
    · rw [valN_pos h]
      simp [h]
    · rw [valN_neg h, valN_at]
      simp only [h, decide_false, Bool.false_eq_true, if_false]
      cases (es.map (·.1)).findIdx? (fun j => decide (j = k)) <;> simp
theorem valN_any {k : NK} : ∀ {es : List NEn}, (valN es k).isSome = (es.map (·.1)).any fun j => decide (j = k)
  | [] => rfl
  | e :: es => by
    rw [List.map_cons, List.any_cons]
    by_cases h : e.1 = k
    · rw [valN_pos h]; simp [h]
    · rw [valN_neg h, valN_any]; simp [h]
theorem putN_vals {k : NK} {v : V} : ∀ {es : List NEn}, (es.map fun e => if e.1 = k then ((e.1, e.2.1, v) : NEn) else e).map (·.2.2) = List.zipWith (fun j x => if j = k then v else x) (es.map (·.1)) (es.map (·.2.2))
  | [] => rfl
  | e :: es => by
    simp only [List.map_cons, List.zipWith_cons_cons]
    rw [putN_vals]
    congr 1
    split <;> rfl
theorem putN_keys {k : NK} {v : V} : ∀ {es : List NEn}, (es.map fun e => if e.1 = k then ((e.1, e.2.1, v) : NEn) else e).map (·.1) = es.map (·.1)
  | [] => rfl
  | e :: es => by
    simp only [List.map_cons]
    rw [putN_keys]
    congr 1
    split <;> rfl
theorem putN_zip {es : List NEn} {k : NK} {b : Addr} {v : V} : (putN es k b v).map (·.1) = (putL (es.map (·.1)) (es.map (·.2.2)) k v).1 ∧ (putN es k b v).map (·.2.2) = (putL (es.map (·.1)) (es.map (·.2.2)) k v).2 := by
  unfold putN putL
  rw [valN_any]
  by_cases h : ((es.map (·.1)).any fun j => decide (j = k)) = true
  · rw [if_pos h, if_pos h]
    exact ⟨putN_keys, putN_vals⟩
  · rw [if_neg h, if_neg h]
    constructor
    · rw [List.map_append]; rfl
    · rw [List.map_append]; rfl
theorem putN_kn {H : Hp} {es : List NEn} {k : NK} {b : Addr} {v : V} (h : KNs K H es) (hb : KN K H k b) : KNs K H (putN es k b v) := by
  unfold putN
  split
  · intro e he
    obtain ⟨e0, h0, rfl⟩ := List.mem_map.mp he
    have := h e0 h0
    split <;> exact this
  · intro e he
    rcases List.mem_append.mp he with h1 | h1
    · exact h e h1
    · cases List.mem_singleton.mp h1; exact hb
theorem nO_mut {a : Addr} {es : List NEn} : Mut (some (nO a es)) := trivial
theorem KNs.upd {H : Hp} {es fs : List NEn} {a : Addr} {o : HO} (h : KNs K H es) (ha : H a = some (nO a fs)) : KNs K (upd H a o) es := h.keep fun b ys z => by
  rw [upd_ne (fun e => by rw [e, ha] at z; cases z)]; exact z
def mND : M := fun ρ => some (.nd [] [], ρ)
theorem j_ndnew {k' : Nat} (h0 : k' ≠ 0) : J X κ (.Dict [] [] pos) mND (.own k') κ true := by
  refine ⟨fun t ht => PE.imp pe_nnew fun σ H Q z q1 => ?_, fun _ ρ d ρ' e => by cases e; rfl⟩
  obtain ⟨g, ρ, S, d, ρ', em, post⟩ := q1 z
  cases em
  intro p hp
  exact post (.ref p) _ (nwG p t g) (S.new hp) (Pres.new S.gok hp (Nat.le_refl t)) (fun _ => same_new hp) ⟨p, [], rfl, .inl upd_same, rfl, fun _ h => (nomatch h), by rw [if_neg h0]; exact nwG_p, rfl⟩
def dIxN : D → D → Option D
  | .nd ks xs, kd => (nkA kd).bind fun k => (ks.findIdx? fun j => decide (j = k)).bind fun j => xs[j]?
  | _, _ => none
theorem j_ixN {a b : Expr} {ma mb : M} {rb : Rz} {pa pb : Bool} (hu : X.A.units + 100 < cLine) (ha : J X κ a ma (.own 0) κ1 pa) (hb : J X κ1 b mb rb κ2 pb) (hs : PlainIx b) : J X κ (.Subscript a b pos) (m2 dIxN ma mb) (.own 0) κ2 (pa && pb) := by
  refine ⟨fun t ht => PE.imp (pe_nget (by omega) (ha.run t ht) (hb.run (t + 1) (by omega)) hs) fun σ H Q z q => ?_, fun hp ρ d ρ' h => ?_⟩
  · obtain ⟨g, ρ, S, d, ρ', em, post⟩ := q z
    obtain ⟨x, ρ1, y, ea, eb, ec⟩ := m2_some em
    refine two (K := X.K) (κ2 := κ2) ht rfl S ea eb z fun v u H' g' S' P' s' r1 r2 => ?_
    unfold dIxN at ec
    split at ec
    · rename_i ks xs
      cases e1 : nkA y with
      | none => rw [e1] at ec; cases ec
      | some k =>
        rw [e1] at ec
        simp only [Option.bind_some] at ec
        obtain ⟨c, es, rfl, hc, rfl, kn, hg, hl⟩ := r1
        obtain ⟨b, rfl, kb⟩ := nkA_rep e1 r2.rep
        cases e2 : (es.map (·.1)).findIdx? (fun j => decide (j = k)) with
        | none => rw [e2] at ec; cases ec
        | some j =>
          rw [e2] at ec
          obtain ⟨w, e3, o3⟩ := ownL_get hl (show xs[j]? = some d from ec)
          refine ⟨c, es, k, w, rfl, ⟨hc.elim .inl fun z => .inr z.2, kn, b, rfl, kb⟩, ?_, post w H' g' S' P' s' (own_fz (fun a z => ⟨z, rfl⟩) (fun _ _ z _ => z) o3)⟩
          rw [valN_at, e2]
          exact e3
    · cases ec
  · rw [Bool.and_eq_true] at hp
    obtain ⟨x, ρ1, y, ea, eb, ec⟩ := m2_some h
    rw [hb.pur hp.2 _ _ _ eb, ha.pur hp.1 _ _ _ ea]
def dGetN (ks : List NK) (xs : List D) (d x : D) : Option D := (nkA d).map fun k => ((ks.findIdx? fun j => decide (j = k)).bind fun j => xs[j]?).getD x
def mGetN (i : Nat) (mk mx : M) : M := fun ρ => match ρ[i]? with
  | some (some (.nd ks xs)) => (match mk ρ with
    | some (kd, ρ2) => (match mx ρ2 with
      | some (x, ρ3) => (match dGetN ks xs kd x with
        | some z => some (z, ρ3)
        | none => none)
      | none => none)
    | none => none)
  | _ => none
theorem mGetN_some {i : Nat} {mk mx : M} {ρ ρ' : DE} {z : D} (h : mGetN i mk mx ρ = some (z, ρ')) : ∃ ks xs kd ρ2 x, ρ[i]? = some (some (.nd ks xs)) ∧ mk ρ = some (kd, ρ2) ∧ mx ρ2 = some (x, ρ') ∧ dGetN ks xs kd x = some z := by
  unfold mGetN at h
  split at h
  · split at h
    · split at h
      · split at h
        · cases h; exact ⟨_, _, _, _, _, by assumption, by assumption, by assumption, by assumption⟩
        · cases h
      · cases h
    · cases h
  · cases h
theorem own1_nd {ρ : DE} {g : G} {σ : L2.St} {H : Hp} {i : Nat} {ks : List NK} {xs : List D} (S : Sok K κ ρ g σ H) (hk : κ[i]? = some (some 1)) (e : ρ[i]? = some (some (.nd ks xs))) :
    ∃ a es, σ[i]? = some (some (.ref a)) ∧ H a = some (nO a es) ∧ es.map (·.1) = ks ∧ KNs K H es ∧ g a = .ow i [] ∧ OwnL K H g xs 0 0 [] 0 (es.map (·.2.2)) := by
  obtain ⟨v, ev, a, es, rfl, h1, hq, kn, h2, h3⟩ := S.ok i 1 _ hk e
  rw [if_neg (by decide)] at h2
  exact ⟨a, es, ev, h1.resolve_right (fun z => by cases z.1), hq, kn, h2, ownL_fz (fun a z => ⟨z, rfl⟩) (fun _ _ z _ => z) h3⟩
theorem j_getN {o e f : Expr} {mk mx : M} {i : Nat} {r2 : Rz} {apos cpos : Pos} (hu : X.A.units + 100 < cLine) (ho : PE X o (tVar i)) (hk : κ[i]? = some (some 1)) (he : J X κ e mk r2 κ true) (hf : J X κ f mx (.own 0) κ true) (m : M2 X o "get" apos e f cpos) :
    J X κ (.Call (.Attribute o "get" apos) [e, f] [] cpos) (mGetN i mk mx) (.own 0) κ true := by
  refine ⟨fun t ht => PE.imp (pe_nget2 (by omega) ho (he.run t (by omega)) (hf.run (t + 1) (by omega)) m) fun σ H Q z q => ?_, fun hp ρ d ρ' h => ?_⟩
  · obtain ⟨g, ρ, S, d, ρ', em, post⟩ := q z
    obtain ⟨ks, xs, kd, ρ2, x, e1, e2, e3, e4⟩ := mGetN_some em
    cases he.pur rfl _ _ _ e2
    cases hf.pur rfl _ _ _ e3
    obtain ⟨a, es, eσ, ha, rfl, kn, hg, hl⟩ := own1_nd S hk e1
    refine ⟨_, eσ, a, es, rfl, .inl ha, kn, fun _ => ⟨g, ρ, S, kd, ρ, e2, fun y H2 g2 S2 P2 s2 q2 => fun _ => ⟨g2, ρ, S2, x, ρ, e3, fun u H3 g3 S3 P3 s3 q3 => ?_⟩⟩⟩
    obtain ⟨a', es', eσ', ha', hks, kn', hg', hl'⟩ := own1_nd S3 hk e1
    rw [eσ] at eσ'
    cases eσ'
    unfold dGetN at e4
    cases e5 : nkA kd with
    | none => rw [e5] at e4; cases e4
    | some k =>
      rw [e5] at e4
      cases e4
      obtain ⟨b, rfl, kb⟩ := nkA_rep e5 q2.rep
      have kb3 : KN X.K H3 k b := kb.keep fun _ _ z => s3 rfl _ _ z
      refine ⟨es', k, ⟨.inl ha', kn', b, rfl, kb3⟩, post _ H3 g3 S3 (P2.trans (P3.less (by omega))) (fun e => (s2 rfl).trans (s3 rfl)) ?_⟩
      rw [valN_at, ← hks]
      show Own X.K H3 g3 ((((es'.map (·.1)).findIdx? fun j => decide (j = k)).bind fun j => xs[j]?).getD x) 0 t [] _
      cases e6 : (es'.map (·.1)).findIdx? (fun j => decide (j = k)) with
      | none =>
        simp only [Option.bind_none, Option.getD_none]
        exact own_fz (fun a z => ⟨z, rfl⟩) (fun _ _ z _ => z) (show Own X.K H3 g3 x 0 (t + 1) [] u from q3)
      | some j =>
        have hj : j < (es'.map (·.1)).length := (List.findIdx?_eq_some_iff_findIdx_eq.mp e6).1
        have hx : j < xs.length := by
          have := ownL_len hl'
          rw [List.length_map] at this hj
          omega
        have e7 : xs[j]? = some xs[j] := List.getElem?_eq_getElem hx
        obtain ⟨w, e8, o8⟩ := ownL_get hl' e7
        simp only [Option.bind_some]
        rw [e7, e8]
        simp only [Option.getD_some]
        exact own_fz (fun a z => ⟨z, rfl⟩) (fun _ _ z _ => z) o8
  · obtain ⟨ks, xs, kd, ρ2, x, e1, e2, e3, e4⟩ := mGetN_some h
    rw [hf.pur rfl _ _ _ e3, he.pur rfl _ _ _ e2]
def sPutN (i : Nat) (me mk : M) : SM := fun ρ => match me ρ with
  | some (d, ρ1) => (match ρ1[i]? with
    | some (some (.nd ks xs)) => if xs.length < 16777216 then (match mk ρ1 with
      | some (kd, ρ2) => (match nkA kd with
        | some k => some (.nx (ρ2.set i (some (.nd (putL ks xs k d).1 (putL ks xs k d).2))))
        | none => none)
      | none => none) else none
    | _ => none)
  | none => none
theorem sPutN_some {i : Nat} {me mk : M} {ρ : DE} {o : Out} (h : sPutN i me mk ρ = some o) : ∃ d ρ1 ks xs kd ρ2 k, me ρ = some (d, ρ1) ∧ ρ1[i]? = some (some (.nd ks xs)) ∧ xs.length < sizeLine ∧ mk ρ1 = some (kd, ρ2) ∧ nkA kd = some k ∧ o = .nx (ρ2.set i (some (.nd (putL ks xs k d).1 (putL ks xs k d).2))) := by
  unfold sPutN at h
  split at h
  · split at h
    · split at h
      · split at h
        · split at h
          · cases h
            exact ⟨_, _, _, _, _, _, _, by assumption, by assumption, by rw [sizeLine_eq]; assumption, by assumption, by assumption, rfl⟩
          · cases h
        · cases h
      · cases h
    · cases h
  · cases h
theorem mut1N {n t i : Nat} {ρ : DE} {g : G} {σ : L2.St} {H : Hp} {L : Addr} {ks' : List NK} {ds' : List D} {es es' : List NEn} (S : Sok K κ ρ g σ H) (hn : σ.length = n) (hk : κ[i]? = some (some 1)) (hv : σ[i]? = some (some (.ref L))) (hL : H L = some (nO L es)) (hg : g L = .ow i [])
    (hq : es'.map (·.1) = ks') (kn : KNs K H es') (ol : OwnL K H g ds' 0 0 [] 0 (es'.map (·.2.2))) : Sok K κ (ρ.set i (some (.nd ks' ds'))) g σ (upd H L (nO L es')) ∧ Pres n t g H g (upd H L (nO L es')) := by
  have hi : i < n := by
    have := (List.getElem?_eq_some_iff.mp hv).1
    omega
  have P : Pres n t g H g (upd H L (nO L es')) := Pres.rewrite S.gok hi hL rfl hg (fun a h => upd_ne h) (fun _ z => z) (fun _ z => z) (fun _ _ _ _ _ z => z) fun _ _ _ _ _ z => z
  refine ⟨S.rewrite hk hv hL rfl hg (fun a h => upd_ne h) (by rw [upd_same]; simp) (fun _ _ _ _ => rfl) (fun _ z => z) (fun _ z => z) ?_, P⟩
  exact ⟨L, es', rfl, .inl upd_same, hq, kn.upd hL, by rw [if_neg (by decide)]; exact hg, ownL_fz P.fz P.tu ol⟩
theorem js_putN {e b o : Expr} {me mk : M} {i k1 : Nat} {rk : Rz} {pe : Bool} {pos' : Pos} (hu : X.A.units + 100 < cLine) (he : J X κ e me (.own 0) κ1 pe) (ho : PE X o (tVar i)) (hb : J X κ1 b mk rk κ2 true) (hk1 : κ1[i]? = some (some k1)) (hk : κ2[i]? = some (some 1))
    (hs : swapsWith e (some (.Subscript o b pos')) pos.line X.env = pure false) : JS X κ (.Assign [.Subscript o b pos'] e pos) (sPutN i me mk) κ2 rc := by
  refine ⟨fun s0 t ht => PS.imp (ps_nput (by omega) ho (hb.run (t + 1) (by omega)) (he.run t ht) hs) fun σ H D z q => ?_⟩
  obtain ⟨g, ρ, S, fx, out, em, post⟩ := q z
  obtain ⟨d, ρ1, ks, xs, kd, ρ2, k, e1, e2, e3, e4, e5, rfl⟩ := sPutN_some em
  refine fun _ => ⟨g, ρ, S, d, ρ1, e1, fun v H1 g1 S1 P1 s1 r1 => ?_⟩
  obtain ⟨v2, ev, o2⟩ := S1.ok i k1 _ hk1 e2
  refine ⟨v2, ev, fun _ => ⟨g1, ρ1, S1, kd, ρ2, e4, fun y H2 g2 S2 P2 s2 r2 => ?_⟩⟩
  have eρ := hb.pur rfl _ _ _ e4
  subst eρ
  obtain ⟨a, es, ev', hL, rfl, kn, hg, ol⟩ := own1_nd S2 hk e2
  rw [ev] at ev'
  cases ev'
  have ov : Own X.K H2 g2 d 0 0 [] v := P2.own0 r1
  obtain ⟨b, rfl, kb⟩ := nkA_rep e5 r2.rep
  have hln : (es.map (·.1)).length = xs.length := by
    have := ownL_len ol
    rw [List.length_map] at this ⊢
    omega
  obtain ⟨p1, p2⟩ := putL_ownL (k := k) ov ol hln
  obtain ⟨z1, z2⟩ := putN_zip (es := es) (k := k) (b := b) (v := v)
  obtain ⟨S3, P3⟩ := mut1N (n := X.N.length) (t := t) (es' := putN es k b v) S2 z.2 hk ev hL hg (z1.trans p1.symm) (putN_kn kn kb) (by rw [z2]; exact p2)
  refine ⟨a, es, k, b, rfl, rfl, hL, kn, kb, ?_, post σ _ g2 S3 (P1.trans ((P2.less (Nat.le_succ t)).trans P3)) fx⟩
  rw [List.length_map] at hln
  omega
theorem dlv_keysN {d : Addr} {od : Obj} {es : List NEn} : Dlv K (ItNd d od es) (fun g H => H d = some (.frz od (nO d es)) ∧ g d = .fz ∧ KNs K H es) ((es.map (·.1)).map nkD) where
  go := fun i g H h hi => ⟨h.1, by simpa using hi⟩
  stop := fun i g H h hi => ⟨h.1, by simpa using hi⟩
  yld := fun i g H x H' e h gok y ed => by
    obtain ⟨rfl, e0, e1, rfl⟩ := y
    rw [List.map_map, List.getElem?_map, e1] at ed
    cases ed
    exact ⟨Same.refl _, own_nkD (h.2.2 e0 (List.mem_of_getElem? e1))⟩
  keep := fun g H g' H' h hf hs => ⟨(hf d h.2.1).2.trans h.1, (hf d h.2.1).1, h.2.2.keep fun b ys z => hs b _ z rfl⟩
theorem nd_at {ρ : DE} {g : G} {σ : L2.St} {H : Hp} {i : Nat} {ks : List NK} {xs : List D} (S : Sok K κ ρ g σ H) (hk : κ[i]? = some (some 0)) (e : ρ[i]? = some (some (.nd ks xs))) :
    ∃ a es, σ[i]? = some (some (.ref a)) ∧ (H a = some (nO a es) ∨ ∃ o, H a = some (.frz o (nO a es))) ∧ es.map (·.1) = ks ∧ KNs K H es ∧ g a = .fz := by
  obtain ⟨v, es, a, vs, rfl, ha, hq, kn, hg, hl⟩ := S.ok i 0 _ hk e
  exact ⟨a, vs, es, ha.imp id fun z => z.2, hq, kn, by simpa using hg⟩
def mKeysN (i : Nat) : ML := fun ρ => match ρ[i]? with
  | some (some (.nd ks _)) => some (ks.map nkD, ρ)
  | _ => none
theorem mKeysN_some {i : Nat} {ρ ρ' : DE} {ds : List D} (h : mKeysN i ρ = some (ds, ρ')) : ∃ ks xs, ρ[i]? = some (some (.nd ks xs)) ∧ ds = ks.map nkD ∧ ρ' = ρ := by
  unfold mKeysN at h
  split at h
  · cases h; exact ⟨_, _, by assumption, rfl, rfl⟩
  · cases h
theorem wi_keysN {n t i : Nat} {σ : L2.St} {H : Hp} {R : It → Hp → Prop} {d : Addr} {od : Obj} {es : List NEn} {ρ0 : DE} {xs : List D} (hk : κ[i]? = some (some 0)) (en : En n σ H) (eσ : σ[i]? = some (some (.ref d))) (hd : H d = some (.frz od (nO d es)))
    (kn : KNs K H es) (e0 : ρ0[i]? = some (some (.nd (es.map (·.1)) xs)))
    (h : jTI K n κ (mAt ρ0 (mKeysN i)) κ true t σ H R) : iKeysN (tVar i) σ H R := by
  obtain ⟨g, ρ, S, ds, ρ', em, post⟩ := h en
  obtain ⟨rfl, em2⟩ := mAt_some em
  obtain ⟨ks, xs', e, rfl, rfl⟩ := mKeysN_some em2
  rw [e0] at e
  cases e
  obtain ⟨a, es', eσ', _, _, _, hg⟩ := nd_at S hk e0
  rw [eσ] at eσ'
  cases eσ'
  exact ⟨_, eσ, d, od, es, rfl, hd, post _ _ H g S Pres.refl (fun _ => Same.refl H) dlv_keysN ⟨hd, hg, kn⟩⟩
end VS
namespace VS
open PySem PySem.Spec PyProof.Rows L2
variable {X : Cx}
end VS
namespace VS
open PySem PySem.Spec PyProof.Rows L2
variable {K : PySem.W.Frag} {X : Cx} {κ κ1 κ2 : OE} {pos : Pos} {rc : RC}
variable {P : Program} {w : World} {mg : Str → Option Value} {base : Heap}
structure HasM (P : Program) (w : World) (K : PySem.W.Frag) (mg : Str → Option Value) (base : Heap) (c : Nat) (m : Str) (lev : Nat) (ps : List Str) (sg : Sg) (f : FM) : Prop where
  ex : ∃ fa fd, Cls K (He.ga K (clsNm c)) ∧ Meth K (He.ga K (clsNm c)) m fa ∧ Binds K fd ps [] ∧ FnOk P w K mg base CX0 lev fa fd ps (fnSp K sg f)
theorem has_mkM {c : Nat} {x ql : Str} {st : Stmt} {fa : Addr} {fd : FuncData} {N ps : List Str} {k n np : Nat} {sg : Sg} {m : SM} (F : FunD K x ql (defArgs st) (defBody st) (defScope st) [] [] fa fd) (hc : Cls K (He.ga K (clsNm c))) (hm : Meth K (He.ga K (clsNm c)) x fa) (S : FnScope N ps (defScope st)) (hN : N.length = n) (hp : ps.length = sg.ks.length) (h1 : sg.ks.length ≤ n) (h2 : sg.ks'.length = sg.ks.length)
    (bd : ∀ (kV doc pm : Value) (an : Option Addr) (cdv ct : Value) (us : List Value), us.length = ps.length → bindArgs (PySem.W.fnOf x ql (defArgs st) (defBody st) (defScope st) .none kV doc pm an cdv ct) ⟨us, []⟩ = pure (ps.zip us))
    (body : ∀ (cdv : Value) (A : Around) (outer : List Env) (s : Shared) (H : Hp) (E : XK), Room k (A.deeper (envOfC ql (defScope st) s.heap.objs.size fa cdv)) → JB (cxD P w K mg base N ql (defScope st) fa cdv A outer s H E) (κ0 sg n) (defBody st) m (rcOf sg n).κr (rcOf sg n)) :
    HasM P w K mg base c x (k + 1) ps sg (fM np n sg.ks' m) := by
  refine ⟨fa, fd, hc, hm, F.bindsN bd, F.ok S (fun vs H Q E q => fnSp_len hp vs H Q E q) fun cdv A outer s H vs Q E hr q => ?_⟩
  obtain ⟨b1, b2⟩ := body_ok (X := cxD P w K mg base N ql (defScope st) fa cdv A outer s H E) rfl hN (body cdv A outer s H E hr) h1 h2 q
  exact ⟨_, b1.nox, b2⟩
def mMeth (fs : List (Nat × FM)) (i : Nat) (ml : ML) : M := fun ρ => match ρ[i]? with
  | some (some (.ins c xs)) => (match fs.lookup c with
    | some f => mCall (fun ds => f (.ins c xs :: ds)) ml ρ
    | none => none)
  | _ => none
theorem mMeth_some {fs : List (Nat × FM)} {i : Nat} {ml : ML} {ρ ρ' : DE} {d : D} (h : mMeth fs i ml ρ = some (d, ρ')) : ∃ c xs f ds es, ρ[i]? = some (some (.ins c xs)) ∧ fs.lookup c = some f ∧ ml ρ = some (ds, ρ') ∧ f (.ins c xs :: ds) = some (d, es) := by
  unfold mMeth at h
  split at h
  · split at h
    · obtain ⟨ds, es, h1, h2⟩ := mCall_some h
      exact ⟨_, _, _, ds, es, by assumption, by assumption, h1, h2⟩
    · cases h
  · cases h
theorem PE.some {ι : Type} {e : Expr} {p : ι → Prop} {T : ι → TE} (h : ∀ c, p c → PE X e (T c)) : PE X e (fun σ H Q => ∃ c, p c ∧ T c σ H Q) :=
  ⟨fun pins s σ H Q I ⟨c, hc, q⟩ => (h c hc).run pins s σ H Q I q⟩
theorem zip_lookup {fs : List Str} {m : Str} (h : fs.contains m = false) : ∀ (vs : List V), (fs.zip vs).lookup m = none := by
  induction fs with
  | nil => intro vs; rfl
  | cons f fs ih =>
    intro vs
    rw [List.contains_cons, Bool.or_eq_false_iff] at h
    cases vs with
    | nil => rfl
    | cons v vs =>
      rw [List.zip_cons_cons, List.lookup_cons, h.1]
      exact ih h.2 vs
theorem j_meth {i k n r : Nat} {o e : Expr} {es : List Expr} {m : Str} {ml : ML} {ms : List Am} {fs : List (Nat × FM)} {ks' : List (Option Nat)} (hv : PE X o (tVar i)) (hi : κ[i]? = some (some k)) (ha : JA X κ es ml ms κ1 true) (hm : allRz ms = true)
    (hlen : ∀ c f, fs.lookup c = some f → ∀ ds d es, f ds = some (d, es) → ds.length = n + 1 ∧ es.length = n + 1) (hf : ∀ c f, fs.lookup c = some f → (clsFs c).contains m = false)
    (mk : ∀ c f, fs.lookup c = some f → ∀ {ta : TE} {t : TA}, PE X o ta → PA X es t → PE X e (tMeth (He.ga X.K (clsNm c)) m (fnSp X.K ⟨List.replicate (n + 1) 0, r, ks'⟩ f) [] E0 ta t)) {rz : Rz} (hr : rz = .rep ∨ (rz = .own r ∧ 99 ≤ r)) :
    J X κ e (mMeth fs i ml) rz κ1 true := by
  refine ⟨fun t ht => PE.imp (PE.some (p := fun cf : Nat × FM => fs.lookup cf.1 = some cf.2) (T := fun cf => tMeth (He.ga X.K (clsNm cf.1)) m (fnSp X.K ⟨List.replicate (n + 1) 0, r, ks'⟩ cf.2) [] E0 (tVar i) (jTA X.K X.N.length κ ml ms κ1 true t)) fun cf h => mk _ _ h hv (ha.run t ht)) fun σ H Q z q => ?_, fun hp ρ d ρ' e => ?_⟩
  · obtain ⟨g, ρ, S, d, ρ', em, post⟩ := q z
    obtain ⟨c, xs, f, ds, es, ei, ef, e1, e2⟩ := mMeth_some em
    obtain ⟨v, ev, ov⟩ := S.ok i k _ hi ei
    have rv := own_rep _ ov
    obtain ⟨a, dx, vs0, rfl, haH, hcl, _⟩ := rv
    refine ⟨(c, f), ef, _, ev, a, dx, _, rfl, haH, zip_lookup (hf c f ef) _, ?_⟩
    refine fun _ => ⟨g, ρ, S, ds, ρ', e1, fun vs H1 g1 S1 P1 s1 r1 => ?_⟩
    obtain ⟨l1, l2⟩ := hlen _ _ ef _ _ _ e2
    rw [List.append_nil]
    have rs : Rep X.K H1 (.ins c xs) (.ref a) := rep_mono (s1 rfl) _ (own_rep _ ov)
    refine ⟨gAll H1, .ins c xs :: ds, gAll_gok H1, args_all l1 ⟨_, _, rfl, rs, rows_repL hm r1⟩, d, es, e2, by rw [l1, l2], fun v H' g' rr hrr gok' P o _ => ?_⟩
    have sm : Same H1 H' := fun a u e => by rw [(P.fz a (gAll_fz (by rw [e]; simp))).2]; exact e
    have old : ∀ a, H1 a ≠ none → g' a = .fz := fun a h => (P.fz a (gAll_fz h)).1
    have sm' : ∀ a, H1 a ≠ none → H' a = H1 a := fun a h => (P.fz a (gAll_fz h)).2
    rcases hr with rfl | ⟨rfl, h99⟩
    · exact post v H' g1 (S1.grow sm) (P1.trans (Pres.grow S1.gok sm)) (fun e => (s1 e).trans sm) (own_rep d o)
    · let g2 : G := fun a => match H1 a with
        | some _ => g1 a
        | none => (match g' a with
          | .ow r' q => if r' = rr then .ow t q else .un
          | _ => .un)
      have g2o : ∀ a, H1 a ≠ none → g2 a = g1 a := fun a h => by
        show (match H1 a with | some _ => g1 a | none => _) = _
        cases e : H1 a with
        | none => exact (h e).elim
        | some u => rfl
      have g2n : ∀ a, H1 a = none → g2 a = (match g' a with
          | .ow r' q => if r' = rr then .ow t q else .un
          | _ => .un) := fun a h => by
        show (match H1 a with | some _ => g1 a | none => _) = _
        rw [h]
      have P2 : Pres X.N.length t g1 H1 g2 H' := by
        refine ⟨fun a h => ?_, fun a h hn => ⟨(g2o a hn).trans h, sm' a hn⟩, fun a r' p h1 h2 h => ?_, fun a r' p h1 h2 h => ?_, fun a u h _ => sm a u h⟩
        · have := S1.gok a (by rw [h]; simp)
          exact ⟨(g2o a this).trans h, sm' a this⟩
        · have := S1.gok a (by rw [h]; simp)
          exact ⟨(g2o a this).trans h, sm' a this⟩
        · cases e : H1 a with
          | some u => rw [g2o a (by rw [e]; simp)] at h; exact h
          | none =>
            rw [g2n a e] at h
            split at h
            · split at h
              · cases h; omega
              · cases h
            · cases h
      refine post v H' g2 ⟨fun i k d' h1 h2 => ?_, fun a h => ?_, S1.len, S1.lek⟩ (P1.trans P2) (fun e => (s1 e).trans sm) ?_
      · obtain ⟨v', e', o'⟩ := S1.ok i k d' h1 h2
        refine ⟨v', e', own_conv (fun a u z _ => sm a u z) d' (.inr fun a z => P2.fz a z) (fun a q z hh => ?_) (fun _ z => z) o'⟩
        have := S1.gok a (by rw [z]; simp)
        exact ⟨sm' a this, by rw [if_pos hh, g2o a this]; exact z⟩
      · cases e : H1 a with
        | some u => rw [sm' a (by rw [e]; simp), e]; simp
        | none =>
          rw [g2n a e] at h
          refine gok' a fun z => ?_
          rw [z] at h
          exact h rfl
      · refine own_conv (fun _ _ z _ => z) d (.inl h99) (fun a q z hh => ⟨rfl, ?_⟩) (fun _ z => z) o
        have e : H1 a = none := by
          cases e : H1 a with
          | none => rfl
          | some u => have := old a (by rw [e]; simp); rw [z] at this; cases this
        rw [g2n a e, z]
        simp only [if_true]
        rw [if_pos hh]
  · obtain ⟨c, xs, f, ds, es, ei, ef, e1, e2⟩ := mMeth_some e
    exact ha.pur rfl _ _ _ e1
structure ClsF (K : PySem.W.Frag) (c : Nat) (f : Str) : Prop where
  cl : Cls K (He.ga K (clsNm c))
  na : NoAttr K (He.ga K (clsNm c)) f
def mNew (c : Nat) (ml : ML) : M := fun ρ => (ml ρ).bind fun x => if (clsFs c).length = x.1.length then some (.ins c x.1, x.2) else none
theorem mNew_some {c : Nat} {ml : ML} {ρ ρ' : DE} {d : D} (h : mNew c ml ρ = some (d, ρ')) : ∃ ds, ml ρ = some (ds, ρ') ∧ (clsFs c).length = ds.length ∧ d = .ins c ds := by
  unfold mNew at h
  cases e : ml ρ with
  | none => rw [e] at h; cases h
  | some x =>
    rw [e] at h
    simp only [Option.bind_some] at h
    split at h
    · cases h; exact ⟨_, rfl, by assumption, rfl⟩
    · cases h
theorem own_newI {c : Nat} {H : Hp} {g : G} {p dx : Addr} {t : Nat} {ds : List D} {vs : List V} (gok : ∀ a, g a ≠ .un → H a ≠ none) (hp : H p = none) (hl : (clsFs c).length = ds.length) (ol : OwnL K H g ds 0 0 [] 0 vs) : Own K (upd H p (inO K c dx vs)) (nwG p t g) (.ins c ds) 1 t [] (.ref p) := by
  have ne : ∀ a, g a ≠ .un → a ≠ p := fun a h z => gok a h (z ▸ hp)
  exact ⟨p, dx, vs, rfl, upd_same, hl, by rw [if_neg (by decide)]; exact nwG_p, ownL_fz (fun a z => ⟨by rw [nwG_o (ne a (by rw [z]; simp))]; exact z, upd_ne (ne a (by rw [z]; simp))⟩) (fun a u z _ => same_new hp _ _ z) ol⟩
structure Mk0 (K : PySem.W.Frag) (C : Addr) : Prop where
  makes : PySem.W.makesIn K C = true
  init : PySem.W.findIn K (.ref C) "__init__" = some (some (.builtin "object.__init__"))
  top : PySem.W.mroIn K C (.type "object") = some true
  kp : PySem.W.keepIn K (.ref C) = true
  self : PySem.W.mroIn K C (.ref C) = some true
def tNew0 (C : Addr) : TE := fun _ H Q => ∀ x dx, H x = none → H dx = none → dx ≠ x → Q (.ref x) (upd (upd H dx (.own x)) x (.ins C dx []))
theorem run_new0 {C : Addr} {pins : List (Addr × Obj)} {σ : L2.St} {H : Hp} {s : Shared} {Q : VK} (M : Mk0 X.K C) (I : Inv X pins σ H s) (h : tNew0 C σ H Q) : wpAny (model X.prog X.w) X.A (call (.ref C) []) (EP X pins σ Q) X.xe s := by
  have hq := h (s.heap.objs.size + 1) s.heap.objs.size (I.hok.fresh (Nat.le_succ _)) (I.hok.fresh (Nat.le_refl _)) (Nat.ne_of_lt (Nat.lt_succ_self _))
  have I2 := Inv.made (C := C) I
  have ho : ((s.heap.push PySem.W.emptyDict).push (PySem.W.instObj C s.heap.objs.size)).get? (s.heap.objs.size + 1) = some (PySem.W.instObj C s.heap.objs.size) := by
    have := Heap.get?_push_size (s.heap.push PySem.W.emptyDict) (o := PySem.W.instObj C s.heap.objs.size) rfl
    rwa [Heap.size_push] at this
  refine wpAny_call (make_map0 I.kIn M.makes M.init (fun self => PySem.W.Looks.of_pure (PySem.W.oi_bind _)) ?_)
  have t1 := NwA.type_at (M := model X.prog X.w) ho rfl
  have t2 : PySem.W.Looks (model X.prog X.w) ((s.heap.push PySem.W.emptyDict).push (PySem.W.instObj C s.heap.objs.size)) (isInstance (.ref (s.heap.objs.size + 1)) (.type "object")) true := t1.andThen (PySem.W.looks_mroIn I2.kIn M.top)
  refine codeAny_call_builtin PySem.W.oi_plain PySem.W.entry_oi (@PySem.W.check_slot (model X.prog X.w) _ _ _ "object.__init__" "object" "__init__" (.ref (s.heap.objs.size + 1)) [] [] _ PySem.W.oi_kind PySem.W.oi_split t2 (NwA.oi_args_any _ [] []) ?_)
  rw [PySem.W.oi_run]
  exact wpAny_pure ⟨rfl, V.ref (s.heap.objs.size + 1), _, I2, rfl, hq⟩
theorem pe_new0 {C : Addr} {x : Str} {p : Pos} (M : Mk0 X.K C) (hg : Gl X x) (hm : X.mg x = some (.ref C)) (hdb : (x == ("__debug__" : Str)) = false := by decide) : PE X (.Call (.Name x p) [] [] pos) (tNew0 C) := by
  refine ⟨fun pins s σ H Q I h => ?_⟩
  refine wpAny_Call_Name_kw (ld_glob I hg hm ?_ hdb)
  exact PySem.W.callWith_K0 I.kIn M.kp (run_new0 M I h)
theorem j_new0 {c : Nat} {e : Expr} (hc : (clsFs c).length = 0) (mk : PE X e (tNew0 (He.ga X.K (clsNm c)))) {k : Nat} (hk : k ≤ 1) : J X κ e (mNew c mNil) (.own k) κ true := by
  have base : J X κ e (mNew c mNil) (.own 1) κ true := by
    refine ⟨fun t ht => PE.imp mk fun σ H Q z q => ?_, fun hp ρ d ρ' e => ?_⟩
    · obtain ⟨g, ρ, S, d, ρ', em, post⟩ := q z
      obtain ⟨ds, e1, e2, rfl⟩ := mNew_some em
      cases (show _ = _ from e1)
      refine fun x dx hx hdx ne => ?_
      have s1 : Same H (upd H dx (.own x)) := same_new hdx
      have S1 : Sok X.K κ ρ g σ (upd H dx (.own x)) := S.grow s1
      have hx1 : (upd H dx (.own x)) x = none := by rw [upd_ne (Ne.symm ne)]; exact hx
      have P1 : Pres X.N.length t g H g (upd H dx (.own x)) := Pres.grow S.gok s1
      have eq : inO X.K c dx [] = .ins (He.ga X.K (clsNm c)) dx [] := by unfold inO; rw [List.zip_nil_right]
      rw [← eq]
      exact post (.ref x) _ (nwG x t g) (S1.new hx1) (P1.trans (Pres.new S1.gok hx1 (Nat.le_refl t))) (fun _ => s1.trans (same_new hx1)) (own_newI S1.gok hx1 e2 rfl)
    · obtain ⟨ds, e1, e2, rfl⟩ := mNew_some e
      cases (show _ = _ from e1)
      rfl
  rcases Nat.lt_or_ge k 1 with h | h
  · exact J.less (j := k) (k := 1) base (by simpa using Nat.le_of_lt h)
  · have : k = 1 := by omega
    subst this
    exact base
def inSp (K : PySem.W.Frag) (c : Nat) (f : Str) : Sp := fun vs H Q _ => ∃ x v dx, vs = [.ref x, v] ∧ H x = some (.ins (He.ga K (clsNm c)) dx []) ∧ Q .non (upd H x (.ins (He.ga K (clsNm c)) dx [(f, v)]))
structure HasI (P : Program) (w : World) (K : PySem.W.Frag) (mg : Str → Option Value) (base : Heap) (c : Nat) (f : Str) (lev : Nat) : Prop where
  ex : ∃ fa fd ps, L2.Mk K (He.ga K (clsNm c)) fa ∧ Binds K fd ps [] ∧ FnOk P w K mg base CX0 lev fa fd ps (inSp K c f)
end VS
namespace VS
open PySem PySem.Spec PyProof.Rows L2
variable {K : PySem.W.Frag} {X : Cx} {κ κ1 κ2 : OE} {pos : Pos} {rc : RC}
section
variable {t i m : Nat} {g : G} {a : Addr}
end
abbrev MOI := DE → Option (Option Int × DE)
structure JOI (X : Cx) (κ : OE) (e : Option Expr) (m : MOI) (κ' : OE) : Prop where
  run : ∀ t, X.N.length ≤ t → PO X e (fun σ H Q => En X.N.length σ H → ∃ g ρ, Sok X.K κ ρ g σ H ∧ ∃ o ρ', m ρ = some (o, ρ') ∧ ∀ H' g', Sok X.K κ' ρ' g' σ H' → Pres X.N.length t g H g' H' → Q o H')
end VS
namespace VS
open PySem PySem.Spec PyProof.Rows L2
variable {K : PySem.W.Frag} {X : Cx} {κ κ1 κ2 κ3 κ4 : OE} {pos : Pos} {rc : RC}
section
variable {t m : Nat} {L a : Addr} {g : G}
end
section
variable {i lo len t : Nat} {L a : Addr} {g : G}
end
end VS
namespace VS
open PySem PySem.Spec PyProof.Rows L2
variable {K : PySem.W.Frag} {X : Cx} {κ κ1 κ2 : OE} {pos : Pos} {rc : RC}
theorem lk1 {c0 c : Nat} {f0 f : FM} (h : [(c0, f0)].lookup c = some f) : c = c0 ∧ f = f0 := by
  rw [List.lookup_cons] at h
  cases e : c == c0 with
  | true => rw [e] at h; cases h; exact ⟨eq_of_beq e, rfl⟩
  | false => rw [e] at h; cases h
theorem has_meth {c lev n : Nat} {m : Str} {ps : List Str} {sg : Sg} {f : FM} {o e : Expr} {es : List Expr} {ta : TE} {t : TA} {apos : Pos} {pl : Sem Bool} (h : HasM X.prog X.w X.K X.mg X.base c m lev ps sg f) (hr : Room n X.A) (hl : lev ≤ n) (he : PE X o ta) (ha : PA X (e :: es) t)
    (hst : starEach (e :: es) X.env = (false, eval e X.env) :: starEach es X.env) (hpl : (backTo pos (starEach es X.env)).any (·.1) = false)
    (ht : eval (.Call (.Attribute o m apos) (e :: es) [] pos) X.env = (do
      let ov ← eval o X.env
      standAt apos.atName
      let (f, first) ← holding [ov] (getMethod ov m pl)
      callWith pos f first (backTo pos (starEach (e :: es) X.env)) (backToKw pos (keywordEach [] X.env)))) :
    PE X (.Call (.Attribute o m apos) (e :: es) [] pos) (tMeth (He.ga X.K (clsNm c)) m (fnSp X.K sg f) [] E0 ta t) := by
  obtain ⟨fa, fd, hc, hm, hb, F⟩ := h.ex
  exact pe_meth he hc hm F (hr.mono hl) hb .nil pass0 ha hst hpl ht
theorem has_meth0 {c lev n : Nat} {m : Str} {ps : List Str} {sg : Sg} {f : FM} {o : Expr} {ta : TE} {apos : Pos} {pl : Sem Bool} (h : HasM X.prog X.w X.K X.mg X.base c m lev ps sg f) (hr : Room n X.A) (hl : lev ≤ n) (he : PE X o ta)
    (ht : eval (.Call (.Attribute o m apos) [] [] pos) X.env = (do
      let ov ← eval o X.env
      standAt apos.atName
      let (f, first) ← holding [ov] (getMethod ov m pl)
      callWith pos f first (backTo pos (starEach [] X.env)) (backToKw pos (keywordEach [] X.env)))) :
    PE X (.Call (.Attribute o m apos) [] [] pos) (tMeth (He.ga X.K (clsNm c)) m (fnSp X.K sg f) [] E0 ta tNil) := by
  obtain ⟨fa, fd, hc, hm, hb, F⟩ := h.ex
  exact pe_meth0 he hc hm F (hr.mono hl) hb .nil pass0 ht
theorem j_meth0 {i k r : Nat} {o e : Expr} {m : Str} {fs : List (Nat × FM)} {ks' : List (Option Nat)} (hv : PE X o (tVar i)) (hi : κ[i]? = some (some k))
    (hlen : ∀ c f, fs.lookup c = some f → ∀ ds d es, f ds = some (d, es) → ds.length = 1 ∧ es.length = 1) (hf : ∀ c f, fs.lookup c = some f → (clsFs c).contains m = false)
    (mk : ∀ c f, fs.lookup c = some f → ∀ {ta : TE}, PE X o ta → PE X e (tMeth (He.ga X.K (clsNm c)) m (fnSp X.K ⟨[0], r, ks'⟩ f) [] E0 ta tNil)) {rz : Rz} (hr : rz = .rep ∨ (rz = .own r ∧ 99 ≤ r)) :
    J X κ e (mMeth fs i mNil) rz κ true := by
  refine ⟨fun t ht => PE.imp (PE.some (p := fun cf : Nat × FM => fs.lookup cf.1 = some cf.2) (T := fun cf => tMeth (He.ga X.K (clsNm cf.1)) m (fnSp X.K ⟨[0], r, ks'⟩ cf.2) [] E0 (tVar i) tNil) fun cf h => mk _ _ h hv) fun σ H Q z q => ?_, fun hp ρ d ρ' e => ?_⟩
  · obtain ⟨g1, ρ, S1, d, ρ', em, post⟩ := q z
    obtain ⟨c, xs, f, ds, es, ei, ef, e1, e2⟩ := mMeth_some em
    cases (show _ = _ from e1)
    obtain ⟨v, ev, ov⟩ := S1.ok i k _ hi ei
    obtain ⟨a, dx, vs0, rfl, haH, hcl, _⟩ := own_rep _ ov
    refine ⟨(c, f), ef, _, ev, a, dx, _, rfl, haH, zip_lookup (hf c f ef) _, ?_⟩
    obtain ⟨l1, l2⟩ := hlen _ _ ef _ _ _ e2
    show fnSp X.K ⟨[0], r, ks'⟩ f ([.ref a] ++ []) H Q E0
    rw [List.append_nil]
    have rs : Rep X.K H (.ins c xs) (.ref a) := own_rep _ ov
    refine ⟨gAll H, [.ins c xs], gAll_gok H, args_all (n := 1) l1 ⟨_, _, rfl, rs, rfl⟩, d, es, e2, by rw [l1, l2], fun v H' g' rr hrr gok' P o _ => ?_⟩
    have sm : Same H H' := fun a u e => by rw [(P.fz a (gAll_fz (by rw [e]; simp))).2]; exact e
    have old : ∀ a, H a ≠ none → g' a = .fz := fun a h => (P.fz a (gAll_fz h)).1
    have sm' : ∀ a, H a ≠ none → H' a = H a := fun a h => (P.fz a (gAll_fz h)).2
    rcases hr with rfl | ⟨rfl, h99⟩
    · exact post v H' g1 (S1.grow sm) (Pres.grow S1.gok sm) (fun e => sm) (own_rep d o)
    · let g2 : G := fun a => match H a with
        | some _ => g1 a
        | none => (match g' a with
          | .ow r' q => if r' = rr then .ow t q else .un
          | _ => .un)
      have g2o : ∀ a, H a ≠ none → g2 a = g1 a := fun a h => by
        show (match H a with | some _ => g1 a | none => _) = _
        cases e : H a with
        | none => exact (h e).elim
        | some u => rfl
      have g2n : ∀ a, H a = none → g2 a = (match g' a with
          | .ow r' q => if r' = rr then .ow t q else .un
          | _ => .un) := fun a h => by
        show (match H a with | some _ => g1 a | none => _) = _
        rw [h]
      have P2 : Pres X.N.length t g1 H g2 H' := by
        refine ⟨fun a h => ?_, fun a h hn => ⟨(g2o a hn).trans h, sm' a hn⟩, fun a r' p h1 h2 h => ?_, fun a r' p h1 h2 h => ?_, fun a u h _ => sm a u h⟩
        · have := S1.gok a (by rw [h]; simp)
          exact ⟨(g2o a this).trans h, sm' a this⟩
        · have := S1.gok a (by rw [h]; simp)
          exact ⟨(g2o a this).trans h, sm' a this⟩
        · cases e : H a with
          | some u => rw [g2o a (by rw [e]; simp)] at h; exact h
          | none =>
            rw [g2n a e] at h
            split at h
            · split at h
              · cases h; omega
              · cases h
            · cases h
      refine post v H' g2 ⟨fun i k d' h1 h2 => ?_, fun a h => ?_, S1.len, S1.lek⟩ P2 (fun e => sm) ?_
      · obtain ⟨v', e', o'⟩ := S1.ok i k d' h1 h2
        refine ⟨v', e', own_conv (fun a u z _ => sm a u z) d' (.inr fun a z => P2.fz a z) (fun a q z hh => ?_) (fun _ z => z) o'⟩
        have := S1.gok a (by rw [z]; simp)
        exact ⟨sm' a this, by rw [if_pos hh, g2o a this]; exact z⟩
      · cases e : H a with
        | some u => rw [sm' a (by rw [e]; simp), e]; simp
        | none =>
          rw [g2n a e] at h
          refine gok' a fun z => ?_
          rw [z] at h
          exact h rfl
      · refine own_conv (fun _ _ z _ => z) d (.inl h99) (fun a q z hh => ⟨rfl, ?_⟩) (fun _ z => z) o
        have e : H a = none := by
          cases e : H a with
          | none => rfl
          | some u => have := old a (by rw [e]; simp); rw [z] at this; cases this
        rw [g2n a e, z]
        simp only [if_true]
        rw [if_pos hh]
  · obtain ⟨c, xs, f, ds, es, ei, ef, e1, e2⟩ := mMeth_some e
    cases (show _ = _ from e1)
    rfl
theorem j_methS {c0 : Nat} {f0 : FM} {i k n r : Nat} {o e : Expr} {es : List Expr} {m : Str} {ml : ML} {ms : List Am} {ks' : List (Option Nat)} (hv : PE X o (tVar i)) (hi : κ[i]? = some (some k)) (ha : JA X κ es ml ms κ1 true) (hm : allRz ms = true)
    (hlen : ∀ ds d es, f0 ds = some (d, es) → ds.length = n + 1 ∧ es.length = n + 1) (hf : (clsFs c0).contains m = false)
    (mk : ∀ {ta : TE} {t : TA}, PE X o ta → PA X es t → PE X e (tMeth (He.ga X.K (clsNm c0)) m (fnSp X.K ⟨List.replicate (n + 1) 0, r, ks'⟩ f0) [] E0 ta t)) {rz : Rz} (hr : rz = .rep ∨ (rz = .own r ∧ 99 ≤ r)) :
    J X κ e (mMeth [(c0, f0)] i ml) rz κ1 true :=
  j_meth hv hi ha hm (fun c f h => by obtain ⟨rfl, rfl⟩ := lk1 h; exact hlen) (fun c f h => by obtain ⟨rfl, rfl⟩ := lk1 h; exact hf) (fun c f h => by obtain ⟨rfl, rfl⟩ := lk1 h; exact mk) hr
theorem j_methS0 {c0 : Nat} {f0 : FM} {i k r : Nat} {o e : Expr} {m : Str} {ks' : List (Option Nat)} (hv : PE X o (tVar i)) (hi : κ[i]? = some (some k))
    (hlen : ∀ ds d es, f0 ds = some (d, es) → ds.length = 1 ∧ es.length = 1) (hf : (clsFs c0).contains m = false)
    (mk : ∀ {ta : TE}, PE X o ta → PE X e (tMeth (He.ga X.K (clsNm c0)) m (fnSp X.K ⟨[0], r, ks'⟩ f0) [] E0 ta tNil)) {rz : Rz} (hr : rz = .rep ∨ (rz = .own r ∧ 99 ≤ r)) :
    J X κ e (mMeth [(c0, f0)] i mNil) rz κ true :=
  j_meth0 hv hi (fun c f h => by obtain ⟨rfl, rfl⟩ := lk1 h; exact hlen) (fun c f h => by obtain ⟨rfl, rfl⟩ := lk1 h; exact hf) (fun c f h => by obtain ⟨rfl, rfl⟩ := lk1 h; exact mk) hr
theorem mk0_ok {K : PySem.W.Frag} {C : Addr} (h : mk0B K C = true) : Mk0 K C := by
  obtain ⟨a, h⟩ := He.ba h
  obtain ⟨b, h⟩ := He.ba h
  obtain ⟨c, h⟩ := He.ba h
  obtain ⟨d, e⟩ := He.ba h
  exact ⟨a, He.eqO_ok b, of_decide_eq_true c, d, of_decide_eq_true e⟩
end VS
namespace VS
open PySem PySem.Spec PyProof.Rows L2
variable {K : PySem.W.Frag} {X : Cx} {κ κ1 κ2 : OE} {pos : Pos} {rc : RC}
structure OneF (K : PySem.W.Frag) (mg : Str → Option Value) : Prop where
  ex : ∃ a t, mg "ONE" = some (.ref a) ∧ (∀ H, SqL K H a [.ref t]) ∧ Et K t
theorem one_ok {mg : Str → Option Value} {h : Heap} (X : K.In h) (G : h.Ns mainGlobals mg) (e : oneB K = true) : OneF K mg := by
  obtain ⟨e1, e2⟩ := He.ba e
  have hg := He.glo_ok X G e1
  split at e2
  · rename_i c its n sl hk
    obtain ⟨e3, e4⟩ := He.ba e2
    split at e4
    · rename_i t hi
      split at e4
      · rename_i c2 od its2 n2 sl2 hk2
        obtain ⟨e5, e6⟩ := He.ba e4
        refine ⟨_, t, hg, fun H => .inr ⟨_, its, n, hk, congrArg Value.type (of_decide_eq_true e3), rfl, rfl, ?_, ?_⟩, _, n2, hk2, congrArg Value.type (of_decide_eq_true e5), ?_⟩
        · rw [← Array.length_toList, hi, sizeLine_eq]; simp
        · rw [hi]; exact .cons rfl .nil
        · have : its2.toList = [] := by simpa using e6
          have : its2 = #[] := by rw [← Array.toList_inj]; simpa using this
          rw [this]
      · cases e4
    · cases e4
  · cases e2
def mOne : M := fun ρ => some (.lst [.tup []], ρ)
theorem j_one {p q : Pos} {k : Nat} (F : OneF X.K X.mg) (h1 : Gl X "ONE") (h2 : Gl X "list") (hm : X.mg "list" = none) (hk : k ≠ 0) : J X κ (.Call (.Name "list" p) [.Name "ONE" q] [] pos) mOne (.own k) κ true := by
  obtain ⟨a, t, e1, e2, e3⟩ := F.ex
  refine ⟨fun n hn => PE.imp (pe_callTy call_list_of h2 hm (by decide +kernel) (pa_cons (pe_glob (v := .ref a) h1 e1 rfl (by decide)) pa_nil)) fun σ H Q z q => ?_, fun _ ρ d ρ' e => by cases e; rfl⟩
  obtain ⟨g, ρ, S, d, ρ', em, post⟩ := q z
  cases em
  refine ⟨a, _, rfl, .inl (e2 H), fun l hl => ?_⟩
  exact post (.ref l) _ (nwG l n g) (S.new hl) (Pres.new S.gok hl (Nat.le_refl n)) (fun _ => same_new hl) ⟨l, _, rfl, upd_same, by rw [if_neg hk]; exact nwG_p, .ref t, [], rfl, ⟨t, [], rfl, .inr ⟨rfl, e3⟩, rfl⟩, rfl⟩
section
variable {κ3 κ4 : OE} {tg iter elt : Expr} {ifs : List Expr} {scope : Scope} {own : List (Str × Nat)} {mg : MG} {mc me : M} {ts : List Nat} {pc pe : Bool} {k i : Nat}
theorem lcKN_read {t : Nat} (htt : X.N.length ≤ t) (hk : κ[i]? = some (some 0)) (hg : InBlk X scope fun Y => JG Y κ tg mg κ2 ts) (ht : InBlk X scope fun Y => JTs Y κ2 ifs mc κ3 pc) (he : InBlk X scope fun Y => J Y κ3 elt me (.own (lv k)) κ4 pe)
    (h0 : k ≠ 0) (hκ : noneAt κ (own.map (·.2)) = true) (hκn : κ.length = X.N.length) (hts : ts.all (fun i => (own.map (·.2)).contains i) = true) (h1 : leO κ κ4 = true) (h2 : leO κ κ3 = true) {σ : L2.St} {H : Hp} {Q : VK} (z : En X.N.length σ H)
    (q : ∃ g ρ, Sok X.K κ ρ g σ H ∧ ∃ d ρ', mLc (true && (pc && pe)) (own.map (·.2)) (mKeysN i) mg mc me ρ = some (d, ρ') ∧ jPost X.K X.N.length t κ (.own k) (true && (pc && pe)) g σ H d ρ' Q) :
    tLockE (tLc (iKeysN (tVar i)) (jTG X.K X.N.length κ mg κ2 ts (t + 1)) (jTT X.K X.N.length κ2 mc κ3 pc (t + 1)) (jTE X.K X.N.length κ3 me (.own (lv k)) κ4 pe (t + 1)) (own.map (·.2))) σ H Q ∨
    tLc (iKeysN (tVar i)) (jTG X.K X.N.length κ mg κ2 ts (t + 1)) (jTT X.K X.N.length κ2 mc κ3 pc (t + 1)) (jTE X.K X.N.length κ3 me (.own (lv k)) κ4 pe (t + 1)) (own.map (·.2)) σ H Q := by
  obtain ⟨g, ρ, S, d, ρ', em, post⟩ := q
  obtain ⟨ds, ρ1, es, ρ2, e1, e2, hz, rfl, hρ⟩ := mLc_some em
  obtain ⟨ks, xs, e, rfl, rfl⟩ := mKeysN_some e1
  obtain ⟨a, vs, eσ, ha, rfl, kn, hg0⟩ := nd_at S hk e
  have em' : mLc (true && (pc && pe)) (own.map (·.2)) (mAt ρ1 (mKeysN i)) mg mc me ρ1 = some (.lst es, ρ') := by
    unfold mLc at em ⊢
    rw [mAt_self]
    exact em
  have core : ∀ {H1 : Hp} {Q1 : VK}, En X.N.length σ H1 → (∃ g ρ, Sok X.K κ ρ g σ H1 ∧ ∃ d ρ', mLc (true && (pc && pe)) (own.map (·.2)) (mAt ρ1 (mKeysN i)) mg mc me ρ = some (d, ρ') ∧ jPost X.K X.N.length t κ (.own k) (true && (pc && pe)) g σ H1 d ρ' Q1) →
      tLc (jTI X.K X.N.length κ (mAt ρ1 (mKeysN i)) κ true t) (jTG X.K X.N.length κ mg κ2 ts (t + 1)) (jTT X.K X.N.length κ2 mc κ3 pc (t + 1)) (jTE X.K X.N.length κ3 me (.own (lv k)) κ4 pe (t + 1)) (own.map (·.2)) σ H1 Q1 := fun z1 q1 =>
    lc_core' (tg := tg) (iter := elt) (elt := elt) (ifs := ifs) rfl htt h0 hκ hκn hts (hg X.s_0 H 0 [] []).out (ht X.s_0 H 0 [] []).pur (he X.s_0 H 0 [] []).pur h1 h2 rfl rfl rfl rfl σ _ _ z1 q1
  rcases ha with ha | ⟨od, ha⟩
  · refine .inl ⟨a, nO a vs, ha, nO_mut, fun od => ?_⟩
    exact wi_keysN hk z.upd eσ upd_same (kn.upd ha) e (core z.upd ⟨g, ρ1, S.swap (od := od) ha rfl hg0 (.inl ⟨rfl, rfl⟩), _, _, em', lock_post ha rfl hg0 post⟩)
  · exact .inr (wi_keysN hk z eσ ha kn e (core z ⟨g, ρ1, S, _, _, em', post⟩))
theorem j_lcKN (hc : X.calm = true) (hN : X.N.Nodup) (hv : PE X iter (tVar i)) (hk : κ[i]? = some (some 0))
    (ok : BlkOk X.N X.env.scope scope own) (hg : InBlk X scope fun Y => JG Y κ tg mg κ2 ts) (ht : InBlk X scope fun Y => JTs Y κ2 ifs mc κ3 pc) (he : InBlk X scope fun Y => J Y κ3 elt me (.own (lv k)) κ4 pe)
    (hs : ∀ x, foldedSetIterable iter X.env x = pure x) (h0 : k ≠ 0) (hκ : noneAt κ (own.map (·.2)) = true) (hκn : κ.length = X.N.length) (hts : ts.all (fun i => (own.map (·.2)).contains i) = true) (h1 : leO κ κ4 = true) (h2 : leO κ κ3 = true) :
    J X κ (.ListComp elt [⟨tg, iter, ifs, 0⟩] scope pos) (mLc (true && (pc && pe)) (own.map (·.2)) (mKeysN i) mg mc me) (.own k) κ (true && (pc && pe)) := by
  have base : ∀ t, X.N.length ≤ t → PE X (.ListComp elt [⟨tg, iter, ifs, 0⟩] scope pos) (tLc (iKeysN (tVar i)) (jTG X.K X.N.length κ mg κ2 ts (t + 1)) (jTT X.K X.N.length κ2 mc κ3 pc (t + 1)) (jTE X.K X.N.length κ3 me (.own (lv k)) κ4 pe (t + 1)) (own.map (·.2))) := fun t htt =>
    pe_lc hc hN (pi_keysN hv) ok (fun s H C cl fp => (hg s H C cl fp).run (t + 1) (by exact Nat.le_succ_of_le htt)) (fun s H C cl fp => (ht s H C cl fp).run (t + 1) (by exact Nat.le_succ_of_le htt)) (fun s H C cl fp => (he s H C cl fp).run (t + 1) (by exact Nat.le_succ_of_le htt)) hs
  refine ⟨fun t htt => PE.imp (PE.or (pe_lock (base t htt)) (base t htt)) fun σ H Q z q => ?_, fun hp ρ d ρ' e => ?_⟩
  · exact lcKN_read htt hk hg ht he h0 hκ hκn hts h1 h2 z (q z)
  · obtain ⟨ds, ρ1, es, ρ2, e1, e2, hz, rfl, rfl⟩ := mLc_some e
    rw [if_pos hp]
    obtain ⟨_, _, _, _, rfl⟩ := mKeysN_some e1
    rfl
end
end VS
namespace L_k17
open PySem PySem.Spec PyProof.Rows L2 VS
local macro_rules | `(tactic| trivial) => `(tactic| first | exact .inl rfl | exact .inr rfl)
structure Gs (mg : Str → Option Value) : Prop where
  abs : mg "abs" = none
  any : mg "any" = none
  enumerate : mg "enumerate" = none
  int : mg "int" = none
  len : mg "len" = none
  list : mg "list" = none
  max : mg "max" = none
  min : mg "min" = none
  range : mg "range" = none
  sorted : mg "sorted" = none
  BORN : ∃ t, mg "BORN" = some (.str "born" t)
  CROSS : ∃ t, mg "CROSS" = some (.str "cross" t)
  MOST_WORDS : ∃ t, mg "MOST_WORDS" = some (.int 200 t)
variable {P : Program} {w : World} {K : PySem.W.Frag} {mg : Str → Option Value} {base : Heap}
abbrev N_Sums_nought : List Str := ["self"]
abbrev p_Sums_nought : List Str := ["self"]
abbrev sg_Sums_nought : Sg := ⟨[0], 99, [none]⟩
def m_Sums_nought : SM := (sRet (mLst mNil))
def F_Sums_nought : FM := fM 1 1 sg_Sums_nought.ks' m_Sums_nought
theorem sc_Sums_nought : FnScope N_Sums_nought p_Sums_nought (defScope s_Sums_nought) := ⟨rfl, rfl, rfl, by decide +kernel, rfl, by decide +kernel, by decide +kernel⟩
abbrev ms_nought : List (Nat × FM) := [(0, F_Sums_nought)]
theorem ok_Sums_nought (G : Gs mg) {fa : Addr} {fd : FuncData} (F : FunD K "nought" "Sums.nought" (defArgs s_Sums_nought) (defBody s_Sums_nought) (defScope s_Sums_nought) [] [] fa fd) (hc : Cls K (He.ga K (clsNm 0))) (hm : Meth K (He.ga K (clsNm 0)) "nought" fa) : HasM P w K mg base 0 "nought" 1 p_Sums_nought sg_Sums_nought F_Sums_nought := by
  refine has_mkM (k := 0) (n := 1) F hc hm sc_Sums_nought rfl rfl (by decide) rfl (fun _ _ _ _ _ _ us hl => match us, hl with | [_], _ => rfl) fun cdv A outer s H E hr => ?_
  have hu := units_of hr
  exact (jb_one (js_ret (κ1 := [some 0]) (j_lst (k := 0) (k' := 99) ja_nil rfl (by decide)) rfl rfl))
abbrev N_Sums_one : List Str := ["self"]
abbrev p_Sums_one : List Str := ["self"]
abbrev sg_Sums_one : Sg := ⟨[0], 99, [none]⟩
def m_Sums_one : SM := (sRet mOne)
def F_Sums_one : FM := fM 1 1 sg_Sums_one.ks' m_Sums_one
theorem sc_Sums_one : FnScope N_Sums_one p_Sums_one (defScope s_Sums_one) := ⟨rfl, rfl, rfl, by decide +kernel, rfl, by decide +kernel, by decide +kernel⟩
abbrev ms_one : List (Nat × FM) := [(0, F_Sums_one)]
theorem ok_Sums_one (G : Gs mg) (ON : OneF K mg) {fa : Addr} {fd : FuncData} (F : FunD K "one" "Sums.one" (defArgs s_Sums_one) (defBody s_Sums_one) (defScope s_Sums_one) [] [] fa fd) (hc : Cls K (He.ga K (clsNm 0))) (hm : Meth K (He.ga K (clsNm 0)) "one" fa) : HasM P w K mg base 0 "one" 1 p_Sums_one sg_Sums_one F_Sums_one := by
  refine has_mkM (k := 0) (n := 1) F hc hm sc_Sums_one rfl rfl (by decide) rfl (fun _ _ _ _ _ _ us hl => match us, hl with | [_], _ => rfl) fun cdv A outer s H E hr => ?_
  have hu := units_of hr
  exact (jb_one (js_ret (κ1 := [some 0]) (j_one (k := 99) ON (by rfl) (by rfl) G.list (by decide)) rfl rfl))
abbrev N_Sums_of_name : List Str := ["self", "t"]
abbrev p_Sums_of_name : List Str := ["self", "t"]
abbrev sg_Sums_of_name : Sg := ⟨[0, 0], 99, [none, none]⟩
def m_Sums_of_name : SM := (sRet (mLst (mCons (mTup (mCons (mA (mV 1)) mNil)) mNil)))
def F_Sums_of_name : FM := fM 2 2 sg_Sums_of_name.ks' m_Sums_of_name
theorem sc_Sums_of_name : FnScope N_Sums_of_name p_Sums_of_name (defScope s_Sums_of_name) := ⟨rfl, rfl, rfl, by decide +kernel, rfl, by decide +kernel, by decide +kernel⟩
abbrev ms_of_name : List (Nat × FM) := [(0, F_Sums_of_name)]
theorem ok_Sums_of_name (G : Gs mg) {fa : Addr} {fd : FuncData} (F : FunD K "of_name" "Sums.of_name" (defArgs s_Sums_of_name) (defBody s_Sums_of_name) (defScope s_Sums_of_name) [] [] fa fd) (hc : Cls K (He.ga K (clsNm 0))) (hm : Meth K (He.ga K (clsNm 0)) "of_name" fa) : HasM P w K mg base 0 "of_name" 1 p_Sums_of_name sg_Sums_of_name F_Sums_of_name := by
  refine has_mkM (k := 0) (n := 2) F hc hm sc_Sums_of_name rfl rfl (by decide) rfl (fun _ _ _ _ _ _ us hl => match us, hl with | [_, _], _ => rfl) fun cdv A outer s H E hr => ?_
  have hu := units_of hr
  exact (jb_one (js_ret (κ1 := [some 0, some 0]) (j_lst (k := 0) (k' := 99) (ja_cons (j_tup (k' := 99) (ja_cons (J.asAtom (z' := .own 99) (j_var (i := 1) (pv 1) rfl)) ja_nil rfl rfl) rfl) ja_nil rfl rfl) rfl (by decide)) rfl rfl))
abbrev N_odd_ones : List Str := ["words", "found", "word"]
abbrev p_odd_ones : List Str := ["words"]
abbrev sg_odd_ones : Sg := ⟨[0], 99, [none]⟩
def b_odd_ones_0 : SM := (sPutN 1 (mNot (mGetN 1 (mV 2) (mC (.bl false)))) (mV 2))
def m_odd_ones : SM := (sSeq (sAsg 1 mND)
  (sSeq (sFor (mSeq (mV 0)) (gNm 2)
  b_odd_ones_0)
  (sRet (mFl (mMk .srt (mCons (mLc (true && (true && true)) [2] (mKeysN 1) (gNm 2) (mTr (m2 dIxN (mV 1) (mV 2))) (mV 2)) mNil))))))
def F_odd_ones : FM := fM 1 3 sg_odd_ones.ks' m_odd_ones
theorem sc_odd_ones : FnScope N_odd_ones p_odd_ones (defScope s_odd_ones) := ⟨rfl, rfl, rfl, by decide +kernel, rfl, by decide +kernel, by decide +kernel⟩
theorem ok_odd_ones (G : Gs mg) {fa : Addr} {fd : FuncData} (F : FnP K "odd_ones" s_odd_ones fa fd) (hm : mg "odd_ones" = some (.ref fa)) : Has P w K mg base "odd_ones" 1 p_odd_ones sg_odd_ones F_odd_ones := by
  refine has_mk (k := 0) (n := 3) F hm sc_odd_ones rfl rfl (by decide) rfl (fun _ _ _ _ _ _ us hl => match us, hl with | [_], _ => rfl) fun cdv A outer s H E hr => ?_
  have hu := units_of hr
  exact (jb_cons (js_set (κ1 := [some 0, none, none]) (i := 1) (k := 99) (j_ndnew (by decide)) sc_odd_ones.nd rfl (by trivial) rfl (.inl rfl) rfl)
    (jb_cons (JS.weak (κ1 := [some 0, some 1, none]) (κn := [some 0, some 1, none]) (κn' := [some 0, some 1, none]) (js_for (κ1 := [some 0, some 1, none]) PassesOwn.never rfl (ji_seq (j_frz (κ := [some 0, some 1, none]) (i := 0) (k := 0) (pv 0) rfl rfl)) (jg_name (i := 2) sc_odd_ones.nd rfl (by trivial) (.inl rfl))
    (JB.weak (κ1 := [some 0, some 1, some 0]) (κn := [some 0, some 1, some 0]) (jb_one (js_putN (κ1 := [some 0, some 1, some 0]) (i := 1) (k1 := 1) hu (J.less (j := 0) (k := 99) (j_not (rz' := .own 99) (j_getN (i := 1) hu (pv 1) rfl (j_var (i := 2) (pv 2) rfl) (J.less (j := 0) (k := 99) (j_const (d := .bl false) (rz := .own 99) rfl pe_bl) (by decide)) ⟨rfl, rfl, rfl, rfl⟩)) (by decide)) (pv 1) (j_var (i := 2) (pv 2) rfl) rfl rfl rfl)) rfl rfl rfl rfl) rfl (fun _ => rfl)) rfl rfl rfl rfl)
    (jb_one (JS.weak (κ1 := [some 0, some 0, none]) (κn := [none, none, none]) (κn' := [none, none, none]) (js_ret (κ1 := [some 0, some 0, none]) (J.flat (k := 99) (j_mkO (k := .srt) (ja_cons (J.less (j := 0) (k := 1) (j_lcKN (κ := [some 0, some 0, none]) (k := 1) (own := [("word", 2)]) rfl sc_odd_ones.nd (pv 1) rfl (blkOk_by (N := N_odd_ones) (sc := defScope s_odd_ones) (own := [("word", 2)]) (by decide +kernel)) (fun _ _ _ _ _ => (jg_name (i := 2) sc_odd_ones.nd rfl (by trivial) (by trivial))) (fun _ _ _ _ _ => (jts_one (jt_val (j_ixN hu (j_frz (κ := [some 0, some 0, some 0]) (i := 1) (k := 0) (pv 1) rfl rfl) (j_var (i := 2) (pv 2) rfl) (fun _ _ => rfl)) (fun _ => rfl)))) (fun _ _ _ _ _ => (j_frz (κ := [some 0, some 0, some 0]) (i := 2) (k := 0) (pv 2) rfl rfl)) (fun _ => rfl) (by decide) rfl rfl rfl rfl rfl) (by decide)) ja_nil rfl rfl) fun h => pe_callB (cr_srt hu) (by rfl) G.sorted (by decide +kernel) h) (by decide)) rfl rfl) rfl rfl rfl rfl))))
abbrev N_added : List Str := ["one", "other"]
abbrev p_added : List Str := ["one", "other"]
abbrev sg_added : Sg := ⟨[0, 0], 99, [none, none]⟩
def m_added : SM := (sRet (mCall F_odd_ones (mCons (m2 dCat (mV 0) (mV 1)) mNil)))
def F_added : FM := fM 2 2 sg_added.ks' m_added
theorem sc_added : FnScope N_added p_added (defScope s_added) := ⟨rfl, rfl, rfl, by decide +kernel, rfl, by decide +kernel, by decide +kernel⟩
theorem ok_added (G : Gs mg) (h_odd_ones : Has P w K mg base "odd_ones" 1 p_odd_ones sg_odd_ones F_odd_ones) {fa : Addr} {fd : FuncData} (F : FnP K "added" s_added fa fd) (hm : mg "added" = some (.ref fa)) : Has P w K mg base "added" 2 p_added sg_added F_added := by
  refine has_mk (k := 1) (n := 2) F hm sc_added rfl rfl (by decide) rfl (fun _ _ _ _ _ _ us hl => match us, hl with | [_, _], _ => rfl) fun cdv A outer s H E hr => ?_
  have hu := units_of hr
  exact (jb_one (js_ret (κ1 := [some 0, some 0]) (call_pure (n := 1) (r := 99) (rz := .own 99) (ja_cons (j_cat (j_var (i := 0) (pv 0) rfl) (j_var (i := 1) (pv 1) rfl) rfl fun a b => pe_op o_cat a b) ja_nil rfl rfl) rfl (fun _ _ _ => fM_len _ _ _) (fun h => has_call h_odd_ones hr (by decide) (by rfl) h (by rfl) (by rfl) (by rfl)) (.inr ⟨rfl, by decide⟩)) rfl rfl))
abbrev N_Sums_plus : List Str := ["self", "one", "other"]
abbrev p_Sums_plus : List Str := ["self", "one", "other"]
abbrev sg_Sums_plus : Sg := ⟨[0, 0, 0], 99, [none, none, none]⟩
def m_Sums_plus : SM := (sRet (mCall F_added (mCons (mV 1) (mCons (mV 2) mNil))))
def F_Sums_plus : FM := fM 3 3 sg_Sums_plus.ks' m_Sums_plus
theorem sc_Sums_plus : FnScope N_Sums_plus p_Sums_plus (defScope s_Sums_plus) := ⟨rfl, rfl, rfl, by decide +kernel, rfl, by decide +kernel, by decide +kernel⟩
abbrev ms_plus : List (Nat × FM) := [(0, F_Sums_plus)]
theorem ok_Sums_plus (G : Gs mg) (h_added : Has P w K mg base "added" 2 p_added sg_added F_added) {fa : Addr} {fd : FuncData} (F : FunD K "plus" "Sums.plus" (defArgs s_Sums_plus) (defBody s_Sums_plus) (defScope s_Sums_plus) [] [] fa fd) (hc : Cls K (He.ga K (clsNm 0))) (hm : Meth K (He.ga K (clsNm 0)) "plus" fa) : HasM P w K mg base 0 "plus" 3 p_Sums_plus sg_Sums_plus F_Sums_plus := by
  refine has_mkM (k := 2) (n := 3) F hc hm sc_Sums_plus rfl rfl (by decide) rfl (fun _ _ _ _ _ _ us hl => match us, hl with | [_, _, _], _ => rfl) fun cdv A outer s H E hr => ?_
  have hu := units_of hr
  exact (jb_one (js_ret (κ1 := [some 0, some 0, some 0]) (call_pure (n := 2) (r := 99) (rz := .own 99) (ja_cons (j_var (i := 1) (pv 1) rfl) (ja_cons (j_var (i := 2) (pv 2) rfl) ja_nil rfl rfl) rfl rfl) rfl (fun _ _ _ => fM_len _ _ _) (fun h => has_call h_added hr (by decide) (by rfl) h (by rfl) (by rfl) (by rfl)) (.inr ⟨rfl, by decide⟩)) rfl rfl))
abbrev N_multiplied : List Str := ["one", "other", "found", "word", "behind"]
abbrev p_multiplied : List Str := ["one", "other"]
abbrev sg_multiplied : Sg := ⟨[0, 0], 99, [none, none]⟩
def b_multiplied_0 : SM := (sExp (mMut 2 fExt (mCons (mLc (true && (true && true)) [4] (mSeq (mV 1)) (gNm 4) mYes (m2 dCat (mV 3) (mV 4))) mNil)))
def m_multiplied : SM := (sSeq (sAsg 2 (mLst mNil))
  (sSeq (sFor (mSeq (mV 0)) (gNm 3)
  b_multiplied_0)
  (sRet (mCall F_odd_ones (mCons (mV 2) mNil)))))
def F_multiplied : FM := fM 2 5 sg_multiplied.ks' m_multiplied
theorem sc_multiplied : FnScope N_multiplied p_multiplied (defScope s_multiplied) := ⟨rfl, rfl, rfl, by decide +kernel, rfl, by decide +kernel, by decide +kernel⟩
theorem ok_multiplied (G : Gs mg) (h_odd_ones : Has P w K mg base "odd_ones" 1 p_odd_ones sg_odd_ones F_odd_ones) {fa : Addr} {fd : FuncData} (F : FnP K "multiplied" s_multiplied fa fd) (hm : mg "multiplied" = some (.ref fa)) : Has P w K mg base "multiplied" 2 p_multiplied sg_multiplied F_multiplied := by
  refine has_mk (k := 1) (n := 5) F hm sc_multiplied rfl rfl (by decide) rfl (fun _ _ _ _ _ _ us hl => match us, hl with | [_, _], _ => rfl) fun cdv A outer s H E hr => ?_
  have hu := units_of hr
  exact (jb_cons (js_set (κ1 := [some 0, some 0, none, none, none]) (i := 2) (k := 99) (j_lst (k := 0) (k' := 99) ja_nil rfl (by decide)) sc_multiplied.nd rfl (by trivial) rfl (.inl rfl) rfl)
    (jb_cons (JS.weak (κ1 := [some 0, some 0, some 1, none, none]) (κn := [some 0, some 0, some 1, none, none]) (κn' := [some 0, some 0, some 1, none, none]) (js_for (κ1 := [some 0, some 0, some 1, none, none]) PassesOwn.never rfl (ji_seq (j_frz (κ := [some 0, some 0, some 1, none, none]) (i := 0) (k := 0) (pv 0) rfl rfl)) (jg_name (i := 3) sc_multiplied.nd rfl (by trivial) (.inl rfl))
    (JB.weak (κ1 := [some 0, some 0, some 1, some 0, none]) (κn := [some 0, some 0, some 1, some 0, none]) (jb_one (js_exp (j_mut (κ1 := [some 0, some 0, some 1, some 0, none]) (i := 2) (k0 := 1) (ja_cons (J.less (j := 0) (k := 2) (j_lc (k := 2) (own := [("behind", 4)]) rfl sc_multiplied.nd (ji_seq (j_frz (κ := [some 0, some 0, some 1, some 0, none]) (i := 1) (k := 0) (pv 1) rfl rfl)) (blkOk_by (N := N_multiplied) (sc := defScope s_multiplied) (own := [("behind", 4)]) (by decide +kernel)) (fun _ _ _ _ _ => (jg_name (i := 4) sc_multiplied.nd rfl (by trivial) (by trivial))) (fun _ _ _ _ _ => jts_nil) (fun _ _ _ _ _ => (j_catO (j_frz (κ := [some 0, some 0, some 1, some 0, some 0]) (i := 3) (k := 0) (pv 3) rfl rfl) (j_frz (κ := [some 0, some 0, some 1, some 0, some 0]) (i := 4) (k := 0) (pv 4) rfl rfl) fun a b => pe_op o_cat a b)) (fun _ => rfl) (by decide) rfl rfl rfl rfl rfl) (by decide)) ja_nil rfl rfl) rfl rfl rfl u_ext fun h => pe_bm PySem.F.plainAttrs_list PySem.F.slot_list_extend PySem.F.type_list_extend mt_extend (pv 2) h) rfl)) rfl rfl rfl rfl) rfl (fun _ => rfl)) rfl rfl rfl rfl)
    (jb_one (js_ret (κ1 := [some 0, some 0, some 1, none, none]) (call_pure (n := 1) (r := 99) (rz := .own 99) (ja_cons (j_var (i := 2) (pv 2) rfl) ja_nil rfl rfl) rfl (fun _ _ _ => fM_len _ _ _) (fun h => has_call h_odd_ones hr (by decide) (by rfl) h (by rfl) (by rfl) (by rfl)) (.inr ⟨rfl, by decide⟩)) rfl rfl))))
abbrev N_Sums_times : List Str := ["self", "one", "other"]
abbrev p_Sums_times : List Str := ["self", "one", "other"]
abbrev sg_Sums_times : Sg := ⟨[0, 0, 0], 99, [none, none, none]⟩
def m_Sums_times : SM := (sRet (mCall F_multiplied (mCons (mV 1) (mCons (mV 2) mNil))))
def F_Sums_times : FM := fM 3 3 sg_Sums_times.ks' m_Sums_times
theorem sc_Sums_times : FnScope N_Sums_times p_Sums_times (defScope s_Sums_times) := ⟨rfl, rfl, rfl, by decide +kernel, rfl, by decide +kernel, by decide +kernel⟩
abbrev ms_times : List (Nat × FM) := [(0, F_Sums_times)]
theorem ok_Sums_times (G : Gs mg) (h_multiplied : Has P w K mg base "multiplied" 2 p_multiplied sg_multiplied F_multiplied) {fa : Addr} {fd : FuncData} (F : FunD K "times" "Sums.times" (defArgs s_Sums_times) (defBody s_Sums_times) (defScope s_Sums_times) [] [] fa fd) (hc : Cls K (He.ga K (clsNm 0))) (hm : Meth K (He.ga K (clsNm 0)) "times" fa) : HasM P w K mg base 0 "times" 3 p_Sums_times sg_Sums_times F_Sums_times := by
  refine has_mkM (k := 2) (n := 3) F hc hm sc_Sums_times rfl rfl (by decide) rfl (fun _ _ _ _ _ _ us hl => match us, hl with | [_, _, _], _ => rfl) fun cdv A outer s H E hr => ?_
  have hu := units_of hr
  exact (jb_one (js_ret (κ1 := [some 0, some 0, some 0]) (call_pure (n := 2) (r := 99) (rz := .own 99) (ja_cons (j_var (i := 1) (pv 1) rfl) (ja_cons (j_var (i := 2) (pv 2) rfl) ja_nil rfl rfl) rfl rfl) rfl (fun _ _ _ => fM_len _ _ _) (fun h => has_call h_multiplied hr (by decide) (by rfl) h (by rfl) (by rfl) (by rfl)) (.inr ⟨rfl, by decide⟩)) rfl rfl))
abbrev N_empty_table : List Str := ["ring", "many", "row", "column"]
abbrev p_empty_table : List Str := ["ring", "many"]
abbrev sg_empty_table : Sg := ⟨[0, 0], 99, [none, none]⟩
def m_empty_table : SM := (sRet (mLc (true && (true && true)) [2] (mRng1 (mCons (mV 1) mNil)) (gNm 2) mYes (mLc (true && (true && true)) [3] (mRng1 (mCons (mV 1) mNil)) (gNm 3) mYes (mMeth ms_nought 0 mNil))))
def F_empty_table : FM := fM 2 4 sg_empty_table.ks' m_empty_table
theorem sc_empty_table : FnScope N_empty_table p_empty_table (defScope s_empty_table) := ⟨rfl, rfl, rfl, by decide +kernel, rfl, by decide +kernel, by decide +kernel⟩
theorem ok_empty_table (G : Gs mg) (h_Sums_nought : HasM P w K mg base 0 "nought" 1 p_Sums_nought sg_Sums_nought F_Sums_nought) {fa : Addr} {fd : FuncData} (F : FnP K "empty_table" s_empty_table fa fd) (hm : mg "empty_table" = some (.ref fa)) : Has P w K mg base "empty_table" 2 p_empty_table sg_empty_table F_empty_table := by
  refine has_mk (k := 1) (n := 4) F hm sc_empty_table rfl rfl (by decide) rfl (fun _ _ _ _ _ _ us hl => match us, hl with | [_, _], _ => rfl) fun cdv A outer s H E hr => ?_
  have hu := units_of hr
  exact (jb_one (js_ret (κ1 := [some 0, some 0, none, none]) (j_lc (k := 99) (own := [("row", 2)]) rfl sc_empty_table.nd (ji_range1 (ja_cons (j_var (i := 1) (pv 1) rfl) ja_nil rfl rfl) rfl (by rfl) G.range rfl) (blkOk_by (N := N_empty_table) (sc := defScope s_empty_table) (own := [("row", 2)]) (by decide +kernel)) (fun _ _ _ _ _ => (jg_name (i := 2) sc_empty_table.nd rfl (by trivial) (by trivial))) (fun _ _ _ _ _ => jts_nil) (fun _ _ _ _ _ => (j_lc (k := 99) (own := [("column", 3)]) rfl sc_empty_table.nd (ji_range1 (ja_cons (j_var (i := 1) (pv 1) rfl) ja_nil rfl rfl) rfl (by rfl) G.range rfl) (blkOk_by (own := [("column", 3)]) (by rfl)) (fun _ _ _ _ _ => (jg_name (i := 3) sc_empty_table.nd rfl (by trivial) (by trivial))) (fun _ _ _ _ _ => jts_nil) (fun _ _ _ _ _ => (j_methS0 (c0 := 0) (f0 := F_Sums_nought) (i := 0) (k := 0) (r := 99) (m := "nought") (ks' := [none]) (pv 0) rfl (fun _ _ _ h => fM_len _ _ _ h) rfl (fun he => has_meth0 h_Sums_nought hr (by decide) he (by rfl)) (.inr ⟨rfl, by decide⟩))) (fun _ => rfl) (by decide) rfl rfl rfl rfl rfl)) (fun _ => rfl) (by decide) rfl rfl rfl rfl rfl) rfl rfl))
abbrev N_born_table : List Str := ["ring", "table", "k", "many", "found", "left", "row", "i", "number", "column", "j"]
abbrev p_born_table : List Str := ["ring", "table", "k"]
abbrev sg_born_table : Sg := ⟨[0, 0, 0], 2, [none, none, none]⟩
def b_born_table_0 : SM := (sSet2 4 (m2 dIxP (m2 dIxP (mV 1) (mV 6)) (mV 9)) (mV 7) (mV 10))
def b_born_table_1 : SM := (sFor (mEnum (mCons (mV 5) mNil)) (gTp (gsCons (gNm 9) (gsCons (gNm 10) gsNil)))
  b_born_table_0)
def m_born_table : SM := (sSeq (sAsg 3 (m2 dAdd (mB fLen (mCons (mV 1) mNil)) (mC (.int 2))))
  (sSeq (sAsg 4 (mCall F_empty_table (mCons (mV 0) (mCons (mV 3) mNil))))
  (sSeq (sAsg 5 (mLc (true && (true && true)) [8] (mRng1 (mCons (mV 3) mNil)) (gNm 8) (m2 dNi (mV 8) (mTup (mCons (mA (mV 2)) (mCons (m2 dAdd (mV 2) (mC (.int 1))) mNil)))) (mA (mV 8))))
  (sSeq (sFor (mEnum (mCons (mV 5) mNil)) (gTp (gsCons (gNm 6) (gsCons (gNm 7) gsNil)))
  b_born_table_1)
  (sSeq (sSet2 4 (mMeth ms_one 0 mNil) (mV 2) (m2 dAdd (mV 2) (mC (.int 1))))
  (sRet (mV 4)))))))
def F_born_table : FM := fM 3 11 sg_born_table.ks' m_born_table
theorem sc_born_table : FnScope N_born_table p_born_table (defScope s_born_table) := ⟨rfl, rfl, rfl, by decide +kernel, rfl, by decide +kernel, by decide +kernel⟩
theorem ok_born_table (G : Gs mg) (h_empty_table : Has P w K mg base "empty_table" 2 p_empty_table sg_empty_table F_empty_table) (h_Sums_one : HasM P w K mg base 0 "one" 1 p_Sums_one sg_Sums_one F_Sums_one) {fa : Addr} {fd : FuncData} (F : FnP K "born_table" s_born_table fa fd) (hm : mg "born_table" = some (.ref fa)) : Has P w K mg base "born_table" 3 p_born_table sg_born_table F_born_table := by
  refine has_mk (k := 2) (n := 11) F hm sc_born_table rfl rfl (by decide) rfl (fun _ _ _ _ _ _ us hl => match us, hl with | [_, _, _], _ => rfl) fun cdv A outer s H E hr => ?_
  have hu := units_of hr
  exact (jb_cons (js_set (κ1 := [some 0, some 0, some 0, none, none, none, none, none, none, none, none]) (i := 3) (k := 99) (J.two_read (rz := .own 99) (j_callA (rz := .own 99) (ja_cons (j_var (i := 1) (pv 1) rfl) ja_nil rfl rfl) rfl at_len fun h => pe_callB (CallR.en cr_len) (by rfl) G.len (by decide +kernel) h) (j_const (d := .int 2) (rz := .own 99) rfl pe_int) rfl (atOp dAdd_a) fun a b => pe_op o_add a b) sc_born_table.nd rfl (by trivial) rfl (.inl rfl) rfl)
    (jb_cons (js_set (κ1 := [some 0, some 0, some 0, some 99, none, none, none, none, none, none, none]) (i := 4) (k := 99) (call_pure (n := 2) (r := 99) (rz := .own 99) (ja_cons (j_var (i := 0) (pv 0) rfl) (ja_cons (j_var (i := 3) (pv 3) rfl) ja_nil rfl rfl) rfl rfl) rfl (fun _ _ _ => fM_len _ _ _) (fun h => has_call h_empty_table hr (by decide) (by rfl) h (by rfl) (by rfl) (by rfl)) (.inr ⟨rfl, by decide⟩)) sc_born_table.nd rfl (by trivial) rfl (.inl rfl) rfl)
    (jb_cons (js_lc (κ1 := [some 0, some 0, some 0, some 99, some 99, none, none, none, none, none, none]) (i := 5) (k := 99) (own := [("number", 8)]) rfl sc_born_table.nd rfl rfl (sw_true rfl rfl rfl (by decide +kernel)) (ji_range1 (ja_cons (j_var (i := 3) (pv 3) rfl) ja_nil rfl rfl) rfl (by rfl) G.range rfl) (blkOk_by (N := N_born_table) (sc := defScope s_born_table) (own := [("number", 8)]) (by decide +kernel)) (fun _ _ _ _ _ => (jg_name (i := 8) sc_born_table.nd rfl (by trivial) (by trivial))) (fun _ _ _ _ _ => (jts_one (JT.two_read (j_var (i := 8) (pv 8) rfl) (j_tup (k' := 99) (ja_cons (J.asAtom (z' := .own 99) (j_var (i := 2) (pv 2) rfl)) (ja_cons (J.two_read (rz := .own 99) (j_var (i := 2) (pv 2) rfl) (j_const (d := .int 1) (rz := .own 99) rfl pe_int) rfl (atOp dAdd_a) fun a b => pe_op o_add a b) ja_nil rfl rfl) rfl rfl) rfl) rfl (atOp fun _ _ _ => dInG_a _ _ _) fun a b => pt_cmpR (o_ni hu) a b (by with_unfolding_all rfl)))) (fun _ _ _ _ _ => (J.asAtom (z' := .own 99) (j_var (i := 8) (pv 8) rfl))) (fun _ => rfl) (by decide) rfl rfl rfl rfl rfl rfl)
    (jb_cons (JS.weak (κ1 := [some 0, some 0, some 0, some 99, some 2, some 99, none, none, none, none, none]) (κn := [some 0, some 0, some 0, some 99, some 2, some 0, none, none, none, none, none]) (κn' := [some 0, some 0, some 0, some 99, some 2, some 0, none, none, none, none, none]) (js_for (κ1 := [some 0, some 0, some 0, some 99, some 2, some 0, none, none, none, none, none]) PassesOwn.never rfl (ji_enum (ja_cons (j_frz (κ := [some 0, some 0, some 0, some 99, some 2, some 99, none, none, none, none, none]) (i := 5) (k := 99) (pv 5) rfl rfl) ja_nil rfl rfl) (by rfl) G.enumerate rfl) (jg_tup (n := 2) rfl (jgs_cons (jg_name (i := 6) sc_born_table.nd rfl (by trivial) (.inl rfl)) (jgs_cons (jg_name (i := 7) sc_born_table.nd rfl (by trivial) (.inl rfl)) jgs_nil fun a b => pgs_cons a b) fun a b => pgs_cons a b) rfl rfl (gs_lenS (gs_lenS gs_len0)))
    (JB.weak (κ1 := [some 0, some 0, some 0, some 99, some 2, some 0, some 0, some 0, none, none, none]) (κn := [some 0, some 0, some 0, some 99, some 2, some 0, some 0, some 0, none, none, none]) (jb_one (js_for (κ1 := [some 0, some 0, some 0, some 99, some 2, some 0, some 0, some 0, none, none, none]) PassesOwn.never rfl (ji_enum (ja_cons (j_frz (κ := [some 0, some 0, some 0, some 99, some 2, some 0, some 0, some 0, none, none, none]) (i := 5) (k := 0) (pv 5) rfl rfl) ja_nil rfl rfl) (by rfl) G.enumerate rfl) (jg_tup (n := 2) rfl (jgs_cons (jg_name (i := 9) sc_born_table.nd rfl (by trivial) (.inl rfl)) (jgs_cons (jg_name (i := 10) sc_born_table.nd rfl (by trivial) (.inl rfl)) jgs_nil fun a b => pgs_cons a b) fun a b => pgs_cons a b) rfl rfl (gs_lenS (gs_lenS gs_len0)))
    (JB.weak (κ1 := [some 0, some 0, some 0, some 99, some 2, some 0, some 0, some 0, none, some 0, some 0]) (κn := [some 0, some 0, some 0, some 99, some 2, some 0, some 0, some 0, none, some 0, some 0]) (jb_one (js_set2 (κ1 := [some 0, some 0, some 0, some 99, some 2, some 0, some 0, some 0, none, some 0, some 0]) (κ2 := [some 0, some 0, some 0, some 99, some 2, some 0, some 0, some 0, none, some 0, some 0]) (κ3 := [some 0, some 0, some 0, some 99, some 2, some 0, some 0, some 0, none, some 0, some 0]) (i := 4) (jp_frz (κ1 := [some 0, some 0, some 0, some 99, some 2, some 0, some 0, some 0, none, some 0, some 0]) (i := 1) (n := 2) (k := 0) (jp_ix (κ1 := [some 0, some 0, some 0, some 99, some 2, some 0, some 0, some 0, none, some 0, some 0]) (κ2 := [some 0, some 0, some 0, some 99, some 2, some 0, some 0, some 0, none, some 0, some 0]) (i := 1) (n := 1) (k := 0) hu (jp_ix (κ1 := [some 0, some 0, some 0, some 99, some 2, some 0, some 0, some 0, none, some 0, some 0]) (κ2 := [some 0, some 0, some 0, some 99, some 2, some 0, some 0, some 0, none, some 0, some 0]) (i := 1) (n := 0) (k := 0) hu (jp_var (i := 1) (k := 0) (pv 1) rfl) (j_var (i := 6) (pv 6) rfl) (fun _ _ => rfl) rfl) (j_var (i := 9) (pv 9) rfl) (fun _ _ => rfl) rfl) rfl (by decide) rfl) (pv 4) (j_var (i := 7) (pv 7) rfl) (j_var (i := 10) (pv 10) rfl) (fun _ _ => rfl) rfl rfl rfl fun he ho hj => ps_asg he (pg_sub ho hj set_list))) rfl rfl rfl rfl) rfl (fun _ => rfl))) rfl rfl rfl rfl) rfl (fun _ => rfl)) rfl rfl rfl rfl)
    (jb_cons (js_set2 (κ1 := [some 0, some 0, some 0, some 99, some 2, some 0, none, none, none, none, none]) (κ2 := [some 0, some 0, some 0, some 99, some 2, some 0, none, none, none, none, none]) (κ3 := [some 0, some 0, some 0, some 99, some 2, some 0, none, none, none, none, none]) (i := 4) (J.less (j := 0) (k := 99) (j_methS0 (c0 := 0) (f0 := F_Sums_one) (i := 0) (k := 0) (r := 99) (m := "one") (ks' := [none]) (pv 0) rfl (fun _ _ _ h => fM_len _ _ _ h) rfl (fun he => has_meth0 h_Sums_one hr (by decide) he (by rfl)) (.inr ⟨rfl, by decide⟩)) (by decide)) (pv 4) (j_var (i := 2) (pv 2) rfl) (J.two_read (rz := .own 99) (j_var (i := 2) (pv 2) rfl) (j_const (d := .int 1) (rz := .own 99) rfl pe_int) rfl (atOp dAdd_a) fun a b => pe_op o_add a b) (fun _ _ => rfl) rfl rfl rfl fun he ho hj => ps_asg he (pg_sub ho hj set_list))
    (jb_one (js_ret (κ1 := [some 0, some 0, some 0, some 99, none, some 0, none, none, none, none, none]) (j_mov (κ := [some 0, some 0, some 0, some 99, some 2, some 0, none, none, none, none, none]) (i := 4) (k := 2) (pv 4) rfl) rfl rfl)))))))
abbrev N_crossed_table : List Str := ["ring", "table", "k", "name", "found", "j", "i", "row"]
abbrev p_crossed_table : List Str := ["ring", "table", "k", "name"]
abbrev sg_crossed_table : Sg := ⟨[0, 0, 0, 0], 2, [none, none, none, none]⟩
def b_crossed_table_0 : SM := (sSeq (sSet2 4 (m2 dIxP (m2 dIxP (mV 1) (m2 dAdd (mV 2) (mC (.int 1)))) (mV 5)) (mV 2) (mV 5))
  (sSet2 4 (mMeth ms_plus 0 (mCons (m2 dIx (m2 dIx (mV 1) (mV 2)) (mV 5)) (mCons (mMeth ms_times 0 (mCons (mV 3) (mCons (m2 dIx (m2 dIx (mV 1) (m2 dAdd (mV 2) (mC (.int 1)))) (mV 5)) mNil))) mNil))) (m2 dAdd (mV 2) (mC (.int 1))) (mV 5)))
def b_crossed_table_1 : SM := (sSeq (sSet2 4 (m2 dIxP (m2 dIxP (mV 1) (mV 6)) (mV 2)) (mV 6) (m2 dAdd (mV 2) (mC (.int 1))))
  (sSet2 4 (mMeth ms_plus 0 (mCons (m2 dIx (m2 dIx (mV 1) (mV 6)) (m2 dAdd (mV 2) (mC (.int 1)))) (mCons (mMeth ms_times 0 (mCons (m2 dIx (m2 dIx (mV 1) (mV 6)) (mV 2)) (mCons (mV 3) mNil))) mNil))) (mV 6) (mV 2)))
def m_crossed_table : SM := (sSeq (sAsg 4 (mLc (true && (true && true)) [7] (mSeq (mV 1)) (gNm 7) mYes (mMk .lst (mCons (mV 7) mNil))))
  (sSeq (sSet2 4 (mMeth ms_nought 0 mNil) (mV 2) (m2 dAdd (mV 2) (mC (.int 1))))
  (sSeq (sFor (mRng2 (mCons (m2 dAdd (mV 2) (mC (.int 2))) (mCons (mB fLen (mCons (mV 1) mNil)) mNil))) (gNm 5)
  b_crossed_table_0)
  (sSeq (sFor (mRng1 (mCons (mV 2) mNil)) (gNm 6)
  b_crossed_table_1)
  (sRet (mV 4))))))
def F_crossed_table : FM := fM 4 8 sg_crossed_table.ks' m_crossed_table
theorem sc_crossed_table : FnScope N_crossed_table p_crossed_table (defScope s_crossed_table) := ⟨rfl, rfl, rfl, by decide +kernel, rfl, by decide +kernel, by decide +kernel⟩
theorem ok_crossed_table (G : Gs mg) (h_Sums_nought : HasM P w K mg base 0 "nought" 1 p_Sums_nought sg_Sums_nought F_Sums_nought) (h_Sums_plus : HasM P w K mg base 0 "plus" 3 p_Sums_plus sg_Sums_plus F_Sums_plus) (h_Sums_times : HasM P w K mg base 0 "times" 3 p_Sums_times sg_Sums_times F_Sums_times) {fa : Addr} {fd : FuncData} (F : FnP K "crossed_table" s_crossed_table fa fd) (hm : mg "crossed_table" = some (.ref fa)) : Has P w K mg base "crossed_table" 4 p_crossed_table sg_crossed_table F_crossed_table := by
  refine has_mk (k := 3) (n := 8) F hm sc_crossed_table rfl rfl (by decide) rfl (fun _ _ _ _ _ _ us hl => match us, hl with | [_, _, _, _], _ => rfl) fun cdv A outer s H E hr => ?_
  have hu := units_of hr
  exact (jb_cons (js_lc (κ1 := [some 0, some 0, some 0, some 0, none, none, none, none]) (i := 4) (k := 2) (own := [("row", 7)]) rfl sc_crossed_table.nd rfl rfl (sw_true rfl rfl rfl (by decide +kernel)) (ji_seq (j_frz (κ := [some 0, some 0, some 0, some 0, none, none, none, none]) (i := 1) (k := 0) (pv 1) rfl rfl)) (blkOk_by (N := N_crossed_table) (sc := defScope s_crossed_table) (own := [("row", 7)]) (by decide +kernel)) (fun _ _ _ _ _ => (jg_name (i := 7) sc_crossed_table.nd rfl (by trivial) (by trivial))) (fun _ _ _ _ _ => jts_nil) (fun _ _ _ _ _ => (j_mkO (k := .lst) (ja_cons (j_frz (κ := [some 0, some 0, some 0, some 0, none, none, none, some 0]) (i := 7) (k := 0) (pv 7) rfl rfl) ja_nil rfl rfl) fun h => pe_callTy call_list_of (by rfl) G.list (by decide +kernel) h)) (fun _ => rfl) (by decide) rfl rfl rfl rfl rfl rfl)
    (jb_cons (js_set2 (κ1 := [some 0, some 0, some 0, some 0, some 2, none, none, none]) (κ2 := [some 0, some 0, some 0, some 0, some 2, none, none, none]) (κ3 := [some 0, some 0, some 0, some 0, some 2, none, none, none]) (i := 4) (J.less (j := 0) (k := 99) (j_methS0 (c0 := 0) (f0 := F_Sums_nought) (i := 0) (k := 0) (r := 99) (m := "nought") (ks' := [none]) (pv 0) rfl (fun _ _ _ h => fM_len _ _ _ h) rfl (fun he => has_meth0 h_Sums_nought hr (by decide) he (by rfl)) (.inr ⟨rfl, by decide⟩)) (by decide)) (pv 4) (j_var (i := 2) (pv 2) rfl) (J.two_read (rz := .own 99) (j_var (i := 2) (pv 2) rfl) (j_const (d := .int 1) (rz := .own 99) rfl pe_int) rfl (atOp dAdd_a) fun a b => pe_op o_add a b) (fun _ _ => rfl) rfl rfl rfl fun he ho hj => ps_asg he (pg_sub ho hj set_list))
    (jb_cons (js_for (κ1 := [some 0, some 0, some 0, some 0, some 2, none, none, none]) PassesOwn.never rfl (ji_range2 (ja_cons (J.two_read (rz := .own 99) (j_var (i := 2) (pv 2) rfl) (j_const (d := .int 2) (rz := .own 99) rfl pe_int) rfl (atOp dAdd_a) fun a b => pe_op o_add a b) (ja_cons (j_callA (rz := .own 99) (ja_cons (j_var (i := 1) (pv 1) rfl) ja_nil rfl rfl) rfl at_len fun h => pe_callB (CallR.en cr_len) (by rfl) G.len (by decide +kernel) h) ja_nil rfl rfl) rfl rfl) rfl (by rfl) G.range rfl rfl) (jg_name (i := 5) sc_crossed_table.nd rfl (by trivial) (.inl rfl))
    (JB.weak (κ1 := [some 0, some 0, some 0, some 0, some 2, some 0, none, none]) (κn := [some 0, some 0, some 0, some 0, some 2, some 0, none, none]) (jb_cons (js_set2 (κ1 := [some 0, some 0, some 0, some 0, some 2, some 0, none, none]) (κ2 := [some 0, some 0, some 0, some 0, some 2, some 0, none, none]) (κ3 := [some 0, some 0, some 0, some 0, some 2, some 0, none, none]) (i := 4) (jp_frz (κ1 := [some 0, some 0, some 0, some 0, some 2, some 0, none, none]) (i := 1) (n := 2) (k := 0) (jp_ix (κ1 := [some 0, some 0, some 0, some 0, some 2, some 0, none, none]) (κ2 := [some 0, some 0, some 0, some 0, some 2, some 0, none, none]) (i := 1) (n := 1) (k := 0) hu (jp_ix (κ1 := [some 0, some 0, some 0, some 0, some 2, some 0, none, none]) (κ2 := [some 0, some 0, some 0, some 0, some 2, some 0, none, none]) (i := 1) (n := 0) (k := 0) hu (jp_var (i := 1) (k := 0) (pv 1) rfl) (J.two_read (rz := .own 99) (j_var (i := 2) (pv 2) rfl) (j_const (d := .int 1) (rz := .own 99) rfl pe_int) rfl (atOp dAdd_a) fun a b => pe_op o_add a b) (fun _ _ => rfl) rfl) (j_var (i := 5) (pv 5) rfl) (fun _ _ => rfl) rfl) rfl (by decide) rfl) (pv 4) (j_var (i := 2) (pv 2) rfl) (j_var (i := 5) (pv 5) rfl) (fun _ _ => rfl) rfl rfl rfl fun he ho hj => ps_asg he (pg_sub ho hj set_list))
    (jb_one (js_set2 (κ1 := [some 0, some 0, some 0, some 0, some 2, some 0, none, none]) (κ2 := [some 0, some 0, some 0, some 0, some 2, some 0, none, none]) (κ3 := [some 0, some 0, some 0, some 0, some 2, some 0, none, none]) (i := 4) (J.less (j := 0) (k := 99) (j_methS (c0 := 0) (f0 := F_Sums_plus) (i := 0) (k := 0) (n := 2) (r := 99) (m := "plus") (ks' := [none, none, none]) (pv 0) rfl (ja_cons (j_ix hu (j_ix hu (j_var (i := 1) (pv 1) rfl) (j_var (i := 2) (pv 2) rfl) rfl (fun _ _ => rfl)) (j_var (i := 5) (pv 5) rfl) rfl (fun _ _ => rfl)) (ja_cons (j_methS (c0 := 0) (f0 := F_Sums_times) (i := 0) (k := 0) (n := 2) (r := 99) (m := "times") (ks' := [none, none, none]) (pv 0) rfl (ja_cons (j_var (i := 3) (pv 3) rfl) (ja_cons (j_ix hu (j_ix hu (j_var (i := 1) (pv 1) rfl) (J.two_read (rz := .own 99) (j_var (i := 2) (pv 2) rfl) (j_const (d := .int 1) (rz := .own 99) rfl pe_int) rfl (atOp dAdd_a) fun a b => pe_op o_add a b) rfl (fun _ _ => rfl)) (j_var (i := 5) (pv 5) rfl) rfl (fun _ _ => rfl)) ja_nil rfl rfl) rfl rfl) rfl (fun _ _ _ h => fM_len _ _ _ h) rfl (fun he ha => has_meth h_Sums_times hr (by decide) he ha (by rfl) (by rfl) (by rfl)) (.inr ⟨rfl, by decide⟩)) ja_nil rfl rfl) rfl rfl) rfl (fun _ _ _ h => fM_len _ _ _ h) rfl (fun he ha => has_meth h_Sums_plus hr (by decide) he ha (by rfl) (by rfl) (by rfl)) (.inr ⟨rfl, by decide⟩)) (by decide)) (pv 4) (J.two_read (rz := .own 99) (j_var (i := 2) (pv 2) rfl) (j_const (d := .int 1) (rz := .own 99) rfl pe_int) rfl (atOp dAdd_a) fun a b => pe_op o_add a b) (j_var (i := 5) (pv 5) rfl) (fun _ _ => rfl) rfl rfl rfl fun he ho hj => ps_asg he (pg_sub ho hj set_list)))) rfl rfl rfl rfl) rfl (fun _ => rfl))
    (jb_cons (js_for (κ1 := [some 0, some 0, some 0, some 0, some 2, none, none, none]) PassesOwn.never rfl (ji_range1 (ja_cons (j_var (i := 2) (pv 2) rfl) ja_nil rfl rfl) rfl (by rfl) G.range rfl) (jg_name (i := 6) sc_crossed_table.nd rfl (by trivial) (.inl rfl))
    (JB.weak (κ1 := [some 0, some 0, some 0, some 0, some 2, none, some 0, none]) (κn := [some 0, some 0, some 0, some 0, some 2, none, some 0, none]) (jb_cons (js_set2 (κ1 := [some 0, some 0, some 0, some 0, some 2, none, some 0, none]) (κ2 := [some 0, some 0, some 0, some 0, some 2, none, some 0, none]) (κ3 := [some 0, some 0, some 0, some 0, some 2, none, some 0, none]) (i := 4) (jp_frz (κ1 := [some 0, some 0, some 0, some 0, some 2, none, some 0, none]) (i := 1) (n := 2) (k := 0) (jp_ix (κ1 := [some 0, some 0, some 0, some 0, some 2, none, some 0, none]) (κ2 := [some 0, some 0, some 0, some 0, some 2, none, some 0, none]) (i := 1) (n := 1) (k := 0) hu (jp_ix (κ1 := [some 0, some 0, some 0, some 0, some 2, none, some 0, none]) (κ2 := [some 0, some 0, some 0, some 0, some 2, none, some 0, none]) (i := 1) (n := 0) (k := 0) hu (jp_var (i := 1) (k := 0) (pv 1) rfl) (j_var (i := 6) (pv 6) rfl) (fun _ _ => rfl) rfl) (j_var (i := 2) (pv 2) rfl) (fun _ _ => rfl) rfl) rfl (by decide) rfl) (pv 4) (j_var (i := 6) (pv 6) rfl) (J.two_read (rz := .own 99) (j_var (i := 2) (pv 2) rfl) (j_const (d := .int 1) (rz := .own 99) rfl pe_int) rfl (atOp dAdd_a) fun a b => pe_op o_add a b) (fun _ _ => rfl) rfl rfl rfl fun he ho hj => ps_asg he (pg_sub ho hj set_list))
    (jb_one (js_set2 (κ1 := [some 0, some 0, some 0, some 0, some 2, none, some 0, none]) (κ2 := [some 0, some 0, some 0, some 0, some 2, none, some 0, none]) (κ3 := [some 0, some 0, some 0, some 0, some 2, none, some 0, none]) (i := 4) (J.less (j := 0) (k := 99) (j_methS (c0 := 0) (f0 := F_Sums_plus) (i := 0) (k := 0) (n := 2) (r := 99) (m := "plus") (ks' := [none, none, none]) (pv 0) rfl (ja_cons (j_ix hu (j_ix hu (j_var (i := 1) (pv 1) rfl) (j_var (i := 6) (pv 6) rfl) rfl (fun _ _ => rfl)) (J.two_read (rz := .own 99) (j_var (i := 2) (pv 2) rfl) (j_const (d := .int 1) (rz := .own 99) rfl pe_int) rfl (atOp dAdd_a) fun a b => pe_op o_add a b) rfl (fun _ _ => rfl)) (ja_cons (j_methS (c0 := 0) (f0 := F_Sums_times) (i := 0) (k := 0) (n := 2) (r := 99) (m := "times") (ks' := [none, none, none]) (pv 0) rfl (ja_cons (j_ix hu (j_ix hu (j_var (i := 1) (pv 1) rfl) (j_var (i := 6) (pv 6) rfl) rfl (fun _ _ => rfl)) (j_var (i := 2) (pv 2) rfl) rfl (fun _ _ => rfl)) (ja_cons (j_var (i := 3) (pv 3) rfl) ja_nil rfl rfl) rfl rfl) rfl (fun _ _ _ h => fM_len _ _ _ h) rfl (fun he ha => has_meth h_Sums_times hr (by decide) he ha (by rfl) (by rfl) (by rfl)) (.inr ⟨rfl, by decide⟩)) ja_nil rfl rfl) rfl rfl) rfl (fun _ _ _ h => fM_len _ _ _ h) rfl (fun he ha => has_meth h_Sums_plus hr (by decide) he ha (by rfl) (by rfl) (by rfl)) (.inr ⟨rfl, by decide⟩)) (by decide)) (pv 4) (j_var (i := 6) (pv 6) rfl) (j_var (i := 2) (pv 2) rfl) (fun _ _ => rfl) rfl rfl rfl fun he ho hj => ps_asg he (pg_sub ho hj set_list)))) rfl rfl rfl rfl) rfl (fun _ => rfl))
    (jb_one (js_ret (κ1 := [some 0, some 0, some 0, some 0, none, none, none, none]) (j_mov (κ := [some 0, some 0, some 0, some 0, some 2, none, none, none]) (i := 4) (k := 2) (pv 4) rfl) rfl rfl))))))
abbrev N_over_end : List Str := ["ring", "table", "k", "name", "i", "j", "ahead", "beneath"]
abbrev p_over_end : List Str := ["ring", "table", "k", "name", "i", "j"]
abbrev sg_over_end : Sg := ⟨[0, 0, 0, 0, 0, 0], 99, [none, none, none, none, none, none]⟩
def m_over_end : SM := (sSeq (sAsg 6 (mMeth ms_plus 0 (mCons (m2 dIx (m2 dIx (mV 1) (mV 4)) (m2 dAdd (mV 2) (mC (.int 1)))) (mCons (mMeth ms_times 0 (mCons (m2 dIx (m2 dIx (mV 1) (mV 4)) (mV 2)) (mCons (mV 3) mNil))) mNil))))
  (sSeq (sAsg 7 (mMeth ms_plus 0 (mCons (m2 dIx (m2 dIx (mV 1) (mV 2)) (mV 5)) (mCons (mMeth ms_times 0 (mCons (mV 3) (mCons (m2 dIx (m2 dIx (mV 1) (m2 dAdd (mV 2) (mC (.int 1)))) (mV 5)) mNil))) mNil))))
  (sRet (mMeth ms_plus 0 (mCons (m2 dIx (m2 dIx (mV 1) (mV 4)) (mV 5)) (mCons (mMeth ms_times 0 (mCons (mV 6) (mCons (mV 7) mNil))) mNil))))))
def F_over_end : FM := fM 6 8 sg_over_end.ks' m_over_end
theorem sc_over_end : FnScope N_over_end p_over_end (defScope s_over_end) := ⟨rfl, rfl, rfl, by decide +kernel, rfl, by decide +kernel, by decide +kernel⟩
theorem ok_over_end (G : Gs mg) (h_Sums_plus : HasM P w K mg base 0 "plus" 3 p_Sums_plus sg_Sums_plus F_Sums_plus) (h_Sums_times : HasM P w K mg base 0 "times" 3 p_Sums_times sg_Sums_times F_Sums_times) {fa : Addr} {fd : FuncData} (F : FnP K "over_end" s_over_end fa fd) (hm : mg "over_end" = some (.ref fa)) : Has P w K mg base "over_end" 4 p_over_end sg_over_end F_over_end := by
  refine has_mk (k := 3) (n := 8) F hm sc_over_end rfl rfl (by decide) rfl (fun _ _ _ _ _ _ us hl => match us, hl with | [_, _, _, _, _, _], _ => rfl) fun cdv A outer s H E hr => ?_
  have hu := units_of hr
  exact (jb_cons (js_set (κ1 := [some 0, some 0, some 0, some 0, some 0, some 0, none, none]) (i := 6) (k := 99) (j_methS (c0 := 0) (f0 := F_Sums_plus) (i := 0) (k := 0) (n := 2) (r := 99) (m := "plus") (ks' := [none, none, none]) (pv 0) rfl (ja_cons (j_ix hu (j_ix hu (j_var (i := 1) (pv 1) rfl) (j_var (i := 4) (pv 4) rfl) rfl (fun _ _ => rfl)) (J.two_read (rz := .own 99) (j_var (i := 2) (pv 2) rfl) (j_const (d := .int 1) (rz := .own 99) rfl pe_int) rfl (atOp dAdd_a) fun a b => pe_op o_add a b) rfl (fun _ _ => rfl)) (ja_cons (j_methS (c0 := 0) (f0 := F_Sums_times) (i := 0) (k := 0) (n := 2) (r := 99) (m := "times") (ks' := [none, none, none]) (pv 0) rfl (ja_cons (j_ix hu (j_ix hu (j_var (i := 1) (pv 1) rfl) (j_var (i := 4) (pv 4) rfl) rfl (fun _ _ => rfl)) (j_var (i := 2) (pv 2) rfl) rfl (fun _ _ => rfl)) (ja_cons (j_var (i := 3) (pv 3) rfl) ja_nil rfl rfl) rfl rfl) rfl (fun _ _ _ h => fM_len _ _ _ h) rfl (fun he ha => has_meth h_Sums_times hr (by decide) he ha (by rfl) (by rfl) (by rfl)) (.inr ⟨rfl, by decide⟩)) ja_nil rfl rfl) rfl rfl) rfl (fun _ _ _ h => fM_len _ _ _ h) rfl (fun he ha => has_meth h_Sums_plus hr (by decide) he ha (by rfl) (by rfl) (by rfl)) (.inr ⟨rfl, by decide⟩)) sc_over_end.nd rfl (by trivial) rfl (.inl rfl) rfl)
    (jb_cons (js_set (κ1 := [some 0, some 0, some 0, some 0, some 0, some 0, some 99, none]) (i := 7) (k := 99) (j_methS (c0 := 0) (f0 := F_Sums_plus) (i := 0) (k := 0) (n := 2) (r := 99) (m := "plus") (ks' := [none, none, none]) (pv 0) rfl (ja_cons (j_ix hu (j_ix hu (j_var (i := 1) (pv 1) rfl) (j_var (i := 2) (pv 2) rfl) rfl (fun _ _ => rfl)) (j_var (i := 5) (pv 5) rfl) rfl (fun _ _ => rfl)) (ja_cons (j_methS (c0 := 0) (f0 := F_Sums_times) (i := 0) (k := 0) (n := 2) (r := 99) (m := "times") (ks' := [none, none, none]) (pv 0) rfl (ja_cons (j_var (i := 3) (pv 3) rfl) (ja_cons (j_ix hu (j_ix hu (j_var (i := 1) (pv 1) rfl) (J.two_read (rz := .own 99) (j_var (i := 2) (pv 2) rfl) (j_const (d := .int 1) (rz := .own 99) rfl pe_int) rfl (atOp dAdd_a) fun a b => pe_op o_add a b) rfl (fun _ _ => rfl)) (j_var (i := 5) (pv 5) rfl) rfl (fun _ _ => rfl)) ja_nil rfl rfl) rfl rfl) rfl (fun _ _ _ h => fM_len _ _ _ h) rfl (fun he ha => has_meth h_Sums_times hr (by decide) he ha (by rfl) (by rfl) (by rfl)) (.inr ⟨rfl, by decide⟩)) ja_nil rfl rfl) rfl rfl) rfl (fun _ _ _ h => fM_len _ _ _ h) rfl (fun he ha => has_meth h_Sums_plus hr (by decide) he ha (by rfl) (by rfl) (by rfl)) (.inr ⟨rfl, by decide⟩)) sc_over_end.nd rfl (by trivial) rfl (.inl rfl) rfl)
    (jb_one (js_ret (κ1 := [some 0, some 0, some 0, some 0, some 0, some 0, some 99, some 99]) (j_methS (c0 := 0) (f0 := F_Sums_plus) (i := 0) (k := 0) (n := 2) (r := 99) (m := "plus") (ks' := [none, none, none]) (pv 0) rfl (ja_cons (j_ix hu (j_ix hu (j_var (i := 1) (pv 1) rfl) (j_var (i := 4) (pv 4) rfl) rfl (fun _ _ => rfl)) (j_var (i := 5) (pv 5) rfl) rfl (fun _ _ => rfl)) (ja_cons (j_methS (c0 := 0) (f0 := F_Sums_times) (i := 0) (k := 0) (n := 2) (r := 99) (m := "times") (ks' := [none, none, none]) (pv 0) rfl (ja_cons (j_var (i := 6) (pv 6) rfl) (ja_cons (j_var (i := 7) (pv 7) rfl) ja_nil rfl rfl) rfl rfl) rfl (fun _ _ _ h => fM_len _ _ _ h) rfl (fun he ha => has_meth h_Sums_times hr (by decide) he ha (by rfl) (by rfl) (by rfl)) (.inr ⟨rfl, by decide⟩)) ja_nil rfl rfl) rfl rfl) rfl (fun _ _ _ h => fM_len _ _ _ h) rfl (fun he ha => has_meth h_Sums_plus hr (by decide) he ha (by rfl) (by rfl) (by rfl)) (.inr ⟨rfl, by decide⟩)) rfl rfl))))
abbrev N_ended_table : List Str := ["ring", "table", "k", "name", "left", "found", "row", "column", "number", "i", "j"]
abbrev p_ended_table : List Str := ["ring", "table", "k", "name"]
abbrev sg_ended_table : Sg := ⟨[0, 0, 0, 0], 2, [none, none, none, none]⟩
def b_ended_table_0 : SM := (sSet2 5 (mCall F_over_end (mCons (mV 0) (mCons (mV 1) (mCons (mV 2) (mCons (mV 3) (mCons (mV 6) (mCons (m2 dAdd (mV 7) (mC (.int 2))) mNil))))))) (mV 6) (mV 7))
def b_ended_table_1 : SM := (sFor (mRng2 (mCons (mV 2) (mCons (mB fLen (mCons (mV 4) mNil)) mNil))) (gNm 7)
  b_ended_table_0)
def m_ended_table : SM := (sSeq (sAsg 4 (mLc (true && (true && true)) [8] (mRng1 (mCons (mB fLen (mCons (mV 1) mNil)) mNil)) (gNm 8) (m2 dNi (mV 8) (mTup (mCons (mA (mV 2)) (mCons (m2 dAdd (mV 2) (mC (.int 1))) mNil)))) (mA (mV 8))))
  (sSeq (sAsg 5 (mLc (true && (true && true)) [9] (mSeq (mV 4)) (gNm 9) mYes (mLc (true && (true && true)) [10] (mSeq (mV 4)) (gNm 10) mYes (m2 dIxP (m2 dIxP (mV 1) (mV 9)) (mV 10)))))
  (sSeq (sFor (mRng1 (mCons (mV 2) mNil)) (gNm 6)
  b_ended_table_1)
  (sRet (mV 5)))))
def F_ended_table : FM := fM 4 11 sg_ended_table.ks' m_ended_table
theorem sc_ended_table : FnScope N_ended_table p_ended_table (defScope s_ended_table) := ⟨rfl, rfl, rfl, by decide +kernel, rfl, by decide +kernel, by decide +kernel⟩
theorem ok_ended_table (G : Gs mg) (h_over_end : Has P w K mg base "over_end" 4 p_over_end sg_over_end F_over_end) {fa : Addr} {fd : FuncData} (F : FnP K "ended_table" s_ended_table fa fd) (hm : mg "ended_table" = some (.ref fa)) : Has P w K mg base "ended_table" 5 p_ended_table sg_ended_table F_ended_table := by
  refine has_mk (k := 4) (n := 11) F hm sc_ended_table rfl rfl (by decide) rfl (fun _ _ _ _ _ _ us hl => match us, hl with | [_, _, _, _], _ => rfl) fun cdv A outer s H E hr => ?_
  have hu := units_of hr
  exact (jb_cons (js_set (κ1 := [some 0, some 0, some 0, some 0, none, none, none, none, none, none, none]) (i := 4) (k := 99) (j_lc (k := 99) (own := [("number", 8)]) rfl sc_ended_table.nd (ji_range1 (ja_cons (j_callA (rz := .own 99) (ja_cons (j_var (i := 1) (pv 1) rfl) ja_nil rfl rfl) rfl at_len fun h => pe_callB (CallR.en cr_len) (by rfl) G.len (by decide +kernel) h) ja_nil rfl rfl) rfl (by rfl) G.range rfl) (blkOk_by (N := N_ended_table) (sc := defScope s_ended_table) (own := [("number", 8)]) (by decide +kernel)) (fun _ _ _ _ _ => (jg_name (i := 8) sc_ended_table.nd rfl (by trivial) (by trivial))) (fun _ _ _ _ _ => (jts_one (JT.two_read (j_var (i := 8) (pv 8) rfl) (j_tup (k' := 99) (ja_cons (J.asAtom (z' := .own 99) (j_var (i := 2) (pv 2) rfl)) (ja_cons (J.two_read (rz := .own 99) (j_var (i := 2) (pv 2) rfl) (j_const (d := .int 1) (rz := .own 99) rfl pe_int) rfl (atOp dAdd_a) fun a b => pe_op o_add a b) ja_nil rfl rfl) rfl rfl) rfl) rfl (atOp fun _ _ _ => dInG_a _ _ _) fun a b => pt_cmpR (o_ni hu) a b (by with_unfolding_all rfl)))) (fun _ _ _ _ _ => (J.asAtom (z' := .own 99) (j_var (i := 8) (pv 8) rfl))) (fun _ => rfl) (by decide) rfl rfl rfl rfl rfl) sc_ended_table.nd rfl (by trivial) rfl (.inl rfl) rfl)
    (jb_cons (js_lc (κ1 := [some 0, some 0, some 0, some 0, some 0, none, none, none, none, none, none]) (i := 5) (k := 2) (own := [("i", 9)]) rfl sc_ended_table.nd rfl rfl (sw_true rfl rfl rfl (by decide +kernel)) (ji_seq (j_frz (κ := [some 0, some 0, some 0, some 0, some 99, none, none, none, none, none, none]) (i := 4) (k := 99) (pv 4) rfl rfl)) (blkOk_by (N := N_ended_table) (sc := defScope s_ended_table) (own := [("i", 9)]) (by decide +kernel)) (fun _ _ _ _ _ => (jg_name (i := 9) sc_ended_table.nd rfl (by trivial) (by trivial))) (fun _ _ _ _ _ => jts_nil) (fun _ _ _ _ _ => (j_lc (k := 1) (own := [("j", 10)]) rfl sc_ended_table.nd (ji_seq (j_frz (κ := [some 0, some 0, some 0, some 0, some 0, none, none, none, none, some 0, none]) (i := 4) (k := 0) (pv 4) rfl rfl)) (blkOk_by (own := [("j", 10)]) (by rfl)) (fun _ _ _ _ _ => (jg_name (i := 10) sc_ended_table.nd rfl (by trivial) (by trivial))) (fun _ _ _ _ _ => jts_nil) (fun _ _ _ _ _ => (jp_frz (κ1 := [some 0, some 0, some 0, some 0, some 0, none, none, none, none, some 0, some 0]) (i := 1) (n := 2) (k := 0) (jp_ix (κ1 := [some 0, some 0, some 0, some 0, some 0, none, none, none, none, some 0, some 0]) (κ2 := [some 0, some 0, some 0, some 0, some 0, none, none, none, none, some 0, some 0]) (i := 1) (n := 1) (k := 0) hu (jp_ix (κ1 := [some 0, some 0, some 0, some 0, some 0, none, none, none, none, some 0, some 0]) (κ2 := [some 0, some 0, some 0, some 0, some 0, none, none, none, none, some 0, some 0]) (i := 1) (n := 0) (k := 0) hu (jp_var (i := 1) (k := 0) (pv 1) rfl) (j_var (i := 9) (pv 9) rfl) (fun _ _ => rfl) rfl) (j_var (i := 10) (pv 10) rfl) (fun _ _ => rfl) rfl) rfl (by decide) rfl)) (fun _ => rfl) (by decide) rfl rfl rfl rfl rfl)) (fun _ => rfl) (by decide) rfl rfl rfl rfl rfl rfl)
    (jb_cons (js_for (κ1 := [some 0, some 0, some 0, some 0, some 0, some 2, none, none, none, none, none]) PassesOwn.never rfl (ji_range1 (ja_cons (j_var (i := 2) (pv 2) rfl) ja_nil rfl rfl) rfl (by rfl) G.range rfl) (jg_name (i := 6) sc_ended_table.nd rfl (by trivial) (.inl rfl))
    (JB.weak (κ1 := [some 0, some 0, some 0, some 0, some 0, some 2, some 0, none, none, none, none]) (κn := [some 0, some 0, some 0, some 0, some 0, some 2, some 0, none, none, none, none]) (jb_one (js_for (κ1 := [some 0, some 0, some 0, some 0, some 0, some 2, some 0, none, none, none, none]) PassesOwn.never rfl (ji_range2 (ja_cons (j_var (i := 2) (pv 2) rfl) (ja_cons (j_callA (rz := .own 99) (ja_cons (j_var (i := 4) (pv 4) rfl) ja_nil rfl rfl) rfl at_len fun h => pe_callB (CallR.en cr_len) (by rfl) G.len (by decide +kernel) h) ja_nil rfl rfl) rfl rfl) rfl (by rfl) G.range rfl rfl) (jg_name (i := 7) sc_ended_table.nd rfl (by trivial) (.inl rfl))
    (JB.weak (κ1 := [some 0, some 0, some 0, some 0, some 0, some 2, some 0, some 0, none, none, none]) (κn := [some 0, some 0, some 0, some 0, some 0, some 2, some 0, some 0, none, none, none]) (jb_one (js_set2 (κ1 := [some 0, some 0, some 0, some 0, some 0, some 2, some 0, some 0, none, none, none]) (κ2 := [some 0, some 0, some 0, some 0, some 0, some 2, some 0, some 0, none, none, none]) (κ3 := [some 0, some 0, some 0, some 0, some 0, some 2, some 0, some 0, none, none, none]) (i := 5) (J.less (j := 0) (k := 99) (call_pure (n := 6) (r := 99) (rz := .own 99) (ja_cons (j_var (i := 0) (pv 0) rfl) (ja_cons (j_var (i := 1) (pv 1) rfl) (ja_cons (j_var (i := 2) (pv 2) rfl) (ja_cons (j_var (i := 3) (pv 3) rfl) (ja_cons (j_var (i := 6) (pv 6) rfl) (ja_cons (J.two_read (rz := .own 99) (j_var (i := 7) (pv 7) rfl) (j_const (d := .int 2) (rz := .own 99) rfl pe_int) rfl (atOp dAdd_a) fun a b => pe_op o_add a b) ja_nil rfl rfl) rfl rfl) rfl rfl) rfl rfl) rfl rfl) rfl rfl) rfl (fun _ _ _ => fM_len _ _ _) (fun h => has_call h_over_end hr (by decide) (by rfl) h (by rfl) (by rfl) (by rfl)) (.inr ⟨rfl, by decide⟩)) (by decide)) (pv 5) (j_var (i := 6) (pv 6) rfl) (j_var (i := 7) (pv 7) rfl) (fun _ _ => rfl) rfl rfl rfl fun he ho hj => ps_asg he (pg_sub ho hj set_list))) rfl rfl rfl rfl) rfl (fun _ => rfl))) rfl rfl rfl rfl) rfl (fun _ => rfl))
    (jb_one (js_ret (κ1 := [some 0, some 0, some 0, some 0, some 0, none, none, none, none, none, none]) (j_mov (κ := [some 0, some 0, some 0, some 0, some 0, some 2, none, none, none, none, none]) (i := 5) (k := 2) (pv 5) rfl) rfl rfl)))))
abbrev N_table_behind : List Str := ["ring", "letter", "t", "table", "word", "k"]
abbrev p_table_behind : List Str := ["ring", "letter", "t", "table"]
abbrev sg_table_behind : Sg := ⟨[0, 0, 0, 0], 2, [none, none, none, none]⟩
def m_table_behind : SM := (sSeq (sTgt (mV 1) (gTp (gsCons (gNm 4) (gsCons (gNm 5) gsNil))))
  (sSeq (sIf (m2 dEq (mV 4) (mC (.str "born")))
  (sRet (mCallO F_born_table (none) (mCons (mV 0) (mCons (mV 3) (mCons (mV 5) mNil)))))
  sNil)
  (sSeq (sIf (m2 dEq (mV 4) (mC (.str "cross")))
  (sRet (mCallO F_crossed_table (none) (mCons (mV 0) (mCons (mV 3) (mCons (mV 5) (mCons (mMeth ms_of_name 0 (mCons (mV 2) mNil)) mNil))))))
  sNil)
  (sRet (mCallO F_ended_table (none) (mCons (mV 0) (mCons (mV 3) (mCons (mV 5) (mCons (mMeth ms_of_name 0 (mCons (mV 2) mNil)) mNil)))))))))
def F_table_behind : FM := fM 4 6 sg_table_behind.ks' m_table_behind
theorem sc_table_behind : FnScope N_table_behind p_table_behind (defScope s_table_behind) := ⟨rfl, rfl, rfl, by decide +kernel, rfl, by decide +kernel, by decide +kernel⟩
theorem ok_table_behind (G : Gs mg) (h_born_table : Has P w K mg base "born_table" 3 p_born_table sg_born_table F_born_table) (h_Sums_of_name : HasM P w K mg base 0 "of_name" 1 p_Sums_of_name sg_Sums_of_name F_Sums_of_name) (h_crossed_table : Has P w K mg base "crossed_table" 4 p_crossed_table sg_crossed_table F_crossed_table) (h_ended_table : Has P w K mg base "ended_table" 5 p_ended_table sg_ended_table F_ended_table) {fa : Addr} {fd : FuncData} (F : FnP K "table_behind" s_table_behind fa fd) (hm : mg "table_behind" = some (.ref fa)) : Has P w K mg base "table_behind" 6 p_table_behind sg_table_behind F_table_behind := by
  refine has_mk (k := 5) (n := 6) F hm sc_table_behind rfl rfl (by decide) rfl (fun _ _ _ _ _ _ us hl => match us, hl with | [_, _, _, _], _ => rfl) fun cdv A outer s H E hr => ?_
  have hu := units_of hr
  exact (jb_cons (js_tgt (j_frz (κ := [some 0, some 0, some 0, some 0, none, none]) (i := 1) (k := 0) (pv 1) rfl rfl) (jg_tup (n := 2) rfl (jgs_cons (jg_name (i := 4) sc_table_behind.nd rfl (by trivial) (.inl rfl)) (jgs_cons (jg_name (i := 5) sc_table_behind.nd rfl (by trivial) (.inl rfl)) jgs_nil fun a b => pgs_cons a b) fun a b => pgs_cons a b) rfl rfl (gs_lenS (gs_lenS gs_len0))) rfl rfl rfl rfl)
    (jb_cons (js_if (κ1 := [some 0, some 0, some 0, some 0, some 0, some 0]) (κ2 := [some 0, some 0, some 0, some 0, some 0, some 0]) (JT.two_read (j_var (i := 4) (pv 4) rfl) (j_glS (z := "born") (rz := .own 99) (by rfl) G.BORN rfl) rfl (atOp dEq_a) fun a b => pt_cmpR (o_eq hu) a b (nomark _))
    (jb_one (js_ret (κ1 := [some 0, some 0, some 0, some 0, some 0, some 0]) (call_own (sg := sg_born_table) (io := none) (ja_cons (j_frz (κ := [some 0, some 0, some 0, some 0, some 0, some 0]) (i := 0) (k := 0) (pv 0) rfl rfl) (ja_cons (j_frz (κ := [some 0, some 0, some 0, some 0, some 0, some 0]) (i := 3) (k := 0) (pv 3) rfl rfl) (ja_cons (j_frz (κ := [some 0, some 0, some 0, some 0, some 0, some 0]) (i := 5) (k := 0) (pv 5) rfl rfl) ja_nil rfl rfl) rfl rfl) rfl rfl) rfl rfl rfl (fun _ _ _ h => (fM_len _ _ _ h).2.trans (fM_len _ _ _ h).1.symm) (fun h => has_call h_born_table hr (by decide) (by rfl) h (by rfl) (by rfl) (by rfl))) rfl rfl))
    jb_nil)
    (jb_cons (js_if (κ1 := [some 0, some 0, some 0, some 0, some 0, some 0]) (κ2 := [some 0, some 0, some 0, some 0, some 0, some 0]) (JT.two_read (j_var (i := 4) (pv 4) rfl) (j_glS (z := "cross") (rz := .own 99) (by rfl) G.CROSS rfl) rfl (atOp dEq_a) fun a b => pt_cmpR (o_eq hu) a b (nomark _))
    (jb_one (js_ret (κ1 := [some 0, some 0, some 0, some 0, some 0, some 0]) (call_own (sg := sg_crossed_table) (io := none) (ja_cons (j_frz (κ := [some 0, some 0, some 0, some 0, some 0, some 0]) (i := 0) (k := 0) (pv 0) rfl rfl) (ja_cons (j_frz (κ := [some 0, some 0, some 0, some 0, some 0, some 0]) (i := 3) (k := 0) (pv 3) rfl rfl) (ja_cons (j_frz (κ := [some 0, some 0, some 0, some 0, some 0, some 0]) (i := 5) (k := 0) (pv 5) rfl rfl) (ja_cons (J.less (j := 0) (k := 99) (j_methS (c0 := 0) (f0 := F_Sums_of_name) (i := 0) (k := 0) (n := 1) (r := 99) (m := "of_name") (ks' := [none, none]) (pv 0) rfl (ja_cons (j_var (i := 2) (pv 2) rfl) ja_nil rfl rfl) rfl (fun _ _ _ h => fM_len _ _ _ h) rfl (fun he ha => has_meth h_Sums_of_name hr (by decide) he ha (by rfl) (by rfl) (by rfl)) (.inr ⟨rfl, by decide⟩)) (by decide)) ja_nil rfl rfl) rfl rfl) rfl rfl) rfl rfl) rfl rfl rfl (fun _ _ _ h => (fM_len _ _ _ h).2.trans (fM_len _ _ _ h).1.symm) (fun h => has_call h_crossed_table hr (by decide) (by rfl) h (by rfl) (by rfl) (by rfl))) rfl rfl))
    jb_nil)
    (jb_one (js_ret (κ1 := [some 0, some 0, some 0, some 0, some 0, some 0]) (call_own (sg := sg_ended_table) (io := none) (ja_cons (j_frz (κ := [some 0, some 0, some 0, some 0, some 0, some 0]) (i := 0) (k := 0) (pv 0) rfl rfl) (ja_cons (j_frz (κ := [some 0, some 0, some 0, some 0, some 0, some 0]) (i := 3) (k := 0) (pv 3) rfl rfl) (ja_cons (j_frz (κ := [some 0, some 0, some 0, some 0, some 0, some 0]) (i := 5) (k := 0) (pv 5) rfl rfl) (ja_cons (J.less (j := 0) (k := 99) (j_methS (c0 := 0) (f0 := F_Sums_of_name) (i := 0) (k := 0) (n := 1) (r := 99) (m := "of_name") (ks' := [none, none]) (pv 0) rfl (ja_cons (j_var (i := 2) (pv 2) rfl) ja_nil rfl rfl) rfl (fun _ _ _ h => fM_len _ _ _ h) rfl (fun he ha => has_meth h_Sums_of_name hr (by decide) he ha (by rfl) (by rfl) (by rfl)) (.inr ⟨rfl, by decide⟩)) (by decide)) ja_nil rfl rfl) rfl rfl) rfl rfl) rfl rfl) rfl rfl rfl (fun _ _ _ h => (fM_len _ _ _ h).2.trans (fM_len _ _ _ h).1.symm) (fun h => has_call h_ended_table hr (by decide) (by rfl) h (by rfl) (by rfl) (by rfl))) rfl rfl)))))
abbrev N_look_table : List Str := ["table", "row", "one"]
abbrev p_look_table : List Str := ["table"]
abbrev sg_look_table : Sg := ⟨[0], 99, [none]⟩
def b_look_table_0 : SM := (sIf (mTr (mB fAny (mCons (mLc (true && (true && true)) [2] (mSeq (mV 1)) (gNm 2) mYes (m2 dGt (mB fLen (mCons (mV 2) mNil)) (mC (.int 200)))) mNil)))
  sNo
  sNil)
def m_look_table : SM := (sFor (mSeq (mV 0)) (gNm 1)
  b_look_table_0)
def F_look_table : FM := fM 1 3 sg_look_table.ks' m_look_table
theorem sc_look_table : FnScope N_look_table p_look_table (defScope s_look_table) := ⟨rfl, rfl, rfl, by decide +kernel, rfl, by decide +kernel, by decide +kernel⟩
def x_look_table : XM := (xFor (mSeq (mV 0)) (gNm 1) b_look_table_0
  (xIf (mTr (mB fAny (mCons (mLc (true && (true && true)) [2] (mSeq (mV 1)) (gNm 2) mYes (m2 dGt (mB fLen (mCons (mV 2) mNil)) (mC (.int 200)))) mNil)))
  (xRaise 1)
  xNo))
def FX_look_table : FX := fxM 1 3 x_look_table
theorem ok_look_table (G : Gs mg) (EX : ExS K mg exCs exNs) {fa : Addr} {fd : FuncData} (F : FnP K "look_table" s_look_table fa fd) (hm : mg "look_table" = some (.ref fa)) : HasX P w K mg base "look_table" 1 p_look_table sg_look_table F_look_table FX_look_table := by
  refine has_mkX (κx := [none, none, none]) (k := 0) (n := 3) F hm sc_look_table rfl rfl (by decide) rfl (fun _ _ _ _ _ _ us hl => match us, hl with | [_], _ => rfl) fun cdv A outer s H E hr tk po => ?_
  have hu := units_of hr
  exact ⟨(JB.weak (κ1 := [some 0, none, none]) (κn := [some 0, none, none]) (jb_one (js_for (κ1 := [some 0, none, none]) po rfl (ji_seq (j_frz (κ := [some 0, none, none]) (i := 0) (k := 0) (pv 0) rfl rfl)) (jg_name (i := 1) sc_look_table.nd rfl (by trivial) (.inl rfl))
    (JB.weak (κ1 := [some 0, some 0, none]) (κn := [some 0, some 0, none]) (jb_one (js_if (κ1 := [some 0, some 0, none]) (κ2 := [some 0, some 0, none]) (jt_val (j_callA (rz := .own 99) (ja_cons (j_lc (k := 99) (own := [("one", 2)]) rfl sc_look_table.nd (ji_seq (j_frz (κ := [some 0, some 0, none]) (i := 1) (k := 0) (pv 1) rfl rfl)) (blkOk_by (N := N_look_table) (sc := defScope s_look_table) (own := [("one", 2)]) (by decide +kernel)) (fun _ _ _ _ _ => (jg_name (i := 2) sc_look_table.nd rfl (by trivial) (by trivial))) (fun _ _ _ _ _ => jts_nil) (fun _ _ _ _ _ => (J.two_read (rz := .own 99) (j_callA (rz := .own 99) (ja_cons (j_var (i := 2) (pv 2) rfl) ja_nil rfl rfl) rfl at_len fun h => pe_callB (CallR.en cr_len) (by rfl) G.len (by decide +kernel) h) (j_glI (i := 200) (rz := .own 99) (by rfl) G.MOST_WORDS rfl) rfl (atOp (dI_a fun _ _ => rfl)) fun a b => pe_cmpR (o_gt) a b (nomark _))) (fun _ => rfl) (by decide) rfl rfl rfl rfl rfl) ja_nil rfl rfl) rfl at_any fun h => pe_callB (CallR.en (cr_any rfl)) (by rfl) G.any (by decide +kernel) h) (fun _ => rfl))
    (jb_one (js_no (κn := [some 0, some 0, none])))
    jb_nil)) rfl rfl rfl rfl) rfl (fun _ => rfl))) rfl rfl rfl rfl),
   (jbx_one (jsx_for (κ1 := [some 0, none, none]) po rfl (ji_seq (j_frz (κ := [some 0, none, none]) (i := 0) (k := 0) (pv 0) rfl rfl)) (jg_name (i := 1) sc_look_table.nd rfl (by trivial) (.inl rfl))
    (JB.weak (κ1 := [some 0, some 0, none]) (κn := [some 0, some 0, none]) (jb_one (js_if (κ1 := [some 0, some 0, none]) (κ2 := [some 0, some 0, none]) (jt_val (j_callA (rz := .own 99) (ja_cons (j_lc (k := 99) (own := [("one", 2)]) rfl sc_look_table.nd (ji_seq (j_frz (κ := [some 0, some 0, none]) (i := 1) (k := 0) (pv 1) rfl rfl)) (blkOk_by (N := N_look_table) (sc := defScope s_look_table) (own := [("one", 2)]) (by decide +kernel)) (fun _ _ _ _ _ => (jg_name (i := 2) sc_look_table.nd rfl (by trivial) (by trivial))) (fun _ _ _ _ _ => jts_nil) (fun _ _ _ _ _ => (J.two_read (rz := .own 99) (j_callA (rz := .own 99) (ja_cons (j_var (i := 2) (pv 2) rfl) ja_nil rfl rfl) rfl at_len fun h => pe_callB (CallR.en cr_len) (by rfl) G.len (by decide +kernel) h) (j_glI (i := 200) (rz := .own 99) (by rfl) G.MOST_WORDS rfl) rfl (atOp (dI_a fun _ _ => rfl)) fun a b => pe_cmpR (o_gt) a b (nomark _))) (fun _ => rfl) (by decide) rfl rfl rfl rfl rfl) ja_nil rfl rfl) rfl at_any fun h => pe_callB (CallR.en (cr_any rfl)) (by rfl) G.any (by decide +kernel) h) (fun _ => rfl))
    (jb_one (js_no (κn := [some 0, some 0, none])))
    jb_nil)) rfl rfl rfl rfl)
    (jbx_one (jsx_if (κ1 := [some 0, some 0, none]) (jt_val (j_callA (rz := .own 99) (ja_cons (j_lc (k := 99) (own := [("one", 2)]) rfl sc_look_table.nd (ji_seq (j_frz (κ := [some 0, some 0, none]) (i := 1) (k := 0) (pv 1) rfl rfl)) (blkOk_by (N := N_look_table) (sc := defScope s_look_table) (own := [("one", 2)]) (by decide +kernel)) (fun _ _ _ _ _ => (jg_name (i := 2) sc_look_table.nd rfl (by trivial) (by trivial))) (fun _ _ _ _ _ => jts_nil) (fun _ _ _ _ _ => (J.two_read (rz := .own 99) (j_callA (rz := .own 99) (ja_cons (j_var (i := 2) (pv 2) rfl) ja_nil rfl rfl) rfl at_len fun h => pe_callB (CallR.en cr_len) (by rfl) G.len (by decide +kernel) h) (j_glI (i := 200) (rz := .own 99) (by rfl) G.MOST_WORDS rfl) rfl (atOp (dI_a fun _ _ => rfl)) fun a b => pe_cmpR (o_gt) a b (nomark _))) (fun _ => rfl) (by decide) rfl rfl rfl rfl rfl) ja_nil rfl rfl) rfl at_any fun h => pe_callB (CallR.en (cr_any rfl)) (by rfl) G.any (by decide +kernel) h) (fun _ => rfl))
    (jbx_one (jsx_raise (c := 1) EX rfl rfl rfl tk (by rfl) (by rfl) rfl rfl))
    jbx_no)) rfl (fun _ => rfl)))⟩
abbrev N_tables_along : List Str := ["drawing", "ring", "found", "t", "letter"]
abbrev p_tables_along : List Str := ["drawing"]
abbrev sg_tables_along : Sg := ⟨[0], 1, [none]⟩
def b_tables_along_0 : SM := (sSeq (sApp 2 (mCallO F_table_behind (none) (mCons (mV 1) (mCons (mV 4) (mCons (mA (mV 3)) (mCons (m2 dIxP (mV 2) (mNeg (mC (.int 1)))) mNil))))))
  (sExp (mCall F_look_table (mCons (m2 dIx (mV 2) (mNeg (mC (.int 1)))) mNil))))
def m_tables_along : SM := (sSeq (sAsg 1 (mNew 0 mNil))
  (sSeq (sAsg 2 (mLst (mCons (mLst mNil) mNil)))
  (sSeq (sFor (mEnum (mCons (mV 0) mNil)) (gTp (gsCons (gNm 3) (gsCons (gNm 4) gsNil)))
  b_tables_along_0)
  (sRet (mV 2)))))
def F_tables_along : FM := fM 1 5 sg_tables_along.ks' m_tables_along
theorem sc_tables_along : FnScope N_tables_along p_tables_along (defScope s_tables_along) := ⟨rfl, rfl, rfl, by decide +kernel, rfl, by decide +kernel, by decide +kernel⟩
def x_tables_along : XM := (xSeq xNo (sAsg 1 (mNew 0 mNil))
  (xSeq xNo (sAsg 2 (mLst (mCons (mLst mNil) mNil)))
  (xSeq (xFor (mEnum (mCons (mV 0) mNil)) (gTp (gsCons (gNm 3) (gsCons (gNm 4) gsNil))) b_tables_along_0
  (xSeq xNo (sApp 2 (mCallO F_table_behind (none) (mCons (mV 1) (mCons (mV 4) (mCons (mA (mV 3)) (mCons (m2 dIxP (mV 2) (mNeg (mC (.int 1)))) mNil))))))
  (xCall FX_look_table (mCons (m2 dIx (mV 2) (mNeg (mC (.int 1)))) mNil)))) (sFor (mEnum (mCons (mV 0) mNil)) (gTp (gsCons (gNm 3) (gsCons (gNm 4) gsNil)))
  b_tables_along_0)
  xNo)))
def FX_tables_along : FX := fxM 1 5 x_tables_along
theorem ok_tables_along (G : Gs mg) (CL0 : Mk0 K (He.ga K (clsNm 0)) ∧ mg (clsNm 0) = some (.ref (He.ga K (clsNm 0)))) (h_table_behind : Has P w K mg base "table_behind" 6 p_table_behind sg_table_behind F_table_behind) (h_look_table : HasX P w K mg base "look_table" 1 p_look_table sg_look_table F_look_table FX_look_table) {fa : Addr} {fd : FuncData} (F : FnP K "tables_along" s_tables_along fa fd) (hm : mg "tables_along" = some (.ref fa)) : HasX P w K mg base "tables_along" 7 p_tables_along sg_tables_along F_tables_along FX_tables_along := by
  refine has_mkX (κx := [none, none, none, none, none]) (k := 6) (n := 5) F hm sc_tables_along rfl rfl (by decide) rfl (fun _ _ _ _ _ _ us hl => match us, hl with | [_], _ => rfl) fun cdv A outer s H E hr tk po => ?_
  have hu := units_of hr
  exact ⟨(jb_cons (js_set (κ1 := [some 0, none, none, none, none]) (i := 1) (k := 1) (j_new0 (c := 0) rfl (pe_new0 CL0.1 (by rfl) CL0.2 (by decide)) (k := 1) (by decide)) sc_tables_along.nd rfl (by trivial) rfl (.inl rfl) rfl)
    (jb_cons (js_set (κ1 := [some 0, some 1, none, none, none]) (i := 2) (k := 99) (j_lst (k := 0) (k' := 99) (ja_cons (j_lst (k := 0) (k' := 99) ja_nil rfl (by decide)) ja_nil rfl rfl) rfl (by decide)) sc_tables_along.nd rfl (by trivial) rfl (.inl rfl) rfl)
    (jb_cons (JS.weak (κ1 := [some 0, some 0, some 1, none, none]) (κn := [some 0, some 0, some 1, none, none]) (κn' := [some 0, some 0, some 1, none, none]) (js_for (κ1 := [some 0, some 0, some 1, none, none]) po rfl (ji_enum (ja_cons (j_frz (κ := [some 0, some 0, some 1, none, none]) (i := 0) (k := 0) (pv 0) rfl rfl) ja_nil rfl rfl) (by rfl) G.enumerate rfl) (jg_tup (n := 2) rfl (jgs_cons (jg_name (i := 3) sc_tables_along.nd rfl (by trivial) (.inl rfl)) (jgs_cons (jg_name (i := 4) sc_tables_along.nd rfl (by trivial) (.inl rfl)) jgs_nil fun a b => pgs_cons a b) fun a b => pgs_cons a b) rfl rfl (gs_lenS (gs_lenS gs_len0)))
    (JB.weak (κ1 := [some 0, some 0, some 1, some 0, some 0]) (κn := [some 0, some 0, some 1, some 0, some 0]) (jb_cons (js_app (i := 2) (k := 1) (J.less (j := 0) (k := 2) (call_own (sg := sg_table_behind) (io := none) (ja_cons (j_frz (κ := [some 0, some 0, some 1, some 0, some 0]) (i := 1) (k := 0) (pv 1) rfl rfl) (ja_cons (j_frz (κ := [some 0, some 0, some 1, some 0, some 0]) (i := 4) (k := 0) (pv 4) rfl rfl) (ja_cons (J.less (j := 0) (k := 99) (J.asAtom (z' := .own 99) (j_var (i := 3) (pv 3) rfl)) (by decide)) (ja_cons (jp_frz (κ1 := [some 0, some 0, some 1, some 0, some 0]) (i := 2) (n := 1) (k := 1) (jp_ix (κ1 := [some 0, some 0, some 1, some 0, some 0]) (κ2 := [some 0, some 0, some 1, some 0, some 0]) (i := 2) (n := 0) (k := 1) hu (jp_var (i := 2) (k := 1) (pv 2) rfl) (j_neg (rz' := .own 99) (j_const (d := .int 1) (rz := .own 99) rfl pe_int)) (fun _ _ => rfl) rfl) rfl (by decide) rfl) ja_nil rfl rfl) rfl rfl) rfl rfl) rfl rfl) rfl rfl rfl (fun _ _ _ h => (fM_len _ _ _ h).2.trans (fM_len _ _ _ h).1.symm) (fun h => has_call h_table_behind hr (by decide) (by rfl) h (by rfl) (by rfl) (by rfl))) (by decide)) rfl rfl (by decide) (by exact Nat.le_of_ble_eq_true rfl) fun h => ps_expr (pe_bm PySem.F.plainAttrs_list PySem.F.slot_list_append PySem.F.type_list_append mt_append (pv 2) (pa_cons h pa_nil)))
    (jb_one (js_exp (call_pure (n := 1) (r := 99) (rz := .rep) (ja_cons (j_ix hu (j_var (i := 2) (pv 2) rfl) (j_neg (rz' := .own 99) (j_const (d := .int 1) (rz := .own 99) rfl pe_int)) rfl (fun _ _ => rfl)) ja_nil rfl rfl) rfl (fun _ _ _ => fM_len _ _ _) (fun h => has_callN h_look_table hr (by decide) (by rfl) h (by rfl) (by rfl) (by rfl)) (.inl rfl)) rfl))) rfl rfl rfl rfl) rfl (fun _ => rfl)) rfl rfl rfl rfl)
    (jb_one (js_ret (κ1 := [some 0, some 0, none, none, none]) (j_mov (κ := [some 0, some 0, some 1, none, none]) (i := 2) (k := 1) (pv 2) rfl) rfl rfl))))),
   (jbx_cons (κ1 := [some 0, some 1, none, none, none]) jsx_no (js_set (κ1 := [some 0, none, none, none, none]) (i := 1) (k := 1) (j_new0 (c := 0) rfl (pe_new0 CL0.1 (by rfl) CL0.2 (by decide)) (k := 1) (by decide)) sc_tables_along.nd rfl (by trivial) rfl (.inl rfl) rfl)
    (jbx_cons (κ1 := [some 0, some 1, some 99, none, none]) jsx_no (js_set (κ1 := [some 0, some 1, none, none, none]) (i := 2) (k := 99) (j_lst (k := 0) (k' := 99) (ja_cons (j_lst (k := 0) (k' := 99) ja_nil rfl (by decide)) ja_nil rfl rfl) rfl (by decide)) sc_tables_along.nd rfl (by trivial) rfl (.inl rfl) rfl)
    (jbx_cons (κ1 := [some 0, some 0, some 1, none, none]) (JSX.weak (κ1 := [some 0, some 0, some 1, none, none]) (jsx_for (κ1 := [some 0, some 0, some 1, none, none]) po rfl (ji_enum (ja_cons (j_frz (κ := [some 0, some 0, some 1, none, none]) (i := 0) (k := 0) (pv 0) rfl rfl) ja_nil rfl rfl) (by rfl) G.enumerate rfl) (jg_tup (n := 2) rfl (jgs_cons (jg_name (i := 3) sc_tables_along.nd rfl (by trivial) (.inl rfl)) (jgs_cons (jg_name (i := 4) sc_tables_along.nd rfl (by trivial) (.inl rfl)) jgs_nil fun a b => pgs_cons a b) fun a b => pgs_cons a b) rfl rfl (gs_lenS (gs_lenS gs_len0)))
    (JB.weak (κ1 := [some 0, some 0, some 1, some 0, some 0]) (κn := [some 0, some 0, some 1, some 0, some 0]) (jb_cons (js_app (i := 2) (k := 1) (J.less (j := 0) (k := 2) (call_own (sg := sg_table_behind) (io := none) (ja_cons (j_frz (κ := [some 0, some 0, some 1, some 0, some 0]) (i := 1) (k := 0) (pv 1) rfl rfl) (ja_cons (j_frz (κ := [some 0, some 0, some 1, some 0, some 0]) (i := 4) (k := 0) (pv 4) rfl rfl) (ja_cons (J.less (j := 0) (k := 99) (J.asAtom (z' := .own 99) (j_var (i := 3) (pv 3) rfl)) (by decide)) (ja_cons (jp_frz (κ1 := [some 0, some 0, some 1, some 0, some 0]) (i := 2) (n := 1) (k := 1) (jp_ix (κ1 := [some 0, some 0, some 1, some 0, some 0]) (κ2 := [some 0, some 0, some 1, some 0, some 0]) (i := 2) (n := 0) (k := 1) hu (jp_var (i := 2) (k := 1) (pv 2) rfl) (j_neg (rz' := .own 99) (j_const (d := .int 1) (rz := .own 99) rfl pe_int)) (fun _ _ => rfl) rfl) rfl (by decide) rfl) ja_nil rfl rfl) rfl rfl) rfl rfl) rfl rfl) rfl rfl rfl (fun _ _ _ h => (fM_len _ _ _ h).2.trans (fM_len _ _ _ h).1.symm) (fun h => has_call h_table_behind hr (by decide) (by rfl) h (by rfl) (by rfl) (by rfl))) (by decide)) rfl rfl (by decide) (by exact Nat.le_of_ble_eq_true rfl) fun h => ps_expr (pe_bm PySem.F.plainAttrs_list PySem.F.slot_list_append PySem.F.type_list_append mt_append (pv 2) (pa_cons h pa_nil)))
    (jb_one (js_exp (call_pure (n := 1) (r := 99) (rz := .rep) (ja_cons (j_ix hu (j_var (i := 2) (pv 2) rfl) (j_neg (rz' := .own 99) (j_const (d := .int 1) (rz := .own 99) rfl pe_int)) rfl (fun _ _ => rfl)) ja_nil rfl rfl) rfl (fun _ _ _ => fM_len _ _ _) (fun h => has_callN h_look_table hr (by decide) (by rfl) h (by rfl) (by rfl) (by rfl)) (.inl rfl)) rfl))) rfl rfl rfl rfl)
    (jbx_cons (κ1 := [some 0, some 0, some 1, some 0, some 0]) jsx_no (js_app (i := 2) (k := 1) (J.less (j := 0) (k := 2) (call_own (sg := sg_table_behind) (io := none) (ja_cons (j_frz (κ := [some 0, some 0, some 1, some 0, some 0]) (i := 1) (k := 0) (pv 1) rfl rfl) (ja_cons (j_frz (κ := [some 0, some 0, some 1, some 0, some 0]) (i := 4) (k := 0) (pv 4) rfl rfl) (ja_cons (J.less (j := 0) (k := 99) (J.asAtom (z' := .own 99) (j_var (i := 3) (pv 3) rfl)) (by decide)) (ja_cons (jp_frz (κ1 := [some 0, some 0, some 1, some 0, some 0]) (i := 2) (n := 1) (k := 1) (jp_ix (κ1 := [some 0, some 0, some 1, some 0, some 0]) (κ2 := [some 0, some 0, some 1, some 0, some 0]) (i := 2) (n := 0) (k := 1) hu (jp_var (i := 2) (k := 1) (pv 2) rfl) (j_neg (rz' := .own 99) (j_const (d := .int 1) (rz := .own 99) rfl pe_int)) (fun _ _ => rfl) rfl) rfl (by decide) rfl) ja_nil rfl rfl) rfl rfl) rfl rfl) rfl rfl) rfl rfl rfl (fun _ _ _ h => (fM_len _ _ _ h).2.trans (fM_len _ _ _ h).1.symm) (fun h => has_call h_table_behind hr (by decide) (by rfl) h (by rfl) (by rfl) (by rfl))) (by decide)) rfl rfl (by decide) (by exact Nat.le_of_ble_eq_true rfl) fun h => ps_expr (pe_bm PySem.F.plainAttrs_list PySem.F.slot_list_append PySem.F.type_list_append mt_append (pv 2) (pa_cons h pa_nil)))
    (jbx_one (jsx_exp (jx_call (κ1 := [some 0, some 0, some 1, some 0, some 0]) (n := 1) (r := 99) (ja_cons (j_ix hu (j_var (i := 2) (pv 2) rfl) (j_neg (rz' := .own 99) (j_const (d := .int 1) (rz := .own 99) rfl pe_int)) rfl (fun _ _ => rfl)) ja_nil rfl rfl) rfl (fun _ _ => fxM_len _ _) (fun h => has_callX h_look_table hr (by decide) (by rfl) tk h (by rfl) (by rfl) (by rfl)) rfl rfl) rfl))) rfl (fun _ => rfl)) rfl rfl) (JS.weak (κ1 := [some 0, some 0, some 1, none, none]) (κn := [some 0, some 0, some 1, none, none]) (κn' := [some 0, some 0, some 1, none, none]) (js_for (κ1 := [some 0, some 0, some 1, none, none]) po rfl (ji_enum (ja_cons (j_frz (κ := [some 0, some 0, some 1, none, none]) (i := 0) (k := 0) (pv 0) rfl rfl) ja_nil rfl rfl) (by rfl) G.enumerate rfl) (jg_tup (n := 2) rfl (jgs_cons (jg_name (i := 3) sc_tables_along.nd rfl (by trivial) (.inl rfl)) (jgs_cons (jg_name (i := 4) sc_tables_along.nd rfl (by trivial) (.inl rfl)) jgs_nil fun a b => pgs_cons a b) fun a b => pgs_cons a b) rfl rfl (gs_lenS (gs_lenS gs_len0)))
    (JB.weak (κ1 := [some 0, some 0, some 1, some 0, some 0]) (κn := [some 0, some 0, some 1, some 0, some 0]) (jb_cons (js_app (i := 2) (k := 1) (J.less (j := 0) (k := 2) (call_own (sg := sg_table_behind) (io := none) (ja_cons (j_frz (κ := [some 0, some 0, some 1, some 0, some 0]) (i := 1) (k := 0) (pv 1) rfl rfl) (ja_cons (j_frz (κ := [some 0, some 0, some 1, some 0, some 0]) (i := 4) (k := 0) (pv 4) rfl rfl) (ja_cons (J.less (j := 0) (k := 99) (J.asAtom (z' := .own 99) (j_var (i := 3) (pv 3) rfl)) (by decide)) (ja_cons (jp_frz (κ1 := [some 0, some 0, some 1, some 0, some 0]) (i := 2) (n := 1) (k := 1) (jp_ix (κ1 := [some 0, some 0, some 1, some 0, some 0]) (κ2 := [some 0, some 0, some 1, some 0, some 0]) (i := 2) (n := 0) (k := 1) hu (jp_var (i := 2) (k := 1) (pv 2) rfl) (j_neg (rz' := .own 99) (j_const (d := .int 1) (rz := .own 99) rfl pe_int)) (fun _ _ => rfl) rfl) rfl (by decide) rfl) ja_nil rfl rfl) rfl rfl) rfl rfl) rfl rfl) rfl rfl rfl (fun _ _ _ h => (fM_len _ _ _ h).2.trans (fM_len _ _ _ h).1.symm) (fun h => has_call h_table_behind hr (by decide) (by rfl) h (by rfl) (by rfl) (by rfl))) (by decide)) rfl rfl (by decide) (by exact Nat.le_of_ble_eq_true rfl) fun h => ps_expr (pe_bm PySem.F.plainAttrs_list PySem.F.slot_list_append PySem.F.type_list_append mt_append (pv 2) (pa_cons h pa_nil)))
    (jb_one (js_exp (call_pure (n := 1) (r := 99) (rz := .rep) (ja_cons (j_ix hu (j_var (i := 2) (pv 2) rfl) (j_neg (rz' := .own 99) (j_const (d := .int 1) (rz := .own 99) rfl pe_int)) rfl (fun _ _ => rfl)) ja_nil rfl rfl) rfl (fun _ _ _ => fM_len _ _ _) (fun h => has_callN h_look_table hr (by decide) (by rfl) h (by rfl) (by rfl) (by rfl)) (.inl rfl)) rfl))) rfl rfl rfl rfl) rfl (fun _ => rfl)) rfl rfl rfl rfl)
    jbx_no)))⟩
abbrev N_between : List Str := ["drawing", "found", "table", "row", "one"]
abbrev p_between : List Str := ["drawing"]
abbrev sg_between : Sg := ⟨[0], 4, [none]⟩
def b_between_0 : SM := (sApp 1 (mLc (true && (true && true)) [3] (mSeq (mV 2)) (gNm 3) mYes (mLc (true && (true && true)) [4] (mSeq (mV 3)) (gNm 4) mYes (mMk .lst (mCons (mV 4) mNil)))))
def m_between : SM := (sSeq (sAsg 1 (mLst mNil))
  (sSeq (sFor (mSeq (mCallO F_tables_along (none) (mCons (mV 0) mNil))) (gNm 2)
  b_between_0)
  (sRet (mV 1))))
def F_between : FM := fM 1 5 sg_between.ks' m_between
theorem sc_between : FnScope N_between p_between (defScope s_between) := ⟨rfl, rfl, rfl, by decide +kernel, rfl, by decide +kernel, by decide +kernel⟩
def x_between : XM := (xSeq xNo (sAsg 1 (mLst mNil))
  (xSeq (xCall FX_tables_along (mCons (mV 0) mNil)) (sFor (mSeq (mCallO F_tables_along (none) (mCons (mV 0) mNil))) (gNm 2)
  b_between_0)
  xNo))
def FX_between : FX := fxM 1 5 x_between
theorem ok_between (G : Gs mg) (h_tables_along : HasX P w K mg base "tables_along" 7 p_tables_along sg_tables_along F_tables_along FX_tables_along) {fa : Addr} {fd : FuncData} (F : FnP K "between" s_between fa fd) (hm : mg "between" = some (.ref fa)) : HasX P w K mg base "between" 8 p_between sg_between F_between FX_between := by
  refine has_mkX (κx := [none, none, none, none, none]) (k := 7) (n := 5) F hm sc_between rfl rfl (by decide) rfl (fun _ _ _ _ _ _ us hl => match us, hl with | [_], _ => rfl) fun cdv A outer s H E hr tk po => ?_
  have hu := units_of hr
  exact ⟨(jb_cons (js_set (κ1 := [some 0, none, none, none, none]) (i := 1) (k := 99) (j_lst (k := 0) (k' := 99) ja_nil rfl (by decide)) sc_between.nd rfl (by trivial) rfl (.inl rfl) rfl)
    (jb_cons (JS.weak (κ1 := [some 0, some 4, none, none, none]) (κn := [some 0, some 4, none, none, none]) (κn' := [some 0, some 4, none, none, none]) (js_for (κ1 := [some 0, some 4, none, none, none]) po rfl (ji_seq (J.less (j := 0) (k := 1) (call_own (sg := sg_tables_along) (io := none) (ja_cons (j_frz (κ := [some 0, some 4, none, none, none]) (i := 0) (k := 0) (pv 0) rfl rfl) ja_nil rfl rfl) rfl rfl rfl (fun _ _ _ h => (fM_len _ _ _ h).2.trans (fM_len _ _ _ h).1.symm) (fun h => has_callN h_tables_along hr (by decide) (by rfl) h (by rfl) (by rfl) (by rfl))) (by decide))) (jg_name (i := 2) sc_between.nd rfl (by trivial) (.inl rfl))
    (JB.weak (κ1 := [some 0, some 4, some 0, none, none]) (κn := [some 0, some 4, some 0, none, none]) (jb_one (js_app (i := 1) (k := 4) (j_lc (k := 3) (own := [("row", 3)]) rfl sc_between.nd (ji_seq (j_frz (κ := [some 0, some 4, some 0, none, none]) (i := 2) (k := 0) (pv 2) rfl rfl)) (blkOk_by (N := N_between) (sc := defScope s_between) (own := [("row", 3)]) (by decide +kernel)) (fun _ _ _ _ _ => (jg_name (i := 3) sc_between.nd rfl (by trivial) (by trivial))) (fun _ _ _ _ _ => jts_nil) (fun _ _ _ _ _ => (j_lc (k := 2) (own := [("one", 4)]) rfl sc_between.nd (ji_seq (j_frz (κ := [some 0, some 4, some 0, some 0, none]) (i := 3) (k := 0) (pv 3) rfl rfl)) (blkOk_by (own := [("one", 4)]) (by rfl)) (fun _ _ _ _ _ => (jg_name (i := 4) sc_between.nd rfl (by trivial) (by trivial))) (fun _ _ _ _ _ => jts_nil) (fun _ _ _ _ _ => (j_mkO (k := .lst) (ja_cons (j_frz (κ := [some 0, some 4, some 0, some 0, some 0]) (i := 4) (k := 0) (pv 4) rfl rfl) ja_nil rfl rfl) fun h => pe_callTy call_list_of (by rfl) G.list (by decide +kernel) h)) (fun _ => rfl) (by decide) rfl rfl rfl rfl rfl)) (fun _ => rfl) (by decide) rfl rfl rfl rfl rfl) rfl rfl (by decide) (by exact Nat.le_of_ble_eq_true rfl) fun h => ps_expr (pe_bm PySem.F.plainAttrs_list PySem.F.slot_list_append PySem.F.type_list_append mt_append (pv 1) (pa_cons h pa_nil)))) rfl rfl rfl rfl) rfl (fun _ => rfl)) rfl rfl rfl rfl)
    (jb_one (js_ret (κ1 := [some 0, none, none, none, none]) (j_mov (κ := [some 0, some 4, none, none, none]) (i := 1) (k := 4) (pv 1) rfl) rfl rfl)))),
   (jbx_cons (κ1 := [some 0, some 99, none, none, none]) jsx_no (js_set (κ1 := [some 0, none, none, none, none]) (i := 1) (k := 99) (j_lst (k := 0) (k' := 99) ja_nil rfl (by decide)) sc_between.nd rfl (by trivial) rfl (.inl rfl) rfl)
    (jbx_cons (κ1 := [some 0, some 4, none, none, none]) (jsx_inI (jix_in (jx_call (κ1 := [some 0, some 99, none, none, none]) (n := 1) (r := 1) (ja_cons (j_var (i := 0) (pv 0) rfl) ja_nil rfl rfl) rfl (fun _ _ => fxM_len _ _) (fun h => has_callX h_tables_along hr (by decide) (by rfl) tk h (by rfl) (by rfl) (by rfl)) rfl rfl) fun ta h => ⟨_, pi_seq h⟩) fun ta h => ⟨_, ps_for po rfl h pg_no pss_no (fun _ => rfl)⟩) (JS.weak (κ1 := [some 0, some 4, none, none, none]) (κn := [some 0, some 4, none, none, none]) (κn' := [some 0, some 4, none, none, none]) (js_for (κ1 := [some 0, some 4, none, none, none]) po rfl (ji_seq (J.less (j := 0) (k := 1) (call_own (sg := sg_tables_along) (io := none) (ja_cons (j_frz (κ := [some 0, some 4, none, none, none]) (i := 0) (k := 0) (pv 0) rfl rfl) ja_nil rfl rfl) rfl rfl rfl (fun _ _ _ h => (fM_len _ _ _ h).2.trans (fM_len _ _ _ h).1.symm) (fun h => has_callN h_tables_along hr (by decide) (by rfl) h (by rfl) (by rfl) (by rfl))) (by decide))) (jg_name (i := 2) sc_between.nd rfl (by trivial) (.inl rfl))
    (JB.weak (κ1 := [some 0, some 4, some 0, none, none]) (κn := [some 0, some 4, some 0, none, none]) (jb_one (js_app (i := 1) (k := 4) (j_lc (k := 3) (own := [("row", 3)]) rfl sc_between.nd (ji_seq (j_frz (κ := [some 0, some 4, some 0, none, none]) (i := 2) (k := 0) (pv 2) rfl rfl)) (blkOk_by (N := N_between) (sc := defScope s_between) (own := [("row", 3)]) (by decide +kernel)) (fun _ _ _ _ _ => (jg_name (i := 3) sc_between.nd rfl (by trivial) (by trivial))) (fun _ _ _ _ _ => jts_nil) (fun _ _ _ _ _ => (j_lc (k := 2) (own := [("one", 4)]) rfl sc_between.nd (ji_seq (j_frz (κ := [some 0, some 4, some 0, some 0, none]) (i := 3) (k := 0) (pv 3) rfl rfl)) (blkOk_by (own := [("one", 4)]) (by rfl)) (fun _ _ _ _ _ => (jg_name (i := 4) sc_between.nd rfl (by trivial) (by trivial))) (fun _ _ _ _ _ => jts_nil) (fun _ _ _ _ _ => (j_mkO (k := .lst) (ja_cons (j_frz (κ := [some 0, some 4, some 0, some 0, some 0]) (i := 4) (k := 0) (pv 4) rfl rfl) ja_nil rfl rfl) fun h => pe_callTy call_list_of (by rfl) G.list (by decide +kernel) h)) (fun _ => rfl) (by decide) rfl rfl rfl rfl rfl)) (fun _ => rfl) (by decide) rfl rfl rfl rfl rfl) rfl rfl (by decide) (by exact Nat.le_of_ble_eq_true rfl) fun h => ps_expr (pe_bm PySem.F.plainAttrs_list PySem.F.slot_list_append PySem.F.type_list_append mt_append (pv 1) (pa_cons h pa_nil)))) rfl rfl rfl rfl) rfl (fun _ => rfl)) rfl rfl rfl rfl)
    jbx_no))⟩
abbrev N__law_bag : List Str := ["_law_script", "_law_at", "_law_cell", "_law_great", "_law_primes"]
abbrev p__law_bag : List Str := ["_law_script", "_law_at"]
abbrev sg__law_bag : Sg := ⟨[0, 0], 99, [none, none]⟩
def m__law_bag : SM := (sSeq (sAsg 2 (mC (.int 0)))
  (sSeq (sIf (m2 dLt (mV 1) (mB fLen (mCons (mV 0) mNil)))
  (sAsg 2 (mA (m2 dIx (mV 0) (mV 1))))
  sNil)
  (sSeq (sAsg 3 (mC (.int 0)))
  (sSeq (sIf (m2 dGe (mB fAbs (mCons (mV 2) mNil)) (m2 dPow (mC (.int 10)) (mC (.int 18))))
  (sAsg 3 (mB fAbs (mCons (mV 2) mNil)))
  sNil)
  (sSeq (sAsg 4 (mLst (mCons (mC (.int 2147483629)) (mCons (mC (.int 2147483587)) (mCons (mC (.int 2147483579)) (mCons (mC (.int 2147483563)) (mCons (mC (.int 2147483549)) (mCons (mC (.int 2147483543)) (mCons (mC (.int 2147483497)) (mCons (mC (.int 2147483489)) mNil))))))))))
  (sRet (mLst (mCons (mA (mV 3)) (mCons (m2 dMod (m2 dPow (m2 dAdd (m2 dAdd (m2 dMod (mV 2) (mC (.int 2147483647))) (m2 dMul (mC (.int 104729)) (mV 1))) (mC (.int 7))) (mC (.int 5))) (m2 dIx (mV 4) (m2 dMod (mV 1) (mC (.int 8))))) mNil)))))))))
def F__law_bag : FM := fM 2 5 sg__law_bag.ks' m__law_bag
theorem sc__law_bag : FnScope N__law_bag p__law_bag (defScope s__law_bag) := ⟨rfl, rfl, rfl, by decide +kernel, rfl, by decide +kernel, by decide +kernel⟩
theorem ok__law_bag (G : Gs mg) {fa : Addr} {fd : FuncData} (F : FnP K "_law_bag" s__law_bag fa fd) (hm : mg "_law_bag" = some (.ref fa)) : Has P w K mg base "_law_bag" 1 p__law_bag sg__law_bag F__law_bag := by
  refine has_mk (k := 0) (n := 5) F hm sc__law_bag rfl rfl (by decide) rfl (fun _ _ _ _ _ _ us hl => match us, hl with | [_, _], _ => rfl) fun cdv A outer s H E hr => ?_
  have hu := units_of hr
  exact (jb_cons (js_set (κ1 := [some 0, some 0, none, none, none]) (i := 2) (k := 99) (j_const (d := .int 0) (rz := .own 99) rfl pe_int) sc__law_bag.nd rfl (by trivial) rfl (.inl rfl) rfl)
    (jb_cons (js_if (κ1 := [some 0, some 0, some 99, none, none]) (κ2 := [some 0, some 0, some 99, none, none]) (JT.two_read (j_var (i := 1) (pv 1) rfl) (j_callA (rz := .own 99) (ja_cons (j_var (i := 0) (pv 0) rfl) ja_nil rfl rfl) rfl at_len fun h => pe_callB (CallR.en cr_len) (by rfl) G.len (by decide +kernel) h) rfl (atOp (dI_a fun _ _ => rfl)) fun a b => pt_cmpR (o_lt) a b (nomark _))
    (jb_one (js_set (κ1 := [some 0, some 0, some 99, none, none]) (i := 2) (k := 99) (J.asAtom (z' := .own 99) (j_ix hu (j_var (i := 0) (pv 0) rfl) (j_var (i := 1) (pv 1) rfl) rfl (fun _ _ => rfl))) sc__law_bag.nd rfl (by trivial) rfl (.inl rfl) rfl))
    jb_nil)
    (jb_cons (js_set (κ1 := [some 0, some 0, some 99, none, none]) (i := 3) (k := 99) (j_const (d := .int 0) (rz := .own 99) rfl pe_int) sc__law_bag.nd rfl (by trivial) rfl (.inl rfl) rfl)
    (jb_cons (js_if (κ1 := [some 0, some 0, some 99, some 99, none]) (κ2 := [some 0, some 0, some 99, some 99, none]) (JT.two_read (j_callA (rz := .own 99) (ja_cons (j_var (i := 2) (pv 2) rfl) ja_nil rfl rfl) rfl at_abs fun h => pe_callB (CallR.en call_abs) (by rfl) G.abs (by decide +kernel) h) (J.two_read (rz := .own 99) (j_const (d := .int 10) (rz := .own 99) rfl pe_int) (j_const (d := .int 18) (rz := .own 99) rfl pe_int) rfl (atOp (dI_a fun _ _ => rfl)) fun a b => pe_op o_pow a b) rfl (atOp (dI_a fun _ _ => rfl)) fun a b => pt_cmpR (o_ge) a b (nomark _))
    (jb_one (js_set (κ1 := [some 0, some 0, some 99, some 99, none]) (i := 3) (k := 99) (j_callA (rz := .own 99) (ja_cons (j_var (i := 2) (pv 2) rfl) ja_nil rfl rfl) rfl at_abs fun h => pe_callB (CallR.en call_abs) (by rfl) G.abs (by decide +kernel) h) sc__law_bag.nd rfl (by trivial) rfl (.inl rfl) rfl))
    jb_nil)
    (jb_cons (js_set (κ1 := [some 0, some 0, some 99, some 99, none]) (i := 4) (k := 99) (j_lst (k := 0) (k' := 99) (ja_cons (j_const (d := .int 2147483629) (rz := .own 99) rfl pe_int) (ja_cons (j_const (d := .int 2147483587) (rz := .own 99) rfl pe_int) (ja_cons (j_const (d := .int 2147483579) (rz := .own 99) rfl pe_int) (ja_cons (j_const (d := .int 2147483563) (rz := .own 99) rfl pe_int) (ja_cons (j_const (d := .int 2147483549) (rz := .own 99) rfl pe_int) (ja_cons (j_const (d := .int 2147483543) (rz := .own 99) rfl pe_int) (ja_cons (j_const (d := .int 2147483497) (rz := .own 99) rfl pe_int) (ja_cons (j_const (d := .int 2147483489) (rz := .own 99) rfl pe_int) ja_nil rfl rfl) rfl rfl) rfl rfl) rfl rfl) rfl rfl) rfl rfl) rfl rfl) rfl rfl) rfl (by decide)) sc__law_bag.nd rfl (by trivial) rfl (.inl rfl) rfl)
    (jb_one (js_ret (κ1 := [some 0, some 0, some 99, some 99, some 99]) (j_lst (k := 0) (k' := 99) (ja_cons (J.asAtom (z' := .own 99) (j_var (i := 3) (pv 3) rfl)) (ja_cons (J.two_read (rz := .own 99) (J.two_read (rz := .own 99) (J.two_read (rz := .own 99) (J.two_read (rz := .own 99) (J.two_read (rz := .own 99) (j_var (i := 2) (pv 2) rfl) (j_const (d := .int 2147483647) (rz := .own 99) rfl pe_int) rfl (atOp (dI_a fun _ _ => rfl)) fun a b => pe_op o_mod a b) (J.two_read (rz := .own 99) (j_const (d := .int 104729) (rz := .own 99) rfl pe_int) (j_var (i := 1) (pv 1) rfl) rfl (atOp (dI_a fun _ _ => rfl)) fun a b => pe_op o_mul a b) rfl (atOp dAdd_a) fun a b => pe_op o_add a b) (j_const (d := .int 7) (rz := .own 99) rfl pe_int) rfl (atOp dAdd_a) fun a b => pe_op o_add a b) (j_const (d := .int 5) (rz := .own 99) rfl pe_int) rfl (atOp (dI_a fun _ _ => rfl)) fun a b => pe_op o_pow a b) (j_ix hu (j_var (i := 4) (pv 4) rfl) (J.two_read (rz := .own 99) (j_var (i := 1) (pv 1) rfl) (j_const (d := .int 8) (rz := .own 99) rfl pe_int) rfl (atOp (dI_a fun _ _ => rfl)) fun a b => pe_op o_mod a b) rfl (fun _ _ => rfl)) rfl (atOp (dI_a fun _ _ => rfl)) fun a b => pe_op o_mod a b) ja_nil rfl rfl) rfl rfl) rfl (by decide)) rfl rfl)))))))
abbrev N__law_take : List Str := ["_law_bag_here", "_law_many", "_law_digit"]
abbrev p__law_take : List Str := ["_law_bag_here", "_law_many"]
abbrev sg__law_take : Sg := ⟨[1, 0], 99, [some 1, none]⟩
def m__law_take : SM := (sSeq (sIf (m2 dGt (m2 dIx (mV 0) (mC (.int 0))) (mC (.int 0)))
  (sSeq (sAsg 2 (m2 dMod (m2 dIx (mV 0) (mC (.int 0))) (mV 1)))
  (sSeq (sSet 0 (m2 dDiv (m2 dIx (mV 0) (mC (.int 0))) (mV 1)) (mC (.int 0)))
  (sRet (mA (mV 2)))))
  sNil)
  (sSeq (sSet 0 (m2 dMod (m2 dAdd (m2 dMul (m2 dIx (mV 0) (mC (.int 1))) (mC (.int 48271))) (mC (.int 11))) (mC (.int 2147483647))) (mC (.int 1)))
  (sRet (m2 dMod (m2 dMod (m2 dPow (m2 dDiv (m2 dIx (mV 0) (mC (.int 1))) (mC (.int 8))) (mC (.int 3))) (mC (.int 2147483629))) (mV 1)))))
def F__law_take : FM := fM 2 3 sg__law_take.ks' m__law_take
theorem sc__law_take : FnScope N__law_take p__law_take (defScope s__law_take) := ⟨rfl, rfl, rfl, by decide +kernel, rfl, by decide +kernel, by decide +kernel⟩
theorem ok__law_take (G : Gs mg) {fa : Addr} {fd : FuncData} (F : FnP K "_law_take" s__law_take fa fd) (hm : mg "_law_take" = some (.ref fa)) : Has P w K mg base "_law_take" 1 p__law_take sg__law_take F__law_take := by
  refine has_mk (k := 0) (n := 3) F hm sc__law_take rfl rfl (by decide) rfl (fun _ _ _ _ _ _ us hl => match us, hl with | [_, _], _ => rfl) fun cdv A outer s H E hr => ?_
  have hu := units_of hr
  exact (jb_cons (js_if (κ1 := [some 1, some 0, none]) (κ2 := [some 1, some 0, none]) (JT.two_read (j_ix hu (j_var (i := 0) (pv 0) rfl) (j_const (d := .int 0) (rz := .own 99) rfl pe_int) rfl (fun _ _ => rfl)) (j_const (d := .int 0) (rz := .own 99) rfl pe_int) rfl (atOp (dI_a fun _ _ => rfl)) fun a b => pt_cmpR (o_gt) a b (nomark _))
    (jb_cons (js_set (κ1 := [some 1, some 0, none]) (i := 2) (k := 99) (J.two_read (rz := .own 99) (j_ix hu (j_var (i := 0) (pv 0) rfl) (j_const (d := .int 0) (rz := .own 99) rfl pe_int) rfl (fun _ _ => rfl)) (j_var (i := 1) (pv 1) rfl) rfl (atOp (dI_a fun _ _ => rfl)) fun a b => pe_op o_mod a b) sc__law_take.nd rfl (by trivial) rfl (.inl rfl) rfl)
    (jb_cons (js_seti (i := 0) (k := 1) (J.less (j := 0) (k := 99) (J.two_read (rz := .own 99) (j_ix hu (j_var (i := 0) (pv 0) rfl) (j_const (d := .int 0) (rz := .own 99) rfl pe_int) rfl (fun _ _ => rfl)) (j_var (i := 1) (pv 1) rfl) rfl (atOp (dI_a fun _ _ => rfl)) fun a b => pe_op o_div a b) (by decide)) (j_const (d := .int 0) (rz := .own 99) rfl pe_int) rfl rfl (by decide) (fun he hj => ps_asg he (pg_sub (pv 0) hj set_list)))
    (jb_one (js_ret (κ1 := [some 1, some 0, some 99]) (J.asAtom (z' := .own 99) (j_var (i := 2) (pv 2) rfl)) rfl rfl))))
    jb_nil)
    (jb_cons (js_seti (i := 0) (k := 1) (J.less (j := 0) (k := 99) (J.two_read (rz := .own 99) (J.two_read (rz := .own 99) (J.two_read (rz := .own 99) (j_ix hu (j_var (i := 0) (pv 0) rfl) (j_const (d := .int 1) (rz := .own 99) rfl pe_int) rfl (fun _ _ => rfl)) (j_const (d := .int 48271) (rz := .own 99) rfl pe_int) rfl (atOp (dI_a fun _ _ => rfl)) fun a b => pe_op o_mul a b) (j_const (d := .int 11) (rz := .own 99) rfl pe_int) rfl (atOp dAdd_a) fun a b => pe_op o_add a b) (j_const (d := .int 2147483647) (rz := .own 99) rfl pe_int) rfl (atOp (dI_a fun _ _ => rfl)) fun a b => pe_op o_mod a b) (by decide)) (j_const (d := .int 1) (rz := .own 99) rfl pe_int) rfl rfl (by decide) (fun he hj => ps_asg he (pg_sub (pv 0) hj set_list)))
    (jb_one (js_ret (κ1 := [some 1, some 0, none]) (J.two_read (rz := .own 99) (J.two_read (rz := .own 99) (J.two_read (rz := .own 99) (J.two_read (rz := .own 99) (j_ix hu (j_var (i := 0) (pv 0) rfl) (j_const (d := .int 1) (rz := .own 99) rfl pe_int) rfl (fun _ _ => rfl)) (j_const (d := .int 8) (rz := .own 99) rfl pe_int) rfl (atOp (dI_a fun _ _ => rfl)) fun a b => pe_op o_div a b) (j_const (d := .int 3) (rz := .own 99) rfl pe_int) rfl (atOp (dI_a fun _ _ => rfl)) fun a b => pe_op o_pow a b) (j_const (d := .int 2147483629) (rz := .own 99) rfl pe_int) rfl (atOp (dI_a fun _ _ => rfl)) fun a b => pe_op o_mod a b) (j_var (i := 1) (pv 1) rfl) rfl (atOp (dI_a fun _ _ => rfl)) fun a b => pe_op o_mod a b) rfl rfl))))
abbrev N__law_odd : List Str := ["_law_words", "_law_found", "_law_word"]
abbrev p__law_odd : List Str := ["_law_words"]
abbrev sg__law_odd : Sg := ⟨[0], 99, [none]⟩
def b__law_odd_0 : SM := (sIf (mAnd (m2 dNe (mV 1) (mLst mNil)) (m2 dEq (m2 dIx (mV 1) (mNeg (mC (.int 1)))) (mV 2)))
  (sExp (mMut 1 fPop mNil))
  (sApp 1 (mV 2)))
def m__law_odd : SM := (sSeq (sAsg 1 (mLst mNil))
  (sSeq (sFor (mSeq (mMk .srt (mCons (mV 0) mNil))) (gNm 2)
  b__law_odd_0)
  (sRet (mFl (mV 1)))))
def F__law_odd : FM := fM 1 3 sg__law_odd.ks' m__law_odd
theorem sc__law_odd : FnScope N__law_odd p__law_odd (defScope s__law_odd) := ⟨rfl, rfl, rfl, by decide +kernel, rfl, by decide +kernel, by decide +kernel⟩
theorem ok__law_odd (G : Gs mg) {fa : Addr} {fd : FuncData} (F : FnP K "_law_odd" s__law_odd fa fd) (hm : mg "_law_odd" = some (.ref fa)) : Has P w K mg base "_law_odd" 1 p__law_odd sg__law_odd F__law_odd := by
  refine has_mk (k := 0) (n := 3) F hm sc__law_odd rfl rfl (by decide) rfl (fun _ _ _ _ _ _ us hl => match us, hl with | [_], _ => rfl) fun cdv A outer s H E hr => ?_
  have hu := units_of hr
  exact (jb_cons (js_set (κ1 := [some 0, none, none]) (i := 1) (k := 99) (j_lst (k := 0) (k' := 99) ja_nil rfl (by decide)) sc__law_odd.nd rfl (by trivial) rfl (.inl rfl) rfl)
    (jb_cons (JS.weak (κ1 := [some 0, some 1, none]) (κn := [some 0, some 1, none]) (κn' := [some 0, some 1, none]) (js_for (κ1 := [some 0, some 1, none]) PassesOwn.never rfl (ji_seq (J.less (j := 0) (k := 1) (j_mkO (k := .srt) (ja_cons (j_frz (κ := [some 0, some 1, none]) (i := 0) (k := 0) (pv 0) rfl rfl) ja_nil rfl rfl) fun h => pe_callB (cr_srt hu) (by rfl) G.sorted (by decide +kernel) h) (by decide))) (jg_name (i := 2) sc__law_odd.nd rfl (by trivial) (.inl rfl))
    (JB.weak (κ1 := [some 0, some 1, some 0]) (κn := [some 0, some 1, some 0]) (jb_one (js_if (κ1 := [some 0, some 1, some 0]) (κ2 := [some 0, some 1, some 0]) (JW.jt (jw_and (JT.two_read (j_var (i := 1) (pv 1) rfl) (j_lst (k := 0) (k' := 99) ja_nil rfl (by decide)) rfl (atOp dNe_a) fun a b => pt_cmpR (o_ne hu) a b (nomark _)) (jw_and1 (JT.two_read (j_ix hu (j_var (i := 1) (pv 1) rfl) (j_neg (rz' := .own 99) (j_const (d := .int 1) (rz := .own 99) rfl pe_int)) rfl (fun _ _ => rfl)) (j_var (i := 2) (pv 2) rfl) rfl (atOp dEq_a) fun a b => pt_cmpR (o_eq hu) a b (nomark _))) rfl rfl))
    (jb_one (js_exp (j_mut0 (κ := [some 0, some 1, some 0]) (i := 1) rfl u_pop (pe_bm0 PySem.F.plainAttrs_list PySem.F.slot_list_pop PySem.F.type_list_pop mt_pop (pv 1))) rfl))
    (jb_one (js_app (i := 1) (k := 1) (j_frz (κ := [some 0, some 1, some 0]) (i := 2) (k := 0) (pv 2) rfl rfl) rfl rfl (by decide) (by exact Nat.le_of_ble_eq_true rfl) fun h => ps_expr (pe_bm PySem.F.plainAttrs_list PySem.F.slot_list_append PySem.F.type_list_append mt_append (pv 1) (pa_cons h pa_nil)))))) rfl rfl rfl rfl) rfl (fun _ => rfl)) rfl rfl rfl rfl)
    (jb_one (js_ret (κ1 := [some 0, none, none]) (J.flat (k := 99) (j_mov (κ := [some 0, some 1, none]) (i := 1) (k := 1) (pv 1) rfl) (by decide)) rfl rfl))))
abbrev N__law_simple : List Str := ["_law_bag_here", "_law_letters", "_law_many", "_law_turn"]
abbrev p__law_simple : List Str := ["_law_bag_here"]
abbrev sg__law_simple : Sg := ⟨[1], 99, [some 1]⟩
def b__law_simple_0 : SM := (sIf (mAnd (m2 dLt (mV 2) (mC (.int 7))) (m2 dEq (mCallO F__law_take (some (0, 0)) (mCons (mV 0) (mCons (mC (.int 5)) mNil))) (mC (.int 0))))
  (sSeq (sApp 1 (mTup (mCons (mC (.str "born")) (mCons (mCallO F__law_take (some (0, 0)) (mCons (mV 0) (mCons (m2 dAdd (mV 2) (mC (.int 1))) mNil))) mNil))))
  (sAsg 2 (m2 dAdd (mV 2) (mC (.int 2)))))
  (sIf (m2 dLt (mB fLen (mCons (mV 1) mNil)) (mC (.int 11)))
  (sApp 1 (mTup (mCons (mC (.str "cross")) (mCons (mCallO F__law_take (some (0, 0)) (mCons (mV 0) (mCons (m2 dSub (mV 2) (mC (.int 1))) mNil))) mNil))))
  sNil))
def m__law_simple : SM := (sSeq (sAsg 1 (mLst (mCons (mTup (mCons (mC (.str "born")) (mCons (mC (.int 0)) mNil))) mNil)))
  (sSeq (sAsg 2 (mC (.int 2)))
  (sSeq (sFor (mRng1 (mCons (mCallO F__law_take (some (0, 0)) (mCons (mV 0) (mCons (mC (.int 11)) mNil))) mNil)) (gNm 3)
  b__law_simple_0)
  (sRet (mV 1)))))
def F__law_simple : FM := fM 1 4 sg__law_simple.ks' m__law_simple
theorem sc__law_simple : FnScope N__law_simple p__law_simple (defScope s__law_simple) := ⟨rfl, rfl, rfl, by decide +kernel, rfl, by decide +kernel, by decide +kernel⟩
theorem ok__law_simple (G : Gs mg) (h__law_take : Has P w K mg base "_law_take" 1 p__law_take sg__law_take F__law_take) {fa : Addr} {fd : FuncData} (F : FnP K "_law_simple" s__law_simple fa fd) (hm : mg "_law_simple" = some (.ref fa)) : Has P w K mg base "_law_simple" 2 p__law_simple sg__law_simple F__law_simple := by
  refine has_mk (k := 1) (n := 4) F hm sc__law_simple rfl rfl (by decide) rfl (fun _ _ _ _ _ _ us hl => match us, hl with | [_], _ => rfl) fun cdv A outer s H E hr => ?_
  have hu := units_of hr
  exact (jb_cons (js_set (κ1 := [some 1, none, none, none]) (i := 1) (k := 99) (j_lst (k := 0) (k' := 99) (ja_cons (j_tup (k' := 99) (ja_cons (j_const (d := .str "born") (rz := .own 99) rfl pe_str) (ja_cons (j_const (d := .int 0) (rz := .own 99) rfl pe_int) ja_nil rfl rfl) rfl rfl) rfl) ja_nil rfl rfl) rfl (by decide)) sc__law_simple.nd rfl (by trivial) rfl (.inl rfl) rfl)
    (jb_cons (js_set (κ1 := [some 1, some 99, none, none]) (i := 2) (k := 99) (j_const (d := .int 2) (rz := .own 99) rfl pe_int) sc__law_simple.nd rfl (by trivial) rfl (.inl rfl) rfl)
    (jb_cons (js_for (κ1 := [some 1, some 99, some 99, none]) PassesOwn.never rfl (ji_range1 (ja_cons (call_own (sg := sg__law_take) (io := some (0, 0)) (ja_io (i := 0) (pv 0) rfl (ja_cons (J.less (j := 0) (k := 99) (j_const (d := .int 11) (rz := .own 99) rfl pe_int) (by decide)) ja_nil rfl rfl) rfl) rfl rfl rfl (fun _ _ _ h => (fM_len _ _ _ h).2.trans (fM_len _ _ _ h).1.symm) (fun h => has_call h__law_take hr (by decide) (by rfl) h (by rfl) (by rfl) (by rfl))) ja_nil rfl rfl) rfl (by rfl) G.range rfl) (jg_name (i := 3) sc__law_simple.nd rfl (by trivial) (.inl rfl))
    (JB.weak (κ1 := [some 1, some 99, some 99, some 0]) (κn := [some 1, some 99, some 99, some 0]) (jb_one (js_if (κ1 := [some 1, some 99, some 99, some 0]) (κ2 := [some 1, some 99, some 99, some 0]) (JW.jt (jw_and (JT.two_read (j_var (i := 2) (pv 2) rfl) (j_const (d := .int 7) (rz := .own 99) rfl pe_int) rfl (atOp (dI_a fun _ _ => rfl)) fun a b => pt_cmpR (o_lt) a b (nomark _)) (jw_and1 (JT.two_read (call_own (sg := sg__law_take) (io := some (0, 0)) (ja_io (i := 0) (pv 0) rfl (ja_cons (J.less (j := 0) (k := 99) (j_const (d := .int 5) (rz := .own 99) rfl pe_int) (by decide)) ja_nil rfl rfl) rfl) rfl rfl rfl (fun _ _ _ h => (fM_len _ _ _ h).2.trans (fM_len _ _ _ h).1.symm) (fun h => has_call h__law_take hr (by decide) (by rfl) h (by rfl) (by rfl) (by rfl))) (j_const (d := .int 0) (rz := .own 99) rfl pe_int) rfl (atOp dEq_a) fun a b => pt_cmpR (o_eq hu) a b (nomark _))) rfl rfl))
    (jb_cons (js_app (i := 1) (k := 99) (j_tup (k' := 99) (ja_cons (j_const (d := .str "born") (rz := .own 99) rfl pe_str) (ja_cons (call_own (sg := sg__law_take) (io := some (0, 0)) (ja_io (i := 0) (pv 0) rfl (ja_cons (J.less (j := 0) (k := 99) (J.two_read (rz := .own 99) (j_var (i := 2) (pv 2) rfl) (j_const (d := .int 1) (rz := .own 99) rfl pe_int) rfl (atOp dAdd_a) fun a b => pe_op o_add a b) (by decide)) ja_nil rfl rfl) rfl) rfl rfl rfl (fun _ _ _ h => (fM_len _ _ _ h).2.trans (fM_len _ _ _ h).1.symm) (fun h => has_call h__law_take hr (by decide) (by rfl) h (by rfl) (by rfl) (by rfl))) ja_nil rfl rfl) rfl rfl) rfl) rfl rfl (by decide) (by exact Nat.le_of_ble_eq_true rfl) fun h => ps_expr (pe_bm PySem.F.plainAttrs_list PySem.F.slot_list_append PySem.F.type_list_append mt_append (pv 1) (pa_cons h pa_nil)))
    (jb_one (js_set (κ1 := [some 1, some 99, some 99, some 0]) (i := 2) (k := 99) (J.two_read (rz := .own 99) (j_var (i := 2) (pv 2) rfl) (j_const (d := .int 2) (rz := .own 99) rfl pe_int) rfl (atOp dAdd_a) fun a b => pe_op o_add a b) sc__law_simple.nd rfl (by trivial) rfl (.inl rfl) rfl)))
    (jb_one (js_if (κ1 := [some 1, some 99, some 99, some 0]) (κ2 := [some 1, some 99, some 99, some 0]) (JT.two_read (j_callA (rz := .own 99) (ja_cons (j_var (i := 1) (pv 1) rfl) ja_nil rfl rfl) rfl at_len fun h => pe_callB (CallR.en cr_len) (by rfl) G.len (by decide +kernel) h) (j_const (d := .int 11) (rz := .own 99) rfl pe_int) rfl (atOp (dI_a fun _ _ => rfl)) fun a b => pt_cmpR (o_lt) a b (nomark _))
    (jb_one (js_app (i := 1) (k := 99) (j_tup (k' := 99) (ja_cons (j_const (d := .str "cross") (rz := .own 99) rfl pe_str) (ja_cons (call_own (sg := sg__law_take) (io := some (0, 0)) (ja_io (i := 0) (pv 0) rfl (ja_cons (J.less (j := 0) (k := 99) (J.two_read (rz := .own 99) (j_var (i := 2) (pv 2) rfl) (j_const (d := .int 1) (rz := .own 99) rfl pe_int) rfl (atOp (dI_a fun _ _ => rfl)) fun a b => pe_op o_sub a b) (by decide)) ja_nil rfl rfl) rfl) rfl rfl rfl (fun _ _ _ h => (fM_len _ _ _ h).2.trans (fM_len _ _ _ h).1.symm) (fun h => has_call h__law_take hr (by decide) (by rfl) h (by rfl) (by rfl) (by rfl))) ja_nil rfl rfl) rfl rfl) rfl) rfl rfl (by decide) (by exact Nat.le_of_ble_eq_true rfl) fun h => ps_expr (pe_bm PySem.F.plainAttrs_list PySem.F.slot_list_append PySem.F.type_list_append mt_append (pv 1) (pa_cons h pa_nil))))
    jb_nil)))) rfl rfl rfl rfl) rfl (fun _ => rfl))
    (jb_one (js_ret (κ1 := [some 1, none, some 99, none]) (j_mov (κ := [some 1, some 99, some 99, none]) (i := 1) (k := 99) (pv 1) rfl) rfl rfl)))))
abbrev N__law_steps : List Str := ["_law_k", "_law_name", "_law_i", "_law_j", "_law_found", "_law_ups", "_law_downs", "_law_upper", "_law_ahead", "_law_lower", "_law_behind"]
abbrev p__law_steps : List Str := ["_law_k", "_law_name", "_law_i", "_law_j"]
abbrev sg__law_steps : Sg := ⟨[0, 0, 0, 0], 2, [none, none, none, none]⟩
def b__law_steps_0 : SM := (sIf (m2 dLt (mV 7) (mV 9))
  (sApp 4 (mTup (mCons (mA (mV 7)) (mCons (mA (mV 9)) (mCons (mV 8) (mCons (mV 10) mNil))))))
  sNil)
def b__law_steps_1 : SM := (sFor (mSeq (mV 6)) (gTp (gsCons (gNm 9) (gsCons (gNm 10) gsNil)))
  b__law_steps_0)
def m__law_steps : SM := (sSeq (sAsg 4 (mLst mNil))
  (sSeq (sAsg 5 (mLst (mCons (mTup (mCons (mV 2) (mCons (mTup mNil) mNil))) mNil)))
  (sSeq (sIf (m2 dEq (mV 2) (mV 0))
  (sAsg 5 (mLst (mCons (mTup (mCons (m2 dAdd (mV 0) (mC (.int 1))) (mCons (mTup mNil) mNil))) mNil)))
  (sIf (m2 dEq (mV 2) (m2 dAdd (mV 0) (mC (.int 1))))
  (sAsg 5 (mLst (mCons (mTup (mCons (mA (mV 0)) (mCons (mTup mNil) mNil))) (mCons (mTup (mCons (m2 dAdd (mV 0) (mC (.int 1))) (mCons (mTup (mCons (mV 1) mNil)) mNil))) mNil))))
  sNil))
  (sSeq (sAsg 6 (mLst (mCons (mTup (mCons (mV 3) (mCons (mTup mNil) mNil))) mNil)))
  (sSeq (sIf (m2 dEq (mV 3) (m2 dAdd (mV 0) (mC (.int 1))))
  (sAsg 6 (mLst (mCons (mTup (mCons (mA (mV 0)) (mCons (mTup mNil) mNil))) mNil)))
  (sIf (m2 dEq (mV 3) (mV 0))
  (sAsg 6 (mLst (mCons (mTup (mCons (m2 dAdd (mV 0) (mC (.int 1))) (mCons (mTup mNil) mNil))) (mCons (mTup (mCons (mA (mV 0)) (mCons (mTup (mCons (mV 1) mNil)) mNil))) mNil))))
  sNil))
  (sSeq (sFor (mSeq (mV 5)) (gTp (gsCons (gNm 7) (gsCons (gNm 8) gsNil)))
  b__law_steps_1)
  (sRet (mV 4))))))))
def F__law_steps : FM := fM 4 11 sg__law_steps.ks' m__law_steps
theorem sc__law_steps : FnScope N__law_steps p__law_steps (defScope s__law_steps) := ⟨rfl, rfl, rfl, by decide +kernel, rfl, by decide +kernel, by decide +kernel⟩
theorem ok__law_steps (G : Gs mg) {fa : Addr} {fd : FuncData} (F : FnP K "_law_steps" s__law_steps fa fd) (hm : mg "_law_steps" = some (.ref fa)) : Has P w K mg base "_law_steps" 1 p__law_steps sg__law_steps F__law_steps := by
  refine has_mk (k := 0) (n := 11) F hm sc__law_steps rfl rfl (by decide) rfl (fun _ _ _ _ _ _ us hl => match us, hl with | [_, _, _, _], _ => rfl) fun cdv A outer s H E hr => ?_
  have hu := units_of hr
  exact (jb_cons (js_set (κ1 := [some 0, some 0, some 0, some 0, none, none, none, none, none, none, none]) (i := 4) (k := 99) (j_lst (k := 0) (k' := 99) ja_nil rfl (by decide)) sc__law_steps.nd rfl (by trivial) rfl (.inl rfl) rfl)
    (jb_cons (js_set (κ1 := [some 0, some 0, some 0, some 0, some 99, none, none, none, none, none, none]) (i := 5) (k := 2) (j_lst (k := 0) (k' := 2) (ja_cons (j_tup (k' := 1) (ja_cons (j_frz (κ := [some 0, some 0, some 0, some 0, some 99, none, none, none, none, none, none]) (i := 2) (k := 0) (pv 2) rfl rfl) (ja_cons (J.less (j := 0) (k := 99) (j_tup (k' := 99) ja_nil rfl) (by decide)) ja_nil rfl rfl) rfl rfl) rfl) ja_nil rfl rfl) rfl (by decide)) sc__law_steps.nd rfl (by trivial) rfl (.inl rfl) rfl)
    (jb_cons (js_if (κ1 := [some 0, some 0, some 0, some 0, some 99, some 2, none, none, none, none, none]) (κ2 := [some 0, some 0, some 0, some 0, some 99, some 2, none, none, none, none, none]) (JT.two_read (j_var (i := 2) (pv 2) rfl) (j_var (i := 0) (pv 0) rfl) rfl (atOp dEq_a) fun a b => pt_cmpR (o_eq hu) a b (nomark _))
    (JB.weak (κ1 := [some 0, some 0, some 0, some 0, some 99, some 2, none, none, none, none, none]) (κn := [some 0, some 0, some 0, some 0, some 99, some 99, none, none, none, none, none]) (jb_one (js_set (κ1 := [some 0, some 0, some 0, some 0, some 99, some 2, none, none, none, none, none]) (i := 5) (k := 99) (j_lst (k := 0) (k' := 99) (ja_cons (j_tup (k' := 99) (ja_cons (J.two_read (rz := .own 99) (j_var (i := 0) (pv 0) rfl) (j_const (d := .int 1) (rz := .own 99) rfl pe_int) rfl (atOp dAdd_a) fun a b => pe_op o_add a b) (ja_cons (j_tup (k' := 99) ja_nil rfl) ja_nil rfl rfl) rfl rfl) rfl) ja_nil rfl rfl) rfl (by decide)) sc__law_steps.nd rfl (by trivial) rfl (.inl rfl) rfl)) rfl rfl rfl rfl)
    (jb_one (js_if (κ1 := [some 0, some 0, some 0, some 0, some 99, some 2, none, none, none, none, none]) (κ2 := [some 0, some 0, some 0, some 0, some 99, some 2, none, none, none, none, none]) (JT.two_read (j_var (i := 2) (pv 2) rfl) (J.two_read (rz := .own 99) (j_var (i := 0) (pv 0) rfl) (j_const (d := .int 1) (rz := .own 99) rfl pe_int) rfl (atOp dAdd_a) fun a b => pe_op o_add a b) rfl (atOp dEq_a) fun a b => pt_cmpR (o_eq hu) a b (nomark _))
    (JB.weak (κ1 := [some 0, some 0, some 0, some 0, some 99, some 2, none, none, none, none, none]) (κn := [some 0, some 0, some 0, some 0, some 99, some 3, none, none, none, none, none]) (jb_one (js_set (κ1 := [some 0, some 0, some 0, some 0, some 99, some 2, none, none, none, none, none]) (i := 5) (k := 3) (j_lst (k := 0) (k' := 3) (ja_cons (J.less (j := 2) (k := 99) (j_tup (k' := 99) (ja_cons (J.asAtom (z' := .own 99) (j_var (i := 0) (pv 0) rfl)) (ja_cons (j_tup (k' := 99) ja_nil rfl) ja_nil rfl rfl) rfl rfl) rfl) (by decide)) (ja_cons (j_tup (k' := 2) (ja_cons (J.less (j := 1) (k := 99) (J.two_read (rz := .own 99) (j_var (i := 0) (pv 0) rfl) (j_const (d := .int 1) (rz := .own 99) rfl pe_int) rfl (atOp dAdd_a) fun a b => pe_op o_add a b) (by decide)) (ja_cons (j_tup (k' := 1) (ja_cons (j_frz (κ := [some 0, some 0, some 0, some 0, some 99, some 2, none, none, none, none, none]) (i := 1) (k := 0) (pv 1) rfl rfl) ja_nil rfl rfl) rfl) ja_nil rfl rfl) rfl rfl) rfl) ja_nil rfl rfl) rfl rfl) rfl (by decide)) sc__law_steps.nd rfl (by trivial) rfl (.inl rfl) rfl)) rfl rfl rfl rfl)
    jb_nil)))
    (jb_cons (js_set (κ1 := [some 0, some 0, some 0, some 0, some 99, some 2, none, none, none, none, none]) (i := 6) (k := 2) (j_lst (k := 0) (k' := 2) (ja_cons (j_tup (k' := 1) (ja_cons (j_frz (κ := [some 0, some 0, some 0, some 0, some 99, some 2, none, none, none, none, none]) (i := 3) (k := 0) (pv 3) rfl rfl) (ja_cons (J.less (j := 0) (k := 99) (j_tup (k' := 99) ja_nil rfl) (by decide)) ja_nil rfl rfl) rfl rfl) rfl) ja_nil rfl rfl) rfl (by decide)) sc__law_steps.nd rfl (by trivial) rfl (.inl rfl) rfl)
    (jb_cons (js_if (κ1 := [some 0, some 0, some 0, some 0, some 99, some 2, some 2, none, none, none, none]) (κ2 := [some 0, some 0, some 0, some 0, some 99, some 2, some 2, none, none, none, none]) (JT.two_read (j_var (i := 3) (pv 3) rfl) (J.two_read (rz := .own 99) (j_var (i := 0) (pv 0) rfl) (j_const (d := .int 1) (rz := .own 99) rfl pe_int) rfl (atOp dAdd_a) fun a b => pe_op o_add a b) rfl (atOp dEq_a) fun a b => pt_cmpR (o_eq hu) a b (nomark _))
    (JB.weak (κ1 := [some 0, some 0, some 0, some 0, some 99, some 2, some 2, none, none, none, none]) (κn := [some 0, some 0, some 0, some 0, some 99, some 2, some 99, none, none, none, none]) (jb_one (js_set (κ1 := [some 0, some 0, some 0, some 0, some 99, some 2, some 2, none, none, none, none]) (i := 6) (k := 99) (j_lst (k := 0) (k' := 99) (ja_cons (j_tup (k' := 99) (ja_cons (J.asAtom (z' := .own 99) (j_var (i := 0) (pv 0) rfl)) (ja_cons (j_tup (k' := 99) ja_nil rfl) ja_nil rfl rfl) rfl rfl) rfl) ja_nil rfl rfl) rfl (by decide)) sc__law_steps.nd rfl (by trivial) rfl (.inl rfl) rfl)) rfl rfl rfl rfl)
    (jb_one (js_if (κ1 := [some 0, some 0, some 0, some 0, some 99, some 2, some 2, none, none, none, none]) (κ2 := [some 0, some 0, some 0, some 0, some 99, some 2, some 2, none, none, none, none]) (JT.two_read (j_var (i := 3) (pv 3) rfl) (j_var (i := 0) (pv 0) rfl) rfl (atOp dEq_a) fun a b => pt_cmpR (o_eq hu) a b (nomark _))
    (JB.weak (κ1 := [some 0, some 0, some 0, some 0, some 99, some 2, some 2, none, none, none, none]) (κn := [some 0, some 0, some 0, some 0, some 99, some 2, some 3, none, none, none, none]) (jb_one (js_set (κ1 := [some 0, some 0, some 0, some 0, some 99, some 2, some 2, none, none, none, none]) (i := 6) (k := 3) (j_lst (k := 0) (k' := 3) (ja_cons (J.less (j := 2) (k := 99) (j_tup (k' := 99) (ja_cons (J.two_read (rz := .own 99) (j_var (i := 0) (pv 0) rfl) (j_const (d := .int 1) (rz := .own 99) rfl pe_int) rfl (atOp dAdd_a) fun a b => pe_op o_add a b) (ja_cons (j_tup (k' := 99) ja_nil rfl) ja_nil rfl rfl) rfl rfl) rfl) (by decide)) (ja_cons (j_tup (k' := 2) (ja_cons (J.less (j := 1) (k := 99) (J.asAtom (z' := .own 99) (j_var (i := 0) (pv 0) rfl)) (by decide)) (ja_cons (j_tup (k' := 1) (ja_cons (j_frz (κ := [some 0, some 0, some 0, some 0, some 99, some 2, some 2, none, none, none, none]) (i := 1) (k := 0) (pv 1) rfl rfl) ja_nil rfl rfl) rfl) ja_nil rfl rfl) rfl rfl) rfl) ja_nil rfl rfl) rfl rfl) rfl (by decide)) sc__law_steps.nd rfl (by trivial) rfl (.inl rfl) rfl)) rfl rfl rfl rfl)
    jb_nil)))
    (jb_cons (JS.weak (κ1 := [some 0, some 0, some 0, some 0, some 2, some 2, some 0, none, none, none, none]) (κn := [some 0, some 0, some 0, some 0, some 2, some 0, some 0, none, none, none, none]) (κn' := [some 0, some 0, some 0, some 0, some 2, some 0, some 0, none, none, none, none]) (js_for (κ1 := [some 0, some 0, some 0, some 0, some 2, some 0, some 0, none, none, none, none]) PassesOwn.never rfl (ji_seq (j_frz (κ := [some 0, some 0, some 0, some 0, some 2, some 2, some 0, none, none, none, none]) (i := 5) (k := 2) (pv 5) rfl rfl)) (jg_tup (n := 2) rfl (jgs_cons (jg_name (i := 7) sc__law_steps.nd rfl (by trivial) (.inl rfl)) (jgs_cons (jg_name (i := 8) sc__law_steps.nd rfl (by trivial) (.inl rfl)) jgs_nil fun a b => pgs_cons a b) fun a b => pgs_cons a b) rfl rfl (gs_lenS (gs_lenS gs_len0)))
    (JB.weak (κ1 := [some 0, some 0, some 0, some 0, some 2, some 0, some 0, some 0, some 0, none, none]) (κn := [some 0, some 0, some 0, some 0, some 2, some 0, some 0, some 0, some 0, none, none]) (jb_one (js_for (κ1 := [some 0, some 0, some 0, some 0, some 2, some 0, some 0, some 0, some 0, none, none]) PassesOwn.never rfl (ji_seq (j_frz (κ := [some 0, some 0, some 0, some 0, some 2, some 0, some 0, some 0, some 0, none, none]) (i := 6) (k := 0) (pv 6) rfl rfl)) (jg_tup (n := 2) rfl (jgs_cons (jg_name (i := 9) sc__law_steps.nd rfl (by trivial) (.inl rfl)) (jgs_cons (jg_name (i := 10) sc__law_steps.nd rfl (by trivial) (.inl rfl)) jgs_nil fun a b => pgs_cons a b) fun a b => pgs_cons a b) rfl rfl (gs_lenS (gs_lenS gs_len0)))
    (JB.weak (κ1 := [some 0, some 0, some 0, some 0, some 2, some 0, some 0, some 0, some 0, some 0, some 0]) (κn := [some 0, some 0, some 0, some 0, some 2, some 0, some 0, some 0, some 0, some 0, some 0]) (jb_one (js_if (κ1 := [some 0, some 0, some 0, some 0, some 2, some 0, some 0, some 0, some 0, some 0, some 0]) (κ2 := [some 0, some 0, some 0, some 0, some 2, some 0, some 0, some 0, some 0, some 0, some 0]) (JT.two_read (j_var (i := 7) (pv 7) rfl) (j_var (i := 9) (pv 9) rfl) rfl (atOp (dI_a fun _ _ => rfl)) fun a b => pt_cmpR (o_lt) a b (nomark _))
    (jb_one (js_app (i := 4) (k := 2) (j_tup (k' := 1) (ja_cons (J.less (j := 0) (k := 99) (J.asAtom (z' := .own 99) (j_var (i := 7) (pv 7) rfl)) (by decide)) (ja_cons (J.less (j := 0) (k := 99) (J.asAtom (z' := .own 99) (j_var (i := 9) (pv 9) rfl)) (by decide)) (ja_cons (j_frz (κ := [some 0, some 0, some 0, some 0, some 2, some 0, some 0, some 0, some 0, some 0, some 0]) (i := 8) (k := 0) (pv 8) rfl rfl) (ja_cons (j_frz (κ := [some 0, some 0, some 0, some 0, some 2, some 0, some 0, some 0, some 0, some 0, some 0]) (i := 10) (k := 0) (pv 10) rfl rfl) ja_nil rfl rfl) rfl rfl) rfl rfl) rfl rfl) rfl) rfl rfl (by decide) (by exact Nat.le_of_ble_eq_true rfl) fun h => ps_expr (pe_bm PySem.F.plainAttrs_list PySem.F.slot_list_append PySem.F.type_list_append mt_append (pv 4) (pa_cons h pa_nil))))
    jb_nil)) rfl rfl rfl rfl) rfl (fun _ => rfl))) rfl rfl rfl rfl) rfl (fun _ => rfl)) rfl rfl rfl rfl)
    (jb_one (js_ret (κ1 := [some 0, some 0, some 0, some 0, none, some 0, some 0, none, none, none, none]) (j_mov (κ := [some 0, some 0, some 0, some 0, some 2, some 0, some 0, none, none, none, none]) (i := 4) (k := 2) (pv 4) rfl) rfl rfl))))))))
abbrev N__law_walked : List Str := ["_law_letters", "_law_i", "_law_j", "_law_pairs", "_law_words", "_law_t", "_law_ahead", "_law_word", "_law_k", "_law_upper", "_law_lower", "_law_first", "_law_last", "_law_one", "_law_other", "_law_before", "_law_after"]
abbrev p__law_walked : List Str := ["_law_letters", "_law_i", "_law_j"]
abbrev sg__law_walked : Sg := ⟨[0, 0, 0], 99, [none, none, none]⟩
def b__law_walked_0 : SM := (sApp 6 (mTup (mCons (mV 13) (mCons (mV 14) (mCons (m2 dCat (mV 11) (mV 15)) (mCons (m2 dCat (mV 16) (mV 12)) mNil))))))
def b__law_walked_1 : SM := (sIf (mAnd (m2 dEq (mV 7) (mC (.str "cross"))) (m2 dNe (mTup (mCons (mA (mV 9)) (mCons (mA (mV 10)) mNil))) (mTup (mCons (mA (mV 8)) (mCons (m2 dAdd (mV 8) (mC (.int 1))) mNil)))))
  (sFor (mSeq (mCallO F__law_steps (none) (mCons (mA (mV 8)) (mCons (mA (mV 5)) (mCons (mA (mV 9)) (mCons (mA (mV 10)) mNil)))))) (gTp (gsCons (gNm 13) (gsCons (gNm 14) (gsCons (gNm 15) (gsCons (gNm 16) gsNil)))))
  b__law_walked_0)
  (sIf (mAnd (m2 dEq (mV 7) (mC (.str "born"))) (m2 dEq (mTup (mCons (mA (mV 9)) (mCons (mA (mV 10)) mNil))) (mTup (mCons (mA (mV 8)) (mCons (m2 dAdd (mV 8) (mC (.int 1))) mNil)))))
  (sApp 4 (m2 dCat (mV 11) (mV 12)))
  (sIf (mAnd (m2 dEq (mV 7) (mC (.str "born"))) (mAnd (m2 dNi (mV 9) (mTup (mCons (mA (mV 8)) (mCons (m2 dAdd (mV 8) (mC (.int 1))) mNil)))) (m2 dNi (mV 10) (mTup (mCons (mA (mV 8)) (mCons (m2 dAdd (mV 8) (mC (.int 1))) mNil))))))
  (sApp 6 (mTup (mCons (m2 dSub (mV 9) (m2 dMul (mC (.int 2)) (mB fInt (mCons (m2 dGt (mV 9) (mV 8)) mNil)))) (mCons (m2 dSub (mV 10) (m2 dMul (mC (.int 2)) (mB fInt (mCons (m2 dGt (mV 10) (mV 8)) mNil)))) (mCons (mV 11) (mCons (mV 12) mNil))))))
  sNil)))
def b__law_walked_2 : SM := (sSeq (sTgt (m2 dIxP (mV 0) (mV 5)) (gTp (gsCons (gNm 7) (gsCons (gNm 8) gsNil))))
  (sSeq (sAsg 6 (mLst mNil))
  (sSeq (sFor (mSeq (mV 3)) (gTp (gsCons (gNm 9) (gsCons (gNm 10) (gsCons (gNm 11) (gsCons (gNm 12) gsNil)))))
  b__law_walked_1)
  (sAsg 3 (mV 6)))))
def m__law_walked : SM := (sSeq (sAsg 3 (mLst (mCons (mTup (mCons (mV 1) (mCons (mV 2) (mCons (mTup mNil) (mCons (mTup mNil) mNil))))) mNil)))
  (sSeq (sAsg 4 (mLst mNil))
  (sSeq (sFor (mRng3 (mCons (m2 dSub (mB fLen (mCons (mV 0) mNil)) (mC (.int 1))) (mCons (mNeg (mC (.int 1))) (mCons (mNeg (mC (.int 1))) mNil)))) (gNm 5)
  b__law_walked_2)
  (sRet (mCall F__law_odd (mCons (mV 4) mNil))))))
def F__law_walked : FM := fM 3 17 sg__law_walked.ks' m__law_walked
theorem sc__law_walked : FnScope N__law_walked p__law_walked (defScope s__law_walked) := ⟨rfl, rfl, rfl, by decide +kernel, rfl, by decide +kernel, by decide +kernel⟩
theorem ok__law_walked (G : Gs mg) (h__law_steps : Has P w K mg base "_law_steps" 1 p__law_steps sg__law_steps F__law_steps) (h__law_odd : Has P w K mg base "_law_odd" 1 p__law_odd sg__law_odd F__law_odd) {fa : Addr} {fd : FuncData} (F : FnP K "_law_walked" s__law_walked fa fd) (hm : mg "_law_walked" = some (.ref fa)) : Has P w K mg base "_law_walked" 2 p__law_walked sg__law_walked F__law_walked := by
  refine has_mk (k := 1) (n := 17) F hm sc__law_walked rfl rfl (by decide) rfl (fun _ _ _ _ _ _ us hl => match us, hl with | [_, _, _], _ => rfl) fun cdv A outer s H E hr => ?_
  have hu := units_of hr
  exact (jb_cons (js_set (κ1 := [some 0, some 0, some 0, none, none, none, none, none, none, none, none, none, none, none, none, none, none]) (i := 3) (k := 2) (j_lst (k := 0) (k' := 2) (ja_cons (j_tup (k' := 1) (ja_cons (j_frz (κ := [some 0, some 0, some 0, none, none, none, none, none, none, none, none, none, none, none, none, none, none]) (i := 1) (k := 0) (pv 1) rfl rfl) (ja_cons (j_frz (κ := [some 0, some 0, some 0, none, none, none, none, none, none, none, none, none, none, none, none, none, none]) (i := 2) (k := 0) (pv 2) rfl rfl) (ja_cons (J.less (j := 0) (k := 99) (j_tup (k' := 99) ja_nil rfl) (by decide)) (ja_cons (J.less (j := 0) (k := 99) (j_tup (k' := 99) ja_nil rfl) (by decide)) ja_nil rfl rfl) rfl rfl) rfl rfl) rfl rfl) rfl) ja_nil rfl rfl) rfl (by decide)) sc__law_walked.nd rfl (by trivial) rfl (.inl rfl) rfl)
    (jb_cons (js_set (κ1 := [some 0, some 0, some 0, some 2, none, none, none, none, none, none, none, none, none, none, none, none, none]) (i := 4) (k := 99) (j_lst (k := 0) (k' := 99) ja_nil rfl (by decide)) sc__law_walked.nd rfl (by trivial) rfl (.inl rfl) rfl)
    (jb_cons (JS.weak (κ1 := [some 0, some 0, some 0, some 0, some 2, none, none, none, none, none, none, none, none, none, none, none, none]) (κn := [some 0, some 0, some 0, some 0, some 2, none, none, none, none, none, none, none, none, none, none, none, none]) (κn' := [some 0, some 0, some 0, some 0, some 2, none, none, none, none, none, none, none, none, none, none, none, none]) (js_for (κ1 := [some 0, some 0, some 0, some 0, some 2, none, none, none, none, none, none, none, none, none, none, none, none]) PassesOwn.never rfl (ji_range3 (ja_cons (J.two_read (rz := .own 99) (j_callA (rz := .own 99) (ja_cons (j_var (i := 0) (pv 0) rfl) ja_nil rfl rfl) rfl at_len fun h => pe_callB (CallR.en cr_len) (by rfl) G.len (by decide +kernel) h) (j_const (d := .int 1) (rz := .own 99) rfl pe_int) rfl (atOp (dI_a fun _ _ => rfl)) fun a b => pe_op o_sub a b) (ja_cons (j_neg (rz' := .own 99) (j_const (d := .int 1) (rz := .own 99) rfl pe_int)) (ja_cons (j_neg (rz' := .own 99) (j_const (d := .int 1) (rz := .own 99) rfl pe_int)) ja_nil rfl rfl) rfl rfl) rfl rfl) rfl (by rfl) G.range rfl rfl) (jg_name (i := 5) sc__law_walked.nd rfl (by trivial) (.inl rfl))
    (JB.weak (κ1 := [some 0, some 0, some 0, some 0, some 2, some 0, none, none, none, none, none, none, none, none, none, none, none]) (κn := [some 0, some 0, some 0, some 0, some 2, some 0, some 0, some 0, some 0, none, none, none, none, none, none, none, none]) (jb_cons (js_tgt (jp_frz (κ1 := [some 0, some 0, some 0, some 0, some 2, some 0, none, none, none, none, none, none, none, none, none, none, none]) (i := 0) (n := 1) (k := 0) (jp_ix (κ1 := [some 0, some 0, some 0, some 0, some 2, some 0, none, none, none, none, none, none, none, none, none, none, none]) (κ2 := [some 0, some 0, some 0, some 0, some 2, some 0, none, none, none, none, none, none, none, none, none, none, none]) (i := 0) (n := 0) (k := 0) hu (jp_var (i := 0) (k := 0) (pv 0) rfl) (j_var (i := 5) (pv 5) rfl) (fun _ _ => rfl) rfl) rfl (by decide) rfl) (jg_tup (n := 2) rfl (jgs_cons (jg_name (i := 7) sc__law_walked.nd rfl (by trivial) (.inl rfl)) (jgs_cons (jg_name (i := 8) sc__law_walked.nd rfl (by trivial) (.inl rfl)) jgs_nil fun a b => pgs_cons a b) fun a b => pgs_cons a b) rfl rfl (gs_lenS (gs_lenS gs_len0))) rfl rfl rfl rfl)
    (jb_cons (js_set (κ1 := [some 0, some 0, some 0, some 0, some 2, some 0, none, some 0, some 0, none, none, none, none, none, none, none, none]) (i := 6) (k := 99) (j_lst (k := 0) (k' := 99) ja_nil rfl (by decide)) sc__law_walked.nd rfl (by trivial) rfl (.inl rfl) rfl)
    (jb_cons (JS.weak (κ1 := [some 0, some 0, some 0, some 0, some 2, some 0, some 2, some 0, some 0, none, none, none, none, none, none, none, none]) (κn := [some 0, some 0, some 0, some 0, some 2, some 0, some 2, some 0, some 0, none, none, none, none, none, none, none, none]) (κn' := [some 0, some 0, some 0, some 0, some 2, some 0, some 2, some 0, some 0, none, none, none, none, none, none, none, none]) (js_for (κ1 := [some 0, some 0, some 0, some 0, some 2, some 0, some 2, some 0, some 0, none, none, none, none, none, none, none, none]) PassesOwn.never rfl (ji_seq (j_frz (κ := [some 0, some 0, some 0, some 0, some 2, some 0, some 2, some 0, some 0, none, none, none, none, none, none, none, none]) (i := 3) (k := 0) (pv 3) rfl rfl)) (jg_tup (n := 4) rfl (jgs_cons (jg_name (i := 9) sc__law_walked.nd rfl (by trivial) (.inl rfl)) (jgs_cons (jg_name (i := 10) sc__law_walked.nd rfl (by trivial) (.inl rfl)) (jgs_cons (jg_name (i := 11) sc__law_walked.nd rfl (by trivial) (.inl rfl)) (jgs_cons (jg_name (i := 12) sc__law_walked.nd rfl (by trivial) (.inl rfl)) jgs_nil fun a b => pgs_cons a b) fun a b => pgs_cons a b) fun a b => pgs_cons a b) fun a b => pgs_cons a b) rfl rfl (gs_lenS (gs_lenS (gs_lenS (gs_lenS gs_len0)))))
    (JB.weak (κ1 := [some 0, some 0, some 0, some 0, some 2, some 0, some 2, some 0, some 0, some 0, some 0, some 0, some 0, none, none, none, none]) (κn := [some 0, some 0, some 0, some 0, some 2, some 0, some 2, some 0, some 0, some 0, some 0, some 0, some 0, none, none, none, none]) (jb_one (js_if (κ1 := [some 0, some 0, some 0, some 0, some 2, some 0, some 2, some 0, some 0, some 0, some 0, some 0, some 0, none, none, none, none]) (κ2 := [some 0, some 0, some 0, some 0, some 2, some 0, some 2, some 0, some 0, some 0, some 0, some 0, some 0, none, none, none, none]) (JW.jt (jw_and (JT.two_read (j_var (i := 7) (pv 7) rfl) (j_const (d := .str "cross") (rz := .own 99) rfl pe_str) rfl (atOp dEq_a) fun a b => pt_cmpR (o_eq hu) a b (nomark _)) (jw_and1 (JT.two_read (j_tup (k' := 99) (ja_cons (J.asAtom (z' := .own 99) (j_var (i := 9) (pv 9) rfl)) (ja_cons (J.asAtom (z' := .own 99) (j_var (i := 10) (pv 10) rfl)) ja_nil rfl rfl) rfl rfl) rfl) (j_tup (k' := 99) (ja_cons (J.asAtom (z' := .own 99) (j_var (i := 8) (pv 8) rfl)) (ja_cons (J.two_read (rz := .own 99) (j_var (i := 8) (pv 8) rfl) (j_const (d := .int 1) (rz := .own 99) rfl pe_int) rfl (atOp dAdd_a) fun a b => pe_op o_add a b) ja_nil rfl rfl) rfl rfl) rfl) rfl (atOp dNe_a) fun a b => pt_cmpR (o_ne hu) a b (nomark _))) rfl rfl))
    (jb_one (js_for (κ1 := [some 0, some 0, some 0, some 0, some 2, some 0, some 2, some 0, some 0, some 0, some 0, some 0, some 0, none, none, none, none]) PassesOwn.never rfl (ji_seq (J.less (j := 0) (k := 2) (call_own (sg := sg__law_steps) (io := none) (ja_cons (J.less (j := 0) (k := 99) (J.asAtom (z' := .own 99) (j_var (i := 8) (pv 8) rfl)) (by decide)) (ja_cons (J.less (j := 0) (k := 99) (J.asAtom (z' := .own 99) (j_var (i := 5) (pv 5) rfl)) (by decide)) (ja_cons (J.less (j := 0) (k := 99) (J.asAtom (z' := .own 99) (j_var (i := 9) (pv 9) rfl)) (by decide)) (ja_cons (J.less (j := 0) (k := 99) (J.asAtom (z' := .own 99) (j_var (i := 10) (pv 10) rfl)) (by decide)) ja_nil rfl rfl) rfl rfl) rfl rfl) rfl rfl) rfl rfl rfl (fun _ _ _ h => (fM_len _ _ _ h).2.trans (fM_len _ _ _ h).1.symm) (fun h => has_call h__law_steps hr (by decide) (by rfl) h (by rfl) (by rfl) (by rfl))) (by decide))) (jg_tup (n := 4) rfl (jgs_cons (jg_name (i := 13) sc__law_walked.nd rfl (by trivial) (.inl rfl)) (jgs_cons (jg_name (i := 14) sc__law_walked.nd rfl (by trivial) (.inl rfl)) (jgs_cons (jg_name (i := 15) sc__law_walked.nd rfl (by trivial) (.inl rfl)) (jgs_cons (jg_name (i := 16) sc__law_walked.nd rfl (by trivial) (.inl rfl)) jgs_nil fun a b => pgs_cons a b) fun a b => pgs_cons a b) fun a b => pgs_cons a b) fun a b => pgs_cons a b) rfl rfl (gs_lenS (gs_lenS (gs_lenS (gs_lenS gs_len0)))))
    (JB.weak (κ1 := [some 0, some 0, some 0, some 0, some 2, some 0, some 2, some 0, some 0, some 0, some 0, some 0, some 0, some 0, some 0, some 0, some 0]) (κn := [some 0, some 0, some 0, some 0, some 2, some 0, some 2, some 0, some 0, some 0, some 0, some 0, some 0, some 0, some 0, some 0, some 0]) (jb_one (js_app (i := 6) (k := 2) (j_tup (k' := 1) (ja_cons (j_frz (κ := [some 0, some 0, some 0, some 0, some 2, some 0, some 2, some 0, some 0, some 0, some 0, some 0, some 0, some 0, some 0, some 0, some 0]) (i := 13) (k := 0) (pv 13) rfl rfl) (ja_cons (j_frz (κ := [some 0, some 0, some 0, some 0, some 2, some 0, some 2, some 0, some 0, some 0, some 0, some 0, some 0, some 0, some 0, some 0, some 0]) (i := 14) (k := 0) (pv 14) rfl rfl) (ja_cons (J.less (j := 0) (k := 1) (j_catO (j_frz (κ := [some 0, some 0, some 0, some 0, some 2, some 0, some 2, some 0, some 0, some 0, some 0, some 0, some 0, some 0, some 0, some 0, some 0]) (i := 11) (k := 0) (pv 11) rfl rfl) (j_frz (κ := [some 0, some 0, some 0, some 0, some 2, some 0, some 2, some 0, some 0, some 0, some 0, some 0, some 0, some 0, some 0, some 0, some 0]) (i := 15) (k := 0) (pv 15) rfl rfl) fun a b => pe_op o_cat a b) (by decide)) (ja_cons (J.less (j := 0) (k := 1) (j_catO (j_frz (κ := [some 0, some 0, some 0, some 0, some 2, some 0, some 2, some 0, some 0, some 0, some 0, some 0, some 0, some 0, some 0, some 0, some 0]) (i := 16) (k := 0) (pv 16) rfl rfl) (j_frz (κ := [some 0, some 0, some 0, some 0, some 2, some 0, some 2, some 0, some 0, some 0, some 0, some 0, some 0, some 0, some 0, some 0, some 0]) (i := 12) (k := 0) (pv 12) rfl rfl) fun a b => pe_op o_cat a b) (by decide)) ja_nil rfl rfl) rfl rfl) rfl rfl) rfl rfl) rfl) rfl rfl (by decide) (by exact Nat.le_of_ble_eq_true rfl) fun h => ps_expr (pe_bm PySem.F.plainAttrs_list PySem.F.slot_list_append PySem.F.type_list_append mt_append (pv 6) (pa_cons h pa_nil)))) rfl rfl rfl rfl) rfl (fun _ => rfl)))
    (jb_one (js_if (κ1 := [some 0, some 0, some 0, some 0, some 2, some 0, some 2, some 0, some 0, some 0, some 0, some 0, some 0, none, none, none, none]) (κ2 := [some 0, some 0, some 0, some 0, some 2, some 0, some 2, some 0, some 0, some 0, some 0, some 0, some 0, none, none, none, none]) (JW.jt (jw_and (JT.two_read (j_var (i := 7) (pv 7) rfl) (j_const (d := .str "born") (rz := .own 99) rfl pe_str) rfl (atOp dEq_a) fun a b => pt_cmpR (o_eq hu) a b (nomark _)) (jw_and1 (JT.two_read (j_tup (k' := 99) (ja_cons (J.asAtom (z' := .own 99) (j_var (i := 9) (pv 9) rfl)) (ja_cons (J.asAtom (z' := .own 99) (j_var (i := 10) (pv 10) rfl)) ja_nil rfl rfl) rfl rfl) rfl) (j_tup (k' := 99) (ja_cons (J.asAtom (z' := .own 99) (j_var (i := 8) (pv 8) rfl)) (ja_cons (J.two_read (rz := .own 99) (j_var (i := 8) (pv 8) rfl) (j_const (d := .int 1) (rz := .own 99) rfl pe_int) rfl (atOp dAdd_a) fun a b => pe_op o_add a b) ja_nil rfl rfl) rfl rfl) rfl) rfl (atOp dEq_a) fun a b => pt_cmpR (o_eq hu) a b (nomark _))) rfl rfl))
    (jb_one (js_app (i := 4) (k := 2) (j_catO (j_frz (κ := [some 0, some 0, some 0, some 0, some 2, some 0, some 2, some 0, some 0, some 0, some 0, some 0, some 0, none, none, none, none]) (i := 11) (k := 0) (pv 11) rfl rfl) (j_frz (κ := [some 0, some 0, some 0, some 0, some 2, some 0, some 2, some 0, some 0, some 0, some 0, some 0, some 0, none, none, none, none]) (i := 12) (k := 0) (pv 12) rfl rfl) fun a b => pe_op o_cat a b) rfl rfl (by decide) (by exact Nat.le_of_ble_eq_true rfl) fun h => ps_expr (pe_bm PySem.F.plainAttrs_list PySem.F.slot_list_append PySem.F.type_list_append mt_append (pv 4) (pa_cons h pa_nil))))
    (jb_one (js_if (κ1 := [some 0, some 0, some 0, some 0, some 2, some 0, some 2, some 0, some 0, some 0, some 0, some 0, some 0, none, none, none, none]) (κ2 := [some 0, some 0, some 0, some 0, some 2, some 0, some 2, some 0, some 0, some 0, some 0, some 0, some 0, none, none, none, none]) (JW.jt (jw_and (JT.two_read (j_var (i := 7) (pv 7) rfl) (j_const (d := .str "born") (rz := .own 99) rfl pe_str) rfl (atOp dEq_a) fun a b => pt_cmpR (o_eq hu) a b (nomark _)) (jw_and (JT.two_read (j_var (i := 9) (pv 9) rfl) (j_tup (k' := 99) (ja_cons (J.asAtom (z' := .own 99) (j_var (i := 8) (pv 8) rfl)) (ja_cons (J.two_read (rz := .own 99) (j_var (i := 8) (pv 8) rfl) (j_const (d := .int 1) (rz := .own 99) rfl pe_int) rfl (atOp dAdd_a) fun a b => pe_op o_add a b) ja_nil rfl rfl) rfl rfl) rfl) rfl (atOp fun _ _ _ => dInG_a _ _ _) fun a b => pt_cmpR (o_ni hu) a b (by with_unfolding_all rfl)) (jw_and1 (JT.two_read (j_var (i := 10) (pv 10) rfl) (j_tup (k' := 99) (ja_cons (J.asAtom (z' := .own 99) (j_var (i := 8) (pv 8) rfl)) (ja_cons (J.two_read (rz := .own 99) (j_var (i := 8) (pv 8) rfl) (j_const (d := .int 1) (rz := .own 99) rfl pe_int) rfl (atOp dAdd_a) fun a b => pe_op o_add a b) ja_nil rfl rfl) rfl rfl) rfl) rfl (atOp fun _ _ _ => dInG_a _ _ _) fun a b => pt_cmpR (o_ni hu) a b (by with_unfolding_all rfl))) rfl rfl) rfl rfl))
    (jb_one (js_app (i := 6) (k := 2) (j_tup (k' := 1) (ja_cons (J.less (j := 0) (k := 99) (J.two_read (rz := .own 99) (j_var (i := 9) (pv 9) rfl) (J.two_read (rz := .own 99) (j_const (d := .int 2) (rz := .own 99) rfl pe_int) (j_callA (rz := .own 99) (ja_cons (J.two_read (rz := .own 99) (j_var (i := 9) (pv 9) rfl) (j_var (i := 8) (pv 8) rfl) rfl (atOp (dI_a fun _ _ => rfl)) fun a b => pe_cmpR (o_gt) a b (nomark _)) ja_nil rfl rfl) rfl at_int fun h => pe_callTy (CallR.en call_int1) (by rfl) G.int (by decide +kernel) h) rfl (atOp (dI_a fun _ _ => rfl)) fun a b => pe_op o_mul a b) rfl (atOp (dI_a fun _ _ => rfl)) fun a b => pe_op o_sub a b) (by decide)) (ja_cons (J.less (j := 0) (k := 99) (J.two_read (rz := .own 99) (j_var (i := 10) (pv 10) rfl) (J.two_read (rz := .own 99) (j_const (d := .int 2) (rz := .own 99) rfl pe_int) (j_callA (rz := .own 99) (ja_cons (J.two_read (rz := .own 99) (j_var (i := 10) (pv 10) rfl) (j_var (i := 8) (pv 8) rfl) rfl (atOp (dI_a fun _ _ => rfl)) fun a b => pe_cmpR (o_gt) a b (nomark _)) ja_nil rfl rfl) rfl at_int fun h => pe_callTy (CallR.en call_int1) (by rfl) G.int (by decide +kernel) h) rfl (atOp (dI_a fun _ _ => rfl)) fun a b => pe_op o_mul a b) rfl (atOp (dI_a fun _ _ => rfl)) fun a b => pe_op o_sub a b) (by decide)) (ja_cons (j_frz (κ := [some 0, some 0, some 0, some 0, some 2, some 0, some 2, some 0, some 0, some 0, some 0, some 0, some 0, none, none, none, none]) (i := 11) (k := 0) (pv 11) rfl rfl) (ja_cons (j_frz (κ := [some 0, some 0, some 0, some 0, some 2, some 0, some 2, some 0, some 0, some 0, some 0, some 0, some 0, none, none, none, none]) (i := 12) (k := 0) (pv 12) rfl rfl) ja_nil rfl rfl) rfl rfl) rfl rfl) rfl rfl) rfl) rfl rfl (by decide) (by exact Nat.le_of_ble_eq_true rfl) fun h => ps_expr (pe_bm PySem.F.plainAttrs_list PySem.F.slot_list_append PySem.F.type_list_append mt_append (pv 6) (pa_cons h pa_nil))))
    jb_nil)))))) rfl rfl rfl rfl) rfl (fun _ => rfl)) rfl rfl rfl rfl)
    (jb_one (js_set (κ1 := [some 0, some 0, some 0, some 0, some 2, some 0, some 0, some 0, some 0, none, none, none, none, none, none, none, none]) (i := 3) (k := 0) (j_frz (κ := [some 0, some 0, some 0, some 0, some 2, some 0, some 2, some 0, some 0, none, none, none, none, none, none, none, none]) (i := 6) (k := 2) (pv 6) rfl rfl) sc__law_walked.nd rfl (by trivial) rfl (.inl rfl) rfl))))) rfl rfl rfl rfl) rfl (fun _ => rfl)) rfl rfl rfl rfl)
    (jb_one (js_ret (κ1 := [some 0, some 0, some 0, some 0, some 2, none, none, none, none, none, none, none, none, none, none, none, none]) (call_pure (n := 1) (r := 99) (rz := .own 99) (ja_cons (j_var (i := 4) (pv 4) rfl) ja_nil rfl rfl) rfl (fun _ _ _ => fM_len _ _ _) (fun h => has_call h__law_odd hr (by decide) (by rfl) h (by rfl) (by rfl) (by rfl)) (.inr ⟨rfl, by decide⟩)) rfl rfl)))))
abbrev N_law : List Str := ["_law_script", "_law_at", "_law_letters", "_law_words", "_law_many", "_law_drawing", "_law_i", "_law_table", "_law_j", "_law_letter", "_law_k"]
abbrev p_law : List Str := ["_law_script"]
abbrev sg_law : Sg := ⟨[0], 99, [none]⟩
def b_law_0 : SM := (sIf (mAnd (m2 (dIsV true) (mV 7) (mC .non)) (m2 dNe (m2 dIx (m2 dIx (mV 7) (mV 6)) (mV 8)) (mCall F__law_walked (mCons (mV 2) (mCons (mV 6) (mCons (mV 8) mNil))))))
  (sRet (mC (.bl false)))
  sNil)
def b_law_1 : SM := (sFor (mRng2 (mCons (m2 dAdd (mV 6) (mC (.int 1))) (mCons (mV 4) mNil))) (gNm 8)
  b_law_0)
def b_law_2 : SM := (sSeq (sAsg 2 (mCallO F__law_simple (none) (mCons (mCall F__law_bag (mCons (mV 0) (mCons (mV 1) mNil))) mNil)))
  (sSeq (sAsg 3 (mF (mLc (true && (true && true)) [9] (mSeq (mV 2)) (gNm 9) mYes (m2 dIxP (mV 9) (mC (.int 0))))))
  (sSeq (sAsg 4 (m2 dMul (mC (.int 2)) (m2 dCnt (mV 3) (mC (.str "born")))))
  (sSeq (sAsg 5 (m2 dCat (mV 2) (mLc (true && (true && true)) [10] (mRng1 (mCons (m2 dDiv (mV 4) (mC (.int 2))) mNil)) (gNm 10) mYes (mTup (mCons (mC (.str "end")) (mCons (mC (.int 0)) mNil))))))
  (sSeq (sTryN exCs 1 (sAsg 7 (m2 dIxQ (mCallO F_between (none) (mCons (mV 5) mNil)) (mB fLen (mCons (mV 2) mNil))))
  (xCall FX_between (mCons (mV 5) mNil))
  (sAsg 7 (mC .non)))
  (sFor (mRng1 (mCons (mV 4) mNil)) (gNm 6)
  b_law_1))))))
def m_law : SM := (sSeq (sFor (mRng1 (mCons (mB fMax2 (mCons (mC (.int 3)) (mCons (mB fMin2 (mCons (mB fLen (mCons (mV 0) mNil)) (mCons (mC (.int 6)) mNil))) mNil))) mNil)) (gNm 1)
  b_law_2)
  (sRet (mC (.bl true))))
def F_law : FM := fM 1 11 sg_law.ks' m_law
theorem sc_law : FnScope N_law p_law (defScope s_law) := ⟨rfl, rfl, rfl, by decide +kernel, rfl, by decide +kernel, by decide +kernel⟩
theorem ok_law (G : Gs mg) (EX : ExS K mg exCs exNs) (h__law_bag : Has P w K mg base "_law_bag" 1 p__law_bag sg__law_bag F__law_bag) (h__law_simple : Has P w K mg base "_law_simple" 2 p__law_simple sg__law_simple F__law_simple) (h_between : HasX P w K mg base "between" 8 p_between sg_between F_between FX_between) (h__law_walked : Has P w K mg base "_law_walked" 2 p__law_walked sg__law_walked F__law_walked) {fa : Addr} {fd : FuncData} (F : FnP K "law" s_law fa fd) : FnOk P w K mg base CX0 9 fa fd p_law (fnSp K sg_law F_law) := by
  refine fn_mk (k := 8) (n := 11) F sc_law rfl rfl (by decide) rfl fun cdv A outer s H E hr => ?_
  have hu := units_of hr
  exact (jb_cons (js_for (κ1 := [some 0, none, none, none, none, none, none, none, none, none, none]) PassesOwn.never rfl (ji_range1 (ja_cons (j_callA (rz := .own 99) (ja_cons (j_const (d := .int 3) (rz := .own 99) rfl pe_int) (ja_cons (j_callA (rz := .own 99) (ja_cons (j_callA (rz := .own 99) (ja_cons (j_var (i := 0) (pv 0) rfl) ja_nil rfl rfl) rfl at_len fun h => pe_callB (CallR.en cr_len) (by rfl) G.len (by decide +kernel) h) (ja_cons (j_const (d := .int 6) (rz := .own 99) rfl pe_int) ja_nil rfl rfl) rfl rfl) rfl at_min2 fun h => pe_callB (CallR.en (call_min2 rfl)) (by rfl) G.min (by decide +kernel) h) ja_nil rfl rfl) rfl rfl) rfl at_max2 fun h => pe_callB (CallR.en (call_max2 rfl)) (by rfl) G.max (by decide +kernel) h) ja_nil rfl rfl) rfl (by rfl) G.range rfl) (jg_name (i := 1) sc_law.nd rfl (by trivial) (.inl rfl))
    (JB.weak (κ1 := [some 0, some 0, none, none, none, none, none, none, none, none, none]) (κn := [some 0, some 0, some 0, some 99, some 99, some 0, none, some 3, none, none, none]) (jb_cons (js_set (κ1 := [some 0, some 0, none, none, none, none, none, none, none, none, none]) (i := 2) (k := 99) (call_own (sg := sg__law_simple) (io := none) (ja_cons (J.less (j := 1) (k := 99) (call_pure (n := 2) (r := 99) (rz := .own 99) (ja_cons (j_var (i := 0) (pv 0) rfl) (ja_cons (j_var (i := 1) (pv 1) rfl) ja_nil rfl rfl) rfl rfl) rfl (fun _ _ _ => fM_len _ _ _) (fun h => has_call h__law_bag hr (by decide) (by rfl) h (by rfl) (by rfl) (by rfl)) (.inr ⟨rfl, by decide⟩)) (by decide)) ja_nil rfl rfl) rfl rfl rfl (fun _ _ _ h => (fM_len _ _ _ h).2.trans (fM_len _ _ _ h).1.symm) (fun h => has_call h__law_simple hr (by decide) (by rfl) h (by rfl) (by rfl) (by rfl))) sc_law.nd rfl (by trivial) rfl (.inl rfl) rfl)
    (jb_cons (js_lcF (κ0 := [some 0, some 0, some 0, none, none, none, none, none, none, none, none]) (κ1 := [some 0, some 0, some 0, none, none, none, none, none, none, none, none]) (i := 3) (k := 1) (own := [("_law_letter", 9)]) rfl sc_law.nd rfl rfl (sw_true rfl rfl rfl (by decide +kernel)) (ji_seq (j_frz (κ := [some 0, some 0, some 0, none, none, none, none, none, none, none, none]) (i := 2) (k := 0) (pv 2) rfl rfl)) (blkOk_by (N := N_law) (sc := defScope s_law) (own := [("_law_letter", 9)]) (by decide +kernel)) (fun _ _ _ _ _ => (jg_name (i := 9) sc_law.nd rfl (by trivial) (by trivial))) (fun _ _ _ _ _ => jts_nil) (fun _ _ _ _ _ => (jp_frz (κ1 := [some 0, some 0, some 0, none, none, none, none, none, none, some 0, none]) (i := 9) (n := 1) (k := 0) (jp_ix (κ1 := [some 0, some 0, some 0, none, none, none, none, none, none, some 0, none]) (κ2 := [some 0, some 0, some 0, none, none, none, none, none, none, some 0, none]) (i := 9) (n := 0) (k := 0) hu (jp_var (i := 9) (k := 0) (pv 9) rfl) (j_const (d := .int 0) (rz := .own 99) rfl pe_int) (fun _ _ => rfl) rfl) rfl (by decide) rfl)) (fun _ => rfl) (by decide) rfl rfl rfl rfl rfl rfl rfl rfl rfl)
    (jb_cons (js_set (κ1 := [some 0, some 0, some 99, some 99, none, none, none, none, none, none, none]) (i := 4) (k := 99) (J.two_read (rz := .own 99) (j_const (d := .int 2) (rz := .own 99) rfl pe_int) (j_cnt (rz := .own 99) (j_var (i := 3) (pv 3) rfl) (j_const (d := .str "born") (rz := .own 99) rfl pe_str) rfl fun o a => pe_bm PySem.F.plainAttrs_list PySem.F.slot_list_count PySem.F.type_list_count (mt_cnt hu) o (pa_cons a pa_nil)) rfl (atOp (dI_a fun _ _ => rfl)) fun a b => pe_op o_mul a b) sc_law.nd rfl (by trivial) rfl (.inl rfl) rfl)
    (jb_cons (js_set (κ1 := [some 0, some 0, some 0, some 99, some 99, none, none, none, none, none, none]) (i := 5) (k := 1) (j_catO (j_frz (κ := [some 0, some 0, some 99, some 99, some 99, none, none, none, none, none, none]) (i := 2) (k := 99) (pv 2) rfl rfl) (J.less (j := 0) (k := 99) (j_lc (k := 99) (own := [("_law_k", 10)]) rfl sc_law.nd (ji_range1 (ja_cons (J.two_read (rz := .own 99) (j_var (i := 4) (pv 4) rfl) (j_const (d := .int 2) (rz := .own 99) rfl pe_int) rfl (atOp (dI_a fun _ _ => rfl)) fun a b => pe_op o_div a b) ja_nil rfl rfl) rfl (by rfl) G.range rfl) (blkOk_by (N := N_law) (sc := defScope s_law) (own := [("_law_k", 10)]) (by decide +kernel)) (fun _ _ _ _ _ => (jg_name (i := 10) sc_law.nd rfl (by trivial) (by trivial))) (fun _ _ _ _ _ => jts_nil) (fun _ _ _ _ _ => (j_tup (k' := 99) (ja_cons (j_const (d := .str "end") (rz := .own 99) rfl pe_str) (ja_cons (j_const (d := .int 0) (rz := .own 99) rfl pe_int) ja_nil rfl rfl) rfl rfl) rfl)) (fun _ => rfl) (by decide) rfl rfl rfl rfl rfl) (by decide)) fun a b => pe_op o_cat a b) sc_law.nd rfl (by trivial) rfl (.inl rfl) rfl)
    (jb_cons (js_tryN (κx := [some 0, some 0, some 0, some 99, some 99, some 1, none, none, none, none, none]) (κ2 := [some 0, some 0, some 0, some 99, some 99, some 0, none, some 3, none, none, none]) (n := 1) EX rfl rfl rfl rfl (by decide) (by rfl) (fun W pn xe tk po => ⟨(jb_one (js_set (κ1 := [some 0, some 0, some 0, some 99, some 99, some 0, none, none, none, none, none]) (i := 7) (k := 3) (j_ixO (k := 4) (call_own (sg := sg_between) (io := none) (ja_cons (j_frz (κ := [some 0, some 0, some 0, some 99, some 99, some 1, none, none, none, none, none]) (i := 5) (k := 1) (pv 5) rfl rfl) ja_nil rfl rfl) rfl rfl rfl (fun _ _ _ h => (fM_len _ _ _ h).2.trans (fM_len _ _ _ h).1.symm) (fun h => has_callN h_between hr (by decide) (by rfl) h (by rfl) (by rfl) (by rfl))) (j_callA (rz := .own 99) (ja_cons (j_var (i := 2) (pv 2) rfl) ja_nil rfl rfl) rfl at_len fun h => pe_callB (CallR.en cr_len) (by rfl) G.len (by decide +kernel) h) (fun _ _ => rfl)) sc_law.nd rfl (by trivial) rfl (.inl rfl) rfl)),
    (jbx_one (jsx_set (i := 7) (jx_in (jx_call (κ1 := [some 0, some 0, some 0, some 99, some 99, some 1, none, none, none, none, none]) (n := 1) (r := 4) (ja_cons (j_var (i := 5) (pv 5) rfl) ja_nil rfl rfl) rfl (fun _ _ => fxM_len _ _) (fun h => has_callX h_between hr (by decide) (by rfl) tk h (by rfl) (by rfl) (by rfl)) rfl rfl) fun ta h => ⟨_, pe_ix ix_seq h pe_no (fun _ _ => rfl)⟩) sc_law.nd rfl (by trivial) rfl (.inl rfl)))⟩)
    (fun c C a oe pn hc hC hz hfl => (JB.weak (κ1 := [some 0, some 0, some 0, some 99, some 99, some 1, none, none, none, none, none]) (κn := [some 0, some 0, some 0, some 99, some 99, some 1, none, some 99, none, none, none]) (jb_one (js_set (κ1 := [some 0, some 0, some 0, some 99, some 99, some 1, none, none, none, none, none]) (i := 7) (k := 99) (j_const (d := .non) (rz := .own 99) rfl pe_non) sc_law.nd rfl (by trivial) rfl (.inl rfl) rfl)) rfl rfl rfl rfl)))
    (jb_one (js_for (κ1 := [some 0, some 0, some 0, some 99, some 99, some 0, none, some 3, none, none, none]) PassesOwn.never rfl (ji_range1 (ja_cons (j_var (i := 4) (pv 4) rfl) ja_nil rfl rfl) rfl (by rfl) G.range rfl) (jg_name (i := 6) sc_law.nd rfl (by trivial) (.inl rfl))
    (JB.weak (κ1 := [some 0, some 0, some 0, some 99, some 99, some 0, some 0, some 3, none, none, none]) (κn := [some 0, some 0, some 0, some 99, some 99, some 0, some 0, some 3, none, none, none]) (jb_one (js_for (κ1 := [some 0, some 0, some 0, some 99, some 99, some 0, some 0, some 3, none, none, none]) PassesOwn.never rfl (ji_range2 (ja_cons (J.two_read (rz := .own 99) (j_var (i := 6) (pv 6) rfl) (j_const (d := .int 1) (rz := .own 99) rfl pe_int) rfl (atOp dAdd_a) fun a b => pe_op o_add a b) (ja_cons (j_var (i := 4) (pv 4) rfl) ja_nil rfl rfl) rfl rfl) rfl (by rfl) G.range rfl rfl) (jg_name (i := 8) sc_law.nd rfl (by trivial) (.inl rfl))
    (JB.weak (κ1 := [some 0, some 0, some 0, some 99, some 99, some 0, some 0, some 3, some 0, none, none]) (κn := [some 0, some 0, some 0, some 99, some 99, some 0, some 0, some 3, some 0, none, none]) (jb_one (js_if (κ1 := [some 0, some 0, some 0, some 99, some 99, some 0, some 0, some 3, some 0, none, none]) (κ2 := [some 0, some 0, some 0, some 99, some 99, some 0, some 0, some 3, some 0, none, none]) (JW.jt (jw_and (JT.two_read (j_var (i := 7) (pv 7) rfl) (j_const (d := .non) (rz := .own 99) rfl pe_non) rfl (atOp dIsV_a) fun a b => pt_cmpR (o_isnot) a b (nomark _)) (jw_and1 (JT.two_read (j_ix hu (j_ix hu (j_var (i := 7) (pv 7) rfl) (j_var (i := 6) (pv 6) rfl) rfl (fun _ _ => rfl)) (j_var (i := 8) (pv 8) rfl) rfl (fun _ _ => rfl)) (call_pure (n := 3) (r := 99) (rz := .rep) (ja_cons (j_var (i := 2) (pv 2) rfl) (ja_cons (j_var (i := 6) (pv 6) rfl) (ja_cons (j_var (i := 8) (pv 8) rfl) ja_nil rfl rfl) rfl rfl) rfl rfl) rfl (fun _ _ _ => fM_len _ _ _) (fun h => has_call h__law_walked hr (by decide) (by rfl) h (by rfl) (by rfl) (by rfl)) (.inl rfl)) rfl (atOp dNe_a) fun a b => pt_cmpR (o_ne hu) a b (nomark _))) rfl rfl))
    (jb_one (js_ret (κ1 := [some 0, some 0, some 0, some 99, some 99, some 0, some 0, some 3, some 0, none, none]) (j_const (d := .bl false) (rz := .own 99) rfl pe_bl) rfl rfl))
    jb_nil)) rfl rfl rfl rfl) rfl (fun _ => rfl))) rfl rfl rfl rfl) rfl (fun _ => rfl)))))))) rfl rfl rfl rfl) rfl (fun _ => rfl))
    (jb_one (js_ret (κ1 := [some 0, none, none, none, none, none, none, none, none, none, none]) (j_const (d := .bl true) (rz := .own 99) rfl pe_bl) rfl rfl)))
end L_k17
namespace L_k17
open PySem VS L2
local macro_rules | `(tactic| simp_arith [$xs,*]) => `(tactic| simp (disch := first | assumption | ((try simp only [List.length_cons, List.length_nil, Nat.reduceAdd, List.length_append, List.length_map, List.length_take, List.length_drop, List.length_reverse, List.getElem?_cons_zero, List.getElem?_cons_succ]); first | done | omega | decide)) only [↓bo_s, bo_n, ↓cv_s, ↓tst_t, ↓tst_f, ↓tst_d, ↓tst_n, ↓tst_a, ↓tst_o, onI_s, onL_s, onT_s, ce_c, cl_nil, co_n, ce_mD, cd_n, ct_c, ct_yes, cs_nil, cs_ret, cs_no, cF_nil, cP_nil, wp, cs_while, ap_gnm, ap_gtp, ap_gtpL, ap_gnil, o_n, ox_e, oxi_0, oxi_n, oxi_1, f_run, r_add, r_sub, r_mul, r_div, r_mod, r_lt, r_le, r_gt, r_ge, r_eqI, r_eqS, r_neI, r_neS, r_ixL, r_ixT, r_ixR, r_ipL, r_ipT, r_len, r_lenT, r_lenR, r_abs, r_max, r_min, r_catI, r_mkL, r_mkLT, r_mkT, r_slL, r_slT, at0, at1, a_int, a_bl, a_str, a_non, t_bl, seqOf, List.map_cons, List.map_nil, List.length_cons, List.length_nil, List.replicate, List.cons_append, List.nil_append, List.getElem?_cons_zero, List.getElem?_cons_succ, List.set_cons_zero, List.set_cons_succ, List.getElem?_nil, Nat.reduceSub, Nat.reduceAdd, Nat.reduceEqDiff, Nat.reduceLeDiff, ↓reduceIte, ↓if_le, ↓if_lt, decide_true, decide_false, true_and, and_true, not_true, not_false, Bool.not_true, Bool.not_false, eq_self, Bool.and_true, Bool.true_and, r_isN, r_isnN, n_non, n_int, n_bl, n_str, n_lst, n_tup, r_int, r_intT, r_intF, r_intB, r_ext, iT_int, iT_bl, iT_str, iT_tup, iT_lst, iT_non, tst_b, at_pick, at2, at3, at4, atm1, bo_ite, tst_ite, dispK, keyA, Option.bind_some, Option.map_some, ↓if_nd, Int.cast_ofNat_Int, Int.reduceAdd, Int.reduceSub, Int.reduceMul, Int.reduceLT, Int.reduceLE, Int.reduceEq, Int.reduceNeg, not_false_eq_true, not_true_eq_false, List.length_append, List.length_map, ce_v_1_e, ce_v', ce_2_3_e, ce_2_2_e, ce_2_1_e, ce_2', ce_A_1_e, ce_A', cl_cons_2_e, cl_cons_1_e, cl_cons', ce_lst_1_e, ce_lst', ce_tup_1_e, ce_tup', ce_B_2_e, ce_B_1_e, ce_B', ce_call_2_e, ce_call_1_e, ce_call', ce_callN_2_e, ce_callN_1_e, ce_callN', ce_callO_2_e, ce_callO_1_e, ce_callO', ce_T_2_e, ce_T_1_e, ce_T', ce_isT_2_e, ce_isT_1_e, ce_isT', ce_not_1_e, ce_not_2_e, ce_not', ce_neg_2_e, ce_neg_1_e, ce_neg', ce_and_1_e, ce_and_2_e, ce_and', ce_or_1_e, ce_or_2_e, ce_or', ce_ch_5_e, ce_ch_4_e, ce_ch_3_e, ce_ch_2_e, ce_ch_1_e, ce_ch', ce_sl_4_e, ce_sl_3_e, ce_sl_2_e, ce_sl_1_e, ce_sl', co_s_2_e, co_s_1_e, co_s', ce_mk_2_e, ce_mk_1_e, ce_mk', ce_mut_6_e, ce_mut_5_e, ce_mut_4_e, ce_mut_3_e, ce_mut_2_e, ce_mut_1_e, ce_mut', ce_get2_4_e, ce_get2_3_e, ce_get2_2_e, ce_get2_1_e, ce_get2', ce_disp_2_e, ce_disp_1_e, ce_disp', cd_c_3_e, cd_c_2_e, cd_c_1_e, cd_c', ce_F_2_e, ce_F_1_e, ce_F', ce_Fl_2_e, ce_Fl_1_e, ce_Fl', ce_lrg_2_e, ce_lrg_1_e, ce_lrg', ce_srtD_1_e, ce_srtD', ce_ch3_7_e, ce_ch3_6_e, ce_ch3_5_e, ce_ch3_4_e, ce_ch3_3_e, ce_ch3_2_e, ce_ch3_1_e, ce_ch3', cl_seq_2_e, cl_seq_1_e, cl_seq', cl_rng1_1_e, cl_rng1', cl_rng2_1_e, cl_rng2', cl_rng3_1_e, cl_rng3', cl_enum_1_e, cl_enum', cl_zip_1_e, cl_zip', cl_keys_1_e, cl_keys', ct_not', ct_and_1_e, ct_and', ct_or_1_e, ct_or', ct_T_2_e, ct_T_1_e, ct_T', ct_2_1_e, ct_2', ct_ch_1_e, ct_ch', ct_v_1_e, ct_v', ct_isT_1_e, ct_isT', ct_A_1_e, ct_A', ct_cl_1_e, ct_cl', ct_clO_1_e, ct_clO', ct_B_1_e, ct_B', cs_seq_1_e, cs_seq', cs_if_1_e, cs_if_2_e, cs_if', cs_asg_1_e, cs_asg', cs_exp_1_e, cs_exp', cs_tgt_1_e, cs_tgt', cs_par_1_e, cs_par', cs_app_5_e, cs_app_4_e, cs_app_3_e, cs_app_2_e, cs_app_1_e, cs_app', cs_set_6_e, cs_set_5_e, cs_set_4_e, cs_set_3_e, cs_set_2_e, cs_set_1_e, cs_set', cs_set2_11_e, cs_set2_10_e, cs_set2_9_e, cs_set2_8_e, cs_set2_7_e, cs_set2_6_e, cs_set2_5_e, cs_set2_4_e, cs_set2_3_e, cs_set2_2_e, cs_set2_1_e, cs_set2', cs_put_4_e, cs_put_3_e, cs_put_2_e, cs_put_1_e, cs_put', cs_for_1_e, cs_for', cF_cons_2_e, cF_cons_1_e, cW_s_2_e, cW_s_1_e, cP_cons_4_e, cP_cons_3_e, cP_cons_2_e, cP_cons_5_e, cP_cons_1_e, ce_lc_2_e, ce_lc_1_e, ce_lc', cp1_e_3_e, cp1_e_2_e, cp1_e_4_e, cp1_e_1_e, cp1_e', g_cons_1_e, g_cons', fo_z_1_e, fo_z', o_c_2_e, o_c_1_e, o_c', $xs,*])
local macro_rules | `(tactic| simp_arith! [$xs,*]) => `(tactic| simp (disch := first | assumption | ((try simp only [List.length_cons, List.length_nil, Nat.reduceAdd, List.length_append, List.length_map, List.length_take, List.length_drop, List.length_reverse, List.getElem?_cons_zero, List.getElem?_cons_succ]); first | done | omega | decide)) only [↓bo_s, bo_n, ↓cv_s, ↓tst_t, ↓tst_f, ↓tst_d, ↓tst_n, ↓tst_a, ↓tst_o, onI_s, onL_s, onT_s, ce_c, cl_nil, co_n, ce_mD, cd_n, ct_c, ct_yes, cs_nil, cs_ret, cs_no, cF_nil, cP_nil, wp, cs_while, ap_gnm, ap_gtp, ap_gtpL, ap_gnil, o_n, ox_e, oxi_0, oxi_n, oxi_1, f_run, r_add, r_sub, r_mul, r_div, r_mod, r_lt, r_le, r_gt, r_ge, r_eqI, r_eqS, r_neI, r_neS, r_ixL, r_ixT, r_ixR, r_ipL, r_ipT, r_len, r_lenT, r_lenR, r_abs, r_max, r_min, r_catI, r_mkL, r_mkLT, r_mkT, r_slL, r_slT, at0, at1, a_int, a_bl, a_str, a_non, t_bl, seqOf, List.map_cons, List.map_nil, List.length_cons, List.length_nil, List.replicate, List.cons_append, List.nil_append, List.getElem?_cons_zero, List.getElem?_cons_succ, List.set_cons_zero, List.set_cons_succ, List.getElem?_nil, Nat.reduceSub, Nat.reduceAdd, Nat.reduceEqDiff, Nat.reduceLeDiff, ↓reduceIte, ↓if_le, ↓if_lt, decide_true, decide_false, true_and, and_true, not_true, not_false, Bool.not_true, Bool.not_false, eq_self, Bool.and_true, Bool.true_and, r_isN, r_isnN, n_non, n_int, n_bl, n_str, n_lst, n_tup, r_int, r_intT, r_intF, r_intB, r_ext, iT_int, iT_bl, iT_str, iT_tup, iT_lst, iT_non, tst_b, at_pick, at2, at3, at4, atm1, bo_ite, tst_ite, dispK, keyA, Option.bind_some, Option.map_some, ↓if_nd, Int.cast_ofNat_Int, Int.reduceAdd, Int.reduceSub, Int.reduceMul, Int.reduceLT, Int.reduceLE, Int.reduceEq, Int.reduceNeg, not_false_eq_true, not_true_eq_false, List.length_append, List.length_map, ce_v_1_e, ce_v', ce_2_3_e, ce_2_2_e, ce_2_1_e, ce_2', ce_A_1_e, ce_A', cl_cons_2_e, cl_cons_1_e, cl_cons', ce_lst_1_e, ce_lst', ce_tup_1_e, ce_tup', ce_B_2_e, ce_B_1_e, ce_B', ce_call_2_e, ce_call_1_e, ce_call', ce_callN_2_e, ce_callN_1_e, ce_callN', ce_callO_2_e, ce_callO_1_e, ce_callO', ce_T_2_e, ce_T_1_e, ce_T', ce_isT_2_e, ce_isT_1_e, ce_isT', ce_not_1_e, ce_not_2_e, ce_not', ce_neg_2_e, ce_neg_1_e, ce_neg', ce_and_1_e, ce_and_2_e, ce_and', ce_or_1_e, ce_or_2_e, ce_or', ce_ch_5_e, ce_ch_4_e, ce_ch_3_e, ce_ch_2_e, ce_ch_1_e, ce_ch', ce_sl_4_e, ce_sl_3_e, ce_sl_2_e, ce_sl_1_e, ce_sl', co_s_2_e, co_s_1_e, co_s', ce_mk_2_e, ce_mk_1_e, ce_mk', ce_mut_6_e, ce_mut_5_e, ce_mut_4_e, ce_mut_3_e, ce_mut_2_e, ce_mut_1_e, ce_mut', ce_get2_4_e, ce_get2_3_e, ce_get2_2_e, ce_get2_1_e, ce_get2', ce_disp_2_e, ce_disp_1_e, ce_disp', cd_c_3_e, cd_c_2_e, cd_c_1_e, cd_c', ce_F_2_e, ce_F_1_e, ce_F', ce_Fl_2_e, ce_Fl_1_e, ce_Fl', ce_lrg_2_e, ce_lrg_1_e, ce_lrg', ce_srtD_1_e, ce_srtD', ce_ch3_7_e, ce_ch3_6_e, ce_ch3_5_e, ce_ch3_4_e, ce_ch3_3_e, ce_ch3_2_e, ce_ch3_1_e, ce_ch3', cl_seq_2_e, cl_seq_1_e, cl_seq', cl_rng1_1_e, cl_rng1', cl_rng2_1_e, cl_rng2', cl_rng3_1_e, cl_rng3', cl_enum_1_e, cl_enum', cl_zip_1_e, cl_zip', cl_keys_1_e, cl_keys', ct_not', ct_and_1_e, ct_and', ct_or_1_e, ct_or', ct_T_2_e, ct_T_1_e, ct_T', ct_2_1_e, ct_2', ct_ch_1_e, ct_ch', ct_v_1_e, ct_v', ct_isT_1_e, ct_isT', ct_A_1_e, ct_A', ct_cl_1_e, ct_cl', ct_clO_1_e, ct_clO', ct_B_1_e, ct_B', cs_seq_1_e, cs_seq', cs_if_1_e, cs_if_2_e, cs_if', cs_asg_1_e, cs_asg', cs_exp_1_e, cs_exp', cs_tgt_1_e, cs_tgt', cs_par_1_e, cs_par', cs_app_5_e, cs_app_4_e, cs_app_3_e, cs_app_2_e, cs_app_1_e, cs_app', cs_set_6_e, cs_set_5_e, cs_set_4_e, cs_set_3_e, cs_set_2_e, cs_set_1_e, cs_set', cs_set2_11_e, cs_set2_10_e, cs_set2_9_e, cs_set2_8_e, cs_set2_7_e, cs_set2_6_e, cs_set2_5_e, cs_set2_4_e, cs_set2_3_e, cs_set2_2_e, cs_set2_1_e, cs_set2', cs_put_4_e, cs_put_3_e, cs_put_2_e, cs_put_1_e, cs_put', cs_for_1_e, cs_for', cF_cons_2_e, cF_cons_1_e, cF_cons', cW_s_2_e, cW_s_1_e, cW_s', cP_cons_4_e, cP_cons_3_e, cP_cons_2_e, cP_cons_5_e, cP_cons_1_e, cP_cons', ce_lc_2_e, ce_lc_1_e, ce_lc', cp1_e_3_e, cp1_e_2_e, cp1_e_4_e, cp1_e_1_e, cp1_e', g_cons_1_e, g_cons', fo_z_1_e, fo_z', o_c_2_e, o_c_1_e, o_c', $xs,*])
theorem ce_ND {α : Type} {ρ : DE} {k : D → DE → Option α} : ce mND ρ k = k (.nd [] []) ρ := rfl
def gN3 {α : Type} (k : D → DE → Option α) (ρ3 : DE) : D → Option α := fun z => k z ρ3
theorem gN3_e {α : Type} {k : D → DE → Option α} {ρ3 : DE} {z : D} : gN3 k ρ3 z = k z ρ3 := rfl
def gN2 {α : Type} (k : D → DE → Option α) (ks : List NK) (xs : List D) (kd : D) : D → DE → Option α := fun x ρ3 => bo (dGetN ks xs kd x) (gN3 k ρ3)
theorem gN2_e {α : Type} {k : D → DE → Option α} {ks : List NK} {xs : List D} {kd x : D} {ρ3 : DE} : gN2 k ks xs kd x ρ3 = bo (dGetN ks xs kd x) (gN3 k ρ3) := rfl
def gN1 {α : Type} (mx : M) (k : D → DE → Option α) (ks : List NK) (xs : List D) : D → DE → Option α := fun kd ρ2 => ce mx ρ2 (gN2 k ks xs kd)
theorem gN1_e {α : Type} {mx : M} {k : D → DE → Option α} {ks : List NK} {xs : List D} {kd : D} {ρ2 : DE} : gN1 mx k ks xs kd ρ2 = ce mx ρ2 (gN2 k ks xs kd) := rfl
def gN0 {α : Type} (mk mx : M) (ρ : DE) (k : D → DE → Option α) : D → Option α := fun z => match z with | .nd ks xs => ce mk ρ (gN1 mx k ks xs) | _ => none
theorem gN0_e {α : Type} {mk mx : M} {ρ : DE} {k : D → DE → Option α} {ks : List NK} {xs : List D} : gN0 mk mx ρ k (.nd ks xs) = ce mk ρ (gN1 mx k ks xs) := rfl
theorem ce_getN {α : Type} {i : Nat} {mk mx : M} {ρ : DE} {k : D → DE → Option α} : ce (mGetN i mk mx) ρ k = cv ρ[i]? (gN0 mk mx ρ k) := by
  unfold ce mGetN cv
  rcases ρ[i]? with _ | _ | d
  · rfl
  · rfl
  cases d with
  | nd ks xs =>
    simp only [gN0]
    unfold ce
    rcases mk ρ with _ | ⟨kd, ρ2⟩
    · rfl
    simp only [gN1]
    unfold ce
    rcases mx ρ2 with _ | ⟨x, ρ3⟩
    · rfl
    simp only [gN2]
    cases dGetN ks xs kd x <;> rfl
  | _ => rfl
def pN3 {α : Type} (i : Nat) (kn : DE → Option α) (x : D) (ks : List NK) (xs : List D) (ρ2 : DE) : NK → Option α := fun k => kn (ρ2.set i (some (.nd (putL ks xs k x).1 (putL ks xs k x).2)))
theorem pN3_e {α : Type} {i : Nat} {kn : DE → Option α} {x : D} {ks : List NK} {xs : List D} {ρ2 : DE} {k : NK} : pN3 i kn x ks xs ρ2 k = kn (ρ2.set i (some (.nd (putL ks xs k x).1 (putL ks xs k x).2))) := rfl
def pN2 {α : Type} (i : Nat) (kn : DE → Option α) (x : D) (ks : List NK) (xs : List D) : D → DE → Option α := fun y ρ2 => bo (nkA y) (pN3 i kn x ks xs ρ2)
theorem pN2_e {α : Type} {i : Nat} {kn : DE → Option α} {x y : D} {ks : List NK} {xs : List D} {ρ2 : DE} : pN2 i kn x ks xs y ρ2 = bo (nkA y) (pN3 i kn x ks xs ρ2) := rfl
def pN1 {α : Type} (i : Nat) (mb : M) (kn : DE → Option α) (x : D) (ρ1 : DE) : D → Option α := fun z => match z with | .nd ks xs => if xs.length < 16777216 then ce mb ρ1 (pN2 i kn x ks xs) else none | _ => none
theorem pN1_e {α : Type} {i : Nat} {mb : M} {kn : DE → Option α} {x : D} {ρ1 : DE} {ks : List NK} {xs : List D} : pN1 i mb kn x ρ1 (.nd ks xs) = if xs.length < 16777216 then ce mb ρ1 (pN2 i kn x ks xs) else none := rfl
def pN0 {α : Type} (i : Nat) (mb : M) (kn : DE → Option α) : D → DE → Option α := fun x ρ1 => cv ρ1[i]? (pN1 i mb kn x ρ1)
theorem pN0_e {α : Type} {i : Nat} {mb : M} {kn : DE → Option α} {x : D} {ρ1 : DE} : pN0 i mb kn x ρ1 = cv ρ1[i]? (pN1 i mb kn x ρ1) := rfl
theorem cs_putN {α : Type} {i : Nat} {ma mb : M} {ρ : DE} {kn : DE → Option α} {kr : D → DE → Option α} : cs (sPutN i ma mb) ρ kn kr = ce ma ρ (pN0 i mb kn) := by
  unfold cs ce sPutN
  rcases ma ρ with _ | ⟨x, ρ1⟩
  · rfl
  simp only [pN0]
  unfold cv
  rcases ρ1[i]? with _ | _ | d
  · rfl
  · rfl
  cases d with
  | nd ks xs =>
    simp only [pN1]
    by_cases h : xs.length < 16777216
    · rw [if_pos h, if_pos h]
      unfold ce
      rcases mb ρ1 with _ | ⟨y, ρ2⟩
      · rfl
      simp only [pN2]
      cases nkA y <;> rfl
    · rw [if_neg h, if_neg h]
  | _ => rfl
def kN0 {α : Type} (ρ : DE) (kl : List D → DE → Option α) : D → Option α := fun x => match x with | .nd ks _ => kl (ks.map nkD) ρ | _ => none
theorem kN0_e {α : Type} {ρ : DE} {kl : List D → DE → Option α} {ks : List NK} {xs : List D} : kN0 ρ kl (.nd ks xs) = kl (ks.map nkD) ρ := rfl
theorem cl_keysN {α : Type} {i : Nat} {ρ : DE} {kl : List D → DE → Option α} : cl (mKeysN i) ρ kl = cv ρ[i]? (kN0 ρ kl) := by
  unfold cl mKeysN cv
  rcases ρ[i]? with _ | _ | d
  · rfl
  · rfl
  cases d <;> rfl
abbrev Wo := List Int
def eW (w : Wo) : D := .tup (w.map D.int)
def eS (s : List Wo) : D := .lst (s.map eW)
theorem pyD_eW (w : Wo) : pyD (eW w) = .tuple (w.map PyData.int) := by
  show PyData.tuple (pyL (w.map D.int)) = _
  rw [pyL_map, List.map_map]
  rfl
theorem dep_eW (w : Wo) : dep (eW w) ≤ 1 := dep_tup (k := 0) (fun d hd => by
  obtain ⟨i, _, rfl⟩ := List.mem_map.mp hd
  rw [dep_atom rfl]
  exact Nat.le_refl 0) (by omega)
theorem dep_eS (s : List Wo) : dep (eS s) ≤ 2 := dep_lst (k := 1) (fun d hd => by
  obtain ⟨w, _, rfl⟩ := List.mem_map.mp hd
  exact dep_eW w) (by omega)
theorem alikeAll_ints : ∀ xs ys : List Int, PySem.W.alikeAll (xs.map PyData.int) (ys.map PyData.int) = true
  | [], ys => by cases ys <;> simp [PySem.W.alikeAll]
  | x :: xs, [] => by simp [PySem.W.alikeAll]
  | x :: xs, y :: ys => by
    simp only [List.map_cons, PySem.W.alikeAll]
    rw [alikeAll_ints xs ys]
    simp [PySem.W.alike]
theorem alike_eW (a b : Wo) : PySem.W.alike (pyD (eW a)) (pyD (eW b)) = true := by
  rw [pyD_eW, pyD_eW]
  simp only [PySem.W.alike]
  exact alikeAll_ints a b
theorem srtOk_eW {ws : List Wo} (h : ws.length ≤ 16777216) : srtOk (ws.map eW) = true := by
  unfold srtOk
  have e1 : ((ws.map eW).all fun a => (ws.map eW).all fun b => PySem.W.alike (pyD a) (pyD b)) = true := by
    rw [List.all_eq_true]
    intro a ha
    rw [List.all_eq_true]
    intro b hb
    obtain ⟨i, _, rfl⟩ := List.mem_map.mp ha
    obtain ⟨j, _, rfl⟩ := List.mem_map.mp hb
    exact alike_eW i j
  have e2 : ((ws.map eW).all fun a => match a with | .tup _ => true | _ => false) = true := by
    rw [List.all_eq_true]
    intro a ha
    obtain ⟨i, _, rfl⟩ := List.mem_map.mp ha
    rfl
  have e3 : ((ws.map eW).all fun a => decide (dep a ≤ 60)) = true := by
    rw [List.all_eq_true]
    intro a ha
    obtain ⟨i, _, rfl⟩ := List.mem_map.mp ha
    have := dep_eW i
    exact decide_eq_true (by omega)
  have e4 : decide ((ws.map eW).length ≤ 16777216) = true := by simpa using h
  simp only [Bool.and_eq_true, Bool.or_eq_true]
  exact ⟨⟨⟨e1, .inl e2⟩, e3⟩, e4⟩
theorem lt_eW (a b : Wo) : PySem.W.dataLt (pyD (eW a)) (pyD (eW b)) = decide (a < b) := by
  rw [pyD_eW, pyD_eW, PySem.W.dataLt_tuple, ← PySem.W.dataLt_list]
  exact PySem.W.dataLt_ints a b
theorem le_eW (a b : Wo) : PySem.W.dataLe false pyD (eW a) (eW b) = !decide (b < a) := by
  rw [← lt_eW b a]
  rfl
def srtW (ws : List Wo) : List Wo := ws.mergeSort fun a b => !decide (b < a)
theorem mk_srtW {ws : List Wo} (h : ws.length ≤ 16777216) : dMk .srt (.lst (ws.map eW)) = some (.lst ((srtW ws).map eW)) := by
  show (if srtOk (ws.map eW) = true then some (D.lst (srtD (ws.map eW))) else none) = _
  rw [if_pos (srtOk_eW h)]
  congr 2
  unfold srtD srtW
  exact (List.map_mergeSort fun a _ b _ => (le_eW a b).symm).symm
theorem srtW_perm (ws : List Wo) : (srtW ws).Perm ws := List.mergeSort_perm _ _
theorem srtW_pw (ws : List Wo) : (srtW ws).Pairwise fun a b => a ≤ b := by
  have := List.pairwise_mergeSort (le := fun a b : Wo => !decide (b < a)) (by
    intro a b c h1 h2
    simp only [Bool.not_eq_true', decide_eq_false_iff_not, List.not_lt] at *
    exact List.le_trans h1 h2) (by
    intro a b
    simp only [Bool.or_eq_true, Bool.not_eq_true', decide_eq_false_iff_not, List.not_lt]
    exact List.le_total a b) ws
  unfold srtW
  exact this.imp fun h => by simpa using h
theorem eW_inj {a b : Wo} : eW a = eW b ↔ a = b := by
  constructor
  · intro h
    injection h with h
    exact (List.map_inj_right (fun x y z => by injection z)).mp h
  · intro h
    rw [h]
theorem sd_eW (w : Wo) : sd (eW w) = true := by
  show sdL (w.map D.int) = true
  induction w with
  | nil => rfl
  | cons i w ih =>
    show (sd (.int i) && sdL (w.map D.int)) = true
    rw [ih]
    rfl
theorem sd_eS (s : List Wo) : sd (eS s) = true := by
  show sdL (s.map eW) = true
  induction s with
  | nil => rfl
  | cons w s ih =>
    show (sd (eW w) && sdL (s.map eW)) = true
    rw [ih, sd_eW]
    rfl
theorem eS_inj {a b : List Wo} : eS a = eS b ↔ a = b := by
  constructor
  · intro h
    injection h with h
    exact (List.map_inj_right (fun x y z => eW_inj.mp z)).mp h
  · intro h
    rw [h]
theorem eq_eW (a b : Wo) : dEq (eW a) (eW b) = some (.bl (decide (a = b))) := by
  have d1 := dep_eW a
  have d2 := dep_eW b
  unfold dEq cmpOk
  rw [if_pos (by rw [Bool.and_eq_true, decide_eq_true_eq, decide_eq_true_eq]; omega)]
  congr 2
  rw [Bool.eq_iff_iff, decide_eq_true_eq, ← eW_inj]
  exact deq_iff _ _ (sd_eW a) (sd_eW b)
theorem eq_eS (a b : List Wo) : dEq (eS a) (eS b) = some (.bl (decide (a = b))) := by
  have d1 := dep_eS a
  have d2 := dep_eS b
  unfold dEq cmpOk
  rw [if_pos (by rw [Bool.and_eq_true, decide_eq_true_eq, decide_eq_true_eq]; omega)]
  congr 2
  rw [Bool.eq_iff_iff, decide_eq_true_eq, ← eS_inj]
  exact deq_iff _ _ (sd_eS a) (sd_eS b)
def par (ws : List Wo) (w : Wo) : Bool := decide (ws.count w % 2 = 1)
theorem par_app (xs ys : List Wo) (w : Wo) : par (xs ++ ys) w = (par xs w != par ys w) := by
  unfold par
  rw [List.count_append]
  by_cases a : xs.count w % 2 = 1 <;> by_cases b : ys.count w % 2 = 1 <;> simp [a, b] <;> omega
theorem par_cons (x : Wo) (xs : List Wo) (w : Wo) : par (x :: xs) w = (par xs w != decide (x = w)) := by
  unfold par
  rw [List.count_cons]
  by_cases a : xs.count w % 2 = 1 <;> by_cases b : x = w <;> simp [a, b] <;> omega
theorem par_perm {xs ys : List Wo} (h : xs.Perm ys) (w : Wo) : par xs w = par ys w := by
  unfold par
  rw [h.count_eq]
def Sm (s : List Wo) : Prop := s.Pairwise (· < ·)
theorem wlt_irr (a : Wo) : ¬ a < a := List.lt_irrefl a
theorem sm_nd {s : List Wo} (h : Sm s) : s.Nodup := by
  rw [List.nodup_iff_pairwise_ne]
  exact h.imp fun {a b} h z => by rw [z] at h; exact wlt_irr b h
theorem par_sm {s : List Wo} (h : Sm s) (w : Wo) : par s w = decide (w ∈ s) := by
  unfold par
  have nd := sm_nd h
  by_cases q : w ∈ s
  · rw [List.Nodup.count nd, if_pos q]
    simp [q]
  · rw [List.count_eq_zero.mpr q]
    simp [q]
theorem sm_uniq : ∀ {xs ys : List Wo}, Sm xs → Sm ys → (∀ a, a ∈ xs ↔ a ∈ ys) → xs = ys
  | [], [], _, _, _ => rfl
  | [], y :: ys, _, _, h => by have := (h y).mpr (by simp); cases this
  | x :: xs, [], _, _, h => by have := (h x).mp (by simp); cases this
  | x :: xs, y :: ys, h1, h2, h => by
    unfold Sm at h1 h2
    rw [List.pairwise_cons] at h1 h2
    have e : x = y := by
      rcases List.mem_cons.mp ((h x).mp (by simp)) with a | a
      · exact a
      · rcases List.mem_cons.mp ((h y).mpr (by simp)) with b | b
        · exact b.symm
        · exact absurd (List.lt_trans (h1.1 y b) (h2.1 x a)) (wlt_irr x)
    subst e
    rw [sm_uniq h1.2 h2.2 fun a => ?_]
    constructor
    · intro ha
      rcases List.mem_cons.mp ((h a).mp (by simp [ha])) with b | b
      · exact absurd (h1.1 a ha) (by rw [b]; exact wlt_irr x)
      · exact b
    · intro ha
      rcases List.mem_cons.mp ((h a).mpr (by simp [ha])) with b | b
      · exact absurd (h2.1 a ha) (by rw [b]; exact wlt_irr x)
      · exact b
theorem sm_par {xs ys : List Wo} (h1 : Sm xs) (h2 : Sm ys) (h : ∀ w, par xs w = par ys w) : xs = ys := sm_uniq h1 h2 fun a => by
  have := h a
  rw [par_sm h1, par_sm h2] at this
  by_cases q : a ∈ xs <;> by_cases r : a ∈ ys <;> simp [q, r] at this ⊢
def dedW : List Wo → List Wo
  | [] => []
  | w :: ws => if w ∈ dedW ws then dedW ws else w :: dedW ws
theorem dedW_nd : ∀ ws : List Wo, (dedW ws).Nodup
  | [] => by unfold dedW; simp
  | w :: ws => by
    rw [dedW]
    split
    · exact dedW_nd ws
    · exact List.nodup_cons.mpr ⟨by assumption, dedW_nd ws⟩
theorem dedW_mem {a : Wo} : ∀ {ws : List Wo}, a ∈ dedW ws ↔ a ∈ ws
  | [] => by unfold dedW; simp
  | w :: ws => by
    rw [dedW]
    split
    · rw [dedW_mem, List.mem_cons]
      constructor
      · exact .inr
      · rintro (rfl | h)
        · exact dedW_mem.mp (by assumption)
        · exact h
    · rw [List.mem_cons, List.mem_cons, dedW_mem]
def oddS (ws : List Wo) : List Wo := srtW ((dedW ws).filter fun w => par ws w)
theorem sm_of {ws : List Wo} (h : ws.Nodup) : Sm (srtW ws) := by
  have a := srtW_pw ws
  have b : (srtW ws).Nodup := (srtW_perm ws).nodup_iff.mpr h
  rw [List.nodup_iff_pairwise_ne] at b
  exact (a.and b).imp fun {x y} h => by
    by_cases z : x < y
    · exact z
    · exact absurd (List.le_antisymm h.1 (List.not_lt.mp z)) h.2
theorem oddS_sm (ws : List Wo) : Sm (oddS ws) := sm_of ((dedW_nd ws).filter _)
theorem par_in {ws : List Wo} {w : Wo} (h : par ws w = true) : w ∈ ws := by
  unfold par at h
  rw [decide_eq_true_eq] at h
  exact List.count_pos_iff.mp (by omega)
theorem oddS_mem {ws : List Wo} {w : Wo} : w ∈ oddS ws ↔ par ws w = true := by
  unfold oddS
  rw [(srtW_perm _).mem_iff, List.mem_filter, dedW_mem]
  exact ⟨fun h => h.2, fun h => ⟨par_in h, h⟩⟩
theorem par_oddS (ws : List Wo) (w : Wo) : par (oddS ws) w = par ws w := by
  rw [par_sm (oddS_sm ws)]
  by_cases q : par ws w = true
  · rw [q, decide_eq_true (oddS_mem.mpr q)]
  · rw [Bool.not_eq_true] at q
    rw [q, decide_eq_false (fun z => by rw [oddS_mem.mp z] at q; cases q)]
theorem odd_uniq {s ws : List Wo} (h : Sm s) (e : ∀ w, par s w = par ws w) : s = oddS ws := sm_par h (oddS_sm ws) fun w => by rw [par_oddS, e]
def prd (xs ys : List Wo) : List Wo := xs.flatMap fun a => ys.map fun b => a ++ b
theorem prd_cons (a : Wo) (xs ys : List Wo) : prd (a :: xs) ys = (ys.map fun b => a ++ b) ++ prd xs ys := rfl
theorem par_pre (a : Wo) {ys ys' : List Wo} (e : ∀ w, par ys w = par ys' w) (w : Wo) : par (ys.map fun b => a ++ b) w = par (ys'.map fun b => a ++ b) w := by
  have key : ∀ ys : List Wo, (ys.map fun b => a ++ b).count w = if w.take a.length = a then ys.count (w.drop a.length) else 0 := by
    intro ys
    induction ys with
    | nil => simp
    | cons y ys ih =>
      rw [List.map_cons, List.count_cons, List.count_cons, ih]
      by_cases q : w.take a.length = a
      · rw [if_pos q, if_pos q]
        have : (a ++ y == w) = (y == w.drop a.length) := by
          rw [Bool.eq_iff_iff, beq_iff_eq, beq_iff_eq]
          constructor
          · intro h
            rw [← h]
            simp
          · intro h
            rw [h]
            conv => lhs; lhs; rw [← q]
            exact List.take_append_drop _ _
        rw [this]
      · rw [if_neg q, if_neg q]
        have : (a ++ y == w) = false := by
          rw [beq_eq_false_iff_ne]
          intro h
          apply q
          rw [← h]
          simp
        rw [this]
        rfl
  unfold par
  rw [key, key]
  by_cases q : w.take a.length = a
  · rw [if_pos q, if_pos q]
    exact e _
  · rw [if_neg q, if_neg q]
theorem par_suf (b : Wo) {xs xs' : List Wo} (e : ∀ w, par xs w = par xs' w) (w : Wo) : par (xs.map fun a => a ++ b) w = par (xs'.map fun a => a ++ b) w := by
  have key : ∀ xs : List Wo, (xs.map fun a => a ++ b).count w = if w.drop (w.length - b.length) = b then xs.count (w.take (w.length - b.length)) else 0 := by
    intro xs
    induction xs with
    | nil => simp
    | cons x xs ih =>
      rw [List.map_cons, List.count_cons, List.count_cons, ih]
      by_cases q : w.drop (w.length - b.length) = b
      · rw [if_pos q, if_pos q]
        have : (x ++ b == w) = (x == w.take (w.length - b.length)) := by
          rw [Bool.eq_iff_iff, beq_iff_eq, beq_iff_eq]
          constructor
          · intro h
            rw [← h]
            simp
          · intro h
            rw [h]
            conv => lhs; rhs; rw [← q]
            exact List.take_append_drop _ _
        rw [this]
      · rw [if_neg q, if_neg q]
        have : (x ++ b == w) = false := by
          rw [beq_eq_false_iff_ne]
          intro h
          apply q
          rw [← h]
          simp
        rw [this]
        rfl
  unfold par
  rw [key, key]
  by_cases q : w.drop (w.length - b.length) = b
  · rw [if_pos q, if_pos q]
    exact e _
  · rw [if_neg q, if_neg q]
theorem prd_nil (xs : List Wo) : prd xs [] = [] := by
  induction xs with
  | nil => rfl
  | cons a xs ih => rw [prd_cons, ih]; rfl
theorem par_prd_cr (b : Wo) (xs ys : List Wo) (w : Wo) : par (prd xs (b :: ys)) w = (par (xs.map fun a => a ++ b) w != par (prd xs ys) w) := by
  induction xs with
  | nil => rfl
  | cons a xs ih =>
    rw [prd_cons, prd_cons, par_app, par_app, ih, List.map_cons, List.map_cons, par_cons, par_cons]
    cases par (ys.map fun b => a ++ b) w <;> cases par (xs.map fun a => a ++ b) w <;> cases par (prd xs ys) w <;> cases decide (a ++ b = w) <;> rfl
def addS (a b : List Wo) : List Wo := oddS (a ++ b)
def mulS (a b : List Wo) : List Wo := oddS (prd a b)
theorem nkA_W (w : Wo) : nkA (eW w) = some w := intsA_map w
def dW (ks : List Wo) (f : Wo → Bool) : D := .nd ks (ks.map fun k => .bl (f k))
def addW (ks : List Wo) (w : Wo) : List Wo := if w ∈ ks then ks else ks ++ [w]
theorem addW_mem {ks : List Wo} {w a : Wo} : a ∈ addW ks w ↔ a ∈ ks ∨ a = w := by
  unfold addW
  split
  · constructor
    · exact .inl
    · rintro (h | rfl)
      · exact h
      · assumption
  · simp
theorem addW_nd {ks : List Wo} (h : ks.Nodup) (w : Wo) : (addW ks w).Nodup := by
  unfold addW
  split
  · exact h
  · rename_i q
    rw [List.nodup_append]
    refine ⟨h, by simp, fun a ha b hb e => ?_⟩
    simp at hb
    rw [e, hb] at ha
    exact q ha
theorem any_W (ks : List Wo) (w : Wo) : (ks.any fun j => decide (j = w)) = decide (w ∈ ks) := by
  rw [Bool.eq_iff_iff, List.any_eq_true, decide_eq_true_eq]
  constructor
  · rintro ⟨j, hj, e⟩
    exact of_decide_eq_true e ▸ hj
  · exact fun h => ⟨w, h, decide_eq_true rfl⟩
theorem zwW (w : Wo) (b : Bool) (f : Wo → Bool) : ∀ ks : List Wo, ks.zipWith (fun j x => if j = w then D.bl b else x) (ks.map fun k => D.bl (f k)) = ks.map fun k => D.bl (if k = w then b else f k)
  | [] => rfl
  | k :: ks => by
    rw [List.map_cons, List.map_cons, List.zipWith_cons_cons, zwW w b f ks]
    by_cases q : k = w
    · rw [if_pos q, if_pos q]
    · rw [if_neg q, if_neg q]
theorem dW_put (ks : List Wo) (f : Wo → Bool) (w : Wo) (b : Bool) : putL ks (ks.map fun k => D.bl (f k)) w (D.bl b) = (addW ks w, (addW ks w).map fun k => D.bl (if k = w then b else f k)) := by
  unfold putL addW
  rw [any_W]
  by_cases q : w ∈ ks
  · rw [decide_eq_true q, if_pos rfl, if_pos q, zwW]
  · rw [decide_eq_false q, if_neg (by simp), if_neg q, List.map_append]
    have : (ks.map fun k => D.bl (if k = w then b else f k)) = ks.map fun k => D.bl (f k) := List.map_congr_left fun k hk => by
      have ne : ¬ k = w := fun z => by rw [z] at hk; exact q hk
      rw [if_neg ne]
    rw [this]
    simp
theorem at_W (ks : List Wo) (f : Wo → Bool) (w : Wo) : ((ks.findIdx? fun j => decide (j = w)).bind fun j => (ks.map fun k => D.bl (f k))[j]?) = if w ∈ ks then some (.bl (f w)) else none := by
  induction ks with
  | nil => rfl
  | cons k ks ih =>
    rw [List.map_cons, List.findIdx?_cons]
    by_cases q : k = w
    · subst q
      rw [if_pos (by simp), if_pos List.mem_cons_self]
      rfl
    · rw [if_neg (by simpa using q)]
      have e : (w ∈ k :: ks) ↔ w ∈ ks := by
        rw [List.mem_cons]
        exact ⟨fun h => h.resolve_left fun z => q z.symm, .inr⟩
      have e2 : (if w ∈ k :: ks then some (D.bl (f w)) else none) = if w ∈ ks then some (D.bl (f w)) else none := by
        by_cases z : w ∈ ks
        · rw [if_pos (e.mpr z), if_pos z]
        · rw [if_neg fun y => z (e.mp y), if_neg z]
      rw [e2, ← ih]
      cases ks.findIdx? fun j => decide (j = w) with
      | none => rfl
      | some j => simp
theorem dW_get (ks : List Wo) (f : Wo → Bool) (w : Wo) : dGetN ks (ks.map fun k => D.bl (f k)) (eW w) (.bl false) = some (.bl (if w ∈ ks then f w else false)) := by
  unfold dGetN
  rw [nkA_W]
  simp only [Option.map_some]
  rw [at_W]
  by_cases q : w ∈ ks
  · rw [if_pos q, if_pos q]; rfl
  · rw [if_neg q, if_neg q]; rfl
theorem dW_ix {ks : List Wo} (f : Wo → Bool) {w : Wo} (h : w ∈ ks) : dIxN (dW ks f) (eW w) = some (.bl (f w)) := by
  have a := at_W ks f w
  rw [if_pos h] at a
  show ((nkA (eW w)).bind fun k => (ks.findIdx? fun j => decide (j = k)).bind fun j => (ks.map fun k => D.bl (f k))[j]?) = _
  rw [nkA_W]
  exact a
theorem dW_keys (ks : List Wo) : ks.map nkD = ks.map eW := rfl
theorem r_b_odd_ones_0 {α : Type} {ρ : DE} {kn : DE → Option α} {kr : D → DE → Option α} : cs b_odd_ones_0 ρ kn kr = cs (sPutN 1 (mNot (mGetN 1 (mV 2) (mC (.bl false)))) (mV 2)) ρ kn kr := rfl
theorem noLL_W (ws : List Wo) : noLL (ws.map eW) = true := by
  induction ws with
  | nil => rfl
  | cons w ws ih =>
    show (noL (eW w) && noLL (ws.map eW)) = true
    rw [ih, Bool.and_true]
    show noLL (w.map D.int) = true
    induction w with
    | nil => rfl
    | cons i w ih2 =>
      show (noL (.int i) && noLL (w.map D.int)) = true
      rw [ih2]
      rfl
theorem nd_len {α : Type} [DecidableEq α] : ∀ {xs ys : List α}, xs.Nodup → (∀ x ∈ xs, x ∈ ys) → xs.length ≤ ys.length
  | [], ys, _, _ => Nat.zero_le _
  | x :: xs, ys, h1, h2 => by
    have n := List.nodup_cons.mp h1
    have m : x ∈ ys := h2 x List.mem_cons_self
    have := nd_len (ys := ys.erase x) n.2 fun a ha => (List.mem_erase_of_ne (fun e => by rw [e] at ha; exact n.1 ha)).mpr (h2 a (List.mem_cons_of_mem _ ha))
    rw [List.length_erase_of_mem m] at this
    have p := List.length_pos_of_mem m
    simp only [List.length_cons]
    omega
theorem ct_gN {α : Type} {i : Nat} {ma mb : M} {ρ : DE} {a b : DE → Option α} : ct (mGetN i ma mb) ρ a b = ce (mGetN i ma mb) ρ fun x ρ1 => tst x (a ρ1) (b ρ1) := ct_of
theorem oo_loop {α : Type} {d0 : Option D} {kn : DE → Option α} {kr : D → DE → Option α} : ∀ (ws pre ks : List Wo) (R : Option α) (x2 : Option D), ks.Nodup → (∀ w, w ∈ ks ↔ w ∈ pre) → pre.length + ws.length ≤ 1000000 →
    (∀ ks' y2, ks'.Nodup → (∀ w, w ∈ ks' ↔ w ∈ pre ++ ws) → kn [d0, some (dW ks' (par (pre ++ ws))), y2] = R) →
    cF (gNm 2) b_odd_ones_0 (ws.map eW) [d0, some (dW ks (par pre)), x2] kn kr = R
  | [], pre, ks, R, x2, nd, hm, hb, hk => by
    have := hk ks x2 nd (fun w => by rw [List.append_nil]; exact hm w)
    rw [List.append_nil] at this
    exact this
  | w :: ws, pre, ks, R, x2, nd, hm, hb, hk => by
    have ih := fun x2 => oo_loop (d0 := d0) (kn := kn) (kr := kr) ws (pre ++ [w]) (addW ks w) R x2 (addW_nd nd w) (fun a => by rw [addW_mem, hm, List.mem_append, List.mem_singleton]) (by simp only [List.length_append, List.length_cons, List.length_nil] at hb ⊢; omega) (fun ks' y2 h1 h2 => by
      have := hk ks' y2 h1 (fun a => by rw [h2 a, List.append_assoc]; rfl)
      rw [List.append_assoc]
      exact this)
    have nw := nkA_W w
    have g := dW_get ks (par pre) w
    have p := dW_put ks (par pre) w (!(if w ∈ ks then par pre w else false))
    have f0 : (if w ∈ ks then par pre w else false) = par pre w := by
      by_cases q : w ∈ ks
      · rw [if_pos q]
      · rw [if_neg q]
        cases e : par pre w with
        | false => rfl
        | true => exact absurd ((hm w).mpr (par_in e)) q
    have fe : ((addW ks w).map fun k => D.bl (if k = w then !par pre w else par pre k)) = (addW ks w).map fun k => D.bl (par (pre ++ [w]) k) := List.map_congr_left fun k _ => by
      rw [par_app, par_cons]
      have z : par [] k = false := by unfold par; simp
      rw [z]
      by_cases q : k = w
      · rw [if_pos q, q]
        cases par pre w <;> simp
      · rw [if_neg q, decide_eq_false fun y => q y.symm]
        cases par pre k <;> rfl
    rw [f0] at g p
    rw [fe] at p
    have kl : ks.length < 16777216 := by
      have := nd_len nd fun x hx => (hm x).mp hx
      simp only [List.length_cons] at hb
      omega
    unfold dW at *
    rw [List.map_cons]
    cases q : par pre w with
    | true =>
      rw [q] at g
      rw [q, Bool.not_true] at p
      simp_arith [↓cF_cons, r_b_odd_ones_0, ct_gN, ce_getN, gN0_e, gN1_e, gN2_e, gN3_e, cs_putN, pN0_e, pN1_e, pN2_e, pN3_e, cl_keysN, kN0_e, ce_ND, nw, g, p, kl]
      exact ih _
    | false =>
      rw [q] at g
      rw [q, Bool.not_false] at p
      simp_arith [↓cF_cons, r_b_odd_ones_0, ct_gN, ce_getN, gN0_e, gN1_e, gN2_e, gN3_e, cs_putN, pN0_e, pN1_e, pN2_e, pN3_e, cl_keysN, kN0_e, ce_ND, nw, g, p, kl]
      exact ih _
theorem srt_keys {ks ws : List Wo} (nd : ks.Nodup) (hm : ∀ w, w ∈ ks ↔ w ∈ ws) : srtW (ks.filter fun k => par ws k) = oddS ws := by
  have sm : Sm (srtW (ks.filter fun k => par ws k)) := sm_of (nd.filter _)
  refine odd_uniq sm fun w => ?_
  rw [par_sm sm]
  have : w ∈ srtW (ks.filter fun k => par ws k) ↔ par ws w = true := by
    rw [(srtW_perm _).mem_iff, List.mem_filter, hm]
    exact ⟨fun h => h.2, fun h => ⟨par_in h, h⟩⟩
  cases e : par ws w with
  | true => exact decide_eq_true (this.mpr e)
  | false => exact decide_eq_false fun z => by rw [this.mp z] at e; cases e
theorem odd_ok {ws : List Wo} (hl : ws.length ≤ 1000000) : F_odd_ones [.lst (ws.map eW)] = some (eS (oddS ws), [.lst (ws.map eW)]) := by
  have d0 : D.nd [] [] = dW [] (par []) := rfl
  unfold F_odd_ones m_odd_ones
  simp_arith [ce_ND]
  rw [d0]
  refine oo_loop ws [] [] _ _ (by simp) (by simp) (by simpa using hl) fun ks y2 nd hm => ?_
  rw [List.nil_append] at hm ⊢
  have kl : ks.length ≤ ws.length := nd_len nd fun x hx => (hm x).mp hx
  have kk := dW_keys ks
  have sk := srt_keys nd hm
  have fl : (ks.filter fun k => par ws k).length ≤ 16777216 := Nat.le_trans (List.length_filter_le _ _) (by omega)
  have ms := mk_srtW fl
  have nl := noLL_W (oddS ws)
  have ed : dW ks (par ws) = .nd ks (ks.map fun k => .bl (par ws k)) := rfl
  rw [ed]
  simp_arith [cl_keysN, kN0_e, kk]
  rw [lcm_flt eW eW (fun k => par ws k) (fun k hk => by
    have ix := dW_ix (par ws) hk
    rw [ed] at ix
    refine ⟨_, _, by simp_arith! [ix]; rfl, ?_, ?_⟩ <;> rfl) (by omega)]
  simp_arith [ms, nl, sk]
  rfl
theorem r_b_multiplied_0 {α : Type} {ρ : DE} {kn : DE → Option α} {kr : D → DE → Option α} : cs b_multiplied_0 ρ kn kr = cs (sExp (mMut 2 fExt (mCons (mLc (true && (true && true)) [4] (mSeq (mV 1)) (gNm 4) mYes (m2 dCat (mV 3) (mV 4))) mNil))) ρ kn kr := rfl
theorem ne_eW (a b : List Wo) : dNe (.lst (a.map eW)) (.lst (b.map eW)) = some (.bl (decide (a ≠ b))) := by
  have h := eq_eS a b
  unfold dEq at h
  unfold dNe
  split at h
  · rename_i q
    rw [show eS a = D.lst (a.map eW) from rfl, show eS b = D.lst (b.map eW) from rfl] at q h
    rw [if_pos q]
    injection h with h
    injection h with h
    rw [h]
    by_cases z : a = b
    · simp [z]
    · simp [z]
  · cases h
theorem dcW {a b : List Wo} (h : a.length + b.length ≤ 16777216) : dCat (.lst (a.map eW)) (.lst (b.map eW)) = some (.lst ((a ++ b).map eW)) := by
  rw [r_cat (by rw [List.length_map, List.length_map]; exact h), List.map_append]
theorem dcT {a b : Wo} (h : a.length + b.length ≤ 16777216) : dCat (eW a) (eW b) = some (eW (a ++ b)) := by
  unfold eW
  rw [r_catT (by rw [List.length_map, List.length_map]; exact h), List.map_append]
theorem exW {a b : List Wo} (h : a.length + b.length ≤ 16777216) : fExt (a.map eW) [.lst (b.map eW)] = some (.non, (a ++ b).map eW) := by
  rw [r_ext (by rw [List.length_map, List.length_map]; exact h), List.map_append]
theorem added_ok {a b : List Wo} (h : a.length + b.length ≤ 1000000) : F_added [.lst (a.map eW), .lst (b.map eW)] = some (.lst ((addS a b).map eW), [.lst (a.map eW), .lst (b.map eW)]) := by
  have e1 := dcW (a := a) (b := b) (by omega)
  have e2 := odd_ok (ws := a ++ b) (by rw [List.length_append]; exact h)
  unfold F_added m_added
  simp_arith! [e1, e2]
  rfl
def Wn (n : Nat) (s : List Wo) : Prop := ∀ w ∈ s, w.length ≤ n ∧ ∀ i ∈ w, 0 ≤ i
theorem mul_lc {α : Type} {k : D → DE → Option α} {w : Wo} {ys : List Wo} {n : Nat} (hw : w.length ≤ n) (hy : Wn n ys) (hn : n ≤ 1000000) (hl : ys.length ≤ 16777216) {x0 x1 x2 y : Option D} {R : Option α} (hk : k (.lst ((ys.map fun b => w ++ b).map eW)) [x0, x1, x2, some (eW w), y] = R) :
    cP [4] (gNm 4) mYes (m2 dCat (mV 3) (mV 4)) (ys.map eW) [x0, x1, x2, some (eW w), y] (ce_lc_2 true k [x0, x1, x2, some (eW w), y]) = R := by
  rw [lcm_map eW (fun b => eW (w ++ b)) (fun b hb => ?_) hl, ← hk, List.map_map]
  · rfl
  · have e := dcT (a := w) (b := b) (by have := (hy b hb).1; omega)
    exact ⟨[x0, x1, x2, some (eW w), some (eW b)], by simp_arith! [e], rfl⟩
theorem mul_loop {α : Type} {ys : List Wo} {x0 : Option D} {n : Nat} (hn : n ≤ 1000000) (hy : Wn n ys) {kn : DE → Option α} {kr : D → DE → Option α} : ∀ (xs pre : List Wo) (R : Option α) (x3 x4 : Option D), Wn n xs → pre.length + xs.length * ys.length ≤ 1000000 → ys.length ≤ 1000000 →
    (∀ y3 y4, kn [x0, some (.lst (ys.map eW)), some (.lst ((pre ++ prd xs ys).map eW)), y3, y4] = R) →
    cF (gNm 3) b_multiplied_0 (xs.map eW) [x0, some (.lst (ys.map eW)), some (.lst (pre.map eW)), x3, x4] kn kr = R
  | [], pre, R, x3, x4, _, _, _, hk => by
    have := hk x3 x4
    rw [show prd [] ys = [] from rfl, List.append_nil] at this
    exact this
  | x :: xs, pre, R, x3, x4, hx, hl, hl2, hk => by
    have m : (x :: xs).length * ys.length = ys.length + xs.length * ys.length := by rw [List.length_cons, Nat.add_mul]; omega
    have ih := fun x3 x4 => mul_loop (x0 := x0) hn hy (kn := kn) (kr := kr) xs (pre ++ ys.map fun b => x ++ b) R x3 x4 (fun w hw => hx w (by simp [hw])) (by rw [List.length_append, List.length_map]; omega) hl2 (fun y3 y4 => by
      have := hk y3 y4
      rw [prd_cons, ← List.append_assoc] at this
      exact this)
    have e := exW (a := pre) (b := ys.map fun b => x ++ b) (by rw [List.length_map]; omega)
    rw [List.map_cons]
    simp_arith [↓cF_cons, r_b_multiplied_0]
    refine mul_lc (hx x (by simp)).1 hy hn (by omega) ?_
    simp_arith [e]
    exact ih _ _
theorem prd_len (b : List Wo) : ∀ a : List Wo, (prd a b).length = a.length * b.length
  | [] => by rw [show prd [] b = [] from rfl]; simp
  | x :: a => by
    rw [prd_cons, List.length_append, List.length_map, prd_len b a, List.length_cons, Nat.add_mul]
    omega
theorem mul_ok {a b : List Wo} {n : Nat} (hn : n ≤ 1000000) (ha : Wn n a) (hb : Wn n b) (h : a.length * b.length ≤ 1000000) (h2 : b.length ≤ 1000000) : F_multiplied [.lst (a.map eW), .lst (b.map eW)] = some (.lst ((mulS a b).map eW), [.lst (a.map eW), .lst (b.map eW)]) := by
  have pl := prd_len b a
  have e2 := odd_ok (ws := prd a b) (by omega)
  unfold F_multiplied m_multiplied
  simp_arith! []
  refine mul_loop (x0 := some (.lst (a.map eW))) hn hb a [] _ _ _ ha (by simpa using h) h2 fun y3 y4 => ?_
  rw [List.nil_append]
  simp_arith! [e2]
  rfl
theorem r_b__law_odd_0 {α : Type} {ρ : DE} {kn : DE → Option α} {kr : D → DE → Option α} : cs b__law_odd_0 ρ kn kr = cs (sIf (mAnd (m2 dNe (mV 1) (mLst mNil)) (m2 dEq (m2 dIx (mV 1) (mNeg (mC (.int 1)))) (mV 2))) (sExp (mMut 1 fPop mNil)) (sApp 1 (mV 2))) ρ kn kr := rfl
theorem last_ix {found : List D} {x : D} : atI (found ++ [x]) (-1) = some x := by
  unfold atI ixN
  have h1 : ¬ (0 : Int) ≤ -1 := by omega
  have h2 : -(((found ++ [x]).length : Nat) : Int) ≤ -1 := by simp; omega
  rw [if_neg h1, if_pos h2]
  have e : (-1 + (((found ++ [x]).length : Nat) : Int)).toNat = found.length := by
    simp
    omega
  rw [Option.bind_some, e]
  simp
theorem odd_loop {α : Type} {x0 : Option D} {kn : DE → Option α} {kr : D → DE → Option α} : ∀ (ws st : List Wo) (R : Option α) (x2 : Option D), Sm st → (∀ a ∈ st, ∀ w ∈ ws, a ≤ w) → ws.Pairwise (fun a b => a ≤ b) → st.length + ws.length ≤ 1000000 →
    (∀ st' y2, Sm st' → (∀ w, par st' w = (par st w != par ws w)) → kn [x0, some (.lst (st'.map eW)), y2] = R) →
    cF (gNm 2) b__law_odd_0 (ws.map eW) [x0, some (.lst (st.map eW)), x2] kn kr = R
  | [], st, R, x2, sm, _, _, _, hk => hk st x2 sm fun w => by
      have : par [] w = false := by unfold par; simp
      rw [this]
      cases par st w <;> rfl
  | w :: ws, st, R, x2, sm, hle, pw, hl, hk => by
    have pw2 := List.pairwise_cons.mp pw
    have q1 : dNe (.lst (st.map eW)) (.lst []) = some (.bl (decide (st ≠ []))) := ne_eW st []
    have l0 : (st.map eW).length < 16777216 := by
      simp only [List.length_cons] at hl
      rw [List.length_map]
      omega
    have push : (∀ a ∈ st, a < w) → cF (gNm 2) b__law_odd_0 (ws.map eW) [x0, some (.lst ((st ++ [w]).map eW)), some (eW w)] kn kr = R := fun hlt => by
      refine odd_loop ws (st ++ [w]) R _ ?_ ?_ pw2.2 (by simp only [List.length_append, List.length_cons, List.length_nil] at hl ⊢; omega) fun st' y2 h1 h2 => hk st' y2 h1 fun v => ?_
      · unfold Sm
        rw [List.pairwise_append]
        refine ⟨sm, by simp, fun a ha b hb => ?_⟩
        rw [List.mem_singleton] at hb
        rw [hb]
        exact hlt a ha
      · intro a ha b hb
        rcases List.mem_append.mp ha with ha | ha
        · exact hle a ha b (by simp [hb])
        · rw [List.mem_singleton] at ha
          rw [ha]
          exact pw2.1 b hb
      · rw [h2, par_app, par_cons w ws, par_cons w []]
        have : par [] v = false := by unfold par; simp
        rw [this]
        cases par st v <;> cases par ws v <;> cases decide (w = v) <;> rfl
    rcases List.eq_nil_or_concat st with rfl | ⟨s', l, rfl⟩
    · have p := push (by simp)
      simp_arith [↓cF_cons, r_b__law_odd_0, q1]
      exact p
    · rw [List.concat_eq_append] at *
      have q2 : decide (s' ++ [l] ≠ []) = true := by simp
      rw [q2] at q1
      have q3 : atI ((s' ++ [l]).map eW) (-1) = some (eW l) := by
        rw [List.map_append]
        exact last_ix
      have q4 := eq_eW l w
      by_cases z : l = w
      · subst z
        rw [decide_eq_true rfl] at q4
        have pp : fPop ((s' ++ [l]).map eW) [] = some (eW l, s'.map eW) := by
          unfold fPop
          simp
        have sm' : Sm s' := (List.pairwise_append.mp sm).1
        have := odd_loop (x0 := x0) (kn := kn) (kr := kr) ws s' R (some (eW l)) sm' (fun a ha b hb => hle a (by simp [ha]) b (by simp [hb])) pw2.2 (by simp only [List.length_append, List.length_cons, List.length_nil] at hl ⊢; omega) fun st' y2 h1 h2 => hk st' y2 h1 fun v => by
          rw [h2, par_app, par_cons l ws, par_cons l []]
          have : par [] v = false := by unfold par; simp
          rw [this]
          cases par s' v <;> cases par ws v <;> cases decide (l = v) <;> rfl
        simp_arith [↓cF_cons, r_b__law_odd_0, q1, q3, q4, pp]
        exact this
      · rw [decide_eq_false z] at q4
        have p := push (fun a ha => by
          have le := hle a ha w (by simp)
          rcases List.mem_append.mp ha with ha | ha
          · have lt : a < l := (List.pairwise_append.mp sm).2.2 a ha l (by simp)
            have le2 := hle l (by simp) w (by simp)
            by_cases y : a < w
            · exact y
            · exact absurd lt (List.not_lt.mpr (List.le_trans le2 (List.not_lt.mp y)))
          · rw [List.mem_singleton] at ha
            by_cases y : a < w
            · exact y
            · exact absurd (List.le_antisymm le (List.not_lt.mp y)) (by rw [ha]; exact z))
        rw [List.map_append] at p
        simp_arith [↓cF_cons, r_b__law_odd_0, q1, q3, q4]
        exact p
theorem lawodd_ok {ws : List Wo} (hl : ws.length ≤ 1000000) : F__law_odd [.lst (ws.map eW)] = some (.lst ((oddS ws).map eW), [.lst (ws.map eW)]) := by
  have ms := mk_srtW (ws := ws) (by omega)
  unfold F__law_odd m__law_odd
  simp_arith! [ms]
  have sl : (srtW ws).length = ws.length := (srtW_perm ws).length_eq
  refine odd_loop (srtW ws) [] _ _ (by unfold Sm; simp) (by simp) (srtW_pw ws) (by simp only [List.length_nil]; omega) fun st' y2 h1 h2 => ?_
  have e : st' = oddS ws := odd_uniq h1 fun w => by
    have : par [] w = false := by unfold par; simp
    rw [h2, this, par_perm (srtW_perm ws)]
    cases par ws w <;> rfl
  have nl := noLL_W st'
  subst e
  simp_arith [nl]
def mt0 {α : Type} (fs : List (Nat × FM)) (ml : ML) (ρ : DE) (k : D → DE → Option α) : D → Option α := fun z => match z with
  | .ins c xs => (match fs.lookup c with
    | some f => ce (mCall (fun ds => f (.ins c xs :: ds)) ml) ρ k
    | none => none)
  | _ => none
theorem mt0_e {α : Type} {f0 : FM} {ml : ML} {ρ : DE} {k : D → DE → Option α} {xs : List D} : mt0 [(0, f0)] ml ρ k (.ins 0 xs) = ce (mCall (fun ds => f0 (.ins 0 xs :: ds)) ml) ρ k := rfl
theorem ce_meth {α : Type} {fs : List (Nat × FM)} {i : Nat} {ml : ML} {ρ : DE} {k : D → DE → Option α} : ce (mMeth fs i ml) ρ k = cv ρ[i]? (mt0 fs ml ρ k) := by
  unfold ce mMeth cv
  rcases ρ[i]? with _ | _ | d
  · rfl
  · rfl
  cases d with
  | ins c xs =>
    simp only [mt0]
    cases fs.lookup c <;> rfl
  | _ => rfl
theorem ce_new0 {α : Type} {ρ : DE} {k : D → DE → Option α} : ce (mNew 0 mNil) ρ k = k (.ins 0 []) ρ := rfl
theorem ce_one {α : Type} {ρ : DE} {k : D → DE → Option α} : ce mOne ρ k = k (.lst [.tup []]) ρ := rfl
abbrev TF := Nat → Nat → List Wo
def rwL (n : Nat) (r : Nat → List Wo) : List D := (List.range n).map fun j => eS (r j)
def tbL (n : Nat) (g : TF) : List D := (List.range n).map fun i => .lst (rwL n (g i))
def tbD (n : Nat) (g : TF) : D := .lst (tbL n g)
theorem rwL_len (n : Nat) (r : Nat → List Wo) : (rwL n r).length = n := by simp [rwL]
theorem tbL_len (n : Nat) (g : TF) : (tbL n g).length = n := by simp [tbL]
theorem rw_get {n : Nat} (r : Nat → List Wo) {j : Nat} (h : j < n) : (rwL n r)[j]? = some (eS (r j)) := by
  unfold rwL
  rw [List.getElem?_map, List.getElem?_range h]
  rfl
theorem tb_get {n : Nat} (g : TF) {i : Nat} (h : i < n) : (tbL n g)[i]? = some (.lst (rwL n (g i))) := by
  unfold tbL
  rw [List.getElem?_map, List.getElem?_range h]
  rfl
theorem rw_at {n : Nat} (r : Nat → List Wo) {j : Nat} (h : j < n) : atI (rwL n r) (j : Int) = some (eS (r j)) := by
  rw [at_nn (by rw [rwL_len]; exact h), rw_get r h]
theorem tb_at {n : Nat} (g : TF) {i : Nat} (h : i < n) : atI (tbL n g) (i : Int) = some (.lst (rwL n (g i))) := by
  rw [at_nn (by rw [tbL_len]; exact h), tb_get g h]
def put (g : TF) (a b : Nat) (v : List Wo) : TF := fun i j => if i = a ∧ j = b then v else g i j
theorem tb_put {n : Nat} (g : TF) {a b : Nat} (v : List Wo) (h1 : a < n) (h2 : b < n) : (tbL n g).set a (.lst ((rwL n (g a)).set b (eS v))) = tbL n (put g a b v) := by
  refine List.ext_getElem? fun i => ?_
  rw [List.getElem?_set]
  by_cases e : a = i
  · subst e
    rw [if_pos rfl, if_pos (by rw [tbL_len]; exact h1), tb_get _ h1]
    congr 2
    refine List.ext_getElem? fun j => ?_
    rw [List.getElem?_set]
    by_cases e : b = j
    · subst e
      rw [if_pos rfl, if_pos (by rw [rwL_len]; exact h2), rw_get _ h2]
      unfold put
      rw [if_pos ⟨rfl, rfl⟩]
    · rw [if_neg e]
      by_cases hj : j < n
      · rw [rw_get _ hj, rw_get _ hj]
        unfold put
        rw [if_neg fun z => e z.2.symm]
      · rw [List.getElem?_eq_none (by rw [rwL_len]; omega), List.getElem?_eq_none (by rw [rwL_len]; omega)]
  · rw [if_neg e]
    by_cases hi : i < n
    · rw [tb_get _ hi, tb_get _ hi]
      congr 3
      funext j
      unfold put
      rw [if_neg fun z => e z.1.symm]
    · rw [List.getElem?_eq_none (by rw [tbL_len]; omega), List.getElem?_eq_none (by rw [tbL_len]; omega)]
theorem tb_ext {n : Nat} {g h : TF} (e : ∀ i j, i < n → j < n → g i j = h i j) : tbL n g = tbL n h := by
  unfold tbL rwL
  refine List.map_congr_left fun i hi => ?_
  congr 1
  exact List.map_congr_left fun j hj => by rw [e i j (List.mem_range.mp hi) (List.mem_range.mp hj)]
theorem set2_ok {α : Type} {i n a b : Nat} {m ma mb : M} {ρ : DE} {g : TF} (v : List Wo) {kn : DE → Option α} {kr : D → DE → Option α} (hi : ρ[i]? = some (some (tbD n g))) (h1 : a < n) (h2 : b < n)
    (hm : ∀ k : D → DE → Option α, ce m ρ k = k (eS v) ρ) (ha : ∀ k : D → DE → Option α, ce ma ρ k = k (.int (a : Nat)) ρ) (hb : ∀ k : D → DE → Option α, ce mb ρ k = k (.int (b : Nat)) ρ) :
    cs (sSet2 i m ma mb) ρ kn kr = kn (ρ.set i (some (tbD n (put g a b v)))) := by
  have e1 : ixN (tbL n g).length (a : Int) = some a := by rw [tbL_len]; exact ix_nn h1
  have e2 := tb_get g h1
  have e3 : ixN (rwL n (g a)).length (b : Int) = some b := by rw [rwL_len]; exact ix_nn h2
  rw [cs_set2, hm, hi]
  unfold tbD
  simp only [cv, onL, ha, onI, e1, bo, e2, hb, e3]
  rw [tb_put g v h1 h2]
theorem nought_ok : F_Sums_nought [.ins 0 []] = some (eS [], [.ins 0 []]) := by
  unfold F_Sums_nought m_Sums_nought
  simp_arith []
  rfl
theorem one_ok' : F_Sums_one [.ins 0 []] = some (eS [[]], [.ins 0 []]) := by
  unfold F_Sums_one m_Sums_one
  simp_arith [ce_one]
  rfl
theorem name_ok (t : Int) : F_Sums_of_name [.ins 0 [], .int t] = some (eS [[t]], [.ins 0 [], .int t]) := by
  unfold F_Sums_of_name m_Sums_of_name
  simp_arith []
  rfl
theorem plus_ok {a b : List Wo} (h : a.length + b.length ≤ 1000000) : F_Sums_plus [.ins 0 [], eS a, eS b] = some (eS (addS a b), [.ins 0 [], eS a, eS b]) := by
  have e := added_ok h
  unfold F_Sums_plus m_Sums_plus eS at *
  simp_arith [e]
theorem times_ok {a b : List Wo} {n : Nat} (hn : n ≤ 1000000) (ha : Wn n a) (hb : Wn n b) (h : a.length * b.length ≤ 1000000) (h2 : b.length ≤ 1000000) : F_Sums_times [.ins 0 [], eS a, eS b] = some (eS (mulS a b), [.ins 0 [], eS a, eS b]) := by
  have e := mul_ok hn ha hb h h2
  unfold F_Sums_times m_Sums_times eS at *
  simp_arith [e]
def flW (h : TF) (W : List (Nat × Nat)) (V : TF) : TF := fun i j => if (i, j) ∈ W then V i j else h i j
theorem flW_nil (h V : TF) : flW h [] V = h := by
  funext i j
  unfold flW
  rw [if_neg (by simp)]
theorem flW_put (h V : TF) (W : List (Nat × Nat)) (a b : Nat) : flW (put h a b (V a b)) W V = flW h ((a, b) :: W) V := by
  funext i j
  unfold flW put
  by_cases q : (i, j) ∈ W
  · rw [if_pos q, if_pos (List.mem_cons_of_mem _ q)]
  · rw [if_neg q]
    by_cases e : i = a ∧ j = b
    · rw [if_pos e, if_pos (by rw [e.1, e.2]; exact List.mem_cons_self), e.1, e.2]
    · rw [if_neg e, if_neg fun z => (List.mem_cons.mp z).elim (fun y => e (by cases y; exact ⟨rfl, rfl⟩)) q]
theorem flW_flW (h V : TF) (W1 W2 : List (Nat × Nat)) : flW (flW h W1 V) W2 V = flW h (W1 ++ W2) V := by
  funext i j
  unfold flW
  by_cases q : (i, j) ∈ W2
  · rw [if_pos q, if_pos (List.mem_append_right _ q)]
  · rw [if_neg q]
    by_cases p : (i, j) ∈ W1
    · rw [if_pos p, if_pos (List.mem_append_left _ p)]
    · rw [if_neg p, if_neg fun z => (List.mem_append.mp z).elim p q]
def up (k r : Nat) : Nat := if r < k then r else r + 2
def dn (k i : Nat) : Nat := if i < k then i else i - 2
theorem dn_up (k r : Nat) : dn k (up k r) = r := by
  unfold dn up
  by_cases h : r < k
  · rw [if_pos h, if_pos h]
  · rw [if_neg h, if_neg (by omega)]
    omega
theorem up_dn {k i : Nat} (h2 : i ≠ k) (h3 : i ≠ k + 1) : up k (dn k i) = i := by
  unfold dn up
  by_cases h : i < k
  · rw [if_pos h, if_pos h]
  · rw [if_neg h, if_neg (by omega)]
    omega
theorem up_lt {k r n : Nat} (h : r < n - 2) (hk : k + 2 ≤ n) : up k r < n := by unfold up; split <;> omega
def lfN (n k : Nat) : List Nat := (List.range (n - 2)).map (up k)
theorem lf_mem {n k i : Nat} (hk : k + 2 ≤ n) : i ∈ lfN n k ↔ i < n ∧ i ≠ k ∧ i ≠ k + 1 := by
  unfold lfN
  rw [List.mem_map]
  constructor
  · rintro ⟨r, hr, rfl⟩
    have := List.mem_range.mp hr
    unfold up
    split <;> omega
  · rintro ⟨h1, h2, h3⟩
    refine ⟨dn k i, List.mem_range.mpr ?_, ?_⟩
    · unfold dn; split <;> omega
    · exact up_dn h2 h3
theorem lf_eq {n k : Nat} (hk : k + 2 ≤ n) : (List.range n).filter (fun i => !(decide (i = k) || decide (i = k + 1))) = lfN n k := by
  obtain ⟨m, rfl⟩ := Nat.exists_eq_add_of_le hk
  have e2 : k + 2 + m - 2 = k + m := by omega
  unfold lfN
  rw [e2, List.range_add, List.range_add, List.range_add, List.filter_append, List.filter_append, List.map_append]
  have f1 : (List.range k).filter (fun i => !(decide (i = k) || decide (i = k + 1))) = (List.range k).map (up k) := by
    rw [List.filter_eq_self.mpr]
    · conv => lhs; rw [← List.map_id (List.range k)]
      refine List.map_congr_left fun i hi => ?_
      have := List.mem_range.mp hi
      unfold up
      rw [if_pos this]
      rfl
    · intro i hi
      have := List.mem_range.mp hi
      simp
      omega
  have f2 : ((List.range 2).map (k + ·)).filter (fun i => !(decide (i = k) || decide (i = k + 1))) = [] := by
    rw [List.filter_eq_nil_iff]
    intro i hi
    obtain ⟨j, hj, rfl⟩ := List.mem_map.mp hi
    have := List.mem_range.mp hj
    simp
    omega
  have f3 : ((List.range m).map (k + 2 + ·)).filter (fun i => !(decide (i = k) || decide (i = k + 1))) = ((List.range m).map (k + ·)).map (up k) := by
    rw [List.filter_eq_self.mpr]
    · rw [List.map_map]
      refine List.map_congr_left fun i hi => ?_
      show k + 2 + i = up k (k + i)
      unfold up
      rw [if_neg (by omega)]
      omega
    · intro i hi
      obtain ⟨j, hj, rfl⟩ := List.mem_map.mp hi
      simp
      omega
  rw [f1, f2, f3, List.append_nil]
theorem ni2 (i a b : Int) : dNi (.int i) (.tup [.int a, .int b]) = some (.bl (!(decide (i = a) || decide (i = b)))) := by
  have e : ∀ x y : Int, PyData.eqv (PyData.int y) (PyData.int x) = decide (x = y) := fun x y => by
    by_cases q : x = y
    · subst q; simp [PyData.eqv]
    · have : ¬ y = x := fun z => q z.symm
      simp [PyData.eqv, q, this]
  have d0 : ∀ x : D, x = .int a ∨ x = .int b → dep x ≤ 0 := fun x hx => by rcases hx with rfl | rfl <;> exact Nat.le_of_eq (dep_atom rfl)
  have dp : (decide (depL [D.int a, .int b] ≤ 60) && decide (dep (.int i) ≤ 60)) = true := by
    have h2 : dep (D.int i) = 0 := dep_atom rfl
    have h3 : depL [D.int a, .int b] ≤ 0 := depL_le fun d hd => by
      simp only [List.mem_cons, List.not_mem_nil, or_false] at hd
      exact d0 d hd
    rw [decide_eq_true (by omega), decide_eq_true (by omega)]
    rfl
  show (if (decide (depL [D.int a, .int b] ≤ 60) && decide (dep (.int i) ≤ 60)) = true then some (D.bl (if true then !inL (.int i) [.int a, .int b] else inL (.int i) [.int a, .int b])) else none) = _
  rw [if_pos dp]
  simp only [if_true]
  congr 2
  unfold inL
  simp [pyL, pyD, e, Bool.or_comm]
theorem rngD_nat (n : Nat) : rngD 0 n = (List.range n).map fun k => D.int (k : Nat) := by
  unfold rngD
  refine List.map_congr_left fun i _ => ?_
  rw [Int.zero_add]
theorem empty_ok {n : Nat} (h : n ≤ 1000) : F_empty_table [.ins 0 [], .int (n : Nat)] = some (tbD n fun _ _ => [], [.ins 0 [], .int (n : Nat)]) := by
  have no := nought_ok
  have lim : lim62 ((n : Nat) : Int) = true := lim62_of (by omega) (by omega)
  have tn : Int.toNat ((n : Nat) : Int) = n := by omega
  have rl : ∀ y : Option D, (List.range n).map (fun _ => eS []) = rwL n fun _ => [] := fun _ => rfl
  unfold F_empty_table m_empty_table
  simp_arith [lim, tn]
  rw [rngD_nat, lcm_map (fun k : Nat => D.int (k : Nat)) (fun _ => .lst (rwL n fun _ => [])) (fun i _ => ?_) (by simp; omega)]
  · simp_arith []
    rfl
  · refine ⟨[some (.ins 0 []), some (.int (n : Nat)), some (.int (i : Nat)), none], ?_, rfl⟩
    show cp1 _ _ _ _ _ _ = _
    simp_arith [lim, tn]
    rw [rngD_nat, lcm_map (fun k : Nat => D.int (k : Nat)) (fun _ => eS []) (fun j _ => by
      refine ⟨_, by simp_arith! [ce_meth, mt0_e, no]; rfl, ?_⟩; rfl) (by simp; omega)]
    simp_arith []
    rfl
def bornG (k : Nat) (g : TF) : TF := fun i j => if i = k ∨ i = k + 1 ∨ j = k ∨ j = k + 1 then [] else g (dn k i) (dn k j)
theorem r_b_born_table_0 {α : Type} {ρ : DE} {kn : DE → Option α} {kr : D → DE → Option α} : cs b_born_table_0 ρ kn kr = cs (sSet2 4 (m2 dIxP (m2 dIxP (mV 1) (mV 6)) (mV 9)) (mV 7) (mV 10)) ρ kn kr := rfl
theorem r_b_born_table_1 {α : Type} {ρ : DE} {kn : DE → Option α} {kr : D → DE → Option α} : cs b_born_table_1 ρ kn kr = cs (sFor (mEnum (mCons (mV 5) mNil)) (gTp (gsCons (gNm 9) (gsCons (gNm 10) gsNil))) b_born_table_0) ρ kn kr := rfl
def upT (k r : Nat) : D := .tup [.int (r : Nat), .int (up k r : Nat)]
theorem lf_enum (n k : Nat) : enumD ((lfN n k).map fun i => D.int (i : Nat)) = (List.range (n - 2)).map (upT k) := by
  rw [enumD_eq]
  have l : ((lfN n k).map fun i => D.int (i : Nat)).length = n - 2 := by simp [lfN]
  rw [l]
  refine List.map_congr_left fun r hr => ?_
  have hr := List.mem_range.mp hr
  unfold lfN upT
  rw [List.map_map, List.getElem?_map, List.getElem?_range hr]
  rfl
theorem born_0 {α : Type} {n k r : Nat} (hk : k + 2 ≤ n) (hr : r < n - 2) {g : TF} {d0 d2 d3 d5 d8 : Option D} {kn : DE → Option α} {kr : D → DE → Option α} : ∀ (cs_ : List Nat) (h : TF) (R : Option α) (x9 x10 : Option D), (∀ c ∈ cs_, c < n - 2) →
    (∀ y9 y10, kn [d0, some (tbD (n - 2) g), d2, d3, some (tbD n (flW h (cs_.map fun c => (up k r, up k c)) (bornG k g))), d5, some (.int (r : Nat)), some (.int (up k r : Nat)), d8, y9, y10] = R) →
    cF (gTp (gsCons (gNm 9) (gsCons (gNm 10) gsNil))) b_born_table_0 (cs_.map (upT k)) [d0, some (tbD (n - 2) g), d2, d3, some (tbD n h), d5, some (.int (r : Nat)), some (.int (up k r : Nat)), d8, x9, x10] kn kr = R
  | [], h, R, x9, x10, _, hk' => by
    have := hk' x9 x10
    rw [List.map_nil, flW_nil] at this
    exact this
  | c :: cs_, h, R, x9, x10, hc, hk' => by
    have ih := fun y9 y10 => born_0 hk hr (g := g) (d0 := d0) (d2 := d2) (d3 := d3) (d5 := d5) (d8 := d8) (kn := kn) (kr := kr) cs_ (put h (up k r) (up k c) (bornG k g (up k r) (up k c))) R y9 y10 (fun y hy => hc y (by simp [hy])) (fun y9 y10 => by rw [flW_put]; exact hk' y9 y10)
    have hc0 := hc c (by simp)
    have t1 := tb_at g hr
    have t2 := rw_at (n := n - 2) (g r) hc0
    have v : bornG k g (up k r) (up k c) = g r c := by
      unfold bornG
      rw [if_neg (by unfold up; split <;> split <;> omega), dn_up, dn_up]
    rw [v] at ih
    rw [List.map_cons, cF_cons]
    show cs b_born_table_0 [d0, some (tbD (n - 2) g), d2, d3, some (tbD n h), d5, some (.int (r : Nat)), some (.int (up k r : Nat)), d8, some (.int (c : Nat)), some (.int (up k c : Nat))] _ kr = R
    rw [r_b_born_table_0, set2_ok (n := n) (a := up k r) (b := up k c) (g := h) (g r c) rfl (up_lt hr hk) (up_lt hc0 hk) (fun k' => by unfold tbD; simp_arith [t1, t2]) (fun k' => by simp_arith []) (fun k' => by simp_arith [])]
    exact ih _ _
theorem born_1 {α : Type} {n k : Nat} (hk : k + 2 ≤ n) {g : TF} {d0 d2 d3 d8 : Option D} {kn : DE → Option α} {kr : D → DE → Option α} : ∀ (rs : List Nat) (h : TF) (R : Option α) (x6 x7 x9 x10 : Option D), (∀ c ∈ rs, c < n - 2) →
    (∀ y6 y7 y9 y10, kn [d0, some (tbD (n - 2) g), d2, d3, some (tbD n (flW h (rs.flatMap fun r => (List.range (n - 2)).map fun c => (up k r, up k c)) (bornG k g))), some (.lst ((lfN n k).map fun i => D.int (i : Nat))), y6, y7, d8, y9, y10] = R) →
    cF (gTp (gsCons (gNm 6) (gsCons (gNm 7) gsNil))) b_born_table_1 (rs.map (upT k)) [d0, some (tbD (n - 2) g), d2, d3, some (tbD n h), some (.lst ((lfN n k).map fun i => D.int (i : Nat))), x6, x7, d8, x9, x10] kn kr = R
  | [], h, R, x6, x7, x9, x10, _, hk' => by
    have := hk' x6 x7 x9 x10
    rw [List.flatMap_nil, flW_nil] at this
    exact this
  | r :: rs, h, R, x6, x7, x9, x10, hr, hk' => by
    have ih := fun y6 y7 y9 y10 => born_1 hk (g := g) (d0 := d0) (d2 := d2) (d3 := d3) (d8 := d8) (kn := kn) (kr := kr) rs (flW h ((List.range (n - 2)).map fun c => (up k r, up k c)) (bornG k g)) R y6 y7 y9 y10 (fun y hy => hr y (by simp [hy])) (fun y6 y7 y9 y10 => by
      rw [flW_flW, ← List.flatMap_cons (xs := rs) (x := r) (f := fun r => (List.range (n - 2)).map fun c => (up k r, up k c))]
      exact hk' y6 y7 y9 y10)
    have hr0 := hr r (by simp)
    have en := lf_enum n k
    rw [List.map_cons, cF_cons]
    show cs b_born_table_1 [d0, some (tbD (n - 2) g), d2, d3, some (tbD n h), some (.lst ((lfN n k).map fun i => D.int (i : Nat))), some (.int (r : Nat)), some (.int (up k r : Nat)), d8, x9, x10] _ kr = R
    generalize hlf : (lfN n k).map (fun i => D.int (i : Nat)) = LF at *
    rw [r_b_born_table_1]
    simp_arith [en]
    exact born_0 hk hr0 (List.range (n - 2)) h R x9 x10 (fun c hc => List.mem_range.mp hc) fun y9 y10 => ih _ _ _ _
theorem lf_comp {α : Type} {n k : Nat} (hk : k + 2 ≤ n) (hn : n ≤ 1000) {ρ : DE} {v : Nat} {ke : D → DE → Option α} {c : Nat → D} 
    {mc me : M} (hc : ∀ i : Nat, i < n → ∃ ρa ρb, cp1 [v] (gNm v) mc me ρ (.int (i : Nat)) = (if (!(decide (i = k) || decide (i = k + 1))) = true then some (some (.int (i : Nat)), ρa) else some (none, ρb)) ∧ wp ρa [v] = wp ρ [v] ∧ wp ρb [v] = wp ρ [v]) :
    cP [v] (gNm v) mc me (rngD 0 n) ρ (ce_lc_2 true ke ρ) = ke (.lst ((lfN n k).map fun i => D.int (i : Nat))) ρ := by
  rw [rngD_nat, lcm_flt (fun i : Nat => D.int (i : Nat)) (fun i : Nat => D.int (i : Nat)) (fun i => !(decide (i = k) || decide (i = k + 1))) (fun i hi => hc i (List.mem_range.mp hi)) (by simp; omega), lf_eq hk]
theorem born_ok {n k : Nat} (hk : k + 2 ≤ n) (hn : n ≤ 100) (g : TF) : F_born_table [.ins 0 [], tbD (n - 2) g, .int (k : Nat)] = some (tbD n (put (bornG k g) k (k + 1) [[]]), [.ins 0 [], tbD (n - 2) g, .int (k : Nat)]) := by
  have em := empty_ok (n := n) (by omega)
  have on := one_ok'
  have en := lf_enum n k
  have lim : lim62 ((n : Nat) : Int) = true := lim62_of (by omega) (by omega)
  have tn : Int.toNat ((n : Nat) : Int) = n := by omega
  have l2 : ((tbL (n - 2) g).length : Int) + 2 = ((n : Nat) : Int) := by rw [tbL_len]; omega
  have k1 : ((k : Nat) : Int) + 1 = ((k + 1 : Nat) : Int) := by omega
  have fin : ∀ i j, i < n → j < n → flW (fun _ _ => []) ((List.range (n - 2)).flatMap fun r => (List.range (n - 2)).map fun c => (up k r, up k c)) (bornG k g) i j = bornG k g i j := fun i j hi hj => by
    unfold flW
    split
    · rfl
    · rename_i q
      unfold bornG
      split
      · rfl
      · rename_i q2
        exfalso
        refine q (List.mem_flatMap.mpr ⟨dn k i, List.mem_range.mpr (by unfold dn; split <;> omega), List.mem_map.mpr ⟨dn k j, List.mem_range.mpr (by unfold dn; split <;> omega), ?_⟩⟩)
        rw [up_dn (by omega) (by omega), up_dn (by omega) (by omega)]
  have fe := tb_ext (n := n) fin
  have T0 : tbD (n - 2) g = .lst (tbL (n - 2) g) := rfl
  have sx : ∀ (x9 x10 : Option D) (x6 x7 x8 : Option D) (kn : DE → Option (D × List D)) (kr : D → DE → Option (D × List D)),
      cs (sSet2 4 (mMeth ms_one 0 mNil) (mV 2) (m2 dAdd (mV 2) (mC (.int 1)))) [some (.ins 0 []), some (tbD (n - 2) g), some (.int (k : Nat)), some (.int (n : Nat)), some (tbD n (bornG k g)), some (.lst ((lfN n k).map fun i => D.int (i : Nat))), x6, x7, x8, x9, x10] kn kr = kn [some (.ins 0 []), some (tbD (n - 2) g), some (.int (k : Nat)), some (.int (n : Nat)), some (tbD n (put (bornG k g) k (k + 1) [[]])), some (.lst ((lfN n k).map fun i => D.int (i : Nat))), x6, x7, x8, x9, x10] := fun x9 x10 x6 x7 x8 kn kr => by
    rw [set2_ok (n := n) (a := k) (b := k + 1) (g := bornG k g) [[]] rfl (by omega) (by omega) (fun k' => by simp_arith [ce_meth, mt0_e, on]) (fun k' => by simp_arith []) (fun k' => by simp_arith [k1])]
    rfl
  unfold F_born_table m_born_table
  rw [T0]
  simp_arith [l2, em, lim, tn]
  rw [lf_comp (c := fun i => D.int (i : Nat)) hk (by omega) (fun i hi => by
    have nn := ni2 (i : Nat) (k : Nat) ((k : Nat) + 1)
    have e1 : decide (((i : Nat) : Int) = ((k : Nat) : Int)) = decide (i = k) := decide_eq_decide.mpr (by omega)
    have e2 : decide (((i : Nat) : Int) = ((k : Nat) : Int) + 1) = decide (i = k + 1) := decide_eq_decide.mpr (by omega)
    rw [e1, e2] at nn
    generalize (!(decide (i = k) || decide (i = k + 1))) = bb at nn ⊢
    refine ⟨_, _, by simp_arith! [nn]; rfl, ?_, ?_⟩ <;> rfl)]
  simp_arith [en]
  refine born_1 hk (List.range (n - 2)) _ _ _ _ _ _ (fun c hc => List.mem_range.mp hc) fun y6 y7 y9 y10 => ?_
  rw [show tbD n (flW (fun _ _ => []) ((List.range (n - 2)).flatMap fun r => (List.range (n - 2)).map fun c => (up k r, up k c)) (bornG k g)) = tbD n (bornG k g) from congrArg D.lst fe]
  rw [cs_seq_1_e, cs_seq, sx]
  simp_arith []
def crsG (k : Nat) (t : Int) (g : TF) : TF := fun i j =>
  if i = k ∧ j = k + 1 then []
  else if i = k ∧ k + 2 ≤ j then g (k + 1) j
  else if i = k + 1 ∧ k + 2 ≤ j then addS (g k j) (mulS [[t]] (g (k + 1) j))
  else if j = k + 1 ∧ i < k then g i k
  else if j = k ∧ i < k then addS (g i (k + 1)) (mulS (g i k) [[t]])
  else g i j
def Sml (n B : Nat) (g : TF) : Prop := ∀ i j, i < n → j < n → (g i j).length ≤ 200 ∧ Wn B (g i j)
theorem wn_t {t : Int} {B : Nat} (ht : 0 ≤ t) (hB : 1 ≤ B) : Wn B [[t]] := fun w hw => by
  simp only [List.mem_cons, List.not_mem_nil, or_false] at hw
  subst hw
  refine ⟨by simpa using hB, fun i hi => ?_⟩
  simp only [List.mem_cons, List.not_mem_nil, or_false] at hi
  rw [hi]
  exact ht
theorem mulS_len (a b : List Wo) : (mulS a b).length ≤ a.length * b.length := by
  unfold mulS
  refine Nat.le_trans (nd_len (sm_nd (oddS_sm _)) fun w hw => par_in (oddS_mem.mp hw)) (Nat.le_of_eq (prd_len b a))
theorem tx_l {t : Int} {B : Nat} {a : List Wo} (ht : 0 ≤ t) (hB : 1 ≤ B) (hb : B ≤ 1000000) (ha : a.length ≤ 200) (hw : Wn B a) : F_Sums_times [.ins 0 [], eS [[t]], eS a] = some (eS (mulS [[t]] a), [.ins 0 [], eS [[t]], eS a]) :=
  times_ok hb (wn_t ht hB) hw (by simp; omega) (by omega)
theorem tx_r {t : Int} {B : Nat} {a : List Wo} (ht : 0 ≤ t) (hB : 1 ≤ B) (hb : B ≤ 1000000) (ha : a.length ≤ 200) (hw : Wn B a) : F_Sums_times [.ins 0 [], eS a, eS [[t]]] = some (eS (mulS a [[t]]), [.ins 0 [], eS a, eS [[t]]]) :=
  times_ok hb hw (wn_t ht hB) (by simp; omega) (by simp)
theorem px_l {t : Int} {a b : List Wo} (ha : a.length ≤ 200) (hb : b.length ≤ 200) : F_Sums_plus [.ins 0 [], eS a, eS (mulS [[t]] b)] = some (eS (addS a (mulS [[t]] b)), [.ins 0 [], eS a, eS (mulS [[t]] b)]) :=
  plus_ok (by have := mulS_len [[t]] b; simp at this; omega)
theorem px_r {t : Int} {a b : List Wo} (ha : a.length ≤ 200) (hb : b.length ≤ 200) : F_Sums_plus [.ins 0 [], eS a, eS (mulS b [[t]])] = some (eS (addS a (mulS b [[t]])), [.ins 0 [], eS a, eS (mulS b [[t]])]) :=
  plus_ok (by have := mulS_len b [[t]]; simp at this; omega)
theorem r_b_crossed_table_0 {α : Type} {ρ : DE} {kn : DE → Option α} {kr : D → DE → Option α} : cs b_crossed_table_0 ρ kn kr = cs (sSeq (sSet2 4 (m2 dIxP (m2 dIxP (mV 1) (m2 dAdd (mV 2) (mC (.int 1)))) (mV 5)) (mV 2) (mV 5)) (sSet2 4 (mMeth ms_plus 0 (mCons (m2 dIx (m2 dIx (mV 1) (mV 2)) (mV 5)) (mCons (mMeth ms_times 0 (mCons (mV 3) (mCons (m2 dIx (m2 dIx (mV 1) (m2 dAdd (mV 2) (mC (.int 1)))) (mV 5)) mNil))) mNil))) (m2 dAdd (mV 2) (mC (.int 1))) (mV 5))) ρ kn kr := rfl
theorem r_b_crossed_table_1 {α : Type} {ρ : DE} {kn : DE → Option α} {kr : D → DE → Option α} : cs b_crossed_table_1 ρ kn kr = cs (sSeq (sSet2 4 (m2 dIxP (m2 dIxP (mV 1) (mV 6)) (mV 2)) (mV 6) (m2 dAdd (mV 2) (mC (.int 1)))) (sSet2 4 (mMeth ms_plus 0 (mCons (m2 dIx (m2 dIx (mV 1) (mV 6)) (m2 dAdd (mV 2) (mC (.int 1)))) (mCons (mMeth ms_times 0 (mCons (m2 dIx (m2 dIx (mV 1) (mV 6)) (mV 2)) (mCons (mV 3) mNil))) mNil))) (mV 6) (mV 2))) ρ kn kr := rfl
section
variable {n B k : Nat} {t : Int} {g : TF} (hk : k + 2 ≤ n) (sm : Sml n B g) (ht : 0 ≤ t) (hB : 1 ≤ B) (hBb : B ≤ 1000000)
include hk sm ht hB hBb
theorem crs_0 {α : Type} {d6 d7 : Option D} {kn : DE → Option α} {kr : D → DE → Option α} : ∀ (js : List Nat) (h : TF) (R : Option α) (x5 : Option D), (∀ j ∈ js, k + 2 ≤ j ∧ j < n) →
    (∀ y5, kn [some (.ins 0 []), some (tbD n g), some (.int (k : Nat)), some (eS [[t]]), some (tbD n (flW h (js.flatMap fun j => [(k, j), (k + 1, j)]) (crsG k t g))), y5, d6, d7] = R) →
    cF (gNm 5) b_crossed_table_0 (js.map fun j => D.int (j : Nat)) [some (.ins 0 []), some (tbD n g), some (.int (k : Nat)), some (eS [[t]]), some (tbD n h), x5, d6, d7] kn kr = R
  | [], h, R, x5, _, hk' => by
    have := hk' x5
    rw [List.flatMap_nil, flW_nil] at this
    exact this
  | j :: js, h, R, x5, hj, hk' => by
    obtain ⟨j1, j2⟩ := hj j (by simp)
    have ih := fun y5 => crs_0 (d6 := d6) (d7 := d7) (kn := kn) (kr := kr) js (put (put h k j (crsG k t g k j)) (k + 1) j (crsG k t g (k + 1) j)) R y5 (fun y hy => hj y (by simp [hy])) (fun y5 => by
      rw [flW_put, flW_put]
      exact hk' y5)
    have v1 : crsG k t g k j = g (k + 1) j := by
      unfold crsG
      rw [if_neg (by omega), if_pos ⟨rfl, j1⟩]
    have v2 : crsG k t g (k + 1) j = addS (g k j) (mulS [[t]] (g (k + 1) j)) := by
      unfold crsG
      rw [if_neg (by omega), if_neg (by omega), if_pos ⟨rfl, j1⟩]
    obtain ⟨a1, a2⟩ := sm k j (by omega) j2
    obtain ⟨b1, b2⟩ := sm (k + 1) j (by omega) j2
    have t1 := tb_at g (show k < n by omega)
    have t2 := rw_at (n := n) (g k) j2
    have t3 := tb_at g (show k + 1 < n by omega)
    have t4 := rw_at (n := n) (g (k + 1)) j2
    have k1 : ((k : Nat) : Int) + 1 = ((k + 1 : Nat) : Int) := by omega
    have tm := tx_l ht hB hBb b1 b2
    have pm := px_l (t := t) a1 b1
    rw [v1, v2] at ih
    rw [List.map_cons, cF_cons]
    show cs b_crossed_table_0 [some (.ins 0 []), some (tbD n g), some (.int (k : Nat)), some (eS [[t]]), some (tbD n h), some (.int (j : Nat)), d6, d7] _ kr = R
    rw [r_b_crossed_table_0, cs_seq, set2_ok (n := n) (a := k) (b := j) (g := h) (g (k + 1) j) rfl (by omega) j2 (fun k' => by unfold tbD; simp_arith [k1, t3, t4]) (fun k' => by simp_arith []) (fun k' => by simp_arith [])]
    show cs _ [some (.ins 0 []), some (tbD n g), some (.int (k : Nat)), some (eS [[t]]), some (tbD n (put h k j (g (k + 1) j))), some (.int (j : Nat)), d6, d7] _ kr = R
    rw [set2_ok (n := n) (a := k + 1) (b := j) (g := put h k j (g (k + 1) j)) (addS (g k j) (mulS [[t]] (g (k + 1) j))) rfl (by omega) j2 (fun k' => by unfold tbD; simp_arith [ce_meth, mt0_e, k1, t1, t2, t3, t4, tm, pm]) (fun k' => by simp_arith [k1]) (fun k' => by simp_arith [])]
    exact ih _
theorem crs_1 {α : Type} {d5 d7 : Option D} {kn : DE → Option α} {kr : D → DE → Option α} : ∀ (is : List Nat) (h : TF) (R : Option α) (x6 : Option D), (∀ i ∈ is, i < k) →
    (∀ y6, kn [some (.ins 0 []), some (tbD n g), some (.int (k : Nat)), some (eS [[t]]), some (tbD n (flW h (is.flatMap fun i => [(i, k + 1), (i, k)]) (crsG k t g))), d5, y6, d7] = R) →
    cF (gNm 6) b_crossed_table_1 (is.map fun i => D.int (i : Nat)) [some (.ins 0 []), some (tbD n g), some (.int (k : Nat)), some (eS [[t]]), some (tbD n h), d5, x6, d7] kn kr = R
  | [], h, R, x6, _, hk' => by
    have := hk' x6
    rw [List.flatMap_nil, flW_nil] at this
    exact this
  | i :: is, h, R, x6, hi, hk' => by
    have i1 := hi i (by simp)
    have ih := fun y6 => crs_1 (d5 := d5) (d7 := d7) (kn := kn) (kr := kr) is (put (put h i (k + 1) (crsG k t g i (k + 1))) i k (crsG k t g i k)) R y6 (fun y hy => hi y (by simp [hy])) (fun y6 => by
      rw [flW_put, flW_put]
      exact hk' y6)
    have v1 : crsG k t g i (k + 1) = g i k := by
      unfold crsG
      rw [if_neg (by omega), if_neg (by omega), if_neg (by omega), if_pos ⟨rfl, i1⟩]
    have v2 : crsG k t g i k = addS (g i (k + 1)) (mulS (g i k) [[t]]) := by
      unfold crsG
      rw [if_neg (by omega), if_neg (by omega), if_neg (by omega), if_neg (by omega), if_pos ⟨rfl, i1⟩]
    obtain ⟨a1, a2⟩ := sm i (k + 1) (by omega) (by omega)
    obtain ⟨b1, b2⟩ := sm i k (by omega) (by omega)
    have t1 := tb_at g (show i < n by omega)
    have t2 := rw_at (n := n) (g i) (show k < n by omega)
    have t4 := rw_at (n := n) (g i) (show k + 1 < n by omega)
    have k1 : ((k : Nat) : Int) + 1 = ((k + 1 : Nat) : Int) := by omega
    have tm := tx_r ht hB hBb b1 b2
    have pm := px_r (t := t) a1 b1
    rw [v1, v2] at ih
    rw [List.map_cons, cF_cons]
    show cs b_crossed_table_1 [some (.ins 0 []), some (tbD n g), some (.int (k : Nat)), some (eS [[t]]), some (tbD n h), d5, some (.int (i : Nat)), d7] _ kr = R
    rw [r_b_crossed_table_1, cs_seq, set2_ok (n := n) (a := i) (b := k + 1) (g := h) (g i k) rfl (by omega) (by omega) (fun k' => by unfold tbD; simp_arith [t1, t2]) (fun k' => by simp_arith []) (fun k' => by simp_arith [k1])]
    show cs _ [some (.ins 0 []), some (tbD n g), some (.int (k : Nat)), some (eS [[t]]), some (tbD n (put h i (k + 1) (g i k))), d5, some (.int (i : Nat)), d7] _ kr = R
    rw [set2_ok (n := n) (a := i) (b := k) (g := put h i (k + 1) (g i k)) (addS (g i (k + 1)) (mulS (g i k) [[t]])) rfl (by omega) (by omega) (fun k' => by unfold tbD; simp_arith [ce_meth, mt0_e, k1, t1, t2, t4, tm, pm]) (fun k' => by simp_arith []) (fun k' => by simp_arith [])]
    exact ih _
omit hk sm ht hB hBb
end
theorem rngD_lo (lo m : Nat) : rngD ((lo : Nat) : Int) m = ((List.range m).map fun i => lo + i).map fun j => D.int (j : Nat) := by
  unfold rngD
  rw [List.map_map]
  refine List.map_congr_left fun i _ => ?_
  show D.int ((lo : Int) + (i : Int)) = D.int (((lo + i : Nat)) : Int)
  congr 1
theorem copy_rows {n : Nat} (hn : n ≤ 1000) (g : TF) {α : Type} {v : Nat} {ρ ρ1 : DE} {k : D → DE → Option α} (h : ∀ r : List D, ∃ ρ4, cp1 [v] (gNm v) mYes (mMk .lst (mCons (mV v) mNil)) ρ (.lst r) = some (some (.lst r), ρ4) ∧ wp ρ4 [v] = wp ρ [v]) :
    cP [v] (gNm v) mYes (mMk .lst (mCons (mV v) mNil)) (tbL n g) ρ (ce_lc_2 true k ρ1) = k (tbD n g) ρ1 := by
  have := lcm_map (fun i => D.lst (rwL n (g i))) (fun i => D.lst (rwL n (g i))) (xs := List.range n) (vs := [v]) (mg := gNm v) (mc := mYes) (me := mMk .lst (mCons (mV v) mNil)) (ρ := ρ) (ρ1 := ρ1) (k := k) (fun i _ => h _) (by simp; omega)
  exact this
theorem crossed_ok {n B k : Nat} {t : Int} {g : TF} (hk : k + 2 ≤ n) (hn : n ≤ 100) (sm : Sml n B g) (ht : 0 ≤ t) (hB : 1 ≤ B) (hBb : B ≤ 1000000) : F_crossed_table [.ins 0 [], tbD n g, .int (k : Nat), eS [[t]]] = some (tbD n (crsG k t g), [.ins 0 [], tbD n g, .int (k : Nat), eS [[t]]]) := by
  have no := nought_ok
  have k1 : ((k : Nat) : Int) + 1 = ((k + 1 : Nat) : Int) := by omega
  have k2 : ((k : Nat) : Int) + 2 = ((k + 2 : Nat) : Int) := by omega
  have T0 : ∀ g : TF, D.lst (tbL n g) = tbD n g := fun _ => rfl
  have tl : ((tbL n g).length : Int) = ((n : Nat) : Int) := by rw [tbL_len]
  have cnt : (((n : Nat) : Int) - ((k + 2 : Nat) : Int)).toNat = n - (k + 2) := by omega
  have rl := rngD_lo (k + 2) (n - (k + 2))
  have rk := rngD_nat k
  have limk : lim62 ((k : Nat) : Int) = true := lim62_of (by omega) (by omega)
  have lim2 : lim62 ((k + 2 : Nat) : Int) = true := lim62_of (by omega) (by omega)
  have limn : lim62 ((n : Nat) : Int) = true := lim62_of (by omega) (by omega)
  have tk : Int.toNat ((k : Nat) : Int) = k := by omega
  have s1 : ∀ (x5 x6 x7 : Option D) (kn : DE → Option (D × List D)) (kr : D → DE → Option (D × List D)), cs (sSet2 4 (mMeth ms_nought 0 mNil) (mV 2) (m2 dAdd (mV 2) (mC (.int 1)))) [some (.ins 0 []), some (tbD n g), some (.int (k : Nat)), some (eS [[t]]), some (tbD n g), x5, x6, x7] kn kr = kn [some (.ins 0 []), some (tbD n g), some (.int (k : Nat)), some (eS [[t]]), some (tbD n (put g k (k + 1) [])), x5, x6, x7] := fun x5 x6 x7 kn kr => by
    rw [set2_ok (n := n) (a := k) (b := k + 1) (g := g) [] rfl (by omega) (by omega) (fun k' => by simp_arith [ce_meth, mt0_e, no]) (fun k' => by simp_arith []) (fun k' => by simp_arith [k1])]
    rfl
  have fin : ∀ i j, i < n → j < n → flW (flW (put g k (k + 1) []) (((List.range (n - (k + 2))).map fun i => k + 2 + i).flatMap fun j => [(k, j), (k + 1, j)]) (crsG k t g)) ((List.range k).flatMap fun i => [(i, k + 1), (i, k)]) (crsG k t g) i j = crsG k t g i j := fun i j hi hj => by
    rw [flW_flW]
    unfold flW
    split
    · rfl
    · rename_i q
      unfold put crsG
      by_cases c1 : i = k ∧ j = k + 1
      · rw [if_pos c1, if_pos c1]
      rw [if_neg c1, if_neg c1]
      by_cases c2 : i = k ∧ k + 2 ≤ j
      · exact (q (List.mem_append_left _ (List.mem_flatMap.mpr ⟨j, List.mem_map.mpr ⟨j - (k + 2), List.mem_range.mpr (by omega), by omega⟩, by rw [c2.1]; simp⟩))).elim
      rw [if_neg c2]
      by_cases c3 : i = k + 1 ∧ k + 2 ≤ j
      · exact (q (List.mem_append_left _ (List.mem_flatMap.mpr ⟨j, List.mem_map.mpr ⟨j - (k + 2), List.mem_range.mpr (by omega), by omega⟩, by rw [c3.1]; simp⟩))).elim
      rw [if_neg c3]
      by_cases c4 : j = k + 1 ∧ i < k
      · exact (q (List.mem_append_right _ (List.mem_flatMap.mpr ⟨i, List.mem_range.mpr c4.2, by rw [c4.1]; simp⟩))).elim
      rw [if_neg c4]
      by_cases c5 : j = k ∧ i < k
      · exact (q (List.mem_append_right _ (List.mem_flatMap.mpr ⟨i, List.mem_range.mpr c5.2, by rw [c5.1]; simp⟩))).elim
      rw [if_neg c5]
  have fe : tbD n (flW (flW (put g k (k + 1) []) (((List.range (n - (k + 2))).map fun i => k + 2 + i).flatMap fun j => [(k, j), (k + 1, j)]) (crsG k t g)) ((List.range k).flatMap fun i => [(i, k + 1), (i, k)]) (crsG k t g)) = tbD n (crsG k t g) := congrArg D.lst (tb_ext fin)
  unfold F_crossed_table m_crossed_table
  rw [← T0 g]
  simp_arith []
  rw [copy_rows (by omega) g (fun r => by
    refine ⟨_, by simp_arith []; rfl, ?_⟩; rfl)]
  show cs (sSeq (sSet2 4 (mMeth ms_nought 0 mNil) (mV 2) (m2 dAdd (mV 2) (mC (.int 1)))) _) [some (.ins 0 []), some (tbD n g), some (.int (k : Nat)), some (eS [[t]]), some (tbD n g), none, none, none] _ _ = _
  rw [cs_seq, s1]
  have fl : fLen [tbD n g] = some (.int ((n : Nat) : Int)) := by
    show some (D.int ((tbL n g).length : Int)) = _
    rw [tl]
  simp_arith [k2, fl, lim2, limn, cnt, rl]
  refine crs_0 hk sm ht hB hBb _ _ _ _ (fun j hj => ?_) fun y5 => ?_
  · obtain ⟨i, hi, rfl⟩ := List.mem_map.mp hj
    have := List.mem_range.mp hi
    omega
  simp_arith [limk, tk, rk]
  refine crs_1 hk sm ht hB hBb _ _ _ _ (fun j hj => List.mem_range.mp hj) fun y6 => ?_
  simp_arith [fe]
theorem odd_len (ws : List Wo) : (oddS ws).length ≤ ws.length := nd_len (sm_nd (oddS_sm ws)) fun w hw => par_in (oddS_mem.mp hw)
theorem odd_wn {n : Nat} {ws : List Wo} (h : Wn n ws) : Wn n (oddS ws) := fun w hw => h w (par_in (oddS_mem.mp hw))
theorem wn_le {n k : Nat} (hnk : n ≤ k) {ws : List Wo} (h : Wn n ws) : Wn k ws := fun w hw => ⟨Nat.le_trans (h w hw).1 hnk, (h w hw).2⟩
theorem wn_app {n : Nat} {a b : List Wo} (h1 : Wn n a) (h2 : Wn n b) : Wn n (a ++ b) := fun w hw => (List.mem_append.mp hw).elim (h1 w) (h2 w)
theorem prd_wn {n k : Nat} {a b : List Wo} (h1 : Wn n a) (h2 : Wn k b) : Wn (n + k) (prd a b) := fun w hw => by
  unfold prd at hw
  obtain ⟨x, hx, hw⟩ := List.mem_flatMap.mp hw
  obtain ⟨y, hy, rfl⟩ := List.mem_map.mp hw
  have a1 := h1 x hx
  have a2 := h2 y hy
  refine ⟨by rw [List.length_append]; omega, fun i hi => ?_⟩
  rcases List.mem_append.mp hi with hi | hi
  · exact a1.2 i hi
  · exact a2.2 i hi
def endV (k : Nat) (t : Int) (g : TF) (i j : Nat) : List Wo := addS (g i j) (mulS (addS (g i (k + 1)) (mulS (g i k) [[t]])) (addS (g k j) (mulS [[t]] (g (k + 1) j))))
def endG (k : Nat) (t : Int) (g : TF) : TF := fun r c => if r < k ∧ k ≤ c then endV k t g r (c + 2) else g (up k r) (up k c)
theorem addS_len (a b : List Wo) : (addS a b).length ≤ a.length + b.length := by
  have := odd_len (a ++ b)
  rw [List.length_append] at this
  exact this
theorem addS_wn {n : Nat} {a b : List Wo} (h1 : Wn n a) (h2 : Wn n b) : Wn n (addS a b) := odd_wn (wn_app h1 h2)
theorem mulS_wn {n m : Nat} {a b : List Wo} (h1 : Wn n a) (h2 : Wn m b) : Wn (n + m) (mulS a b) := odd_wn (prd_wn h1 h2)
theorem ah_len {t : Int} {a b : List Wo} (ha : a.length ≤ 200) (hb : b.length ≤ 200) : (addS a (mulS b [[t]])).length ≤ 400 := by
  have h1 := addS_len a (mulS b [[t]])
  have h2 := mulS_len b [[t]]
  simp at h2
  omega
theorem be_len {t : Int} {a b : List Wo} (ha : a.length ≤ 200) (hb : b.length ≤ 200) : (addS a (mulS [[t]] b)).length ≤ 400 := by
  have h1 := addS_len a (mulS [[t]] b)
  have h2 := mulS_len [[t]] b
  simp at h2
  omega
theorem ah_wn {t : Int} {B : Nat} {a b : List Wo} (ht : 0 ≤ t) (hB : 1 ≤ B) (ha : Wn B a) (hb : Wn B b) : Wn (B + 1) (addS a (mulS b [[t]])) :=
  addS_wn (wn_le (by omega) ha) (mulS_wn hb (wn_t ht (Nat.le_refl 1)))
theorem be_wn {t : Int} {B : Nat} {a b : List Wo} (ht : 0 ≤ t) (hB : 1 ≤ B) (ha : Wn B a) (hb : Wn B b) : Wn (B + 1) (addS a (mulS [[t]] b)) :=
  addS_wn (wn_le (by omega) ha) (wn_le (by omega) (mulS_wn (wn_t ht (Nat.le_refl 1)) hb))
theorem over_ok {n B k i j : Nat} {t : Int} {g : TF} (hk : k + 2 ≤ n) (hi : i < n) (hj : j < n) (sm : Sml n B g) (ht : 0 ≤ t) (hB : 1 ≤ B) (hBb : B ≤ 100000) : F_over_end [.ins 0 [], tbD n g, .int (k : Nat), eS [[t]], .int (i : Nat), .int (j : Nat)] = some (eS (endV k t g i j), [.ins 0 [], tbD n g, .int (k : Nat), eS [[t]], .int (i : Nat), .int (j : Nat)]) := by
  obtain ⟨a1, a2⟩ := sm i (k + 1) hi (by omega)
  obtain ⟨b1, b2⟩ := sm i k hi (by omega)
  obtain ⟨c1, c2⟩ := sm k j (by omega) hj
  obtain ⟨d1, d2⟩ := sm (k + 1) j (by omega) hj
  obtain ⟨e1, e2⟩ := sm i j hi hj
  have t1 := tb_at g hi
  have t2 := rw_at (n := n) (g i) (show k + 1 < n by omega)
  have t3 := rw_at (n := n) (g i) (show k < n by omega)
  have t4 := rw_at (n := n) (g i) hj
  have t5 := tb_at g (show k < n by omega)
  have t6 := rw_at (n := n) (g k) hj
  have t7 := tb_at g (show k + 1 < n by omega)
  have t8 := rw_at (n := n) (g (k + 1)) hj
  have k1 : ((k : Nat) : Int) + 1 = ((k + 1 : Nat) : Int) := by omega
  have m1 := tx_r ht hB (by omega) b1 b2
  have p1 := px_r (t := t) a1 b1
  have m2' := tx_l ht hB (by omega) d1 d2
  have p2 := px_l (t := t) c1 d1
  have la := ah_len (t := t) a1 b1
  have lb := be_len (t := t) c1 d1
  have wa := ah_wn ht hB a2 b2
  have wb := be_wn ht hB c2 d2
  have T0 : tbD n g = .lst (tbL n g) := rfl
  unfold endV
  generalize addS (g i (k + 1)) (mulS (g i k) [[t]]) = X at *
  generalize addS (g k j) (mulS [[t]] (g (k + 1) j)) = Y at *
  have xy : X.length * Y.length ≤ 160000 := Nat.mul_le_mul la lb
  have m3 := times_ok (n := B + 1) (by omega) wa wb (by omega) (by omega)
  have ml := mulS_len X Y
  have p3 := plus_ok (a := g i j) (b := mulS X Y) (by omega)
  unfold F_over_end m_over_end
  rw [T0]
  simp_arith [ce_meth, mt0_e, k1, t1, t2, t3, t4, t5, t6, t7, t8, m1, p1, m2', p2, m3, p3]
theorem r_b_ended_table_0 {α : Type} {ρ : DE} {kn : DE → Option α} {kr : D → DE → Option α} : cs b_ended_table_0 ρ kn kr = cs (sSet2 5 (mCall F_over_end (mCons (mV 0) (mCons (mV 1) (mCons (mV 2) (mCons (mV 3) (mCons (mV 6) (mCons (m2 dAdd (mV 7) (mC (.int 2))) mNil))))))) (mV 6) (mV 7)) ρ kn kr := rfl
theorem r_b_ended_table_1 {α : Type} {ρ : DE} {kn : DE → Option α} {kr : D → DE → Option α} : cs b_ended_table_1 ρ kn kr = cs (sFor (mRng2 (mCons (mV 2) (mCons (mB fLen (mCons (mV 4) mNil)) mNil))) (gNm 7) b_ended_table_0) ρ kn kr := rfl
section
variable {n B k : Nat} {t : Int} {g : TF} (hk : k + 2 ≤ n) (hn : n ≤ 100) (sm : Sml n B g) (ht : 0 ≤ t) (hB : 1 ≤ B) (hBb : B ≤ 100000)
include hk hn sm ht hB hBb
theorem end_0 {α : Type} {r : Nat} (hr : r < k) {d4 d8 d9 d10 : Option D} {kn : DE → Option α} {kr : D → DE → Option α} : ∀ (js : List Nat) (h : TF) (R : Option α) (x7 : Option D), (∀ j ∈ js, k ≤ j ∧ j < n - 2) →
    (∀ y7, kn [some (.ins 0 []), some (tbD n g), some (.int (k : Nat)), some (eS [[t]]), d4, some (tbD (n - 2) (flW h (js.map fun j => (r, j)) (endG k t g))), some (.int (r : Nat)), y7, d8, d9, d10] = R) →
    cF (gNm 7) b_ended_table_0 (js.map fun j => D.int (j : Nat)) [some (.ins 0 []), some (tbD n g), some (.int (k : Nat)), some (eS [[t]]), d4, some (tbD (n - 2) h), some (.int (r : Nat)), x7, d8, d9, d10] kn kr = R
  | [], h, R, x7, _, hk' => by
    have := hk' x7
    rw [List.map_nil, flW_nil] at this
    exact this
  | j :: js, h, R, x7, hj, hk' => by
    obtain ⟨j1, j2⟩ := hj j (by simp)
    have ih := fun y7 => end_0 hr (d4 := d4) (d8 := d8) (d9 := d9) (d10 := d10) (kn := kn) (kr := kr) js (put h r j (endG k t g r j)) R y7 (fun y hy => hj y (by simp [hy])) (fun y7 => by
      rw [flW_put]
      exact hk' y7)
    have v1 : endG k t g r j = endV k t g r (j + 2) := by
      unfold endG
      rw [if_pos ⟨hr, j1⟩]
    have ov := over_ok hk (show r < n by omega) (show j + 2 < n by omega) sm ht hB hBb
    have k2 : ((j : Nat) : Int) + 2 = ((j + 2 : Nat) : Int) := by omega
    rw [v1] at ih
    rw [List.map_cons, cF_cons]
    show cs b_ended_table_0 [some (.ins 0 []), some (tbD n g), some (.int (k : Nat)), some (eS [[t]]), d4, some (tbD (n - 2) h), some (.int (r : Nat)), some (.int (j : Nat)), d8, d9, d10] _ kr = R
    rw [r_b_ended_table_0, set2_ok (n := n - 2) (a := r) (b := j) (g := h) (endV k t g r (j + 2)) rfl (by omega) j2 (fun k' => by simp_arith [k2, ov]) (fun k' => by simp_arith []) (fun k' => by simp_arith [])]
    exact ih _
theorem end_1 {α : Type} {d8 d9 d10 : Option D} {kn : DE → Option α} {kr : D → DE → Option α} : ∀ (rs : List Nat) (h : TF) (R : Option α) (x6 x7 : Option D), (∀ r ∈ rs, r < k) →
    (∀ y6 y7, kn [some (.ins 0 []), some (tbD n g), some (.int (k : Nat)), some (eS [[t]]), some (.lst ((lfN n k).map fun i => D.int (i : Nat))), some (tbD (n - 2) (flW h (rs.flatMap fun r => ((List.range (n - 2 - k)).map fun i => k + i).map fun j => (r, j)) (endG k t g))), y6, y7, d8, d9, d10] = R) →
    cF (gNm 6) b_ended_table_1 (rs.map fun r => D.int (r : Nat)) [some (.ins 0 []), some (tbD n g), some (.int (k : Nat)), some (eS [[t]]), some (.lst ((lfN n k).map fun i => D.int (i : Nat))), some (tbD (n - 2) h), x6, x7, d8, d9, d10] kn kr = R
  | [], h, R, x6, x7, _, hk' => by
    have := hk' x6 x7
    rw [List.flatMap_nil, flW_nil] at this
    exact this
  | r :: rs, h, R, x6, x7, hr, hk' => by
    have r1 := hr r (by simp)
    have ih := fun y6 y7 => end_1 (d8 := d8) (d9 := d9) (d10 := d10) (kn := kn) (kr := kr) rs (flW h (((List.range (n - 2 - k)).map fun i => k + i).map fun j => (r, j)) (endG k t g)) R y6 y7 (fun y hy => hr y (by simp [hy])) (fun y6 y7 => by
      rw [flW_flW, ← List.flatMap_cons (xs := rs) (x := r) (f := fun r => ((List.range (n - 2 - k)).map fun i => k + i).map fun j => (r, j))]
      exact hk' y6 y7)
    have limk : lim62 ((k : Nat) : Int) = true := lim62_of (by omega) (by omega)
    have limn : lim62 ((n - 2 : Nat) : Int) = true := lim62_of (by omega) (by omega)
    have cnt : (((n - 2 : Nat) : Int) - ((k : Nat) : Int)).toNat = n - 2 - k := by omega
    have rl := rngD_lo k (n - 2 - k)
    have ll : (((lfN n k).map fun i => D.int (i : Nat)).length : Int) = ((n - 2 : Nat) : Int) := by simp [lfN]
    rw [List.map_cons, cF_cons]
    show cs b_ended_table_1 [some (.ins 0 []), some (tbD n g), some (.int (k : Nat)), some (eS [[t]]), some (.lst ((lfN n k).map fun i => D.int (i : Nat))), some (tbD (n - 2) h), some (.int (r : Nat)), x7, d8, d9, d10] _ kr = R
    generalize hlf : (lfN n k).map (fun i => D.int (i : Nat)) = LF at *
    rw [r_b_ended_table_1]
    simp_arith [ll, limk, limn, cnt, rl]
    refine end_0 hk hn sm ht hB hBb r1 _ h R x7 (fun j hj => ?_) fun y7 => ih _ _
    obtain ⟨i, hi, rfl⟩ := List.mem_map.mp hj
    have := List.mem_range.mp hi
    omega
omit hk hn sm ht hB hBb
end
theorem lf_tab (n k : Nat) (g : TF) : ((lfN n k).map fun i => D.lst ((lfN n k).map fun j => eS (g i j))) = tbL (n - 2) fun r c => g (up k r) (up k c) := by
  unfold lfN tbL rwL
  rw [List.map_map]
  refine List.map_congr_left fun r _ => ?_
  show D.lst _ = D.lst _
  rw [List.map_map]
  rfl
theorem ended_ok {n B k : Nat} {t : Int} {g : TF} (hk : k + 2 ≤ n) (hn : n ≤ 100) (sm : Sml n B g) (ht : 0 ≤ t) (hB : 1 ≤ B) (hBb : B ≤ 100000) : F_ended_table [.ins 0 [], tbD n g, .int (k : Nat), eS [[t]]] = some (tbD (n - 2) (endG k t g), [.ins 0 [], tbD n g, .int (k : Nat), eS [[t]]]) := by
  have lim : lim62 ((n : Nat) : Int) = true := lim62_of (by omega) (by omega)
  have limk : lim62 ((k : Nat) : Int) = true := lim62_of (by omega) (by omega)
  have tn : Int.toNat ((n : Nat) : Int) = n := by omega
  have tk : Int.toNat ((k : Nat) : Int) = k := by omega
  have rk := rngD_nat k
  have fl : fLen [tbD n g] = some (.int ((n : Nat) : Int)) := by
    show some (D.int ((tbL n g).length : Int)) = _
    rw [tbL_len]
  have T0 : tbD n g = .lst (tbL n g) := rfl
  have lfl : (lfN n k).length = n - 2 := by simp [lfN]
  have fin : ∀ i j, i < n - 2 → j < n - 2 → flW (fun r c => g (up k r) (up k c)) ((List.range k).flatMap fun r => ((List.range (n - 2 - k)).map fun i => k + i).map fun j => (r, j)) (endG k t g) i j = endG k t g i j := fun i j hi hj => by
    unfold flW
    split
    · rfl
    · rename_i q
      unfold endG
      split
      · rename_i c
        refine (q (List.mem_flatMap.mpr ⟨i, List.mem_range.mpr c.1, List.mem_map.mpr ⟨j, List.mem_map.mpr ⟨j - k, List.mem_range.mpr (by omega), by omega⟩, rfl⟩⟩)).elim
      · rfl
  have fe : tbD (n - 2) (flW (fun r c => g (up k r) (up k c)) ((List.range k).flatMap fun r => ((List.range (n - 2 - k)).map fun i => k + i).map fun j => (r, j)) (endG k t g)) = tbD (n - 2) (endG k t g) := congrArg D.lst (tb_ext fin)
  unfold F_ended_table m_ended_table
  simp_arith [fl, lim, tn]
  rw [lf_comp (c := fun i => D.int (i : Nat)) hk (by omega) (fun i hi => by
    have nn := ni2 (i : Nat) (k : Nat) ((k : Nat) + 1)
    have e1 : decide (((i : Nat) : Int) = ((k : Nat) : Int)) = decide (i = k) := decide_eq_decide.mpr (by omega)
    have e2 : decide (((i : Nat) : Int) = ((k : Nat) : Int) + 1) = decide (i = k + 1) := decide_eq_decide.mpr (by omega)
    rw [e1, e2] at nn
    generalize (!(decide (i = k) || decide (i = k + 1))) = bb at nn ⊢
    refine ⟨_, _, by simp_arith! [nn]; rfl, ?_, ?_⟩ <;> rfl)]
  simp_arith []
  rw [lcm_map (fun i : Nat => D.int (i : Nat)) (fun i => D.lst ((lfN n k).map fun j => eS (g i j))) (fun i hi => ?_) (by omega)]
  · rw [lf_tab]
    show cs (sSeq _ (sRet (mV 5))) [some (.ins 0 []), some (tbD n g), some (.int (k : Nat)), some (eS [[t]]), some (.lst ((lfN n k).map fun i => D.int (i : Nat))), some (tbD (n - 2) fun r c => g (up k r) (up k c)), none, none, none, none, none] _ _ = _
    simp_arith [limk, tk, rk]
    refine end_1 hk hn sm ht hB hBb _ _ _ _ _ (fun j hj => List.mem_range.mp hj) fun y6 y7 => ?_
    simp_arith [fe]
  · have hi := (lf_mem hk).mp hi
    have t1 := tb_at g hi.1
    refine ⟨[some (.ins 0 []), some (tbD n g), some (.int (k : Nat)), some (eS [[t]]), some (.lst ((lfN n k).map fun i => D.int (i : Nat))), none, none, none, none, some (.int (i : Nat)), none], ?_, rfl⟩
    show cp1 _ _ _ _ _ _ = _
    simp_arith []
    rw [lcm_map (fun j : Nat => D.int (j : Nat)) (fun j => eS (g i j)) (fun j hj => by
      have hj := (lf_mem hk).mp hj
      have t2 := rw_at (n := n) (g i) hj.1
      refine ⟨_, by rw [T0]; simp_arith! [t1, t2]; rfl, ?_⟩; rfl) (by omega)]
    simp_arith []
theorem take_ok (g s n : Int) (hn : 0 < n) (hn2 : n < 1073741824) (hs : 0 ≤ s) (hs2 : s < 2147483647) : ∃ r g' s', F__law_take [.lst [.int g, .int s], .int n] = some (.int r, [.lst [.int g', .int s'], .int n]) ∧ 0 ≤ r ∧ r < n ∧ 0 ≤ s' ∧ s' < 2147483647 := by
  by_cases hg : 0 < g
  · refine ⟨g % n, g / n, s, ?_, Int.emod_nonneg _ (by omega), Int.emod_lt_of_pos _ hn, hs, hs2⟩
    simp [F__law_take, m__law_take, sg__law_take, ap_v, ap_c, ap_2, ap_A, ap_nil, ap_cons, ap_lst, ap_tup, ap_B, ap_call, ap_callN, ap_callO, ap_T, ap_isT, ap_not, ap_neg, ap_and, ap_or, ap_if, ap_ch, ap_seq, ap_snil, ap_sif, ap_ret, ap_retN, ap_asg, ap_exp, ap_tgt, ap_app, ap_rev, ap_set, ap_aug, ap_for, ap_forM, ap_rng1, ap_rng2, ap_mseq, ap_enum, ap_lc, ap_yes, ap_gnm, ap_gtp, ap_gnil, ap_gcons, ap_fM, ap_on, ap_oc, r_add, r_sub, r_mul, r_div, r_mod, r_pow, r_lt, r_le, r_gt, r_ge, r_eqI, r_eqS, r_neI, r_neS, r_ixL, r_ixT, r_ixR, r_ipL, r_ipT, r_len, r_lenT, r_lenR, r_abs, r_max, r_min, a_int, a_bl, a_str, a_non, t_bl, List.map_cons, List.map_nil, List.length_cons, List.length_nil, List.replicate, List.cons_append, List.nil_append, List.getElem?_cons_zero, List.getElem?_cons_succ, List.set_cons_zero, List.set_cons_succ, List.getElem?_nil, Nat.reduceSub, Nat.reduceAdd, Nat.reduceEqDiff, decide_true, decide_false, ap_mk, ap_mut, ap_swap, ap_putI, ap_ev2, ap_keys, ap_mD, ap_put, ap_get2, ap_disp, ap_dsN, ap_dsC, ap_srtD, ap_sl, ap_oS, ap_oN, r_catI, r_mkL, r_mkLT, r_mkT, ap_gtpL, atI, ixN, hg, hn, hn2]
  · have e1 : cMul s 48271 = true := cMul_r (by omega)
    have e2 : ((s * 48271 + 11) % 2147483647 / 8).natAbs < 18446744073709551616 := by omega
    refine ⟨((s * 48271 + 11) % 2147483647 / 8) ^ 3 % 2147483629 % n, g, (s * 48271 + 11) % 2147483647, ?_, Int.emod_nonneg _ (by omega), Int.emod_lt_of_pos _ hn, Int.emod_nonneg _ (by omega), Int.emod_lt_of_pos _ (by omega)⟩
    simp [F__law_take, m__law_take, sg__law_take, ap_v, ap_c, ap_2, ap_A, ap_nil, ap_cons, ap_lst, ap_tup, ap_B, ap_call, ap_callN, ap_callO, ap_T, ap_isT, ap_not, ap_neg, ap_and, ap_or, ap_if, ap_ch, ap_seq, ap_snil, ap_sif, ap_ret, ap_retN, ap_asg, ap_exp, ap_tgt, ap_app, ap_rev, ap_set, ap_aug, ap_for, ap_forM, ap_rng1, ap_rng2, ap_mseq, ap_enum, ap_lc, ap_yes, ap_gnm, ap_gtp, ap_gnil, ap_gcons, ap_fM, ap_on, ap_oc, r_add, r_sub, r_mul, r_div, r_mod, r_pow, r_lt, r_le, r_gt, r_ge, r_eqI, r_eqS, r_neI, r_neS, r_ixL, r_ixT, r_ixR, r_ipL, r_ipT, r_len, r_lenT, r_lenR, r_abs, r_max, r_min, a_int, a_bl, a_str, a_non, t_bl, List.map_cons, List.map_nil, List.length_cons, List.length_nil, List.replicate, List.cons_append, List.nil_append, List.getElem?_cons_zero, List.getElem?_cons_succ, List.set_cons_zero, List.set_cons_succ, List.getElem?_nil, Nat.reduceSub, Nat.reduceAdd, Nat.reduceEqDiff, decide_true, decide_false, ap_mk, ap_mut, ap_swap, ap_putI, ap_ev2, ap_keys, ap_mD, ap_put, ap_get2, ap_disp, ap_dsN, ap_dsC, ap_srtD, ap_sl, ap_oS, ap_oN, r_catI, r_mkL, r_mkLT, r_mkT, ap_gtpL, atI, ixN, hg, hn, e1, e2]
theorem bag_ok (ns : List Int) (a : Nat) (ha : a < 1000) : ∃ g s, F__law_bag [.rol ns, .int a] = some (.lst [.int g, .int s], [.rol ns, .int a]) ∧ 0 ≤ s ∧ s < 2147483647 := by
  have key : ∀ c : Int, (c % 2147483647 + 104729 * (a : Int) + 7).natAbs < 18446744073709551616 := fun c => by omega
  have e1 : cMul 104729 (a : Int) = true := cMul_l (by omega)
  have e2 : ((10 : Int) ^ 18) = 1000000000000000000 := by decide
  have pr : ∀ x : Int, ∃ p : Int, 0 < p ∧ p ≤ 2147483647 ∧ atI [D.int 2147483629, .int 2147483587, .int 2147483579, .int 2147483563, .int 2147483549, .int 2147483543, .int 2147483497, .int 2147483489] ((a : Int) % 8) = some (.int p) := fun x => by
    have : (a : Int) % 8 = 0 ∨ (a : Int) % 8 = 1 ∨ (a : Int) % 8 = 2 ∨ (a : Int) % 8 = 3 ∨ (a : Int) % 8 = 4 ∨ (a : Int) % 8 = 5 ∨ (a : Int) % 8 = 6 ∨ (a : Int) % 8 = 7 := by omega
    rcases this with e | e | e | e | e | e | e | e <;> rw [e] <;> exact ⟨_, by decide, by decide, rfl⟩
  obtain ⟨p, p1, p2, ep⟩ := pr 0
  have fin : ∀ c : Int, 0 ≤ (c % 2147483647 + 104729 * (a : Int) + 7) ^ 5 % p ∧ (c % 2147483647 + 104729 * (a : Int) + 7) ^ 5 % p < 2147483647 := fun c => ⟨Int.emod_nonneg _ (by omega), by
    have := Int.emod_lt_of_pos ((c % 2147483647 + 104729 * (a : Int) + 7) ^ 5) p1
    omega⟩
  have kk : ∀ c : Int, ∃ g, F__law_bag [.rol ns, .int a] = F__law_bag [.rol ns, .int a] := fun c => ⟨0, rfl⟩
  by_cases hl : a < ns.length
  · have hc : atI ns (a : Int) = some ns[a] := by rw [at_nn hl, List.getElem?_eq_getElem hl]
    generalize ns[a] = c at hc
    have hl' : (a : Int) < (ns.length : Int) := by omega
    by_cases h18 : 1000000000000000000 ≤ (if c < 0 then -c else c)
    · refine ⟨if c < 0 then -c else c, _, ?_, fin c⟩
      simp [F__law_bag, m__law_bag, sg__law_bag, ap_v, ap_c, ap_2, ap_A, ap_nil, ap_cons, ap_lst, ap_tup, ap_B, ap_call, ap_callN, ap_callO, ap_T, ap_isT, ap_not, ap_neg, ap_and, ap_or, ap_if, ap_ch, ap_seq, ap_snil, ap_sif, ap_ret, ap_retN, ap_asg, ap_exp, ap_tgt, ap_app, ap_rev, ap_set, ap_aug, ap_for, ap_forM, ap_rng1, ap_rng2, ap_mseq, ap_enum, ap_lc, ap_yes, ap_gnm, ap_gtp, ap_gnil, ap_gcons, ap_fM, ap_on, ap_oc, r_add, r_sub, r_mul, r_div, r_mod, r_pow, r_lt, r_le, r_gt, r_ge, r_eqI, r_eqS, r_neI, r_neS, r_ixL, r_ixT, r_ixR, r_ipL, r_ipT, r_len, r_lenT, r_lenR, r_abs, r_max, r_min, a_int, a_bl, a_str, a_non, t_bl, List.map_cons, List.map_nil, List.length_cons, List.length_nil, List.replicate, List.cons_append, List.nil_append, List.getElem?_cons_zero, List.getElem?_cons_succ, List.set_cons_zero, List.set_cons_succ, List.getElem?_nil, Nat.reduceSub, Nat.reduceAdd, Nat.reduceEqDiff, decide_true, decide_false, ap_mk, ap_mut, ap_swap, ap_putI, ap_ev2, ap_keys, ap_mD, ap_put, ap_get2, ap_disp, ap_dsN, ap_dsC, ap_srtD, ap_sl, ap_oS, ap_oN, r_catI, r_mkL, r_mkLT, r_mkT, ap_gtpL, hc, hl', h18, e1, e2, key c, ep, p1]
    · refine ⟨0, _, ?_, fin c⟩
      simp [F__law_bag, m__law_bag, sg__law_bag, ap_v, ap_c, ap_2, ap_A, ap_nil, ap_cons, ap_lst, ap_tup, ap_B, ap_call, ap_callN, ap_callO, ap_T, ap_isT, ap_not, ap_neg, ap_and, ap_or, ap_if, ap_ch, ap_seq, ap_snil, ap_sif, ap_ret, ap_retN, ap_asg, ap_exp, ap_tgt, ap_app, ap_rev, ap_set, ap_aug, ap_for, ap_forM, ap_rng1, ap_rng2, ap_mseq, ap_enum, ap_lc, ap_yes, ap_gnm, ap_gtp, ap_gnil, ap_gcons, ap_fM, ap_on, ap_oc, r_add, r_sub, r_mul, r_div, r_mod, r_pow, r_lt, r_le, r_gt, r_ge, r_eqI, r_eqS, r_neI, r_neS, r_ixL, r_ixT, r_ixR, r_ipL, r_ipT, r_len, r_lenT, r_lenR, r_abs, r_max, r_min, a_int, a_bl, a_str, a_non, t_bl, List.map_cons, List.map_nil, List.length_cons, List.length_nil, List.replicate, List.cons_append, List.nil_append, List.getElem?_cons_zero, List.getElem?_cons_succ, List.set_cons_zero, List.set_cons_succ, List.getElem?_nil, Nat.reduceSub, Nat.reduceAdd, Nat.reduceEqDiff, decide_true, decide_false, ap_mk, ap_mut, ap_swap, ap_putI, ap_ev2, ap_keys, ap_mD, ap_put, ap_get2, ap_disp, ap_dsN, ap_dsC, ap_srtD, ap_sl, ap_oS, ap_oN, r_catI, r_mkL, r_mkLT, r_mkT, ap_gtpL, hc, hl', h18, e1, e2, key c, ep, p1]
  · have hl' : ¬ (a : Int) < (ns.length : Int) := by omega
    refine ⟨0, _, ?_, fin 0⟩
    have k0 := key 0
    simp only [Int.zero_emod, Int.zero_add] at k0
    simp [F__law_bag, m__law_bag, sg__law_bag, ap_v, ap_c, ap_2, ap_A, ap_nil, ap_cons, ap_lst, ap_tup, ap_B, ap_call, ap_callN, ap_callO, ap_T, ap_isT, ap_not, ap_neg, ap_and, ap_or, ap_if, ap_ch, ap_seq, ap_snil, ap_sif, ap_ret, ap_retN, ap_asg, ap_exp, ap_tgt, ap_app, ap_rev, ap_set, ap_aug, ap_for, ap_forM, ap_rng1, ap_rng2, ap_mseq, ap_enum, ap_lc, ap_yes, ap_gnm, ap_gtp, ap_gnil, ap_gcons, ap_fM, ap_on, ap_oc, r_add, r_sub, r_mul, r_div, r_mod, r_pow, r_lt, r_le, r_gt, r_ge, r_eqI, r_eqS, r_neI, r_neS, r_ixL, r_ixT, r_ixR, r_ipL, r_ipT, r_len, r_lenT, r_lenR, r_abs, r_max, r_min, a_int, a_bl, a_str, a_non, t_bl, List.map_cons, List.map_nil, List.length_cons, List.length_nil, List.replicate, List.cons_append, List.nil_append, List.getElem?_cons_zero, List.getElem?_cons_succ, List.set_cons_zero, List.set_cons_succ, List.getElem?_nil, Nat.reduceSub, Nat.reduceAdd, Nat.reduceEqDiff, decide_true, decide_false, ap_mk, ap_mut, ap_swap, ap_putI, ap_ev2, ap_keys, ap_mD, ap_put, ap_get2, ap_disp, ap_dsN, ap_dsC, ap_srtD, ap_sl, ap_oS, ap_oN, r_catI, r_mkL, r_mkLT, r_mkT, ap_gtpL, hl', e1, e2, k0, ep, p1]
def OkL : Int → List D → Int → Prop
  | m, [], m' => m = m'
  | m, d :: ds, m' => ∃ k : Int, (d = .tup [.str "born", .int k] ∧ 0 ≤ k ∧ k ≤ m ∧ OkL (m + 2) ds m') ∨ (d = .tup [.str "cross", .int k] ∧ 0 ≤ k ∧ k ≤ m - 2 ∧ OkL m ds m') ∨ (d = .tup [.str "end", .int k] ∧ 0 ≤ k ∧ k ≤ m - 2 ∧ OkL (m - 2) ds m')
theorem OkL.app : ∀ {xs ys : List D} {m m1 m2 : Int}, OkL m xs m1 → OkL m1 ys m2 → OkL m (xs ++ ys) m2
  | [], ys, m, m1, m2, h1, h2 => by cases (show m = m1 from h1); exact h2
  | d :: xs, ys, m, m1, m2, h1, h2 => by
    obtain ⟨k, ⟨h3, h4, h5, h6⟩ | ⟨h3, h4, h5, h6⟩ | ⟨h3, h4, h5, h6⟩⟩ := h1
    · exact ⟨k, .inl ⟨h3, h4, h5, h6.app h2⟩⟩
    · exact ⟨k, .inr (.inl ⟨h3, h4, h5, h6.app h2⟩)⟩
    · exact ⟨k, .inr (.inr ⟨h3, h4, h5, h6.app h2⟩)⟩
theorem OkL.born {k m : Int} (h1 : 0 ≤ k) (h2 : k ≤ m) : OkL m [.tup [.str "born", .int k]] (m + 2) := ⟨k, .inl ⟨rfl, h1, h2, rfl⟩⟩
theorem OkL.cross {k m : Int} (h1 : 0 ≤ k) (h2 : k ≤ m - 2) : OkL m [.tup [.str "cross", .int k]] m := ⟨k, .inr (.inl ⟨rfl, h1, h2, rfl⟩)⟩
theorem OkL.fin {k m : Int} (h1 : 0 ≤ k) (h2 : k ≤ m - 2) : OkL m [.tup [.str "end", .int k]] (m - 2) := ⟨k, .inr (.inr ⟨rfl, h1, h2, rfl⟩)⟩
def Bg (d : D) : Prop := ∃ g s : Int, d = .lst [.int g, .int s] ∧ 0 ≤ s ∧ s < 2147483647
theorem take_bg {d : D} (h : Bg d) (n : Int) (hn : 0 < n) (hn2 : n < 1073741824) : ∃ r d', F__law_take [d, .int n] = some (.int r, [d', .int n]) ∧ 0 ≤ r ∧ r < n ∧ Bg d' := by
  obtain ⟨g, s, rfl, h1, h2⟩ := h
  obtain ⟨r, g', s', e, h3, h4, h5, h6⟩ := take_ok g s n hn hn2 h1 h2
  exact ⟨r, _, e, h3, h4, g', s', rfl, h5, h6⟩
inductive Wd where
  | b | c | e
  deriving DecidableEq, Inhabited
def Wd.s : Wd → Str
  | .b => "born"
  | .c => "cross"
  | .e => "end"
theorem s_b : Wd.s .b = "born" := rfl
theorem s_c : Wd.s .c = "cross" := rfl
theorem s_e : Wd.s .e = "end" := rfl
abbrev Lr := Wd × Int
def eL (l : Lr) : D := .tup [.str l.1.s, .int l.2]
theorem eL_mk {w : Wd} {k : Int} : eL (w, k) = .tup [.str w.s, .int k] := rfl
def mvW : Wd → Int
  | .b => 2
  | .c => 0
  | .e => -2
def mv : List Lr → Int
  | [] => 0
  | l :: L => mvW l.1 + mv L
theorem mv_app : ∀ (A B : List Lr), mv (A ++ B) = mv A + mv B
  | [], B => by simp [mv]
  | a :: A, B => by rw [List.cons_append, mv, mv, mv_app A B]; omega
def cw (w : Wd) (L : List Lr) : Nat := L.countP fun l => decide (l.1 = w)
theorem mv_cnt : ∀ L : List Lr, mv L = 2 * (cw .b L : Int) - 2 * (cw .e L : Int)
  | [] => rfl
  | (w, k) :: L => by
    rw [mv, mv_cnt L]
    unfold cw
    cases w <;> simp [mvW] <;> omega
theorem okl_c {m m' k : Int} {L : List Lr} : OkL m (((.c, k) :: L).map eL) m' ↔ 0 ≤ k ∧ k ≤ m - 2 ∧ OkL m (L.map eL) m' := by
  constructor
  · rintro ⟨k', ⟨e, a, b, h⟩ | ⟨e, a, b, h⟩ | ⟨e, a, b, h⟩⟩
    · exact absurd (congrArg (fun d => match d with | .tup [.str w, _] => w | _ => ("" : Str)) e) (show ¬ ("cross" : Str) = "born" from by decide)
    · cases e; exact ⟨a, b, h⟩
    · exact absurd (congrArg (fun d => match d with | .tup [.str w, _] => w | _ => ("" : Str)) e) (show ¬ ("cross" : Str) = "end" from by decide)
  · rintro ⟨a, b, h⟩; exact ⟨k, .inr (.inl ⟨rfl, a, b, h⟩)⟩
theorem okl_b {m m' k : Int} {L : List Lr} : OkL m (((.b, k) :: L).map eL) m' ↔ 0 ≤ k ∧ k ≤ m ∧ OkL (m + 2) (L.map eL) m' := by
  constructor
  · rintro ⟨k', ⟨e, a, b, h⟩ | ⟨e, a, b, h⟩ | ⟨e, a, b, h⟩⟩
    · cases e; exact ⟨a, b, h⟩
    · exact absurd (congrArg (fun d => match d with | .tup [.str w, _] => w | _ => ("" : Str)) e) (show ¬ ("born" : Str) = "cross" from by decide)
    · exact absurd (congrArg (fun d => match d with | .tup [.str w, _] => w | _ => ("" : Str)) e) (show ¬ ("born" : Str) = "end" from by decide)
  · rintro ⟨a, b, h⟩; exact ⟨k, .inl ⟨rfl, a, b, h⟩⟩
theorem okl_e {m m' k : Int} {L : List Lr} : OkL m (((.e, k) :: L).map eL) m' ↔ 0 ≤ k ∧ k ≤ m - 2 ∧ OkL (m - 2) (L.map eL) m' := by
  constructor
  · rintro ⟨k', ⟨e, a, b, h⟩ | ⟨e, a, b, h⟩ | ⟨e, a, b, h⟩⟩
    · exact absurd (congrArg (fun d => match d with | .tup [.str w, _] => w | _ => ("" : Str)) e) (show ¬ ("end" : Str) = "born" from by decide)
    · exact absurd (congrArg (fun d => match d with | .tup [.str w, _] => w | _ => ("" : Str)) e) (show ¬ ("end" : Str) = "cross" from by decide)
    · cases e; exact ⟨a, b, h⟩
  · rintro ⟨a, b, h⟩; exact ⟨k, .inr (.inr ⟨rfl, a, b, h⟩)⟩
theorem OkL.mv : ∀ {L : List Lr} {m m' : Int}, OkL m (L.map eL) m' → m' = m + mv L
  | [], m, m', h => by cases (show m = m' from h); show m = m + 0; omega
  | (.b, k) :: L, m, m', h => by have := (okl_b.mp h).2.2.mv; show m' = m + (2 + _); omega
  | (.c, k) :: L, m, m', h => by have := (okl_c.mp h).2.2.mv; show m' = m + (0 + _); omega
  | (.e, k) :: L, m, m', h => by have := (okl_e.mp h).2.2.mv; show m' = m + (-2 + _); omega
theorem OkL.split : ∀ {A B : List Lr} {m m' : Int}, OkL m ((A ++ B).map eL) m' → OkL m (A.map eL) (m + L_k17.mv A) ∧ OkL (m + L_k17.mv A) (B.map eL) m'
  | [], B, m, m', h => by rw [show m + L_k17.mv [] = m from Int.add_zero m]; exact ⟨rfl, h⟩
  | (.b, k) :: A, B, m, m', h => by
    obtain ⟨a, b, c⟩ := okl_b.mp h
    obtain ⟨d, e⟩ := c.split
    rw [show m + L_k17.mv ((.b, k) :: A) = m + 2 + L_k17.mv A from (Int.add_assoc m 2 _).symm]
    exact ⟨okl_b.mpr ⟨a, b, d⟩, e⟩
  | (.c, k) :: A, B, m, m', h => by
    obtain ⟨a, b, c⟩ := okl_c.mp h
    obtain ⟨d, e⟩ := c.split
    rw [show m + L_k17.mv ((.c, k) :: A) = m + L_k17.mv A by show m + (0 + _) = _; omega]
    exact ⟨okl_c.mpr ⟨a, b, d⟩, e⟩
  | (.e, k) :: A, B, m, m', h => by
    obtain ⟨a, b, c⟩ := okl_e.mp h
    obtain ⟨d, e⟩ := c.split
    rw [show m + L_k17.mv ((.e, k) :: A) = m - 2 + L_k17.mv A by show m + (-2 + _) = _; omega]
    exact ⟨okl_e.mpr ⟨a, b, d⟩, e⟩
structure Curl (L : List Lr) : Prop where
  ok : OkL 0 (L.map eL) 0
  two : 2 ≤ L.length
  ins : ∀ t, 0 < t → t < L.length → 2 ≤ mv (L.take t)
theorem Curl.put {L : List Lr} (C : Curl L) {t : Nat} (h1 : 0 < t) (h2 : t < L.length) {k : Int} (hk : 0 ≤ k) (hk2 : k < mv (L.take t)) (s : Bool) :
    Curl (L.take t ++ [(.b, k + 1 - (if s then 1 else 0)), (.c, k + (if s then 1 else 0)), (.e, k + 1 - (if s then 1 else 0))] ++ L.drop t) := by
  have m2 := C.ins t h1 h2
  have ok := C.ok
  rw [← List.take_append_drop t L] at ok
  obtain ⟨o1, o2⟩ := ok.split
  rw [Int.zero_add] at o1 o2
  generalize hm : mv (L.take t) = m at *
  refine ⟨?_, by simp; omega, fun t' q1 q2 => ?_⟩
  · rw [List.map_append, List.map_append]
    refine (o1.app ?_).app o2
    refine okl_b.mpr ⟨by split <;> omega, by split <;> omega, okl_c.mpr ⟨by split <;> omega, by split <;> omega, okl_e.mpr ⟨by split <;> omega, by split <;> omega, ?_⟩⟩⟩
    show m + 2 - 2 = m
    omega
  · have lt : (L.take t).length = t := by rw [List.length_take]; omega
    by_cases a : t' ≤ t
    · rw [List.append_assoc, List.take_append_of_le_length (by omega), List.take_take, Nat.min_eq_left a]
      exact C.ins t' q1 (by omega)
    · by_cases b : t' < t + 3
      · have : t' = t + 1 ∨ t' = t + 2 := by omega
        rcases this with rfl | rfl
        · rw [List.append_assoc, List.take_append, lt, List.take_of_length_le (by omega), show t + 1 - t = 1 by omega, mv_app, hm]
          show 2 ≤ m + (2 + 0)
          omega
        · rw [List.append_assoc, List.take_append, lt, List.take_of_length_le (by omega), show t + 2 - t = 2 by omega, mv_app, hm]
          show 2 ≤ m + (2 + (0 + 0))
          omega
      · obtain ⟨u, rfl⟩ : ∃ u, t' = t + 3 + u := ⟨t' - t - 3, by omega⟩
        rw [List.take_append, List.take_of_length_le (by simp; omega)]
        have e : t + 3 + u - (L.take t ++ [(Wd.b, k + 1 - (if s then 1 else 0)), (.c, k + (if s then 1 else 0)), (.e, k + 1 - (if s then 1 else 0))]).length = u := by simp; omega
        rw [e, mv_app, mv_app, hm]
        have := C.ins (t + u) (by omega) (by simp at q2; omega)
        rw [List.take_add, mv_app, hm] at this
        show 2 ≤ m + (2 + (0 + (-2 + 0))) + _
        omega
theorem cF_e {α : Type} {mg : MG} {mb : SM} {ds : List D} {ρ ρ' : DE} {kn : DE → Option α} {kr : D → DE → Option α} (e : itF mg mb ds ρ = some (.nx ρ')) : cF mg mb ds ρ kn kr = kn ρ' := by
  unfold cF cs
  rw [e]
theorem wd_dec (w v : Wd) : decide (w.s = v.s) = decide (w = v) := by cases w <;> cases v <;> decide
def Mx : Int → List Lr → Prop
  | m, [] => m ≤ 8
  | m, l :: L => m ≤ 8 ∧ Mx (m + mvW l.1) L
theorem mx_cnt : ∀ {L : List Lr} {m : Int}, m + 2 * (cw .b L : Int) ≤ 8 → Mx m L
  | [], m, h => by simpa [cw, Mx] using h
  | (.b, k) :: L, m, h => by
    have e : cw .b ((.b, k) :: L) = cw .b L + 1 := by unfold cw; simp
    exact ⟨by omega, mx_cnt (by show m + 2 + _ ≤ 8; omega)⟩
  | (.c, k) :: L, m, h => by
    have e : cw .b ((.c, k) :: L) = cw .b L := by unfold cw; simp
    exact ⟨by omega, mx_cnt (by show m + 0 + _ ≤ 8; omega)⟩
  | (.e, k) :: L, m, h => by
    have e : cw .b ((.e, k) :: L) = cw .b L := by unfold cw; simp
    exact ⟨by omega, mx_cnt (by show m + -2 + _ ≤ 8; omega)⟩
theorem bls_map {α : Type} (p : α → Bool) (xs : List α) : blsOf (xs.map fun x => D.bl (p x)) = some (xs.map p) := by
  induction xs with
  | nil => rfl
  | cons x xs ih =>
    simp only [List.map_cons, blsOf]
    rw [ih]
    rfl
theorem all_map {α : Type} (p : α → Bool) (xs : List α) : fAll [.lst (xs.map fun x => D.bl (p x))] = some (.bl (xs.all p)) := by
  show (blsOf _).map _ = _
  rw [bls_map]
  simp [List.all_map]
def nxG (l : Wd) (k : Nat) (t : Int) (g : TF) : TF := match l with
  | .b => put (bornG k g) k (k + 1) [[]]
  | .c => crsG k t g
  | .e => endG k t g
def nxN (l : Wd) (n : Nat) : Nat := match l with
  | .b => n + 2
  | .c => n
  | .e => n - 2
def fitN (l : Wd) (k n : Nat) : Prop := match l with
  | .b => k ≤ n
  | .c => k + 2 ≤ n
  | .e => k + 2 ≤ n
theorem behind_ok {n B k : Nat} {t : Int} {g : TF} {w : Wd} (hf : fitN w k n) (hn : n ≤ 90) (sm : Sml n B g) (ht : 0 ≤ t) (hB : 1 ≤ B) (hBb : B ≤ 100000) :
    ∃ es, F_table_behind [.ins 0 [], eL (w, ((k : Nat) : Int)), .int t, tbD n g] = some (tbD (nxN w n) (nxG w k t g), es) := by
  refine ⟨[.ins 0 [], eL (w, ((k : Nat) : Int)), .int t, tbD n g], ?_⟩
  have nm := name_ok t
  cases w with
  | b =>
    have hf : k ≤ n := hf
    have e := born_ok (n := n + 2) (k := k) (by omega) (by omega) g
    rw [Nat.add_sub_cancel] at e
    unfold F_table_behind m_table_behind
    rw [eL_mk, s_b]
    simp_arith [e]
    rfl
  | c =>
    have hf : k + 2 ≤ n := hf
    have e := crossed_ok hf (by omega) sm ht hB (by omega)
    unfold F_table_behind m_table_behind
    rw [eL_mk, s_c]
    simp_arith [ce_meth, mt0_e, nm, e]
    rfl
  | e =>
    have hf : k + 2 ≤ n := hf
    have e := ended_ok hf (by omega) sm ht hB hBb
    unfold F_table_behind m_table_behind
    rw [eL_mk, s_e]
    simp_arith [ce_meth, mt0_e, nm, e]
    rfl
def rowOk (n : Nat) (r : Nat → List Wo) : Bool := !((List.range n).any fun j => decide ((r j).length > 200))
def okT (n : Nat) (g : TF) : Bool := (List.range n).all fun i => rowOk n (g i)
theorem r_b_look_table_0 {α : Type} {ρ : DE} {kn : DE → Option α} {kr : D → DE → Option α} : cs b_look_table_0 ρ kn kr = cs (sIf (mTr (mB fAny (mCons (mLc (true && (true && true)) [2] (mSeq (mV 1)) (gNm 2) mYes (m2 dGt (mB fLen (mCons (mV 2) mNil)) (mC (.int 200)))) mNil))) sNo sNil) ρ kn kr := rfl
theorem look_row {α : Type} {n : Nat} (hn : n ≤ 100) (r : Nat → List Wo) {d0 y : Option D} {a b : DE → Option α} :
    ct (mTr (mB fAny (mCons (mLc (true && (true && true)) [2] (mSeq (mV 1)) (gNm 2) mYes (m2 dGt (mB fLen (mCons (mV 2) mNil)) (mC (.int 200)))) mNil))) [d0, some (.lst (rwL n r)), y] a b = if rowOk n r = true then b [d0, some (.lst (rwL n r)), y] else a [d0, some (.lst (rwL n r)), y] := by
  have am := any_map (fun j => decide ((r j).length > 200)) (List.range n)
  simp_arith []
  have key : ∀ {β : Type} (k : D → DE → Option β) (ρ1 : DE), cP [2] (gNm 2) mYes (m2 dGt (mB fLen (mCons (mV 2) mNil)) (mC (.int 200))) (rwL n r) [d0, some (.lst (rwL n r)), y] (ce_lc_2 true k ρ1) = k (.lst ((List.range n).map fun j => D.bl (decide ((r j).length > 200)))) ρ1 := fun k ρ1 => by
    refine lcm_map (fun j => eS (r j)) (fun j => D.bl (decide ((r j).length > 200))) (fun j _ => ?_) (by simp; omega)
    have el : fLen [eS (r j)] = some (.int ((r j).length : Nat)) := by
      show some (D.int (((r j).map eW).length : Int)) = _
      rw [List.length_map]
    have eg : decide ((((r j).length : Nat) : Int) > 200) = decide ((r j).length > 200) := decide_eq_decide.mpr (by omega)
    refine ⟨[d0, some (.lst (rwL n r)), some (eS (r j))], ?_, rfl⟩
    simp_arith! [el]
    rw [eg]
  rw [key]
  unfold rowOk
  cases e : (List.range n).any fun j => decide ((r j).length > 200) with
  | true =>
    rw [e] at am
    simp_arith [am]
    rfl
  | false =>
    rw [e] at am
    simp_arith [am]
theorem xIf_e' {mc : M} {ax bx : XM} {ρ : DE} : xIf mc ax bx ρ = ct mc ρ ax bx := by
  unfold xIf ct
  rcases mc ρ with _ | ⟨d, ρ1⟩
  · rfl
  cases d with
  | bl b => cases b <;> rfl
  | _ => rfl
theorem look_loop {n : Nat} (hn : n ≤ 100) {g : TF} {d0 : Option D} : ∀ (rs : List Nat) (x1 x2 : Option D),
    (∀ {α : Type} (kn : DE → Option α) (kr : D → DE → Option α), (rs.all fun i => rowOk n (g i)) = true → ∃ y1 y2, cF (gNm 1) b_look_table_0 (rs.map fun i => D.lst (rwL n (g i))) [d0, x1, x2] kn kr = kn [d0, y1, y2]) ∧
    ((rs.all fun i => rowOk n (g i)) = false → (∀ {α : Type} (kn : DE → Option α) (kr : D → DE → Option α), cF (gNm 1) b_look_table_0 (rs.map fun i => D.lst (rwL n (g i))) [d0, x1, x2] kn kr = none)) ∧
    (∃ ρ', itX (gNm 1) b_look_table_0 (xIf (mTr (mB fAny (mCons (mLc (true && (true && true)) [2] (mSeq (mV 1)) (gNm 2) mYes (m2 dGt (mB fLen (mCons (mV 2) mNil)) (mC (.int 200)))) mNil))) (xRaise 1) xNo) (rs.map fun i => D.lst (rwL n (g i))) [d0, x1, x2] = if (rs.all fun i => rowOk n (g i)) = true then none else some (1, ρ'))
  | [], x1, x2 => ⟨fun kn kr _ => ⟨x1, x2, rfl⟩, fun h => by simp at h, [], rfl⟩
  | i :: rs, x1, x2 => by
    obtain ⟨i1, i2, ρ', i3⟩ := look_loop hn (g := g) (d0 := d0) rs (some (.lst (rwL n (g i)))) x2
    have lr := fun {α : Type} (a b : DE → Option α) => look_row hn (g i) (d0 := d0) (y := x2) (a := a) (b := b)
    cases e : rowOk n (g i) with
    | true =>
      have al : ((i :: rs).all fun i => rowOk n (g i)) = rs.all fun i => rowOk n (g i) := by simp [e]
      rw [al]
      refine ⟨fun kn kr h => ?_, fun h => ?_, ρ', ?_⟩
      · obtain ⟨y1, y2, z⟩ := i1 kn kr h
        refine ⟨y1, y2, ?_⟩
        rw [List.map_cons, cF_cons]
        show cs b_look_table_0 [d0, some (.lst (rwL n (g i))), x2] _ kr = _
        rw [r_b_look_table_0, cs_if, lr, e]
        exact z
      · intro α kn kr
        rw [List.map_cons, cF_cons]
        show cs b_look_table_0 [d0, some (.lst (rwL n (g i))), x2] _ kr = _
        rw [r_b_look_table_0, cs_if, lr, e]
        exact i2 h kn kr
      · rw [List.map_cons, itX_c]
        show orX (xIf _ _ _ [d0, some (.lst (rwL n (g i))), x2]) (cs b_look_table_0 [d0, some (.lst (rwL n (g i))), x2] _ _) = _
        rw [xIf_e', lr, e, r_b_look_table_0, cs_if, lr, e]
        exact i3
    | false =>
      have al : ((i :: rs).all fun i => rowOk n (g i)) = false := by simp [e]
      rw [al]
      refine ⟨fun kn kr h => (by cases h), fun _ => ?_, [d0, some (.lst (rwL n (g i))), x2], ?_⟩
      · intro α kn kr
        rw [List.map_cons, cF_cons]
        show cs b_look_table_0 [d0, some (.lst (rwL n (g i))), x2] _ kr = _
        rw [r_b_look_table_0, cs_if, lr, e]
        rfl
      · rw [List.map_cons, itX_c]
        show orX (xIf _ _ _ [d0, some (.lst (rwL n (g i))), x2]) (cs b_look_table_0 [d0, some (.lst (rwL n (g i))), x2] _ _) = _
        rw [xIf_e', lr, e]
        rfl
theorem look_ok {n : Nat} (hn : n ≤ 100) {g : TF} (h : okT n g = true) : F_look_table [tbD n g] = some (.non, [tbD n g]) ∧ FX_look_table [tbD n g] = none := by
  obtain ⟨i1, i2, ρ', i3⟩ := look_loop hn (g := g) (d0 := some (tbD n g)) (List.range n) none none
  have h' : ((List.range n).all fun i => rowOk n (g i)) = true := h
  rw [if_pos h'] at i3
  have i3 : itX (gNm 1) b_look_table_0 (xIf (mTr (mB fAny (mCons (mLc (true && (true && true)) [2] (mSeq (mV 1)) (gNm 2) mYes (m2 dGt (mB fLen (mCons (mV 2) mNil)) (mC (.int 200)))) mNil))) (xRaise 1) xNo) (tbL n g) [some (.lst (tbL n g)), none, none] = none := i3
  have i1 : ∀ {α : Type} (kn : DE → Option α) (kr : D → DE → Option α), ∃ y1 y2, cF (gNm 1) b_look_table_0 (tbL n g) [some (.lst (tbL n g)), none, none] kn kr = kn [some (.lst (tbL n g)), y1, y2] := fun kn kr => i1 kn kr h'
  clear i2
  unfold tbD
  generalize tbL n g = T at *
  constructor
  · unfold F_look_table m_look_table
    simp_arith []
    obtain ⟨y1, y2, z⟩ := i1 (fo' [none] [D.lst T] D.non) (fo' [none] [D.lst T])
    rw [z]
    simp_arith []
  · unfold FX_look_table x_look_table
    rw [fx_run (show [D.lst T].length = 1 from rfl), xFor_e]
    rw [show (true && (true && true)) = true from rfl] at *
    simp_arith []
    rw [i3]
    rfl
theorem look_no {n : Nat} (hn : n ≤ 100) {g : TF} (h : okT n g = false) : F_look_table [tbD n g] = none ∧ FX_look_table [tbD n g] = some 1 := by
  obtain ⟨i1, i2, ρ', i3⟩ := look_loop hn (g := g) (d0 := some (tbD n g)) (List.range n) none none
  have h' : ((List.range n).all fun i => rowOk n (g i)) = false := h
  rw [h'] at i3
  rw [if_neg (by simp)] at i3
  have i3 : itX (gNm 1) b_look_table_0 (xIf (mTr (mB fAny (mCons (mLc (true && (true && true)) [2] (mSeq (mV 1)) (gNm 2) mYes (m2 dGt (mB fLen (mCons (mV 2) mNil)) (mC (.int 200)))) mNil))) (xRaise 1) xNo) (tbL n g) [some (.lst (tbL n g)), none, none] = some (1, ρ') := i3
  have i2 : ∀ {α : Type} (kn : DE → Option α) (kr : D → DE → Option α), cF (gNm 1) b_look_table_0 (tbL n g) [some (.lst (tbL n g)), none, none] kn kr = none := fun kn kr => i2 h' kn kr
  clear i1
  unfold tbD
  generalize tbL n g = T at *
  constructor
  · unfold F_look_table m_look_table
    simp_arith []
    exact i2 _ _
  · unfold FX_look_table x_look_table
    rw [fx_run (show [D.lst T].length = 1 from rfl), xFor_e]
    rw [show (true && (true && true)) = true from rfl] at *
    simp_arith []
    rw [i3]
    rfl
def enL : Nat → List Lr → List D
  | _, [] => []
  | t, l :: L => .tup [.int (t : Nat), eL l] :: enL (t + 1) L
theorem enL_eq : ∀ (L : List Lr) (t : Nat), enL t L = (List.range L.length).map fun i => .tup [.int ((t + i : Nat) : Int), ((L.map eL)[i]?).getD default]
  | [], t => rfl
  | l :: L, t => by
    rw [enL, enL_eq L (t + 1), List.length_cons, List.range_succ_eq_map, List.map_cons, List.map_map]
    congr 1
    refine List.map_congr_left fun i _ => ?_
    simp only [Function.comp]
    rw [show t + 1 + i = t + (i + 1) by omega]
    rfl
theorem enum_enL (L : List Lr) : enumD (L.map eL) = enL 0 L := by
  rw [enumD_eq, enL_eq, List.length_map]
  refine List.map_congr_left fun i _ => ?_
  rw [Nat.zero_add]
def nbW (w : Wd) (B : Nat) : Nat := match w with
  | .b => B
  | .c => B + 1
  | .e => 2 * B + 2
def bdL : List Lr → Nat → Nat
  | [], B => B
  | l :: L, B => bdL L (nbW l.1 B)
theorem bd_ge : ∀ (L : List Lr) (B : Nat), B ≤ bdL L B
  | [], B => Nat.le_refl B
  | l :: L, B => by
    have := bd_ge L (nbW l.1 B)
    have h2 : B ≤ nbW l.1 B := by
      unfold nbW
      split <;> omega
    exact Nat.le_trans h2 this
theorem bd_le : ∀ (L : List Lr) (B : Nat), bdL L B + 2 ≤ (B + 2 + L.length) * 2 ^ cw .e L
  | [], B => by
    show B + 2 ≤ (B + 2 + 0) * 2 ^ 0
    omega
  | (w, k) :: L, B => by
    have ih := bd_le L (nbW w B)
    have e0 : cw .e ((w, k) :: L) = cw .e L + (if w = .e then 1 else 0) := by
      unfold cw
      rw [List.countP_cons]
      simp
    show bdL L (nbW w B) + 2 ≤ _
    rw [e0, List.length_cons]
    have p := Nat.pos_of_ne_zero (show 2 ^ cw .e L ≠ 0 by exact Nat.ne_of_gt (Nat.two_pow_pos _))
    cases w with
    | b =>
      rw [if_neg (by decide), Nat.add_zero]
      refine Nat.le_trans ih (Nat.mul_le_mul_right _ ?_)
      show B + 2 + L.length ≤ _
      omega
    | c =>
      rw [if_neg (by decide), Nat.add_zero]
      refine Nat.le_trans ih (Nat.mul_le_mul_right _ ?_)
      show B + 1 + 2 + L.length ≤ _
      omega
    | e =>
      rw [if_pos rfl, Nat.pow_succ]
      refine Nat.le_trans ih ?_
      rw [Nat.mul_comm (2 ^ cw .e L) 2, ← Nat.mul_assoc]
      refine Nat.mul_le_mul_right _ ?_
      show 2 * B + 2 + 2 + L.length ≤ _
      omega
theorem wn_nil {B : Nat} : Wn B [] := fun w hw => by cases hw
theorem wn_one {B : Nat} : Wn B [[]] := fun w hw => by
  simp only [List.mem_cons, List.not_mem_nil, or_false] at hw
  subst hw
  exact ⟨Nat.zero_le _, fun i hi => by cases hi⟩
theorem nx_wn {n B k : Nat} {t : Int} {g : TF} {w : Wd} (hf : fitN w k n) (sm : Sml n B g) (ht : 0 ≤ t) (hB : 1 ≤ B) {i j : Nat} (hi : i < nxN w n) (hj : j < nxN w n) : Wn (nbW w B) (nxG w k t g i j) := by
  have q : ∀ a b, a < n → b < n → Wn B (g a b) := fun a b ha hb => (sm a b ha hb).2
  cases w with
  | b =>
    have hf : k ≤ n := hf
    have hi : i < n + 2 := hi
    have hj : j < n + 2 := hj
    show Wn B (put (bornG k g) k (k + 1) [[]] i j)
    unfold put bornG
    split
    · exact wn_one
    · split
      · exact wn_nil
      · exact q _ _ (by unfold dn; split <;> omega) (by unfold dn; split <;> omega)
  | c =>
    have hf : k + 2 ≤ n := hf
    have hi : i < n := hi
    have hj : j < n := hj
    have q1 : ∀ a b, a < n → b < n → Wn (B + 1) (g a b) := fun a b ha hb => wn_le (by omega) (q a b ha hb)
    show Wn (B + 1) (crsG k t g i j)
    unfold crsG
    split
    · exact wn_nil
    split
    · exact q1 _ _ (by omega) hj
    split
    · exact be_wn ht hB (q _ _ (by omega) hj) (q _ _ (by omega) hj)
    split
    · exact q1 _ _ hi (by omega)
    split
    · exact ah_wn ht hB (q _ _ hi (by omega)) (q _ _ hi (by omega))
    · exact q1 _ _ hi hj
  | e =>
    have hf : k + 2 ≤ n := hf
    have hi : i < n - 2 := hi
    have hj : j < n - 2 := hj
    have q1 : ∀ a b, a < n → b < n → Wn (2 * B + 2) (g a b) := fun a b ha hb => wn_le (by omega) (q a b ha hb)
    show Wn (2 * B + 2) (endG k t g i j)
    unfold endG
    split
    · unfold endV
      refine addS_wn (q1 _ _ (by omega) (by omega)) ?_
      have := mulS_wn (ah_wn ht hB (q i (k + 1) (by omega) (by omega)) (q i k (by omega) (by omega))) (be_wn ht hB (q k (j + 2) (by omega) (by omega)) (q (k + 1) (j + 2) (by omega) (by omega)))
      rwa [show B + 1 + (B + 1) = 2 * B + 2 by omega] at this
    · exact q1 _ _ (up_lt hi hf) (up_lt hj hf)
theorem ok_len {n : Nat} {g : TF} (h : okT n g = true) {i j : Nat} (hi : i < n) (hj : j < n) : (g i j).length ≤ 200 := by
  unfold okT rowOk at h
  have h1 := List.all_eq_true.mp h i (List.mem_range.mpr hi)
  simp only [Bool.not_eq_true', List.any_eq_false, decide_eq_true_eq] at h1
  have := h1 j (List.mem_range.mpr hj)
  omega
theorem nx_sml {n B k : Nat} {t : Int} {g : TF} {w : Wd} (hf : fitN w k n) (sm : Sml n B g) (ht : 0 ≤ t) (hB : 1 ≤ B) (h : okT (nxN w n) (nxG w k t g) = true) : Sml (nxN w n) (nbW w B) (nxG w k t g) := fun i j hi hj => ⟨ok_len h hi hj, nx_wn hf sm ht hB hi hj⟩
def runT : Nat → Nat → TF → List Lr → Option (List (Nat × TF))
  | _, _, _, [] => some []
  | t, n, g, (w, k) :: L => if okT (nxN w n) (nxG w k.toNat t g) = true then (runT (t + 1) (nxN w n) (nxG w k.toNat t g) L).map fun r => (nxN w n, nxG w k.toNat t g) :: r else none
def tbP (p : Nat × TF) : D := tbD p.1 p.2
theorem fit_of {n : Nat} {w : Wd} {k m' : Int} {L : List Lr} (h : OkL (n : Int) (((w, k) :: L).map eL) m') : ∃ q : Nat, k = (q : Nat) ∧ fitN w q n ∧ OkL ((nxN w n : Nat) : Int) (L.map eL) m' := by
  cases w with
  | b =>
    obtain ⟨h1, h2, h3⟩ := okl_b.mp h
    obtain ⟨q, rfl⟩ := Int.eq_ofNat_of_zero_le h1
    exact ⟨q, rfl, (by show q ≤ n; omega), h3⟩
  | c =>
    obtain ⟨h1, h2, h3⟩ := okl_c.mp h
    obtain ⟨q, rfl⟩ := Int.eq_ofNat_of_zero_le h1
    exact ⟨q, rfl, (by show q + 2 ≤ n; omega), h3⟩
  | e =>
    obtain ⟨h1, h2, h3⟩ := okl_e.mp h
    obtain ⟨q, rfl⟩ := Int.eq_ofNat_of_zero_le h1
    refine ⟨q, rfl, (by show q + 2 ≤ n; omega), ?_⟩
    rw [show ((nxN .e n : Nat) : Int) = (n : Int) - 2 by show ((n - 2 : Nat) : Int) = _; omega]
    exact h3
theorem mx_nx {n q : Nat} {w : Wd} {k : Int} {L : List Lr} (hf : fitN w q n) (h : Mx (n : Int) ((w, k) :: L)) : n ≤ 8 ∧ Mx ((nxN w n : Nat) : Int) L := by
  obtain ⟨h1, h2⟩ := h
  refine ⟨by omega, ?_⟩
  have e : ((nxN w n : Nat) : Int) = (n : Int) + mvW w := by
    cases w with
    | b => rfl
    | c => show (n : Int) = n + 0; omega
    | e =>
      have hf : q + 2 ≤ n := hf
      show ((n - 2 : Nat) : Int) = (n : Int) + (-2)
      omega
  rw [e]
  exact h2
theorem mx_hd {n : Nat} {L : List Lr} (h : Mx (n : Int) L) : n ≤ 8 := by
  cases L with
  | nil => have : (n : Int) ≤ 8 := h; omega
  | cons l L => have := h.1; omega
theorem r_b_tables_along_0 {α : Type} {ρ : DE} {kn : DE → Option α} {kr : D → DE → Option α} : cs b_tables_along_0 ρ kn kr = cs (sSeq (sApp 2 (mCallO F_table_behind (none) (mCons (mV 1) (mCons (mV 4) (mCons (mA (mV 3)) (mCons (m2 dIxP (mV 2) (mNeg (mC (.int 1)))) mNil)))))) (sExp (mCall F_look_table (mCons (m2 dIx (mV 2) (mNeg (mC (.int 1)))) mNil)))) ρ kn kr := rfl
def bxT : XM := xSeq xNo (sApp 2 (mCallO F_table_behind (none) (mCons (mV 1) (mCons (mV 4) (mCons (mA (mV 3)) (mCons (m2 dIxP (mV 2) (mNeg (mC (.int 1)))) mNil))))))
  (xCall FX_look_table (mCons (m2 dIx (mV 2) (mNeg (mC (.int 1)))) mNil))
theorem tb_snoc (pre : List (Nat × TF)) (p : Nat × TF) : pre.map tbP ++ [tbD p.1 p.2] = (pre ++ [p]).map tbP := by rw [List.map_append]; rfl
theorem last_tb (pre : List (Nat × TF)) (p : Nat × TF) : atI ((pre ++ [p]).map tbP) (-1) = some (tbD p.1 p.2) := by
  rw [← tb_snoc]
  exact at_last
theorem al_loop {d0 : Option D} : ∀ (L : List Lr) (t n B : Nat) (g : TF) (pre : List (Nat × TF)) (x3 x4 : Option D), OkL (n : Int) (L.map eL) 0 → Mx (n : Int) L → Sml n B g → 1 ≤ B → bdL L B ≤ 100000 → pre.length + L.length < 10000 →
    (∀ Ts, runT t n g L = some Ts → (∀ {α : Type} (kn : DE → Option α) (kr : D → DE → Option α), ∃ y3 y4, cF (gTp (gsCons (gNm 3) (gsCons (gNm 4) gsNil))) b_tables_along_0 (enL t L) [d0, some (.ins 0 []), some (.lst ((pre ++ [(n, g)]).map tbP)), x3, x4] kn kr = kn [d0, some (.ins 0 []), some (.lst ((pre ++ [(n, g)] ++ Ts).map tbP)), y3, y4]) ∧
      itX (gTp (gsCons (gNm 3) (gsCons (gNm 4) gsNil))) b_tables_along_0 bxT (enL t L) [d0, some (.ins 0 []), some (.lst ((pre ++ [(n, g)]).map tbP)), x3, x4] = none) ∧
    (runT t n g L = none → (∀ {α : Type} (kn : DE → Option α) (kr : D → DE → Option α), cF (gTp (gsCons (gNm 3) (gsCons (gNm 4) gsNil))) b_tables_along_0 (enL t L) [d0, some (.ins 0 []), some (.lst ((pre ++ [(n, g)]).map tbP)), x3, x4] kn kr = none) ∧
      ∃ ρ', itX (gTp (gsCons (gNm 3) (gsCons (gNm 4) gsNil))) b_tables_along_0 bxT (enL t L) [d0, some (.ins 0 []), some (.lst ((pre ++ [(n, g)]).map tbP)), x3, x4] = some (1, ρ'))
  | [], t, n, B, g, pre, x3, x4, ok, mx, sm, hB, hb, hl => by
    refine ⟨fun Ts h => ?_, fun h => by cases h⟩
    cases h
    rw [List.append_nil]
    exact ⟨fun kn kr => ⟨x3, x4, rfl⟩, rfl⟩
  | (w, k) :: L, t, n, B, g, pre, x3, x4, ok, mx, sm, hB, hb, hl => by
    obtain ⟨q, rfl, hf, ok2⟩ := fit_of ok
    obtain ⟨n8, mx2⟩ := mx_nx hf mx
    have n8' := mx_hd mx2
    simp only [List.length_cons] at hl
    have hB2 : B ≤ bdL L (nbW w B) := Nat.le_trans (by unfold nbW; split <;> omega) (bd_ge L (nbW w B))
    have hb' : bdL L (nbW w B) ≤ 100000 := hb
    obtain ⟨es, e1⟩ := behind_ok (t := ((t : Nat) : Int)) hf (by omega) sm (by omega) hB (by omega)
    have la := last_tb pre (n, g)
    have la2 := last_tb (pre ++ [(n, g)]) (nxN w n, nxG w q t g)
    have sn := tb_snoc (pre ++ [(n, g)]) (nxN w n, nxG w q t g)
    have lt : ((pre ++ [(n, g)]).map tbP).length < 16777216 := by simp; omega
    have rT : runT t n g ((w, ((q : Nat) : Int)) :: L) = if okT (nxN w n) (nxG w q t g) = true then (runT (t + 1) (nxN w n) (nxG w q t g) L).map fun r => (nxN w n, nxG w q t g) :: r else none := by
      rw [runT, Int.toNat_natCast]
    have ih := fun (h : okT (nxN w n) (nxG w q t g) = true) x3 x4 => al_loop (d0 := d0) L (t + 1) (nxN w n) (nbW w B) (nxG w q t g) (pre ++ [(n, g)]) x3 x4 ok2 mx2 (nx_sml hf sm (by omega) hB h) (Nat.le_trans hB (by unfold nbW; split <;> omega)) hb' (by simp; omega)
    rw [rT]
    have ap : ∀ {α : Type} (kn : DE → Option α) (kr : D → DE → Option α), cs (sApp 2 (mCallO F_table_behind (none) (mCons (mV 1) (mCons (mV 4) (mCons (mA (mV 3)) (mCons (m2 dIxP (mV 2) (mNeg (mC (.int 1)))) mNil)))))) [d0, some (.ins 0 []), some (.lst ((pre ++ [(n, g)]).map tbP)), some (.int (t : Nat)), some (eL (w, ((q : Nat) : Int)))] kn kr = kn [d0, some (.ins 0 []), some (.lst ((pre ++ [(n, g)] ++ [(nxN w n, nxG w q t g)]).map tbP)), some (.int (t : Nat)), some (eL (w, ((q : Nat) : Int)))] := fun kn kr => by
      rw [← sn]
      generalize (pre ++ [(n, g)]).map tbP = X at *
      simp_arith [la, e1, lt]
    cases hok : okT (nxN w n) (nxG w q t g) with
    | true =>
      obtain ⟨i1, i2⟩ := ih hok (some (.int (t : Nat))) (some (eL (w, ((q : Nat) : Int))))
      obtain ⟨l1, l2⟩ := look_ok (n := nxN w n) (by omega) hok
      have st : ∀ {α : Type} (kn : DE → Option α) (kr : D → DE → Option α), cF (gTp (gsCons (gNm 3) (gsCons (gNm 4) gsNil))) b_tables_along_0 (enL t ((w, ((q : Nat) : Int)) :: L)) [d0, some (.ins 0 []), some (.lst ((pre ++ [(n, g)]).map tbP)), x3, x4] kn kr = cF (gTp (gsCons (gNm 3) (gsCons (gNm 4) gsNil))) b_tables_along_0 (enL (t + 1) L) [d0, some (.ins 0 []), some (.lst ((pre ++ [(n, g)] ++ [(nxN w n, nxG w q t g)]).map tbP)), some (.int (t : Nat)), some (eL (w, ((q : Nat) : Int)))] kn kr := fun kn kr => by
        rw [enL, cF_cons]
        show cs b_tables_along_0 [d0, some (.ins 0 []), some (.lst ((pre ++ [(n, g)]).map tbP)), some (.int (t : Nat)), some (eL (w, ((q : Nat) : Int)))] _ kr = _
        rw [r_b_tables_along_0, cs_seq, ap]
        generalize (pre ++ [(n, g)] ++ [(nxN w n, nxG w q t g)]).map tbP = Y at *
        simp_arith [la2, l1]
      have sx : itX (gTp (gsCons (gNm 3) (gsCons (gNm 4) gsNil))) b_tables_along_0 bxT (enL t ((w, ((q : Nat) : Int)) :: L)) [d0, some (.ins 0 []), some (.lst ((pre ++ [(n, g)]).map tbP)), x3, x4] = itX (gTp (gsCons (gNm 3) (gsCons (gNm 4) gsNil))) b_tables_along_0 bxT (enL (t + 1) L) [d0, some (.ins 0 []), some (.lst ((pre ++ [(n, g)] ++ [(nxN w n, nxG w q t g)]).map tbP)), some (.int (t : Nat)), some (eL (w, ((q : Nat) : Int)))] := by
        rw [enL, itX_c]
        show orX (bxT [d0, some (.ins 0 []), some (.lst ((pre ++ [(n, g)]).map tbP)), some (.int (t : Nat)), some (eL (w, ((q : Nat) : Int)))]) (cs b_tables_along_0 [d0, some (.ins 0 []), some (.lst ((pre ++ [(n, g)]).map tbP)), some (.int (t : Nat)), some (eL (w, ((q : Nat) : Int)))] _ _) = _
        unfold bxT
        rw [xSeq_e, ap, r_b_tables_along_0, cs_seq, ap]
        generalize (pre ++ [(n, g)] ++ [(nxN w n, nxG w q t g)]).map tbP = Y at *
        simp_arith [la2, l1, l2, xNo_e, orX_n, xCall_e, bo_n]
      rw [if_pos rfl, sx]
      refine ⟨fun Ts h => ?_, fun h => ?_⟩
      · cases hr : runT (t + 1) (nxN w n) (nxG w q t g) L with
        | none => rw [hr] at h; cases h
        | some Ts' =>
          rw [hr] at h
          cases h
          obtain ⟨j1, j2⟩ := i1 Ts' hr
          refine ⟨fun kn kr => ?_, j2⟩
          obtain ⟨y3, y4, j⟩ := j1 kn kr
          refine ⟨y3, y4, ?_⟩
          rw [st, j, List.append_assoc (pre ++ [(n, g)]), List.singleton_append]
      · cases hr : runT (t + 1) (nxN w n) (nxG w q t g) L with
        | some Ts' => rw [hr] at h; cases h
        | none =>
          obtain ⟨j1, j2⟩ := i2 hr
          exact ⟨fun kn kr => by rw [st]; exact j1 kn kr, j2⟩
    | false =>
      obtain ⟨l1, l2⟩ := look_no (n := nxN w n) (by omega) hok
      rw [if_neg (by simp)]
      refine ⟨fun Ts h => (by cases h), fun _ => ⟨fun kn kr => ?_, [d0, some (.ins 0 []), some (.lst ((pre ++ [(n, g)] ++ [(nxN w n, nxG w q t g)]).map tbP)), some (.int (t : Nat)), some (eL (w, ((q : Nat) : Int)))], ?_⟩⟩
      · rw [enL, cF_cons]
        show cs b_tables_along_0 [d0, some (.ins 0 []), some (.lst ((pre ++ [(n, g)]).map tbP)), some (.int (t : Nat)), some (eL (w, ((q : Nat) : Int)))] _ kr = _
        rw [r_b_tables_along_0, cs_seq, ap]
        generalize (pre ++ [(n, g)] ++ [(nxN w n, nxG w q t g)]).map tbP = Y at *
        simp_arith [la2, l1, bo_n]
      · rw [enL, itX_c]
        show orX (bxT [d0, some (.ins 0 []), some (.lst ((pre ++ [(n, g)]).map tbP)), some (.int (t : Nat)), some (eL (w, ((q : Nat) : Int)))]) (cs b_tables_along_0 [d0, some (.ins 0 []), some (.lst ((pre ++ [(n, g)]).map tbP)), some (.int (t : Nat)), some (eL (w, ((q : Nat) : Int)))] _ _) = _
        unfold bxT
        rw [xSeq_e, ap]
        generalize (pre ++ [(n, g)] ++ [(nxN w n, nxG w q t g)]).map tbP = Y at *
        simp_arith [la2, l2, xNo_e, orX_n, xCall_e, orX_s]
def g0 : TF := fun _ _ => []
theorem sml_0 (B : Nat) : Sml 0 B g0 := fun i j hi => by omega
theorem along_ok {L : List Lr} (ok : OkL 0 (L.map eL) 0) (mx : Mx 0 L) (hb : bdL L 1 ≤ 100000) (hl : L.length < 5000) {Ts : List (Nat × TF)} (h : runT 0 0 g0 L = some Ts) :
    F_tables_along [.lst (L.map eL)] = some (.lst (((0, g0) :: Ts).map tbP), [.lst (L.map eL)]) ∧ FX_tables_along [.lst (L.map eL)] = none := by
  obtain ⟨i1, _⟩ := al_loop (d0 := some (.lst (L.map eL))) L 0 0 1 g0 [] none none ok mx (sml_0 1) (by omega) hb (by simp; omega)
  obtain ⟨j1, j2⟩ := i1 Ts h
  have T0 : ([] ++ [(0, g0)] : List (Nat × TF)).map tbP = [.lst []] := rfl
  have Y0 : ((0, g0) :: Ts).map tbP = ([] ++ [(0, g0)] ++ Ts).map tbP := rfl
  rw [Y0]
  rw [T0] at j1 j2
  have en := enum_enL L
  generalize ([] ++ [(0, g0)] ++ Ts).map tbP = Y at *
  generalize L.map eL = LL at *
  constructor
  · unfold F_tables_along m_tables_along
    simp_arith [ce_new0, en]
    obtain ⟨y3, y4, z⟩ := j1 (cs_seq_1 (sRet (mV 2)) (fo' [none] [D.lst LL] D.non) (fo' [none] [D.lst LL])) (fo' [none] [D.lst LL])
    rw [z]
    simp_arith []
  · unfold FX_tables_along x_tables_along
    rw [fx_run (show [D.lst LL].length = 1 from rfl)]
    obtain ⟨y3, y4, z⟩ := j1 (α := Nat × DE) xNo (fun _ _ => none)
    have j2' := j2
    unfold bxT at j2'
    simp_arith [xSeq_e, xNo_e, orX_n, ce_new0, xFor_e, en, j2', z]
theorem along_no {L : List Lr} (ok : OkL 0 (L.map eL) 0) (mx : Mx 0 L) (hb : bdL L 1 ≤ 100000) (hl : L.length < 5000) (h : runT 0 0 g0 L = none) :
    F_tables_along [.lst (L.map eL)] = none ∧ FX_tables_along [.lst (L.map eL)] = some 1 := by
  obtain ⟨_, i2⟩ := al_loop (d0 := some (.lst (L.map eL))) L 0 0 1 g0 [] none none ok mx (sml_0 1) (by omega) hb (by simp; omega)
  obtain ⟨j1, ρ', j2⟩ := i2 h
  have T0 : ([] ++ [(0, g0)] : List (Nat × TF)).map tbP = [.lst []] := rfl
  rw [T0] at j1 j2
  have en := enum_enL L
  generalize L.map eL = LL at *
  constructor
  · unfold F_tables_along m_tables_along
    simp_arith [ce_new0, en]
    exact j1 _ _
  · unfold FX_tables_along x_tables_along
    rw [fx_run (show [D.lst LL].length = 1 from rfl)]
    have j2' := j2
    unfold bxT at j2'
    simp_arith [xSeq_e, xNo_e, orX_n, ce_new0, xFor_e, en, j2', orX_s]
theorem r_b_between_0 {α : Type} {ρ : DE} {kn : DE → Option α} {kr : D → DE → Option α} : cs b_between_0 ρ kn kr = cs (sApp 1 (mLc (true && (true && true)) [3] (mSeq (mV 2)) (gNm 3) mYes (mLc (true && (true && true)) [4] (mSeq (mV 3)) (gNm 4) mYes (mMk .lst (mCons (mV 4) mNil))))) ρ kn kr := rfl
theorem copy_tab {n : Nat} (hn : n ≤ 1000) (g : TF) {α : Type} {d0 x1 d2 : Option D} {k : D → DE → Option α} {ρ1 : DE} :
    cP [3] (gNm 3) mYes (mLc true [4] (mSeq (mV 3)) (gNm 4) mYes (mMk .lst (mCons (mV 4) mNil))) (tbL n g) [d0, x1, d2, none, none] (ce_lc_2 true k ρ1) = k (tbD n g) ρ1 := by
  refine lcm_map (fun i => D.lst (rwL n (g i))) (fun i => D.lst (rwL n (g i))) (xs := List.range n) (fun i _ => ?_) (by simp; omega)
  refine ⟨[d0, x1, d2, some (.lst (rwL n (g i))), none], ?_, rfl⟩
  have inn : ∀ {β : Type} (k : D → DE → Option β) (ρ1 : DE), cP [4] (gNm 4) mYes (mMk .lst (mCons (mV 4) mNil)) (rwL n (g i)) [d0, x1, d2, some (.lst (rwL n (g i))), none] (ce_lc_2 true k ρ1) = k (.lst (rwL n (g i))) ρ1 := fun k ρ1 => by
    refine lcm_map (fun j => eS (g i j)) (fun j => eS (g i j)) (xs := List.range n) (fun j _ => ?_) (by simp; omega)
    refine ⟨[d0, x1, d2, some (.lst (rwL n (g i))), some (eS (g i j))], ?_, rfl⟩
    have dm : dMk .lst (eS (g i j)) = some (eS (g i j)) := rfl
    simp_arith! [dm]
  generalize rwL n (g i) = R at *
  simp_arith []
  rw [inn]
  simp_arith []
theorem btw_loop {α : Type} {d0 : Option D} {kn : DE → Option α} {kr : D → DE → Option α} : ∀ (Ts pre : List (Nat × TF)) (R : Option α) (x2 : Option D), (∀ p ∈ Ts, p.1 ≤ 100) → pre.length + Ts.length < 10000 →
    (∀ y2, kn [d0, some (.lst ((pre ++ Ts).map tbP)), y2, none, none] = R) →
    cF (gNm 2) b_between_0 (Ts.map tbP) [d0, some (.lst (pre.map tbP)), x2, none, none] kn kr = R
  | [], pre, R, x2, _, _, hk => by
    have := hk x2
    rw [List.append_nil] at this
    exact this
  | p :: Ts, pre, R, x2, hp, hl, hk => by
    simp only [List.length_cons] at hl
    have ih := fun y2 => btw_loop (d0 := d0) (kn := kn) (kr := kr) Ts (pre ++ [p]) R y2 (fun y hy => hp y (by simp [hy])) (by simp; omega) (fun y2 => by rw [List.append_assoc]; exact hk y2)
    have lt : (pre.map tbP).length < 16777216 := by simp; omega
    have sn := tb_snoc pre p
    have cp := fun {β : Type} {k : D → DE → Option β} {ρ1 : DE} => copy_tab (n := p.1) (by have := hp p (by simp); omega) p.2 (d0 := d0) (x1 := some (.lst (pre.map tbP))) (d2 := some (tbP p)) (k := k) (ρ1 := ρ1)
    have tb : tbP p = .lst (tbL p.1 p.2) := rfl
    rw [List.map_cons, cF_cons]
    show cs b_between_0 [d0, some (.lst (pre.map tbP)), some (tbP p), none, none] _ kr = R
    rw [← sn] at ih
    rw [r_b_between_0, tb]
    rw [tb] at cp
    generalize pre.map tbP = X at *
    simp_arith []
    rw [cp]
    simp_arith [lt]
    exact ih _
theorem btw_ok {L : List Lr} (ok : OkL 0 (L.map eL) 0) (mx : Mx 0 L) (hb : bdL L 1 ≤ 100000) (hl : L.length < 5000) {Ts : List (Nat × TF)} (h : runT 0 0 g0 L = some Ts) (h100 : ∀ p ∈ Ts, p.1 ≤ 100) (hT : Ts.length < 5000) :
    F_between [.lst (L.map eL)] = some (.lst (((0, g0) :: Ts).map tbP), [.lst (L.map eL)]) ∧ FX_between [.lst (L.map eL)] = none := by
  obtain ⟨a1, a2⟩ := along_ok ok mx hb hl h
  have lp := fun {α : Type} (kn : DE → Option α) (kr : D → DE → Option α) (R : Option α) (x2 : Option D) => btw_loop (d0 := some (.lst (L.map eL))) (kn := kn) (kr := kr) ((0, g0) :: Ts) [] R x2 (fun p hp => by
    rcases List.mem_cons.mp hp with rfl | hp
    · simp
    · exact h100 p hp) (by simp; omega)
  generalize L.map eL = LL at *
  have n0 : (([] : List (Nat × TF)).map tbP) = [] := rfl
  simp only [n0, List.nil_append] at lp
  generalize ((0, g0) :: Ts).map tbP = Y at *
  constructor
  · unfold F_between m_between
    simp_arith [a1]
    refine lp _ _ _ _ fun y2 => ?_
    simp_arith []
  · unfold FX_between x_between
    rw [fx_run (show [D.lst LL].length = 1 from rfl)]
    have z := lp (α := Nat × DE) xNo (fun _ _ => none) none none (fun y2 => rfl)
    simp_arith [xSeq_e, xNo_e, orX_n, xCall_e, a2, a1, bo_n, z]
theorem btw_no {L : List Lr} (ok : OkL 0 (L.map eL) 0) (mx : Mx 0 L) (hb : bdL L 1 ≤ 100000) (hl : L.length < 5000) (h : runT 0 0 g0 L = none) :
    F_between [.lst (L.map eL)] = none ∧ FX_between [.lst (L.map eL)] = some 1 := by
  obtain ⟨a1, a2⟩ := along_no ok mx hb hl h
  generalize L.map eL = LL at *
  constructor
  · unfold F_between m_between
    simp_arith [a1, bo_n]
  · unfold FX_between x_between
    rw [fx_run (show [D.lst LL].length = 1 from rfl)]
    simp_arith [xSeq_e, xNo_e, orX_n, xCall_e, a2, orX_s]
abbrev QP := Nat × Nat × Wo × Wo
def stp (k : Nat) (t : Int) (i j : Nat) : List QP :=
  if i = k then [(k + 1, j, [], [])] else if i = k + 1 then [(k, j, [], []), (k + 1, j, [t], [])]
  else if j = k + 1 then [(i, k, [], [])] else if j = k then [(i, k + 1, [], []), (i, k, [], [t])] else [(i, j, [], [])]
def glu (q x : QP) : QP := (x.1, x.2.1, q.2.2.1 ++ x.2.2.1, x.2.2.2 ++ q.2.2.2)
def ahP (w : Wd) (k : Nat) (t : Int) (q : QP) : List QP := match w with
  | .c => if q.1 = k ∧ q.2.1 = k + 1 then [] else (stp k t q.1 q.2.1).map (glu q)
  | .b => if q.1 = k ∨ q.1 = k + 1 ∨ q.2.1 = k ∨ q.2.1 = k + 1 then [] else [(dn k q.1, dn k q.2.1, q.2.2.1, q.2.2.2)]
  | .e => []
def woP (w : Wd) (k : Nat) (q : QP) : List Wo := match w with
  | .b => if q.1 = k ∧ q.2.1 = k + 1 then [q.2.2.1 ++ q.2.2.2] else []
  | _ => []
def vaQ (g : TF) (q : QP) : List Wo := (g q.1 q.2.1).map fun x => q.2.2.1 ++ (x ++ q.2.2.2)
def vaL (g : TF) (Q : List QP) : List Wo := Q.flatMap (vaQ g)
theorem par_map (f s : Wo) {xs ys : List Wo} (e : ∀ w, par xs w = par ys w) (w : Wo) : par (xs.map fun x => f ++ (x ++ s)) w = par (ys.map fun x => f ++ (x ++ s)) w := by
  have h := par_pre f (ys := xs.map fun x => x ++ s) (ys' := ys.map fun x => x ++ s) (par_suf s e) w
  rw [List.map_map, List.map_map] at h
  exact h
theorem par_add (a b : List Wo) (w : Wo) : par (addS a b) w = par (a ++ b) w := par_oddS (a ++ b) w
theorem mul_1l (t : Wo) (a : List Wo) (w : Wo) : par (mulS [t] a) w = par (a.map fun x => t ++ x) w := by
  unfold mulS
  rw [par_oddS, prd_cons, show prd [] a = [] from rfl, List.append_nil]
theorem mul_1r (t : Wo) (a : List Wo) (w : Wo) : par (mulS a [t]) w = par (a.map fun x => x ++ t) w := by
  unfold mulS
  rw [par_oddS, par_prd_cr, prd_nil]
  cases par (a.map fun x => x ++ t) w <;> rfl
theorem vaQ_glu (g : TF) (q x : QP) : vaQ g (glu q x) = ((vaQ g x).map fun y => q.2.2.1 ++ (y ++ q.2.2.2)) := by
  unfold vaQ glu
  rw [List.map_map]
  refine List.map_congr_left fun y _ => ?_
  simp [List.append_assoc]
theorem vaL_glu (g : TF) (q : QP) : ∀ X : List QP, vaL g (X.map (glu q)) = (vaL g X).map fun y => q.2.2.1 ++ (y ++ q.2.2.2)
  | [] => rfl
  | x :: X => by
    show vaQ g (glu q x) ++ vaL g (X.map (glu q)) = (vaQ g x ++ vaL g X).map _
    rw [vaQ_glu, vaL_glu g q X, List.map_append]
theorem vaQ_0 (g : TF) (i j : Nat) : vaQ g (i, j, [], []) = g i j := by
  unfold vaQ
  simp
theorem crs_par {k : Nat} {t : Int} {g : TF} {i j : Nat} (ij : i < j) (h : ¬ (i = k ∧ j = k + 1)) (w : Wo) : par (crsG k t g i j) w = par (vaL g (stp k t i j)) w := by
  unfold crsG stp
  rw [if_neg h]
  by_cases e1 : i = k
  · rw [if_pos ⟨e1, by omega⟩, if_pos e1]
    show _ = par (vaQ g (k + 1, j, [], []) ++ []) w
    rw [vaQ_0, List.append_nil]
  rw [if_neg (fun z => e1 z.1), if_neg e1]
  by_cases e2 : i = k + 1
  · rw [if_pos ⟨e2, by omega⟩, if_pos e2]
    show _ = par (vaQ g (k, j, [], []) ++ (vaQ g (k + 1, j, [t], []) ++ [])) w
    rw [vaQ_0, List.append_nil, par_add, par_app, par_app, mul_1l]
    unfold vaQ
    simp
  rw [if_neg (fun z => e2 z.1), if_neg e2]
  by_cases e3 : j = k + 1
  · rw [if_pos ⟨e3, by omega⟩, if_pos e3]
    show _ = par (vaQ g (i, k, [], []) ++ []) w
    rw [vaQ_0, List.append_nil]
  rw [if_neg (fun z => e3 z.1), if_neg e3]
  by_cases e4 : j = k
  · rw [if_pos ⟨e4, by omega⟩, if_pos e4]
    show _ = par (vaQ g (i, k + 1, [], []) ++ (vaQ g (i, k, [], [t]) ++ [])) w
    rw [vaQ_0, List.append_nil, par_add, par_app, par_app, mul_1r]
    unfold vaQ
    simp
  rw [if_neg (fun z => e4 z.1), if_neg e4]
  show _ = par (vaQ g (i, j, [], []) ++ []) w
  rw [vaQ_0, List.append_nil]
theorem stp_lt {k : Nat} {t : Int} {i j : Nat} (ij : i < j) (h : ¬ (i = k ∧ j = k + 1)) : ∀ x ∈ stp k t i j, x.1 < x.2.1 := by
  unfold stp
  intro x hx
  split at hx
  · simp only [List.mem_cons, List.not_mem_nil, or_false] at hx
    subst hx
    show k + 1 < j
    omega
  split at hx
  · simp only [List.mem_cons, List.not_mem_nil, or_false] at hx
    rcases hx with rfl | rfl
    · show k < j
      omega
    · show k + 1 < j
      omega
  split at hx
  · simp only [List.mem_cons, List.not_mem_nil, or_false] at hx
    subst hx
    show i < k
    omega
  split at hx
  · simp only [List.mem_cons, List.not_mem_nil, or_false] at hx
    rcases hx with rfl | rfl
    · show i < k + 1
      omega
    · show i < k
      omega
  · simp only [List.mem_cons, List.not_mem_nil, or_false] at hx
    subst hx
    exact ij
theorem ah_lt {w : Wd} {k : Nat} {t : Int} {q : QP} (h : q.1 < q.2.1) : ∀ x ∈ ahP w k t q, x.1 < x.2.1 := by
  intro x hx
  cases w with
  | b =>
    unfold ahP at hx
    simp only at hx
    split at hx
    · cases hx
    · rename_i n
      simp only [List.mem_cons, List.not_mem_nil, or_false] at hx
      subst hx
      show dn k q.1 < dn k q.2.1
      unfold dn
      split <;> split <;> omega
  | c =>
    unfold ahP at hx
    simp only at hx
    split at hx
    · cases hx
    · rename_i n
      obtain ⟨y, hy, rfl⟩ := List.mem_map.mp hx
      exact stp_lt h n y hy
  | e => cases hx
theorem va_par {w : Wd} (hw : w ≠ .e) {k : Nat} {t : Int} {g : TF} {q : QP} (h : q.1 < q.2.1) (z : Wo) : par (vaQ (nxG w k t g) q) z = par (vaL g (ahP w k t q) ++ woP w k q) z := by
  cases w with
  | e => exact (hw rfl).elim
  | c =>
    show par (vaQ (crsG k t g) q) z = par (vaL g (ahP .c k t q) ++ []) z
    rw [List.append_nil]
    by_cases n : q.1 = k ∧ q.2.1 = k + 1
    · have e0 : crsG k t g q.1 q.2.1 = [] := by
        unfold crsG
        rw [if_pos n]
      have e1 : ahP .c k t q = [] := if_pos n
      unfold vaQ
      rw [e0, e1]
      rfl
    · have e1 : ahP .c k t q = (stp k t q.1 q.2.1).map (glu q) := if_neg n
      rw [e1, vaL_glu]
      exact par_map _ _ (crs_par h n) z
  | b =>
    show par (vaQ (put (bornG k g) k (k + 1) [[]]) q) z = _
    by_cases n : q.1 = k ∧ q.2.1 = k + 1
    · have e0 : put (bornG k g) k (k + 1) [[]] q.1 q.2.1 = [[]] := if_pos n
      have e1 : ahP .b k t q = [] := if_pos (.inl n.1)
      have e2 : woP .b k q = [q.2.2.1 ++ q.2.2.2] := if_pos n
      unfold vaQ
      rw [e0, e1, e2]
      rfl
    · have e2 : woP .b k q = [] := if_neg n
      rw [e2, List.append_nil]
      have e0 : put (bornG k g) k (k + 1) [[]] q.1 q.2.1 = bornG k g q.1 q.2.1 := if_neg n
      unfold vaQ
      rw [e0]
      unfold bornG ahP
      simp only
      split
      · rfl
      · show _ = par (vaQ g (dn k q.1, dn k q.2.1, q.2.2.1, q.2.2.2) ++ []) z
        rw [List.append_nil]
        rfl
theorem vaL_par {w : Wd} (hw : w ≠ .e) {k : Nat} {t : Int} {g : TF} (z : Wo) : ∀ (Q : List QP), (∀ q ∈ Q, q.1 < q.2.1) → par (vaL (nxG w k t g) Q) z = par (vaL g (Q.flatMap (ahP w k t)) ++ Q.flatMap (woP w k)) z
  | [], _ => rfl
  | q :: Q, h => by
    have ih := vaL_par hw (k := k) (t := t) (g := g) z Q fun x hx => h x (by simp [hx])
    have hq := va_par hw (k := k) (t := t) (g := g) (h q (by simp)) z
    show par (vaQ (nxG w k t g) q ++ vaL (nxG w k t g) Q) z = par (vaL g (ahP w k t q ++ Q.flatMap (ahP w k t)) ++ (woP w k q ++ Q.flatMap (woP w k))) z
    have va : vaL g (ahP w k t q ++ Q.flatMap (ahP w k t)) = vaL g (ahP w k t q) ++ vaL g (Q.flatMap (ahP w k t)) := List.flatMap_append
    rw [va]
    simp only [par_app] at *
    rw [hq, ih]
    cases par (vaL g (ahP w k t q)) z <;> cases par (vaL g (Q.flatMap (ahP w k t))) z <;> cases par (woP w k q) z <;> cases par (Q.flatMap (woP w k)) z <;> rfl
def stG : Nat → Nat → TF → List Lr → Nat × TF
  | _, n, g, [] => (n, g)
  | t, n, g, (w, k) :: L => stG (t + 1) (nxN w n) (nxG w k.toNat t g) L
theorem stG_app : ∀ (A B : List Lr) (t n : Nat) (g : TF), stG t n g (A ++ B) = stG (t + A.length) (stG t n g A).1 (stG t n g A).2 B
  | [], B, t, n, g => rfl
  | (w, k) :: A, B, t, n, g => by
    show stG (t + 1) _ _ (A ++ B) = _
    rw [stG_app A B]
    rw [List.length_cons, show t + 1 + A.length = t + (A.length + 1) by omega]
    rfl
def wkW : List Lr → List QP → List Wo
  | [], _ => []
  | (w, k) :: R, Q => Q.flatMap (woP w k.toNat) ++ wkW R (Q.flatMap (ahP w k.toNat (R.length : Nat)))
theorem wk_par : ∀ (R : List Lr) (Q : List QP) (z : Wo), (∀ l ∈ R, l.1 ≠ .e) → (∀ q ∈ Q, q.1 < q.2.1) → par (vaL (stG 0 0 g0 R.reverse).2 Q) z = par (wkW R Q) z
  | [], Q, z, _, _ => by
    show par (vaL g0 Q) z = par [] z
    have : vaL g0 Q = [] := List.flatMap_eq_nil_iff.mpr fun q _ => rfl
    rw [this]
  | (w, k) :: R, Q, z, hR, hQ => by
    have hw : w ≠ .e := hR (w, k) (by simp)
    have ih := wk_par R (Q.flatMap (ahP w k.toNat (R.length : Nat))) z (fun l hl => hR l (by simp [hl])) (fun q hq => by
      obtain ⟨p, hp, hq⟩ := List.mem_flatMap.mp hq
      exact ah_lt (hQ p hp) q hq)
    have e : (stG 0 0 g0 ((w, k) :: R).reverse).2 = nxG w k.toNat (R.length : Nat) (stG 0 0 g0 R.reverse).2 := by
      rw [List.reverse_cons, stG_app, List.length_reverse, Nat.zero_add]
      rfl
    rw [e, vaL_par hw z Q hQ]
    show _ = par (Q.flatMap (woP w k.toNat) ++ wkW R (Q.flatMap (ahP w k.toNat (R.length : Nat)))) z
    rw [par_app, par_app, ih]
    cases par (Q.flatMap (woP w k.toNat)) z <;> cases par (wkW R (Q.flatMap (ahP w k.toNat (R.length : Nat)))) z <;> rfl
theorem st_sm : ∀ (L : List Lr) (t n : Nat) (g : TF), (∀ l ∈ L, l.1 ≠ .e) → (∀ i j, Sm (g i j)) → ∀ i j, Sm ((stG t n g L).2 i j)
  | [], t, n, g, _, h => h
  | (w, k) :: L, t, n, g, hL, h => by
    refine st_sm L (t + 1) (nxN w n) (nxG w k.toNat t g) (fun l hl => hL l (by simp [hl])) fun i j => ?_
    have ad : ∀ a b, Sm (addS a b) := fun a b => oddS_sm (a ++ b)
    have s0 : Sm ([] : List Wo) := List.Pairwise.nil
    cases w with
    | e => exact (hL (.e, k) (by simp) rfl).elim
    | b =>
      show Sm (put (bornG k.toNat g) k.toNat (k.toNat + 1) [[]] i j)
      unfold put bornG
      split
      · exact List.pairwise_singleton ..
      · split
        · exact s0
        · exact h _ _
    | c =>
      show Sm (crsG k.toNat t g i j)
      unfold crsG
      split
      · exact s0
      split
      · exact h _ _
      split
      · exact ad _ _
      split
      · exact h _ _
      split
      · exact ad _ _
      · exact h _ _
theorem walk_law {L : List Lr} (hL : ∀ l ∈ L, l.1 ≠ .e) {i j : Nat} (ij : i < j) : (stG 0 0 g0 L).2 i j = oddS (wkW L.reverse [(i, j, [], [])]) := by
  refine odd_uniq (st_sm L 0 0 g0 hL (fun _ _ => List.Pairwise.nil) i j) fun z => ?_
  have h := wk_par L.reverse [(i, j, [], [])] z (fun l hl => hL l (List.mem_reverse.mp hl)) (fun q hq => by
    simp only [List.mem_cons, List.not_mem_nil, or_false] at hq
    subst hq
    exact ij)
  rw [List.reverse_reverse] at h
  rw [← h]
  show _ = par (vaQ _ (i, j, [], []) ++ []) z
  rw [List.append_nil, vaQ_0]
def eQ (q : QP) : D := .tup [.int (q.1 : Nat), .int (q.2.1 : Nat), eW q.2.2.1, eW q.2.2.2]
theorem r_b__law_steps_0 {α : Type} {ρ : DE} {kn : DE → Option α} {kr : D → DE → Option α} : cs b__law_steps_0 ρ kn kr = cs (sIf (m2 dLt (mV 7) (mV 9)) (sApp 4 (mTup (mCons (mA (mV 7)) (mCons (mA (mV 9)) (mCons (mV 8) (mCons (mV 10) mNil)))))) sNil) ρ kn kr := rfl
theorem r_b__law_steps_1 {α : Type} {ρ : DE} {kn : DE → Option α} {kr : D → DE → Option α} : cs b__law_steps_1 ρ kn kr = cs (sFor (mSeq (mV 6)) (gTp (gsCons (gNm 9) (gsCons (gNm 10) gsNil))) b__law_steps_0) ρ kn kr := rfl
theorem steps_ok {k i j : Nat} {t : Int} (ij : i < j) (h : ¬ (i = k ∧ j = k + 1)) (hk : k ≤ 100) (hj : j ≤ 100) : F__law_steps [.int (k : Nat), .int t, .int (i : Nat), .int (j : Nat)] = some (.lst ((stp k t i j).map eQ), [.int (k : Nat), .int t, .int (i : Nat), .int (j : Nat)]) := by
  have eq : ∀ a b : Nat, dEq (.int (a : Nat)) (.int (b : Nat)) = some (.bl (decide (a = b))) := fun a b => by
    rw [r_eqI]
    congr 2
    exact decide_eq_decide.mpr (by omega)
  have lt : ∀ a b : Nat, dLt (.int (a : Nat)) (.int (b : Nat)) = some (.bl (decide (a < b))) := fun a b => by
    rw [r_lt]
    congr 2
    exact decide_eq_decide.mpr (by omega)
  have k1 : ((k : Nat) : Int) + 1 = ((k + 1 : Nat) : Int) := by omega
  have q1 := eq i k
  have q2 := eq i (k + 1)
  have q3 := eq j (k + 1)
  have q4 := eq j k
  unfold stp
  unfold F__law_steps m__law_steps
  by_cases e1 : i = k
  · rw [decide_eq_true e1] at q1
    rw [decide_eq_false (show ¬ j = k + 1 by omega)] at q3
    rw [decide_eq_false (show ¬ j = k by omega)] at q4
    have l1 := lt (k + 1) j
    rw [decide_eq_true (show k + 1 < j by omega)] at l1
    rw [if_pos e1]
    simp_arith [q1, q3, q4, k1, ↓cF_cons, r_b__law_steps_0, r_b__law_steps_1, l1]
    rfl
  rw [decide_eq_false e1] at q1
  rw [if_neg e1]
  by_cases e2 : i = k + 1
  · rw [decide_eq_true e2] at q2
    rw [decide_eq_false (show ¬ j = k + 1 by omega)] at q3
    rw [decide_eq_false (show ¬ j = k by omega)] at q4
    have l1 := lt k j
    rw [decide_eq_true (show k < j by omega)] at l1
    have l2 := lt (k + 1) j
    rw [decide_eq_true (show k + 1 < j by omega)] at l2
    rw [if_pos e2]
    simp_arith [q1, q2, q3, q4, k1, ↓cF_cons, r_b__law_steps_0, r_b__law_steps_1, l1, l2]
    rfl
  rw [decide_eq_false e2] at q2
  rw [if_neg e2]
  by_cases e3 : j = k + 1
  · rw [decide_eq_true e3] at q3
    have l1 := lt i k
    rw [decide_eq_true (show i < k by omega)] at l1
    rw [if_pos e3]
    simp_arith [q1, q2, q3, k1, ↓cF_cons, r_b__law_steps_0, r_b__law_steps_1, l1]
    rfl
  rw [decide_eq_false e3] at q3
  rw [if_neg e3]
  by_cases e4 : j = k
  · rw [decide_eq_true e4] at q4
    have l1 := lt i k
    rw [decide_eq_true (show i < k by omega)] at l1
    have l2 := lt i (k + 1)
    rw [decide_eq_true (show i < k + 1 by omega)] at l2
    rw [if_pos e4]
    simp_arith [q1, q2, q3, q4, k1, ↓cF_cons, r_b__law_steps_0, r_b__law_steps_1, l1, l2]
    rfl
  rw [decide_eq_false e4] at q4
  rw [if_neg e4]
  have l1 := lt i j
  rw [decide_eq_true ij] at l1
  simp_arith [q1, q2, q3, q4, k1, ↓cF_cons, r_b__law_steps_0, r_b__law_steps_1, l1]
  rfl
theorem r_b__law_walked_0 {α : Type} {ρ : DE} {kn : DE → Option α} {kr : D → DE → Option α} : cs b__law_walked_0 ρ kn kr = cs (sApp 6 (mTup (mCons (mV 13) (mCons (mV 14) (mCons (m2 dCat (mV 11) (mV 15)) (mCons (m2 dCat (mV 16) (mV 12)) mNil)))))) ρ kn kr := rfl
theorem r_b__law_walked_1 {α : Type} {ρ : DE} {kn : DE → Option α} {kr : D → DE → Option α} : cs b__law_walked_1 ρ kn kr = cs (sIf (mAnd (m2 dEq (mV 7) (mC (.str "cross"))) (m2 dNe (mTup (mCons (mA (mV 9)) (mCons (mA (mV 10)) mNil))) (mTup (mCons (mA (mV 8)) (mCons (m2 dAdd (mV 8) (mC (.int 1))) mNil))))) (sFor (mSeq (mCallO F__law_steps (none) (mCons (mA (mV 8)) (mCons (mA (mV 5)) (mCons (mA (mV 9)) (mCons (mA (mV 10)) mNil)))))) (gTp (gsCons (gNm 13) (gsCons (gNm 14) (gsCons (gNm 15) (gsCons (gNm 16) gsNil))))) b__law_walked_0) (sIf (mAnd (m2 dEq (mV 7) (mC (.str "born"))) (m2 dEq (mTup (mCons (mA (mV 9)) (mCons (mA (mV 10)) mNil))) (mTup (mCons (mA (mV 8)) (mCons (m2 dAdd (mV 8) (mC (.int 1))) mNil))))) (sApp 4 (m2 dCat (mV 11) (mV 12))) (sIf (mAnd (m2 dEq (mV 7) (mC (.str "born"))) (mAnd (m2 dNi (mV 9) (mTup (mCons (mA (mV 8)) (mCons (m2 dAdd (mV 8) (mC (.int 1))) mNil)))) (m2 dNi (mV 10) (mTup (mCons (mA (mV 8)) (mCons (m2 dAdd (mV 8) (mC (.int 1))) mNil)))))) (sApp 6 (mTup (mCons (m2 dSub (mV 9) (m2 dMul (mC (.int 2)) (mB fInt (mCons (m2 dGt (mV 9) (mV 8)) mNil)))) (mCons (m2 dSub (mV 10) (m2 dMul (mC (.int 2)) (mB fInt (mCons (m2 dGt (mV 10) (mV 8)) mNil)))) (mCons (mV 11) (mCons (mV 12) mNil)))))) sNil))) ρ kn kr := rfl
theorem r_b__law_walked_2 {α : Type} {ρ : DE} {kn : DE → Option α} {kr : D → DE → Option α} : cs b__law_walked_2 ρ kn kr = cs (sSeq (sTgt (m2 dIxP (mV 0) (mV 5)) (gTp (gsCons (gNm 7) (gsCons (gNm 8) gsNil)))) (sSeq (sAsg 6 (mLst mNil)) (sSeq (sFor (mSeq (mV 3)) (gTp (gsCons (gNm 9) (gsCons (gNm 10) (gsCons (gNm 11) (gsCons (gNm 12) gsNil))))) b__law_walked_1) (sAsg 3 (mV 6))))) ρ kn kr := rfl
theorem eqE_tup (i j k l : Nat) : dEq (.tup [.int (i : Nat), .int (j : Nat)]) (.tup [.int (k : Nat), .int (l : Nat)]) = some (.bl (decide (i = k ∧ j = l))) := by
  have h := eq_eW [((i : Nat) : Int), ((j : Nat) : Int)] [((k : Nat) : Int), ((l : Nat) : Int)]
  rw [show decide (([((i : Nat) : Int), ((j : Nat) : Int)] : Wo) = [((k : Nat) : Int), ((l : Nat) : Int)]) = decide (i = k ∧ j = l) from decide_eq_decide.mpr (by
    simp only [List.cons.injEq, and_true]
    constructor <;> rintro ⟨h1, h2⟩ <;> exact ⟨by omega, by omega⟩)] at h
  exact h
theorem eq_tup (i j k l : Nat) : dNe (.tup [.int (i : Nat), .int (j : Nat)]) (.tup [.int (k : Nat), .int (l : Nat)]) = some (.bl (!decide (i = k ∧ j = l))) := ne_of_eq (eqE_tup i j k l)
theorem wk_0 {α : Type} {f s : Wo} (hf : f.length ≤ 1000) (hs : s.length ≤ 1000) {x0 x1 x2 x3 x4 x5 x7 x8 x9 x10 : Option D} {kn : DE → Option α} {kr : D → DE → Option α} : ∀ (ss A : List QP) (x13 x14 x15 x16 : Option D) (R : Option α), (∀ x ∈ ss, x.2.2.1.length ≤ 1000 ∧ x.2.2.2.length ≤ 1000) → A.length + ss.length ≤ 1000000 →
    (∀ y13 y14 y15 y16, kn [x0, x1, x2, x3, x4, x5, some (.lst ((A ++ ss.map fun x => (x.1, x.2.1, f ++ x.2.2.1, x.2.2.2 ++ s)).map eQ)), x7, x8, x9, x10, some (eW f), some (eW s), y13, y14, y15, y16] = R) →
    cF (gTp (gsCons (gNm 13) (gsCons (gNm 14) (gsCons (gNm 15) (gsCons (gNm 16) gsNil))))) b__law_walked_0 (ss.map eQ) [x0, x1, x2, x3, x4, x5, some (.lst (A.map eQ)), x7, x8, x9, x10, some (eW f), some (eW s), x13, x14, x15, x16] kn kr = R
  | [], A, x13, x14, x15, x16, R, _, _, hk => by
    have := hk x13 x14 x15 x16
    rw [List.map_nil, List.append_nil] at this
    exact this
  | x :: ss, A, x13, x14, x15, x16, R, hx, hl, hk => by
    simp only [List.length_cons] at hl
    obtain ⟨a, b, p, q⟩ := x
    obtain ⟨h1, h2⟩ := hx _ (List.mem_cons_self ..)
    have h1 : p.length ≤ 1000 := h1
    have h2 : q.length ≤ 1000 := h2
    have ih := fun x13 x14 x15 x16 => wk_0 hf hs (x0 := x0) (x1 := x1) (x2 := x2) (x3 := x3) (x4 := x4) (x5 := x5) (x7 := x7) (x8 := x8) (x9 := x9) (x10 := x10) (kn := kn) (kr := kr) ss (A ++ [(a, b, f ++ p, q ++ s)]) x13 x14 x15 x16 R (fun y hy => hx y (by simp [hy])) (by simp; omega) (fun y13 y14 y15 y16 => by rw [List.append_assoc]; exact hk y13 y14 y15 y16)
    have c1 := dcT (a := f) (b := p) (by omega)
    have c2 := dcT (a := q) (b := s) (by omega)
    have lt : (A.map eQ).length < 16777216 := by rw [List.length_map]; omega
    have ap : (A ++ [(a, b, f ++ p, q ++ s)]).map eQ = A.map eQ ++ [.tup [.int (a : Nat), .int (b : Nat), eW (f ++ p), eW (q ++ s)]] := by rw [List.map_append]; rfl
    rw [ap] at ih
    rw [List.map_cons, cF_cons]
    show cs b__law_walked_0 [x0, x1, x2, x3, x4, x5, some (.lst (A.map eQ)), x7, x8, x9, x10, some (eW f), some (eW s), some (.int (a : Nat)), some (.int (b : Nat)), some (eW p), some (eW q)] _ kr = R
    rw [r_b__law_walked_0]
    generalize A.map eQ = AA at *
    generalize eW (f ++ p) = FP at *
    generalize eW (q ++ s) = QS at *
    simp_arith [c1, c2, lt]
    exact ih _ _ _ _
theorem stp_wl {k : Nat} {t : Int} {i j : Nat} : ∀ x ∈ stp k t i j, x.2.2.1.length ≤ 1 ∧ x.2.2.2.length ≤ 1 := by
  unfold stp
  intro x hx
  split at hx
  · simp only [List.mem_cons, List.not_mem_nil, or_false] at hx
    subst hx
    exact ⟨by simp, by simp⟩
  split at hx
  · simp only [List.mem_cons, List.not_mem_nil, or_false] at hx
    rcases hx with rfl | rfl <;> exact ⟨by simp, by simp⟩
  split at hx
  · simp only [List.mem_cons, List.not_mem_nil, or_false] at hx
    subst hx
    exact ⟨by simp, by simp⟩
  split at hx
  · simp only [List.mem_cons, List.not_mem_nil, or_false] at hx
    rcases hx with rfl | rfl <;> exact ⟨by simp, by simp⟩
  · simp only [List.mem_cons, List.not_mem_nil, or_false] at hx
    subst hx
    exact ⟨by simp, by simp⟩
theorem stp_n {k : Nat} {t : Int} {i j : Nat} : (stp k t i j).length ≤ 2 ∧ ∀ x ∈ stp k t i j, x.2.1 ≤ max j (k + 1) := by
  unfold stp
  refine ⟨?_, fun x hx => ?_⟩
  · split
    · simp
    split
    · simp
    split
    · simp
    split
    · simp
    · simp
  split at hx
  · simp only [List.mem_cons, List.not_mem_nil, or_false] at hx
    subst hx
    show j ≤ _
    omega
  split at hx
  · simp only [List.mem_cons, List.not_mem_nil, or_false] at hx
    rcases hx with rfl | rfl
    · show j ≤ _
      omega
    · show j ≤ _
      omega
  split at hx
  · simp only [List.mem_cons, List.not_mem_nil, or_false] at hx
    subst hx
    show k ≤ _
    omega
  split at hx
  · simp only [List.mem_cons, List.not_mem_nil, or_false] at hx
    rcases hx with rfl | rfl
    · show k + 1 ≤ _
      omega
    · show k ≤ _
      omega
  · simp only [List.mem_cons, List.not_mem_nil, or_false] at hx
    subst hx
    show j ≤ _
    omega
def QB (b : Nat) (Q : List QP) : Prop := ∀ q ∈ Q, q.1 < q.2.1 ∧ q.2.1 ≤ 100 ∧ q.2.2.1.length ≤ b ∧ q.2.2.2.length ≤ b
theorem ah_b {b k : Nat} {w : Wd} {t : Int} {q : QP} (hk : k ≤ 90) (h : q.1 < q.2.1 ∧ q.2.1 ≤ 100 ∧ q.2.2.1.length ≤ b ∧ q.2.2.2.length ≤ b) : QB (b + 1) (ahP w k t q) ∧ (ahP w k t q).length ≤ 2 ∧ (woP w k q).length ≤ 1 := by
  obtain ⟨h1, h2, h3, h4⟩ := h
  refine ⟨fun x hx => ⟨ah_lt h1 x hx, ?_⟩, ?_, ?_⟩
  · cases w with
    | b =>
      unfold ahP at hx
      simp only at hx
      split at hx
      · cases hx
      · simp only [List.mem_cons, List.not_mem_nil, or_false] at hx
        subst hx
        refine ⟨?_, by show q.2.2.1.length ≤ _; omega, by show q.2.2.2.length ≤ _; omega⟩
        show dn k q.2.1 ≤ 100
        unfold dn
        split <;> omega
    | c =>
      unfold ahP at hx
      simp only at hx
      split at hx
      · cases hx
      · obtain ⟨y, hy, rfl⟩ := List.mem_map.mp hx
        obtain ⟨w1, w2⟩ := stp_wl y hy
        have := stp_n.2 y hy
        refine ⟨?_, ?_, ?_⟩
        · show y.2.1 ≤ 100
          omega
        · show (q.2.2.1 ++ y.2.2.1).length ≤ _
          rw [List.length_append]
          omega
        · show (y.2.2.2 ++ q.2.2.2).length ≤ _
          rw [List.length_append]
          omega
    | e => cases hx
  · cases w with
    | b =>
      unfold ahP
      simp only
      split <;> simp
    | c =>
      unfold ahP
      simp only
      split
      · simp
      · rw [List.length_map]
        exact stp_n.1
    | e => simp [ahP]
  · cases w with
    | b =>
      unfold woP
      simp only
      split <;> simp
    | c => simp [woP]
    | e => simp [woP]
theorem fm_len {α β : Type} {f : α → List β} {m : Nat} : ∀ (Q : List α), (∀ q ∈ Q, (f q).length ≤ m) → (Q.flatMap f).length ≤ Q.length * m
  | [], _ => by simp
  | q :: Q, h => by
    have ih := fm_len Q fun x hx => h x (by simp [hx])
    have := h q (by simp)
    rw [List.flatMap_cons, List.length_append, List.length_cons, Nat.succ_mul]
    omega
theorem wk_1 {α : Type} {w : Wd} (hw : w ≠ .e) {k : Nat} {t : Int} {b : Nat} (hk : k ≤ 90) (hb : b ≤ 900) {x0 x1 x2 x3 : Option D} {kn : DE → Option α} {kr : D → DE → Option α} : ∀ (Q A : List QP) (W : List Wo) (x9 x10 x11 x12 x13 x14 x15 x16 : Option D) (R : Option α), QB b Q → A.length + Q.length * 2 ≤ 1000000 → W.length + Q.length ≤ 1000000 →
    (∀ y9 y10 y11 y12 y13 y14 y15 y16, kn [x0, x1, x2, x3, some (.lst ((W ++ Q.flatMap (woP w k)).map eW)), some (.int t), some (.lst ((A ++ Q.flatMap (ahP w k t)).map eQ)), some (.str w.s), some (.int (k : Nat)), y9, y10, y11, y12, y13, y14, y15, y16] = R) →
    cF (gTp (gsCons (gNm 9) (gsCons (gNm 10) (gsCons (gNm 11) (gsCons (gNm 12) gsNil))))) b__law_walked_1 (Q.map eQ) [x0, x1, x2, x3, some (.lst (W.map eW)), some (.int t), some (.lst (A.map eQ)), some (.str w.s), some (.int (k : Nat)), x9, x10, x11, x12, x13, x14, x15, x16] kn kr = R
  | [], A, W, x9, x10, x11, x12, x13, x14, x15, x16, R, _, _, _, hk' => by
    have := hk' x9 x10 x11 x12 x13 x14 x15 x16
    rw [List.flatMap_nil, List.flatMap_nil, List.append_nil, List.append_nil] at this
    exact this
  | q :: Q, A, W, x9, x10, x11, x12, x13, x14, x15, x16, R, hQ, hA, hW, hk' => by
    simp only [List.length_cons] at hA hW
    have hq := hQ q (by simp)
    obtain ⟨_, n1, n2⟩ := ah_b (w := w) (t := t) hk hq
    obtain ⟨h1, h2, h3, h4⟩ := hq
    have ih := fun x9 x10 x11 x12 x13 x14 x15 x16 => wk_1 hw (t := t) hk hb (x0 := x0) (x1 := x1) (x2 := x2) (x3 := x3) (kn := kn) (kr := kr) Q (A ++ ahP w k t q) (W ++ woP w k q) x9 x10 x11 x12 x13 x14 x15 x16 R (fun y hy => hQ y (by simp [hy])) (by rw [List.length_append]; omega) (by rw [List.length_append]; omega) (fun y9 y10 y11 y12 y13 y14 y15 y16 => by
      rw [List.append_assoc, List.append_assoc, ← List.flatMap_cons, ← List.flatMap_cons]
      exact hk' y9 y10 y11 y12 y13 y14 y15 y16)
    obtain ⟨i, j, f, s⟩ := q
    have h1 : i < j := h1
    have h2 : j ≤ 100 := h2
    have h3 : f.length ≤ b := h3
    have h4 : s.length ≤ b := h4
    rw [List.map_cons, cF_cons]
    show cs b__law_walked_1 [x0, x1, x2, x3, some (.lst (W.map eW)), some (.int t), some (.lst (A.map eQ)), some (.str w.s), some (.int (k : Nat)), some (.int (i : Nat)), some (.int (j : Nat)), some (eW f), some (eW s), x13, x14, x15, x16] _ kr = R
    have k1 : ((k : Nat) : Int) + 1 = ((k + 1 : Nat) : Int) := by omega
    have ne := eq_tup i j k (k + 1)
    have eq := eqE_tup i j k (k + 1)
    have lA : (A.map eQ).length < 16777216 := by rw [List.length_map]; omega
    have lW : (W.map eW).length < 16777216 := by rw [List.length_map]; omega
    have bc : dEq (.str "born") (.str "cross") = some (.bl false) := rfl
    have bb : dEq (.str "born") (.str "born") = some (.bl true) := rfl
    have cc : dEq (.str "cross") (.str "cross") = some (.bl true) := rfl
    have cb : dEq (.str "cross") (.str "born") = some (.bl false) := rfl
    rw [r_b__law_walked_1]
    cases w with
    | e => exact (hw rfl).elim
    | c =>
      rw [s_c] at *
      by_cases e : i = k ∧ j = k + 1
      · have a0 : ahP .c k t (i, j, f, s) = [] := if_pos e
        have w0 : woP .c k (i, j, f, s) = [] := rfl
        rw [a0, w0, List.append_nil, List.append_nil] at ih
        rw [decide_eq_true e] at ne eq
        generalize A.map eQ = AA at *
        generalize W.map eW = WW at *
        generalize eW f = F at *
        generalize eW s = S at *
        simp_arith [cc, cb, k1, ne, eq]
        exact ih _ _ _ _ _ _ _ _
      · have a0 : ahP .c k t (i, j, f, s) = (stp k t i j).map fun x => (x.1, x.2.1, f ++ x.2.2.1, x.2.2.2 ++ s) := if_neg e
        have w0 : woP .c k (i, j, f, s) = [] := rfl
        have st := steps_ok (t := t) h1 e (by omega) h2
        have sn := stp_n (k := k) (t := t) (i := i) (j := j)
        have go := fun (kn : DE → Option α) => wk_0 (f := f) (s := s) (by omega) (by omega) (x0 := x0) (x1 := x1) (x2 := x2) (x3 := x3) (x4 := some (.lst (W.map eW))) (x5 := some (.int t)) (x7 := some (.str "cross")) (x8 := some (.int (k : Nat))) (x9 := some (.int (i : Nat))) (x10 := some (.int (j : Nat))) (kn := kn) (kr := kr) (stp k t i j) A x13 x14 x15 x16 R (fun x hx => by
          have := stp_wl x hx
          omega) (by omega)
        rw [a0, w0, List.append_nil] at ih
        rw [decide_eq_false e] at ne eq
        generalize (A ++ (stp k t i j).map fun x => (x.1, x.2.1, f ++ x.2.2.1, x.2.2.2 ++ s)).map eQ = A2 at *
        generalize A.map eQ = AA at *
        generalize W.map eW = WW at *
        generalize eW f = F at *
        generalize eW s = S at *
        generalize (stp k t i j).map eQ = SS at *
        simp_arith [cc, cb, k1, ne, eq, st]
        exact go _ fun y13 y14 y15 y16 => ih _ _ _ _ _ _ _ _
    | b =>
      rw [s_b] at *
      have g1 : ∀ a : Nat, dGt (.int (a : Nat)) (.int (k : Nat)) = some (.bl (decide (k < a))) := fun a => by
        rw [r_gt]
        congr 2
        exact decide_eq_decide.mpr (by omega)
      by_cases e : i = k ∧ j = k + 1
      · have a0 : ahP .b k t (i, j, f, s) = [] := if_pos (.inl e.1)
        have w0 : woP .b k (i, j, f, s) = [f ++ s] := if_pos e
        have c1 := dcT (a := f) (b := s) (by omega)
        have ap : (W ++ [f ++ s]).map eW = W.map eW ++ [eW (f ++ s)] := by rw [List.map_append]; rfl
        rw [a0, w0, List.append_nil, ap] at ih
        rw [decide_eq_true e] at ne eq
        generalize A.map eQ = AA at *
        generalize W.map eW = WW at *
        generalize eW (f ++ s) = FS at *
        generalize eW f = F at *
        generalize eW s = S at *
        simp_arith [bc, bb, k1, ne, eq, c1, lW]
        exact ih _ _ _ _ _ _ _ _
      · have w0 : woP .b k (i, j, f, s) = [] := if_neg e
        have i2 : dNi (.int (i : Nat)) (.tup [.int (k : Nat), .int ((k + 1 : Nat) : Int)]) = some (.bl (!(decide (i = k) || decide (i = k + 1)))) := by
          rw [ni2]
          congr 3
          rw [show decide (((i : Nat) : Int) = (k : Nat)) = decide (i = k) from decide_eq_decide.mpr (by omega), show decide (((i : Nat) : Int) = ((k + 1 : Nat) : Int)) = decide (i = k + 1) from decide_eq_decide.mpr (by omega)]
        have j2 : dNi (.int (j : Nat)) (.tup [.int (k : Nat), .int ((k + 1 : Nat) : Int)]) = some (.bl (!(decide (j = k) || decide (j = k + 1)))) := by
          rw [ni2]
          congr 3
          rw [show decide (((j : Nat) : Int) = (k : Nat)) = decide (j = k) from decide_eq_decide.mpr (by omega), show decide (((j : Nat) : Int) = ((k + 1 : Nat) : Int)) = decide (j = k + 1) from decide_eq_decide.mpr (by omega)]
        rw [w0, List.append_nil] at ih
        rw [decide_eq_false e] at ne eq
        by_cases ei : i = k ∨ i = k + 1
        · have a0 : ahP .b k t (i, j, f, s) = [] := if_pos (by show i = k ∨ i = k + 1 ∨ j = k ∨ j = k + 1; omega)
          have b0 : (!(decide (i = k) || decide (i = k + 1))) = false := by simp; omega
          rw [a0, List.append_nil] at ih
          rw [b0] at i2
          generalize A.map eQ = AA at *
          generalize W.map eW = WW at *
          generalize eW f = F at *
          generalize eW s = S at *
          simp_arith [bc, bb, k1, ne, eq, i2]
          exact ih _ _ _ _ _ _ _ _
        have bi : (!(decide (i = k) || decide (i = k + 1))) = true := by simp; omega
        rw [bi] at i2
        by_cases ej : j = k ∨ j = k + 1
        · have a0 : ahP .b k t (i, j, f, s) = [] := if_pos (by show i = k ∨ i = k + 1 ∨ j = k ∨ j = k + 1; omega)
          have b0 : (!(decide (j = k) || decide (j = k + 1))) = false := by simp; omega
          rw [a0, List.append_nil] at ih
          rw [b0] at j2
          generalize A.map eQ = AA at *
          generalize W.map eW = WW at *
          generalize eW f = F at *
          generalize eW s = S at *
          simp_arith [bc, bb, k1, ne, eq, i2, j2]
          exact ih _ _ _ _ _ _ _ _
        have bj : (!(decide (j = k) || decide (j = k + 1))) = true := by simp; omega
        rw [bj] at j2
        have a0 : ahP .b k t (i, j, f, s) = [(dn k i, dn k j, f, s)] := if_neg (by show ¬ (i = k ∨ i = k + 1 ∨ j = k ∨ j = k + 1); omega)
        have ap : (A ++ [(dn k i, dn k j, f, s)]).map eQ = A.map eQ ++ [.tup [.int (dn k i : Nat), .int (dn k j : Nat), eW f, eW s]] := by rw [List.map_append]; rfl
        rw [a0, ap] at ih
        have dd : ∀ a : Nat, a ≠ k → a ≠ k + 1 → ∃ c : Int, fInt [.bl (decide (k < a))] = some (.int c) ∧ dMul (.int 2) (.int c) = some (.int (2 * c)) ∧ (a : Int) - 2 * c = ((dn k a : Nat) : Int) := fun a h1 h2 => by
          by_cases h : k < a
          · rw [decide_eq_true h]
            refine ⟨1, rfl, r_mul (cMul_l (by omega)), ?_⟩
            unfold dn
            rw [if_neg (by omega)]
            omega
          · rw [decide_eq_false h]
            refine ⟨0, rfl, r_mul (cMul_l (by omega)), ?_⟩
            unfold dn
            rw [if_pos (by omega)]
            omega
        obtain ⟨ci, f1, m1, d1⟩ := dd i (by omega) (by omega)
        obtain ⟨cj, f2, m2', d2⟩ := dd j (by omega) (by omega)
        have gi := g1 i
        have gj := g1 j
        generalize decide (k < i) = Bi at *
        generalize decide (k < j) = Bj at *
        generalize A.map eQ = AA at *
        generalize W.map eW = WW at *
        generalize eW f = F at *
        generalize eW s = S at *
        simp_arith [bc, bb, k1, ne, eq, i2, j2, gi, gj, f1, f2, m1, m2', d1, d2, lA]
        exact ih _ _ _ _ _ _ _ _
theorem fl_ok {i : Int} (h1 : -1000000 ≤ i) (h2 : i ≤ 1000000) : Builtin.Range.rangeFitsLong i = true := by
  unfold Builtin.Range.rangeFitsLong
  simp only [Bool.and_eq_true, decide_eq_true_eq]
  constructor <;> omega
theorem rs_down (n : Nat) : Builtin.Range.rangeSize ((n : Int) - 1) (-1) (-1) = n := by
  unfold Builtin.Range.rangeSize
  rw [if_neg (by omega), show (- -1 : Int) = 1 from rfl, Int.ediv_one]
  split <;> omega
theorem okC_down (n : Nat) (h : n < 100000) : okC ((n : Int) - 1) (-1) (-1) = true := by
  unfold okC Builtin.Range.small
  rw [rs_down, fl_ok (by omega) (by omega), fl_ok (by omega) (by omega), fl_ok (by omega) (by omega), fl_ok (by omega) (by omega)]
  simp
  exact .inr (fl_ok (by omega) (by omega))
theorem rng_down (n : Nat) : rngC ((n : Int) - 1) (-1) n = (List.range n).reverse.map fun i : Nat => D.int (i : Nat) := by
  apply List.ext_getElem?
  intro i
  unfold rngC
  rw [List.getElem?_map, List.getElem?_map]
  by_cases hi : i < n
  · rw [List.getElem?_range hi, List.getElem?_reverse (by simpa using hi), List.getElem?_range (by simp; omega)]
    simp
    omega
  · rw [List.getElem?_eq_none (by simpa using hi), List.getElem?_eq_none (by simpa using hi)]
    rfl
theorem wk_2 {α : Type} {b0 : Nat} {L : List Lr} {x1 x2 : Option D} {kn : DE → Option α} {kr : D → DE → Option α} : ∀ (R : List Lr) (b : Nat) (Q : List QP) (W : List Wo) (x5 x6 x7 x8 x9 x10 x11 x12 x13 x14 x15 x16 : Option D) (Z : Option α), R.reverse <+: L → (∀ l ∈ R, l.1 ≠ .e ∧ 0 ≤ l.2 ∧ l.2 ≤ 90) → QB b Q → b + R.length ≤ 900 → Q.length * 2 ^ R.length * (R.length + 1) + W.length ≤ 500000 →
    (∀ y3 y5 y6 y7 y8 y9 y10 y11 y12 y13 y14 y15 y16, kn [some (.lst (L.map eL)), x1, x2, y3, some (.lst ((W ++ wkW R Q).map eW)), y5, y6, y7, y8, y9, y10, y11, y12, y13, y14, y15, y16] = Z) →
    cF (gNm 5) b__law_walked_2 ((List.range R.length).reverse.map fun i : Nat => D.int (i : Nat)) [some (.lst (L.map eL)), x1, x2, some (.lst (Q.map eQ)), some (.lst (W.map eW)), x5, x6, x7, x8, x9, x10, x11, x12, x13, x14, x15, x16] kn kr = Z
  | [], b, Q, W, x5, x6, x7, x8, x9, x10, x11, x12, x13, x14, x15, x16, Z, _, _, _, _, _, hk => by
    have := hk (some (.lst (Q.map eQ))) x5 x6 x7 x8 x9 x10 x11 x12 x13 x14 x15 x16
    rw [show wkW [] Q = [] from rfl, List.append_nil] at this
    exact this
  | (w, k) :: R, b, Q, W, x5, x6, x7, x8, x9, x10, x11, x12, x13, x14, x15, x16, Z, hp, hR, hQ, hb, hc, hk => by
    simp only [List.length_cons] at hb hc
    obtain ⟨hw, k0, k9⟩ := hR (w, k) (by simp)
    obtain ⟨q, rfl⟩ := Int.eq_ofNat_of_zero_le k0
    have k9 : q ≤ 90 := by have : ((q : Nat) : Int) ≤ 90 := k9; omega
    have hw : w ≠ .e := hw
    have at0 : L[R.length]? = some (w, ((q : Nat) : Int)) := by
      obtain ⟨B, rfl⟩ := hp
      rw [List.reverse_cons, List.append_assoc, List.getElem?_append_right (by simp)]
      simp
    have aL : atI (L.map eL) ((R.length : Nat) : Int) = some (eL (w, ((q : Nat) : Int))) := by
      have hlt := (List.getElem?_eq_some_iff.mp at0).1
      rw [at_nn (by rw [List.length_map]; exact hlt), List.getElem?_map, at0]
      rfl
    have pw : Q.length * 2 ^ (R.length + 1) * (R.length + 1 + 1) = Q.length * 2 * 2 ^ R.length * (R.length + 1) + Q.length * 2 * 2 ^ R.length := by
      rw [Nat.pow_succ, Nat.mul_add (Q.length * (2 ^ R.length * 2)) (R.length + 1) 1, Nat.mul_one, Nat.mul_comm (2 ^ R.length) 2, ← Nat.mul_assoc Q.length 2]
    have p1 : Q.length ≤ Q.length * 2 * 2 ^ R.length := by
      have := Nat.two_pow_pos R.length
      rw [Nat.mul_assoc]
      exact Nat.le_mul_of_pos_right _ (by omega)
    have hA : (Q.flatMap (ahP w q (R.length : Nat))).length ≤ Q.length * 2 := fm_len Q fun x hx => (ah_b k9 (hQ x hx)).2.1
    have hW : (Q.flatMap (woP w q)).length ≤ Q.length * 1 := fm_len Q fun x hx => (ah_b (t := 0) k9 (hQ x hx)).2.2
    have hA2 : (Q.flatMap (ahP w q (R.length : Nat))).length * 2 ^ R.length * (R.length + 1) ≤ Q.length * 2 * 2 ^ R.length * (R.length + 1) := Nat.mul_le_mul_right _ (Nat.mul_le_mul_right _ hA)
    have p2 : Q.length * 2 ≤ Q.length * 2 * 2 ^ R.length := Nat.le_mul_of_pos_right _ (Nat.two_pow_pos _)
    have ih := fun x5 x6 x7 x8 x9 x10 x11 x12 x13 x14 x15 x16 => wk_2 (b0 := b0) (L := L) (x1 := x1) (x2 := x2) (kn := kn) (kr := kr) R (b + 1) (Q.flatMap (ahP w q (R.length : Nat))) (W ++ Q.flatMap (woP w q)) x5 x6 x7 x8 x9 x10 x11 x12 x13 x14 x15 x16 Z (by
      refine List.IsPrefix.trans ?_ hp
      rw [List.reverse_cons]
      exact List.prefix_append _ _) (fun l hl => hR l (by simp [hl])) (fun x hx => by
      obtain ⟨p, hp, hx⟩ := List.mem_flatMap.mp hx
      exact (ah_b k9 (hQ p hp)).1 x hx) (by omega) (by rw [List.length_append]; omega) (fun y3 y5 y6 y7 y8 y9 y10 y11 y12 y13 y14 y15 y16 => by
      have := hk y3 y5 y6 y7 y8 y9 y10 y11 y12 y13 y14 y15 y16
      rw [List.append_assoc]
      exact this)
    have go := fun (kn : DE → Option α) => wk_1 hw (k := q) (t := ((R.length : Nat) : Int)) (b := b) k9 (by omega) (x0 := some (.lst (L.map eL))) (x1 := x1) (x2 := x2) (x3 := some (.lst (Q.map eQ))) (kn := kn) (kr := kr) Q [] W x9 x10 x11 x12 x13 x14 x15 x16 Z hQ (by simp; omega) (by omega)
    rw [List.length_cons, List.range_succ, List.reverse_append, List.reverse_singleton, List.singleton_append, List.map_cons, cF_cons]
    show cs b__law_walked_2 [some (.lst (L.map eL)), x1, x2, some (.lst (Q.map eQ)), some (.lst (W.map eW)), some (.int (R.length : Nat)), x6, x7, x8, x9, x10, x11, x12, x13, x14, x15, x16] _ kr = Z
    rw [List.nil_append] at go
    rw [show ([] : List QP).map eQ = [] from rfl] at go
    rw [eL_mk] at aL
    rw [r_b__law_walked_2]
    generalize L.map eL = LL at *
    generalize Q.map eQ = QQ at *
    generalize W.map eW = WW at *
    simp_arith [aL]
    refine go _ fun y9 y10 y11 y12 y13 y14 y15 y16 => ?_
    generalize (Q.flatMap (ahP w q (R.length : Nat))).map eQ = Q2 at *
    generalize (W ++ Q.flatMap (woP w q)).map eW = W2 at *
    simp_arith []
    exact ih _ _ _ _ _ _ _ _ _ _ _ _
theorem walked_ok {L : List Lr} (hL : ∀ l ∈ L, l.1 ≠ .e ∧ 0 ≤ l.2 ∧ l.2 ≤ 90) (hl : L.length ≤ 12) {i j : Nat} (ij : i < j) (hj : j ≤ 100) : ∃ es, F__law_walked [.lst (L.map eL), .int (i : Nat), .int (j : Nat)] = some (eS (oddS (wkW L.reverse [(i, j, [], [])])), es) := by
  refine ⟨[.lst (L.map eL), .int (i : Nat), .int (j : Nat)], ?_⟩
  have rs := rs_down L.length
  have oc := okC_down L.length (by omega)
  have rd := rng_down L.length
  have tn : Int.toNat ((L.length : Nat) : Int) = L.length := by omega
  have p : 2 ^ L.length ≤ 2 ^ 12 := Nat.pow_le_pow_right (by omega) hl
  have pm : 1 * 2 ^ L.length * (L.length + 1) ≤ 1 * 2 ^ 12 * 13 := Nat.mul_le_mul (Nat.mul_le_mul_left 1 p) (by omega)
  have go := fun (kn : DE → Option (D × List D)) (kr : D → DE → Option (D × List D)) (Z : Option (D × List D)) => wk_2 (b0 := 0) (L := L) (x1 := some (.int (i : Nat))) (x2 := some (.int (j : Nat))) (kn := kn) (kr := kr) L.reverse 0 [(i, j, [], [])] [] none none none none none none none none none none none none Z (by rw [List.reverse_reverse]; exact List.prefix_refl _) (fun l hl => hL l (List.mem_reverse.mp hl)) (fun q hq => by
    simp only [List.mem_cons, List.not_mem_nil, or_false] at hq
    subst hq
    exact ⟨ij, hj, Nat.le_refl 0, Nat.le_refl 0⟩) (by rw [List.length_reverse]; omega) (by rw [List.length_reverse]; simp only [List.length_cons, List.length_nil, Nat.zero_add] at *; omega)
  rw [List.length_reverse, List.nil_append] at go
  have wl : (wkW L.reverse [(i, j, [], [])]).length ≤ 1000000 := by
    have key : ∀ (R : List Lr) (Q : List QP), (wkW R Q).length ≤ Q.length * 2 ^ R.length * (R.length + 1) := fun R => by
      induction R with
      | nil => intro Q; simp [wkW]
      | cons l R ih =>
        intro Q
        obtain ⟨w, k⟩ := l
        show (Q.flatMap (woP w k.toNat) ++ wkW R (Q.flatMap (ahP w k.toNat (R.length : Nat)))).length ≤ _
        have hA : (Q.flatMap (ahP w k.toNat (R.length : Nat))).length ≤ Q.length * 2 := fm_len Q fun x hx => by
          cases w with
          | b =>
            unfold ahP
            simp only
            split <;> simp
          | c =>
            unfold ahP
            simp only
            split
            · simp
            · rw [List.length_map]
              exact stp_n.1
          | e => simp [ahP]
        have hW : (Q.flatMap (woP w k.toNat)).length ≤ Q.length * 1 := fm_len Q fun x hx => by
          cases w with
          | b =>
            unfold woP
            simp only
            split <;> simp
          | c => simp [woP]
          | e => simp [woP]
        have i1 := ih (Q.flatMap (ahP w k.toNat (R.length : Nat)))
        have hA2 : (Q.flatMap (ahP w k.toNat (R.length : Nat))).length * 2 ^ R.length * (R.length + 1) ≤ Q.length * 2 * 2 ^ R.length * (R.length + 1) := Nat.mul_le_mul_right _ (Nat.mul_le_mul_right _ hA)
        have pw : Q.length * 2 ^ (R.length + 1) * (R.length + 1 + 1) = Q.length * 2 * 2 ^ R.length * (R.length + 1) + Q.length * 2 * 2 ^ R.length := by
          rw [Nat.pow_succ, Nat.mul_add (Q.length * (2 ^ R.length * 2)) (R.length + 1) 1, Nat.mul_one, Nat.mul_comm (2 ^ R.length) 2, ← Nat.mul_assoc Q.length 2]
        have p1 : Q.length ≤ Q.length * 2 * 2 ^ R.length := by
          have := Nat.two_pow_pos R.length
          rw [Nat.mul_assoc]
          exact Nat.le_mul_of_pos_right _ (by omega)
        rw [List.length_append, List.length_cons, pw]
        omega
    have := key L.reverse [(i, j, [], [])]
    rw [List.length_reverse] at this
    simp only [List.length_cons, List.length_nil, Nat.zero_add] at *
    omega
  have od := lawodd_ok wl
  have od : F__law_odd [.lst ((wkW L.reverse [(i, j, [], [])]).map eW)] = some (eS (oddS (wkW L.reverse [(i, j, [], [])])), [.lst ((wkW L.reverse [(i, j, [], [])]).map eW)]) := od
  have q0 : [((i, j, [], []) : QP)].map eQ = [.tup [.int (i : Nat), .int (j : Nat), .tup [], .tup []]] := rfl
  have w0 : ([] : List Wo).map eW = [] := rfl
  rw [q0, w0] at go
  generalize (wkW L.reverse [(i, j, [], [])]).map eW = WK at *
  have fl : fLen [.lst (L.map eL)] = some (.int ((L.length : Nat) : Int)) := by
    show some (D.int ((L.map eL).length : Int)) = _
    rw [List.length_map]
  generalize L.map eL = LL at *
  unfold F__law_walked m__law_walked
  simp_arith [fl, oc, rs, tn, rd]
  refine go _ _ _ fun y3 y5 y6 y7 y8 y9 y10 y11 y12 y13 y14 y15 y16 => ?_
  simp_arith [od]
def SI (k : Nat) (ρ : DE) : Prop := ∃ (bg : D) (L : List Lr) (m : Int) (x3 : Option D), ρ = [some bg, some (.lst (L.map eL)), some (.int m), x3] ∧ Bg bg ∧ OkL 0 (L.map eL) m ∧ (∀ l ∈ L, l.1 ≠ .e ∧ 0 ≤ l.2 ∧ l.2 ≤ 90) ∧ 2 ≤ m ∧ m ≤ 8 ∧ L.length ≤ 1 + k
theorem r_b__law_simple_0 {α : Type} {ρ : DE} {kn : DE → Option α} {kr : D → DE → Option α} : cs b__law_simple_0 ρ kn kr = cs (sIf (mAnd (m2 dLt (mV 2) (mC (.int 7))) (m2 dEq (mCallO F__law_take (some (0, 0)) (mCons (mV 0) (mCons (mC (.int 5)) mNil))) (mC (.int 0)))) (sSeq (sApp 1 (mTup (mCons (mC (.str "born")) (mCons (mCallO F__law_take (some (0, 0)) (mCons (mV 0) (mCons (m2 dAdd (mV 2) (mC (.int 1))) mNil))) mNil)))) (sAsg 2 (m2 dAdd (mV 2) (mC (.int 2))))) (sIf (m2 dLt (mB fLen (mCons (mV 1) mNil)) (mC (.int 11))) (sApp 1 (mTup (mCons (mC (.str "cross")) (mCons (mCallO F__law_take (some (0, 0)) (mCons (mV 0) (mCons (m2 dSub (mV 2) (mC (.int 1))) mNil))) mNil)))) sNil)) ρ kn kr := rfl
theorem si_step (k : Nat) (hk : k < 1000) (d : D) (ρ : DE) (h : SI k ρ) : ∃ ρ1 ρ2, gNm 3 d ρ = some ρ1 ∧ b__law_simple_0 ρ1 = some (.nx ρ2) ∧ SI (k + 1) ρ2 := by
  obtain ⟨bg, L, m, x3, rfl, hb, C, hL, mn2, mx8, hl⟩ := h
  have lt : (L.map eL).length < 16777216 := by simp; omega
  have fl : fLen [.lst (L.map eL)] = some (.int ((L.length : Nat) : Int)) := by
    show some (D.int ((L.map eL).length : Int)) = _
    rw [List.length_map]
  have tail : ∀ bg1, Bg bg1 → ∃ ρ2, (∀ (α : Type) (kn : DE → Option α) (kr : D → DE → Option α), cs (sIf (m2 dLt (mB fLen (mCons (mV 1) mNil)) (mC (.int 11))) (sApp 1 (mTup (mCons (mC (.str "cross")) (mCons (mCallO F__law_take (some (0, 0)) (mCons (mV 0) (mCons (m2 dSub (mV 2) (mC (.int 1))) mNil))) mNil)))) sNil) [some bg1, some (.lst (L.map eL)), some (.int m), some d] kn kr = kn ρ2) ∧ SI (k + 1) ρ2 := fun bg1 hb1 => by
    by_cases c : ((L.length : Nat) : Int) < 11
    · obtain ⟨q, bg2, e2, q0, q1, hb2⟩ := take_bg hb1 (m - 1) (by omega) (by omega)
      have ap : (L ++ [((.c, q) : Lr)]).map eL = L.map eL ++ [.tup [.str "cross", .int q]] := by rw [List.map_append]; rfl
      refine ⟨[some bg2, some (.lst ((L ++ [((.c, q) : Lr)]).map eL)), some (.int m), some d], fun α kn kr => ?_, ⟨_, _, _, _, rfl, hb2, ?_, ?_, mn2, mx8, by simp; omega⟩⟩
      · rw [ap]
        generalize L.map eL = LL at *
        have c' : ((L.length : Nat) : Int) < 11 := c
        generalize ((L.length : Nat) : Int) = n at *
        simp_arith [fl, e2, lt, c']
      · rw [List.map_append]
        exact C.app (okl_c (m := m) (L := []) |>.mpr ⟨by omega, by omega, rfl⟩)
      · intro l hl
        rcases List.mem_append.mp hl with hl | hl
        · exact hL l hl
        · simp only [List.mem_cons, List.not_mem_nil, or_false] at hl
          subst hl
          exact ⟨(by intro h; cases h), q0, (by show q ≤ 90; omega)⟩
    · refine ⟨[some bg1, some (.lst (L.map eL)), some (.int m), some d], fun α kn kr => ?_, ⟨_, _, _, _, rfl, hb1, C, hL, mn2, mx8, by omega⟩⟩
      generalize L.map eL = LL at *
      generalize ((L.length : Nat) : Int) = n at *
      simp_arith [fl, c]
  by_cases c7 : m < 7
  · obtain ⟨r, bg1, e1, r0, r1, hb1⟩ := take_bg hb 5 (by omega) (by omega)
    by_cases cr : r = 0
    · obtain ⟨q, bg2, e2, q0, q1, hb2⟩ := take_bg hb1 (m + 1) (by omega) (by omega)
      have ap : (L ++ [((.b, q) : Lr)]).map eL = L.map eL ++ [.tup [.str "born", .int q]] := by rw [List.map_append]; rfl
      refine ⟨_, [some bg2, some (.lst ((L ++ [((.b, q) : Lr)]).map eL)), some (.int (m + 2)), some d], rfl, ?_, ⟨_, _, _, _, rfl, hb2, ?_, ?_, by omega, by omega, by simp; omega⟩⟩
      · rw [ap, run_cs b__law_simple_0, r_b__law_simple_0]
        generalize L.map eL = LL at *
        subst cr
        simp_arith [c7, e1, e2, lt]
      · rw [List.map_append]
        have : m ≤ 6 := by
          have := OkL.mv C
          rw [mv_cnt] at this
          omega
        exact C.app (okl_b (m := m) (L := []) |>.mpr ⟨by omega, by omega, rfl⟩)
      · intro l hl
        rcases List.mem_append.mp hl with hl | hl
        · exact hL l hl
        · simp only [List.mem_cons, List.not_mem_nil, or_false] at hl
          subst hl
          exact ⟨(by intro h; cases h), q0, (by show q ≤ 90; omega)⟩
    · obtain ⟨ρ2, z, s⟩ := tail bg1 hb1
      refine ⟨_, ρ2, rfl, ?_, s⟩
      rw [run_cs b__law_simple_0, r_b__law_simple_0]
      have z1 := z Out (fun ρ1 => some (.nx ρ1)) fun d ρ1 => some (.rt d ρ1)
      generalize L.map eL = LL at *
      generalize hT : (sIf (m2 dLt (mB fLen (mCons (mV 1) mNil)) (mC (.int 11))) (sApp 1 (mTup (mCons (mC (.str "cross")) (mCons (mCallO F__law_take (some (0, 0)) (mCons (mV 0) (mCons (m2 dSub (mV 2) (mC (.int 1))) mNil))) mNil)))) sNil) = T at *
      have cr' : ¬ r = 0 := cr
      simp_arith [c7, e1, cr', z1]
  · obtain ⟨ρ2, z, s⟩ := tail bg hb
    refine ⟨_, ρ2, rfl, ?_, s⟩
    rw [run_cs b__law_simple_0, r_b__law_simple_0]
    have z1 := z Out (fun ρ1 => some (.nx ρ1)) fun d ρ1 => some (.rt d ρ1)
    generalize L.map eL = LL at *
    generalize hT : (sIf (m2 dLt (mB fLen (mCons (mV 1) mNil)) (mC (.int 11))) (sApp 1 (mTup (mCons (mC (.str "cross")) (mCons (mCallO F__law_take (some (0, 0)) (mCons (mV 0) (mCons (m2 dSub (mV 2) (mC (.int 1))) mNil))) mNil)))) sNil) = T at *
    simp_arith [c7, z1]
theorem simple_ok {bg : D} (hb : Bg bg) : ∃ (L : List Lr) (m : Int) (es : List D), F__law_simple [bg] = some (.lst (L.map eL), es) ∧ OkL 0 (L.map eL) m ∧ (∀ l ∈ L, l.1 ≠ .e ∧ 0 ≤ l.2 ∧ l.2 ≤ 90) ∧ 2 ≤ m ∧ m ≤ 8 ∧ L.length ≤ 12 := by
  obtain ⟨r, bg1, e1, r0, r1, hb1⟩ := take_bg hb 11 (by omega) (by omega)
  obtain ⟨ρ', e4, bg4, L', m, x3, rfl, hb4, C, hL, mn2, mx8, hl'⟩ := itF_inv (mg := gNm 3) (mb := b__law_simple_0) SI (rngD 0 (r).toNat) 0 [some bg1, some (.lst ([((Wd.b, 0) : Lr)].map eL)), some (.int 2), none]
    (fun i d ed ρ hi => si_step (0 + i) (by have := (List.getElem?_eq_some_iff.mp ed).1; simp [rngD] at this; omega) d ρ hi) ⟨_, _, _, _, rfl, hb1, okl_b.mpr ⟨by omega, by omega, rfl⟩, fun l hl => by
      simp only [List.mem_cons, List.not_mem_nil, or_false] at hl
      subst hl
      exact ⟨by decide, by decide, by decide⟩, by omega, by omega, by simp⟩
  have lim : lim62 r = true := lim62_of (by omega) (by omega)
  have e4 : itF (gNm 3) b__law_simple_0 (rngD 0 (r).toNat) [some bg1, some (.lst [D.tup [.str "born", .int 0]]), some (.int 2), none] = some (.nx [some bg4, some (.lst (L'.map eL)), some (.int m), x3]) := e4
  refine ⟨L', m, [bg4], ?_, C, hL, mn2, mx8, by simp [rngD] at hl'; omega⟩
  unfold F__law_simple m__law_simple
  simp_arith [e1, lim]
  rw [cF_e e4]
  simp_arith []
theorem run_st : ∀ (L : List Lr) (t n : Nat) (g : TF) (Ts : List (Nat × TF)), runT t n g L = some Ts → ∀ i ≤ L.length, ((n, g) :: Ts)[i]? = some (stG t n g (L.take i))
  | [], t, n, g, Ts, h, i, hi => by
    have : i = 0 := by simpa using hi
    subst this
    rfl
  | (w, k) :: L, t, n, g, Ts, h, i, hi => by
    rw [runT] at h
    split at h
    · cases hr : runT (t + 1) (nxN w n) (nxG w k.toNat t g) L with
      | none => rw [hr] at h; cases h
      | some Ts' =>
        rw [hr] at h
        cases h
        cases i with
        | zero => rfl
        | succ i => exact run_st L (t + 1) (nxN w n) (nxG w k.toNat t g) Ts' hr i (by simpa using hi)
    · cases h
theorem ends_ok : ∀ (n : Nat), OkL ((2 * n : Nat) : Int) ((List.replicate n ((.e, 0) : Lr)).map eL) 0
  | 0 => rfl
  | n + 1 => by
    rw [List.replicate_succ]
    refine okl_e.mpr ⟨by omega, by omega, ?_⟩
    rw [show (((2 * (n + 1) : Nat) : Int) - 2) = ((2 * n : Nat) : Int) by omega]
    exact ends_ok n
theorem cw_noe : ∀ (L : List Lr), (∀ l ∈ L, l.1 ≠ .e) → cw .e L = 0 := fun L h => by
  unfold cw
  rw [List.countP_eq_zero]
  intro l hl
  have := h l hl
  simpa using this
theorem cw_rep (n : Nat) : cw .e (List.replicate n ((.e, 0) : Lr)) = n ∧ cw .b (List.replicate n ((.e, 0) : Lr)) = 0 := by
  unfold cw
  constructor
  · rw [List.countP_replicate]
    rfl
  · rw [List.countP_replicate]
    rfl
theorem rows_le : ∀ (L : List Lr) (t n : Nat) (g : TF) (Ts : List (Nat × TF)), OkL (n : Int) (L.map eL) 0 → Mx (n : Int) L → runT t n g L = some Ts → Ts.length = L.length ∧ ∀ p ∈ Ts, p.1 ≤ 8
  | [], t, n, g, Ts, _, _, h => by
    cases h
    exact ⟨rfl, fun p hp => by cases hp⟩
  | (w, k) :: L, t, n, g, Ts, ok, mx, h => by
    obtain ⟨q, rfl, hf, ok2⟩ := fit_of ok
    obtain ⟨n8, mx2⟩ := mx_nx hf mx
    have n8' := mx_hd mx2
    have rT : runT t n g ((w, ((q : Nat) : Int)) :: L) = if okT (nxN w n) (nxG w q t g) = true then (runT (t + 1) (nxN w n) (nxG w q t g) L).map fun r => (nxN w n, nxG w q t g) :: r else none := by
      rw [runT, Int.toNat_natCast]
    rw [rT] at h
    split at h
    · cases hr : runT (t + 1) (nxN w n) (nxG w q t g) L with
      | none => rw [hr] at h; cases h
      | some Ts' =>
        rw [hr] at h
        cases h
        obtain ⟨i1, i2⟩ := rows_le L (t + 1) (nxN w n) (nxG w q t g) Ts' ok2 mx2 hr
        exact ⟨by simp [i1], fun p hp => by
          rcases List.mem_cons.mp hp with rfl | hp
          · exact n8'
          · exact i2 p hp⟩
    · cases h
theorem r_b_law_0 {α : Type} {ρ : DE} {kn : DE → Option α} {kr : D → DE → Option α} : cs b_law_0 ρ kn kr = cs (sIf (mAnd (m2 (dIsV true) (mV 7) (mC .non)) (m2 dNe (m2 dIx (m2 dIx (mV 7) (mV 6)) (mV 8)) (mCall F__law_walked (mCons (mV 2) (mCons (mV 6) (mCons (mV 8) mNil)))))) (sRet (mC (.bl false))) sNil) ρ kn kr := rfl
theorem r_b_law_1 {α : Type} {ρ : DE} {kn : DE → Option α} {kr : D → DE → Option α} : cs b_law_1 ρ kn kr = cs (sFor (mRng2 (mCons (m2 dAdd (mV 6) (mC (.int 1))) (mCons (mV 4) mNil))) (gNm 8) b_law_0) ρ kn kr := rfl
theorem r_b_law_2 {α : Type} {ρ : DE} {kn : DE → Option α} {kr : D → DE → Option α} : cs b_law_2 ρ kn kr = cs (sSeq (sAsg 2 (mCallO F__law_simple (none) (mCons (mCall F__law_bag (mCons (mV 0) (mCons (mV 1) mNil))) mNil))) (sSeq (sAsg 3 (mF (mLc (true && (true && true)) [9] (mSeq (mV 2)) (gNm 9) mYes (m2 dIxP (mV 9) (mC (.int 0)))))) (sSeq (sAsg 4 (m2 dMul (mC (.int 2)) (m2 dCnt (mV 3) (mC (.str "born"))))) (sSeq (sAsg 5 (m2 dCat (mV 2) (mLc (true && (true && true)) [10] (mRng1 (mCons (m2 dDiv (mV 4) (mC (.int 2))) mNil)) (gNm 10) mYes (mTup (mCons (mC (.str "end")) (mCons (mC (.int 0)) mNil)))))) (sSeq (sTryN exCs 1 (sAsg 7 (m2 dIxQ (mCallO F_between (none) (mCons (mV 5) mNil)) (mB fLen (mCons (mV 2) mNil)))) (xCall FX_between (mCons (mV 5) mNil)) (sAsg 7 (mC .non))) (sFor (mRng1 (mCons (mV 4) mNil)) (gNm 6) b_law_1)))))) ρ kn kr := rfl
def tbX (n : Nat) (o : Option TF) : D := match o with
  | some g => tbD n g
  | none => .non
theorem lw_0 {α : Type} {L : List Lr} (hL : ∀ l ∈ L, l.1 ≠ .e ∧ 0 ≤ l.2 ∧ l.2 ≤ 90) (hl : L.length ≤ 12) {n i : Nat} (hn : n ≤ 100) {o : Option TF} (ho : ∀ g, o = some g → g = (stG 0 0 g0 L).2) {x0 x1 x3 x4 x5 x9 x10 : Option D} {kn : DE → Option α} {kr : D → DE → Option α} : ∀ (js : List Nat) (x8 : Option D) (R : Option α), (∀ j ∈ js, i < j ∧ j < n) →
    (∀ y8, kn [x0, x1, some (.lst (L.map eL)), x3, x4, x5, some (.int (i : Nat)), some (tbX n o), y8, x9, x10] = R) →
    cF (gNm 8) b_law_0 (js.map fun j => D.int (j : Nat)) [x0, x1, some (.lst (L.map eL)), x3, x4, x5, some (.int (i : Nat)), some (tbX n o), x8, x9, x10] kn kr = R
  | [], x8, R, _, hk => hk x8
  | j :: js, x8, R, hj, hk => by
    obtain ⟨ij, jn⟩ := hj j (by simp)
    have ih := lw_0 hL hl hn ho (x0 := x0) (x1 := x1) (x3 := x3) (x4 := x4) (x5 := x5) (x9 := x9) (x10 := x10) (kn := kn) (kr := kr) js (some (.int (j : Nat))) R (fun y hy => hj y (by simp [hy])) hk
    rw [List.map_cons, cF_cons]
    show cs b_law_0 [x0, x1, some (.lst (L.map eL)), x3, x4, x5, some (.int (i : Nat)), some (tbX n o), some (.int (j : Nat)), x9, x10] _ kr = R
    rw [r_b_law_0]
    cases o with
    | none =>
      have i2 : dIsV true .non .non = some (.bl false) := rfl
      have tn : tbX n none = .non := rfl
      rw [tn] at *
      generalize L.map eL = LL at *
      simp_arith [i2]
      exact ih
    | some g =>
      have hg := ho g rfl
      obtain ⟨es, wk⟩ := walked_ok hL hl ij (show j ≤ 100 by omega)
      rw [← walk_law (fun l h => (hL l h).1) ij, ← hg] at wk
      have t1 := tb_at g (show i < n by omega)
      have t2 := rw_at (n := n) (g i) jn
      have ne : dNe (eS (g i j)) (eS (g i j)) = some (.bl false) := ne_of_eq (p := true) (eq_same (by
        have := dep_eS (g i j)
        omega))
      have tn : tbX n (some g) = .lst (tbL n g) := rfl
      have i2 : dIsV true (.lst (tbL n g)) .non = some (.bl true) := rfl
      rw [tn] at ih ⊢
      generalize eS (g i j) = S at *
      generalize L.map eL = LL at *
      generalize tbL n g = T at *
      simp_arith [i2, t1, t2, wk, ne]
      exact ih
theorem lw_1 {α : Type} {L : List Lr} (hL : ∀ l ∈ L, l.1 ≠ .e ∧ 0 ≤ l.2 ∧ l.2 ≤ 90) (hl : L.length ≤ 12) {n : Nat} (hn : n ≤ 100) {o : Option TF} (ho : ∀ g, o = some g → g = (stG 0 0 g0 L).2) {x0 x1 x3 x5 x9 x10 : Option D} {kn : DE → Option α} {kr : D → DE → Option α} : ∀ (is : List Nat) (x6 x8 : Option D) (R : Option α), (∀ i ∈ is, i < n) →
    (∀ y6 y8, kn [x0, x1, some (.lst (L.map eL)), x3, some (.int (n : Nat)), x5, y6, some (tbX n o), y8, x9, x10] = R) →
    cF (gNm 6) b_law_1 (is.map fun i => D.int (i : Nat)) [x0, x1, some (.lst (L.map eL)), x3, some (.int (n : Nat)), x5, x6, some (tbX n o), x8, x9, x10] kn kr = R
  | [], x6, x8, R, _, hk => hk x6 x8
  | i :: is, x6, x8, R, hi, hk => by
    have hi0 := hi i (by simp)
    have ih := fun y8 => lw_1 hL hl hn ho (x0 := x0) (x1 := x1) (x3 := x3) (x5 := x5) (x9 := x9) (x10 := x10) (kn := kn) (kr := kr) is (some (.int (i : Nat))) y8 R (fun y hy => hi y (by simp [hy])) hk
    have k1 : ((i : Nat) : Int) + 1 = ((i + 1 : Nat) : Int) := by omega
    have lim1 : lim62 ((i + 1 : Nat) : Int) = true := lim62_of (by omega) (by omega)
    have limn : lim62 ((n : Nat) : Int) = true := lim62_of (by omega) (by omega)
    have cnt : (((n : Nat) : Int) - ((i + 1 : Nat) : Int)).toNat = n - (i + 1) := by omega
    have rl := rngD_lo (i + 1) (n - (i + 1))
    have go := fun (kn : DE → Option α) => lw_0 hL hl (i := i) hn ho (x0 := x0) (x1 := x1) (x3 := x3) (x4 := some (.int (n : Nat))) (x5 := x5) (x9 := x9) (x10 := x10) (kn := kn) (kr := kr) ((List.range (n - (i + 1))).map fun s => i + 1 + s) x8 R (fun j hj => by
      obtain ⟨s, hs, rfl⟩ := List.mem_map.mp hj
      have := List.mem_range.mp hs
      omega)
    rw [List.map_cons, cF_cons]
    show cs b_law_1 [x0, x1, some (.lst (L.map eL)), x3, some (.int (n : Nat)), x5, some (.int (i : Nat)), some (tbX n o), x8, x9, x10] _ kr = R
    rw [r_b_law_1]
    generalize tbX n o = T at *
    generalize L.map eL = LL at *
    simp_arith [k1, lim1, limn, cnt, rl]
    exact go _ fun y8 => ih y8
theorem dcat (xs ys : List D) (h : xs.length + ys.length ≤ 16777216) : dCat (.lst xs) (.lst ys) = some (.lst (xs ++ ys)) := r_cat h
theorem law_step {α : Type} (ns : List Int) (i : Nat) (hi : i < 900) (x2 x3 x4 x5 x6 x7 x8 : Option D) {kn : DE → Option α} {kr : D → DE → Option α} (Z : Option α) (hk : ∀ y2 y3 y4 y5 y6 y7 y8, kn [some (.rol ns), some (.int (i : Nat)), y2, y3, y4, y5, y6, y7, y8, none, none] = Z) : cs b_law_2 [some (.rol ns), some (.int (i : Nat)), x2, x3, x4, x5, x6, x7, x8, none, none] kn kr = Z := by
  obtain ⟨g, s, e1, s0, s1⟩ := bag_ok ns i (by omega)
  obtain ⟨L, m, es, e2, C, hL, mn2, mx8, hl⟩ := simple_ok (bg := .lst [.int g, .int s]) ⟨g, s, rfl, s0, s1⟩
  have mvv := OkL.mv C
  have ce0 := cw_noe L fun l h => (hL l h).1
  rw [mv_cnt, ce0] at mvv
  have mc : m = ((2 * cw .b L : Nat) : Int) := by omega
  subst mc
  have hc : cw .b L ≤ 4 := by omega
  have okD : OkL 0 ((L ++ List.replicate (cw .b L) ((.e, 0) : Lr)).map eL) 0 := by
    rw [List.map_append]
    exact C.app (ends_ok _)
  obtain ⟨ce1, cb1⟩ := cw_rep (cw .b L)
  have cbD : cw .b (L ++ List.replicate (cw .b L) ((.e, 0) : Lr)) = cw .b L := by
    rw [show cw .b (L ++ List.replicate (cw .b L) ((.e, 0) : Lr)) = cw .b L + cw .b (List.replicate (cw .b L) ((.e, 0) : Lr)) from List.countP_append, cb1]
    omega
  have ceD : cw .e (L ++ List.replicate (cw .b L) ((.e, 0) : Lr)) = cw .b L := by
    rw [show cw .e (L ++ List.replicate (cw .b L) ((.e, 0) : Lr)) = cw .e L + cw .e (List.replicate (cw .b L) ((.e, 0) : Lr)) from List.countP_append, ce1, ce0]
    omega
  have mxD : Mx 0 (L ++ List.replicate (cw .b L) ((.e, 0) : Lr)) := mx_cnt (by rw [cbD]; omega)
  have lD : (L ++ List.replicate (cw .b L) ((.e, 0) : Lr)).length ≤ 60 := by
    rw [List.length_append, List.length_replicate]
    omega
  have hbD : bdL (L ++ List.replicate (cw .b L) ((.e, 0) : Lr)) 1 ≤ 100000 := by
    have h := bd_le (L ++ List.replicate (cw .b L) ((.e, 0) : Lr)) 1
    rw [ceD] at h
    have p : 2 ^ cw .b L ≤ 2 ^ 4 := Nat.pow_le_pow_right (by omega) hc
    have m : (1 + 2 + (L ++ List.replicate (cw .b L) ((.e, 0) : Lr)).length) * 2 ^ cw .b L ≤ 63 * 2 ^ 4 := Nat.mul_le_mul (by omega) p
    omega
  have nD : (stG 0 0 g0 L).1 = 2 * cw .b L := by
    have key : ∀ (L : List Lr) (t n : Nat) (g : TF), (∀ l ∈ L, l.1 ≠ .e) → (stG t n g L).1 = n + 2 * cw .b L := fun L => by
      induction L with
      | nil => intro t n g _; rfl
      | cons l L ih =>
        intro t n g h
        obtain ⟨w, k⟩ := l
        show (stG (t + 1) (nxN w n) (nxG w k.toNat t g) L).1 = _
        rw [ih _ _ _ fun l hl => h l (by simp [hl])]
        have hw := h (w, k) (by simp)
        have e0 : cw .b ((w, k) :: L) = cw .b L + (if w = .b then 1 else 0) := by
          unfold cw
          rw [List.countP_cons]
          simp
        rw [e0]
        cases w with
        | b => rw [if_pos rfl]; show n + 2 + _ = _; omega
        | c => rw [if_neg (by decide)]; show n + _ = _; omega
        | e => exact (hw rfl).elim
    rw [key L 0 0 g0 fun l h => (hL l h).1]
    omega
  have cW := cnt_map (fun l : Lr => l.1.s) L "born"
  have kW : L.countP (fun l : Lr => decide (l.1.s = ("born" : Str))) = cw .b L := List.countP_congr fun l _ => by
    rw [show ("born" : Str) = Wd.s .b from rfl, wd_dec]
  rw [kW] at cW
  have hal : (L.map (fun l : Lr => D.str l.1.s)).all isA = true := all_isA (fun _ => rfl) _
  have cm : dMul (.int 2) (.int ((cw .b L : Nat) : Int)) = some (.int ((2 * cw .b L : Nat) : Int)) := by
    rw [r_mul (cMul_l (by omega))]
    congr 2
  have cd : dDiv (.int ((2 * cw .b L : Nat) : Int)) (.int 2) = some (.int ((cw .b L : Nat) : Int)) := by
    rw [r_div (by omega) (by omega)]
    congr 2
    omega
  have limc : lim62 ((cw .b L : Nat) : Int) = true := lim62_of (by omega) (by omega)
  have limm : lim62 ((2 * cw .b L : Nat) : Int) = true := lim62_of (by omega) (by omega)
  have tc : Int.toNat ((cw .b L : Nat) : Int) = cw .b L := by omega
  have tm : Int.toNat ((2 * cw .b L : Nat) : Int) = 2 * cw .b L := by omega
  have rc := rngD_nat (cw .b L)
  have rm := rngD_nat (2 * cw .b L)
  have ll : (L.map eL).length + ((List.range (cw .b L)).map fun _ => eL ((.e, 0) : Lr)).length ≤ 16777216 := by
    rw [List.length_map, List.length_map, List.length_range]
    omega
  have eD : L.map eL ++ (List.range (cw .b L)).map (fun _ => eL ((.e, 0) : Lr)) = (L ++ List.replicate (cw .b L) ((.e, 0) : Lr)).map eL := by
    rw [List.map_append, List.map_replicate]
    congr 1
    exact List.eq_replicate_iff.mpr ⟨by simp, fun d hd => by
      obtain ⟨_, _, rfl⟩ := List.mem_map.mp hd
      rfl⟩
  have dc := dcat (L.map eL) ((List.range (cw .b L)).map fun _ => eL ((.e, 0) : Lr)) ll
  rw [eD] at dc
  have fl : fLen [.lst (L.map eL)] = some (.int ((L.length : Nat) : Int)) := by
    show some (D.int ((L.map eL).length : Int)) = _
    rw [List.length_map]
  have lc1 := fun {α : Type} {k : D → DE → Option α} {ρ1 : DE} (x3 x4 x5 x6 x7 x8 : Option D) => lcm_map eL (fun l => D.str l.1.s) (vs := [9]) (mg := gNm 9) (mc := mYes) (me := m2 dIxP (mV 9) (mC (.int 0))) (xs := L) (ρ := [some (.rol ns), some (.int (i : Nat)), some (.lst (L.map eL)), x3, x4, x5, x6, x7, x8, none, none]) (ρ1 := ρ1) (k := k) (fun _ _ => by refine ⟨_, by simp_arith! [eL]; rfl, ?_⟩; rfl) (by omega)
  have lc2 := fun {α : Type} {k : D → DE → Option α} {ρ1 : DE} (x3 x4 x5 x6 x7 x8 : Option D) => lcm_map (fun i : Nat => D.int (i : Nat)) (fun _ => eL ((.e, 0) : Lr)) (vs := [10]) (mg := gNm 10) (mc := mYes) (me := mTup (mCons (mC (.str "end")) (mCons (mC (.int 0)) mNil))) (xs := List.range (cw .b L)) (ρ := [some (.rol ns), some (.int (i : Nat)), some (.lst (L.map eL)), x3, x4, x5, x6, x7, x8, none, none]) (ρ1 := ρ1) (k := k) (fun j _ => by
    generalize L.map eL = LL at *
    refine ⟨_, by simp_arith! []; rfl, ?_⟩
    rfl) (by simp; omega)
  have fin : ∀ (o : Option TF), (∀ g, o = some g → g = (stG 0 0 g0 L).2) → ∀ (y3 y5 : Option D), cF (gNm 6) b_law_1 ((List.range (2 * cw .b L)).map fun i => D.int (i : Nat)) [some (.rol ns), some (.int (i : Nat)), some (.lst (L.map eL)), y3, some (.int ((2 * cw .b L : Nat) : Int)), y5, x6, some (tbX (2 * cw .b L) o), x8, none, none] kn kr = Z := fun o ho y3 y5 =>
    lw_1 hL hl (n := 2 * cw .b L) (by omega) ho (x0 := some (.rol ns)) (x1 := some (.int (i : Nat))) (x3 := y3) (x5 := y5) (x9 := none) (x10 := none) (kn := kn) (kr := kr) (List.range (2 * cw .b L)) x6 x8 Z (fun j hj => List.mem_range.mp hj) fun y6 y8 => hk _ _ _ _ _ _ _
  have tail : ∃ o, (∀ g, o = some g → g = (stG 0 0 g0 L).2) ∧ ∀ (kn : DE → Option α) (y3 y4 : Option D), cs (sTryN exCs 1 (sAsg 7 (m2 dIxQ (mCallO F_between (none) (mCons (mV 5) mNil)) (mB fLen (mCons (mV 2) mNil)))) (xCall FX_between (mCons (mV 5) mNil)) (sAsg 7 (mC .non))) [some (.rol ns), some (.int (i : Nat)), some (.lst (L.map eL)), y3, y4, some (.lst ((L ++ List.replicate (cw .b L) ((.e, 0) : Lr)).map eL)), x6, x7, x8, none, none] kn kr = kn [some (.rol ns), some (.int (i : Nat)), some (.lst (L.map eL)), y3, y4, some (.lst ((L ++ List.replicate (cw .b L) ((.e, 0) : Lr)).map eL)), x6, some (tbX (2 * cw .b L) o), x8, none, none] := by
    cases hr : runT 0 0 g0 (L ++ List.replicate (cw .b L) ((.e, 0) : Lr)) with
    | none =>
      obtain ⟨n1, n2⟩ := btw_no okD mxD hbD (by omega) hr
      refine ⟨none, fun g h => (by cases h), fun kn y3 y4 => ?_⟩
      show _ = kn [some (.rol ns), some (.int (i : Nat)), some (.lst (L.map eL)), y3, y4, some (.lst ((L ++ List.replicate (cw .b L) ((.e, 0) : Lr)).map eL)), x6, some .non, x8, none, none]
      generalize (L ++ List.replicate (cw .b L) ((.e, 0) : Lr)).map eL = DD at *
      generalize L.map eL = LL at *
      have e1 : sAsg 7 (m2 dIxQ (mCallO F_between (none) (mCons (mV 5) mNil)) (mB fLen (mCons (mV 2) mNil))) [some (.rol ns), some (.int (i : Nat)), some (.lst LL), y3, y4, some (.lst DD), x6, x7, x8, none, none] = none := by
        rw [run_cs (sAsg 7 _)]
        simp_arith! [n1, bo_n]
      have e2 : xCall FX_between (mCons (mV 5) mNil) [some (.rol ns), some (.int (i : Nat)), some (.lst LL), y3, y4, some (.lst DD), x6, x7, x8, none, none] = some (1, [some (.rol ns), some (.int (i : Nat)), some (.lst LL), y3, y4, some (.lst DD), x6, x7, x8, none, none]) := by
        rw [xCall_e]
        simp_arith! [n2]
      rw [cs_tryN_x e1 e2 rfl]
      simp_arith! []
    | some Ts =>
      obtain ⟨r1, r2⟩ := rows_le _ 0 0 g0 Ts okD mxD hr
      obtain ⟨b1, _⟩ := btw_ok okD mxD hbD (by omega) hr (fun p hp => by have := r2 p hp; omega) (by omega)
      have st := run_st _ 0 0 g0 Ts hr L.length (by rw [List.length_append]; omega)
      rw [List.take_left] at st
      have at0 : atI (((0, g0) :: Ts).map tbP) ((L.length : Nat) : Int) = some (tbD (2 * cw .b L) (stG 0 0 g0 L).2) := by
        have hlt := (List.getElem?_eq_some_iff.mp st).1
        rw [at_nn (by rw [List.length_map]; exact hlt), List.getElem?_map, st, ← nD]
        rfl
      refine ⟨some (stG 0 0 g0 L).2, fun g h => (by cases h; rfl), fun kn y3 y4 => ?_⟩
      show _ = kn [some (.rol ns), some (.int (i : Nat)), some (.lst (L.map eL)), y3, y4, some (.lst ((L ++ List.replicate (cw .b L) ((.e, 0) : Lr)).map eL)), x6, some (tbD (2 * cw .b L) (stG 0 0 g0 L).2), x8, none, none]
      generalize tbD (2 * cw .b L) (stG 0 0 g0 L).2 = TT at *
      generalize ((0, g0) :: Ts).map tbP = Y at *
      generalize (L ++ List.replicate (cw .b L) ((.e, 0) : Lr)).map eL = DD at *
      generalize L.map eL = LL at *
      have e1 : sAsg 7 (m2 dIxQ (mCallO F_between (none) (mCons (mV 5) mNil)) (mB fLen (mCons (mV 2) mNil))) [some (.rol ns), some (.int (i : Nat)), some (.lst LL), y3, y4, some (.lst DD), x6, x7, x8, none, none] = some (.nx [some (.rol ns), some (.int (i : Nat)), some (.lst LL), y3, y4, some (.lst DD), x6, some TT, x8, none, none]) := by
        rw [run_cs (sAsg 7 _)]
        simp_arith! [b1, fl, at0, r_iqL]
      simp_arith! [cs_tryN_n e1, b1, fl, at0, r_iqL]
  obtain ⟨o, ho, tl⟩ := tail
  have fin := fin o ho
  rw [r_b_law_2]
  generalize (L ++ List.replicate (cw .b L) ((.e, 0) : Lr)).map eL = DD at *
  generalize (List.range (2 * cw .b L)).map (fun i : Nat => D.int (i : Nat)) = RM at *
  generalize tbX (2 * cw .b L) o = TT at *
  simp_arith [e1, e2]
  rw [lc1]
  simp_arith [hal, cW, cm, cd, limc, tc, rc]
  rw [lc2]
  simp_arith [dc]
  rw [tl]
  simp_arith [limm, tm, rm]
  exact fin _ _
theorem law_loop {α : Type} (ns : List Int) {kn : DE → Option α} {kr : D → DE → Option α} : ∀ (is : List Nat) (x1 x2 x3 x4 x5 x6 x7 x8 : Option D) (Z : Option α), (∀ i ∈ is, i < 900) → (∀ y1 y2 y3 y4 y5 y6 y7 y8, kn [some (.rol ns), y1, y2, y3, y4, y5, y6, y7, y8, none, none] = Z) →
    cF (gNm 1) b_law_2 (is.map fun i => D.int (i : Nat)) [some (.rol ns), x1, x2, x3, x4, x5, x6, x7, x8, none, none] kn kr = Z
  | [], x1, x2, x3, x4, x5, x6, x7, x8, Z, _, hk => hk _ _ _ _ _ _ _ _
  | i :: is, x1, x2, x3, x4, x5, x6, x7, x8, Z, hi, hk => by
    have ih := fun y2 y3 y4 y5 y6 y7 y8 => law_loop ns (kn := kn) (kr := kr) is (some (.int (i : Nat))) y2 y3 y4 y5 y6 y7 y8 Z (fun y hy => hi y (by simp [hy])) hk
    rw [List.map_cons, cF_cons]
    show cs b_law_2 [some (.rol ns), some (.int (i : Nat)), x2, x3, x4, x5, x6, x7, x8, none, none] _ kr = Z
    exact law_step ns i (hi i (by simp)) x2 x3 x4 x5 x6 x7 x8 Z ih
theorem law_eq (ns : List Int) (h : ns.length ≤ 63) : ∃ e, F_law [.rol ns] = some (.bl true, [e]) := by
  have nb : 0 ≤ (if (if 6 < (ns.length : Int) then 6 else (ns.length : Int)) > 3 then if 6 < (ns.length : Int) then 6 else (ns.length : Int) else 3) ∧ (if (if 6 < (ns.length : Int) then 6 else (ns.length : Int)) > 3 then if 6 < (ns.length : Int) then 6 else (ns.length : Int) else 3) ≤ 8 := by
    constructor <;> (repeat' split) <;> omega
  refine ⟨.rol ns, ?_⟩
  unfold F_law m_law
  simp_arith []
  generalize (if (if 6 < (ns.length : Int) then 6 else (ns.length : Int)) > 3 then if 6 < (ns.length : Int) then 6 else (ns.length : Int) else 3) = N at *
  rw [if_pos (lim62_of (by omega) (by omega)), rngD_nat]
  exact law_loop ns (List.range N.toNat) _ _ _ _ _ _ _ _ _ (fun j hj => by have := List.mem_range.mp hj; omega) fun y1 y2 y3 y4 y5 y6 y7 y8 => by simp_arith []
end L_k17
namespace L_k17
open PySem PySem.Spec PyProof.Rows L2 VS
theorem facts {P : Program} {w : World} {K : PySem.W.Frag} {h : Heap} {mg : Str → Option Value} {f : Addr} (X : K.In h) (G : h.Ns mainGlobals mg) (hfa : mg ("law" : Str) = some (.ref f)) (c : He.SaysD fa fn K) (ex : exB K = true) :
    ∃ fd : FuncData, (∀ (s : Shared) (v : Value), BindsTo s fd ⟨[v], []⟩ [("_law_script", v)]) ∧ ∀ base : Heap, K.In base → base.Ns mainGlobals mg → FnOk P w K mg base CX0 9 f fd p_law (fnSp K sg_law F_law) := by
  have GS : Gs mg := ⟨He.free_ok X G (c.fact 25 (f := .free "abs") rfl), He.free_ok X G (c.fact 26 (f := .free "any") rfl), He.free_ok X G (c.fact 27 (f := .free "enumerate") rfl), He.free_ok X G (c.fact 28 (f := .free "int") rfl), He.free_ok X G (c.fact 29 (f := .free "len") rfl), He.free_ok X G (c.fact 30 (f := .free "list") rfl), He.free_ok X G (c.fact 31 (f := .free "max") rfl), He.free_ok X G (c.fact 32 (f := .free "min") rfl), He.free_ok X G (c.fact 33 (f := .free "range") rfl), He.free_ok X G (c.fact 34 (f := .free "sorted") rfl), He.str_ok X G (c.fact 35 (f := .str "BORN" "born") rfl), He.str_ok X G (c.fact 36 (f := .str "CROSS" "cross") rfl), He.int_ok X G (c.fact 37 (f := .int "MOST_WORDS" 200) rfl)⟩
  obtain ⟨ex, on⟩ := He.ba ex
  obtain ⟨ex, cl0⟩ := He.ba ex
  have EX : ExS K mg exCs exNs := exs_ok X G ex
  have CL0 : Mk0 K (He.ga K (clsNm 0)) ∧ mg (clsNm 0) = some (.ref (He.ga K (clsNm 0))) := ⟨mk0_ok (He.ba cl0).2, He.glo_ok X G (He.ba cl0).1⟩
  have ON : OneF K mg := one_ok X G on
  obtain ⟨fd0, F0⟩ := c.def_ 0 (d := d_Sums_nought) rfl
  obtain ⟨fd1, F1⟩ := c.def_ 1 (d := d_Sums_one) rfl
  obtain ⟨fd2, F2⟩ := c.def_ 2 (d := d_Sums_of_name) rfl
  obtain ⟨fd3, F3⟩ := c.def_ 3 (d := d_odd_ones) rfl
  obtain ⟨fd4, F4⟩ := c.def_ 4 (d := d_added) rfl
  obtain ⟨fd5, F5⟩ := c.def_ 5 (d := d_Sums_plus) rfl
  obtain ⟨fd6, F6⟩ := c.def_ 6 (d := d_multiplied) rfl
  obtain ⟨fd7, F7⟩ := c.def_ 7 (d := d_Sums_times) rfl
  obtain ⟨fd8, F8⟩ := c.def_ 8 (d := d_empty_table) rfl
  obtain ⟨fd9, F9⟩ := c.def_ 9 (d := d_born_table) rfl
  obtain ⟨fd10, F10⟩ := c.def_ 10 (d := d_crossed_table) rfl
  obtain ⟨fd11, F11⟩ := c.def_ 11 (d := d_over_end) rfl
  obtain ⟨fd12, F12⟩ := c.def_ 12 (d := d_ended_table) rfl
  obtain ⟨fd13, F13⟩ := c.def_ 13 (d := d_table_behind) rfl
  obtain ⟨fd14, F14⟩ := c.def_ 14 (d := d_look_table) rfl
  obtain ⟨fd15, F15⟩ := c.def_ 15 (d := d_tables_along) rfl
  obtain ⟨fd16, F16⟩ := c.def_ 16 (d := d_between) rfl
  obtain ⟨fd17, F17⟩ := c.def_ 17 (d := d__law_bag) rfl
  obtain ⟨fd18, F18⟩ := c.def_ 18 (d := d__law_take) rfl
  obtain ⟨fd19, F19⟩ := c.def_ 19 (d := d__law_odd) rfl
  obtain ⟨fd20, F20⟩ := c.def_ 20 (d := d__law_simple) rfl
  obtain ⟨fd21, F21⟩ := c.def_ 21 (d := d__law_steps) rfl
  obtain ⟨fd22, F22⟩ := c.def_ 22 (d := d__law_walked) rfl
  obtain ⟨fd23, F23⟩ := c.def_ 23 (d := d_law) rfl
  have e := hfa.symm.trans (He.glo_ok X G (c.fact 18 (f := .glo "law") rfl))
  cases e
  have b := FunD.bindsA (ps := ["_law_script"]) F23 fun _ _ _ _ _ _ us hl => match us, hl with | [_], _ => rfl
  refine ⟨fd23, fun s v => b s [v] rfl, fun base _ _ => ?_⟩
  have h_Sums_nought := ok_Sums_nought (P := P) (w := w) (base := base) GS  F0 (He.cls_ok (c.fact 19 (f := .cls "Sums") rfl)) (He.meth_ok (c.fact 20 (f := .meth "Sums" "nought") rfl))
  have h_Sums_one := ok_Sums_one (P := P) (w := w) (base := base) GS ON  F1 (He.cls_ok (c.fact 19 (f := .cls "Sums") rfl)) (He.meth_ok (c.fact 21 (f := .meth "Sums" "one") rfl))
  have h_Sums_of_name := ok_Sums_of_name (P := P) (w := w) (base := base) GS  F2 (He.cls_ok (c.fact 19 (f := .cls "Sums") rfl)) (He.meth_ok (c.fact 22 (f := .meth "Sums" "of_name") rfl))
  have h_odd_ones := ok_odd_ones (P := P) (w := w) (base := base) GS  F3 (He.glo_ok X G (c.fact 0 (f := .glo "odd_ones") rfl))
  have h_added := ok_added (P := P) (w := w) (base := base) GS h_odd_ones F4 (He.glo_ok X G (c.fact 1 (f := .glo "added") rfl))
  have h_Sums_plus := ok_Sums_plus (P := P) (w := w) (base := base) GS h_added F5 (He.cls_ok (c.fact 19 (f := .cls "Sums") rfl)) (He.meth_ok (c.fact 23 (f := .meth "Sums" "plus") rfl))
  have h_multiplied := ok_multiplied (P := P) (w := w) (base := base) GS h_odd_ones F6 (He.glo_ok X G (c.fact 2 (f := .glo "multiplied") rfl))
  have h_Sums_times := ok_Sums_times (P := P) (w := w) (base := base) GS h_multiplied F7 (He.cls_ok (c.fact 19 (f := .cls "Sums") rfl)) (He.meth_ok (c.fact 24 (f := .meth "Sums" "times") rfl))
  have h_empty_table := ok_empty_table (P := P) (w := w) (base := base) GS h_Sums_nought F8 (He.glo_ok X G (c.fact 3 (f := .glo "empty_table") rfl))
  have h_born_table := ok_born_table (P := P) (w := w) (base := base) GS h_empty_table h_Sums_one F9 (He.glo_ok X G (c.fact 4 (f := .glo "born_table") rfl))
  have h_crossed_table := ok_crossed_table (P := P) (w := w) (base := base) GS h_Sums_nought h_Sums_plus h_Sums_times F10 (He.glo_ok X G (c.fact 5 (f := .glo "crossed_table") rfl))
  have h_over_end := ok_over_end (P := P) (w := w) (base := base) GS h_Sums_plus h_Sums_times F11 (He.glo_ok X G (c.fact 6 (f := .glo "over_end") rfl))
  have h_ended_table := ok_ended_table (P := P) (w := w) (base := base) GS h_over_end F12 (He.glo_ok X G (c.fact 7 (f := .glo "ended_table") rfl))
  have h_table_behind := ok_table_behind (P := P) (w := w) (base := base) GS h_born_table h_Sums_of_name h_crossed_table h_ended_table F13 (He.glo_ok X G (c.fact 8 (f := .glo "table_behind") rfl))
  have h_look_table := ok_look_table (P := P) (w := w) (base := base) GS EX  F14 (He.glo_ok X G (c.fact 9 (f := .glo "look_table") rfl))
  have h_tables_along := ok_tables_along (P := P) (w := w) (base := base) GS CL0 h_table_behind h_look_table F15 (He.glo_ok X G (c.fact 10 (f := .glo "tables_along") rfl))
  have h_between := ok_between (P := P) (w := w) (base := base) GS h_tables_along F16 (He.glo_ok X G (c.fact 11 (f := .glo "between") rfl))
  have h__law_bag := ok__law_bag (P := P) (w := w) (base := base) GS  F17 (He.glo_ok X G (c.fact 12 (f := .glo "_law_bag") rfl))
  have h__law_take := ok__law_take (P := P) (w := w) (base := base) GS  F18 (He.glo_ok X G (c.fact 13 (f := .glo "_law_take") rfl))
  have h__law_odd := ok__law_odd (P := P) (w := w) (base := base) GS  F19 (He.glo_ok X G (c.fact 14 (f := .glo "_law_odd") rfl))
  have h__law_simple := ok__law_simple (P := P) (w := w) (base := base) GS h__law_take F20 (He.glo_ok X G (c.fact 15 (f := .glo "_law_simple") rfl))
  have h__law_steps := ok__law_steps (P := P) (w := w) (base := base) GS  F21 (He.glo_ok X G (c.fact 16 (f := .glo "_law_steps") rfl))
  have h__law_walked := ok__law_walked (P := P) (w := w) (base := base) GS h__law_steps h__law_odd F22 (He.glo_ok X G (c.fact 17 (f := .glo "_law_walked") rfl))
  exact ok_law GS EX h__law_bag h__law_simple h_between h__law_walked F23
end L_k17
open PySem PySem.W PySem.Calls PyProof.Rows
theorem PySem.Challenge.cw_bendfronts_k17_left_walks_holds : PySem.Challenge.rw_bendfronts_k17_left_walks.Holds := by
  w_on; o_law
  refine HandSHeadRun.head_any (r := OpenLaw.row PySem.Challenge.rw_bendfronts_k17_left_walks) (q := view (OpenLaw.row PySem.Challenge.rw_bendfronts_k17_left_walks).prog [31]) (H := L_k17.hk) (ob := L_k17.ob) (M := 6000) (loose := L_k17.loose) (d := HandSHeadRun.topDef (OpenLaw.row PySem.Challenge.rw_bendfronts_k17_left_walks).prog 31) (kwd := []) L_k17.ob_eq
    (by kernel_rfl) (fun s => by kernel_rfl) L_k17.run (by kernel_rfl) (by kernel_rfl) (by kernel_rfl) (by rfl) (by first | assumption | decide +kernel) (by decide +kernel) ⟨rfl, rfl, rfl, rfl, rfl, by decide +kernel⟩ ?hw ?hc
  case hw => w_witness2
  case hc =>
    refine L2.walk_ofE (l := PySem.Challenge.rw_bendfronts_k17_left_walks) (n := 63) (k := 9) (x := "_law_script") (CX := L2.CX0) rfl (by decide) (by kernel_rfl) ⟨rfl, by decide, by decide⟩ ?F (fun _ _ _ _ z => z)
    intro w mg fa h Y G hmg0
    obtain ⟨K, KX, c⟩ := Y
    have hmg : mg ("law" : PySem.Str) = some (.ref fa) := by
      have e : (HandSHeadRun.topDef (OpenLaw.row PySem.Challenge.rw_bendfronts_k17_left_walks).prog 31).name = ("law" : PySem.Str) := by kernel_rfl
      rw [← e]
      exact hmg0
    obtain ⟨fd, hb, hF⟩ := L_k17.facts (P := (PySem.Challenge.rw_bendfronts_k17_left_walks).prog) (w := w) KX G hmg c.t.d c.more
    exact ⟨K, fd, _, KX, hb, VS.law_sp rfl L_k17.law_eq, hF⟩
