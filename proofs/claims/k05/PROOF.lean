import PyProof.Rows.All
import Wide.All
import OpenK.AllK
import Wide.FinOn
import HandS.ForMost
import HandS.Defaults
import KE.SortData
import KE.DataEq
import KE.DataFind
import HandS.IsInst
import HandS.TupAny
import HandS.Zip
import HandS.HeadEnd
import HandS.Head0
import HandS.Head1
import HandS.Head2
import HandS.HeadHook1
import HandS.HeadHook2
import HandS.Style
import HandS.More
import HandS.WordsDict
import KE.KDictSum
import KE.KDictCopyH
import HandS.ExcValue
import HandS.Conv
import HandS.SetFor
import PySem.Challenge.RW_bendfronts_k05_pieces
set_option Elab.async false
set_option linter.all false
set_option maxRecDepth 100000
set_option maxHeartbeats 2000000
namespace VS
open PySem PySem.Spec PyProof.Rows L2
/-- a dict's keys: ints and texts, or tuples of these -/
inductive DKs where
  | K (ks : List Key) | T (ks : List (List Key))
  deriving Inhabited
def DKs.len : DKs → Nat
  | .K ks => ks.length
  | .T ks => ks.length
/-- the dict with these keys and values -/
def dO : DKs → List V → HO
  | .K ks, vs => .dK (ks.zip vs)
  | .T ks, vs => .dT (ks.zip vs)
/-- plain data: what a value stands for, by value -/
inductive D where
  | non | bl (b : Bool) | int (i : Int) | str (x : Str) | tup (xs : List D) | lst (xs : List D) | rol (ns : List Int) | dic (q : DKs) (xs : List D)
  deriving Inhabited
/-- what the ghost map says of an address: not known, frozen, owned at a place (a row, a path) -/
inductive Gh where
  | un | fz | ow (r : Nat) (p : List Nat)
abbrev G := Addr → Gh
/-- 99 and more: owned at any depth -/
def lv (k : Nat) : Nat := if 99 ≤ k then k else k - 1
/-- a list of the written part -/
def Kc (K : PySem.W.Frag) (a : Addr) (xs : List V) : Prop :=
  ∃ (o : Obj) (its : Array Value) (n : Nat), K.lookup a = some o ∧ o.cls = .type "list" ∧ o.dict = none ∧ o.data = .seq its n ∧ its.size ≤ sizeLine ∧ Vals xs its.toList
theorem rol_sq {K : PySem.W.Frag} {H : Hp} {a : Addr} {xs : List V} (h : (∃ o, H a = some (.frz o (.lst xs))) ∨ Kc K a xs) : SqL K H a xs := h.elim (fun z => .inl (.inr z)) .inr
mutual
def Rep (K : PySem.W.Frag) (H : Hp) : D → V → Prop
  | .non, v => v = .non
  | .bl b, v => v = .bl b
  | .int i, v => v = .int i
  | .str x, v => v = .str x
  | .tup ds, v => ∃ a vs, v = .ref a ∧ H a = some (.tup vs) ∧ RepL K H ds vs
  | .lst ds, v => ∃ a vs, v = .ref a ∧ H a = some (.lst vs) ∧ RepL K H ds vs
  | .rol ns, v => ∃ a, v = .ref a ∧ ((∃ o, H a = some (.frz o (.lst (ns.map V.int)))) ∨ Kc K a (ns.map V.int))
  | .dic q ds, v => ∃ a vs, v = .ref a ∧ Rd H a (dO q vs) ∧ q.len = ds.length ∧ RepL K H ds vs
def RepL (K : PySem.W.Frag) (H : Hp) : List D → List V → Prop
  | [], vs => vs = []
  | d :: ds, vs => ∃ v r, vs = v :: r ∧ Rep K H d v ∧ RepL K H ds r
end
mutual
def Own (K : PySem.W.Frag) (H : Hp) (g : G) : D → Nat → Nat → List Nat → V → Prop
  | .non, _, _, _, v => v = .non
  | .bl b, _, _, _, v => v = .bl b
  | .int i, _, _, _, v => v = .int i
  | .str x, _, _, _, v => v = .str x
  | .tup ds, k, r, p, v => ∃ a vs, v = .ref a ∧ H a = some (.tup vs) ∧ OwnL K H g ds (lv k) r p 0 vs
  | .lst ds, k, r, p, v => ∃ a vs, v = .ref a ∧ H a = some (.lst vs) ∧ g a = (if k = 0 then .fz else .ow r p) ∧ OwnL K H g ds (lv k) r p 0 vs
  | .rol ns, _, _, _, v => ∃ a, v = .ref a ∧ ((∃ o, H a = some (.frz o (.lst (ns.map V.int)))) ∨ Kc K a (ns.map V.int))
  | .dic q ds, k, r, p, v => ∃ a vs, v = .ref a ∧ (H a = some (dO q vs) ∨ (k = 0 ∧ ∃ o, H a = some (.frz o (dO q vs)))) ∧ q.len = ds.length ∧ g a = (if k = 0 then .fz else .ow r p) ∧ OwnL K H g ds (lv k) r p 0 vs
def OwnL (K : PySem.W.Frag) (H : Hp) (g : G) : List D → Nat → Nat → List Nat → Nat → List V → Prop
  | [], _, _, _, _, vs => vs = []
  | d :: ds, k, r, p, i, vs => ∃ v w, vs = v :: w ∧ Own K H g d k r (i :: p) v ∧ OwnL K H g ds k r p (i + 1) w
end
variable {K : PySem.W.Frag}
theorem own_rep {H : Hp} {g : G} : (d : D) → ∀ {k r p v}, Own K H g d k r p v → Rep K H d v
  | .non, _, _, _, _, h => h
  | .bl b, _, _, _, _, h => h
  | .int i, _, _, _, _, h => h
  | .str x, _, _, _, _, h => h
  | .tup ds, _, _, _, _, h => by
    obtain ⟨a, vs, e, ha, hl⟩ := h
    exact ⟨a, vs, e, ha, go ds hl⟩
  | .lst ds, _, _, _, _, h => by
    obtain ⟨a, vs, e, ha, _, hl⟩ := h
    exact ⟨a, vs, e, ha, go ds hl⟩
  | .rol ns, _, _, _, _, h => by
    obtain ⟨a, e, hs⟩ := h
    exact ⟨a, e, hs⟩
  | .dic q ds, _, _, _, _, h => by
    obtain ⟨a, vs, e, ha, hq, _, hl⟩ := h
    exact ⟨a, vs, e, ha.elim .inl fun z => .inr z.2, hq, go ds hl⟩
where
  go : (ds : List D) → ∀ {k r p i vs}, OwnL K H g ds k r p i vs → RepL K H ds vs
  | [], _, _, _, _, _, h => h
  | d :: ds, _, _, _, _, _, h => by
    obtain ⟨v, w, e, h1, h2⟩ := h
    exact ⟨v, w, e, own_rep d h1, go ds h2⟩
theorem rep_mono {H H' : Hp} (s : Same H H') : (d : D) → ∀ {v}, Rep K H d v → Rep K H' d v
  | .non, _, h => h
  | .bl b, _, h => h
  | .int i, _, h => h
  | .str x, _, h => h
  | .tup ds, _, h => by
    obtain ⟨a, vs, e, ha, hl⟩ := h
    exact ⟨a, vs, e, s _ _ ha, go ds hl⟩
  | .lst ds, _, h => by
    obtain ⟨a, vs, e, ha, hl⟩ := h
    exact ⟨a, vs, e, s _ _ ha, go ds hl⟩
  | .rol ns, _, h => by
    obtain ⟨a, e, hs⟩ := h
    exact ⟨a, e, hs.imp (fun ⟨o, z⟩ => ⟨o, s _ _ z⟩) id⟩
  | .dic q ds, _, h => by
    obtain ⟨a, vs, e, ha, hq, hl⟩ := h
    exact ⟨a, vs, e, ha.imp (s _ _) fun ⟨o, z⟩ => ⟨o, s _ _ z⟩, hq, go ds hl⟩
where
  go : (ds : List D) → ∀ {vs}, RepL K H ds vs → RepL K H' ds vs
  | [], _, h => h
  | d :: ds, _, h => by
    obtain ⟨v, w, e, h1, h2⟩ := h
    exact ⟨v, w, e, rep_mono s d h1, go ds h2⟩
/-- is there ownership at a depth -/
def has (k n : Nat) : Bool := decide (99 ≤ k) || decide (n < k)
theorem lv_has {k n : Nat} : has (lv k) n = has k (n + 1) := by
  unfold has lv
  by_cases h : 99 ≤ k
  · simp [h]
  · have h2 : ¬ 99 ≤ k - 1 := by omega
    simp only [h, if_false, h2, decide_false, Bool.false_or]
    congr 1
    apply propext
    omega
theorem has0 {k : Nat} : has k 0 = decide (k ≠ 0) := by
  unfold has
  by_cases h : k = 0
  · subst h; rfl
  · simp only [h, ne_eq, not_false_eq_true, decide_true, Bool.or_eq_true, decide_eq_true_eq]
    omega
theorem has_le {j k : Nat} (h : j ≤ k) {n : Nat} (q : has j n = true) : has k n = true := by
  unfold has at *
  simp only [Bool.or_eq_true, decide_eq_true_eq] at *
  omega
/-- what never changes -/
def stb : HO → Bool
  | .tup _ => true
  | .frz _ _ => true
  | _ => false
/-- the one lemma of moving, weakening, keeping a tree -/
theorem own_conv {H H' : Hp} {g g' : G} {r r' : Nat}
    (ht : ∀ a o, H a = some o → stb o = true → H' a = some o) : (d : D) → ∀ {k j p p' v},
    (99 ≤ k ∨ ∀ a, g a = .fz → g' a = .fz ∧ H' a = H a) →
    (∀ a q, g a = .ow r (q ++ p) → has k q.length = true → H' a = H a ∧ g' a = (if has j q.length = true then Gh.ow r' (q ++ p') else Gh.fz)) →
    (∀ n, has j n = true → has k n = true) → Own K H g d k r p v → Own K H' g' d j r' p' v
  | .non, _, _, _, _, _, _, _, _, h => h
  | .bl b, _, _, _, _, _, _, _, _, h => h
  | .int i, _, _, _, _, _, _, _, _, h => h
  | .str x, _, _, _, _, _, _, _, _, h => h
  | .tup ds, k, j, p, p', v, hf, ho, hk, h => by
    obtain ⟨a, vs, e, ha, hl⟩ := h
    refine ⟨a, vs, e, ht _ _ ha rfl, go ds (hf.imp (fun z => by unfold lv; rw [if_pos z]; exact z) id) (fun i b q hb hh => ?_) (fun n hn => by rw [lv_has] at *; exact hk _ hn) hl⟩
    have := ho b (q ++ [i]) (by simpa using hb) (by rw [lv_has] at hh; simpa using hh)
    rw [lv_has]
    simpa using this
  | .lst ds, k, j, p, p', v, hf, ho, hk, h => by
    obtain ⟨a, vs, e, ha, hg, hl⟩ := h
    have key : H' a = H a ∧ g' a = (if j = 0 then Gh.fz else Gh.ow r' p') := by
      by_cases k0 : k = 0
      · have j0 : j = 0 := by
          have := hk 0
          rw [has0, has0] at this
          by_cases z : j = 0
          · exact z
          · simp [z, k0] at this
        rw [if_pos k0] at hg
        rw [if_pos j0]
        have hf' := hf.resolve_left (by omega)
        exact ⟨(hf' a hg).2, (hf' a hg).1⟩
      · rw [if_neg k0] at hg
        obtain ⟨h1, h2⟩ := ho a [] hg (by show has k 0 = true; rw [has0]; simpa using k0)
        refine ⟨h1, h2.trans ?_⟩
        show (if has j 0 = true then _ else _) = _
        rw [has0]
        by_cases j0 : j = 0 <;> simp [j0]
    refine ⟨a, vs, e, key.1.trans ha, key.2, go ds (hf.imp (fun z => by unfold lv; rw [if_pos z]; exact z) id) (fun i b q hb hh => ?_) (fun n hn => by rw [lv_has] at *; exact hk _ hn) hl⟩
    have := ho b (q ++ [i]) (by simpa using hb) (by rw [lv_has] at hh; simpa using hh)
    rw [lv_has]
    simpa using this
  | .rol ns, _, _, _, _, _, _, _, _, h => by
    obtain ⟨a, e, h⟩ := h
    exact ⟨a, e, h.imp (fun ⟨o, w⟩ => ⟨o, ht _ _ w rfl⟩) id⟩
  | .dic dk ds, k, j, p, p', v, hf, ho, hk, h => by
    obtain ⟨a, vs, e, ha, hq, hg, hl⟩ := h
    have key : H' a = H a ∧ g' a = (if j = 0 then Gh.fz else Gh.ow r' p') := by
      by_cases k0 : k = 0
      · have j0 : j = 0 := by
          have := hk 0
          rw [has0, has0] at this
          by_cases z : j = 0
          · exact z
          · simp [z, k0] at this
        rw [if_pos k0] at hg
        rw [if_pos j0]
        have hf' := hf.resolve_left (by omega)
        exact ⟨(hf' a hg).2, (hf' a hg).1⟩
      · rw [if_neg k0] at hg
        obtain ⟨h1, h2⟩ := ho a [] hg (by show has k 0 = true; rw [has0]; simpa using k0)
        refine ⟨h1, h2.trans ?_⟩
        show (if has j 0 = true then _ else _) = _
        rw [has0]
        by_cases j0 : j = 0 <;> simp [j0]
    have hz : k = 0 → j = 0 := fun k0 => by
      have := hk 0
      rw [has0, has0] at this
      by_cases z : j = 0
      · exact z
      · simp [z, k0] at this
    refine ⟨a, vs, e, ha.imp (fun z => key.1.trans z) (fun z => ⟨hz z.1, z.2.imp fun o w => key.1.trans w⟩), hq, key.2, go ds (hf.imp (fun z => by unfold lv; rw [if_pos z]; exact z) id) (fun i b q hb hh => ?_) (fun n hn => by rw [lv_has] at *; exact hk _ hn) hl⟩
    have := ho b (q ++ [i]) (by simpa using hb) (by rw [lv_has] at hh; simpa using hh)
    rw [lv_has]
    simpa using this
where
  go : (ds : List D) → ∀ {k j p p' i vs},
    (99 ≤ k ∨ ∀ a, g a = .fz → g' a = .fz ∧ H' a = H a) →
    (∀ i a q, g a = .ow r (q ++ i :: p) → has k q.length = true → H' a = H a ∧ g' a = (if has j q.length = true then Gh.ow r' (q ++ i :: p') else Gh.fz)) →
    (∀ n, has j n = true → has k n = true) → OwnL K H g ds k r p i vs → OwnL K H' g' ds j r' p' i vs
  | [], _, _, _, _, _, _, _, _, _, h => h
  | d :: ds, _, _, _, _, i, _, hf, ho, hk, h => by
    obtain ⟨v, w, e, h1, h2⟩ := h
    exact ⟨v, w, e, own_conv ht d hf (fun a q => ho i a q) hk h1, go ds hf ho hk h2⟩
end VS
namespace VS
open PySem PySem.Spec PyProof.Rows L2
/-! ### states -/
abbrev DE := List (Option D)
abbrev OE := List (Option Nat)
abbrev M := DE → Option (D × DE)
structure Sok (K : PySem.W.Frag) (κ : OE) (ρ : DE) (g : G) (σ : L2.St) (H : Hp) : Prop where
  ok : ∀ i k d, κ[i]? = some (some k) → ρ[i]? = some (some d) → ∃ v, σ[i]? = some (some v) ∧ Own K H g d k i [] v
  gok : ∀ a, g a ≠ .un → H a ≠ none
  len : ρ.length = σ.length
  lek : κ.length = σ.length
def SzOk (H : Hp) : Prop := ∀ a xs, (H a = some (.lst xs) ∨ H a = some (.tup xs)) → xs.length ≤ sizeLine
/-- what is known wherever one stands -/
def En (n : Nat) (σ : L2.St) (H : Hp) : Prop := SzOk H ∧ σ.length = n
/-- n: the slots; rows from n on are for what is on its way, those below t are live -/
structure Pres (n t : Nat) (g : G) (H : Hp) (g' : G) (H' : Hp) : Prop where
  fz : ∀ a, g a = .fz → g' a = .fz ∧ H' a = H a
  un : ∀ a, g a = .un → H a ≠ none → g' a = .un ∧ H' a = H a
  tp : ∀ a r p, n ≤ r → r < t → g a = .ow r p → g' a = .ow r p ∧ H' a = H a
  tm : ∀ a r p, n ≤ r → r < t → g' a = .ow r p → g a = .ow r p
  tu : ∀ a o, H a = some o → stb o = true → H' a = some o
theorem Pres.refl {n t : Nat} {g : G} {H : Hp} : Pres n t g H g H :=
  ⟨fun _ h => ⟨h, rfl⟩, fun _ h _ => ⟨h, rfl⟩, fun _ _ _ _ _ h => ⟨h, rfl⟩, fun _ _ _ _ _ h => h, fun _ _ h _ => h⟩
theorem Pres.trans {n t : Nat} {g g1 g2 : G} {H H1 H2 : Hp} (a : Pres n t g H g1 H1) (b : Pres n t g1 H1 g2 H2) : Pres n t g H g2 H2 where
  fz := fun x h => ⟨(b.fz x (a.fz x h).1).1, (b.fz x (a.fz x h).1).2.trans (a.fz x h).2⟩
  un := fun x h hn => by
    obtain ⟨h1, h2⟩ := a.un x h hn
    obtain ⟨h3, h4⟩ := b.un x h1 (by rw [h2]; exact hn)
    exact ⟨h3, h4.trans h2⟩
  tp := fun x r p h1 h2 h => by
    obtain ⟨h3, h4⟩ := a.tp x r p h1 h2 h
    obtain ⟨h5, h6⟩ := b.tp x r p h1 h2 h3
    exact ⟨h5, h6.trans h4⟩
  tm := fun x r p h1 h2 h => a.tm x r p h1 h2 (b.tm x r p h1 h2 h)
  tu := fun x xs h hs => b.tu x xs (a.tu x xs h hs) hs
theorem Pres.less {n t t' : Nat} {g g' : G} {H H' : Hp} (a : Pres n t' g H g' H') (h : t ≤ t') : Pres n t g H g' H' :=
  ⟨a.fz, a.un, fun x r p h1 h2 => a.tp x r p h1 (by omega), fun x r p h1 h2 => a.tm x r p h1 (by omega), a.tu⟩
variable {K : PySem.W.Frag}
/-- a tree at a live row is kept -/
theorem Pres.own {n t : Nat} {g g' : G} {H H' : Hp} (a : Pres n t g H g' H') {d : D} {k r : Nat} {p : List Nat} {v : V} (h1 : n ≤ r) (h2 : r < t) (h : Own K H g d k r p v) : Own K H' g' d k r p v :=
  own_conv a.tu d (.inr a.fz) (fun x q e hh => ⟨(a.tp x r _ h1 h2 e).2, by rw [if_pos hh]; exact (a.tp x r _ h1 h2 e).1⟩) (fun _ z => z) h
/-- a frozen tree is kept, and stands at any row -/
theorem Pres.own0 {n t : Nat} {g g' : G} {H H' : Hp} (a : Pres n t g H g' H') {d : D} {r r' : Nat} {p p' : List Nat} {v : V} (h : Own K H g d 0 r p v) : Own K H' g' d 0 r' p' v :=
  own_conv a.tu d (.inr a.fz) (fun x q e hh => by simp [has] at hh) (fun _ z => z) h
/-- new objects alone -/
theorem Sok.grow {κ : OE} {ρ : DE} {g : G} {σ : L2.St} {H H' : Hp} (S : Sok K κ ρ g σ H) (s : Same H H') : Sok K κ ρ g σ H' where
  ok := fun i k d h1 h2 => by
    obtain ⟨v, e, o⟩ := S.ok i k d h1 h2
    have key : ∀ a, g a ≠ .un → H' a = H a := fun a ha => by
      cases q : H a with
      | none => exact absurd q (S.gok a ha)
      | some u => exact s a u q
    exact ⟨v, e, own_conv (fun a xs e _ => s _ _ e) d (.inr fun a e => ⟨e, key a (by rw [e]; simp)⟩) (fun x q e hh => ⟨key x (by rw [e]; simp), by rw [if_pos hh]; exact e⟩) (fun _ z => z) o⟩
  gok := fun a h => by
    cases q : H a with
    | none => exact absurd q (S.gok a h)
    | some u => rw [s a u q]; simp
  len := S.len
  lek := S.lek
theorem Pres.grow {n t : Nat} {g : G} {H H' : Hp} (hg : ∀ a, g a ≠ .un → H a ≠ none) (s : Same H H') : Pres n t g H g H' := by
  have key : ∀ a, H a ≠ none → H' a = H a := fun a ha => by
    cases q : H a with
    | none => exact absurd q ha
    | some u => exact s a u q
  exact ⟨fun a h => ⟨h, key a (hg a (by rw [h]; simp))⟩, fun a h hn => ⟨h, key a hn⟩, fun a r p _ _ h => ⟨h, key a (hg a (by rw [h]; simp))⟩, fun a r p _ _ h => h, fun a xs h _ => s _ _ h⟩
theorem same_new {H : Hp} {p : Addr} {o : HO} (h : H p = none) : Same H (upd H p o) := fun b x e => by
  rw [upd_ne (ne_of_none e h)]
  exact e
/-! ### the judgement of an expression -/
inductive Rz where
  | rep | own (k : Nat)
def RzOk (K : PySem.W.Frag) (H : Hp) (g : G) (t : Nat) : Rz → D → V → Prop
  | .rep, d, v => Rep K H d v
  | .own k, d, v => Own K H g d k t [] v
theorem RzOk.rep {H : Hp} {g : G} {t : Nat} {rz : Rz} {d : D} {v : V} (h : RzOk K H g t rz d v) : Rep K H d v := by
  cases rz with
  | rep => exact h
  | own k => exact own_rep d h
def jPost (K : PySem.W.Frag) (n t : Nat) (κ' : OE) (rz : Rz) (pu : Bool) (g : G) (σ : L2.St) (H : Hp) (d : D) (ρ' : DE) (Q : VK) : Prop :=
  ∀ v H' g', Sok K κ' ρ' g' σ H' → Pres n t g H g' H' → (pu = true → Same H H') → RzOk K H' g' t rz d v → Q v H'
def jTE (K : PySem.W.Frag) (n : Nat) (κ : OE) (m : M) (rz : Rz) (κ' : OE) (pu : Bool) (t : Nat) : TE := fun σ H Q => En n σ H →
  ∃ g ρ, Sok K κ ρ g σ H ∧ ∃ d ρ', m ρ = some (d, ρ') ∧ jPost K n t κ' rz pu g σ H d ρ' Q
structure J (X : Cx) (κ : OE) (e : Expr) (m : M) (rz : Rz) (κ' : OE) (pu : Bool) : Prop where
  run : ∀ t, X.N.length ≤ t → PE X e (jTE X.K X.N.length κ m rz κ' pu t)
  pur : pu = true → ∀ ρ d ρ', m ρ = some (d, ρ') → ρ' = ρ
variable {X : Cx}
theorem Inv.sz {pins : List (Addr × Obj)} {σ : L2.St} {H : Hp} {s : Shared} (I : Inv X pins σ H s) : SzOk H := fun a xs h => by
  rcases h with h | h
  · exact (I.hok a _ h).1
  · exact (I.hok a _ h).1
/-- an answer to a stronger question -/
theorem PE.imp {e : Expr} {t t' : TE} (h : PE X e t) (f : ∀ σ H Q, En X.N.length σ H → t' σ H Q → t σ H Q) : PE X e t' :=
  ⟨fun pins s σ H Q I q => h.run pins s σ H Q I (f σ H Q ⟨Inv.sz I, I.len⟩ q)⟩
/-! ### two in a row -/
def okk : Rz → Bool → Bool
  | .own _, _ => true
  | .rep, p => p
def andThen (ma : M) (f : D → DE → Option (D × DE)) : M := fun ρ => (ma ρ).bind fun x => f x.1 x.2
theorem two {n t : Nat} {κ κ1 κ2 : OE} {ma mb : M} {ra rb : Rz} {pa pb : Bool} (hn : n ≤ t) (ok : okk ra pb = true) {σ : L2.St} {H : Hp} {Q : V → V → Hp → Prop} {g : G} {ρ ρ1 ρ2 : DE} {x y : D}
    (S : Sok K κ ρ g σ H) (ea : ma ρ = some (x, ρ1)) (eb : mb ρ1 = some (y, ρ2)) (z : En n σ H)
    (h : ∀ v u H' g', Sok K κ2 ρ2 g' σ H' → Pres n t g H g' H' → ((pa && pb) = true → Same H H') → RzOk K H' g' t ra x v → RzOk K H' g' (t + 1) rb y u → Q v u H') :
    jTE K n κ ma ra κ1 pa t σ H fun v H1 => jTE K n κ1 mb rb κ2 pb (t + 1) σ H1 fun u H2 => Q v u H2 := by
  refine fun _ => ⟨g, ρ, S, x, ρ1, ea, fun v H1 g1 S1 P1 s1 r1 _ => ⟨g1, ρ1, S1, y, ρ2, eb, fun u H2 g2 S2 P2 s2 r2 => ?_⟩⟩
  refine h v u H2 g2 S2 (P1.trans (P2.less (Nat.le_succ t))) (fun e => ?_) ?_ r2
  · rw [Bool.and_eq_true] at e
    exact (s1 e.1).trans (s2 e.2)
  · cases ra with
    | rep => exact rep_mono (s2 ok) x r1
    | own k => exact P2.own hn (Nat.lt_succ_self t) r1
/-! ### atoms -/
def isA : D → Bool
  | .non => true
  | .bl _ => true
  | .int _ => true
  | .str _ => true
  | _ => false
def av : D → V
  | .non => .non
  | .bl b => .bl b
  | .int i => .int i
  | .str x => .str x
  | _ => .non
theorem rep_atom {H : Hp} {d : D} (h : isA d = true) {v : V} (r : Rep K H d v) : v = av d := by
  cases d <;> first | exact r | cases h
theorem atom_own {H : Hp} {g : G} {d : D} (h : isA d = true) {k r : Nat} {p : List Nat} : Own K H g d k r p (av d) := by
  cases d <;> first | rfl | cases h
theorem atom_rz {H : Hp} {g : G} {d : D} (h : isA d = true) {t : Nat} {rz : Rz} : RzOk K H g t rz d (av d) := by
  cases rz with
  | rep => exact own_rep d (atom_own (g := g) h (k := 0) (r := 0) (p := []))
  | own k => exact atom_own h
/-- an operator whose answer is an atom and that leaves the heap -/
structure AtOp (X : Cx) (r : R2) (f : D → D → Option D) : Prop where
  ans : ∀ (H : Hp) (x y z : D) (v u : V) (Q : VK), f x y = some z → Rep X.K H x v → Rep X.K H y u → Q (av z) H → r v u H Q
  atom : ∀ x y z, f x y = some z → isA z = true
def m2 (f : D → D → Option D) (ma mb : M) : M := fun ρ => (ma ρ).bind fun x => (mb x.2).bind fun y => (f x.1 y.1).map fun z => (z, y.2)
theorem m2_some {f : D → D → Option D} {ma mb : M} {ρ ρ' : DE} {d : D} (h : m2 f ma mb ρ = some (d, ρ')) : ∃ x ρ1 y, ma ρ = some (x, ρ1) ∧ mb ρ1 = some (y, ρ') ∧ f x y = some d := by
  unfold m2 at h
  cases ea : ma ρ with
  | none => rw [ea] at h; cases h
  | some p =>
    rw [ea] at h
    cases eb : mb p.2 with
    | none => simp [eb] at h
    | some q =>
      simp only [Option.bind_some, eb] at h
      cases ec : f p.1 q.1 with
      | none => rw [ec] at h; cases h
      | some z =>
        rw [ec] at h
        cases h
        exact ⟨p.1, p.2, q.1, rfl, eb, ec⟩
theorem J.two_read {κ κ1 κ2 : OE} {a b e : Expr} {ma mb : M} {ra rb : Rz} {pa pb : Bool} {r : R2} {f : D → D → Option D} (ha : J X κ a ma ra κ1 pa) (hb : J X κ1 b mb rb κ2 pb) (ok : okk ra pb = true) (op : AtOp X r f)
    (mk : ∀ {ta tb : TE}, PE X a ta → PE X b tb → PE X e (tOp r ta tb)) {rz : Rz} : J X κ e (m2 f ma mb) rz κ2 (pa && pb) := by
  refine ⟨fun t ht => PE.imp (mk (ha.run t ht) (hb.run (t + 1) (by omega))) fun σ H Q z q => ?_, fun hp ρ d ρ' h => ?_⟩
  · obtain ⟨g, ρ, S, d, ρ', em, post⟩ := q z
    obtain ⟨x, ρ1, y, ea, eb, ec⟩ := m2_some em
    refine two (K := X.K) (κ2 := κ2) ht ok S ea eb z fun v u H' g' S' P' s' r1 r2 => ?_
    exact op.ans H' x y d v u Q ec r1.rep r2.rep (post _ H' g' S' P' s' (atom_rz (op.atom _ _ _ ec)))
  · rw [Bool.and_eq_true] at hp
    obtain ⟨x, ρ1, y, ea, eb, ec⟩ := m2_some h
    rw [hb.pur hp.2 _ _ _ eb, ha.pur hp.1 _ _ _ ea]
end VS
namespace VS
open PySem PySem.Spec PyProof.Rows L2
variable {K : PySem.W.Frag} {X : Cx} {κ κ1 κ2 : OE} {pos : Pos}
/-! ### weakening what the slots own -/
def wk (κ' : OE) (g : G) : G := fun a => match g a with
  | .ow r q => (match κ'[r]? with
    | some (some k) => if has k q.length = true then .ow r q else .fz
    | _ => .ow r q)
  | z => z
def leO (κ' κ : OE) : Bool := decide (κ'.length = κ.length) && (List.range κ'.length).all fun i => match κ'[i]? with
  | some (some k') => (match κ[i]? with
    | some (some k) => decide (k' ≤ k)
    | _ => false)
  | _ => true
theorem leO_get {κ' κ : OE} (h : leO κ' κ = true) {i k' : Nat} (e : κ'[i]? = some (some k')) : ∃ k, κ[i]? = some (some k) ∧ k' ≤ k := by
  unfold leO at h
  rw [Bool.and_eq_true, List.all_eq_true] at h
  have hi : i < κ'.length := by
    obtain ⟨h1, _⟩ := List.getElem?_eq_some_iff.mp e
    exact h1
  have q := h.2 i (List.mem_range.mpr hi)
  rw [e] at q
  cases q2 : κ[i]? with
  | none => rw [q2] at q; cases q
  | some o => cases o with
    | none => rw [q2] at q; cases q
    | some k => rw [q2] at q; exact ⟨k, rfl, of_decide_eq_true q⟩
theorem leO_len {κ' κ : OE} (h : leO κ' κ = true) : κ'.length = κ.length := by
  unfold leO at h
  rw [Bool.and_eq_true] at h
  exact of_decide_eq_true h.1
theorem wk_fz {κ' : OE} {g : G} {a : Addr} (h : g a = .fz) : wk κ' g a = .fz := by unfold wk; rw [h]
theorem wk_un {κ' : OE} {g : G} {a : Addr} (h : g a = .un) : wk κ' g a = .un := by unfold wk; rw [h]
theorem wk_hi {κ' : OE} {g : G} {a : Addr} {r : Nat} {p : List Nat} (hr : κ'.length ≤ r) (h : g a = .ow r p) : wk κ' g a = .ow r p := by
  unfold wk
  rw [h]
  have : κ'[r]? = none := List.getElem?_eq_none_iff.mpr hr
  simp [this]
theorem wk_lo {κ' : OE} {g : G} {a : Addr} {r k : Nat} {p : List Nat} (hr : κ'[r]? = some (some k)) (h : g a = .ow r p) : wk κ' g a = if has k p.length = true then Gh.ow r p else Gh.fz := by
  unfold wk
  rw [h]
  simp [hr]
theorem wk_ne {κ' : OE} {g : G} {a : Addr} (h : wk κ' g a ≠ .un) : g a ≠ .un := fun z => h (wk_un z)
theorem wk_ow {κ' : OE} {g : G} {a : Addr} {r : Nat} {p : List Nat} (h : wk κ' g a = .ow r p) : g a = .ow r p := by
  unfold wk at h
  split at h
  · rename_i r' q' e
    split at h
    · split at h
      · cases h; exact e
      · cases h
    · cases h; exact e
  · exact h
theorem Sok.weaken {κ' : OE} {ρ : DE} {g : G} {σ : L2.St} {H : Hp} (S : Sok K κ ρ g σ H) (h : leO κ' κ = true) : Sok K κ' ρ (wk κ' g) σ H where
  ok := fun i k' d h1 h2 => by
    obtain ⟨k, e, l⟩ := leO_get h h1
    obtain ⟨v, es, o⟩ := S.ok i k d e h2
    exact ⟨v, es, own_conv (fun _ _ z _ => z) d (.inr fun a z => ⟨wk_fz z, rfl⟩) (fun a q z hh => ⟨rfl, by simpa using wk_lo h1 z⟩) (fun n z => has_le l z) o⟩
  gok := fun a z => S.gok a (wk_ne z)
  len := S.len
  lek := (leO_len h).trans S.lek
theorem Pres.weaken {n t : Nat} {g : G} {H : Hp} (hn : κ1.length = n) : Pres n t g H (wk κ1 g) H where
  fz := fun a h => ⟨wk_fz h, rfl⟩
  un := fun a h _ => ⟨wk_un h, rfl⟩
  tp := fun a r p h1 _ h => ⟨wk_hi (by omega) h, rfl⟩
  tm := fun a r p _ _ h => wk_ow h
  tu := fun _ _ h _ => h
/-- a weaker end -/
theorem J.weak {e : Expr} {m : M} {rz : Rz} {pu : Bool} (h : J X κ e m rz κ1 pu) (hl : leO κ2 κ1 = true) (hn : κ2.length = X.N.length) : J X κ e m rz κ2 pu := by
  refine ⟨fun t ht => PE.imp (h.run t ht) fun σ H Q z q _ => ?_, h.pur⟩
  obtain ⟨g, ρ, S, d, ρ', em, post⟩ := q z
  refine ⟨g, ρ, S, d, ρ', em, fun v H' g' S' P' s' r' => post v H' (wk κ2 g') (S'.weaken hl) (P'.trans (Pres.weaken hn)) s' ?_⟩
  cases rz with
  | rep => exact r'
  | own k => exact (Pres.weaken (t := t + 1) hn).own (H' := H') ht (Nat.lt_succ_self t) r'
/-! ### names, constants -/
def mC (d : D) : M := fun ρ => some (d, ρ)
theorem j_const {e : Expr} {d : D} (hd : isA d = true) (h : PE X e (tC (av d))) {rz : Rz} : J X κ e (mC d) rz κ true := by
  refine ⟨fun t ht => PE.imp h fun σ H Q z q => ?_, fun _ ρ d' ρ' e => by cases e; rfl⟩
  obtain ⟨g, ρ, S, d', ρ', em, post⟩ := q z
  cases em
  exact post _ H g S Pres.refl (fun _ => Same.refl H) (atom_rz hd)
def mV (i : Nat) : M := fun ρ => match ρ[i]? with
  | some (some d) => some (d, ρ)
  | _ => none
theorem mV_some {i : Nat} {ρ ρ' : DE} {d : D} (h : mV i ρ = some (d, ρ')) : ρ[i]? = some (some d) ∧ ρ' = ρ := by
  unfold mV at h
  split at h
  · cases h; exact ⟨by assumption, rfl⟩
  · cases h
/-- a name, looked at alone -/
theorem j_var {i k : Nat} {e : Expr} (h : PE X e (tVar i)) (hk : κ[i]? = some (some k)) : J X κ e (mV i) .rep κ true := by
  refine ⟨fun t ht => PE.imp h fun σ H Q z q => ?_, fun _ ρ d' ρ' e => (mV_some e).2⟩
  obtain ⟨g, ρ, S, d', ρ', em, post⟩ := q z
  obtain ⟨e1, rfl⟩ := mV_some em
  obtain ⟨v, es, o⟩ := S.ok i k d' hk e1
  exact ⟨v, es, post v H g S Pres.refl (fun _ => Same.refl H) (own_rep d' o)⟩
theorem leO_set0 {κ : OE} {i k : Nat} (hk : κ[i]? = some (some k)) {k' : Nat} (hl : k' ≤ k) : leO (κ.set i (some k')) κ = true := by
  unfold leO
  rw [Bool.and_eq_true, List.all_eq_true]
  refine ⟨by simp, fun j hj => ?_⟩
  rw [List.getElem?_set]
  by_cases h : i = j
  · subst h
    have hi := (List.getElem?_eq_some_iff.mp hk).1
    have hk2 := hk
    rw [List.getElem?_eq_getElem hi] at hk2
    simp only [Option.some.injEq] at hk2
    simp [hi, hk2, hl]
  · simp only [h, if_false]
    cases q : κ[j]? with
    | none => rfl
    | some o => cases o with
      | none => rfl
      | some n => simp
/-- a name as a value of its own: frozen from now on -/
theorem j_frz {i k : Nat} {e : Expr} (h : PE X e (tVar i)) (hk : κ[i]? = some (some k)) (hn : κ.length = X.N.length) : J X κ e (mV i) (.own 0) (κ.set i (some 0)) true := by
  refine ⟨fun t ht => PE.imp h fun σ H Q z q => ?_, fun _ ρ d' ρ' e => (mV_some e).2⟩
  obtain ⟨g, ρ, S, d', ρ', em, post⟩ := q z
  obtain ⟨e1, rfl⟩ := mV_some em
  have hl := leO_set0 hk (Nat.zero_le k)
  have S' := S.weaken hl
  obtain ⟨v, es, o⟩ := S'.ok i 0 d' (by rw [List.getElem?_set_self (List.getElem?_eq_some_iff.mp hk).1]) e1
  exact ⟨v, es, post v H _ S' (Pres.weaken (by simpa using hn)) (fun _ => Same.refl H) ((Pres.refl (n := 0) (t := 0)).own0 o)⟩
/-! ### displays -/
/-- the trees of the rows t, t + 1, .. -/
def OwnRows (K : PySem.W.Frag) (H : Hp) (g : G) (k : Nat) : Nat → List D → List V → Prop
  | _, [], vs => vs = []
  | t, d :: ds, vs => ∃ v r, vs = v :: r ∧ Own K H g d k t [] v ∧ OwnRows K H g k (t + 1) ds r
abbrev ML := DE → Option (List D × DE)
/-- how an argument is handed: read or owned, at its row; or a slot's own object, to be changed -/
inductive Am where
  | rz (z : Rz) | io (i : Nat)
def RowsOk (K : PySem.W.Frag) (H : Hp) (g : G) (σ : L2.St) (ρ : DE) : Nat → List Am → List D → List V → Prop
  | _, [], ds, vs => ds = [] ∧ vs = []
  | t, .rz z :: ms, ds, vs => ∃ d ds' v vs', ds = d :: ds' ∧ vs = v :: vs' ∧ RzOk K H g t z d v ∧ RowsOk K H g σ ρ (t + 1) ms ds' vs'
  | t, .io i :: ms, ds, vs => ∃ d ds' v vs', ds = d :: ds' ∧ vs = v :: vs' ∧ (σ[i]? = some (some v) ∧ ρ[i]? = some (some d)) ∧ RowsOk K H g σ ρ (t + 1) ms ds' vs'
def jPostL (K : PySem.W.Frag) (n t : Nat) (κ' : OE) (ms : List Am) (pu : Bool) (g : G) (σ : L2.St) (H : Hp) (ds : List D) (ρ' : DE) (Q : List V → Hp → Prop) : Prop :=
  ∀ vs H' g', Sok K κ' ρ' g' σ H' → Pres n t g H g' H' → (pu = true → Same H H') → RowsOk K H' g' σ ρ' t ms ds vs → Q vs H'
def jTA (K : PySem.W.Frag) (n : Nat) (κ : OE) (m : ML) (ms : List Am) (κ' : OE) (pu : Bool) (t : Nat) : TA := fun σ H Q => En n σ H →
  ∃ g ρ, Sok K κ ρ g σ H ∧ ∃ ds ρ', m ρ = some (ds, ρ') ∧ jPostL K n t κ' ms pu g σ H ds ρ' Q
/-- arguments -/
structure JA (X : Cx) (κ : OE) (es : List Expr) (m : ML) (ms : List Am) (κ' : OE) (pu : Bool) : Prop where
  run : ∀ t, X.N.length ≤ t → PA X es (jTA X.K X.N.length κ m ms κ' pu t)
  pur : pu = true → ∀ ρ d ρ', m ρ = some (d, ρ') → ρ' = ρ
theorem PA.imp {es : List Expr} {t t' : TA} (h : PA X es t) (f : ∀ σ H Q, En X.N.length σ H → t' σ H Q → t σ H Q) : PA X es t' :=
  ⟨fun pos pins s σ H Q I q => h.run pos pins s σ H Q I (f σ H Q ⟨Inv.sz I, I.len⟩ q)⟩
def mNil : ML := fun ρ => some ([], ρ)
def mCons (ma : M) (ml : ML) : ML := fun ρ => (ma ρ).bind fun x => (ml x.2).map fun y => (x.1 :: y.1, y.2)
theorem mCons_some {ma : M} {ml : ML} {ρ ρ' : DE} {ds : List D} (h : mCons ma ml ρ = some (ds, ρ')) : ∃ x ρ1 r, ma ρ = some (x, ρ1) ∧ ml ρ1 = some (r, ρ') ∧ ds = x :: r := by
  unfold mCons at h
  cases ea : ma ρ with
  | none => rw [ea] at h; cases h
  | some p =>
    rw [ea] at h
    cases eb : ml p.2 with
    | none => simp [eb] at h
    | some q =>
      simp only [Option.bind_some, eb, Option.map_some] at h
      cases h
      exact ⟨p.1, p.2, q.1, rfl, eb, rfl⟩
theorem ja_nil : JA X κ [] mNil [] κ true := by
  refine ⟨fun t ht => PA.imp pa_nil fun σ H Q z q => ?_, fun _ ρ d' ρ' e => by cases e; rfl⟩
  obtain ⟨g, ρ, S, ds, ρ', em, post⟩ := q z
  cases em
  exact post [] H g S Pres.refl (fun _ => Same.refl H) ⟨rfl, rfl⟩
theorem ja_cons {e : Expr} {es : List Expr} {ma : M} {ml : ML} {z : Rz} {ms : List Am} {pa pb : Bool} (ha : J X κ e ma z κ1 pa) (hb : JA X κ1 es ml ms κ2 pb) (ok : okk z pb = true)
    (hs : starEach (e :: es) X.env = (false, eval e X.env) :: starEach es X.env) : JA X κ (e :: es) (mCons ma ml) (.rz z :: ms) κ2 (pa && pb) := by
  refine ⟨fun t ht => PA.imp (pa_cons (ha.run t ht) (hb.run (t + 1) (by omega)) hs) fun σ H Q en q => ?_, fun hp ρ d ρ' h => ?_⟩
  · obtain ⟨g, ρ, S, ds, ρ', em, post⟩ := q en
    obtain ⟨x, ρ1, r, ea, eb, rfl⟩ := mCons_some em
    refine fun _ => ⟨g, ρ, S, x, ρ1, ea, fun v H1 g1 S1 P1 s1 r1 => fun _ => ⟨g1, ρ1, S1, r, ρ', eb, fun vs H2 g2 S2 P2 s2 r2 => ?_⟩⟩
    refine post (v :: vs) H2 g2 S2 (P1.trans (P2.less (Nat.le_succ t))) (fun e => ?_) ⟨x, r, v, vs, rfl, rfl, ?_, r2⟩
    · rw [Bool.and_eq_true] at e
      exact (s1 e.1).trans (s2 e.2)
    · cases z with
      | rep => exact rep_mono (s2 ok) x r1
      | own k => exact P2.own ht (Nat.lt_succ_self t) r1
  · rw [Bool.and_eq_true] at hp
    obtain ⟨x, ρ1, r, ea, eb, rfl⟩ := mCons_some h
    rw [hb.pur hp.2 _ _ _ eb, ha.pur hp.1 _ _ _ ea]
theorem ja_io {e : Expr} {es : List Expr} {i k : Nat} {ml : ML} {ms : List Am} (ha : PE X e (tVar i)) (hk : κ[i]? = some (some k)) (hb : JA X κ es ml ms κ2 true)
    (hs : starEach (e :: es) X.env = (false, eval e X.env) :: starEach es X.env) : JA X κ (e :: es) (mCons (mV i) ml) (.io i :: ms) κ2 true := by
  refine ⟨fun t ht => PA.imp (pa_cons ha (hb.run (t + 1) (by omega)) hs) fun σ H Q en q => ?_, fun hp ρ d ρ' h => ?_⟩
  · obtain ⟨g, ρ, S, ds, ρ', em, post⟩ := q en
    obtain ⟨x, ρ1, r, ea, eb, rfl⟩ := mCons_some em
    obtain ⟨e1, rfl⟩ := mV_some ea
    obtain ⟨v, es, o⟩ := S.ok i k x hk e1
    refine ⟨v, es, fun _ => ⟨g, ρ1, S, r, ρ', eb, fun vs H2 g2 S2 P2 s2 r2 => ?_⟩⟩
    have e2 := hb.pur rfl _ _ _ eb
    exact post (v :: vs) H2 g2 S2 (P2.less (Nat.le_succ t)) s2 ⟨x, r, v, vs, rfl, rfl, ⟨es, by rw [e2]; exact e1⟩, r2⟩
  · obtain ⟨x, ρ1, r, ea, eb, rfl⟩ := mCons_some h
    rw [hb.pur rfl _ _ _ eb, (mV_some ea).2]
def allOwn (k : Nat) : List Am → Bool
  | [] => true
  | .rz (.own j) :: ms => decide (j = k) && allOwn k ms
  | _ => false
theorem rows_own {H : Hp} {g : G} {σ : L2.St} {ρ : DE} {k : Nat} : ∀ {ms : List Am} {t : Nat} {ds : List D} {vs : List V}, allOwn k ms = true → RowsOk K H g σ ρ t ms ds vs → OwnRows K H g k t ds vs
  | [], _, _, _, _, h => by
    obtain ⟨rfl, rfl⟩ := h
    rfl
  | .rz .rep :: ms, _, _, _, h, _ => by cases h
  | .io i :: ms, _, _, _, h, _ => by cases h
  | .rz (.own j) :: ms, _, _, _, h, q => by
    obtain ⟨d, ds', v, vs', rfl, rfl, h1, h2⟩ := q
    have h' : (decide (j = k) && allOwn k ms) = true := h
    rw [Bool.and_eq_true, decide_eq_true_eq] at h'
    obtain ⟨rfl, h3⟩ := h'
    exact ⟨v, vs', rfl, h1, rows_own h3 h2⟩
/-- the rows t, t + 1, .., t + c - 1 become the places 0, 1, .. of one object at the row t -/
def gat (n t c : Nat) (g : G) (p : Addr) (own : Bool) : G := fun a => if a = p then (if own then .ow t [] else .fz) else match g a with
  | .ow r q => if t ≤ r then (if r < t + c then .ow t (q ++ [r - t]) else .un) else .ow r q
  | z => z
theorem rows_len {H : Hp} {g : G} {k : Nat} : ∀ {t : Nat} {ds : List D} {vs : List V}, OwnRows K H g k t ds vs → vs.length = ds.length
  | _, [], _, h => by cases h; rfl
  | _, _ :: _, _, h => by
    obtain ⟨v, r, rfl, _, h⟩ := h
    simp [rows_len h]
theorem gat_ne {n t c : Nat} {g : G} {p a : Addr} {b : Bool} (h : a ≠ p) : gat n t c g p b a = match g a with
    | .ow r q => if t ≤ r then (if r < t + c then .ow t (q ++ [r - t]) else .un) else .ow r q
    | z => z := by
  unfold gat
  rw [if_neg h]
theorem rows_gather {H : Hp} {g : G} {n t c k : Nat} {p : Addr} {o : HO} {b : Bool} (hp : H p = none) (gok : ∀ a, g a ≠ .un → H a ≠ none) : ∀ {i : Nat} {ds : List D} {vs : List V}, i + ds.length ≤ c → OwnRows K H g k (t + i) ds vs →
    OwnL K (upd H p o) (gat n t c g p b) ds k t [] i vs
  | _, [], _, _, h => h
  | i, d :: ds, _, hc, h => by
    obtain ⟨v, r, rfl, h1, h2⟩ := h
    simp only [List.length_cons] at hc
    have ne : ∀ a, g a ≠ .un → a ≠ p := fun a h z => gok a h (z ▸ hp)
    refine ⟨v, r, rfl, own_conv (fun a xs e _ => ?_) d (.inr fun a e => ?_) (fun a q e hh => ?_) (fun _ z => z) h1, rows_gather hp gok (i := i + 1) (by omega) (by rw [← Nat.add_assoc]; exact h2)⟩
    · rw [upd_ne (ne_of_none e hp)]; exact e
    · have := ne a (by rw [e]; simp)
      exact ⟨by rw [gat_ne this, e], upd_ne this⟩
    · have := ne a (by rw [e]; simp)
      refine ⟨upd_ne this, ?_⟩
      rw [gat_ne this, e, if_pos hh]
      simp only [List.append_nil]
      rw [if_pos (by omega), if_pos (by omega)]
      simp
theorem Sok.gather {ρ : DE} {g : G} {σ : L2.St} {H : Hp} {n t c : Nat} {p : Addr} {o : HO} {b : Bool} (S : Sok K κ ρ g σ H) (hp : H p = none) (hn : σ.length ≤ t) : Sok K κ ρ (gat n t c g p b) σ (upd H p o) where
  ok := fun i k d h1 h2 => by
    obtain ⟨v, e, ow⟩ := S.ok i k d h1 h2
    have ne : ∀ a, g a ≠ .un → a ≠ p := fun a h z => S.gok a h (z ▸ hp)
    have hi : i < t := by
      have := (List.getElem?_eq_some_iff.mp e).1
      omega
    refine ⟨v, e, own_conv (fun a xs e _ => ?_) d (.inr fun a e => ?_) (fun a q e hh => ?_) (fun _ z => z) ow⟩
    · rw [upd_ne (ne_of_none e hp)]; exact e
    · have := ne a (by rw [e]; simp)
      exact ⟨by rw [gat_ne this, e], upd_ne this⟩
    · have := ne a (by rw [e]; simp)
      refine ⟨upd_ne this, ?_⟩
      rw [gat_ne this, e, if_pos hh]
      simp only []
      rw [if_neg (by omega)]
  gok := fun a h => by
    by_cases e : a = p
    · subst e; rw [upd_same]; simp
    · rw [upd_ne e]
      rw [gat_ne e] at h
      exact S.gok a fun z => by rw [z] at h; exact h rfl
  len := S.len
  lek := S.lek
theorem Pres.gather {g : G} {H : Hp} {n t c : Nat} {p : Addr} {o : HO} {b : Bool} (gok : ∀ a, g a ≠ .un → H a ≠ none) (hp : H p = none) : Pres n t g H (gat n t c g p b) (upd H p o) where
  fz := fun a e => by
    have : a ≠ p := fun z => gok a (by rw [e]; simp) (z ▸ hp)
    exact ⟨by rw [gat_ne this, e], upd_ne this⟩
  un := fun a e hh => by
    have : a ≠ p := fun z => hh (z ▸ hp)
    exact ⟨by rw [gat_ne this, e], upd_ne this⟩
  tp := fun a r q h1 h2 e => by
    have : a ≠ p := fun z => gok a (by rw [e]; simp) (z ▸ hp)
    exact ⟨by rw [gat_ne this, e]; simp only []; rw [if_neg (by omega)], upd_ne this⟩
  tm := fun a r q h1 h2 e => by
    by_cases z : a = p
    · subst z
      unfold gat at e
      rw [if_pos rfl] at e
      split at e
      · cases e; omega
      · cases e
    · rw [gat_ne z] at e
      split at e
      · rename_i r' q' e'
        split at e
        · split at e
          · cases e; omega
          · cases e
        · cases e; first | done | exact e'
      · exact e
  tu := fun a xs e _ => by rw [upd_ne (ne_of_none e hp)]; exact e
def mLst (ml : ML) : M := fun ρ => (ml ρ).bind fun x => if x.1.length ≤ 16777216 then some (.lst x.1, x.2) else none
def mTup (ml : ML) : M := fun ρ => (ml ρ).bind fun x => if x.1.length ≤ 16777216 then some (.tup x.1, x.2) else none
theorem mSeq_some {f : List D → D} {ml : ML} {ρ ρ' : DE} {d : D} (h : ((ml ρ).bind fun x => if x.1.length ≤ 16777216 then some (f x.1, x.2) else none) = some (d, ρ')) : ∃ ds, ml ρ = some (ds, ρ') ∧ ds.length ≤ sizeLine ∧ d = f ds := by
  cases ea : ml ρ with
  | none => rw [ea] at h; cases h
  | some p =>
    rw [ea] at h
    simp only [Option.bind_some] at h
    split at h
    · cases h
      exact ⟨p.1, rfl, by rw [sizeLine_eq]; assumption, rfl⟩
    · cases h
theorem j_lst {es : List Expr} {ml : ML} {k : Nat} {ms : List Am} {pu : Bool} (h : JA X κ es ml ms κ1 pu) {k' : Nat} (ha : allOwn (lv k') ms = true) (h0 : k' ≠ 0) : J X κ (.List es pos) (mLst ml) (.own k') κ1 pu := by
  refine ⟨fun t ht => PE.imp (pe_lst (h.run t ht)) fun σ H Q z q => ?_, fun hp ρ d ρ' e => ?_⟩
  · obtain ⟨g, ρ, S, d, ρ', em, post⟩ := q z
    obtain ⟨ds, el, hz, rfl⟩ := mSeq_some em
    refine fun _ => ⟨g, ρ, S, ds, ρ', el, fun vs H1 g1 S1 P1 s1 r1 => ?_⟩
    have r2 := rows_own ha r1
    refine ⟨by rw [rows_len r2]; exact hz, fun p np => ?_⟩
    have hlen : σ.length ≤ t := by rw [z.2]; exact ht
    refine post (.ref p) _ (gat X.N.length t ds.length g1 p true) (S1.gather np hlen) (P1.trans (Pres.gather S1.gok np)) (fun e => (s1 e).trans (same_new np)) ?_
    refine ⟨p, vs, rfl, upd_same, ?_, rows_gather np S1.gok (i := 0) (by omega) r2⟩
    rw [if_neg h0]
    unfold gat
    rw [if_pos rfl]
    rfl
  · obtain ⟨ds, el, hz, rfl⟩ := mSeq_some e
    exact h.pur hp _ _ _ el
theorem j_tup {es : List Expr} {ml : ML} {k' : Nat} {ms : List Am} {pu : Bool} {x1 : Nat} (h : JA X κ es ml ms κ1 pu) (ha : allOwn (lv k') ms = true) : J X κ (.Tuple es x1 pos) (mTup ml) (.own k') κ1 pu := by
  refine ⟨fun t ht => PE.imp (pe_tup (h.run t ht)) fun σ H Q z q => ?_, fun hp ρ d ρ' e => ?_⟩
  · obtain ⟨g, ρ, S, d, ρ', em, post⟩ := q z
    obtain ⟨ds, el, hz, rfl⟩ := mSeq_some em
    refine fun _ => ⟨g, ρ, S, ds, ρ', el, fun vs H1 g1 S1 P1 s1 r1 => ?_⟩
    have r2 := rows_own ha r1
    refine ⟨by rw [rows_len r2]; exact hz, fun p np => ?_⟩
    have hlen : σ.length ≤ t := by rw [z.2]; exact ht
    refine post (.ref p) _ (gat X.N.length t ds.length g1 p false) (S1.gather np hlen) (P1.trans (Pres.gather S1.gok np)) (fun e => (s1 e).trans (same_new np)) ?_
    exact ⟨p, vs, rfl, upd_same, rows_gather np S1.gok (i := 0) (by omega) r2⟩
  · obtain ⟨ds, el, hz, rfl⟩ := mSeq_some e
    exact h.pur hp _ _ _ el
/-- an end owned less deep -/
theorem J.less {e : Expr} {m : M} {j k : Nat} {pu : Bool} (h : J X κ e m (.own k) κ1 pu) (hl : j ≤ k) : J X κ e m (.own j) κ1 pu := by
  refine ⟨fun t ht => PE.imp (h.run t ht) fun σ H Q z q _ => ?_, h.pur⟩
  obtain ⟨g, ρ, S, d, ρ', em, post⟩ := q z
  refine ⟨g, ρ, S, d, ρ', em, fun v H' g' S' P' s' r' => ?_⟩
  let g2 : G := fun a => match g' a with
    | .ow r q => if r = t then (if has j q.length = true then .ow r q else .fz) else .ow r q
    | z => z
  have e2 : ∀ a, g2 a = match g' a with
    | .ow r q => if r = t then (if has j q.length = true then .ow r q else .fz) else .ow r q
    | z => z := fun _ => rfl
  have hlen : σ.length ≤ t := by rw [z.2]; exact ht
  have keep : ∀ a r q, r ≠ t → g' a = .ow r q → g2 a = .ow r q := fun a r q hr e => by rw [e2, e]; simp [hr]
  have P2 : Pres X.N.length t g' H' g2 H' := by
    refine ⟨fun a e => ⟨by rw [e2, e], rfl⟩, fun a e _ => ⟨by rw [e2, e], rfl⟩, fun a r p h1 h2 e => ⟨keep a r p (by omega) e, rfl⟩, fun a r p h1 h2 e => ?_, fun _ _ h _ => h⟩
    rw [e2] at e
    split at e
    · split at e
      · split at e
        · cases e; omega
        · cases e
      · cases e; assumption
    · rename_i hh; exact e
  refine post v H' g2 ⟨fun i k' d' h1 h2 => ?_, fun a hh => S'.gok a fun z => hh (by rw [e2, z]), S'.len, S'.lek⟩ (P'.trans P2) s' ?_
  · obtain ⟨v', es, o⟩ := S'.ok i k' d' h1 h2
    have hi : i < t := by
      have := (List.getElem?_eq_some_iff.mp es).1
      omega
    exact ⟨v', es, own_conv (fun _ _ z _ => z) d' (.inr fun a e => ⟨by rw [e2, e], rfl⟩) (fun a q e hh => ⟨rfl, by rw [if_pos hh]; exact keep a i _ (by omega) e⟩) (fun _ z => z) o⟩
  · exact own_conv (fun _ _ z _ => z) d (.inr fun a e => ⟨by rw [e2, e], rfl⟩) (fun a q e hh => ⟨rfl, by rw [e2, e]; simp⟩) (fun n z => has_le hl z) r'
theorem J.asRep {e : Expr} {m : M} {z : Rz} {pu : Bool} (h : J X κ e m z κ1 pu) : J X κ e m .rep κ1 pu := by
  refine ⟨fun t ht => PE.imp (h.run t ht) fun σ H Q en q _ => ?_, h.pur⟩
  obtain ⟨g, ρ, S, d, ρ', em, post⟩ := q en
  exact ⟨g, ρ, S, d, ρ', em, fun v H' g' S' P' s' r' => post v H' g' S' P' s' r'.rep⟩
/-- an atom is its own -/
def mA (m : M) : M := fun ρ => (m ρ).bind fun x => if isA x.1 = true then some x else none
theorem mA_some {m : M} {ρ ρ' : DE} {d : D} (h : mA m ρ = some (d, ρ')) : m ρ = some (d, ρ') ∧ isA d = true := by
  unfold mA at h
  cases e : m ρ with
  | none => rw [e] at h; cases h
  | some p =>
    rw [e] at h
    simp only [Option.bind_some] at h
    split at h
    · cases h; exact ⟨rfl, by assumption⟩
    · cases h
theorem J.asAtom {e : Expr} {m : M} {z z' : Rz} {pu : Bool} (h : J X κ e m z κ1 pu) : J X κ e (mA m) z' κ1 pu := by
  refine ⟨fun t ht => PE.imp (h.run t ht) fun σ H Q en q _ => ?_, fun hp ρ d ρ' e => h.pur hp _ _ _ (mA_some e).1⟩
  obtain ⟨g, ρ, S, d, ρ', em, post⟩ := q en
  obtain ⟨e1, e2⟩ := mA_some em
  refine ⟨g, ρ, S, d, ρ', e1, fun v H' g' S' P' s' r' => post v H' g' S' P' s' ?_⟩
  rw [rep_atom e2 r'.rep]
  exact atom_rz e2
end VS
namespace VS
open PySem PySem.Spec PyProof.Rows L2
variable {K : PySem.W.Frag} {X : Cx} {κ κ1 κ2 : OE} {pos : Pos}
/-! ### data as the library's data -/
mutual
def pyD : D → PyData
  | .non => .none
  | .bl b => .bool b
  | .int i => .int i
  | .str x => .str x
  | .tup xs => .tuple (pyL xs)
  | .lst xs => .list (pyL xs)
  | .rol ns => .list (ns.map .int)
  | .dic _ _ => .none
def pyL : List D → List PyData
  | [] => []
  | x :: xs => pyD x :: pyL xs
end
theorem dpAll_ints {H : Hp} : ∀ ns : List Int, DpAll K H (ns.map V.int) (ns.map PyData.int)
  | [] => .nil
  | n :: ns => .cons (.int n) (dpAll_ints ns)
mutual
/-- no dict within -/
def noD : D → Bool
  | .dic _ _ => false
  | .tup xs => noDL xs
  | .lst xs => noDL xs
  | _ => true
def noDL : List D → Bool
  | [] => true
  | x :: xs => noD x && noDL xs
end
theorem rep_dp {H : Hp} : (d : D) → noD d = true → ∀ {v}, Rep K H d v → Dp K H v (pyD d)
  | .non, _, _, h => by cases (show _ = _ from h); exact .non
  | .bl b, _, _, h => by cases (show _ = _ from h); exact .bl b
  | .int i, _, _, h => by cases (show _ = _ from h); exact .int i
  | .str x, _, _, h => by cases (show _ = _ from h); exact .str x
  | .tup ds, n, _, h => by
    obtain ⟨a, vs, rfl, ha, hl⟩ := h
    exact .tup (SqT.of ha) (go ds n hl)
  | .lst ds, n, _, h => by
    obtain ⟨a, vs, rfl, ha, hl⟩ := h
    exact .lst (SqL.of ha) (go ds n hl)
  | .rol ns, _, _, h => by
    obtain ⟨a, rfl, hs⟩ := h
    exact .lst (rol_sq hs) (dpAll_ints ns)
  | .dic _ _, n, _, _ => nomatch n
where
  go : (ds : List D) → noDL ds = true → ∀ {vs}, RepL K H ds vs → DpAll K H vs (pyL ds)
  | [], _, _, h => by cases (show _ = _ from h); exact .nil
  | d :: ds, n, _, h => by
    obtain ⟨v, w, rfl, h1, h2⟩ := h
    have n' : (noD d && noDL ds) = true := n
    rw [Bool.and_eq_true] at n'
    exact .cons (rep_dp d n'.1 h1) (go ds n'.2 h2)
theorem repL_dp {H : Hp} (ds : List D) (n : noDL ds = true) {vs} (h : RepL K H ds vs) : DpAll K H vs (pyL ds) := rep_dp.go ds n h
theorem plain_ints : ∀ ns : List Int, PyData.plainAll (ns.map PyData.int) = true
  | [] => rfl
  | n :: ns => by
    show (PyData.plain (.int n) && PyData.plainAll (ns.map PyData.int)) = true
    rw [plain_ints ns]
    rfl
theorem plain_pyD : (d : D) → (pyD d).plain = true
  | .non => rfl
  | .bl _ => rfl
  | .int _ => rfl
  | .str _ => rfl
  | .tup ds => by
    show PyData.plainAll (pyL ds) = true
    exact go ds
  | .lst ds => by
    show PyData.plainAll (pyL ds) = true
    exact go ds
  | .rol ns => by
    show PyData.plainAll (ns.map .int) = true
    exact plain_ints ns
  | .dic _ _ => rfl
where
  go : (ds : List D) → PyData.plainAll (pyL ds) = true
  | [] => rfl
  | d :: ds => by
    show ((pyD d).plain && PyData.plainAll (pyL ds)) = true
    rw [plain_pyD d, go ds]
    rfl
theorem plain_pyL (ds : List D) : PyData.plainAll (pyL ds) = true := plain_pyD.go ds
def deq (a b : D) : Bool := PyData.eqv (pyD a) (pyD b)
def deqL (a b : List D) : Bool := PyData.eqvAll (pyL a) (pyL b)
def dep (a : D) : Nat := if noD a = true then (pyD a).depth else 1000
def depL (a : List D) : Nat := if noDL a = true then PyData.depthAll (pyL a) else 1000
theorem dep_no {a : D} (h : dep a ≤ 60) : noD a = true ∧ (pyD a).depth ≤ 60 := by
  unfold dep at h
  split at h
  · exact ⟨by assumption, h⟩
  · omega
theorem depL_no {a : List D} (h : depL a ≤ 60) : noDL a = true ∧ PyData.depthAll (pyL a) ≤ 60 := by
  unfold depL at h
  split at h
  · exact ⟨by assumption, h⟩
  · omega
/-- shallow enough to be compared -/
def cmpOk (a b : D) : Bool := decide (dep a ≤ 60) && decide (dep b ≤ 60)
theorem cmp_no {a b : D} (h : cmpOk a b = true) : (noD a = true ∧ (pyD a).depth ≤ 60) ∧ noD b = true ∧ (pyD b).depth ≤ 60 := by
  unfold cmpOk at h
  rw [Bool.and_eq_true, decide_eq_true_eq, decide_eq_true_eq] at h
  exact ⟨dep_no h.1, dep_no h.2⟩
/-! ### operators -/
theorem OpR.at {f : Value → Value → Sem Value} {r : R2} (h : ∀ (pins : List (Addr × Obj)) (s : Shared) (σ : L2.St) (H : Hp) (x y : V) (v u : Value) (Q : VK), Inv X pins σ H s → RelV x v → RelV y u → r x y H Q →
    wpAny (model X.prog X.w) X.A (f v u) (EP X pins σ Q) X.xe s) : OpR X f r := h
/-- what an operator on data asks: the data stand, the answer is an atom -/
def rDat (K : PySem.W.Frag) (f : D → D → Option D) : R2 := fun x y H Q => ∃ a b c, Rep K H a x ∧ Rep K H b y ∧ f a b = some c ∧ isA c = true ∧ Q (av c) H
theorem atOp {f : D → D → Option D} (h : ∀ x y z, f x y = some z → isA z = true) : AtOp X (rDat X.K f) f :=
  ⟨fun H x y z v u Q e rx ry q => ⟨x, y, z, rx, ry, e, h x y z e, q⟩, h⟩
theorem rep_int {H : Hp} {i : Int} {v : V} (h : Rep K H (.int i) v) : v = .int i := h
theorem rep_str {H : Hp} {i : Str} {v : V} (h : Rep K H (.str i) v) : v = .str i := h
def dI (C : Int → Int → Bool) (f : Int → Int → D) : D → D → Option D
  | .int i, .int j => if C i j = true then some (f i j) else none
  | _, _ => none
theorem dI_some {C : Int → Int → Bool} {f : Int → Int → D} {a b c : D} (h : dI C f a b = some c) : ∃ i j, a = .int i ∧ b = .int j ∧ C i j = true ∧ c = f i j := by
  unfold dI at h
  split at h
  · split at h
    · cases h; exact ⟨_, _, rfl, rfl, by assumption, rfl⟩
    · cases h
  · cases h
/-- ints by the layer's rules -/
theorem opI' {f : Value → Value → Sem Value} {C : Int → Int → Prop} {Cb : Int → Int → Bool} {g : Int → Int → V} {gd : Int → Int → D} (h : OpR X f (rI C g)) (hc : ∀ i j, Cb i j = true → C i j) (hg : ∀ i j, av (gd i j) = g i j) : OpR X f (rDat X.K (dI Cb gd)) := by
  intro pins s σ H x y v u Q I rx ry q
  obtain ⟨a, b, c, ra, rb, e, ha, q⟩ := q
  obtain ⟨i, j, rfl, rfl, hC, rfl⟩ := dI_some e
  refine h pins s σ H x y v u Q I rx ry ⟨i, j, ra, rb, hc i j hC, ?_⟩
  rw [← hg i j]
  exact q
theorem opI0' {f : Value → Value → Sem Value} {g : Int → Int → V} {gd : Int → Int → D} (h : OpR X f (rI0 g)) (hg : ∀ i j, av (gd i j) = g i j) : OpR X f (rDat X.K (dI (fun _ _ => true) gd)) := by
  intro pins s σ H x y v u Q I rx ry q
  obtain ⟨a, b, c, ra, rb, e, ha, q⟩ := q
  obtain ⟨i, j, rfl, rfl, hC, rfl⟩ := dI_some e
  refine h pins s σ H x y v u Q I rx ry ⟨i, j, ra, rb, ?_⟩
  rw [← hg i j]
  exact q
def dAdd : D → D → Option D
  | .int i, .int j => some (.int (i + j))
  | .str i, .str j => if i.length + j.length ≤ 16777216 then some (.str (i ++ j)) else none
  | _, _ => none
theorem dAdd_a (x y z : D) (h : dAdd x y = some z) : isA z = true := by
  unfold dAdd at h
  split at h
  · cases h; rfl
  · split at h
    · cases h; rfl
    · cases h
  · cases h
theorem o_add : OpR X (binaryOp .Add) (rDat X.K dAdd) := by
  intro pins s σ H x y v u Q I rx ry q
  obtain ⟨a, b, c, ra, rb, e, ha, q⟩ := q
  unfold dAdd at e
  split at e
  · cases e
    exact op_add pins s σ H x y v u Q I rx ry ⟨_, _, ra, rb, q⟩
  · split at e
    · cases e
      exact op_add_str pins s σ H x y v u Q I rx ry ⟨_, _, ra, rb, by rw [sizeLine_eq]; assumption, q⟩
    · cases e
  · cases e
def dSub := dI (fun _ _ => true) fun i j => .int (i - j)
theorem o_sub : OpR X (binaryOp .Sub) (rDat X.K dSub) := opI0' op_sub fun _ _ => rfl
def cMul (i j : Int) : Bool := decide (i.natAbs < 18446744073709551616) || decide (j.natAbs < 18446744073709551616)
def dMul := dI cMul fun i j => .int (i * j)
theorem o_mul : OpR X (binaryOp .Mult) (rDat X.K dMul) := opI' op_mul (fun i j h => by
  unfold cMul at h
  simp only [Bool.or_eq_true, decide_eq_true_eq] at h
  rcases h with h | h
  · exact .inl ⟨by omega, by omega⟩
  · exact .inr ⟨by omega, by omega⟩) fun _ _ => rfl
def cDiv (i j : Int) : Bool := decide (0 < j) && decide (j < 1073741824)
def dDiv := dI cDiv fun i j => .int (i / j)
theorem o_div : OpR X (binaryOp .FloorDiv) (rDat X.K dDiv) := opI' op_fdiv (fun i j h => by
  unfold cDiv at h
  simp only [Bool.and_eq_true, decide_eq_true_eq] at h
  exact h) fun _ _ => rfl
def dMod := dI (fun _ j => decide (0 < j)) fun i j => .int (i % j)
theorem o_mod : OpR X (binaryOp .Mod) (rDat X.K dMod) := opI' op_mod (fun i j h => of_decide_eq_true h) fun _ _ => rfl
def cPow (i j : Int) : Bool := decide (0 ≤ j) && (decide (j ≤ 1000000) && decide (i.natAbs < 18446744073709551616))
theorem cPow_ok (i j : Int) (h : cPow i j = true) : CPow i j := by
  unfold cPow at h
  simp only [Bool.and_eq_true, decide_eq_true_eq] at h
  exact h
def dPow := dI cPow fun i j => .int (i ^ j.toNat)
theorem o_pow : OpR X (binaryOp .Pow) (rDat X.K dPow) := opI' op_pow cPow_ok fun _ _ => rfl
def dShl := dI cPow fun i j => .int (i * 2 ^ j.toNat)
theorem o_shl : OpR X (binaryOp .LShift) (rDat X.K dShl) := opI' op_shl cPow_ok fun _ _ => rfl
def dLt := dI (fun _ _ => true) fun i j => .bl (decide (i < j))
def dLe := dI (fun _ _ => true) fun i j => .bl (decide (i ≤ j))
def dGt := dI (fun _ _ => true) fun i j => .bl (decide (j < i))
def dGe := dI (fun _ _ => true) fun i j => .bl (decide (j ≤ i))
theorem o_lt : OpR X (compareOp .Lt) (rDat X.K dLt) := opI0' op_lt fun _ _ => rfl
theorem o_le : OpR X (compareOp .LtE) (rDat X.K dLe) := opI0' op_le fun _ _ => rfl
theorem o_gt : OpR X (compareOp .Gt) (rDat X.K dGt) := opI0' op_gt fun _ _ => rfl
theorem o_ge : OpR X (compareOp .GtE) (rDat X.K dGe) := opI0' op_ge fun _ _ => rfl
theorem dI_a {C : Int → Int → Bool} {f : Int → Int → D} (h : ∀ i j, isA (f i j) = true) (x y z : D) (e : dI C f x y = some z) : isA z = true := by
  obtain ⟨i, j, rfl, rfl, _, rfl⟩ := dI_some e
  exact h i j
def dEq (a b : D) : Option D := if cmpOk a b = true then some (.bl (deq a b)) else none
def dNe (a b : D) : Option D := if cmpOk a b = true then some (.bl (!deq a b)) else none
theorem room_min {X : Cx} (hu : X.A.units + 100 < cLine) {a b : D} (h : cmpOk a b = true) : X.A.units + min (pyD a).depth (pyD b).depth < cLine := by
  have h2 := (cmp_no h).1.2
  omega
theorem fin_b {pins : List (Addr × Obj)} {σ : L2.St} {H : Hp} {s : Shared} {Q : VK} {k : Bool} (I : Inv X pins σ H s) (q : Q (.bl k) H) : EP X pins σ Q (.bool k) s := ⟨.bl k, H, I, rfl, q⟩
theorem o_eq (hu : X.A.units + 100 < cLine) : OpR X (compareOp .Eq) (rDat X.K dEq) := by
  intro pins s σ H x y v u Q I rx ry q
  obtain ⟨a, b, c, ra, rb, e, ha, q⟩ := q
  unfold dEq at e
  split at e
  · cases e
    obtain ⟨n1, n2⟩ := cmp_no (by assumption)
    obtain ⟨as, h1⟩ := Dp.reads I _ _ _ (rep_dp a n1.1 ra) rx
    obtain ⟨bs, h2⟩ := Dp.reads I _ _ _ (rep_dp b n2.1 rb) ry
    exact PySem.SeqAt.eq_plain h1 h2 (plain_pyD a) (plain_pyD b) (room_min hu (by assumption)) (fin_b I q)
  · cases e
theorem o_ne (hu : X.A.units + 100 < cLine) : OpR X (compareOp .NotEq) (rDat X.K dNe) := by
  intro pins s σ H x y v u Q I rx ry q
  obtain ⟨a, b, c, ra, rb, e, ha, q⟩ := q
  unfold dNe at e
  split at e
  · cases e
    obtain ⟨n1, n2⟩ := cmp_no (by assumption)
    obtain ⟨as, h1⟩ := Dp.reads I _ _ _ (rep_dp a n1.1 ra) rx
    obtain ⟨bs, h2⟩ := Dp.reads I _ _ _ (rep_dp b n2.1 rb) ry
    exact PySem.SeqAt.ne_plain h1 h2 (plain_pyD a) (plain_pyD b) (room_min hu (by assumption)) (fin_b I q)
  · cases e
theorem dEq_a (x y z : D) (h : dEq x y = some z) : isA z = true := by
  unfold dEq at h
  split at h
  · cases h; rfl
  · cases h
theorem dNe_a (x y z : D) (h : dNe x y = some z) : isA z = true := by
  unfold dNe at h
  split at h
  · cases h; rfl
  · cases h
/-! ### a dict's keys -/
inductive DK where
  | k (x : Key) | t (x : List Key)
def keyA : D → Option Key
  | .int i => some (.inl i)
  | .str x => some (.inr x)
  | _ => none
def keyAs : List D → Option (List Key)
  | [] => some []
  | d :: ds => (keyA d).bind fun k => (keyAs ds).map fun r => k :: r
/-- where a key stands: none: no key of this kind of dict -/
def DKs.at : DKs → D → Option (Option Nat)
  | .K ks, d => (keyA d).map fun k => ks.findIdx? fun j => decide (j = k)
  | .T ks, .tup ds => (keyAs ds).map fun k => ks.findIdx? fun j => decide (j = k)
  | .T _, _ => none
theorem keyA_rep {H : Hp} {d : D} {k : Key} {v : V} (e : keyA d = some k) (r : Rep K H d v) : v = kV k := by
  cases d with
  | int i => cases e; exact r
  | str x => cases e; exact r
  | _ => cases e
theorem keyAs_rep {H : Hp} : ∀ {ds : List D} {ks : List Key} {vs : List V}, keyAs ds = some ks → RepL K H ds vs → vs = ks.map kV
  | [], _, _, e, r => by cases e; exact r
  | d :: ds, _, _, e, r => by
    obtain ⟨v, w, rfl, h1, h2⟩ := r
    have e' : ((keyA d).bind fun k => (keyAs ds).map fun r => k :: r) = some _ := e
    cases e1 : keyA d with
    | none => rw [e1] at e'; cases e'
    | some k =>
      rw [e1] at e'
      simp only [Option.bind_some] at e'
      cases e2 : keyAs ds with
      | none => rw [e2] at e'; cases e'
      | some r => rw [e2] at e'; cases e'; rw [keyA_rep e1 h1, keyAs_rep e2 h2]; rfl
theorem valV_zip {κ : Type} [DecidableEq κ] {k : κ} : ∀ {ks : List κ} {vs : List V}, ks.length = vs.length → valV (ks.zip vs) k = (ks.findIdx? fun j => decide (j = k)).bind fun j => vs[j]?
  | [], [], _ => rfl
  | a :: ks, v :: vs, h => by
    rw [List.zip_cons_cons, List.findIdx?_cons]
    by_cases e : a = k
    · rw [valV_pos e]
      simp [e]
    · rw [valV_neg e, valV_zip (by simpa using h)]
      simp only [e, decide_false, Bool.false_eq_true, if_false]
      cases ks.findIdx? (fun j => decide (j = k)) <;> simp
/-- a dict read at a key -/
theorem dGet_of {H : Hp} {q : DKs} {d : D} {o : Option Nat} {a : Addr} {vs : List V} {y : V} (hd : Rd H a (dO q vs)) (hl : q.len = vs.length) (e : q.at d = some o) (r : Rep K H d y) : DGet H a y (o.bind fun j => vs[j]?) := by
  cases q with
  | K ks =>
    have e' : ((keyA d).map fun k => ks.findIdx? fun j => decide (j = k)) = some o := e
    cases e1 : keyA d with
    | none => rw [e1] at e'; cases e'
    | some k =>
      rw [e1] at e'
      cases e'
      exact .inl ⟨_, k, hd, keyA_rep e1 r, (valV_zip hl).symm⟩
  | T ks =>
    cases d with
    | tup ds =>
      have e' : ((keyAs ds).map fun k => ks.findIdx? fun j => decide (j = k)) = some o := e
      obtain ⟨b, ws, rfl, hb, hr⟩ := r
      cases e1 : keyAs ds with
      | none => rw [e1] at e'; cases e'
      | some k =>
        rw [e1] at e'
        cases e'
        rw [keyAs_rep e1 hr] at hb
        exact .inr ⟨_, k, b, hd, rfl, hb, (valV_zip hl).symm⟩
    | _ => cases e
theorem DKs.at_lt {q : DKs} {d : D} {j : Nat} (e : q.at d = some (some j)) : j < q.len := by
  cases q with
  | K ks =>
    have e' : ((keyA d).map fun k => ks.findIdx? fun j => decide (j = k)) = some (some j) := e
    cases e1 : keyA d with
    | none => rw [e1] at e'; cases e'
    | some k => rw [e1] at e'; injection e' with e'; exact (List.findIdx?_eq_some_iff_findIdx_eq.mp e').1
  | T ks =>
    cases d with
    | tup ds =>
      have e' : ((keyAs ds).map fun k => ks.findIdx? fun j => decide (j = k)) = some (some j) := e
      cases e1 : keyAs ds with
      | none => rw [e1] at e'; cases e'
      | some k => rw [e1] at e'; injection e' with e'; exact (List.findIdx?_eq_some_iff_findIdx_eq.mp e').1
    | _ => cases e
/-- x in ys -/
def inL (x : D) (ys : List D) : Bool := (pyL ys).any fun y => PyData.eqv y (pyD x)
def dInG (neg : Bool) (x : D) : D → Option D
  | .lst ys => if (decide (depL ys ≤ 60) && decide (dep x ≤ 60)) = true then some (.bl (if neg then !inL x ys else inL x ys)) else none
  | .tup ys => if (decide (depL ys ≤ 60) && decide (dep x ≤ 60)) = true then some (.bl (if neg then !inL x ys else inL x ys)) else none
  | .dic q _ => (q.at x).map fun o => .bl (if neg then !o.isSome else o.isSome)
  | .str y => (match x with
    | .str z => some (.bl (if neg then !(!(Builtin.Str.occurrences y z 0 y.length 1).isEmpty) else !(Builtin.Str.occurrences y z 0 y.length 1).isEmpty))
    | _ => none)
  | _ => none
def dIn := dInG false
def dNi := dInG true
theorem dInG_a {neg : Bool} (x y z : D) (h : dInG neg x y = some z) : isA z = true := by
  unfold dInG at h
  split at h
  · split at h
    · cases h; rfl
    · cases h
  · split at h
    · cases h; rfl
    · cases h
  · cases e : DKs.at (by assumption) x with
    | none => rw [e] at h; cases h
    | some o => rw [e] at h; cases h; rfl
  · split at h
    · cases h; rfl
    · cases h
  · cases h
theorem in_no {ys : List D} {x : D} (h : (decide (depL ys ≤ 60) && decide (dep x ≤ 60)) = true) : (noDL ys = true ∧ PyData.depthAll (pyL ys) ≤ 60) ∧ noD x = true ∧ (pyD x).depth ≤ 60 := by
  rw [Bool.and_eq_true, decide_eq_true_eq, decide_eq_true_eq] at h
  exact ⟨depL_no h.1, dep_no h.2⟩
theorem room_in {X : Cx} (hu : X.A.units + 100 < cLine) {ys : List D} {x : D} (h : (decide (depL ys ≤ 60) && decide (dep x ≤ 60)) = true) : X.A.units + 1 + min (PyData.depthAll (pyL ys)) (pyD x).depth < cLine := by
  have h2 := (in_no h).1.2
  omega
theorem at_isSome {q : DKs} {d : D} {o : Option Nat} {vs : List V} (e : q.at d = some o) (hl : q.len = vs.length) : (o.bind fun j => vs[j]?).isSome = o.isSome := by
  cases o with
  | none => rfl
  | some j =>
    have := DKs.at_lt e
    rw [Option.bind_some, List.getElem?_eq_getElem (by omega)]
    rfl
theorem o_in (hu : X.A.units + 100 < cLine) : OpR X (compareOp .In) (rDat X.K dIn) := by
  intro pins s σ H x y v u Q I rx ry q
  obtain ⟨a, b, c, ra, rb, e, ha, q⟩ := q
  unfold dIn dInG at e
  split at e
  · split at e
    · cases e
      obtain ⟨n1, n2⟩ := in_no (by assumption)
      obtain ⟨as, h1⟩ := Dp.reads I _ _ _ (rep_dp a n2.1 ra) rx
      obtain ⟨bs, h2⟩ := Dp.reads I _ _ _ (rep_dp (.lst _) n1.1 rb) ry
      exact PySem.SeqAt.in_list_data h2 h1 (plain_pyL _) (plain_pyD a) (room_in hu (by assumption)) (fin_b I q)
    · cases e
  · split at e
    · cases e
      obtain ⟨n1, n2⟩ := in_no (by assumption)
      obtain ⟨as, h1⟩ := Dp.reads I _ _ _ (rep_dp a n2.1 ra) rx
      obtain ⟨bs, h2⟩ := Dp.reads I _ _ _ (rep_dp (.tup _) n1.1 rb) ry
      exact PySem.SeqAt.in_tuple_data h2 h1 (plain_pyL _) (plain_pyD a) (room_in hu (by assumption)) (fin_b I q)
    · cases e
  · rename_i dq ds
    cases eo : dq.at a with
    | none => rw [eo] at e; cases e
    | some o =>
      rw [eo] at e
      cases e
      obtain ⟨ad, vs, rfl, hd, hq, hl⟩ := rb
      have hlen : dq.len = vs.length := hq.trans (by
        clear q hd hq eo
        induction ds generalizing vs with
        | nil => cases (show _ = _ from hl); rfl
        | cons d ds ih =>
          obtain ⟨v1, w1, rfl, _, h2⟩ := hl
          simp [ih w1 h2])
      have ed := at_isSome (vs := vs) eo hlen
      cases (show u = Value.ref ad from ry)
      refine d_in (by omega) I (dGet_of hd hlen eo ra) rx fun s3 I3 => ⟨.bl ((o.bind fun j => vs[j]?).isSome), H, I3, rfl, ?_⟩
      rw [ed]
      exact q
  · split at e
    · cases e
      exact op_in_str pins s σ H x y v u Q I rx ry ⟨_, _, ra, rb, q⟩
    · cases e
  · cases e
theorem o_ni (hu : X.A.units + 100 < cLine) : OpR X (compareOp .NotIn) (rDat X.K dNi) := by
  intro pins s σ H x y v u Q I rx ry q
  obtain ⟨a, b, c, ra, rb, e, ha, q⟩ := q
  unfold dNi dInG at e
  split at e
  · split at e
    · cases e
      obtain ⟨n1, n2⟩ := in_no (by assumption)
      obtain ⟨as, h1⟩ := Dp.reads I _ _ _ (rep_dp a n2.1 ra) rx
      obtain ⟨bs, h2⟩ := Dp.reads I _ _ _ (rep_dp (.lst _) n1.1 rb) ry
      exact PySem.SeqAt.notIn_list_data h2 h1 (plain_pyL _) (plain_pyD a) (room_in hu (by assumption)) (fin_b I q)
    · cases e
  · split at e
    · cases e
      obtain ⟨n1, n2⟩ := in_no (by assumption)
      obtain ⟨as, h1⟩ := Dp.reads I _ _ _ (rep_dp a n2.1 ra) rx
      obtain ⟨bs, h2⟩ := Dp.reads I _ _ _ (rep_dp (.tup _) n1.1 rb) ry
      exact PySem.SeqAt.notIn_tuple_data h2 h1 (plain_pyL _) (plain_pyD a) (room_in hu (by assumption)) (fin_b I q)
    · cases e
  · rename_i dq ds
    cases eo : dq.at a with
    | none => rw [eo] at e; cases e
    | some o =>
      rw [eo] at e
      cases e
      obtain ⟨ad, vs, rfl, hd, hq, hl⟩ := rb
      have hlen : dq.len = vs.length := hq.trans (by
        clear q hd hq eo
        induction ds generalizing vs with
        | nil => cases (show _ = _ from hl); rfl
        | cons d ds ih =>
          obtain ⟨v1, w1, rfl, _, h2⟩ := hl
          simp [ih w1 h2])
      have ed := at_isSome (vs := vs) eo hlen
      cases (show u = Value.ref ad from ry)
      refine d_notIn (by omega) I (dGet_of hd hlen eo ra) rx fun s3 I3 => ⟨.bl (!(o.bind fun j => vs[j]?).isSome), H, I3, rfl, ?_⟩
      rw [ed]
      exact q
  · split at e
    · cases e
      exact op_notin_str pins s σ H x y v u Q I rx ry ⟨_, _, ra, rb, q⟩
    · cases e
  · cases e
/-- x is None, x is True, .. -/
def dIs (neg : Bool) (c : D) (x : D) : Option D := match c with
  | .non => some (.bl (if neg then !(match x with | .non => true | _ => false) else (match x with | .non => true | _ => false)))
  | .bl k => some (.bl (if neg then !(match x with | .bl j => j == k | _ => false) else (match x with | .bl j => j == k | _ => false)))
  | _ => none
end VS
namespace VS
open PySem PySem.Spec PyProof.Rows L2
variable {K : PySem.W.Frag} {X : Cx} {κ κ1 κ2 κ3 : OE} {pos : Pos}
/-! ### tests -/
def jTT (K : PySem.W.Frag) (n : Nat) (κ : OE) (m : M) (κ' : OE) (pu : Bool) (t : Nat) : TT := fun σ H Q => En n σ H →
  ∃ g ρ, Sok K κ ρ g σ H ∧ ∃ b ρ', m ρ = some (.bl b, ρ') ∧ ∀ H' g', Sok K κ' ρ' g' σ H' → Pres n t g H g' H' → (pu = true → Same H H') → Q b H'
structure JT (X : Cx) (κ : OE) (e : Expr) (m : M) (κ' : OE) (pu : Bool) : Prop where
  run : ∀ t, X.N.length ≤ t → PT X e (jTT X.K X.N.length κ m κ' pu t)
  pur : pu = true → ∀ ρ d ρ', m ρ = some (d, ρ') → ρ' = ρ
/-- .. whatever the whole is -/
structure JW (X : Cx) (κ : OE) (e : Expr) (m : M) (κ' : OE) (pu : Bool) : Prop where
  run : ∀ t, X.N.length ≤ t → PW X e (jTT X.K X.N.length κ m κ' pu t)
  pur : pu = true → ∀ ρ d ρ', m ρ = some (d, ρ') → ρ' = ρ
theorem JW.jt {e : Expr} {m : M} {pu : Bool} (h : JW X κ e m κ1 pu) : JT X κ e m κ1 pu := ⟨fun t ht => (h.run t ht).pt, h.pur⟩
theorem PT.imp {e : Expr} {t t' : TT} (h : PT X e t) (f : ∀ σ H Q, En X.N.length σ H → t' σ H Q → t σ H Q) : PT X e t' :=
  ⟨fun pins s σ H Q I q => h.run pins s σ H Q I (f σ H Q ⟨Inv.sz I, I.len⟩ q)⟩
theorem PW.imp {e : Expr} {t t' : TT} (h : PW X e t) (f : ∀ σ H Q, En X.N.length σ H → t' σ H Q → t σ H Q) : PW X e t' :=
  ⟨fun wh pins s σ H Q I q => h.run wh pins s σ H Q I (f σ H Q ⟨Inv.sz I, I.len⟩ q)⟩
theorem JT.weak {e : Expr} {m : M} {pu : Bool} (h : JT X κ e m κ1 pu) (hl : leO κ2 κ1 = true) (hn : κ2.length = X.N.length) : JT X κ e m κ2 pu := by
  refine ⟨fun t ht => PT.imp (h.run t ht) fun σ H Q z q _ => ?_, h.pur⟩
  obtain ⟨g, ρ, S, b, ρ', em, post⟩ := q z
  exact ⟨g, ρ, S, b, ρ', em, fun H' g' S' P' s' => post H' (wk κ2 g') (S'.weaken hl) (P'.trans (Pres.weaken hn)) s'⟩
/-- a comparison as a test -/
theorem JT.two_read {a b e : Expr} {ma mb : M} {ra rb : Rz} {pa pb : Bool} {r : R2} {f : D → D → Option D} (ha : J X κ a ma ra κ1 pa) (hb : J X κ1 b mb rb κ2 pb) (ok : okk ra pb = true) (op : AtOp X r f)
    (mk : ∀ {ta tb : TE}, PE X a ta → PE X b tb → PT X e (tTest (tOp r ta tb))) : JT X κ e (m2 f ma mb) κ2 (pa && pb) := by
  refine ⟨fun t ht => PT.imp (mk (ha.run t ht) (hb.run (t + 1) (by omega))) fun σ H Q z q => ?_, fun hp ρ d ρ' h => ?_⟩
  · obtain ⟨g, ρ, S, c, ρ', em, post⟩ := q z
    obtain ⟨x, ρ1, y, ea, eb, ec⟩ := m2_some em
    refine two (K := X.K) (κ2 := κ2) ht ok S ea eb z fun v u H' g' S' P' s' r1 r2 => ?_
    exact op.ans H' x y _ v u _ ec r1.rep r2.rep ⟨c, rfl, post H' g' S' P' s'⟩
  · rw [Bool.and_eq_true] at hp
    obtain ⟨x, ρ1, y, ea, eb, ec⟩ := m2_some h
    rw [hb.pur hp.2 _ _ _ eb, ha.pur hp.1 _ _ _ ea]
/-- a value's truth -/
def truD : D → Option Bool
  | .non => some false
  | .bl b => some b
  | .int i => some (i != 0)
  | .str y => if y.length ≤ 16777216 then some ((y.length : Int) != 0) else none
  | .lst xs => some (!xs.isEmpty)
  | .tup xs => some (!xs.isEmpty)
  | .rol xs => some (!xs.isEmpty)
  | .dic _ _ => none
theorem repL_empty {H : Hp} {ds : List D} {vs : List V} (h : RepL K H ds vs) : vs.isEmpty = ds.isEmpty := by
  cases ds with
  | nil => cases (show _ = _ from h); rfl
  | cons d ds => obtain ⟨v, w, rfl, _⟩ := h; rfl
theorem truV_of {H : Hp} {d : D} {b : Bool} {v : V} (h : truD d = some b) (r : Rep K H d v) : TruV K v H b := by
  cases d with
  | non => cases (show v = _ from r); cases h; rfl
  | bl c => cases (show v = _ from r); cases h; rfl
  | int i => cases (show v = _ from r); cases h; rfl
  | str y =>
    cases (show v = _ from r)
    simp only [truD] at h
    split at h
    · cases h; exact ⟨by rw [sizeLine_eq]; assumption, rfl⟩
    · cases h
  | lst xs =>
    obtain ⟨a, vs, rfl, ha, hl⟩ := r
    cases h
    exact .inl ⟨vs, SqL.of ha, by rw [repL_empty hl]⟩
  | tup xs =>
    obtain ⟨a, vs, rfl, ha, hl⟩ := r
    cases h
    exact .inr (.inl ⟨vs, SqT.of ha, by rw [repL_empty hl]⟩)
  | rol ns =>
    obtain ⟨a, rfl, ha⟩ := r
    cases h
    exact .inl ⟨_, rol_sq ha, by cases ns <;> rfl⟩
  | dic _ _ => cases h
def mTr (m : M) : M := fun ρ => (m ρ).bind fun x => (truD x.1).map fun b => (.bl b, x.2)
theorem mTr_some {m : M} {ρ ρ' : DE} {d : D} (h : mTr m ρ = some (d, ρ')) : ∃ x b, m ρ = some (x, ρ') ∧ truD x = some b ∧ d = .bl b := by
  unfold mTr at h
  cases e : m ρ with
  | none => rw [e] at h; cases h
  | some p =>
    rw [e] at h
    simp only [Option.bind_some] at h
    cases e2 : truD p.1 with
    | none => rw [e2] at h; cases h
    | some b => rw [e2] at h; cases h; exact ⟨p.1, b, rfl, e2, rfl⟩
theorem jt_val {e : Expr} {m : M} {rz : Rz} {pu : Bool} (h : J X κ e m rz κ1 pu) (he : ∀ whole, isTrue e X.env whole = (do let v ← whole; standAt e.pos; holding [v] (truthy v))) : JT X κ e (mTr m) κ1 pu := by
  refine ⟨fun t ht => PT.imp (pt_truth (h.run t ht) he) fun σ H Q z q => ?_, fun hp ρ d ρ' e => ?_⟩
  · obtain ⟨g, ρ, S, c, ρ', em, post⟩ := q z
    obtain ⟨x, b, e1, e2, e3⟩ := mTr_some em
    cases e3
    exact fun _ => ⟨g, ρ, S, x, ρ', e1, fun v H' g' S' P' s' r' => ⟨c, truV_of e2 r'.rep, post H' g' S' P' s'⟩⟩
  · obtain ⟨x, b, e1, e2, e3⟩ := mTr_some e
    exact h.pur hp _ _ _ e1
def mNot (m : M) : M := fun ρ => match m ρ with
  | some (.bl b, ρ') => some (.bl (!b), ρ')
  | _ => none
theorem mNot_some {m : M} {ρ ρ' : DE} {d : D} (h : mNot m ρ = some (d, ρ')) : ∃ b, m ρ = some (.bl b, ρ') ∧ d = .bl (!b) := by
  unfold mNot at h
  split at h
  · cases h; exact ⟨_, by assumption, rfl⟩
  · cases h
theorem jt_not {e : Expr} {m : M} {pu : Bool} (h : JT X κ e m κ1 pu) : JT X κ (.UnaryOp .Not e pos) (mNot m) κ1 pu := by
  refine ⟨fun t ht => PT.imp (pt_not (h.run t ht)) fun σ H Q z q => ?_, fun hp ρ d ρ' e => ?_⟩
  · obtain ⟨g, ρ, S, c, ρ', em, post⟩ := q z
    obtain ⟨b, e1, e3⟩ := mNot_some em
    cases e3
    exact fun _ => ⟨g, ρ, S, b, ρ', e1, fun H' g' S' P' s' => post H' g' S' P' s'⟩
  · obtain ⟨b, e1, e3⟩ := mNot_some e
    exact h.pur hp _ _ _ e1
def mAnd (ma mb : M) : M := fun ρ => match ma ρ with
  | some (.bl true, ρ1) => mb ρ1
  | some (.bl false, ρ1) => some (.bl false, ρ1)
  | _ => none
def mOr (ma mb : M) : M := fun ρ => match ma ρ with
  | some (.bl false, ρ1) => mb ρ1
  | some (.bl true, ρ1) => some (.bl true, ρ1)
  | _ => none
theorem mAnd_some {ma mb : M} {ρ ρ' : DE} {d : D} (h : mAnd ma mb ρ = some (d, ρ')) : (∃ ρ1, ma ρ = some (.bl true, ρ1) ∧ mb ρ1 = some (d, ρ')) ∨ (ma ρ = some (.bl false, ρ') ∧ d = .bl false) := by
  unfold mAnd at h
  split at h
  · exact .inl ⟨_, by assumption, h⟩
  · cases h; exact .inr ⟨by assumption, rfl⟩
  · cases h
theorem mOr_some {ma mb : M} {ρ ρ' : DE} {d : D} (h : mOr ma mb ρ = some (d, ρ')) : (∃ ρ1, ma ρ = some (.bl false, ρ1) ∧ mb ρ1 = some (d, ρ')) ∨ (ma ρ = some (.bl true, ρ') ∧ d = .bl true) := by
  unfold mOr at h
  split at h
  · exact .inl ⟨_, by assumption, h⟩
  · cases h; exact .inr ⟨by assumption, rfl⟩
  · cases h
theorem jw_and1 {a : Expr} {ma : M} {pa : Bool} (h : JT X κ a ma κ1 pa) : JW X κ (.BoolOp .And [a] pos) ma κ1 pa := ⟨fun t ht => pw_and1 (h.run t ht), h.pur⟩
theorem jw_or1 {a : Expr} {ma : M} {pa : Bool} (h : JT X κ a ma κ1 pa) : JW X κ (.BoolOp .Or [a] pos) ma κ1 pa := ⟨fun t ht => pw_or1 (h.run t ht), h.pur⟩
theorem jw_and {a b : Expr} {rest : List Expr} {ma mb : M} {pa pb : Bool} (ha : JT X κ a ma κ1 pa) (hb : JW X κ1 (.BoolOp .And (b :: rest) pos) mb κ2 pb) (hl : leO κ2 κ1 = true) (hn : κ2.length = X.N.length) :
    JW X κ (.BoolOp .And (a :: b :: rest) pos) (mAnd ma mb) κ2 (pa && pb) := by
  refine ⟨fun t ht => PW.imp (pw_and (ha.run t ht) (hb.run t ht)) fun σ H Q z q => ?_, fun hp ρ d ρ' e => ?_⟩
  · obtain ⟨g, ρ, S, c, ρ', em, post⟩ := q z
    intro _
    rcases mAnd_some em with ⟨ρ1, e1, e2⟩ | ⟨e1, e2⟩
    · refine ⟨g, ρ, S, true, ρ1, e1, fun H1 g1 S1 P1 s1 => ?_⟩
      refine iteT ?_
      refine fun _ => ⟨g1, ρ1, S1, c, ρ', e2, fun H2 g2 S2 P2 s2 => post H2 g2 S2 (P1.trans P2) fun e => ?_⟩
      rw [Bool.and_eq_true] at e
      exact (s1 e.1).trans (s2 e.2)
    · cases e2
      refine ⟨g, ρ, S, false, ρ', e1, fun H1 g1 S1 P1 s1 => ?_⟩
      refine iteF ?_
      refine post H1 _ (S1.weaken hl) (P1.trans (Pres.weaken hn)) fun e => ?_
      rw [Bool.and_eq_true] at e
      exact s1 e.1
  · rw [Bool.and_eq_true] at hp
    rcases mAnd_some e with ⟨ρ1, e1, e2⟩ | ⟨e1, e2⟩
    · rw [hb.pur hp.2 _ _ _ e2, ha.pur hp.1 _ _ _ e1]
    · exact ha.pur hp.1 _ _ _ e1
theorem jw_or {a b : Expr} {rest : List Expr} {ma mb : M} {pa pb : Bool} (ha : JT X κ a ma κ1 pa) (hb : JW X κ1 (.BoolOp .Or (b :: rest) pos) mb κ2 pb) (hl : leO κ2 κ1 = true) (hn : κ2.length = X.N.length) :
    JW X κ (.BoolOp .Or (a :: b :: rest) pos) (mOr ma mb) κ2 (pa && pb) := by
  refine ⟨fun t ht => PW.imp (pw_or (ha.run t ht) (hb.run t ht)) fun σ H Q z q => ?_, fun hp ρ d ρ' e => ?_⟩
  · obtain ⟨g, ρ, S, c, ρ', em, post⟩ := q z
    intro _
    rcases mOr_some em with ⟨ρ1, e1, e2⟩ | ⟨e1, e2⟩
    · refine ⟨g, ρ, S, false, ρ1, e1, fun H1 g1 S1 P1 s1 => ?_⟩
      refine iteF ?_
      refine fun _ => ⟨g1, ρ1, S1, c, ρ', e2, fun H2 g2 S2 P2 s2 => post H2 g2 S2 (P1.trans P2) fun e => ?_⟩
      rw [Bool.and_eq_true] at e
      exact (s1 e.1).trans (s2 e.2)
    · cases e2
      refine ⟨g, ρ, S, true, ρ', e1, fun H1 g1 S1 P1 s1 => ?_⟩
      refine iteT ?_
      refine post H1 _ (S1.weaken hl) (P1.trans (Pres.weaken hn)) fun e => ?_
      rw [Bool.and_eq_true] at e
      exact s1 e.1
  · rw [Bool.and_eq_true] at hp
    rcases mOr_some e with ⟨ρ1, e1, e2⟩ | ⟨e1, e2⟩
    · rw [hb.pur hp.2 _ _ _ e2, ha.pur hp.1 _ _ _ e1]
    · exact ha.pur hp.1 _ _ _ e1
/-! ### and, or, not, if as values -/
theorem j_not {e : Expr} {m : M} {rz rz' : Rz} {pu : Bool} (h : J X κ e m rz κ1 pu) : J X κ (.UnaryOp .Not e pos) (mNot m) rz' κ1 pu := by
  refine ⟨fun t ht => PE.imp (pe_not (h.run t ht)) fun σ H Q z q => ?_, fun hp ρ d ρ' e => ?_⟩
  · obtain ⟨g, ρ, S, c, ρ', em, post⟩ := q z
    obtain ⟨b, e1, e3⟩ := mNot_some em
    cases e3
    refine fun _ => ⟨g, ρ, S, .bl b, ρ', e1, fun v H' g' S' P' s' r' => ⟨b, r'.rep, post _ H' g' S' P' s' (atom_rz (d := .bl (!b)) rfl)⟩⟩
  · obtain ⟨b, e1, e3⟩ := mNot_some e
    exact h.pur hp _ _ _ e1
theorem j_and1 {op : BoolOp} {a : Expr} {ma : M} {rz : Rz} {pa : Bool} (h : J X κ a ma rz κ1 pa) : J X κ (.BoolOp op [a] pos) ma rz κ1 pa := ⟨fun t ht => pe_one (h.run t ht), h.pur⟩
theorem Same.bool {p q : Bool} {H H1 H2 : Hp} (s1 : p = true → Same H H1) (s2 : q = true → Same H1 H2) : (p && q) = true → Same H H2 := fun e => by
  rw [Bool.and_eq_true] at e
  exact (s1 e.1).trans (s2 e.2)
theorem j_and {a b : Expr} {rest : List Expr} {ma mb : M} {ra rb : Rz} {pa pb : Bool} (ha : J X κ a ma ra κ1 pa) (hb : J X κ1 (.BoolOp .And (b :: rest) pos) mb rb κ2 pb) (hl : leO κ2 κ1 = true) (hn : κ2.length = X.N.length) :
    J X κ (.BoolOp .And (a :: b :: rest) pos) (mAnd ma mb) rb κ2 (pa && pb) := by
  refine ⟨fun t ht => PE.imp (pe_and (ha.run t ht) (hb.run t ht)) fun σ H Q z q => ?_, fun hp ρ d ρ' e => ?_⟩
  · obtain ⟨g, ρ, S, c, ρ', em, post⟩ := q z
    intro _
    rcases mAnd_some em with ⟨ρ1, e1, e2⟩ | ⟨e1, e2⟩
    · refine ⟨g, ρ, S, .bl true, ρ1, e1, fun v H1 g1 S1 P1 s1 r1 => ⟨true, r1.rep, ?_⟩⟩
      refine iteT ?_
      exact fun _ => ⟨g1, ρ1, S1, c, ρ', e2, fun v H2 g2 S2 P2 s2 r2 => post v H2 g2 S2 (P1.trans P2) (Same.bool s1 s2) r2⟩
    · subst e2
      refine ⟨g, ρ, S, .bl false, ρ', e1, fun v H1 g1 S1 P1 s1 r1 => ⟨false, r1.rep, ?_⟩⟩
      refine iteF ?_
      refine post _ H1 _ (S1.weaken hl) (P1.trans (Pres.weaken hn)) (fun e => ?_) (atom_rz (d := .bl false) rfl)
      rw [Bool.and_eq_true] at e
      exact s1 e.1
  · rw [Bool.and_eq_true] at hp
    rcases mAnd_some e with ⟨ρ1, e1, e2⟩ | ⟨e1, e2⟩
    · rw [hb.pur hp.2 _ _ _ e2, ha.pur hp.1 _ _ _ e1]
    · exact ha.pur hp.1 _ _ _ e1
theorem j_or {a b : Expr} {rest : List Expr} {ma mb : M} {ra rb : Rz} {pa pb : Bool} (ha : J X κ a ma ra κ1 pa) (hb : J X κ1 (.BoolOp .Or (b :: rest) pos) mb rb κ2 pb) (hl : leO κ2 κ1 = true) (hn : κ2.length = X.N.length) :
    J X κ (.BoolOp .Or (a :: b :: rest) pos) (mOr ma mb) rb κ2 (pa && pb) := by
  refine ⟨fun t ht => PE.imp (pe_or (ha.run t ht) (hb.run t ht)) fun σ H Q z q => ?_, fun hp ρ d ρ' e => ?_⟩
  · obtain ⟨g, ρ, S, c, ρ', em, post⟩ := q z
    intro _
    rcases mOr_some em with ⟨ρ1, e1, e2⟩ | ⟨e1, e2⟩
    · refine ⟨g, ρ, S, .bl false, ρ1, e1, fun v H1 g1 S1 P1 s1 r1 => ⟨false, r1.rep, ?_⟩⟩
      refine iteF ?_
      exact fun _ => ⟨g1, ρ1, S1, c, ρ', e2, fun v H2 g2 S2 P2 s2 r2 => post v H2 g2 S2 (P1.trans P2) (Same.bool s1 s2) r2⟩
    · subst e2
      refine ⟨g, ρ, S, .bl true, ρ', e1, fun v H1 g1 S1 P1 s1 r1 => ⟨true, r1.rep, ?_⟩⟩
      refine iteT ?_
      refine post _ H1 _ (S1.weaken hl) (P1.trans (Pres.weaken hn)) (fun e => ?_) (atom_rz (d := .bl true) rfl)
      rw [Bool.and_eq_true] at e
      exact s1 e.1
  · rw [Bool.and_eq_true] at hp
    rcases mOr_some e with ⟨ρ1, e1, e2⟩ | ⟨e1, e2⟩
    · rw [hb.pur hp.2 _ _ _ e2, ha.pur hp.1 _ _ _ e1]
    · exact ha.pur hp.1 _ _ _ e1
def mIf (mc ma mb : M) : M := fun ρ => match mc ρ with
  | some (.bl true, ρ1) => ma ρ1
  | some (.bl false, ρ1) => mb ρ1
  | _ => none
theorem mIf_some {mc ma mb : M} {ρ ρ' : DE} {d : D} (h : mIf mc ma mb ρ = some (d, ρ')) : ∃ b ρ1, mc ρ = some (.bl b, ρ1) ∧ ((b = true ∧ ma ρ1 = some (d, ρ')) ∨ (b = false ∧ mb ρ1 = some (d, ρ'))) := by
  unfold mIf at h
  split at h
  · exact ⟨true, _, by assumption, .inl ⟨rfl, h⟩⟩
  · exact ⟨false, _, by assumption, .inr ⟨rfl, h⟩⟩
  · cases h
theorem j_if {c a b : Expr} {mc ma mb : M} {rz : Rz} {pc pa pb : Bool} (hc : JT X κ c mc κ1 pc) (ha : J X κ1 a ma rz κ2 pa) (hb : J X κ1 b mb rz κ2 pb) : J X κ (.IfExp c a b pos) (mIf mc ma mb) rz κ2 (pc && (pa && pb)) := by
  refine ⟨fun t ht => PE.imp (pe_ifExp (hc.run t ht) (ha.run t ht) (hb.run t ht)) fun σ H Q z q => ?_, fun hp ρ d ρ' e => ?_⟩
  · obtain ⟨g, ρ, S, d, ρ', em, post⟩ := q z
    obtain ⟨k, ρ1, e1, e2⟩ := mIf_some em
    refine fun _ => ⟨g, ρ, S, k, ρ1, e1, fun H1 g1 S1 P1 s1 => ?_⟩
    rcases e2 with ⟨rfl, e2⟩ | ⟨rfl, e2⟩
    · refine iteT ?_
      refine fun _ => ⟨g1, ρ1, S1, d, ρ', e2, fun v H2 g2 S2 P2 s2 r2 => post v H2 g2 S2 (P1.trans P2) (fun e => ?_) r2⟩
      simp only [Bool.and_eq_true] at e
      exact (s1 e.1).trans (s2 e.2.1)
    · refine iteF ?_
      refine fun _ => ⟨g1, ρ1, S1, d, ρ', e2, fun v H2 g2 S2 P2 s2 r2 => post v H2 g2 S2 (P1.trans P2) (fun e => ?_) r2⟩
      simp only [Bool.and_eq_true] at e
      exact (s1 e.1).trans (s2 e.2.2)
  · simp only [Bool.and_eq_true] at hp
    obtain ⟨k, ρ1, e1, e2⟩ := mIf_some e
    rw [← hc.pur hp.1 _ _ _ e1]
    rcases e2 with ⟨rfl, e2⟩ | ⟨rfl, e2⟩
    · exact ha.pur hp.2.1 _ _ _ e2
    · exact hb.pur hp.2.2 _ _ _ e2
/-! ### a op b op c -/
def mCh (f f' : D → D → Option D) (ma mb mc : M) : M := fun ρ => (ma ρ).bind fun x => (mb x.2).bind fun y => match f x.1 y.1 with
  | some (.bl true) => (mc y.2).bind fun z => (f' y.1 z.1).map fun w => (w, z.2)
  | some (.bl false) => some (.bl false, y.2)
  | _ => none
theorem mCh_some {f f' : D → D → Option D} {ma mb mc : M} {ρ ρ' : DE} {d : D} (h : mCh f f' ma mb mc ρ = some (d, ρ')) : ∃ x ρ1 y ρ2, ma ρ = some (x, ρ1) ∧ mb ρ1 = some (y, ρ2) ∧
    ((f x y = some (.bl true) ∧ ∃ z, mc ρ2 = some (z, ρ') ∧ f' y z = some d) ∨ (f x y = some (.bl false) ∧ d = .bl false ∧ ρ' = ρ2)) := by
  unfold mCh at h
  cases ea : ma ρ with
  | none => rw [ea] at h; cases h
  | some p =>
    rw [ea] at h
    simp only [Option.bind_some] at h
    cases eb : mb p.2 with
    | none => rw [eb] at h; cases h
    | some q =>
      rw [eb] at h
      simp only [Option.bind_some] at h
      refine ⟨p.1, p.2, q.1, q.2, rfl, eb, ?_⟩
      split at h
      · cases ec : mc q.2 with
        | none => rw [ec] at h; cases h
        | some z =>
          rw [ec] at h
          simp only [Option.bind_some] at h
          cases ed : f' q.1 z.1 with
          | none => rw [ed] at h; cases h
          | some w =>
            rw [ed] at h
            cases h
            exact .inl ⟨by assumption, z.1, rfl, ed⟩
      · cases h
        exact .inr ⟨by assumption, rfl, rfl⟩
      · cases h
theorem chain_core {n t : Nat} {a b c : Expr} {ma mb mc : M} {ra rb rc : Rz} {pa pb pc : Bool} {r r' : R2} {f f' : D → D → Option D} (hn : n ≤ t) (hX : X.N.length = n)
    (o1 : okk ra pb = true) (o2 : okk rb pc = true) (op : AtOp X r f) (op' : AtOp X r' f') (hl : leO κ3 κ2 = true) (hk : κ3.length = X.N.length) {σ : L2.St} {H : Hp} {Q : VK} {g : G} {ρ ρ' : DE} {d : D}
    (S : Sok X.K κ ρ g σ H) (em : mCh f f' ma mb mc ρ = some (d, ρ')) (z : En n σ H)
    (post : ∀ H' g', Sok X.K κ3 ρ' g' σ H' → Pres n t g H g' H' → ((pa && (pb && pc)) = true → Same H H') → Q (av d) H' ∧ isA d = true ∨ isA d = false) (ha : isA d = true) :
    tChain r r' (jTE X.K n κ ma ra κ1 pa t) (jTE X.K n κ1 mb rb κ2 pb (t + 1)) (jTE X.K n κ2 mc rc κ3 pc (t + 2)) σ H Q := by
  have post' : ∀ H' g', Sok X.K κ3 ρ' g' σ H' → Pres n t g H g' H' → ((pa && (pb && pc)) = true → Same H H') → Q (av d) H' := fun H' g' h1 h2 h3 => by
    rcases post H' g' h1 h2 h3 with q | q
    · exact q.1
    · rw [ha] at q; cases q
  obtain ⟨x, ρ1, y, ρ2, ea, eb, hc⟩ := mCh_some em
  refine two (K := X.K) (κ2 := κ2) hn o1 S ea eb z fun v u H2 g2 S2 P2 s2 r1 r2 => ?_
  rcases hc with ⟨e1, w, ec, e2⟩ | ⟨e1, rfl, rfl⟩
  · refine op.ans H2 x y _ v u _ e1 r1.rep r2.rep ⟨true, rfl, ?_⟩
    refine iteT ?_
    refine fun _ => ⟨g2, ρ2, S2, w, ρ', ec, fun w' H3 g3 S3 P3 s3 r3 => ?_⟩
    have r2' : RzOk X.K H3 g3 (t + 1) rb y u := by
      cases rb with
      | rep => exact rep_mono (s3 o2) y r2
      | own k => exact P3.own (by omega) (by omega) r2
    refine op'.ans H3 y w _ u w' _ e2 r2'.rep r3.rep (post' H3 g3 S3 (P2.trans (P3.less (by omega))) fun e => ?_)
    simp only [Bool.and_eq_true] at e
    exact (s2 (by rw [e.1, e.2.1]; rfl)).trans (s3 e.2.2)
  · refine op.ans H2 x y _ v u _ e1 r1.rep r2.rep ⟨false, rfl, ?_⟩
    refine iteF ?_
    refine post' H2 _ (S2.weaken hl) (P2.trans (Pres.weaken (by omega))) fun e => ?_
    simp only [Bool.and_eq_true] at e
    exact s2 (by rw [e.1, e.2.1]; rfl)
theorem mCh_pur {f f' : D → D → Option D} {a b c : Expr} {ma mb mc : M} {ra rb rc : Rz} {pa pb pc : Bool} (ha : J X κ a ma ra κ1 pa) (hb : J X κ1 b mb rb κ2 pb) (hc : J X κ2 c mc rc κ3 pc) (hp : (pa && (pb && pc)) = true) (ρ : DE) (d : D) (ρ' : DE)
    (e : mCh f f' ma mb mc ρ = some (d, ρ')) : ρ' = ρ := by
  simp only [Bool.and_eq_true] at hp
  obtain ⟨x, ρ1, y, ρ2, ea, eb, h⟩ := mCh_some e
  have e1 := ha.pur hp.1 _ _ _ ea
  have e2 := hb.pur hp.2.1 _ _ _ eb
  rcases h with ⟨_, w, ec, _⟩ | ⟨_, _, rfl⟩
  · rw [hc.pur hp.2.2 _ _ _ ec, e2, e1]
  · rw [e2, e1]
theorem j_chain {op op' : CmpOp} {a b c : Expr} {ma mb mc : M} {ra rb rc : Rz} {pa pb pc : Bool} {r r' : R2} {f f' : D → D → Option D} (ho : OpR X (compareOp op) r) (ho' : OpR X (compareOp op') r')
    (ha : J X κ a ma ra κ1 pa) (hb : J X κ1 b mb rb κ2 pb) (hc : J X κ2 c mc rc κ3 pc) (o1 : okk ra pb = true) (o2 : okk rb pc = true) (at1 : AtOp X r f) (at2 : AtOp X r' f') (hl : leO κ3 κ2 = true) (hk : κ3.length = X.N.length)
    (hm : lastMarks [op, op'] [b, c] = false) {rz : Rz} : J X κ (.Compare a [op, op'] [b, c] pos) (mCh f f' ma mb mc) rz κ3 (pa && (pb && pc)) := by
  refine ⟨fun t ht => PE.imp (pe_chain ho ho' (ha.run t ht) (hb.run (t + 1) (by omega)) (hc.run (t + 2) (by omega)) hm) fun σ H Q z q => ?_, mCh_pur ha hb hc⟩
  obtain ⟨g, ρ, S, d, ρ', em, post⟩ := q z
  have hd : isA d = true := by
    obtain ⟨x, ρ1, y, ρ2, ea, eb, h⟩ := mCh_some em
    rcases h with ⟨_, w, _, e⟩ | ⟨_, rfl, _⟩
    · exact at2.atom _ _ _ e
    · rfl
  exact chain_core (a := a) (b := b) (c := c) ht rfl o1 o2 at1 at2 hl hk S em z (fun H' g' h1 h2 h3 => .inl ⟨post _ H' g' h1 h2 h3 (atom_rz hd), hd⟩) hd
theorem jt_chain {op op' : CmpOp} {a b c : Expr} {ma mb mc : M} {ra rb rc : Rz} {pa pb pc : Bool} {r r' : R2} {f f' : D → D → Option D} (ho : OpR X (compareOp op) r) (ho' : OpR X (compareOp op') r')
    (ha : J X κ a ma ra κ1 pa) (hb : J X κ1 b mb rb κ2 pb) (hc : J X κ2 c mc rc κ3 pc) (o1 : okk ra pb = true) (o2 : okk rb pc = true) (at1 : AtOp X r f) (at2 : AtOp X r' f') (hl : leO κ3 κ2 = true) (hk : κ3.length = X.N.length)
    (hm : lastMarks [op, op'] [b, c] = false) : JT X κ (.Compare a [op, op'] [b, c] pos) (mCh f f' ma mb mc) κ3 (pa && (pb && pc)) := by
  refine ⟨fun t ht => PT.imp (pt_chain ho ho' (ha.run t ht) (hb.run (t + 1) (by omega)) (hc.run (t + 2) (by omega)) hm) fun σ H Q z q => ?_, mCh_pur ha hb hc⟩
  obtain ⟨g, ρ, S, d, ρ', em, post⟩ := q z
  exact chain_core (a := a) (b := b) (c := c) ht rfl o1 o2 at1 at2 hl hk S em z (fun H' g' h1 h2 h3 => .inl ⟨⟨d, rfl, post H' g' h1 h2 h3⟩, rfl⟩) rfl
end VS
namespace VS
open PySem PySem.Spec PyProof.Rows L2
variable {K : PySem.W.Frag} {X : Cx} {κ κ1 κ2 κ3 : OE} {pos : Pos}
/-! ### lists of data -/
theorem repL_get {H : Hp} : ∀ {ds : List D} {vs : List V} {i : Nat} {d : D}, RepL K H ds vs → ds[i]? = some d → ∃ v, vs[i]? = some v ∧ Rep K H d v
  | [], _, _, _, _, e => by simp at e
  | d :: ds, _, 0, _, h, e => by
    obtain ⟨v, w, rfl, h1, h2⟩ := h
    cases e
    exact ⟨v, rfl, h1⟩
  | d :: ds, _, i + 1, _, h, e => by
    obtain ⟨v, w, rfl, h1, h2⟩ := h
    exact repL_get (i := i) h2 e
theorem repL_len {H : Hp} : ∀ {ds : List D} {vs : List V}, RepL K H ds vs → vs.length = ds.length
  | [], _, h => by cases (show _ = _ from h); rfl
  | d :: ds, _, h => by
    obtain ⟨v, w, rfl, h1, h2⟩ := h
    simp [repL_len h2]
theorem repL_app {H : Hp} : ∀ {ds es : List D} {vs ws : List V}, RepL K H ds vs → RepL K H es ws → RepL K H (ds ++ es) (vs ++ ws)
  | [], _, _, _, h, q => by cases (show _ = _ from h); exact q
  | d :: ds, _, _, _, h, q => by
    obtain ⟨v, w, rfl, h1, h2⟩ := h
    exact ⟨v, _, rfl, h1, repL_app h2 q⟩
theorem repL_drop {H : Hp} : ∀ (n : Nat) {ds : List D} {vs : List V}, RepL K H ds vs → RepL K H (ds.drop n) (vs.drop n)
  | 0, _, _, h => h
  | n + 1, [], _, h => by cases (show _ = _ from h); rfl
  | n + 1, d :: ds, _, h => by
    obtain ⟨v, w, rfl, h1, h2⟩ := h
    exact repL_drop n h2
theorem repL_take {H : Hp} : ∀ (n : Nat) {ds : List D} {vs : List V}, RepL K H ds vs → RepL K H (ds.take n) (vs.take n)
  | 0, _, _, h => by simp only [List.take_zero]; rfl
  | n + 1, [], _, h => by cases (show _ = _ from h); rfl
  | n + 1, d :: ds, _, h => by
    obtain ⟨v, w, rfl, h1, h2⟩ := h
    exact ⟨v, _, rfl, h1, repL_take n h2⟩
theorem repL_mono {H H' : Hp} (s : Same H H') (ds : List D) {vs : List V} (h : RepL K H ds vs) : RepL K H' ds vs := rep_mono.go s ds h
theorem ownL_repL {H : Hp} {g : G} {k r : Nat} {p : List Nat} {i : Nat} (ds : List D) {vs : List V} (h : OwnL K H g ds k r p i vs) : RepL K H ds vs := own_rep.go ds h
theorem ownL_get {H : Hp} {g : G} {k r : Nat} {p : List Nat} : ∀ {ds : List D} {vs : List V} {j i : Nat} {d : D}, OwnL K H g ds k r p j vs → ds[i]? = some d → ∃ v, vs[i]? = some v ∧ Own K H g d k r ((j + i) :: p) v
  | [], _, _, _, _, _, e => by simp at e
  | d :: ds, _, j, 0, _, h, e => by
    obtain ⟨v, w, rfl, h1, h2⟩ := h
    cases e
    exact ⟨v, rfl, h1⟩
  | d :: ds, _, j, i + 1, _, h, e => by
    obtain ⟨v, w, rfl, h1, h2⟩ := h
    have := ownL_get (j := j + 1) (i := i) h2 e
    rw [show j + 1 + i = j + (i + 1) by omega] at this
    exact this
/-! ### rows as lists -/
def allRz : List Am → Bool
  | [] => true
  | .rz _ :: ms => allRz ms
  | _ => false
theorem rows_repL {H : Hp} {g : G} {σ : L2.St} {ρ : DE} : ∀ {ms : List Am} {t : Nat} {ds : List D} {vs : List V}, allRz ms = true → RowsOk K H g σ ρ t ms ds vs → RepL K H ds vs
  | [], _, _, _, _, h => by
    obtain ⟨rfl, rfl⟩ := h
    rfl
  | .io i :: ms, _, _, _, h, _ => by cases h
  | .rz z :: ms, _, _, _, h, q => by
    obtain ⟨d, ds', v, vs', rfl, rfl, h1, h2⟩ := q
    exact ⟨v, vs', rfl, h1.rep, rows_repL (ms := ms) h h2⟩
/-- a call whose answer is an atom -/
structure AtCall (X : Cx) (r : List V → Hp → VK → Prop) (f : List D → Option D) : Prop where
  ans : ∀ (H : Hp) (ds : List D) (z : D) (vs : List V) (Q : VK), SzOk H → f ds = some z → RepL X.K H ds vs → Q (av z) H → r vs H Q
  atom : ∀ ds z, f ds = some z → isA z = true
def mB (f : List D → Option D) (ml : ML) : M := fun ρ => (ml ρ).bind fun x => (f x.1).map fun z => (z, x.2)
theorem mB_some {f : List D → Option D} {ml : ML} {ρ ρ' : DE} {d : D} (h : mB f ml ρ = some (d, ρ')) : ∃ ds, ml ρ = some (ds, ρ') ∧ f ds = some d := by
  unfold mB at h
  cases e : ml ρ with
  | none => rw [e] at h; cases h
  | some p =>
    rw [e] at h
    simp only [Option.bind_some] at h
    cases e2 : f p.1 with
    | none => rw [e2] at h; cases h
    | some b => rw [e2] at h; cases h; exact ⟨p.1, rfl, e2⟩
/-- .. asked with what is known wherever one stands -/
theorem CallR.en {f : Value} {r : List V → Hp → VK → Prop} (h : CallR X f r) : CallR X f (fun vs H Q => SzOk H → r vs H Q) := fun pins s σ H xs us Q I rv q => h pins s σ H xs us Q I rv (q (Inv.sz I))
theorem j_callA {e : Expr} {es : List Expr} {ml : ML} {ms : List Am} {pu : Bool} {r : List V → Hp → VK → Prop} {f : List D → Option D} (ha : JA X κ es ml ms κ1 pu) (hm : allRz ms = true) (at1 : AtCall X r f)
    (mk : ∀ {t : TA}, PA X es t → PE X e (tCB (fun vs H Q => SzOk H → r vs H Q) t)) {rz : Rz} : J X κ e (mB f ml) rz κ1 pu := by
  refine ⟨fun t ht => PE.imp (mk (ha.run t ht)) fun σ H Q z q => ?_, fun hp ρ d ρ' e => ?_⟩
  · obtain ⟨g, ρ, S, d, ρ', em, post⟩ := q z
    obtain ⟨ds, e1, e2⟩ := mB_some em
    exact fun _ => ⟨g, ρ, S, ds, ρ', e1, fun vs H' g' S' P' s' r' => fun hz => at1.ans H' ds d vs Q hz e2 (rows_repL hm r') (post _ H' g' S' P' s' (atom_rz (at1.atom _ _ e2)))⟩
  · obtain ⟨ds, e1, e2⟩ := mB_some e
    exact ha.pur hp _ _ _ e1
/-! ### built-ins with atoms for answers -/
def fLen : List D → Option D
  | [.lst xs] => some (.int xs.length)
  | [.tup xs] => some (.int xs.length)
  | [.rol xs] => some (.int xs.length)
  | [.dic (.K _) xs] => some (.int xs.length)
  | [.str y] => if y.length ≤ 16777216 then some (.int y.length) else none
  | _ => none
/-- len of a dict, walked or not -/
def rLenD : List V → Hp → VK → Prop := fun xs H Q => ∃ (a : Addr) (kvs : List (Key × V)), xs = [V.ref a] ∧ Rd H a (.dK kvs) ∧ Q (.int kvs.length) H
theorem cr_lenD : CallR X (.builtin "len") rLenD := by
  intro pins s σ H xs us Q I rv q0
  obtain ⟨a, kvs, rfl, ha, q1⟩ := q0
  obtain ⟨u, rfl, hu1⟩ := vals1 rv
  cases hu1
  exact d_len I ha fun t s2 I2 => ⟨.int kvs.length, H, I2, ⟨t, rfl⟩, q1⟩
def rLenA (K : PySem.W.Frag) : List V → Hp → VK → Prop := fun xs H Q => (∃ x n, xs = [x] ∧ LenV K x H n ∧ Q (.int n) H) ∨ rLenD xs H Q
theorem cr_len : CallR X (.builtin "len") (rLenA X.K) := call_len.or cr_lenD
theorem at_len : AtCall X (rLenA X.K) fLen where
  ans := fun H ds z vs Q hz e r q => by
    unfold fLen at e
    split at e
    · cases e
      obtain ⟨v, w, rfl, ⟨a, us, rfl, ha, hl⟩, h2⟩ := r
      cases (show _ = _ from h2)
      exact .inl ⟨_, us.length, rfl, .inl ⟨us, SqL.of ha, rfl⟩, by rw [repL_len hl]; exact q⟩
    · cases e
      obtain ⟨v, w, rfl, ⟨a, us, rfl, ha, hl⟩, h2⟩ := r
      cases (show _ = _ from h2)
      exact .inl ⟨_, us.length, rfl, .inr ⟨us, SqT.of ha, rfl⟩, by rw [repL_len hl]; exact q⟩
    · cases e
      obtain ⟨v, w, rfl, ⟨a, rfl, ha⟩, h2⟩ := r
      cases (show _ = _ from h2)
      exact .inl ⟨_, _, rfl, .inl ⟨_, rol_sq ha, rfl⟩, by rw [List.length_map]; exact q⟩
    · cases e
      obtain ⟨v, w, rfl, ⟨a, us, rfl, ha, hq, hl⟩, h2⟩ := r
      cases (show _ = _ from h2)
      rename_i ks xs
      have hz : ks.length = xs.length := hq
      have h3 := repL_len hl
      refine .inr ⟨a, _, rfl, ha, ?_⟩
      rw [List.length_zip, h3, hz, Nat.min_self]
      exact q
    · split at e
      · cases e
        obtain ⟨v, w, rfl, h1, h2⟩ := r
        cases (show _ = _ from h2)
        cases (show _ = _ from h1)
        exact .inl ⟨_, _, rfl, ⟨by rw [sizeLine_eq]; assumption, rfl⟩, q⟩
      · cases e
    · cases e
  atom := fun ds z e => by
    unfold fLen at e
    split at e <;> first | (cases e; rfl) | (split at e <;> first | (cases e; rfl) | cases e) | cases e
def fI1 (f : Int → D) : List D → Option D
  | [.int i] => some (f i)
  | _ => none
theorem at_i1 {r : List V → Hp → VK → Prop} {f : Int → D} (ha : ∀ i, isA (f i) = true) (h : ∀ i H Q, Q (av (f i)) H → r [.int i] H Q) : AtCall X r (fI1 f) where
  ans := fun H ds z vs Q _ e rr q => by
    unfold fI1 at e
    split at e
    · cases e
      obtain ⟨v, w, rfl, h1, h2⟩ := rr
      cases (show _ = _ from h2)
      cases (show _ = _ from h1)
      exact h _ H Q q
    · cases e
  atom := fun ds z e => by
    unfold fI1 at e
    split at e
    · cases e; exact ha _
    · cases e
def fI2 (f : Int → Int → D) : List D → Option D
  | [.int i, .int j] => some (f i j)
  | _ => none
theorem at_i2 {r : List V → Hp → VK → Prop} {f : Int → Int → D} (ha : ∀ i j, isA (f i j) = true) (h : ∀ i j H Q, Q (av (f i j)) H → r [.int i, .int j] H Q) : AtCall X r (fI2 f) where
  ans := fun H ds z vs Q _ e rr q => by
    unfold fI2 at e
    split at e
    · cases e
      obtain ⟨v, w, rfl, h1, v2, w2, rfl, h2, h3⟩ := rr
      cases (show _ = _ from h3)
      cases (show _ = _ from h1)
      cases (show _ = _ from h2)
      exact h _ _ H Q q
    · cases e
  atom := fun ds z e => by
    unfold fI2 at e
    split at e
    · cases e; exact ha _ _
    · cases e
def fAbs := fI1 fun i => .int (if i < 0 then -i else i)
theorem at_abs : AtCall X (fun xs H Q => ∃ i, xs = [.int i] ∧ Q (.int (if i < 0 then -i else i)) H) fAbs := at_i1 (fun _ => rfl) fun i H Q q => ⟨i, rfl, q⟩
def fMax2 := fI2 fun i j => .int (if j > i then j else i)
theorem at_max2 : AtCall X (fun xs H Q => ∃ i j, xs = [.int i, .int j] ∧ Q (.int (if j > i then j else i)) H) fMax2 := at_i2 (fun _ _ => rfl) fun i j H Q q => ⟨i, j, rfl, q⟩
def fMin2 := fI2 fun i j => .int (if j < i then j else i)
theorem at_min2 : AtCall X (fun xs H Q => ∃ i j, xs = [.int i, .int j] ∧ Q (.int (if j < i then j else i)) H) fMin2 := at_i2 (fun _ _ => rfl) fun i j H Q q => ⟨i, j, rfl, q⟩
def fInt : List D → Option D
  | [.int i] => some (.int i)
  | [.bl b] => some (.int (if b then 1 else 0))
  | _ => none
theorem at_int : AtCall X (fun xs H Q => (∃ i, xs = [.int i] ∧ Q (.int i) H) ∨ ∃ k, xs = [.bl k] ∧ Q (.int (if k then 1 else 0)) H) fInt where
  ans := fun H ds z vs Q _ e rr q => by
    unfold fInt at e
    split at e
    · cases e
      obtain ⟨v, w, rfl, h1, h2⟩ := rr
      cases (show _ = _ from h2)
      cases (show _ = _ from h1)
      exact .inl ⟨_, rfl, q⟩
    · cases e
      obtain ⟨v, w, rfl, h1, h2⟩ := rr
      cases (show _ = _ from h2)
      cases (show _ = _ from h1)
      exact .inr ⟨_, rfl, q⟩
    · cases e
  atom := fun ds z e => by
    unfold fInt at e
    split at e <;> first | (cases e; rfl) | cases e
/-- the ints, the truths of a list of data -/
def intsOf : List D → Option (List Int)
  | [] => some []
  | .int i :: r => (intsOf r).map (i :: ·)
  | _ => none
def blsOf : List D → Option (List Bool)
  | [] => some []
  | .bl i :: r => (blsOf r).map (i :: ·)
  | _ => none
theorem ints_rep {H : Hp} : ∀ {ds : List D} {ns : List Int} {vs : List V}, intsOf ds = some ns → RepL K H ds vs → vs = ns.map V.int
  | [], _, _, e, h => by cases e; exact h
  | d :: ds, ns, vs, e, h => by
    obtain ⟨v, w, rfl, h1, h2⟩ := h
    cases d with
    | int i =>
      simp only [intsOf] at e
      cases e2 : intsOf ds with
      | none => rw [e2] at e; cases e
      | some ms =>
        rw [e2] at e
        cases e
        cases (show _ = _ from h1)
        rw [ints_rep e2 h2]
        rfl
    | _ => simp [intsOf] at e
theorem bls_rep {H : Hp} : ∀ {ds : List D} {ns : List Bool} {vs : List V}, blsOf ds = some ns → RepL K H ds vs → vs = ns.map V.bl
  | [], _, _, e, h => by cases e; exact h
  | d :: ds, ns, vs, e, h => by
    obtain ⟨v, w, rfl, h1, h2⟩ := h
    cases d with
    | bl i =>
      simp only [blsOf] at e
      cases e2 : blsOf ds with
      | none => rw [e2] at e; cases e
      | some ms =>
        rw [e2] at e
        cases e
        cases (show _ = _ from h1)
        rw [bls_rep e2 h2]
        rfl
    | _ => simp [blsOf] at e
def fSum : List D → Option D
  | [.lst xs] => (intsOf xs).map fun ns => .int ns.sum
  | _ => none
theorem at_sum : AtCall X (rSum X.K) fSum where
  ans := fun H ds z vs Q _ e rr q => by
    unfold fSum at e
    split at e
    · rename_i xs
      cases e2 : intsOf xs with
      | none => rw [e2] at e; cases e
      | some ns =>
        rw [e2] at e
        cases e
        obtain ⟨v, w, rfl, ⟨a, us, rfl, ha, hl⟩, h2⟩ := rr
        cases (show _ = _ from h2)
        exact ⟨a, ns, rfl, by rw [← ints_rep e2 hl]; exact SqL.of ha, q⟩
    · cases e
  atom := fun ds z e => by
    unfold fSum at e
    split at e
    · rename_i xs
      cases e2 : intsOf xs with
      | none => rw [e2] at e; cases e
      | some ns => rw [e2] at e; cases e; rfl
    · cases e
def fAll : List D → Option D
  | [.lst xs] => (blsOf xs).map fun ns => .bl (ns.all id)
  | _ => none
def fAny : List D → Option D
  | [.lst xs] => (blsOf xs).map fun ns => .bl (ns.any id)
  | _ => none
theorem at_all : AtCall X (rAll X.K) fAll where
  ans := fun H ds z vs Q _ e rr q => by
    unfold fAll at e
    split at e
    · rename_i xs
      cases e2 : blsOf xs with
      | none => rw [e2] at e; cases e
      | some ns =>
        rw [e2] at e
        cases e
        obtain ⟨v, w, rfl, ⟨a, us, rfl, ha, hl⟩, h2⟩ := rr
        cases (show _ = _ from h2)
        exact ⟨a, ns, rfl, by rw [← bls_rep e2 hl]; exact SqL.of ha, q⟩
    · cases e
  atom := fun ds z e => by
    unfold fAll at e
    split at e
    · rename_i xs
      cases e2 : blsOf xs with
      | none => rw [e2] at e; cases e
      | some ns => rw [e2] at e; cases e; rfl
    · cases e
theorem at_any : AtCall X (rAny X.K) fAny where
  ans := fun H ds z vs Q _ e rr q => by
    unfold fAny at e
    split at e
    · rename_i xs
      cases e2 : blsOf xs with
      | none => rw [e2] at e; cases e
      | some ns =>
        rw [e2] at e
        cases e
        obtain ⟨v, w, rfl, ⟨a, us, rfl, ha, hl⟩, h2⟩ := rr
        cases (show _ = _ from h2)
        exact ⟨a, ns, rfl, by rw [← bls_rep e2 hl]; exact SqL.of ha, q⟩
    · cases e
  atom := fun ds z e => by
    unfold fAny at e
    split at e
    · rename_i xs
      cases e2 : blsOf xs with
      | none => rw [e2] at e; cases e
      | some ns => rw [e2] at e; cases e; rfl
    · cases e
/-! ### a place of a list -/
def dIxS : D → D → Option D
  | .lst xs, .int i => atI xs i
  | .tup xs, .int i => atI xs i
  | .rol ns, .int i => (atI ns i).map .int
  | .str z, .int i => if z.length ≤ 16777216 then (atI z.cps.toList i).map fun c => .str ⟨#[c]⟩ else none
  | _, _ => none
/-- what a dict holds at a key -/
def dGetD (q : DKs) (xs : List D) (d : D) : Option D := ((q.at d).bind fun o => o).bind fun j => xs[j]?
def dIx : D → D → Option D
  | .dic q xs, d => dGetD q xs d
  | x, i => dIxS x i
theorem dGetD_some {q : DKs} {xs : List D} {d z : D} (h : dGetD q xs d = some z) : ∃ j, q.at d = some (some j) ∧ xs[j]? = some z := by
  unfold dGetD at h
  cases e : q.at d with
  | none => rw [e] at h; cases h
  | some o =>
    rw [e] at h
    cases o with
    | none => cases h
    | some j => exact ⟨j, rfl, h⟩
theorem PE.or {e : Expr} {t t' : TE} (h : PE X e t) (h' : PE X e t') : PE X e (fun σ H Q => t σ H Q ∨ t' σ H Q) :=
  ⟨fun pins s σ H Q I q => q.elim (h.run pins s σ H Q I) (h'.run pins s σ H Q I)⟩
theorem dic_get {H : Hp} {q : DKs} {xs : List D} {d z : D} {v u : V} (h : dGetD q xs d = some z) (rx : Rep K H (.dic q xs) v) (ry : Rep K H d u) : ∃ a w, v = .ref a ∧ DGet H a u (some w) ∧ Rep K H z w := by
  obtain ⟨j, e1, e2⟩ := dGetD_some h
  obtain ⟨a, vs, rfl, ha, hq, hl⟩ := rx
  obtain ⟨w, e3, r3⟩ := repL_get hl e2
  have := dGet_of ha (hq.trans (repL_len hl).symm) e1 ry
  rw [Option.bind_some, e3] at this
  exact ⟨a, w, rfl, this, r3⟩
/-- an operation whose answer stands in the heap as it is -/
structure RepOp (X : Cx) (r : R2) (f : D → D → Option D) : Prop where
  ans : ∀ (H : Hp) (x y z : D) (v u : V) (Q : VK), f x y = some z → Rep X.K H x v → Rep X.K H y u → (∀ w, Rep X.K H z w → Q w H) → r v u H Q
theorem atI_rep {H : Hp} {ds : List D} {vs : List V} {i : Int} {d : D} (h : RepL K H ds vs) (e : atI ds i = some d) : ∃ v, atI vs i = some v ∧ Rep K H d v := by
  unfold atI at *
  rw [repL_len h]
  cases q : ixN ds.length i with
  | none => rw [q] at e; cases e
  | some j =>
    rw [q] at e
    exact repL_get h e
theorem rop_ix : RepOp X (rIx X.K) dIxS where
  ans := fun H x y z v u Q e rx ry q => by
    unfold dIxS at e
    split at e
    · obtain ⟨a, vs, rfl, ha, hl⟩ := rx
      cases (show _ = _ from ry)
      obtain ⟨w, e1, e2⟩ := atI_rep hl e
      exact .inl ⟨a, vs, _, w, rfl, rfl, SqL.of ha, e1, q w e2⟩
    · obtain ⟨a, vs, rfl, ha, hl⟩ := rx
      cases (show _ = _ from ry)
      obtain ⟨w, e1, e2⟩ := atI_rep hl e
      exact .inr (.inl ⟨a, vs, _, w, rfl, rfl, SqT.of ha, e1, q w e2⟩)
    · rename_i ns i
      obtain ⟨a, rfl, ha⟩ := rx
      cases (show _ = _ from ry)
      cases e2 : atI ns i with
      | none => rw [e2] at e; cases e
      | some n =>
        rw [e2] at e
        cases e
        refine .inl ⟨a, _, _, .int n, rfl, rfl, rol_sq ha, ?_, q _ rfl⟩
        unfold atI at *
        rw [List.length_map]
        cases q : ixN ns.length i with
        | none => rw [q] at e2; cases e2
        | some j =>
          rw [q] at e2
          simp only [Option.bind_some] at e2 ⊢
          rw [List.getElem?_map, e2]
          rfl
    · split at e
      · rename_i z' i hz
        cases (show _ = _ from rx)
        cases (show _ = _ from ry)
        cases e2 : atI z'.cps.toList i with
        | none => rw [e2] at e; cases e
        | some n =>
          rw [e2] at e
          cases e
          exact .inr (.inr ⟨_, _, n, rfl, rfl, by rw [sizeLine_eq]; assumption, e2, q _ rfl⟩)
      · cases e
    · cases e
def isDic : D → Bool
  | .dic _ _ => true
  | _ => false
theorem dIx_not {x y : D} (h : isDic x = false) : dIx x y = dIxS x y := by
  cases x <;> first | rfl | cases h
theorem j_ix (hu : X.A.units + 100 < cLine) {a b : Expr} {ma mb : M} {ra rb : Rz} {pa pb : Bool} (ha : J X κ a ma ra κ1 pa) (hb : J X κ1 b mb rb κ2 pb) (ok : okk ra pb = true) (hs : PlainIx b) : J X κ (.Subscript a b pos) (m2 dIx ma mb) .rep κ2 (pa && pb) := by
  refine ⟨fun t ht => PE.imp (PE.or (pe_ix ix_seq (ha.run t ht) (hb.run (t + 1) (by omega)) hs) (pe_dget (by omega) (ha.run t ht) (hb.run (t + 1) (by omega)) hs)) fun σ H Q z q => ?_, fun hp ρ d ρ' h => ?_⟩
  · obtain ⟨g, ρ, S, d, ρ', em, post⟩ := q z
    obtain ⟨x, ρ1, y, ea, eb, ec⟩ := m2_some em
    by_cases hx : isDic x = true
    · refine .inr (two (K := X.K) (κ2 := κ2) ht ok S ea eb z fun v u H' g' S' P' s' r1 r2 => ?_)
      cases x with
      | dic q xs =>
        obtain ⟨a', w, rfl, h1, h2⟩ := dic_get ec r1.rep r2.rep
        exact ⟨a', w, rfl, h1, post w H' g' S' P' s' h2⟩
      | _ => cases hx
    · refine .inl (two (K := X.K) (κ2 := κ2) ht ok S ea eb z fun v u H' g' S' P' s' r1 r2 => ?_)
      rw [dIx_not (by simpa using hx)] at ec
      exact rop_ix.ans H' x y d v u Q ec r1.rep r2.rep fun w hw => post w H' g' S' P' s' hw
  · rw [Bool.and_eq_true] at hp
    obtain ⟨x, ρ1, y, ea, eb, ec⟩ := m2_some h
    rw [hb.pur hp.2 _ _ _ eb, ha.pur hp.1 _ _ _ ea]
/-! ### paths: a place within a slot's object -/
def RepLen (q : DKs) (vs : List V) : Prop := q.len = vs.length
theorem zip_inj {α β : Type} : ∀ {ks : List α} {us vs : List β}, ks.length = us.length → ks.length = vs.length → ks.zip us = ks.zip vs → us = vs
  | [], [], [], _, _, _ => rfl
  | k :: ks, u :: us, v :: vs, h1, h2, h => by
    simp only [List.zip_cons_cons, List.cons.injEq, Prod.mk.injEq] at h
    rw [h.1.2, zip_inj (by simpa using h1) (by simpa using h2) h.2]
theorem dO_inj {q : DKs} {us vs : List V} (h1 : q.len = us.length) (h2 : q.len = vs.length) (h : dO q us = dO q vs) : us = vs := by
  cases q with
  | K ks => injection h with h; exact zip_inj h1 h2 h
  | T ks => injection h with h; exact zip_inj h1 h2 h
theorem rd_inj {H : Hp} {a : Addr} {q : DKs} {us vs : List V} (h1 : q.len = us.length) (h2 : q.len = vs.length) (r1 : Rd H a (dO q us)) (r2 : Rd H a (dO q vs)) : us = vs := by
  rcases r1 with r1 | ⟨o, r1⟩ <;> rcases r2 with r2 | ⟨o', r2⟩ <;> rw [r1] at r2
  · injection r2 with r2; exact dO_inj h1 h2 r2
  · injection r2 with r2; cases q <;> cases r2
  · injection r2 with r2; cases q <;> cases r2
  · injection r2 with r2; injection r2 with r3 r4; exact dO_inj h1 h2 r4
inductive Nav (H : Hp) (σ : L2.St) (ρ : DE) (i : Nat) : Nat → V → D → Prop where
  | here {v : V} {d : D} : σ[i]? = some (some v) → ρ[i]? = some (some d) → Nav H σ ρ i 0 v d
  | lst {n j : Nat} {a : Addr} {vs : List V} {ds : List D} {v : V} {d : D} : Nav H σ ρ i n (.ref a) (.lst ds) → H a = some (.lst vs) → vs[j]? = some v → ds[j]? = some d → Nav H σ ρ i (n + 1) v d
  | tup {n j : Nat} {a : Addr} {vs : List V} {ds : List D} {v : V} {d : D} : Nav H σ ρ i n (.ref a) (.tup ds) → H a = some (.tup vs) → vs[j]? = some v → ds[j]? = some d → Nav H σ ρ i (n + 1) v d
  | dic {n j : Nat} {a : Addr} {q : DKs} {vs : List V} {ds : List D} {v : V} {d : D} : Nav H σ ρ i n (.ref a) (.dic q ds) → Rd H a (dO q vs) → RepLen q vs → vs[j]? = some v → ds[j]? = some d → Nav H σ ρ i (n + 1) v d
theorem Nav.mono {H H' : Hp} {σ : L2.St} {ρ : DE} {i n : Nat} {v : V} {d : D} (h : Nav H σ ρ i n v d) (s : Same H H') : Nav H' σ ρ i n v d := by
  induction h with
  | here h1 h2 => exact .here h1 h2
  | lst h1 h2 h3 h4 ih => exact .lst ih (s _ _ h2) h3 h4
  | tup h1 h2 h3 h4 ih => exact .tup ih (s _ _ h2) h3 h4
  | dic h1 h2 h5 h3 h4 ih => exact .dic ih (h2.imp (s _ _) fun ⟨o, z⟩ => ⟨o, s _ _ z⟩) h5 h3 h4
def subk (k n : Nat) : Nat := if 99 ≤ k then k else k - n
theorem lv_sub (k n : Nat) : lv (subk k n) = subk k (n + 1) := by
  unfold lv subk
  by_cases h : 99 ≤ k
  · simp [h]
  · have : ¬ 99 ≤ k - n := by omega
    simp only [h, if_false, this]
    omega
theorem Nav.own {H : Hp} {g : G} {κ : OE} {σ : L2.St} {ρ : DE} {i n k : Nat} {v : V} {d : D} (h : Nav H σ ρ i n v d) (S : Sok K κ ρ g σ H) (hk : κ[i]? = some (some k)) : ∃ p, p.length = n ∧ Own K H g d (subk k n) i p v := by
  induction h with
  | here h1 h2 =>
    obtain ⟨v', e1, o⟩ := S.ok i k _ hk h2
    rw [h1] at e1
    cases e1
    refine ⟨[], rfl, ?_⟩
    have : subk k 0 = k := by unfold subk; split <;> rfl
    rw [this]
    exact o
  | lst h1 h2 h3 h4 ih =>
    obtain ⟨p, e, a, vs, e1, e2, e3, o⟩ := ih
    cases e1
    rw [h2] at e2
    cases e2
    obtain ⟨v', e4, o'⟩ := ownL_get o h4
    rw [h3] at e4
    cases e4
    exact ⟨_, (congrArg (· + 1) e : _), by rw [← lv_sub]; exact o'⟩
  | tup h1 h2 h3 h4 ih =>
    obtain ⟨p, e, a, vs, e1, e2, o⟩ := ih
    cases e1
    rw [h2] at e2
    cases e2
    obtain ⟨v', e4, o'⟩ := ownL_get o h4
    rw [h3] at e4
    cases e4
    exact ⟨_, (congrArg (· + 1) e : _), by rw [← lv_sub]; exact o'⟩
  | dic h1 h2 h5 h3 h4 ih =>
    obtain ⟨p, e, a2, vs, e1, e2, e6, e3, o⟩ := ih
    cases e1
    have e7 : Rd H _ (dO _ vs) := e2.elim .inl fun z => .inr z.2
    cases rd_inj (e6.trans (repL_len (ownL_repL _ o)).symm) h5 e7 h2
    obtain ⟨v', e4, o'⟩ := ownL_get o h4
    rw [h3] at e4
    cases e4
    exact ⟨_, (congrArg (· + 1) e : _), by rw [← lv_sub]; exact o'⟩
/-- a place, as a place -/
structure JP (X : Cx) (κ : OE) (e : Expr) (m : M) (κ' : OE) (i n : Nat) : Prop where
  run : ∀ t, X.N.length ≤ t → PE X e (fun σ H Q => En X.N.length σ H → ∃ g ρ, Sok X.K κ ρ g σ H ∧ ∃ d ρ', m ρ = some (d, ρ') ∧
    ∀ v H' g', Sok X.K κ' ρ' g' σ H' → Pres X.N.length t g H g' H' → Same H H' → Nav H' σ ρ' i n v d → Q v H')
  pur : ∀ ρ d ρ', m ρ = some (d, ρ') → ρ' = ρ
theorem jp_var {i k : Nat} {e : Expr} (h : PE X e (tVar i)) (hk : κ[i]? = some (some k)) : JP X κ e (mV i) κ i 0 := by
  refine ⟨fun t ht => PE.imp h fun σ H Q z q => ?_, fun ρ d' ρ' e => (mV_some e).2⟩
  obtain ⟨g, ρ, S, d', ρ', em, post⟩ := q z
  obtain ⟨e1, rfl⟩ := mV_some em
  obtain ⟨v, es, o⟩ := S.ok i k d' hk e1
  exact ⟨v, es, post v H g S Pres.refl (Same.refl H) (.here es e1)⟩
theorem atI_at {α β : Type} {xs : List α} {ys : List β} {i : Int} {x : α} {y : β} (hl : xs.length = ys.length) (h1 : atI xs i = some x) (h2 : atI ys i = some y) : ∃ j : Nat, xs[j]? = some x ∧ ys[j]? = some y := by
  unfold atI at *
  rw [hl] at h1
  cases q : ixN ys.length i with
  | none => rw [q] at h1; cases h1
  | some j => rw [q] at h1 h2; exact ⟨j, h1, h2⟩
def dIxP : D → D → Option D
  | .lst xs, .int i => atI xs i
  | .tup xs, .int i => atI xs i
  | .dic q xs, d => dGetD q xs d
  | _, _ => none
theorem dic_getP {H : Hp} {q : DKs} {xs : List D} {d z : D} {v u : V} (h : dGetD q xs d = some z) (rx : Rep K H (.dic q xs) v) (ry : Rep K H d u) : ∃ (a : Addr) (w : V) (vs : List V) (j : Nat), v = .ref a ∧ DGet H a u (some w) ∧ Rd H a (dO q vs) ∧ RepLen q vs ∧ vs[j]? = some w ∧ xs[j]? = some z := by
  obtain ⟨j, e1, e2⟩ := dGetD_some h
  obtain ⟨a, vs, rfl, ha, hq, hl⟩ := rx
  obtain ⟨w, e3, r3⟩ := repL_get hl e2
  have := dGet_of ha (hq.trans (repL_len hl).symm) e1 ry
  rw [Option.bind_some, e3] at this
  exact ⟨a, w, vs, j, rfl, this, ha, hq.trans (repL_len hl).symm, e3, e2⟩
theorem jp_ix (hu : X.A.units + 100 < cLine) {a b : Expr} {ma mb : M} {rb : Rz} {i n k : Nat} (ha : JP X κ a ma κ1 i n) (hb : J X κ1 b mb rb κ2 true) (hs : PlainIx b) (hk : κ2[i]? = some (some k)) : JP X κ (.Subscript a b pos) (m2 dIxP ma mb) κ2 i (n + 1) := by
  refine ⟨fun t ht => PE.imp (PE.or (pe_ix ix_seq (ha.run t ht) (hb.run (t + 1) (by omega)) hs) (pe_dget (by omega) (ha.run t ht) (hb.run (t + 1) (by omega)) hs)) fun σ H Q z q => ?_, fun ρ d ρ' h => ?_⟩
  · obtain ⟨g, ρ, S, d, ρ', em, post⟩ := q z
    obtain ⟨x, ρ1, y, ea, eb, ec⟩ := m2_some em
    by_cases hx : isDic x = true
    · refine .inr fun _ => ⟨g, ρ, S, x, ρ1, ea, fun v H1 g1 S1 P1 s1 n1 => fun _ => ⟨g1, ρ1, S1, y, ρ', eb, fun u H2 g2 S2 P2 s2 r2 => ?_⟩⟩
      have e2 := hb.pur rfl _ _ _ eb
      subst e2
      have n2 := n1.mono (s2 rfl)
      obtain ⟨p, _, o⟩ := n2.own S2 hk
      cases x with
      | dic q xs =>
        obtain ⟨a', w, vs, j, rfl, h1, h2, h3, h4, h5⟩ := dic_getP ec (own_rep _ o) r2.rep
        exact ⟨a', w, rfl, h1, post w H2 g2 S2 (P1.trans (P2.less (Nat.le_succ t))) (s1.trans (s2 rfl)) (.dic n2 h2 h3 h4 h5)⟩
      | _ => cases hx
    refine .inl fun _ => ⟨g, ρ, S, x, ρ1, ea, fun v H1 g1 S1 P1 s1 n1 => fun _ => ⟨g1, ρ1, S1, y, ρ', eb, fun u H2 g2 S2 P2 s2 r2 => ?_⟩⟩
    have e2 := hb.pur rfl _ _ _ eb
    subst e2
    have n2 := n1.mono (s2 rfl)
    obtain ⟨p, _, o⟩ := n2.own S2 hk
    have fin : ∀ w, Nav H2 σ ρ' i (n + 1) w d → Q w H2 := fun w hw => post w H2 g2 S2 (P1.trans (P2.less (Nat.le_succ t))) (s1.trans (s2 rfl)) hw
    have hr := own_rep x o
    unfold dIxP at ec
    split at ec
    · obtain ⟨a, vs, rfl, ha, hl⟩ := hr
      cases (show _ = _ from r2.rep)
      obtain ⟨w, e1, e2⟩ := atI_rep hl ec
      obtain ⟨j, h1, h2⟩ := atI_at (repL_len hl) e1 ec
      exact .inl ⟨a, vs, _, w, rfl, rfl, SqL.of ha, e1, fin w (.lst n2 ha h1 h2)⟩
    · obtain ⟨a, vs, rfl, ha, hl⟩ := hr
      cases (show _ = _ from r2.rep)
      obtain ⟨w, e1, e2⟩ := atI_rep hl ec
      obtain ⟨j, h1, h2⟩ := atI_at (repL_len hl) e1 ec
      exact .inr (.inl ⟨a, vs, _, w, rfl, rfl, SqT.of ha, e1, fin w (.tup n2 ha h1 h2)⟩)
    · exact (hx rfl).elim
    · cases ec
  · obtain ⟨x, ρ1, y, ea, eb, ec⟩ := m2_some h
    rw [hb.pur rfl _ _ _ eb, ha.pur _ _ _ ea]
/-- such a place as a value of its own: frozen from there on -/
theorem jp_frz {e : Expr} {m : M} {i n k : Nat} (h : JP X κ e m κ1 i n) (hk : κ1[i]? = some (some k)) (h99 : n < 99) (hn : κ1.length = X.N.length) : J X κ e m (.own 0) (κ1.set i (some (min k n))) true := by
  refine ⟨fun t ht => PE.imp (h.run t ht) fun σ H Q z q => ?_, fun _ => h.pur⟩
  obtain ⟨g, ρ, S, d, ρ', em, post⟩ := q z
  refine fun _ => ⟨g, ρ, S, d, ρ', em, fun v H' g' S' P' s' nv => ?_⟩
  have hl := leO_set0 hk (Nat.min_le_left k n)
  have S2 := S'.weaken hl
  obtain ⟨p, e1, o⟩ := nv.own S2 (k := min k n) (by rw [List.getElem?_set_self (List.getElem?_eq_some_iff.mp hk).1])
  have e0 : subk (min k n) n = 0 := by
    unfold subk
    rw [if_neg (by omega)]
    omega
  rw [e0] at o
  exact post v H' _ S2 (P'.trans (Pres.weaken (by simpa using hn))) (fun _ => s') ((Pres.refl (n := 0) (t := 0)).own0 o)
/-! ### isinstance of a built-in class -/
def tyn : D → String
  | .non => "NoneType"
  | .bl _ => "bool"
  | .int _ => "int"
  | .str _ => "str"
  | .tup _ => "tuple"
  | .lst _ => "list"
  | .rol _ => "list"
  | .dic _ _ => "list"
def isTn (c t : String) : Bool := t == c || (c == "int" && t == "bool")
def isT (c : String) (d : D) : Option Bool := match d with
  | .rol _ => none
  | .dic _ _ => none
  | d => some (isTn c (tyn d))
def okTy (c : String) : Bool := c == "int" || (c == "bool" || (c == "str" || (c == "tuple" || c == "list")))
theorem okTy_cases {c : String} (h : okTy c = true) : c = "int" ∨ c = "bool" ∨ c = "str" ∨ c = "tuple" ∨ c = "list" := by
  unfold okTy at h
  simp only [Bool.or_eq_true, beq_iff_eq] at h
  exact h
theorem kitB_tab : ∀ t ∈ ["NoneType", "bool", "int", "str", "tuple", "list"], ∀ c ∈ ["int", "bool", "str", "tuple", "list"], kitB t c = some (isTn c t) := by decide +kernel
theorem isT_kit {c : String} {d : D} {b : Bool} (hc : okTy c = true) (h : isT c d = some b) : kitB (tyn d) c = some b := by
  have hb : b = isTn c (tyn d) := by cases d <;> first | (cases h; rfl) | cases h
  rw [hb]
  refine kitB_tab _ ?_ _ ?_
  · cases d <;> simp [tyn]
  · rcases okTy_cases hc with rfl | rfl | rfl | rfl | rfl <;> simp
theorem tyOf {H : Hp} {d : D} {v : V} {c : String} {b : Bool} (h : isT c d = some b) (r : Rep K H d v) : TyOf K H v (.type (tyn d)) := by
  cases d with
  | non => cases (show _ = _ from r); exact .non
  | bl x => cases (show _ = _ from r); exact .bl x
  | int i => cases (show _ = _ from r); exact .int i
  | str x => cases (show _ = _ from r); exact .str x
  | tup xs => obtain ⟨a, vs, rfl, ha, _⟩ := r; exact .tup ha
  | lst xs => obtain ⟨a, vs, rfl, ha, _⟩ := r; exact .lst ha
  | rol ns => cases h
  | dic _ _ => cases h
def mIsT (c : String) (m : M) : M := fun ρ => (m ρ).bind fun x => (isT c x.1).map fun b => (.bl b, x.2)
theorem mIsT_some {c : String} {m : M} {ρ ρ' : DE} {d : D} (h : mIsT c m ρ = some (d, ρ')) : ∃ x b, m ρ = some (x, ρ') ∧ isT c x = some b ∧ d = .bl b := by
  unfold mIsT at h
  cases e : m ρ with
  | none => rw [e] at h; cases h
  | some p =>
    rw [e] at h
    simp only [Option.bind_some] at h
    cases e2 : isT c p.1 with
    | none => rw [e2] at h; cases h
    | some b => rw [e2] at h; cases h; exact ⟨p.1, b, rfl, e2, rfl⟩
theorem j_isi {e : Expr} {m : M} {rz rz' : Rz} {pu : Bool} {c : Str} {T : String} {p p2 : Pos} (h : J X κ e m rz κ1 pu) (hc : okTy T = true) (hg : Gl X "isinstance") (hm : X.mg "isinstance" = none) (hg2 : Gl X c) (hm2 : X.mg c = none)
    (hv : bootBuiltins c = some (.type T)) (hn : c ≠ "__name__") (hd : (c == ("__debug__" : Str)) = false)
    (he : starEach [e, .Name c p2] X.env = (false, eval e X.env) :: starEach [.Name c p2] X.env) :
    J X κ (.Call (.Name "isinstance" p) [e, .Name c p2] [] pos) (mIsT T m) rz' κ1 pu := by
  refine ⟨fun t ht => PE.imp (pe_callB call_isi hg hm (by decide +kernel) (pa_cons (h.run t ht) (pa_cons (pe_bltn (v := .ty T) hg2 hm2 hv rfl hn hd) pa_nil) he) (he := he)) fun σ H Q z q => ?_, fun hp ρ d ρ' e => ?_⟩
  · obtain ⟨g, ρ, S, d, ρ', em, post⟩ := q z
    obtain ⟨x, b, e1, e2, rfl⟩ := mIsT_some em
    refine fun _ => ⟨g, ρ, S, x, ρ', e1, fun v H' g' S' P' s' r' => ?_⟩
    exact ⟨v, .ty T, .type (tyn x), .type T, b, rfl, .ty T, .base (tyOf e2 r'.rep), isT_kit hc e2, post _ H' g' S' P' s' (atom_rz (d := .bl b) rfl)⟩
  · obtain ⟨x, b, e1, e2, e3⟩ := mIsT_some e
    exact h.pur hp _ _ _ e1
end VS
namespace VS
open PySem PySem.Spec PyProof.Rows L2
variable {K : PySem.W.Frag} {X : Cx} {κ κ1 κ2 κ3 : OE} {pos : Pos}
/-! ### statements -/
inductive Out where
  | nx (ρ : DE) | rt (d : D) (ρ : DE)
abbrev SM := DE → Option Out
/-- what a return is to own; the slots of the parameters that are to be handed back as they are (never stored to) -/
structure RC where
  r : Nat
  κr : OE
def Fx (rc : RC) (s0 σ : List (Option V)) : Prop := ∀ (i k : Nat), rc.κr[i]? = some (some k) → σ[i]? = s0[i]?
def jEnd (K : PySem.W.Frag) (n t : Nat) (κn : OE) (rc : RC) (s0 : L2.St) (g : G) (H : Hp) (Dd : Ends) : Out → Prop
  | .nx ρ' => ∀ σ' H' g', Sok K κn ρ' g' σ' H' → Pres n t g H g' H' → Fx rc s0 σ' → Dd.nx σ' H'
  | .rt d ρ' => ∀ v σ' H' g' rr, n ≤ rr → Sok K rc.κr ρ' g' σ' H' → Pres n t g H g' H' → Fx rc s0 σ' → Own K H' g' d rc.r rr [] v → Dd.rt v H'
def jTS (K : PySem.W.Frag) (n : Nat) (κ : OE) (m : SM) (κn : OE) (rc : RC) (s0 : L2.St) (t : Nat) : TS := fun Dd σ H => En n σ H →
  ∃ g ρ, Sok K κ ρ g σ H ∧ Fx rc s0 σ ∧ ∃ o, m ρ = some o ∧ jEnd K n t κn rc s0 g H Dd o
structure JS (X : Cx) (κ : OE) (st : Stmt) (m : SM) (κn : OE) (rc : RC) : Prop where
  run : ∀ s0 t, X.N.length ≤ t → PS X st (jTS X.K X.N.length κ m κn rc s0 t)
structure JB (X : Cx) (κ : OE) (sts : List Stmt) (m : SM) (κn : OE) (rc : RC) : Prop where
  run : ∀ s0 t, X.N.length ≤ t → PSs X sts (jTS X.K X.N.length κ m κn rc s0 t)
theorem PS.imp {st : Stmt} {t t' : TS} (h : PS X st t) (f : ∀ σ H D, En X.N.length σ H → t' D σ H → t D σ H) : PS X st t' :=
  ⟨fun pins s σ H D I q => h.run pins s σ H D I (f σ H D ⟨Inv.sz I, I.len⟩ q)⟩
theorem PSs.imp {st : List Stmt} {t t' : TS} (h : PSs X st t) (f : ∀ σ H D, En X.N.length σ H → t' D σ H → t D σ H) : PSs X st t' :=
  ⟨fun pins s σ H D I q => h.run pins s σ H D I (f σ H D ⟨Inv.sz I, I.len⟩ q)⟩
variable {rc : RC}
/-- nothing follows -/
def kN (m : SM) : Prop := ∀ ρ ρ', m ρ ≠ some (.nx ρ')
theorem jEnd.pre {n t : Nat} {κn : OE} {s0 : L2.St} {g g1 : G} {H H1 : Hp} {Dd : Ends} {o : Out} (P : Pres n t g H g1 H1) (h : jEnd K n t κn rc s0 g H Dd o) : jEnd K n t κn rc s0 g1 H1 Dd o := by
  cases o with
  | nx ρ' => exact fun σ' H' g' S' P' F' => h σ' H' g' S' (P.trans P') F'
  | rt d ρ' => exact fun v σ' H' g' rr hr S' P' F' => h v σ' H' g' rr hr S' (P.trans P') F'
/-- a weaker state ahead, behind -/
theorem JS.weak {st : Stmt} {m : SM} {κn κn' : OE} (h : JS X κ1 st m κn rc) (h1 : leO κ1 κ = true) (h2 : leO κn' κn = true) (hn : κ1.length = X.N.length) (hn' : κn'.length = X.N.length) : JS X κ st m κn' rc := by
  refine ⟨fun s0 t ht => PS.imp (h.run s0 t ht) fun σ H D z q en => ?_⟩
  obtain ⟨g, ρ, S, fx, o, em, post⟩ := q en
  refine ⟨wk κ1 g, ρ, S.weaken h1, fx, o, em, ?_⟩
  have := post.pre (Pres.weaken (H := H) (t := t) hn)
  cases o with
  | nx ρ' => exact fun σ' H' g' S' P' F' => this σ' H' _ (S'.weaken h2) (P'.trans (Pres.weaken hn')) F'
  | rt d ρ' => exact this
theorem JB.weak {st : List Stmt} {m : SM} {κn κn' : OE} (h : JB X κ1 st m κn rc) (h1 : leO κ1 κ = true) (h2 : leO κn' κn = true) (hn : κ1.length = X.N.length) (hn' : κn'.length = X.N.length) : JB X κ st m κn' rc := by
  refine ⟨fun s0 t ht => PSs.imp (h.run s0 t ht) fun σ H D z q en => ?_⟩
  obtain ⟨g, ρ, S, fx, o, em, post⟩ := q en
  refine ⟨wk κ1 g, ρ, S.weaken h1, fx, o, em, ?_⟩
  have := post.pre (Pres.weaken (H := H) (t := t) hn)
  cases o with
  | nx ρ' => exact fun σ' H' g' S' P' F' => this σ' H' _ (S'.weaken h2) (P'.trans (Pres.weaken hn')) F'
  | rt d ρ' => exact this
/-- behind a block that never goes on -/
theorem JB.dead {st : List Stmt} {m : SM} {κn κn' : OE} (h : JB X κ st m κn rc) (hk : kN m) : JB X κ st m κn' rc := by
  refine ⟨fun s0 t ht => PSs.imp (h.run s0 t ht) fun σ H D z q en => ?_⟩
  obtain ⟨g, ρ, S, fx, o, em, post⟩ := q en
  refine ⟨g, ρ, S, fx, o, em, ?_⟩
  cases o with
  | nx ρ' => exact (hk ρ ρ' em).elim
  | rt d ρ' => exact post
def sNil : SM := fun ρ => some (.nx ρ)
def sSeq (a b : SM) : SM := fun ρ => match a ρ with
  | some (.nx ρ1) => b ρ1
  | x => x
theorem sSeq_some {a b : SM} {ρ : DE} {o : Out} (h : sSeq a b ρ = some o) : (∃ ρ1, a ρ = some (.nx ρ1) ∧ b ρ1 = some o) ∨ (∃ d ρ1, a ρ = some (.rt d ρ1) ∧ o = .rt d ρ1) := by
  unfold sSeq at h
  split at h
  · exact .inl ⟨_, by assumption, h⟩
  · cases o with
    | nx ρ' => rename_i hh; exact (hh _ h).elim
    | rt d ρ' => exact .inr ⟨d, ρ', h, rfl⟩
theorem jb_nil : JB X κ [] sNil κ rc := by
  refine ⟨fun s0 t ht => PSs.imp pss_nil fun σ H D z q => ?_⟩
  obtain ⟨g, ρ, S, fx, o, em, post⟩ := q z
  cases em
  exact post σ H g S Pres.refl fx
theorem jb_one {st : Stmt} {m : SM} (h : JS X κ st m κ1 rc) : JB X κ [st] m κ1 rc := ⟨fun s0 t ht => pss_one (h.run s0 t ht)⟩
theorem jb_cons {st : Stmt} {rest : List Stmt} {a b : SM} (ha : JS X κ st a κ1 rc) (hb : JB X κ1 rest b κ2 rc) : JB X κ (st :: rest) (sSeq a b) κ2 rc := by
  refine ⟨fun s0 t ht => PSs.imp (pss_cons (ha.run s0 t ht) (hb.run s0 t ht)) fun σ H D z q en => ?_⟩
  obtain ⟨g, ρ, S, fx, o, em, post⟩ := q z
  rcases sSeq_some em with ⟨ρ1, e1, e2⟩ | ⟨d, ρ1, e1, rfl⟩
  · exact ⟨g, ρ, S, fx, _, e1, fun σ' H' g' S' P' F' en' => ⟨g', ρ1, S', F', o, e2, post.pre P'⟩⟩
  · exact ⟨g, ρ, S, fx, _, e1, post⟩
/-! ### moving a row's tree to a place -/
def mvG (t i : Nat) (s : List Nat) (dr : Nat → List Nat → Bool) (g : G) : G := fun a => match g a with
  | .ow r q => if r = t then .ow i (q ++ s) else if dr r q = true then .un else .ow r q
  | z => z
section
variable {t i : Nat} {s : List Nat} {dr : Nat → List Nat → Bool} {g : G} {a : Addr}
theorem mvG_fz (h : g a = .fz) : mvG t i s dr g a = .fz := by unfold mvG; rw [h]
theorem mvG_un (h : g a = .un) : mvG t i s dr g a = .un := by unfold mvG; rw [h]
theorem mvG_t {q : List Nat} (h : g a = .ow t q) : mvG t i s dr g a = .ow i (q ++ s) := by unfold mvG; rw [h]; simp
theorem mvG_o {r : Nat} {q : List Nat} (hr : r ≠ t) (hd : dr r q = false) (h : g a = .ow r q) : mvG t i s dr g a = .ow r q := by unfold mvG; rw [h]; simp [hr, hd]
theorem mvG_ne (h : mvG t i s dr g a ≠ .un) : g a ≠ .un := fun z => h (mvG_un z)
theorem mvG_inv {r : Nat} {q : List Nat} (hr : r ≠ i) (h : mvG t i s dr g a = .ow r q) : g a = .ow r q := by
  unfold mvG at h
  split at h
  · rename_i r' q' e
    split at h
    · cases h; exact (hr rfl).elim
    · split at h
      · cases h
      · cases h; exact e
  · exact h
end
/-- the frame of a change at one slot's object -/
theorem Pres.mv {n t i : Nat} {s : List Nat} {dr : Nat → List Nat → Bool} {g : G} {H H' : Hp} (hi : i < n) (hd : ∀ r q, n ≤ r → dr r q = false) (ht : ∀ r, r ≠ t → n ≤ r → True)
    (keep : ∀ a, (∀ q, g a ≠ .ow i q) → H a ≠ none → H' a = H a) (gok : ∀ a, g a ≠ .un → H a ≠ none) (st : ∀ a o, H a = some o → stb o = true → H' a = some o) : Pres n t g H (mvG t i s dr g) H' where
  fz := fun a h => ⟨mvG_fz h, keep a (fun q e => by rw [h] at e; cases e) (gok a (by rw [h]; simp))⟩
  un := fun a h hn => ⟨mvG_un h, keep a (fun q e => by rw [h] at e; cases e) hn⟩
  tp := fun a r p h1 h2 h => ⟨mvG_o (by omega) (hd r p h1) h, keep a (fun q e => by rw [h] at e; cases e; omega) (gok a (by rw [h]; simp))⟩
  tm := fun a r p h1 h2 h => mvG_inv (by omega) h
  tu := st
theorem set_some {α : Type} {l : List α} {i : Nat} {x : α} {j : Nat} {y : α} (h : (l.set i x)[j]? = some y) : (j = i ∧ y = x ∧ i < l.length) ∨ (j ≠ i ∧ l[j]? = some y) := by
  rw [List.getElem?_set] at h
  by_cases e : i = j
  · subst e
    split at h
    · split at h
      · cases h; exact .inl ⟨rfl, rfl, by assumption⟩
      · cases h
    · rename_i hh; exact (hh rfl).elim
  · rw [if_neg e] at h
    exact .inr ⟨fun z => e z.symm, h⟩
/-- a slot takes a row's tree -/
theorem Sok.store {ρ : DE} {g : G} {σ : L2.St} {H : Hp} {t i k : Nat} {d : D} {v : V} (S : Sok K κ ρ g σ H) (ht : σ.length ≤ t) (hi : i < σ.length) (o : Own K H g d k t [] v) :
    Sok K (κ.set i (some k)) (ρ.set i (some d)) (mvG t i [] (fun r _ => decide (r = i)) g) (σ.set i (some v)) H where
  ok := fun j k' d' h1 h2 => by
    rcases set_some h1 with ⟨rfl, e, _⟩ | ⟨hj, h1⟩
    · cases e
      rcases set_some h2 with ⟨_, e, _⟩ | ⟨hh, _⟩
      · cases e
        refine ⟨v, List.getElem?_set_self hi, own_conv (fun _ _ z _ => z) d (.inr fun a z => ⟨mvG_fz z, rfl⟩) (fun a q z hh => ⟨rfl, ?_⟩) (fun _ z => z) o⟩
        rw [if_pos hh, mvG_t z]
        simp
      · exact (hh rfl).elim
    · rcases set_some h2 with ⟨e, _, _⟩ | ⟨_, h2⟩
      · exact (hj e).elim
      · obtain ⟨v', es, o'⟩ := S.ok j k' d' h1 h2
        have hjt : j < t := by
          have := (List.getElem?_eq_some_iff.mp es).1
          omega
        refine ⟨v', by rw [List.getElem?_set_ne (Ne.symm hj)]; exact es, own_conv (fun _ _ z _ => z) d' (.inr fun a z => ⟨mvG_fz z, rfl⟩) (fun a q z hh => ⟨rfl, ?_⟩) (fun _ z => z) o'⟩
        rw [if_pos hh]
        exact mvG_o (by omega) (by simpa using hj) z
  gok := fun a h => S.gok a (mvG_ne h)
  len := by simp [S.len]
  lek := by simp [S.lek]
theorem Pres.store {n t i : Nat} {g : G} {H : Hp} (hi : i < n) (gok : ∀ a, g a ≠ .un → H a ≠ none) : Pres n t g H (mvG t i [] (fun r _ => decide (r = i)) g) H :=
  Pres.mv hi (fun r q h => by simp; omega) (fun _ _ _ => trivial) (fun _ _ _ => rfl) gok fun _ _ h _ => h
/-- name = value -/
def sAsg (i : Nat) (m : M) : SM := fun ρ => (m ρ).map fun x => .nx (x.2.set i (some x.1))
theorem sAsg_some {i : Nat} {m : M} {ρ : DE} {o : Out} (h : sAsg i m ρ = some o) : ∃ d ρ1, m ρ = some (d, ρ1) ∧ o = .nx (ρ1.set i (some d)) := by
  unfold sAsg at h
  cases e : m ρ with
  | none => rw [e] at h; cases h
  | some p => rw [e] at h; cases h; exact ⟨p.1, p.2, rfl, rfl⟩
def notFx (rc : RC) (i : Nat) : Bool := match rc.κr[i]? with
  | some (some _) => false
  | _ => true
theorem Fx.set {s0 σ : L2.St} {i : Nat} {x : Option V} (h : Fx rc s0 σ) (hi : notFx rc i = true) : Fx rc s0 (σ.set i x) := fun j k e => by
  have hj : i ≠ j := by
    rintro rfl
    unfold notFx at hi
    rw [e] at hi
    cases hi
  rw [List.getElem?_set_ne hj]
  exact h j k e
theorem js_asgG {st : Stmt} {e : Expr} {m : M} {k i : Nat} {pu : Bool} (h : J X κ e m (.own k) κ1 pu) (mk : ∀ {te : TE}, PE X e te → PS X st (tAsg te (gName i))) (hi : i < X.N.length) (hf : notFx rc i = true) : JS X κ st (sAsg i m) (κ1.set i (some k)) rc := by
  refine ⟨fun s0 t ht => PS.imp (mk (h.run t ht)) fun σ H D z q en => ?_⟩
  obtain ⟨g, ρ, S, fx, o, em, post⟩ := q z
  obtain ⟨d, ρ1, e1, rfl⟩ := sAsg_some em
  refine ⟨g, ρ, S, d, ρ1, e1, fun v H' g' S' P' s' r' => ?_⟩
  have hl : σ.length = X.N.length := en.2
  exact post _ H' _ (S'.store (by omega) (by omega) r') (P'.trans (Pres.store hi S'.gok)) (fx.set hf)
theorem js_set {i : Nat} {x : Str} {e : Expr} {pos' : Pos} {m : M} {k : Nat} {pu : Bool} (h : J X κ e m (.own k) κ1 pu) (hN : X.N.Nodup) (hi : X.N[i]? = some x) (hx : Loc X.env.scope x) (hs : swapsWith e (some (.Name x pos')) pos.line X.env = pure false)
    (hf : X.fn x = true ∨ X.env.scope.names.lookup x = some .local) (hfx : notFx rc i = true) : JS X κ (.Assign [.Name x pos'] e pos) (sAsg i m) (κ1.set i (some k)) rc :=
  js_asgG h (fun he => ps_set hN hi hx he hs hf) (List.getElem?_eq_some_iff.mp hi).1 hfx
/-- an expression for its effect -/
def sExp (m : M) : SM := fun ρ => (m ρ).map fun x => .nx x.2
theorem sExp_some {m : M} {ρ : DE} {o : Out} (h : sExp m ρ = some o) : ∃ d ρ1, m ρ = some (d, ρ1) ∧ o = .nx ρ1 := by
  unfold sExp at h
  cases e : m ρ with
  | none => rw [e] at h; cases h
  | some p => rw [e] at h; cases h; exact ⟨p.1, p.2, rfl, rfl⟩
theorem js_exp {e : Expr} {m : M} {rz : Rz} {pu : Bool} (h : J X κ e m rz κ1 pu) (hs : swapsWith e none pos.line X.env = pure false) : JS X κ (.Expr e pos) (sExp m) κ1 rc := by
  refine ⟨fun s0 t ht => PS.imp (ps_expr (h.run t ht) hs) fun σ H D z q en => ?_⟩
  obtain ⟨g, ρ, S, fx, o, em, post⟩ := q z
  obtain ⟨d, ρ1, e1, rfl⟩ := sExp_some em
  exact ⟨g, ρ, S, d, ρ1, e1, fun v H' g' S' P' s' r' => post _ H' _ S' P' fx⟩
/-- return -/
def sRet (m : M) : SM := fun ρ => (m ρ).map fun x => .rt x.1 x.2
theorem sRet_some {m : M} {ρ : DE} {o : Out} (h : sRet m ρ = some o) : ∃ d ρ1, m ρ = some (d, ρ1) ∧ o = .rt d ρ1 := by
  unfold sRet at h
  cases e : m ρ with
  | none => rw [e] at h; cases h
  | some p => rw [e] at h; cases h; exact ⟨p.1, p.2, rfl, rfl⟩
theorem js_ret {e : Expr} {m : M} {pu : Bool} {κn : OE} (h : J X κ e m (.own rc.r) κ1 pu) (hl : leO rc.κr κ1 = true) (hn : rc.κr.length = X.N.length) : JS X κ (.Return (some e) pos) (sRet m) κn rc := by
  refine ⟨fun s0 t ht => PS.imp (ps_ret ((h.weak hl hn).run t ht)) fun σ H D z q en => ?_⟩
  obtain ⟨g, ρ, S, fx, o, em, post⟩ := q z
  obtain ⟨d, ρ1, e1, rfl⟩ := sRet_some em
  exact ⟨g, ρ, S, d, ρ1, e1, fun v H' g' S' P' s' r' => post v σ H' g' t ht S' P' fx r'⟩
def sRetN : SM := fun ρ => some (.rt .non ρ)
theorem js_retN {κn : OE} (hl : leO rc.κr κ = true) (hn : rc.κr.length = X.N.length) : JS X κ (.Return none pos) sRetN κn rc := by
  refine ⟨fun s0 t ht => PS.imp ps_retN fun σ H D z q => ?_⟩
  obtain ⟨g, ρ, S, fx, o, em, post⟩ := q z
  cases em
  exact post .non σ H (wk rc.κr g) t ht (S.weaken hl) (Pres.weaken hn) fx rfl
theorem js_pass : JS X κ (.Pass pos) sNil κ rc := by
  refine ⟨fun s0 t ht => PS.imp ps_pass fun σ H D z q => ?_⟩
  obtain ⟨g, ρ, S, fx, o, em, post⟩ := q z
  cases em
  exact post σ H g S Pres.refl fx
/-- if -/
def sIf (c : M) (a b : SM) : SM := fun ρ => match c ρ with
  | some (.bl true, ρ1) => a ρ1
  | some (.bl false, ρ1) => b ρ1
  | _ => none
theorem sIf_some {c : M} {a b : SM} {ρ : DE} {o : Out} (h : sIf c a b ρ = some o) : ∃ k ρ1, c ρ = some (.bl k, ρ1) ∧ ((k = true ∧ a ρ1 = some o) ∨ (k = false ∧ b ρ1 = some o)) := by
  unfold sIf at h
  split at h
  · exact ⟨true, _, by assumption, .inl ⟨rfl, h⟩⟩
  · exact ⟨false, _, by assumption, .inr ⟨rfl, h⟩⟩
  · cases h
theorem js_if {c : Expr} {a b : List Stmt} {mc : M} {ma mb : SM} {pc : Bool} (hc : JT X κ c mc κ1 pc) (ha : JB X κ1 a ma κ2 rc) (hb : JB X κ1 b mb κ2 rc) : JS X κ (.If c a b pos) (sIf mc ma mb) κ2 rc := by
  refine ⟨fun s0 t ht => PS.imp (ps_if (hc.run t ht) (ha.run s0 t ht) (hb.run s0 t ht)) fun σ H D z q => ?_⟩
  obtain ⟨g, ρ, S, fx, o, em, post⟩ := q z
  obtain ⟨k, ρ1, e1, e2⟩ := sIf_some em
  refine fun _ => ⟨g, ρ, S, k, ρ1, e1, fun H1 g1 S1 P1 s1 => ?_⟩
  rcases e2 with ⟨rfl, e2⟩ | ⟨rfl, e2⟩
  · exact iteT fun _ => ⟨g1, ρ1, S1, fx, o, e2, post.pre P1⟩
  · exact iteF fun _ => ⟨g1, ρ1, S1, fx, o, e2, post.pre P1⟩
/-- while -/
def itW (mc : M) (mb : SM) : Nat → SM
  | 0, _ => none
  | n + 1, ρ => match mc ρ with
    | some (.bl true, ρ1) => (match mb ρ1 with
      | some (.nx ρ2) => itW mc mb n ρ2
      | x => x)
    | some (.bl false, ρ1) => some (.nx ρ1)
    | _ => none
def sWhile (mc : M) (mb : SM) : SM := itW mc mb 100000
theorem js_while {c : Expr} {b : List Stmt} {mc : M} {mb : SM} {pc : Bool} (hp : PassesOwn (model X.prog X.w) X.A X.env X.xe) (hc : JT X κ c mc κ1 pc) (hb : JB X κ1 b mb κ rc) : JS X κ (.While c b [] pos) (sWhile mc mb) κ1 rc := by
  refine ⟨fun s0 t ht => PS.imp (ps_while hp (hc.run t ht) (hb.run s0 t ht)) fun σ H D z q => ?_⟩
  obtain ⟨g, ρ, S, fx, o, em, post⟩ := q z
  refine ⟨fun m σ' H' => ∃ g' ρ', Sok X.K κ ρ' g' σ' H' ∧ Fx rc s0 σ' ∧ itW mc mb m ρ' = some o ∧ Pres X.N.length t g H g' H', ⟨100000, g, ρ, S, fx, em, Pres.refl⟩, ?_⟩
  rintro m σ1 H1 ⟨g1, ρ1, S1, fx1, e, P1⟩ _
  cases m with
  | zero => cases e
  | succ m =>
    have post1 := post.pre P1
    simp only [itW] at e
    split at e
    · rename_i ρ2 ec
      refine ⟨g1, ρ1, S1, true, ρ2, ec, fun H2 g2 S2 P2 s2 => iteT ⟨fun σ' H' => ∃ g' ρ', Sok X.K κ ρ' g' σ' H' ∧ Fx rc s0 σ' ∧ itW mc mb m ρ' = some o ∧ Pres X.N.length t g H g' H', fun σ' H' hh => ⟨m, by omega, hh⟩, fun _ => ?_⟩⟩
      split at e
      · rename_i ρ3 eb
        exact ⟨g2, ρ2, S2, fx1, _, eb, fun σ' H' g' S' P' F' => ⟨g', ρ3, S', F', e, P1.trans (P2.trans P')⟩⟩
      · cases o with
        | nx ρ' => rename_i hh; exact (hh _ e).elim
        | rt d ρ' => exact ⟨g2, ρ2, S2, fx1, _, e, post1.pre P2⟩
    · rename_i ρ2 ec
      cases e
      exact ⟨g1, ρ1, S1, false, ρ2, ec, fun H2 g2 S2 P2 s2 => iteF (post1 σ1 H2 g2 S2 P2 fx1)⟩
    · cases e
end VS
namespace VS
open PySem PySem.Spec PyProof.Rows L2
variable {K : PySem.W.Frag} {X : Cx} {κ κ1 κ2 κ3 : OE} {pos : Pos} {rc : RC}
/-! ### what is walked: the items, frozen -/
abbrev Src := G → Hp → Prop
structure Dlv (K : PySem.W.Frag) (J0 : It) (src : Src) (ds : List D) : Prop where
  go : ∀ i g H, src g H → i < ds.length → J0.go i H
  stop : ∀ i g H, src g H → ds.length ≤ i → J0.stop i H
  yld : ∀ i g H x H' d, src g H → (∀ a, g a ≠ .un → H a ≠ none) → J0.yld i H x H' → ds[i]? = some d → Same H H' ∧ Own K H' g d 0 0 [] x
  keep : ∀ g H g' H', src g H → (∀ a, g a = .fz → g' a = .fz ∧ H' a = H a) → (∀ a o, H a = some o → stb o = true → H' a = some o) → src g' H'
theorem own_fz {H H' : Hp} {g g' : G} {d : D} {r r' : Nat} {p p' : List Nat} {v : V} (hf : ∀ a, g a = .fz → g' a = .fz ∧ H' a = H a) (ht : ∀ a o, H a = some o → stb o = true → H' a = some o) (o : Own K H g d 0 r p v) : Own K H' g' d 0 r' p' v :=
  own_conv ht d (.inr hf) (fun a q e hh => by simp [has] at hh) (fun _ z => z) o
theorem ownL_fz {H H' : Hp} {g g' : G} {r r' : Nat} {p p' : List Nat} (hf : ∀ a, g a = .fz → g' a = .fz ∧ H' a = H a) (ht : ∀ a o, H a = some o → stb o = true → H' a = some o) : ∀ {ds : List D} {i j : Nat} {vs : List V},
    OwnL K H g ds 0 r p i vs → OwnL K H' g' ds 0 r' p' j vs
  | [], _, _, _, h => h
  | d :: ds, _, _, _, h => by
    obtain ⟨v, w, e, h1, h2⟩ := h
    exact ⟨v, w, e, own_fz hf ht h1, ownL_fz hf ht h2⟩
/-- a frozen list at a, its items -/
def FzL (K : PySem.W.Frag) (a : Addr) (ds : List D) : Src := fun g H => ∃ vs, H a = some (.lst vs) ∧ g a = .fz ∧ OwnL K H g ds 0 0 [] 0 vs
def FzT (K : PySem.W.Frag) (a : Addr) (ds : List D) : Src := fun g H => ∃ vs, H a = some (.tup vs) ∧ OwnL K H g ds 0 0 [] 0 vs
theorem FzL.keep {a : Addr} {ds : List D} {g g' : G} {H H' : Hp} (h : FzL K a ds g H) (hf : ∀ a, g a = .fz → g' a = .fz ∧ H' a = H a) (ht : ∀ a o, H a = some o → stb o = true → H' a = some o) : FzL K a ds g' H' := by
  obtain ⟨vs, h1, h2, h3⟩ := h
  exact ⟨vs, by rw [(hf a h2).2]; exact h1, (hf a h2).1, ownL_fz hf ht h3⟩
theorem FzT.keep {a : Addr} {ds : List D} {g g' : G} {H H' : Hp} (h : FzT K a ds g H) (hf : ∀ a, g a = .fz → g' a = .fz ∧ H' a = H a) (ht : ∀ a o, H a = some o → stb o = true → H' a = some o) : FzT K a ds g' H' := by
  obtain ⟨vs, h1, h3⟩ := h
  exact ⟨vs, ht _ _ h1 rfl, ownL_fz hf ht h3⟩
theorem ownL_len {H : Hp} {g : G} {k r : Nat} {p : List Nat} {i : Nat} {ds : List D} {vs : List V} (h : OwnL K H g ds k r p i vs) : vs.length = ds.length := repL_len (ownL_repL ds h)
theorem ownL_at {H : Hp} {g : G} {ds : List D} {vs : List V} (h : OwnL K H g ds 0 0 [] 0 vs) {i : Nat} {d : D} {v : V} (e : ds[i]? = some d) (ev : vs[i]? = some v) : Own K H g d 0 0 [] v := by
  obtain ⟨v', e', o⟩ := ownL_get h e
  rw [ev] at e'
  cases e'
  exact own_fz (fun a z => ⟨z, rfl⟩) (fun _ _ z _ => z) o
theorem ex_at {α : Type} {xs : List α} {i : Nat} (h : i < xs.length) : ∃ x, xs[i]? = some x := ⟨xs[i], List.getElem?_eq_getElem h⟩
theorem dlv_list {a : Addr} {ds : List D} : Dlv K (Itl K a) (FzL K a ds) ds where
  go := fun i g H ⟨vs, h1, _, h3⟩ hi => by
    obtain ⟨x, e⟩ := ex_at (xs := vs) (by rw [ownL_len h3]; exact hi)
    exact ⟨vs, x, SqL.of h1, e⟩
  stop := fun i g H ⟨vs, h1, _, h3⟩ hi => ⟨vs, SqL.of h1, by rw [ownL_len h3]; exact hi⟩
  yld := fun i g H x H' d ⟨vs, h1, _, h3⟩ gok y e => by
    obtain ⟨rfl, y⟩ := y
    exact ⟨Same.refl _, ownL_at h3 e (y vs (SqL.of h1))⟩
  keep := fun g H g' H' h => h.keep
theorem dlv_tup {a : Addr} {ds : List D} : Dlv K (Itt K a) (FzT K a ds) ds where
  go := fun i g H ⟨vs, h1, h3⟩ hi => by
    obtain ⟨x, e⟩ := ex_at (xs := vs) (by rw [ownL_len h3]; exact hi)
    exact ⟨vs, x, SqT.of h1, e⟩
  stop := fun i g H ⟨vs, h1, h3⟩ hi => ⟨vs, SqT.of h1, by rw [ownL_len h3]; exact hi⟩
  yld := fun i g H x H' d ⟨vs, h1, h3⟩ gok y e => by
    obtain ⟨rfl, y⟩ := y
    exact ⟨Same.refl _, ownL_at h3 e (y vs (SqT.of h1))⟩
  keep := fun g H g' H' h => h.keep
def rngD (lo : Int) (n : Nat) : List D := (List.range n).map fun i => .int (lo + (i : Nat))
theorem dlv_range {lo : Int} {n : Nat} : Dlv K (Itr lo n) (fun _ _ => True) (rngD lo n) where
  go := fun i g H _ hi => by
    rw [show (rngD lo n).length = n by simp [rngD]] at hi
    exact hi
  stop := fun i g H _ hi => by
    rw [show (rngD lo n).length = n by simp [rngD]] at hi
    exact hi
  yld := fun i g H x H' d _ gok y e => by
    obtain ⟨rfl, rfl⟩ := y
    unfold rngD at e
    rw [List.getElem?_map] at e
    cases q : (List.range n)[i]? with
    | none => rw [q] at e; cases e
    | some j =>
      rw [q] at e
      cases e
      have : j = i := by
        rw [List.getElem?_eq_some_iff] at q
        obtain ⟨h, e⟩ := q
        simpa using e.symm
      subst this
      exact ⟨Same.refl _, rfl⟩
  keep := fun _ _ _ _ _ _ _ => trivial
def enumD (ds : List D) : List D := (List.range ds.length).zipWith (fun i d => .tup [.int (i : Nat), d]) ds
theorem enumD_get {ds : List D} {i : Nat} {d : D} (e : (enumD ds)[i]? = some d) : ∃ x, ds[i]? = some x ∧ d = .tup [.int (i : Nat), x] := by
  unfold enumD at e
  rw [List.getElem?_zipWith] at e
  cases q : (List.range ds.length)[i]? with
  | none => rw [q] at e; simp at e
  | some j =>
    rw [q] at e
    cases q2 : ds[i]? with
    | none => rw [q2] at e; simp at e
    | some x =>
      rw [q2] at e
      simp only [Option.some.injEq] at e
      have : j = i := by
        rw [List.getElem?_eq_some_iff] at q
        obtain ⟨h, e⟩ := q
        simpa using e.symm
      subst this
      exact ⟨x, rfl, e.symm⟩
theorem enumD_len (ds : List D) : (enumD ds).length = ds.length := by simp [enumD]
theorem own_new {H : Hp} {g : G} {d : D} {r r' : Nat} {p p' : List Nat} {v : V} {T : Addr} {o : HO} (gok : ∀ a, g a ≠ .un → H a ≠ none) (nT : H T = none) (h : Own K H g d 0 r p v) : Own K (upd H T o) g d 0 r' p' v :=
  own_fz (fun a e => ⟨e, upd_ne (fun z => gok a (by rw [e]; simp) (z ▸ nT))⟩) (fun a u e _ => by rw [upd_ne (ne_of_none e nT)]; exact e) h
theorem dlv_enum {a : Addr} {ds : List D} : Dlv K (Ite K a) (FzL K a ds) (enumD ds) where
  go := fun i g H ⟨vs, h1, _, h3⟩ hi => by
    obtain ⟨x, e⟩ := ex_at (xs := vs) (i := i) (by rw [ownL_len h3, ← enumD_len]; exact hi)
    exact ⟨vs, x, SqL.of h1, e⟩
  stop := fun i g H ⟨vs, h1, _, h3⟩ hi => ⟨vs, SqL.of h1, by rw [ownL_len h3, ← enumD_len]; exact hi⟩
  yld := fun i g H x H' d ⟨vs, h1, _, h3⟩ gok y e => by
    obtain ⟨T, w, rfl, nT, rfl, y⟩ := y
    obtain ⟨z, e1, rfl⟩ := enumD_get e
    have s := same_new (o := .tup [.int (i : Nat), w]) nT
    exact ⟨s, T, _, rfl, upd_same, .int i, [w], rfl, rfl, w, [], rfl, own_new gok nT (ownL_at h3 e1 (y vs (SqL.of h1))), rfl⟩
  keep := fun g H g' H' h => h.keep
def zipD (ds es : List D) : List D := ds.zipWith (fun x y => .tup [x, y]) es
theorem zipD_get {ds es : List D} {i : Nat} {d : D} (e : (zipD ds es)[i]? = some d) : ∃ x y, ds[i]? = some x ∧ es[i]? = some y ∧ d = .tup [x, y] := by
  unfold zipD at e
  rw [List.getElem?_zipWith] at e
  cases q : ds[i]? with
  | none => rw [q] at e; simp at e
  | some x =>
    cases q2 : es[i]? with
    | none => rw [q, q2] at e; simp at e
    | some y =>
      rw [q, q2] at e
      simp only [Option.some.injEq] at e
      exact ⟨x, y, rfl, rfl, e.symm⟩
theorem zipD_len (ds es : List D) : (zipD ds es).length = min ds.length es.length := by simp [zipD]
theorem dlv_zip {a b : Addr} {ds es : List D} : Dlv K (Itz K a b) (fun g H => FzL K a ds g H ∧ FzL K b es g H) (zipD ds es) where
  go := fun i g H ⟨⟨vs, h1, _, h3⟩, ⟨ws, k1, _, k3⟩⟩ hi => by
    rw [zipD_len] at hi
    obtain ⟨x, e⟩ := ex_at (xs := vs) (i := i) (by rw [ownL_len h3]; omega)
    obtain ⟨y, f⟩ := ex_at (xs := ws) (i := i) (by rw [ownL_len k3]; omega)
    exact ⟨vs, ws, x, y, SqL.of h1, SqL.of k1, e, f⟩
  stop := fun i g H ⟨⟨vs, h1, _, h3⟩, ⟨ws, k1, _, k3⟩⟩ hi => by
    rw [zipD_len] at hi
    exact ⟨vs, ws, SqL.of h1, SqL.of k1, by rw [ownL_len h3, ownL_len k3]; omega⟩
  yld := fun i g H x H' d ⟨⟨vs, h1, _, h3⟩, ⟨ws, k1, _, k3⟩⟩ gok y e => by
    obtain ⟨T, w1, w2, rfl, nT, rfl, y1, y2⟩ := y
    obtain ⟨z1, z2, e1, e2, rfl⟩ := zipD_get e
    exact ⟨same_new nT, T, _, rfl, upd_same, w1, [w2], rfl, own_new gok nT (ownL_at h3 e1 (y1 vs (SqL.of h1))), w2, [], rfl, own_new gok nT (ownL_at k3 e2 (y2 ws (SqL.of k1))), rfl⟩
  keep := fun g H g' H' h hf ht => ⟨h.1.keep hf ht, h.2.keep hf ht⟩
theorem dlv_zipT {a b : Addr} {ds es : List D} : Dlv K (RZ.ItzT K a b) (fun g H => FzT K a ds g H ∧ FzT K b es g H) (zipD ds es) where
  go := fun i g H ⟨⟨vs, h1, h3⟩, ⟨ws, k1, k3⟩⟩ hi => by
    rw [zipD_len] at hi
    obtain ⟨x, e⟩ := ex_at (xs := vs) (i := i) (by rw [ownL_len h3]; omega)
    obtain ⟨y, f⟩ := ex_at (xs := ws) (i := i) (by rw [ownL_len k3]; omega)
    exact ⟨vs, ws, x, y, SqT.of h1, SqT.of k1, e, f⟩
  stop := fun i g H ⟨⟨vs, h1, h3⟩, ⟨ws, k1, k3⟩⟩ hi => by
    rw [zipD_len] at hi
    exact ⟨vs, ws, SqT.of h1, SqT.of k1, by rw [ownL_len h3, ownL_len k3]; omega⟩
  yld := fun i g H x H' d ⟨⟨vs, h1, h3⟩, ⟨ws, k1, k3⟩⟩ gok y e => by
    obtain ⟨T, w1, w2, rfl, nT, rfl, y1, y2⟩ := y
    obtain ⟨z1, z2, e1, e2, rfl⟩ := zipD_get e
    exact ⟨same_new nT, T, _, rfl, upd_same, w1, [w2], rfl, own_new gok nT (ownL_at h3 e1 (y1 vs (SqT.of h1))), w2, [], rfl, own_new gok nT (ownL_at k3 e2 (y2 ws (SqT.of k1))), rfl⟩
  keep := fun g H g' H' h hf ht => ⟨h.1.keep hf ht, h.2.keep hf ht⟩
/-! ### what a for walks -/
structure JI (X : Cx) (κ : OE) (tg iter : Expr) (m : ML) (κ' : OE) (pu : Bool) : Prop where
  run : ∀ t, X.N.length ≤ t → PI X tg iter (fun σ H R => En X.N.length σ H → ∃ g ρ, Sok X.K κ ρ g σ H ∧ ∃ ds ρ', m ρ = some (ds, ρ') ∧
    ∀ J0 src H' g', Sok X.K κ' ρ' g' σ H' → Pres X.N.length t g H g' H' → (pu = true → Same H H') → Dlv X.K J0 src ds → src g' H' → R J0 H')
  pur : pu = true → ∀ ρ ds ρ', m ρ = some (ds, ρ') → ρ' = ρ
theorem PI.imp {tg iter : Expr} {w w' : TI} (h : PI X tg iter w) (f : ∀ σ H R, En X.N.length σ H → w' σ H R → w σ H R) : PI X tg iter w' :=
  ⟨fun pins s σ H R I q => h.run pins s σ H R I (f σ H R ⟨Inv.sz I, I.len⟩ q)⟩
/-- a list or a tuple that is walked -/
def iSeq (K : PySem.W.Frag) (tl : TE) : TI := fun σ H R => tl σ H fun x H1 => ∃ a, x = .ref a ∧ (((∃ xs, SqL K H1 a xs) ∧ R (Itl K a) H1) ∨ ((∃ xs, SqT K H1 a xs) ∧ R (Itt K a) H1))
theorem pi_seq {tg l : Expr} {tl : TE} (hl : PE X l tl) : PI X tg l (iSeq X.K tl) := ⟨fun pins s σ H R I h => thn (hl.run pins s σ H _ I h) fun v s1 q1 => by
  obtain ⟨x, H1, I1, r1, a, rfl, q⟩ := q1
  cases r1
  have nw : ∀ b ∈ [s1.heap.objs.size], FpOk X pins H1 b := fun b hb => by
    rw [List.mem_singleton.mp hb]
    exact I1.fpOk (Nat.le_refl _) (I1.hok.fresh (Nat.le_refl _))
  rcases q with ⟨⟨xs, hq⟩, q⟩ | ⟨⟨xs, hq⟩, q⟩
  · obtain ⟨us, _, pl, _⟩ := I1.list hq
    exact wpAny_pyIter_list pl.isList ⟨_, _, _, _, H1, rfl, I1.kept (t' := s1.toks) fun _ _ z => Heap.get?_push_of_some _ z, turn_list a _, ⟨_, Heap.get?_push_size _ rfl, rfl, rfl⟩, nw, q⟩
  · obtain ⟨us, _, pl, _⟩ := I1.tuple hq
    exact wpAny_pyIter_tuple (show s1.heap.IsTuple a us.toArray from pl) ⟨_, _, _, _, H1, rfl, I1.kept (t' := s1.toks) fun _ _ z => Heap.get?_push_of_some _ z, turn_tuple a _, ⟨_, Heap.get?_push_size _ rfl, rfl, rfl⟩, nw, q⟩⟩
def seqOf : D → Option (List D)
  | .lst xs => some xs
  | .tup xs => some xs
  | _ => none
def mSeq (m : M) : ML := fun ρ => (m ρ).bind fun x => (seqOf x.1).map fun ds => (ds, x.2)
theorem mSeq_some' {m : M} {ρ ρ' : DE} {ds : List D} (h : mSeq m ρ = some (ds, ρ')) : ∃ x, m ρ = some (x, ρ') ∧ (x = .lst ds ∨ x = .tup ds) := by
  unfold mSeq at h
  cases e : m ρ with
  | none => rw [e] at h; cases h
  | some p =>
    rw [e] at h
    simp only [Option.bind_some] at h
    cases e2 : seqOf p.1 with
    | none => rw [e2] at h; cases h
    | some b =>
      rw [e2] at h
      cases h
      refine ⟨p.1, rfl, ?_⟩
      unfold seqOf at e2
      split at e2
      · cases e2; left; assumption
      · cases e2; right; assumption
      · cases e2
theorem own_src {H : Hp} {g : G} {x : D} {ds : List D} {v : V} {r : Nat} {p : List Nat} (o : Own K H g x 0 r p v) (e : x = .lst ds ∨ x = .tup ds) : ∃ a, v = .ref a ∧ ((x = .lst ds ∧ FzL K a ds g H) ∨ (x = .tup ds ∧ FzT K a ds g H)) := by
  have o' : Own K H g x 0 0 [] v := own_fz (fun a z => ⟨z, rfl⟩) (fun _ _ z _ => z) o
  rcases e with rfl | rfl
  · obtain ⟨a, vs, rfl, ha, hg, hl⟩ := o'
    exact ⟨a, rfl, .inl ⟨rfl, vs, ha, hg, hl⟩⟩
  · obtain ⟨a, vs, rfl, ha, hl⟩ := o'
    exact ⟨a, rfl, .inr ⟨rfl, vs, ha, hl⟩⟩
theorem ji_seq {tg l : Expr} {m : M} {pu : Bool} (h : J X κ l m (.own 0) κ1 pu) : JI X κ tg l (mSeq m) κ1 pu := by
  refine ⟨fun t ht => PI.imp (pi_seq (h.run t ht)) fun σ H R z q => ?_, fun hp ρ d ρ' e => by
    obtain ⟨x, e1, _⟩ := mSeq_some' e
    exact h.pur hp _ _ _ e1⟩
  obtain ⟨g, ρ, S, ds, ρ', em, post⟩ := q z
  obtain ⟨x, e1, e2⟩ := mSeq_some' em
  refine fun _ => ⟨g, ρ, S, x, ρ', e1, fun v H' g' S' P' s' r' => ?_⟩
  obtain ⟨a, rfl, hx⟩ := own_src r' e2
  refine ⟨a, rfl, ?_⟩
  rcases hx with ⟨_, f⟩ | ⟨_, f⟩
  · obtain ⟨vs, h1, h2, h3⟩ := id f
    exact .inl ⟨⟨vs, SqL.of h1⟩, post _ _ H' g' S' P' s' dlv_list f⟩
  · obtain ⟨vs, h1, h3⟩ := id f
    exact .inr ⟨⟨vs, SqT.of h1⟩, post _ _ H' g' S' P' s' dlv_tup f⟩
def lim62 (i : Int) : Bool := decide (i.natAbs < 4611686018427387904)
theorem lim62_ok {i : Int} (h : lim62 i = true) : -(2 ^ 62) ≤ i ∧ i < 2 ^ 62 := by
  unfold lim62 at h
  simp only [decide_eq_true_eq] at h
  omega
theorem lim62_of {i : Int} (h1 : -4000000000000000000 < i) (h2 : i < 4000000000000000000) : lim62 i = true := by
  unfold lim62
  rw [decide_eq_true_eq]
  omega
/-- range(n), range(a, b) -/
def mRng1 (ml : ML) : ML := fun ρ => (ml ρ).bind fun x => match x.1 with
  | [.int j] => if lim62 j = true then some (rngD 0 j.toNat, x.2) else none
  | _ => none
def mRng2 (ml : ML) : ML := fun ρ => (ml ρ).bind fun x => match x.1 with
  | [.int i, .int j] => if lim62 i = true ∧ lim62 j = true then some (rngD i (j - i).toNat, x.2) else none
  | _ => none
theorem mRng1_some {ml : ML} {ρ ρ' : DE} {ds : List D} (h : mRng1 ml ρ = some (ds, ρ')) : ∃ j, ml ρ = some ([.int j], ρ') ∧ lim62 j = true ∧ ds = rngD 0 j.toNat := by
  unfold mRng1 at h
  cases e : ml ρ with
  | none => rw [e] at h; cases h
  | some p =>
    rw [e] at h
    simp only [Option.bind_some] at h
    split at h
    · rename_i j ej
      split at h
      · cases h; exact ⟨j, by rw [← ej], by assumption, rfl⟩
      · cases h
    · cases h
theorem mRng2_some {ml : ML} {ρ ρ' : DE} {ds : List D} (h : mRng2 ml ρ = some (ds, ρ')) : ∃ i j, ml ρ = some ([.int i, .int j], ρ') ∧ lim62 i = true ∧ lim62 j = true ∧ ds = rngD i (j - i).toNat := by
  unfold mRng2 at h
  cases e : ml ρ with
  | none => rw [e] at h; cases h
  | some p =>
    rw [e] at h
    simp only [Option.bind_some] at h
    split at h
    · rename_i i j ej
      split at h
      · rename_i hh
        cases h; exact ⟨i, j, by rw [← ej], hh.1, hh.2, rfl⟩
      · cases h
    · cases h
theorem ji_range1 {tg a : Expr} {p : Pos} {ml : ML} {ms : List Am} {pu : Bool} (h : JA X κ [a] ml ms κ1 pu) (hm : allRz ms = true) (hg : Gl X "range") (hmg : X.mg "range" = none) (hs : starEach [a] X.env = [(false, eval a X.env)]) :
    JI X κ tg (.Call (.Name "range" p) [a] [] pos) (mRng1 ml) κ1 pu := by
  refine ⟨fun t ht => PI.imp (pi_range1 hg hmg (h.run t ht) hs) fun σ H R z q => ?_, fun hp ρ d ρ' e => by
    obtain ⟨_, e1, _⟩ := mRng1_some e
    exact h.pur hp _ _ _ e1⟩
  obtain ⟨g, ρ, S, ds, ρ', em, post⟩ := q z
  obtain ⟨j, e1, hj, rfl⟩ := mRng1_some em
  refine fun _ => ⟨g, ρ, S, _, ρ', e1, fun vs H' g' S' P' s' r' => ?_⟩
  obtain ⟨v, w, rfl, h1, h2⟩ := rows_repL hm r'
  cases (show _ = _ from h1)
  cases (show _ = _ from h2)
  exact ⟨j, rfl, (lim62_ok hj).1, (lim62_ok hj).2, post _ _ H' g' S' P' s' dlv_range trivial⟩
theorem ji_range2 {tg a b : Expr} {p : Pos} {ml : ML} {ms : List Am} {pu : Bool} (h : JA X κ [a, b] ml ms κ1 pu) (hm : allRz ms = true) (hg : Gl X "range") (hmg : X.mg "range" = none) (hs : starEach [a, b] X.env = [(false, eval a X.env), (false, eval b X.env)])
    (hs2 : starEach [b] X.env = [(false, eval b X.env)]) : JI X κ tg (.Call (.Name "range" p) [a, b] [] pos) (mRng2 ml) κ1 pu := by
  refine ⟨fun t ht => PI.imp (pi_range2 hg hmg (h.run t ht) hs hs2) fun σ H R z q => ?_, fun hp ρ d ρ' e => by
    obtain ⟨_, _, e1, _⟩ := mRng2_some e
    exact h.pur hp _ _ _ e1⟩
  obtain ⟨g, ρ, S, ds, ρ', em, post⟩ := q z
  obtain ⟨i, j, e1, hi, hj, rfl⟩ := mRng2_some em
  refine fun _ => ⟨g, ρ, S, _, ρ', e1, fun vs H' g' S' P' s' r' => ?_⟩
  obtain ⟨v, w, rfl, h1, v2, w2, rfl, h2, h3⟩ := rows_repL hm r'
  cases (show _ = _ from h1)
  cases (show _ = _ from h2)
  cases (show _ = _ from h3)
  exact ⟨i, j, rfl, ⟨(lim62_ok hi).1, (lim62_ok hi).2, (lim62_ok hj).1, (lim62_ok hj).2⟩, post _ _ H' g' S' P' s' dlv_range trivial⟩
/-- enumerate(xs), xs a list; zip(xs, ys) -/
def mEnum (ml : ML) : ML := fun ρ => (ml ρ).bind fun x => match x.1 with
  | [.lst ds] => some (enumD ds, x.2)
  | _ => none
theorem mEnum_some {ml : ML} {ρ ρ' : DE} {ds : List D} (h : mEnum ml ρ = some (ds, ρ')) : ∃ es, ml ρ = some ([.lst es], ρ') ∧ ds = enumD es := by
  unfold mEnum at h
  cases e : ml ρ with
  | none => rw [e] at h; cases h
  | some p =>
    rw [e] at h
    simp only [Option.bind_some] at h
    split at h
    · rename_i es ej
      cases h; exact ⟨es, by rw [← ej], rfl⟩
    · cases h
def mZip (ml : ML) : ML := fun ρ => (ml ρ).bind fun x => match x.1 with
  | [.lst ds, .lst es] => some (zipD ds es, x.2)
  | [.tup ds, .tup es] => some (zipD ds es, x.2)
  | _ => none
theorem mZip_some {ml : ML} {ρ ρ' : DE} {ds : List D} (h : mZip ml ρ = some (ds, ρ')) : ∃ xs ys, (ml ρ = some ([.lst xs, .lst ys], ρ') ∨ ml ρ = some ([.tup xs, .tup ys], ρ')) ∧ ds = zipD xs ys := by
  unfold mZip at h
  cases e : ml ρ with
  | none => rw [e] at h; cases h
  | some p =>
    rw [e] at h
    simp only [Option.bind_some] at h
    split at h
    · rename_i x y ej
      cases h; exact ⟨x, y, .inl (by rw [← ej]), rfl⟩
    · rename_i x y ej
      cases h; exact ⟨x, y, .inr (by rw [← ej]), rfl⟩
    · cases h
theorem ji_enum {e : Expr} {p tpos : Pos} {elts : List Expr} {kk : Nat} {ml : ML} {pu : Bool} (h : JA X κ [e] ml [.rz (.own 0)] κ1 pu) (hg : Gl X "enumerate") (hmg : X.mg "enumerate" = none) (hs : starEach [e] X.env = [(false, eval e X.env)]) :
    JI X κ (.Tuple elts kk tpos) (.Call (.Name "enumerate" p) [e] [] pos) (mEnum ml) κ1 pu := by
  refine ⟨fun t ht => PI.imp (pi_enum hg hmg (h.run t ht) hs) fun σ H R z q => ?_, fun hp ρ d ρ' e => by
    obtain ⟨_, e1, _⟩ := mEnum_some e
    exact h.pur hp _ _ _ e1⟩
  obtain ⟨g, ρ, S, ds, ρ', em, post⟩ := q z
  obtain ⟨es, e1, rfl⟩ := mEnum_some em
  refine fun _ => ⟨g, ρ, S, _, ρ', e1, fun vs H' g' S' P' s' r' => ?_⟩
  obtain ⟨d, ds', v, vs', e2, rfl, h1, h2⟩ := r'
  cases e2
  obtain ⟨_, rfl⟩ := h2
  obtain ⟨a, rfl, hx⟩ := own_src h1 (.inl rfl)
  rcases hx with ⟨_, f⟩ | ⟨e3, _⟩
  · obtain ⟨us, k1, k2, k3⟩ := id f
    exact ⟨a, us, rfl, SqL.of k1, post _ _ H' g' S' P' s' dlv_enum f⟩
  · cases e3
theorem ji_zip {e e2 : Expr} {p tpos : Pos} {elts : List Expr} {kk : Nat} {ml : ML} {pu : Bool} (h : JA X κ [e, e2] ml [.rz (.own 0), .rz (.own 0)] κ1 pu) (hg : Gl X "zip") (hmg : X.mg "zip" = none)
    (hs : starEach [e, e2] X.env = (false, eval e X.env) :: starEach [e2] X.env) (hpl : (backTo pos (starEach [e2] X.env)).any (·.1) = false) :
    JI X κ (.Tuple elts kk tpos) (.Call (.Name "zip" p) [e, e2] [] pos) (mZip ml) κ1 pu := by
  refine ⟨fun t ht => PI.imp (RZ.pi_zipA hg hmg (h.run t ht) hs hpl) fun σ H R z q => ?_, fun hp ρ d ρ' e => by
    obtain ⟨_, _, e1, _⟩ := mZip_some e
    exact e1.elim (h.pur hp _ _ _) (h.pur hp _ _ _)⟩
  obtain ⟨g, ρ, S, ds, ρ', em, post⟩ := q z
  obtain ⟨xs, ys, e1, rfl⟩ := mZip_some em
  have key : ∀ (d1 d2 : D), ml ρ = some ([d1, d2], ρ') → ((d1 = .lst xs ∧ d2 = .lst ys) ∨ (d1 = .tup xs ∧ d2 = .tup ys)) → _ := fun d1 d2 e hd => show jTA X.K X.N.length κ ml [.rz (.own 0), .rz (.own 0)] κ1 pu t σ H (fun vs H1 => ∃ a b us ws, vs = [.ref a, .ref b] ∧ ((SqL X.K H1 a us ∧ SqL X.K H1 b ws ∧ R (Itz X.K a b) H1) ∨ (SqT X.K H1 a us ∧ SqT X.K H1 b ws ∧ R (RZ.ItzT X.K a b) H1))) from by
    refine fun _ => ⟨g, ρ, S, _, ρ', e, fun vs H' g' S' P' s' r' => ?_⟩
    obtain ⟨x, ds', v, vs', e2, rfl, h1, y, ds2, v2, vs2, e3, rfl, h2, h3⟩ := r'
    cases e2
    cases e3
    obtain ⟨_, rfl⟩ := h3
    rcases hd with ⟨rfl, rfl⟩ | ⟨rfl, rfl⟩
    · obtain ⟨a, rfl, hx⟩ := own_src h1 (.inl rfl)
      obtain ⟨b, rfl, hy⟩ := own_src h2 (.inl rfl)
      rcases hx with ⟨_, f⟩ | ⟨e3, _⟩
      · rcases hy with ⟨_, f2⟩ | ⟨e3, _⟩
        · obtain ⟨us, k1, _⟩ := id f
          obtain ⟨ws, k2, _⟩ := id f2
          exact ⟨a, b, us, ws, rfl, .inl ⟨SqL.of k1, SqL.of k2, post _ _ H' g' S' P' s' dlv_zip ⟨f, f2⟩⟩⟩
        · cases e3
      · cases e3
    · obtain ⟨a, rfl, hx⟩ := own_src h1 (.inr rfl)
      obtain ⟨b, rfl, hy⟩ := own_src h2 (.inr rfl)
      rcases hx with ⟨e3, _⟩ | ⟨_, f⟩
      · cases e3
      · rcases hy with ⟨e3, _⟩ | ⟨_, f2⟩
        · cases e3
        · obtain ⟨us, k1, _⟩ := id f
          obtain ⟨ws, k2, _⟩ := id f2
          exact ⟨a, b, us, ws, rfl, .inr ⟨SqT.of k1, SqT.of k2, post _ _ H' g' S' P' s' dlv_zipT ⟨f, f2⟩⟩⟩
  rcases e1 with e1 | e1
  · exact key _ _ e1 (.inl ⟨rfl, rfl⟩)
  · exact key _ _ e1 (.inr ⟨rfl, rfl⟩)
end VS
namespace VS
open PySem PySem.Spec PyProof.Rows L2
variable {K : PySem.W.Frag} {X : Cx} {κ κ1 κ2 κ3 : OE} {pos : Pos} {rc : RC}
/-! ### targets: a frozen value goes into slots -/
abbrev MG := D → DE → Option DE
def gPost (K : PySem.W.Frag) (n t : Nat) (κ' : OE) (ts : List Nat) (g : G) (σ : L2.St) (H : Hp) (ρ' : DE) (Q : L2.St → Hp → Prop) : Prop :=
  ∀ σ' g', Sok K κ' ρ' g' σ' H → Pres n t g H g' H → (∀ j : Nat, j ∉ ts → σ'[j]? = σ[j]?) → Q σ' H
def jTG (K : PySem.W.Frag) (n : Nat) (κ : OE) (m : MG) (κ' : OE) (ts : List Nat) (t : Nat) : TG := fun v σ H Q => σ.length = n → ∃ g ρ d, Sok K κ ρ g σ H ∧ Own K H g d 0 0 [] v ∧ ∃ ρ', m d ρ = some ρ' ∧ gPost K n t κ' ts g σ H ρ' Q
structure JG (X : Cx) (κ : OE) (tg : Expr) (m : MG) (κ' : OE) (ts : List Nat) : Prop where
  run : ∀ t, X.N.length ≤ t → PG X tg (jTG X.K X.N.length κ m κ' ts t)
  out : ∀ d ρ ρ', m d ρ = some ρ' → ρ'.length = ρ.length ∧ ∀ j : Nat, j ∉ ts → ρ'[j]? = ρ[j]?
structure JGs (X : Cx) (κ : OE) (tg : List Expr) (m : List D → DE → Option DE) (κ' : OE) (ts : List Nat) : Prop where
  run : ∀ t, X.N.length ≤ t → PGs X tg (fun vs σ H Q => σ.length = X.N.length → ∃ g ρ ds i, Sok X.K κ ρ g σ H ∧ OwnL X.K H g ds 0 0 [] i vs ∧ ∃ ρ', m ds ρ = some ρ' ∧ gPost X.K X.N.length t κ' ts g σ H ρ' Q)
  out : ∀ d ρ ρ', m d ρ = some ρ' → ρ'.length = ρ.length ∧ ∀ j : Nat, j ∉ ts → ρ'[j]? = ρ[j]?
theorem PG.imp {tg : Expr} {w w' : TG} (h : PG X tg w) (f : ∀ v σ H Q, σ.length = X.N.length → w' v σ H Q → w v σ H Q) : PG X tg w' :=
  ⟨fun pins s σ H v u Q I r q => h.run pins s σ H v u Q I r (f v σ H Q I.len q)⟩
theorem PGs.imp {tg : List Expr} {w w' : TGs} (h : PGs X tg w) (f : ∀ v σ H Q, σ.length = X.N.length → w' v σ H Q → w v σ H Q) : PGs X tg w' :=
  ⟨fun pins s σ H v u Q I r q => h.run pins s σ H v u Q I r (f v σ H Q I.len q)⟩
def gNm (i : Nat) : MG := fun d ρ => some (ρ.set i (some d))
theorem jg_name {i : Nat} {x : Str} (hN : X.N.Nodup) (hi : X.N[i]? = some x) (hx : Loc X.env.scope x) (hf : X.fn x = true ∨ X.env.scope.names.lookup x = some .local) : JG X κ (.Name x pos) (gNm i) (κ.set i (some 0)) [i] := by
  refine ⟨fun t ht => PG.imp (pg_name hN hi hx hf) fun v σ H Q hl q => ?_, fun d ρ ρ' e => by
    cases e
    exact ⟨by simp, fun j hj => by rw [List.getElem?_set_ne (by simpa using fun e => hj (by simp [e]))]⟩⟩
  obtain ⟨g, ρ, d, S, o, ρ', em, post⟩ := q hl
  cases em
  have hi' : i < X.N.length := (List.getElem?_eq_some_iff.mp hi).1
  refine post _ _ (S.store (t := t) (by omega) (by omega) (own_fz (fun a z => ⟨z, rfl⟩) (fun _ _ z _ => z) o)) (Pres.store hi' S.gok) fun j hj => ?_
  rw [List.getElem?_set_ne (by simpa using fun e => hj (by simp [e]))]
def gsNil : List D → DE → Option DE := fun ds ρ => match ds with
  | [] => some ρ
  | _ => none
def gsCons (m : MG) (ms : List D → DE → Option DE) : List D → DE → Option DE := fun ds ρ => match ds with
  | d :: r => (m d ρ).bind fun ρ1 => ms r ρ1
  | [] => none
theorem jgs_nil : JGs X κ [] gsNil κ [] := by
  refine ⟨fun t ht => PGs.imp pgs_nil fun v σ H Q hl q => ?_, fun ds ρ ρ' e => by
    cases ds with
    | nil => cases e; exact ⟨rfl, fun _ _ => rfl⟩
    | cons _ _ => cases e⟩
  obtain ⟨g, ρ, ds, i, S, o, ρ', em, post⟩ := q hl
  cases ds with
  | nil =>
    cases em
    exact ⟨o, post σ g S Pres.refl fun _ _ => rfl⟩
  | cons _ _ => cases em
theorem jgs_cons {e : Expr} {es : List Expr} {m : MG} {ms : List D → DE → Option DE} {ts1 ts2 : List Nat} (h1 : JG X κ e m κ1 ts1) (h2 : JGs X κ1 es ms κ2 ts2)
    (mk : ∀ {t : TG} {u : TGs}, PG X e t → PGs X es u → PGs X (e :: es) (gCons t u)) : JGs X κ (e :: es) (gsCons m ms) κ2 (ts1 ++ ts2) := by
  refine ⟨fun t ht => PGs.imp (mk (h1.run t ht) (h2.run t ht)) fun vs σ H Q hl q => ?_, fun ds ρ ρ' e => by
    cases ds with
    | nil => cases e
    | cons d r =>
      have e' : (m d ρ).bind (fun ρ1 => ms r ρ1) = some ρ' := e
      cases e1 : m d ρ with
      | none => rw [e1] at e'; cases e'
      | some ρ1 =>
        rw [e1] at e'
        obtain ⟨l1, o1⟩ := h1.out _ _ _ e1
        obtain ⟨l2, o2⟩ := h2.out _ _ _ e'
        exact ⟨l2.trans l1, fun j hj => by
          simp only [List.mem_append, not_or] at hj
          rw [o2 j hj.2, o1 j hj.1]⟩⟩
  obtain ⟨g, ρ, ds, i, S, o, ρ', em, post⟩ := q hl
  cases ds with
  | nil => cases em
  | cons d r =>
    obtain ⟨v, w, rfl, o1, o2⟩ := o
    have em' : (m d ρ).bind (fun ρ1 => ms r ρ1) = some ρ' := em
    cases e1 : m d ρ with
    | none => rw [e1] at em'; cases em'
    | some ρ1 =>
      rw [e1] at em'
      refine ⟨v, w, rfl, fun _ => ⟨g, ρ, d, S, own_fz (fun a z => ⟨z, rfl⟩) (fun _ _ z _ => z) o1, ρ1, e1, fun σ1 g1 S1 P1 f1 => ?_⟩⟩
      refine fun _ => ⟨g1, ρ1, r, i + 1, S1, ownL_fz P1.fz P1.tu o2, ρ', em', fun σ2 g2 S2 P2 f2 => post σ2 g2 S2 (P1.trans P2) fun j hj => ?_⟩
      simp only [List.mem_append, not_or] at hj
      rw [f2 j hj.2, f1 j hj.1]
def gTp (ms : List D → DE → Option DE) : MG := fun d ρ => match d with
  | .tup ds => ms ds ρ
  | _ => none
theorem jg_tup {es : List Expr} {k n : Nat} {ms : List D → DE → Option DE} {ts : List Nat} (hc : X.calm = true) (h : JGs X κ es ms κ1 ts)
    (hn : (assignEach es X.env).length = n) (hst : (assignEach es X.env).findIdx? (·.1) = none) (hlen : ∀ ds ρ ρ', ms ds ρ = some ρ' → ds.length = n) : JG X κ (.Tuple es k pos) (gTp ms) κ1 ts := by
  refine ⟨fun t ht => PG.imp (pg_tup hc (h.run t ht) hn hst) fun v σ H Q hl q => ?_, fun d ρ ρ' e => by
    unfold gTp at e
    split at e
    · exact h.out _ _ _ e
    · cases e⟩
  obtain ⟨g, ρ, d, S, o, ρ', em, post⟩ := q hl
  unfold gTp at em
  split at em
  · obtain ⟨a, vs, rfl, ha, ol⟩ := o
    exact ⟨a, vs, rfl, SqT.of ha, by rw [ownL_len ol]; exact hlen _ _ _ em, fun _ => ⟨g, ρ, _, 0, S, ol, ρ', em, post⟩⟩
  · cases em
theorem gs_len0 (ds : List D) (ρ ρ' : DE) (h : gsNil ds ρ = some ρ') : ds.length = 0 := by
  cases ds with
  | nil => rfl
  | cons _ _ => cases h
theorem gs_lenS {m : MG} {ms : List D → DE → Option DE} {n : Nat} (h : ∀ ds ρ ρ', ms ds ρ = some ρ' → ds.length = n) (ds : List D) (ρ ρ' : DE) (e : gsCons m ms ds ρ = some ρ') : ds.length = n + 1 := by
  cases ds with
  | nil => cases e
  | cons d r =>
    have e' : (m d ρ).bind (fun ρ1 => ms r ρ1) = some ρ' := e
    cases e1 : m d ρ with
    | none => rw [e1] at e'; cases e'
    | some ρ1 =>
      rw [e1] at e'
      simp [h _ _ _ e']
/-! ### for -/
def itF (mg : MG) (mb : SM) : List D → SM
  | [], ρ => some (.nx ρ)
  | d :: ds, ρ => (mg d ρ).bind fun ρ1 => match mb ρ1 with
    | some (.nx ρ2) => itF mg mb ds ρ2
    | x => x
def sFor (ml : ML) (mg : MG) (mb : SM) : SM := fun ρ => (ml ρ).bind fun x => itF mg mb x.1 x.2
theorem sFor_some {ml : ML} {mg : MG} {mb : SM} {ρ : DE} {o : Out} (h : sFor ml mg mb ρ = some o) : ∃ ds ρ1, ml ρ = some (ds, ρ1) ∧ itF mg mb ds ρ1 = some o := by
  unfold sFor at h
  cases e : ml ρ with
  | none => rw [e] at h; cases h
  | some p => rw [e] at h; exact ⟨p.1, p.2, rfl, h⟩
def notFxs (rc : RC) (ts : List Nat) : Bool := ts.all (notFx rc)
theorem Fx.sets {s0 σ σ' : L2.St} {ts : List Nat} (h : Fx rc s0 σ) (hi : notFxs rc ts = true) (e : ∀ j : Nat, j ∉ ts → σ'[j]? = σ[j]?) : Fx rc s0 σ' := fun j k ej => by
  have hj : j ∉ ts := fun hm => by
    have := List.all_eq_true.mp hi j hm
    unfold notFx at this
    rw [ej] at this
    cases this
  rw [e j hj]
  exact h j k ej
theorem drop_cons {α : Type} {xs : List α} {i : Nat} {x : α} (h : xs[i]? = some x) : xs.drop i = x :: xs.drop (i + 1) := by
  obtain ⟨hi, e⟩ := List.getElem?_eq_some_iff.mp h
  rw [List.drop_eq_getElem_cons hi, e]
/-- what is asked of a walked thing -/
abbrev jTI (K : PySem.W.Frag) (n : Nat) (κ : OE) (m : ML) (κ' : OE) (pu : Bool) (t : Nat) : TI := fun σ H R => En n σ H → ∃ g ρ, Sok K κ ρ g σ H ∧ ∃ ds ρ', m ρ = some (ds, ρ') ∧
    ∀ J0 src H' g', Sok K κ' ρ' g' σ H' → Pres n t g H g' H' → (pu = true → Same H H') → Dlv K J0 src ds → src g' H' → R J0 H'
theorem for_read {ml : ML} {mg : MG} {mb : SM} {ts : List Nat} {n t : Nat} {s0 : L2.St} {pu : Bool}
    (hf : notFxs rc ts = true) {σ : L2.St} {H : Hp} {D : Ends} (z : En n σ H) (q : jTS K n κ (sFor ml mg mb) κ1 rc s0 t D σ H) : tFor (jTI K n κ ml κ1 pu t) (jTG K n κ1 mg κ2 ts t) (jTS K n κ2 mb κ1 rc s0 t) D σ H := by
  obtain ⟨g, ρ, S, fx, o, em, post⟩ := q z
  obtain ⟨ds, ρ1, e1, e2⟩ := sFor_some em
  refine fun _ => ⟨g, ρ, S, ds, ρ1, e1, fun J0 src H1 g1 S1 P1 _ dl s1 => ?_⟩
  refine ⟨fun i m σ' H' => m = ds.length - i ∧ i ≤ ds.length ∧ ∃ g' ρ', Sok K κ1 ρ' g' σ' H' ∧ Fx rc s0 σ' ∧ src g' H' ∧ itF mg mb (ds.drop i) ρ' = some o ∧ Pres n t g H g' H', ⟨ds.length, by omega, Nat.zero_le _, g1, ρ1, S1, fx, s1, e2, P1⟩, ?_⟩
  rintro i m σ2 H2 ⟨rfl, hle, g2, ρ2, S2, fx2, s2, e3, P2⟩
  have post2 := post.pre P2
  by_cases hlt : i < ds.length
  · obtain ⟨d, ed⟩ := ex_at hlt
    rw [drop_cons ed] at e3
    have e3' : (mg d ρ2).bind (fun ρ1 => match mb ρ1 with | some (.nx ρ2) => itF mg mb (ds.drop (i + 1)) ρ2 | x => x) = some o := e3
    cases e4 : mg d ρ2 with
    | none => rw [e4] at e3'; cases e3'
    | some ρ3 =>
      rw [e4] at e3'
      simp only [Option.bind_some] at e3'
      refine .inr ⟨dl.go i g2 H2 s2 hlt, fun σ' H' => i + 1 ≤ ds.length ∧ ∃ g' ρ', Sok K κ1 ρ' g' σ' H' ∧ Fx rc s0 σ' ∧ src g' H' ∧ itF mg mb (ds.drop (i + 1)) ρ' = some o ∧ Pres n t g H g' H', fun σ' H' hh => ⟨ds.length - (i + 1), by omega, rfl, hh⟩, fun x H' y => ?_⟩
      obtain ⟨sm, ox⟩ := dl.yld i g2 H2 x H' d s2 S2.gok y ed
      have P3 : Pres n t g2 H2 g2 H' := Pres.grow S2.gok sm
      refine fun _ => ⟨g2, ρ2, d, S2.grow sm, ox, ρ3, e4, fun σ4 g4 S4 P4 f4 => ?_⟩
      have fx4 := fx2.sets hf f4
      have P5 := P3.trans P4
      have s4 := dl.keep _ _ _ _ s2 P5.fz P5.tu
      refine fun _ => ?_
      cases eb : mb ρ3 with
      | none => rw [eb] at e3'; cases e3'
      | some ob =>
        rw [eb] at e3'
        refine ⟨g4, ρ3, S4, fx4, ob, eb, ?_⟩
        cases ob with
        | nx ρ5 => exact fun σ' H6 g6 S6 P6 F6 => ⟨hlt, g6, ρ5, S6, F6, dl.keep _ _ _ _ s4 P6.fz P6.tu, e3', P2.trans (P5.trans P6)⟩
        | rt d' ρ5 =>
          cases e3'
          exact post2.pre P5
  · have hi' : i = ds.length := by omega
    subst hi'
    rw [List.drop_length] at e3
    cases e3
    exact .inl ⟨dl.stop _ g2 H2 s2 (Nat.le_refl _), post2 σ2 H2 g2 S2 Pres.refl fx2⟩
/-- κ: ahead of each turn -/
theorem js_for {tg iter : Expr} {b : List Stmt} {ml : ML} {mg : MG} {mb : SM} {ts : List Nat} (hp : PassesOwn (model X.prog X.w) X.A X.env X.xe) (hc : X.calm = true) {pu : Bool} (hi : JI X κ tg iter ml κ1 pu) (hg : JG X κ1 tg mg κ2 ts) (hb : JB X κ2 b mb κ1 rc)
    (hf : notFxs rc ts = true) (hs : ∀ x, foldedSetIterable iter X.env x = pure x) : JS X κ (.For tg iter b [] pos) (sFor ml mg mb) κ1 rc :=
  ⟨fun s0 t ht => PS.imp (ps_for hp hc (hi.run t ht) (hg.run t ht) (hb.run s0 t ht) hs) fun _ _ _ z q => for_read hf z q⟩
end VS
namespace VS
open PySem PySem.Spec PyProof.Rows L2
variable {K : PySem.W.Frag} {X : Cx} {κ κ1 κ2 κ3 κ4 : OE} {pos : Pos} {rc : RC}
/-! ### slots forgotten -/
def wp {α : Type} (l : List (Option α)) : List Nat → List (Option α)
  | [] => l
  | v :: vs => (wp l vs).set v none
theorem wp_wipe (σ : L2.St) : ∀ vs, wipe σ vs = wp σ vs
  | [] => rfl
  | v :: vs => by
    show (wipe σ vs).set v none = (wp σ vs).set v none
    rw [wp_wipe σ vs]
theorem wp_len {α : Type} (l : List (Option α)) : ∀ vs, (wp l vs).length = l.length
  | [] => rfl
  | v :: vs => by
    show ((wp l vs).set v none).length = _
    rw [List.length_set, wp_len l vs]
theorem wp_some {α : Type} {l : List (Option α)} {i : Nat} {x : α} : ∀ {vs}, (wp l vs)[i]? = some (some x) → l[i]? = some (some x) ∧ i ∉ vs
  | [], h => ⟨h, by simp⟩
  | v :: vs, h => by
    have h' : ((wp l vs).set v none)[i]? = some (some x) := h
    rw [List.getElem?_set] at h'
    by_cases e : v = i
    · rw [if_pos e] at h'
      split at h' <;> cases h'
    · rw [if_neg e] at h'
      obtain ⟨h1, h2⟩ := wp_some h'
      exact ⟨h1, by simp only [List.mem_cons, not_or]; exact ⟨fun z => e z.symm, h2⟩⟩
theorem wp_out {α : Type} {l : List (Option α)} {i : Nat} : ∀ {vs}, i ∉ vs → (wp l vs)[i]? = l[i]?
  | [], _ => rfl
  | v :: vs, h => by
    simp only [List.mem_cons, not_or] at h
    show ((wp l vs).set v none)[i]? = _
    rw [List.getElem?_set_ne (fun e => h.1 e.symm), wp_out h.2]
theorem Sok.wipe {ρ : DE} {g : G} {σ : L2.St} {H : Hp} {vs : List Nat} (S : Sok K κ ρ g σ H) (hk : ∀ i ∈ vs, ∀ k, κ[i]? ≠ some (some k)) : Sok K κ (wp ρ vs) g (wp σ vs) H where
  ok := fun i k d h1 h2 => by
    obtain ⟨h3, hi⟩ := wp_some h2
    obtain ⟨v, e, o⟩ := S.ok i k d h1 h3
    exact ⟨v, by rw [wp_out hi]; exact e, o⟩
  gok := S.gok
  len := by rw [wp_len, wp_len]; exact S.len
  lek := by rw [wp_len]; exact S.lek
/-- the block's slots are those outside, but its own -/
theorem Sok.unwipe {ρ : DE} {g : G} {σ σ' : L2.St} {H : Hp} {vs : List Nat} (S : Sok K κ ρ g σ' H) (hs : wp σ' vs = wp σ vs) (hk : ∀ i ∈ vs, ∀ k, κ[i]? ≠ some (some k)) : Sok K κ ρ g σ H where
  ok := fun i k d h1 h2 => by
    obtain ⟨v, e, o⟩ := S.ok i k d h1 h2
    have hi : i ∉ vs := fun z => hk i z k h1
    refine ⟨v, ?_, o⟩
    rw [← wp_out (l := σ) hi, ← hs, wp_out hi]
    exact e
  gok := S.gok
  len := by
    have := congrArg List.length hs
    rw [wp_len, wp_len] at this
    rw [S.len, this]
  lek := by
    have := congrArg List.length hs
    rw [wp_len, wp_len] at this
    rw [S.lek, this]
def noneAt (κ : OE) (vs : List Nat) : Bool := vs.all fun i => match κ[i]? with
  | some (some _) => false
  | _ => true
theorem noneAt_ok {vs : List Nat} (h : noneAt κ vs = true) : ∀ i ∈ vs, ∀ k, κ[i]? ≠ some (some k) := fun i hi k e => by
  have := List.all_eq_true.mp h i hi
  rw [e] at this
  cases this
/-! ### a list that grows by a row's tree -/
theorem own_push {H : Hp} {g : G} {t k : Nat} {L : Addr} {acc : List D} {e : D} {y : V} {vacc : List V} (t' : Nat) (ht : t ≠ t')
    (hL : H L = some (.lst vacc)) (o : Own K H g (.lst acc) k t [] (.ref L)) (h0 : k ≠ 0) (oe : Own K H g e (lv k) t' [] y) :
    Own K (upd H L (.lst (vacc ++ [y]))) (mvG t' t [acc.length] (fun _ _ => false) g) (.lst (acc ++ [e])) k t [] (.ref L) := by
  obtain ⟨a, vs, e1, h1, h2, h3⟩ := o
  cases e1
  rw [hL] at h1
  cases h1
  rw [if_neg h0] at h2
  have nL : ∀ a r q, g a = .ow r q → (r ≠ t ∨ q ≠ []) → a ≠ L := fun a r q e h z => by
    subst z
    rw [h2] at e
    cases e
    rcases h with h | h
    · exact h rfl
    · exact h rfl
  have nf : ∀ a, g a = .fz → a ≠ L := fun a e z => by
    subst z
    rw [h2] at e
    cases e
  have st : ∀ a o, H a = some o → stb o = true → upd H L (.lst (vacc ++ [y])) a = some o := fun a o e hs => by
    rw [upd_ne]
    · exact e
    · rintro rfl
      rw [hL] at e
      cases e
      cases hs
  refine ⟨L, _, rfl, upd_same, by rw [if_neg h0]; exact mvG_o ht rfl h2, ?_⟩
  have grow : ∀ {ds : List D} {vs : List V} {i : Nat}, OwnL K H g ds (lv k) t [] i vs → OwnL K (upd H L (.lst (vacc ++ [y]))) (mvG t' t [i + ds.length] (fun _ _ => false) g) (ds ++ [e]) (lv k) t [] i (vs ++ [y]) := by
    intro ds
    induction ds with
    | nil =>
      intro vs i h
      cases (show _ = _ from h)
      refine ⟨y, [], rfl, own_conv st e (.inr fun a z => ⟨mvG_fz z, upd_ne (nf a z)⟩) (fun a q z hh => ⟨upd_ne (nL a _ _ z (.inl (Ne.symm ht))), ?_⟩) (fun _ z => z) oe, rfl⟩
      rw [if_pos hh, mvG_t z]
      simp
    | cons d ds ih =>
      intro vs i h
      obtain ⟨v, w, rfl, o1, o2⟩ := h
      refine ⟨v, w ++ [y], rfl, own_conv st d (.inr fun a z => ⟨mvG_fz z, upd_ne (nf a z)⟩) (fun a q z hh => ⟨upd_ne (nL a _ _ z (.inr (by simp))), ?_⟩) (fun _ z => z) o1, ?_⟩
      · rw [if_pos hh]
        exact mvG_o ht rfl z
      · have := ih o2
        rw [show i + 1 + ds.length = i + (d :: ds).length by simp; omega] at this
        exact this
  have := grow h3
  rw [Nat.zero_add] at this
  exact this
theorem Sok.push {ρ : DE} {g : G} {σ : L2.St} {H : Hp} {t t' : Nat} {L : Addr} {s : List Nat} {o o' : HO} (S : Sok K κ ρ g σ H) (ht : σ.length ≤ t) (ht' : σ.length ≤ t') (hL : H L = some o) (hs : stb o = false) (h2 : g L = .ow t []) :
    Sok K κ ρ (mvG t' t s (fun _ _ => false) g) σ (upd H L o') where
  ok := fun i k d h1 h3 => by
    obtain ⟨v, e, w⟩ := S.ok i k d h1 h3
    have hi : i < σ.length := (List.getElem?_eq_some_iff.mp e).1
    refine ⟨v, e, own_conv (fun a u z hz => ?_) d (.inr fun a z => ⟨mvG_fz z, upd_ne ?_⟩) (fun a q z hh => ⟨upd_ne ?_, ?_⟩) (fun _ z => z) w⟩
    · rw [upd_ne]
      · exact z
      · rintro rfl
        rw [hL] at z
        cases z
        rw [hs] at hz
        cases hz
    · rintro rfl
      rw [h2] at z
      cases z
    · rintro rfl
      have zz := h2.symm.trans z
      injection zz with z1 z2
      omega
    · rw [if_pos hh]
      exact mvG_o (by omega) rfl z
  gok := fun a h => by
    by_cases e : a = L
    · subst e; rw [upd_same]; simp
    · rw [upd_ne e]; exact S.gok a (mvG_ne h)
  len := S.len
  lek := S.lek
theorem Pres.push {n t t' : Nat} {g : G} {H : Hp} {L : Addr} {s : List Nat} {o o' : HO} (gok : ∀ a, g a ≠ .un → H a ≠ none) (ht' : t ≤ t') (hL : H L = some o) (hs : stb o = false) (h2 : g L = .ow t []) :
    Pres n t g H (mvG t' t s (fun _ _ => false) g) (upd H L o') where
  fz := fun a z => ⟨mvG_fz z, upd_ne (by rintro rfl; rw [h2] at z; cases z)⟩
  un := fun a z _ => ⟨mvG_un z, upd_ne (by rintro rfl; rw [h2] at z; cases z)⟩
  tp := fun a r p h1 h3 z => ⟨mvG_o (by omega) rfl z, upd_ne (by rintro rfl; rw [h2] at z; cases z; omega)⟩
  tm := fun a r p h1 h3 z => mvG_inv (by omega) z
  tu := fun a u z hz => by
    rw [upd_ne]
    · exact z
    · rintro rfl
      rw [hL] at z
      cases z
      rw [hs] at hz
      cases hz
/-! ### comprehensions -/
def mYes : M := fun ρ => some (.bl true, ρ)
def cpL (vs : List Nat) (mg : MG) (mc me : M) : List D → DE → Option (List D × DE)
  | [], ρ => some ([], ρ)
  | d :: ds, ρ => (mg d (wp ρ vs)).bind fun ρ2 => match mc ρ2 with
    | some (.bl true, ρ3) => (me ρ3).bind fun x => (cpL vs mg mc me ds x.2).map fun y => (x.1 :: y.1, y.2)
    | some (.bl false, ρ3) => cpL vs mg mc me ds ρ3
    | _ => none
theorem cpL_cons {vs : List Nat} {mg : MG} {mc me : M} {d : D} {ds es : List D} {ρ ρ' : DE} (h : cpL vs mg mc me (d :: ds) ρ = some (es, ρ')) : ∃ ρ2 b ρ3, mg d (wp ρ vs) = some ρ2 ∧ mc ρ2 = some (.bl b, ρ3) ∧
    ((b = true ∧ ∃ e ρ4 r, me ρ3 = some (e, ρ4) ∧ cpL vs mg mc me ds ρ4 = some (r, ρ') ∧ es = e :: r) ∨ (b = false ∧ cpL vs mg mc me ds ρ3 = some (es, ρ'))) := by
  have h' : ((mg d (wp ρ vs)).bind fun ρ2 => match mc ρ2 with
    | some (.bl true, ρ3) => (me ρ3).bind fun x => (cpL vs mg mc me ds x.2).map fun y => (x.1 :: y.1, y.2)
    | some (.bl false, ρ3) => cpL vs mg mc me ds ρ3
    | _ => none) = some (es, ρ') := h
  cases e1 : mg d (wp ρ vs) with
  | none => rw [e1] at h'; cases h'
  | some ρ2 =>
    rw [e1] at h'
    simp only [Option.bind_some] at h'
    split at h'
    · rename_i ρ3 ec
      cases e2 : me ρ3 with
      | none => rw [e2] at h'; cases h'
      | some x =>
        rw [e2] at h'
        simp only [Option.bind_some] at h'
        cases e3 : cpL vs mg mc me ds x.2 with
        | none => rw [e3] at h'; cases h'
        | some y =>
          rw [e3] at h'
          cases h'
          exact ⟨ρ2, true, ρ3, rfl, ec, .inl ⟨rfl, x.1, x.2, y.1, e2, e3, rfl⟩⟩
    · rename_i ρ3 ec
      exact ⟨ρ2, false, ρ3, rfl, ec, .inr ⟨rfl, h'⟩⟩
    · cases h'
def mLc (pu : Bool) (vs : List Nat) (ml : ML) (mg : MG) (mc me : M) : M := fun ρ => (ml ρ).bind fun x => (cpL vs mg mc me x.1 x.2).bind fun y =>
  if y.1.length ≤ 16777216 then some (.lst y.1, if pu then x.2 else y.2) else none
theorem mLc_some {pu : Bool} {vs : List Nat} {ml : ML} {mg : MG} {mc me : M} {ρ ρ' : DE} {d : D} (h : mLc pu vs ml mg mc me ρ = some (d, ρ')) : ∃ ds ρ1 es ρ2, ml ρ = some (ds, ρ1) ∧ cpL vs mg mc me ds ρ1 = some (es, ρ2) ∧ es.length ≤ sizeLine ∧ d = .lst es ∧ ρ' = (if pu then ρ1 else ρ2) := by
  unfold mLc at h
  cases e : ml ρ with
  | none => rw [e] at h; cases h
  | some x =>
    rw [e] at h
    simp only [Option.bind_some] at h
    cases e2 : cpL vs mg mc me x.1 x.2 with
    | none => rw [e2] at h; cases h
    | some y =>
      rw [e2] at h
      simp only [Option.bind_some] at h
      split at h
      · cases h
        exact ⟨x.1, x.2, y.1, y.2, rfl, e2, by rw [sizeLine_eq]; assumption, rfl, rfl⟩
      · cases h
theorem lc_core' {n t : Nat} {tg iter elt : Expr} {ifs : List Expr} {own : List (Str × Nat)} {ml : ML} {mg : MG} {mc me : M} {ts : List Nat} {pi pc pe : Bool} {k : Nat} {wi : TI} {gt : TG} {tt : TT} {te : TE}
    (hn : X.N.length = n) (ht : n ≤ t) (h0 : k ≠ 0) (hκ : noneAt κ1 (own.map (·.2)) = true) (hκn : κ1.length = n)
    (hts : ts.all (fun i => (own.map (·.2)).contains i) = true) (hgo : ∀ d ρ ρ', mg d ρ = some ρ' → ρ'.length = ρ.length ∧ ∀ j : Nat, j ∉ ts → ρ'[j]? = ρ[j]?)
    (hcp : pc = true → ∀ ρ d ρ', mc ρ = some (d, ρ') → ρ' = ρ) (hep : pe = true → ∀ ρ d ρ', me ρ = some (d, ρ') → ρ' = ρ)
    (h1 : leO κ1 κ4 = true) (h2 : leO κ1 κ3 = true)
    (hwi : wi = fun σ H R => En n σ H → ∃ g ρ, Sok X.K κ ρ g σ H ∧ ∃ ds ρ', ml ρ = some (ds, ρ') ∧ ∀ J0 src H' g', Sok X.K κ1 ρ' g' σ H' → Pres n t g H g' H' → (pi = true → Same H H') → Dlv X.K J0 src ds → src g' H' → R J0 H')
    (hgt : gt = fun v σ H Q => σ.length = n → ∃ g ρ d, Sok X.K κ1 ρ g σ H ∧ Own X.K H g d 0 0 [] v ∧ ∃ ρ', mg d ρ = some ρ' ∧ gPost X.K n (t + 1) κ2 ts g σ H ρ' Q)
    (htt : tt = jTT X.K n κ2 mc κ3 pc (t + 1)) (hte : te = jTE X.K n κ3 me (.own (lv k)) κ4 pe (t + 1)) (σ : L2.St) (H : Hp) (Q : VK) (en : En n σ H)
    (q : ∃ g ρ, Sok X.K κ ρ g σ H ∧ ∃ d ρ', mLc (pi && (pc && pe)) (own.map (·.2)) ml mg mc me ρ = some (d, ρ') ∧ jPost X.K n t κ1 (.own k) (pi && (pc && pe)) g σ H d ρ' Q) : tLc wi gt tt te (own.map (·.2)) σ H Q := by
  obtain ⟨g, ρ, S, d, ρ', em, post⟩ := q
  obtain ⟨ds, ρ1, es, ρ2, e1, e2, hz, rfl, rfl⟩ := mLc_some em
  subst hwi hgt htt hte
  refine fun _ => ⟨g, ρ, S, ds, ρ1, e1, fun J0 src H1 g1 S1 P1 s1 dl sr => fun L nL => ?_⟩
  have hk := noneAt_ok hκ
  have lenσ : σ.length = n := en.2
  -- the new list
  let gL : G := fun a => if a = L then .ow t [] else g1 a
  have gLL : gL L = .ow t [] := if_pos rfl
  have gLo : ∀ a, a ≠ L → gL a = g1 a := fun a h => if_neg h
  have gLk : ∀ a, g1 a ≠ .un → gL a = g1 a := fun a h => gLo a fun z => S1.gok a h (z ▸ nL)
  have same0 : Same H1 (upd H1 L (.lst [])) := same_new nL
  have S1w := (S1.grow same0).wipe (vs := own.map (·.2)) hk
  have SL : Sok X.K κ1 (wp ρ1 (own.map (·.2))) gL (wp σ (own.map (·.2))) (upd H1 L (.lst [])) := by
    refine ⟨fun i k d h3 h4 => ?_, fun a h => ?_, S1w.len, S1w.lek⟩
    · obtain ⟨v, e, o⟩ := S1w.ok i k d h3 h4
      exact ⟨v, e, own_conv (fun _ _ z _ => z) d (.inr fun a z => ⟨by rw [gLk a (by rw [z]; simp)]; exact z, rfl⟩) (fun a q z hh => ⟨rfl, by rw [if_pos hh, gLk a (by rw [z]; simp)]; exact z⟩) (fun _ z => z) o⟩
    · by_cases e : a = L
      · subst e; rw [upd_same]; simp
      · rw [upd_ne e]; rw [gLo a e] at h; exact S1.gok a h
  have PL : Pres n t g1 H1 gL (upd H1 L (.lst [])) := by
    have hne : ∀ a, H1 a ≠ none → a ≠ L := fun a h z => h (z ▸ nL)
    refine ⟨fun a z => ?_, fun a z hh => ?_, fun a r p h3 h4 z => ?_, fun a r p h3 h4 z => ?_, fun a u z _ => same0 _ _ z⟩
    · have := hne a (S1.gok a (by rw [z]; simp))
      exact ⟨by rw [gLo a this]; exact z, upd_ne this⟩
    · have := hne a hh
      exact ⟨by rw [gLo a this]; exact z, upd_ne this⟩
    · have := hne a (S1.gok a (by rw [z]; simp))
      exact ⟨by rw [gLo a this]; exact z, upd_ne this⟩
    · by_cases e : a = L
      · subst e; rw [gLL] at z; cases z; omega
      · rw [gLo a e] at z; exact z
  have OL : Own X.K (upd H1 L (.lst [])) gL (.lst []) k t [] (.ref L) := ⟨L, [], rfl, upd_same, by rw [if_neg h0]; exact gLL, rfl⟩
  have wlen : (wp σ (own.map (·.2))).length = n := by rw [wp_len]; exact lenσ
  let W : Nat → Hp → Prop := fun i H' => i ≤ ds.length ∧ ∃ g' ρ' acc r, Sok X.K κ1 (wp ρ' (own.map (·.2))) g' (wp σ (own.map (·.2))) H' ∧ src g' H' ∧ Own X.K H' g' (.lst acc) k t [] (.ref L) ∧ cpL (own.map (·.2)) mg mc me (ds.drop i) ρ' = some (r, ρ2) ∧ acc ++ r = es ∧
    Pres n t g H g' H' ∧ ((pi && (pc && pe)) = true → Same H1 H') ∧ ((pi && (pc && pe)) = true → ρ'.length = ρ1.length ∧ ∀ j : Nat, j ∉ own.map (·.2) → ρ'[j]? = ρ1[j]?) ∧ ρ'.length = n
  refine ⟨fun i m H' => m = ds.length - i ∧ W i H', ⟨ds.length, by simp, Nat.zero_le _, gL, ρ1, [], es, SL, dl.keep _ _ _ _ sr PL.fz PL.tu, OL, by simpa using e2, rfl, P1.trans PL, fun _ => same0, fun _ => ⟨rfl, fun _ _ => rfl⟩, by rw [S1.len]; exact lenσ⟩, ?_⟩
  rintro i m H2 ⟨rfl, hle, g2, ρ3, acc, r, S2, sr2, O2, e3, er, P2, sm2, ag2, ln2⟩
  by_cases hlt : i < ds.length
  · obtain ⟨d, ed⟩ := ex_at hlt
    rw [drop_cons ed] at e3
    obtain ⟨ρ4, b, ρ5, e4, e5, e6⟩ := cpL_cons e3
    refine .inr ⟨dl.go i g2 H2 sr2 hlt, W (i + 1), fun H' hh => ⟨ds.length - (i + 1), by omega, rfl, hh⟩, fun x H3 y => ?_⟩
    obtain ⟨sm, ox⟩ := dl.yld i g2 H2 x H3 d sr2 S2.gok y ed
    have P3 : Pres n (t + 1) g2 H2 g2 H3 := Pres.grow S2.gok sm
    rw [wp_wipe]
    refine fun _ => ⟨g2, wp ρ3 (own.map (·.2)), d, S2.grow sm, ox, ρ4, e4, fun σ4 g4 S4 P4 f4 => ?_⟩
    have P5 := P3.trans P4
    have sr4 := dl.keep _ _ _ _ sr2 P5.fz P5.tu
    have O4 := P5.own ht (Nat.lt_succ_self t) O2
    have tsin : ∀ j, j ∉ own.map (·.2) → j ∉ ts := fun j hj hm => hj (by simpa using List.all_eq_true.mp hts j hm)
    have lenσ4 : σ4.length = n := by rw [← S4.len, (hgo _ _ _ e4).1, wp_len]; exact ln2
    have wpn : ∀ (l : L2.St), l.length = n → ∀ j, j ∈ own.map (·.2) → (wp l (own.map (·.2)))[j]? = if j < n then some none else none := fun l hl j hj => by
      by_cases hjn : j < n
      · rw [if_pos hjn]
        cases q : (wp l (own.map (·.2)))[j]? with
        | none => rw [List.getElem?_eq_none_iff, wp_len] at q; omega
        | some o => cases o with
          | none => rfl
          | some z => exact ((wp_some q).2 hj).elim
      · rw [if_neg hjn, List.getElem?_eq_none_iff, wp_len]; omega
    have wσ : wp σ4 (own.map (·.2)) = wp σ (own.map (·.2)) := by
      apply List.ext_getElem?
      intro j
      by_cases hj : j ∈ own.map (·.2)
      · rw [wpn _ lenσ4 j hj, wpn _ lenσ j hj]
      · rw [wp_out hj, f4 j (tsin j hj), wp_out hj]
    refine ⟨(wp_wipe _ _).trans wσ, fun _ => ?_⟩
    refine ⟨g4, ρ4, S4, b, ρ5, e5, fun H6 g6 S6 P6 s6 => ?_⟩
    have sr6 := dl.keep _ _ _ _ sr4 P6.fz P6.tu
    have O6 := P6.own ht (Nat.lt_succ_self t) O4
    have back : ∀ {κ' : OE} {ρ6 : DE} {g' : G} {H' : Hp}, Sok X.K κ' ρ6 g' σ4 H' → leO κ1 κ' = true → Sok X.K κ1 (wp ρ6 (own.map (·.2))) (wk κ1 g') (wp σ (own.map (·.2))) H' := fun {κ' ρ6 g' H'} s hl => by
      have := (s.weaken hl).wipe (vs := own.map (·.2)) hk
      rw [wσ] at this
      exact this
    have agree : (pi && (pc && pe)) = true → ρ4.length = ρ1.length ∧ ∀ j : Nat, j ∉ own.map (·.2) → ρ4[j]? = ρ1[j]? := fun hp => by
      obtain ⟨l1, a1⟩ := ag2 hp
      refine ⟨by rw [(hgo _ _ _ e4).1, wp_len]; exact l1, fun j hj => ?_⟩
      rw [(hgo _ _ _ e4).2 j (tsin j hj), wp_out hj]
      exact a1 j hj
    have P26 : Pres n t g H g6 H6 := P2.trans ((P5.trans P6).less (Nat.le_succ t))
    rcases e6 with ⟨rfl, e, ρ7, r7, e7, e8, rfl⟩ | ⟨rfl, e8⟩
    · refine iteT fun _ => ⟨g6, ρ5, S6, e, ρ7, e7, fun y H8 g8 S8 P8 s8 r8 => ?_⟩
      have O8 := P8.own ht (Nat.lt_succ_self t) O6
      have sr8 := dl.keep _ _ _ _ sr6 P8.fz P8.tu
      obtain ⟨L', vacc, eL, hL, hgL, hl⟩ := id O8
      cases eL
      rw [if_neg h0] at hgL
      have hz2 : vacc.length < sizeLine := by
        rw [ownL_len hl]
        have : (acc ++ e :: r7).length ≤ sizeLine := by rw [er]; exact hz
        simp at this
        omega
      refine ⟨vacc, hL, hz2, hlt, ?_⟩
      have S9 := S8.push (t := t) (t' := t + 1) (s := [acc.length]) (o' := .lst (vacc ++ [y])) (by omega) (by omega) hL rfl hgL
      have P9 : Pres n t g8 H8 _ _ := Pres.push (o' := .lst (vacc ++ [y])) (s := [acc.length]) S8.gok (Nat.le_succ t) hL rfl hgL
      have O9 := own_push (t + 1) (by omega) hL O8 h0 r8
      have Pw : Pres n t (mvG (t + 1) t [acc.length] (fun _ _ => false) g8) (upd H8 L (.lst (vacc ++ [y]))) (wk κ1 (mvG (t + 1) t [acc.length] (fun _ _ => false) g8)) (upd H8 L (.lst (vacc ++ [y]))) := Pres.weaken hκn
      have Pw1 : Pres n (t + 1) (mvG (t + 1) t [acc.length] (fun _ _ => false) g8) (upd H8 L (.lst (vacc ++ [y]))) (wk κ1 (mvG (t + 1) t [acc.length] (fun _ _ => false) g8)) (upd H8 L (.lst (vacc ++ [y]))) := Pres.weaken hκn
      refine ⟨_, ρ7, acc ++ [e], r7, back S9 h1, dl.keep _ _ _ _ sr8 (P9.trans Pw).fz (P9.trans Pw).tu, Pw1.own ht (Nat.lt_succ_self t) O9, e8, by rw [List.append_assoc]; exact er, P26.trans ((P8.less (Nat.le_succ t)).trans (P9.trans Pw)), fun hp => ?_, fun hp => ?_, ?_⟩
      · have hp' := hp
        simp only [Bool.and_eq_true] at hp'
        have sA : Same H1 H8 := ((sm2 hp).trans sm).trans ((s6 hp'.2.1).trans (s8 hp'.2.2))
        intro b u z
        rw [upd_ne (by rintro rfl; rw [nL] at z; cases z)]
        exact sA b u z
      · have hp' := hp
        simp only [Bool.and_eq_true] at hp'
        obtain ⟨l1, a1⟩ := agree hp
        rw [hep hp'.2.2 _ _ _ e7, hcp hp'.2.1 _ _ _ e5]
        exact ⟨l1, a1⟩
      · rw [S8.len, lenσ4]
    · refine iteF ?_
      have Pw : Pres n t g6 H6 (wk κ1 g6) H6 := Pres.weaken hκn
      refine ⟨hlt, wk κ1 g6, ρ5, acc, r, back S6 h2, dl.keep _ _ _ _ sr6 Pw.fz Pw.tu, (Pres.weaken (t := t + 1) hκn).own (H' := H6) ht (Nat.lt_succ_self t) O6, e8, er, P26.trans (Pres.weaken hκn), fun hp => ?_, fun hp => ?_, ?_⟩
      · have hp' := hp
        simp only [Bool.and_eq_true] at hp'
        exact ((sm2 hp).trans sm).trans (s6 hp'.2.1)
      · have hp' := hp
        simp only [Bool.and_eq_true] at hp'
        rw [hcp hp'.2.1 _ _ _ e5]
        exact agree hp
      · rw [S6.len, lenσ4]
  · have hi' : i = ds.length := by omega
    subst hi'
    rw [List.drop_length] at e3
    cases e3
    rw [List.append_nil] at er
    subst er
    have Sσ : Sok X.K κ1 (wp ρ2 (own.map (·.2))) g2 σ H2 := S2.unwipe (vs := own.map (·.2)) (by
      apply List.ext_getElem?
      intro j
      by_cases hj : j ∈ own.map (·.2)
      · cases q : (wp σ (own.map (·.2)))[j]? with
        | none => rw [List.getElem?_eq_none_iff] at q ⊢; rw [wp_len]; exact q
        | some o => cases o with
          | some z => exact ((wp_some q).2 hj).elim
          | none =>
            have hjn := (List.getElem?_eq_some_iff.mp q).1
            cases q2 : (wp (wp σ (own.map (·.2))) (own.map (·.2)))[j]? with
            | none => rw [List.getElem?_eq_none_iff] at q2; rw [wp_len] at q2; omega
            | some o2 => cases o2 with
              | none => rfl
              | some z => exact ((wp_some q2).2 hj).elim
      · rw [wp_out hj]) hk
    refine .inl ⟨dl.stop _ g2 H2 sr2 (Nat.le_refl _), post (.ref L) H2 g2 ?_ P2 (fun hp => ?_) O2⟩
    · -- the slots' data: those outside
      have take : ∀ ρx : DE, ρx.length = n → (∀ j : Nat, j ∉ own.map (·.2) → ρx[j]? = ρ2[j]?) → Sok X.K κ1 ρx g2 σ H2 := fun ρx hl ha =>
        ⟨fun i k d h3 h4 => by
          have hi : i ∉ own.map (·.2) := fun z => hk i z k h3
          exact Sσ.ok i k d h3 (by rw [wp_out hi, ← ha i hi]; exact h4), Sσ.gok, by rw [hl, lenσ], Sσ.lek⟩
      by_cases hp : (pi && (pc && pe)) = true
      · rw [if_pos hp]
        obtain ⟨l1, a1⟩ := ag2 hp
        exact take ρ1 (by rw [← l1]; exact ln2) fun j hj => (a1 j hj).symm
      · rw [if_neg hp]
        exact take ρ2 ln2 fun _ _ => rfl
    · have hp' := hp
      simp only [Bool.and_eq_true] at hp'
      exact (s1 hp'.1).trans (sm2 hp)
/-- the tests of a block -/
structure JTs (X : Cx) (κ : OE) (cs : List Expr) (m : M) (κ' : OE) (pu : Bool) : Prop where
  run : ∀ t, X.N.length ≤ t → PTs X cs (jTT X.K X.N.length κ m κ' pu t)
  pur : pu = true → ∀ ρ d ρ', m ρ = some (d, ρ') → ρ' = ρ
theorem PTs.imp {cs : List Expr} {t t' : TT} (h : PTs X cs t) (f : ∀ σ H Q, En X.N.length σ H → t' σ H Q → t σ H Q) : PTs X cs t' :=
  ⟨fun pins s σ H Q I q => h.run pins s σ H Q I (f σ H Q ⟨Inv.sz I, I.len⟩ q)⟩
theorem jts_nil : JTs X κ [] mYes κ true := by
  refine ⟨fun t ht => PTs.imp pts_nil fun σ H Q z q => ?_, fun _ ρ d ρ' e => by cases e; rfl⟩
  obtain ⟨g, ρ, S, b, ρ', em, post⟩ := q z
  cases em
  exact post H g S Pres.refl fun _ => Same.refl H
theorem jts_one {c : Expr} {m : M} {pu : Bool} (h : JT X κ c m κ1 pu) : JTs X κ [c] m κ1 pu := ⟨fun t ht => pts_one (h.run t ht), h.pur⟩
/-- a block's parts hold wherever the block stands -/
def InBlk (X : Cx) (scope : Scope) (F : Cx → Prop) : Prop := ∀ (s : Shared) (H : Hp) (C : Addr) (cl : List (Str × Addr)) (fp : List Addr), F (X.blk s H scope (compEnvC scope cl C X.env) fp)
theorem j_lc {tg iter elt : Expr} {ifs : List Expr} {scope : Scope} {own : List (Str × Nat)} {ml : ML} {mg : MG} {mc me : M} {ts : List Nat} {pi pc pe : Bool} {k : Nat} (hc : X.calm = true) (hN : X.N.Nodup)
    (hi : JI X κ tg iter ml κ1 pi) (ok : BlkOk X.N X.env.scope scope own) (hg : InBlk X scope fun Y => JG Y κ1 tg mg κ2 ts) (ht : InBlk X scope fun Y => JTs Y κ2 ifs mc κ3 pc) (he : InBlk X scope fun Y => J Y κ3 elt me (.own (lv k)) κ4 pe)
    (hs : ∀ x, foldedSetIterable iter X.env x = pure x) (h0 : k ≠ 0) (hκ : noneAt κ1 (own.map (·.2)) = true) (hκn : κ1.length = X.N.length) (hts : ts.all (fun i => (own.map (·.2)).contains i) = true) (h1 : leO κ1 κ4 = true) (h2 : leO κ1 κ3 = true) :
    J X κ (.ListComp elt [⟨tg, iter, ifs, 0⟩] scope pos) (mLc (pi && (pc && pe)) (own.map (·.2)) ml mg mc me) (.own k) κ1 (pi && (pc && pe)) := by
  refine ⟨fun t htt => PE.imp (pe_lc (te := jTE X.K X.N.length κ3 me (.own (lv k)) κ4 pe (t + 1)) (tt := jTT X.K X.N.length κ2 mc κ3 pc (t + 1)) (g := jTG X.K X.N.length κ1 mg κ2 ts (t + 1)) hc hN (hi.run t htt) ok (fun s H C cl fp => (hg s H C cl fp).run (t + 1) (by exact Nat.le_succ_of_le htt)) (fun s H C cl fp => (ht s H C cl fp).run (t + 1) (by exact Nat.le_succ_of_le htt)) (fun s H C cl fp => (he s H C cl fp).run (t + 1) (by exact Nat.le_succ_of_le htt)) hs) fun σ H Q z q => ?_, fun hp ρ d ρ' e => ?_⟩
  · exact lc_core' (tg := tg) (iter := iter) (elt := elt) (ifs := ifs) rfl htt h0 hκ hκn hts (hg X.s_0 H 0 [] []).out (ht X.s_0 H 0 [] []).pur (he X.s_0 H 0 [] []).pur h1 h2 rfl rfl rfl rfl σ H Q z (q z)
  · obtain ⟨ds, ρ1, es, ρ2, e1, e2, hz, rfl, rfl⟩ := mLc_some e
    rw [if_pos hp]
    simp only [Bool.and_eq_true] at hp
    exact hi.pur hp.1 _ _ _ e1
/-- name = [..] -/
theorem js_lc {i : Nat} {y : Str} {py spos : Pos} {tg iter elt : Expr} {ifs : List Expr} {scope : Scope} {own : List (Str × Nat)} {ml : ML} {mg : MG} {mc me : M} {ts : List Nat} {pi pc pe : Bool} {k : Nat} (hc : X.calm = true) (hN : X.N.Nodup)
    (hy : X.N[i]? = some y) (hyl : X.env.scope.names.lookup y = some .local) (hsw : swapsWith (.ListComp elt [⟨tg, iter, ifs, 0⟩] scope pos) (some (.Name y py)) spos.line X.env = pure true)
    (hi : JI X κ tg iter ml κ1 pi) (ok : BlkOk X.N X.env.scope scope own) (hg : InBlk X scope fun Y => JG Y κ1 tg mg κ2 ts) (ht : InBlk X scope fun Y => JTs Y κ2 ifs mc κ3 pc) (he : InBlk X scope fun Y => J Y κ3 elt me (.own (lv k)) κ4 pe)
    (hs : ∀ x, foldedSetIterable iter X.env x = pure x) (h0 : k ≠ 0) (hκ : noneAt κ1 (own.map (·.2)) = true) (hκn : κ1.length = X.N.length) (hts : ts.all (fun i => (own.map (·.2)).contains i) = true) (h1 : leO κ1 κ4 = true) (h2 : leO κ1 κ3 = true)
    (hfx : notFx rc i = true) : JS X κ (.Assign [.Name y py] (.ListComp elt [⟨tg, iter, ifs, 0⟩] scope pos) spos) (sAsg i (mLc (pi && (pc && pe)) (own.map (·.2)) ml mg mc me)) (κ1.set i (some k)) rc := by
  have hin : i < X.N.length := (List.getElem?_eq_some_iff.mp hy).1
  refine ⟨fun s0 t htt => PS.imp (ps_setLc (te := jTE X.K X.N.length κ3 me (.own (lv k)) κ4 pe (t + 1)) (tt := jTT X.K X.N.length κ2 mc κ3 pc (t + 1)) (g := jTG X.K X.N.length κ1 mg κ2 ts (t + 1)) hc hN hy hyl hsw (hi.run t htt) ok (fun s H C cl fp => (hg s H C cl fp).run (t + 1) (by exact Nat.le_succ_of_le htt)) (fun s H C cl fp => (ht s H C cl fp).run (t + 1) (by exact Nat.le_succ_of_le htt)) (fun s H C cl fp => (he s H C cl fp).run (t + 1) (by exact Nat.le_succ_of_le htt)) hs) fun σ H D z q => ?_⟩
  obtain ⟨g, ρ, S, fx, o, em, post⟩ := q z
  obtain ⟨d, ρ1, e1, rfl⟩ := sAsg_some em
  refine lc_core' (tg := tg) (iter := iter) (elt := elt) (ifs := ifs) rfl htt h0 hκ hκn hts (hg X.s_0 H 0 [] []).out (ht X.s_0 H 0 [] []).pur (he X.s_0 H 0 [] []).pur h1 h2 rfl rfl rfl rfl σ H _ z ⟨g, ρ, S, d, ρ1, e1, fun v H' g' S' P' s' r' => ?_⟩
  have hl : σ.length = X.N.length := z.2
  exact post _ H' _ (S'.store (by omega) (by omega) r') (P'.trans (Pres.store hin S'.gok)) (fx.set hfx)
end VS
namespace VS
open PySem PySem.Spec PyProof.Rows L2
variable {K : PySem.W.Frag} {X : Cx} {κ κ1 κ2 κ3 κ4 : OE} {pos : Pos} {rc : RC}
/-! ### what a def promises -/
/-- for each parameter how deep it is owned at the entry, and behind (none: not handed back); what is owned of the answer -/
structure Sg where
  ks : List Nat
  r : Nat
  ks' : List (Option Nat)
abbrev FM := List D → Option (D × List D)
def ArgsOk (K : PySem.W.Frag) (H : Hp) (g : G) : List Nat → Nat → List D → List V → Prop
  | [], _, ds, vs => ds = [] ∧ vs = []
  | k :: ks, j, ds, vs => ∃ d ds' v vs', ds = d :: ds' ∧ vs = v :: vs' ∧ Own K H g d k j [] v ∧ ArgsOk K H g ks (j + 1) ds' vs'
def ArgsPost (K : PySem.W.Frag) (H : Hp) (g : G) (ks' : List (Option Nat)) (ds : List D) (vs : List V) : Prop :=
  ∀ (j k : Nat) (d : D) (v : V), ks'[j]? = some (some k) → ds[j]? = some d → vs[j]? = some v → Own K H g d k j [] v
def fnSp (K : PySem.W.Frag) (sg : Sg) (f : FM) : Sp := fun vs H Q _ => ∃ g ds, (∀ a, g a ≠ .un → H a ≠ none) ∧ ArgsOk K H g sg.ks 0 ds vs ∧ ∃ d ds', f ds = some (d, ds') ∧ ds'.length = ds.length ∧
  ∀ v H' g' rr, sg.ks.length ≤ rr → (∀ a, g' a ≠ .un → H' a ≠ none) → Pres 0 0 g H g' H' → Own K H' g' d sg.r rr [] v → ArgsPost K H' g' sg.ks' ds' vs → Q v H'
theorem argsOk_len {H : Hp} {g : G} : ∀ {ks : List Nat} {j : Nat} {ds : List D} {vs : List V}, ArgsOk K H g ks j ds vs → ds.length = ks.length ∧ vs.length = ks.length
  | [], _, _, _, h => by obtain ⟨rfl, rfl⟩ := h; exact ⟨rfl, rfl⟩
  | k :: ks, _, _, _, h => by
    obtain ⟨d, ds', v, vs', rfl, rfl, _, h⟩ := h
    obtain ⟨h1, h2⟩ := argsOk_len h
    exact ⟨by simp [h1], by simp [h2]⟩
theorem argsOk_get {H : Hp} {g : G} : ∀ {ks : List Nat} {j : Nat} {ds : List D} {vs : List V} {i k : Nat} {d : D}, ArgsOk K H g ks j ds vs → ks[i]? = some k → ds[i]? = some d → ∃ v, vs[i]? = some v ∧ Own K H g d k (j + i) [] v
  | [], _, _, _, _, _, _, _, e, _ => by simp at e
  | k :: ks, j, _, _, 0, _, _, h, e, ed => by
    obtain ⟨d, ds', v, vs', rfl, rfl, o, h⟩ := h
    cases e
    cases ed
    exact ⟨v, rfl, o⟩
  | k :: ks, j, _, _, i + 1, _, _, h, e, ed => by
    obtain ⟨d, ds', v, vs', rfl, rfl, o, h⟩ := h
    have := argsOk_get (i := i) h e ed
    rw [show j + 1 + i = j + (i + 1) by omega] at this
    exact this
/-- the parameters' data behind a call -/
def outsD (ks' : List (Option Nat)) (ρ : DE) : Nat → List D → Option (List D)
  | _, [] => some []
  | j, d :: ds => (match ks'[j]? with
    | some (some _) => (match ρ[j]? with
      | some (some d') => some d'
      | _ => none)
    | _ => some d).bind fun x => (outsD ks' ρ (j + 1) ds).map fun r => x :: r
theorem outsD_get {ks' : List (Option Nat)} {ρ : DE} : ∀ {j : Nat} {ds es : List D}, outsD ks' ρ j ds = some es → es.length = ds.length ∧ ∀ i k d, ks'[j + i]? = some (some k) → es[i]? = some d → ρ[j + i]? = some (some d)
  | _, [], _, h => by cases h; exact ⟨rfl, fun i k d _ e => by simp at e⟩
  | j, d :: ds, es, h => by
    have h' : ((match ks'[j]? with
    | some (some _) => (match ρ[j]? with
      | some (some d') => some d'
      | _ => none)
    | _ => some d).bind fun x => (outsD ks' ρ (j + 1) ds).map fun r => x :: r) = some es := h
    cases e : (match ks'[j]? with
    | some (some _) => (match ρ[j]? with
      | some (some d') => some d'
      | _ => none)
    | _ => some d) with
    | none => rw [e] at h'; cases h'
    | some x =>
      rw [e] at h'
      simp only [Option.bind_some] at h'
      cases e2 : outsD ks' ρ (j + 1) ds with
      | none => rw [e2] at h'; cases h'
      | some r =>
        rw [e2] at h'
        cases h'
        obtain ⟨h1, h2⟩ := outsD_get e2
        refine ⟨by simp [h1], fun i k d' ek ed => ?_⟩
        cases i with
        | zero =>
          simp only [Nat.add_zero] at ek ⊢
          cases ed
          rw [ek] at e
          simp only at e
          split at e
          · cases e; assumption
          · cases e
        | succ i =>
          have := h2 i k d' (by rw [show j + 1 + i = j + (i + 1) by omega]; exact ek) ed
          rw [show j + 1 + i = j + (i + 1) by omega] at this
          exact this
def fM (np n : Nat) (ks' : List (Option Nat)) (m : SM) : FM := fun ds => if ds.length = np then (match m (ds.map some ++ List.replicate (n - ds.length) none) with
  | some (.rt d ρ) => (outsD ks' ρ 0 ds).map fun es => (d, es)
  | some (.nx ρ) => (outsD ks' ρ 0 ds).map fun es => (.non, es)
  | none => none) else none
theorem fM_some {np n : Nat} {ks' : List (Option Nat)} {m : SM} {ds es : List D} {d : D} (h : fM np n ks' m ds = some (d, es)) : ds.length = np ∧ ∃ o ρ, m (ds.map some ++ List.replicate (n - ds.length) none) = some o ∧ (o = .rt d ρ ∨ (o = .nx ρ ∧ d = .non)) ∧ outsD ks' ρ 0 ds = some es := by
  unfold fM at h
  split at h
  case isFalse => cases h
  refine ⟨by assumption, ?_⟩
  split at h
  · rename_i d' ρ e
    cases e2 : outsD ks' ρ 0 ds with
    | none => rw [e2] at h; cases h
    | some r => rw [e2] at h; cases h; exact ⟨_, ρ, e, .inl rfl, e2⟩
  · rename_i ρ e
    cases e2 : outsD ks' ρ 0 ds with
    | none => rw [e2] at h; cases h
    | some r => rw [e2] at h; cases h; exact ⟨_, ρ, e, .inr ⟨rfl, rfl⟩, e2⟩
  · cases h
def κ0 (sg : Sg) (n : Nat) : OE := sg.ks.map some ++ List.replicate (n - sg.ks.length) none
def rcOf (sg : Sg) (n : Nat) : RC := ⟨sg.r, sg.ks' ++ List.replicate (n - sg.ks'.length) none⟩
theorem app_some {α β : Type} {f : α → β} {l : List α} {m i : Nat} {x : β} (h : (l.map (fun a => some (f a)) ++ List.replicate m none)[i]? = some (some x)) : ∃ a, l[i]? = some a ∧ x = f a := by
  by_cases hi : i < l.length
  · rw [List.getElem?_append_left (by simpa using hi), List.getElem?_map] at h
    cases e : l[i]? with
    | none => rw [e] at h; cases h
    | some a => rw [e] at h; cases h; exact ⟨a, rfl, rfl⟩
  · rw [List.getElem?_append_right (by simpa using hi), List.getElem?_replicate] at h
    split at h <;> cases h
theorem app_none {α : Type} {l : List (Option α)} {m i : Nat} {x : α} (h : (l ++ List.replicate m none)[i]? = some (some x)) : l[i]? = some (some x) := by
  by_cases hi : i < l.length
  · rw [List.getElem?_append_left hi] at h; exact h
  · rw [List.getElem?_append_right (by omega), List.getElem?_replicate] at h
    split at h <;> cases h
theorem body_ok {sg : Sg} {m : SM} {n : Nat} {N : List Str} {sts : List Stmt} (hN : X.N = N) (hn : N.length = n) (h : JB X (κ0 sg n) sts m (rcOf sg n).κr (rcOf sg n)) (h1 : sg.ks.length ≤ n) (h2 : sg.ks'.length = sg.ks.length)
    {vs : List V} {H : Hp} {Q : VK} {E : XK} {np : Nat} (q : fnSp X.K sg (fM np n sg.ks' m) vs H Q E) :
    PSs X sts (jTS X.K n (κ0 sg n) m (rcOf sg n).κr (rcOf sg n) (L2.start N vs) n) ∧ jTS X.K n (κ0 sg n) m (rcOf sg n).κr (rcOf sg n) (L2.start N vs) n { nx := fun _ H' => Q .non H', rt := Q } (L2.start N vs) H := by
  subst hN
  subst hn
  refine ⟨h.run _ _ (Nat.le_refl _), fun en => ?_⟩
  obtain ⟨g, ds, gok, ao, d, es, e, el, post⟩ := q
  obtain ⟨_, o, ρ, em, eo, ex⟩ := fM_some e
  obtain ⟨l1, l2⟩ := argsOk_len ao
  have st : ∀ (i : Nat) (v : V), vs[i]? = some v → (L2.start X.N vs)[i]? = some (some v) := fun i v e => by
    unfold L2.start
    rw [List.getElem?_append_left (by simpa using (List.getElem?_eq_some_iff.mp e).1), List.getElem?_map, e]
    rfl
  refine ⟨g, ds.map some ++ List.replicate (X.N.length - ds.length) none, ⟨fun i k d' ek ed => ?_, gok, ?_, ?_⟩, fun _ _ _ => rfl, o, em, ?_⟩
  · obtain ⟨k', ek', rfl⟩ := app_some (f := fun x => x) ek
    obtain ⟨d2, ed', rfl⟩ := app_some (f := fun x => x) ed
    obtain ⟨v, ev, ov⟩ := argsOk_get ao ek' ed'
    rw [Nat.zero_add] at ov
    exact ⟨v, st i v ev, ov⟩
  · have := en.2
    simp only [List.length_append, List.length_map, List.length_replicate]
    omega
  · have := en.2
    unfold κ0
    simp only [List.length_append, List.length_map, List.length_replicate]
    omega
  · have fin : ∀ (v : V) (σ' : L2.St) (H' : Hp) (g' : G) (rr : Nat), X.N.length ≤ rr → Sok X.K (rcOf sg X.N.length).κr ρ g' σ' H' → Pres X.N.length X.N.length g H g' H' → Fx (rcOf sg X.N.length) (L2.start X.N vs) σ' → Own X.K H' g' d sg.r rr [] v → Q v H' := fun v σ' H' g' rr hr S' P' F' o' => by
      refine post v H' g' rr (Nat.le_trans h1 hr) S'.gok ⟨P'.fz, P'.un, fun a r p _ h3 _ => by omega, fun a r p _ h3 _ => by omega, P'.tu⟩ o' fun j k d' v' ek ed ev => ?_
      have ek' : (rcOf sg X.N.length).κr[j]? = some (some k) := by
        show (sg.ks' ++ _)[j]? = _
        rw [List.getElem?_append_left (List.getElem?_eq_some_iff.mp ek).1]
        exact ek
      have hρ := (outsD_get ex).2 j k d' (by rw [Nat.zero_add]; exact ek) ed
      rw [Nat.zero_add] at hρ
      obtain ⟨v2, e2, o2⟩ := S'.ok j k d' ek' hρ
      rw [F' j k ek', st j v' ev] at e2
      cases e2
      exact o2
    rcases eo with rfl | ⟨rfl, rfl⟩
    · exact fun v σ' H' g' rr hr S' P' F' o' => fin v σ' H' g' rr hr S' P' F' o'
    · exact fun σ' H' g' S' P' F' => fin .non σ' H' g' X.N.length (Nat.le_refl _) S' P' F' rfl
theorem fnSp_len {sg : Sg} {f : FM} {ps : List Str} (h : ps.length = sg.ks.length) (vs : List V) (H : Hp) (Q : VK) (E : XK) (q : fnSp K sg f vs H Q E) : vs.length = ps.length := by
  obtain ⟨g, ds, _, ao, _⟩ := q
  rw [(argsOk_len ao).2, h]
theorem fM_len {np n : Nat} {ks' : List (Option Nat)} {m : SM} (ds : List D) (d : D) (es : List D) (h : fM np n ks' m ds = some (d, es)) : ds.length = np ∧ es.length = np := by
  obtain ⟨h1, o, ρ, _, _, h2⟩ := fM_some h
  exact ⟨h1, by rw [(outsD_get h2).1, h1]⟩
/-- another function that says as much -/
theorem fnSp_imp {sg : Sg} {f f' : FM} (h : ∀ ds x, f' ds = some x → f ds = some x) (vs : List V) (H : Hp) (Q : VK) (E : XK) (q : fnSp K sg f' vs H Q E) : fnSp K sg f vs H Q E := by
  obtain ⟨g, ds, gok, ao, d, es, e, r⟩ := q
  exact ⟨g, ds, gok, ao, d, es, h _ _ e, r⟩
/-! ### calls -/
def mCall (f : FM) (ml : ML) : M := fun ρ => (ml ρ).bind fun x => (f x.1).map fun y => (y.1, x.2)
theorem mCall_some {f : FM} {ml : ML} {ρ ρ' : DE} {d : D} (h : mCall f ml ρ = some (d, ρ')) : ∃ ds es, ml ρ = some (ds, ρ') ∧ f ds = some (d, es) := by
  unfold mCall at h
  cases e : ml ρ with
  | none => rw [e] at h; cases h
  | some p =>
    rw [e] at h
    simp only [Option.bind_some] at h
    cases e2 : f p.1 with
    | none => rw [e2] at h; cases h
    | some b => rw [e2] at h; cases h; exact ⟨p.1, b.2, rfl, e2⟩
/-- all that stands is frozen -/
def gAll (H : Hp) : G := fun a => match H a with
  | none => .un
  | some _ => .fz
theorem gAll_fz {H : Hp} {a : Addr} (h : H a ≠ none) : gAll H a = .fz := by
  unfold gAll
  cases e : H a with
  | none => exact (h e).elim
  | some o => rfl
theorem gAll_gok (H : Hp) (a : Addr) (h : gAll H a ≠ .un) : H a ≠ none := fun e => h (by unfold gAll; rw [e])
theorem rep_all {H : Hp} : (d : D) → ∀ {v r p}, Rep K H d v → Own K H (gAll H) d 0 r p v
  | .non, _, _, _, h => h
  | .bl _, _, _, _, h => h
  | .int _, _, _, _, h => h
  | .str _, _, _, _, h => h
  | .tup ds, _, _, _, h => by
    obtain ⟨a, vs, e, ha, hl⟩ := h
    exact ⟨a, vs, e, ha, go ds hl⟩
  | .lst ds, _, _, _, h => by
    obtain ⟨a, vs, e, ha, hl⟩ := h
    exact ⟨a, vs, e, ha, gAll_fz (by rw [ha]; simp), go ds hl⟩
  | .rol ns, _, _, _, h => h
  | .dic q ds, _, _, _, h => by
    obtain ⟨a, vs, e, ha, hq, hl⟩ := h
    exact ⟨a, vs, e, ha.imp id fun z => ⟨rfl, z⟩, hq, gAll_fz (by rcases ha with z | ⟨o, z⟩ <;> rw [z] <;> simp), go ds hl⟩
where
  go : (ds : List D) → ∀ {vs r p i}, RepL K H ds vs → OwnL K H (gAll H) ds 0 r p i vs
  | [], _, _, _, _, h => h
  | d :: ds, _, _, _, _, h => by
    obtain ⟨v, w, e, h1, h2⟩ := h
    exact ⟨v, w, e, rep_all d h1, go ds h2⟩
theorem args_all {H : Hp} : ∀ {ds : List D} {vs : List V} {j n : Nat}, ds.length = n → RepL K H ds vs → ArgsOk K H (gAll H) (List.replicate n 0) j ds vs
  | [], _, _, _, e, h => by
    cases e
    cases (show _ = _ from h)
    exact ⟨rfl, rfl⟩
  | d :: ds, _, _, _, e, h => by
    cases e
    obtain ⟨v, w, rfl, h1, h2⟩ := h
    exact ⟨d, ds, v, w, rfl, rfl, rep_all d h1, args_all rfl h2⟩
/-- the arguments are looked at alone -/
theorem call_pure {e : Expr} {es : List Expr} {ml : ML} {ms : List Am} {pu : Bool} {f : FM} {n r : Nat} {ks' : List (Option Nat)} {E : XK} (ha : JA X κ es ml ms κ1 pu) (hm : allRz ms = true) (hlen : ∀ ds d es, f ds = some (d, es) → ds.length = n ∧ es.length = n)
    (mk : ∀ {t : TA}, PA X es t → PE X e (tCall (fnSp X.K ⟨List.replicate n 0, r, ks'⟩ f) [] E t)) {rz : Rz} (hr : rz = .rep ∨ (rz = .own r ∧ 99 ≤ r)) : J X κ e (mCall f ml) rz κ1 pu := by
  refine ⟨fun t ht => PE.imp (mk (ha.run t ht)) fun σ H Q z q => ?_, fun hp ρ d ρ' e => ?_⟩
  · obtain ⟨g, ρ, S, d, ρ', em, post⟩ := q z
    obtain ⟨ds, es, e1, e2⟩ := mCall_some em
    refine fun _ => ⟨g, ρ, S, ds, ρ', e1, fun vs H1 g1 S1 P1 s1 r1 => ?_⟩
    obtain ⟨l1, l2⟩ := hlen _ _ _ e2
    rw [List.append_nil]
    refine ⟨gAll H1, ds, gAll_gok H1, args_all l1 (rows_repL hm r1), d, es, e2, by rw [l1, l2], fun v H' g' rr hrr gok' P o _ => ?_⟩
    have sm : Same H1 H' := fun a u e => by rw [(P.fz a (gAll_fz (by rw [e]; simp))).2]; exact e
    have old : ∀ a, H1 a ≠ none → g' a = .fz := fun a h => (P.fz a (gAll_fz h)).1
    have sm' : ∀ a, H1 a ≠ none → H' a = H1 a := fun a h => (P.fz a (gAll_fz h)).2
    rcases hr with rfl | ⟨rfl, h99⟩
    · exact post v H' g1 (S1.grow sm) (P1.trans (Pres.grow S1.gok sm)) (fun e => (s1 e).trans sm) (own_rep d o)
    · let g2 : G := fun a => match H1 a with
        | some _ => g1 a
        | none => (match g' a with
          | .ow r' q => if r' = rr then .ow t q else .un
          | _ => .un)
      have g2o : ∀ a, H1 a ≠ none → g2 a = g1 a := fun a h => by
        show (match H1 a with | some _ => g1 a | none => _) = _
        cases e : H1 a with
        | none => exact (h e).elim
        | some u => rfl
      have g2n : ∀ a, H1 a = none → g2 a = (match g' a with
          | .ow r' q => if r' = rr then .ow t q else .un
          | _ => .un) := fun a h => by
        show (match H1 a with | some _ => g1 a | none => _) = _
        rw [h]
      have P2 : Pres X.N.length t g1 H1 g2 H' := by
        refine ⟨fun a h => ?_, fun a h hn => ⟨(g2o a hn).trans h, sm' a hn⟩, fun a r' p h1 h2 h => ?_, fun a r' p h1 h2 h => ?_, fun a u h _ => sm a u h⟩
        · have := S1.gok a (by rw [h]; simp)
          exact ⟨(g2o a this).trans h, sm' a this⟩
        · have := S1.gok a (by rw [h]; simp)
          exact ⟨(g2o a this).trans h, sm' a this⟩
        · cases e : H1 a with
          | some u => rw [g2o a (by rw [e]; simp)] at h; exact h
          | none =>
            rw [g2n a e] at h
            split at h
            · split at h
              · cases h; omega
              · cases h
            · cases h
      refine post v H' g2 ⟨fun i k d' h1 h2 => ?_, fun a h => ?_, S1.len, S1.lek⟩ (P1.trans P2) (fun e => (s1 e).trans sm) ?_
      · obtain ⟨v', e', o'⟩ := S1.ok i k d' h1 h2
        refine ⟨v', e', own_conv (fun a u z _ => sm a u z) d' (.inr fun a z => P2.fz a z) (fun a q z hh => ?_) (fun _ z => z) o'⟩
        have := S1.gok a (by rw [z]; simp)
        exact ⟨sm' a this, by rw [if_pos hh, g2o a this]; exact z⟩
      · cases e : H1 a with
        | some u => rw [sm' a (by rw [e]; simp), e]; simp
        | none =>
          rw [g2n a e] at h
          refine gok' a fun z => ?_
          rw [z] at h
          exact h rfl
      · refine own_conv (fun _ _ z _ => z) d (.inl h99) (fun a q z hh => ⟨rfl, ?_⟩) (fun _ z => z) o
        have e : H1 a = none := by
          cases e : H1 a with
          | none => rfl
          | some u =>
            have := old a (by rw [e]; simp)
            rw [z] at this
            cases this
        rw [if_pos hh, g2n a e, z]
        simp
  · obtain ⟨ds, es, e1, e2⟩ := mCall_some e
    exact ha.pur hp _ _ _ e1
end VS
namespace VS
open PySem PySem.Spec PyProof.Rows L2
variable {K : PySem.W.Frag} {X : Cx} {κ κ1 κ2 κ3 κ4 : OE} {pos : Pos} {rc : RC}
/-! ### calls that own what they are handed; one argument may be a slot's own object -/
def ioR (io : Option (Nat × Nat)) (r : Nat) : Option Nat := match io with
  | some (j0, i0) => if r = i0 then some j0 else none
  | none => none
/-- the modes fit the promise -/
def msOk (io : Option (Nat × Nat)) (κ : OE) : Nat → List Am → List Nat → Bool
  | _, [], [] => true
  | j, .rz (.own k) :: ms, k' :: ks => decide (k = k') && msOk io κ (j + 1) ms ks
  | j, .io i :: ms, k' :: ks => decide (io = some (j, i)) && (decide (κ[i]? = some (some k')) && msOk io κ (j + 1) ms ks)
  | _, _, _ => false
def gcall (t m : Nat) (io : Option (Nat × Nat)) (g : G) : G := fun a => match g a with
  | .ow r q => if t ≤ r ∧ r < t + m then .ow (r - t) q else (match ioR io r with
    | some j => .ow j q
    | none => .un)
  | z => z
theorem msOk_len {io : Option (Nat × Nat)} {κ : OE} : ∀ {j : Nat} {ms : List Am} {ks : List Nat}, msOk io κ j ms ks = true → ms.length = ks.length
  | _, [], [], _ => rfl
  | _, .rz (.own k) :: ms, k' :: ks, h => by
    have h' : (decide (k = k') && msOk io κ _ ms ks) = true := h
    rw [Bool.and_eq_true] at h'
    simp [msOk_len h'.2]
  | _, .io i :: ms, k' :: ks, h => by
    have h' : (decide (io = some (_, i)) && (decide (κ[i]? = some (some k')) && msOk io κ _ ms ks)) = true := h
    simp only [Bool.and_eq_true] at h'
    simp [msOk_len h'.2.2]
  | _, [], _ :: _, h => by cases h
  | _, .rz .rep :: _, _, h => by cases h
  | _, .rz (.own _) :: _, [], h => by cases h
  | _, .io _ :: _, [], h => by cases h
theorem args_call {n t m : Nat} {io : Option (Nat × Nat)} {g : G} {H : Hp} {ρ : DE} {σ : L2.St} (S : Sok K κ ρ g σ H) (hσ : σ.length = n) (hn : n ≤ t) : ∀ {j : Nat} {ms : List Am} {ks : List Nat} {ds : List D} {vs : List V}, msOk io κ j ms ks = true → j + ms.length ≤ m →
    RowsOk K H g σ ρ (t + j) ms ds vs → ArgsOk K H (gcall t m io g) ks j ds vs
  | _, [], [], _, _, _, _, h => h
  | j, .rz (.own k) :: ms, k' :: ks, _, _, h, hl, r => by
    have h' : (decide (k = k') && msOk io κ (j + 1) ms ks) = true := h
    rw [Bool.and_eq_true, decide_eq_true_eq] at h'
    obtain ⟨rfl, h'⟩ := h'
    obtain ⟨d, ds', v, vs', rfl, rfl, h1, h2⟩ := r
    simp only [List.length_cons] at hl
    refine ⟨d, ds', v, vs', rfl, rfl, own_conv (fun _ _ z _ => z) d (.inr fun a z => ⟨by unfold gcall; rw [z], rfl⟩) (fun a q z hh => ⟨rfl, ?_⟩) (fun _ z => z) h1, args_call S hσ hn h' (by omega) (by rw [← Nat.add_assoc]; exact h2)⟩
    rw [if_pos hh]
    unfold gcall
    rw [z]
    simp only []
    rw [if_pos (by omega)]
    congr 1
    omega
  | j, .io i :: ms, k' :: ks, _, _, h, hl, r => by
    have h' : (decide (io = some (j, i)) && (decide (κ[i]? = some (some k')) && msOk io κ (j + 1) ms ks)) = true := h
    simp only [Bool.and_eq_true, decide_eq_true_eq] at h'
    obtain ⟨e1, e2, h'⟩ := h'
    obtain ⟨d, ds', v, vs', rfl, rfl, ⟨h1, h3⟩, h2⟩ := r
    simp only [List.length_cons] at hl
    obtain ⟨v2, e3, o⟩ := S.ok i k' d e2 h3
    rw [h1] at e3
    cases e3
    have hi : i < t := by
      have := (List.getElem?_eq_some_iff.mp h1).1
      omega
    refine ⟨d, ds', v, vs', rfl, rfl, own_conv (fun _ _ z _ => z) d (.inr fun a z => ⟨by unfold gcall; rw [z], rfl⟩) (fun a q z hh => ⟨rfl, ?_⟩) (fun _ z => z) o, args_call S hσ hn h' (by omega) (by rw [← Nat.add_assoc]; exact h2)⟩
    rw [if_pos hh]
    unfold gcall
    rw [z]
    simp only []
    rw [if_neg (by omega), e1]
    simp [ioR]
  | _, [], _ :: _, _, _, h, _, _ => by cases h
  | _, .rz .rep :: _, _, _, _, h, _, _ => by cases h
  | _, .rz (.own _) :: _, [], _, _, h, _, _ => by cases h
  | _, .io _ :: _, [], _, _, h, _, _ => by cases h
/-- the ghost map behind the call -/
def gback (t m rr : Nat) (io : Option (Nat × Nat)) (g g' : G) : G := fun a => match g' a with
  | .fz => .fz
  | .ow r q => if r = rr then .ow t q else (match io with
    | some (j0, i0) => if r = j0 then .ow i0 q else .un
    | none => .un)
  | .un => (match gcall t m io g a with
    | .un => g a
    | _ => .un)
def upO (io : Option (Nat × Nat)) (ks' : List (Option Nat)) (κ : OE) : OE := match io with
  | some (j0, i0) => κ.set i0 ((ks'[j0]?).getD none)
  | none => κ
def upD (io : Option (Nat × Nat)) (es : List D) (ρ : DE) : DE := match io with
  | some (j0, i0) => ρ.set i0 es[j0]?
  | none => ρ
def mCallO (f : FM) (io : Option (Nat × Nat)) (ml : ML) : M := fun ρ => (ml ρ).bind fun x => (f x.1).map fun y => (y.1, upD io y.2 x.2)
theorem mCallO_some {f : FM} {io : Option (Nat × Nat)} {ml : ML} {ρ ρ' : DE} {d : D} (h : mCallO f io ml ρ = some (d, ρ')) : ∃ ds ρ1 es, ml ρ = some (ds, ρ1) ∧ f ds = some (d, es) ∧ ρ' = upD io es ρ1 := by
  unfold mCallO at h
  cases e : ml ρ with
  | none => rw [e] at h; cases h
  | some p =>
    rw [e] at h
    simp only [Option.bind_some] at h
    cases e2 : f p.1 with
    | none => rw [e2] at h; cases h
    | some b => rw [e2] at h; cases h; exact ⟨p.1, p.2, b.2, rfl, e2, rfl⟩
def ioIn (io : Option (Nat × Nat)) (m n : Nat) : Bool := match io with
  | some (j0, i0) => decide (j0 < m) && decide (i0 < n)
  | none => true
theorem rows_io {H : Hp} {g : G} {σ : L2.St} {ρ : DE} {j0 i0 : Nat} {κ : OE} : ∀ {ms : List Am} {t j : Nat} {ks : List Nat} {ds : List D} {vs : List V}, msOk (some (j0, i0)) κ j ms ks = true → RowsOk K H g σ ρ t ms ds vs →
    ∀ i, ms[i]? = some (.io i0) → j + i = j0 ∧ ∃ v, vs[i]? = some v ∧ σ[i0]? = some (some v)
  | [], _, _, _, _, _, _, _, i, e => by simp at e
  | .rz (.own k) :: ms, t, j, k' :: ks, _, _, h, r, i, e => by
    have h' : (decide (k = k') && msOk (some (j0, i0)) κ (j + 1) ms ks) = true := h
    rw [Bool.and_eq_true] at h'
    obtain ⟨d, ds', v, vs', rfl, rfl, h1, h2⟩ := r
    cases i with
    | zero => cases e
    | succ i =>
      obtain ⟨q1, q2⟩ := rows_io h'.2 h2 i e
      exact ⟨by omega, q2⟩
  | .io i :: ms, t, j, k' :: ks, _, _, h, r, i2, e => by
    have h' : (decide (some (j0, i0) = some (j, i)) && (decide (κ[i]? = some (some k')) && msOk (some (j0, i0)) κ (j + 1) ms ks)) = true := h
    simp only [Bool.and_eq_true, decide_eq_true_eq] at h'
    obtain ⟨d, ds', v, vs', rfl, rfl, h1, h2⟩ := r
    cases i2 with
    | zero =>
      have e1 := h'.1
      cases e1
      exact ⟨rfl, v, rfl, h1.1⟩
    | succ i2 =>
      obtain ⟨q1, q2⟩ := rows_io h'.2.2 h2 i2 e
      exact ⟨by omega, q2⟩
  | .rz .rep :: _, _, _, _, _, _, h, _, _, _ => by cases h
  | .rz (.own _) :: _, _, _, [], _, _, h, _, _, _ => by cases h
  | .io _ :: _, _, _, [], _, _, h, _, _, _ => by cases h
def ioThere (io : Option (Nat × Nat)) (ms : List Am) : Bool := match io with
  | some (j0, i0) => (match ms[j0]? with
    | some (.io i) => decide (i = i0)
    | _ => false)
  | none => true
theorem call_own {e : Expr} {es : List Expr} {ml : ML} {ms : List Am} {pu : Bool} {f : FM} {sg : Sg} {io : Option (Nat × Nat)} {E : XK} (ha : JA X κ es ml ms κ1 pu) (hm : msOk io κ1 0 ms sg.ks = true) (hio : ioIn io sg.ks.length X.N.length = true) (hth : ioThere io ms = true)
    (hlen : ∀ ds d es, f ds = some (d, es) → es.length = ds.length)
    (mk : ∀ {t : TA}, PA X es t → PE X e (tCall (fnSp X.K sg f) [] E t)) : J X κ e (mCallO f io ml) (.own sg.r) (upO io sg.ks' κ1) false := by
  refine ⟨fun t ht => PE.imp (mk (ha.run t ht)) fun σ H Q z q => ?_, fun hp => by cases hp⟩
  obtain ⟨g, ρ, S, d, ρ', em, post⟩ := q z
  obtain ⟨ds, ρ1, es, e1, e2, rfl⟩ := mCallO_some em
  refine fun _ => ⟨g, ρ, S, ds, ρ1, e1, fun vs H1 g1 S1 P1 s1 r1 => ?_⟩
  have hml := msOk_len hm
  show fnSp X.K sg f (vs ++ []) H1 Q E
  rw [List.append_nil]
  have lenσ : σ.length = X.N.length := z.2
  have ao : ArgsOk X.K H1 (gcall t sg.ks.length io g1) sg.ks 0 ds vs := args_call S1 lenσ ht (j := 0) hm (by omega) r1
  have gcn : ∀ a, gcall t sg.ks.length io g1 a ≠ .un → g1 a ≠ .un := fun a h zz => h (by unfold gcall; rw [zz])
  refine ⟨_, ds, fun a h => S1.gok a (gcn a h), ao, d, es, e2, hlen _ _ _ e2, fun v H' g' rr hrr gok' P o ap => ?_⟩
  -- the map behind
  have bfz : ∀ a, g' a = .fz → gback t sg.ks.length rr io g1 g' a = .fz := fun a h => by unfold gback; rw [h]
  have keep : ∀ a, gcall t sg.ks.length io g1 a = .un → H1 a ≠ none → gback t sg.ks.length rr io g1 g' a = g1 a ∧ H' a = H1 a := fun a h hn => by
    obtain ⟨h1, h2⟩ := P.un a h hn
    refine ⟨?_, h2⟩
    unfold gback
    rw [h1]
    simp only []
    rw [h]
  have cfz : ∀ a, g1 a = .fz → gcall t sg.ks.length io g1 a = .fz := fun a h => by unfold gcall; rw [h]
  have cun : ∀ a, g1 a = .un → gcall t sg.ks.length io g1 a = .un := fun a h => by unfold gcall; rw [h]
  have cow : ∀ a r q, g1 a = .ow r q → r < t → ioR io r = none → gcall t sg.ks.length io g1 a = .un := fun a r q h hr hi => by
    unfold gcall
    rw [h]
    simp only []
    rw [if_neg (by omega), hi]
  have ion : ∀ r, X.N.length ≤ r → ioR io r = none := fun r hr => by
    cases io with
    | none => rfl
    | some p =>
      obtain ⟨j0, i0⟩ := p
      have : decide (j0 < sg.ks.length) = true ∧ decide (i0 < X.N.length) = true := by
        have h : (decide (j0 < sg.ks.length) && decide (i0 < X.N.length)) = true := hio
        rw [Bool.and_eq_true] at h
        exact h
      have h2 := of_decide_eq_true this.2
      show (if r = i0 then some j0 else none) = none
      rw [if_neg (by omega)]
  have P2 : Pres X.N.length t g1 H1 (gback t sg.ks.length rr io g1 g') H' := by
    refine ⟨fun a h => ?_, fun a h hn => ?_, fun a r p h1 h2 h => ?_, fun a r p h1 h2 h => ?_, fun a u h hs => P.tu a u h hs⟩
    · obtain ⟨h3, h4⟩ := P.fz a (cfz a h)
      exact ⟨bfz a h3, h4⟩
    · obtain ⟨h3, h4⟩ := keep a (cun a h) hn
      exact ⟨h3.trans h, h4⟩
    · obtain ⟨h3, h4⟩ := keep a (cow a r p h h2 (ion r h1)) (S1.gok a (by rw [h]; simp))
      exact ⟨h3.trans h, h4⟩
    · unfold gback at h
      split at h
      · cases h
      · split at h
        · cases h; omega
        · split at h
          · rename_i j0 i0
            split at h
            · cases h
              have h' : (decide (j0 < sg.ks.length) && decide (r < X.N.length)) = true := hio
              rw [Bool.and_eq_true] at h'
              have := of_decide_eq_true h'.2
              omega
            · cases h
          · cases h
      · split at h
        · exact h
        · cases h
  refine post v H' _ ⟨fun i k d' h1 h2 => ?_, fun a h => ?_, ?_, ?_⟩ (P1.trans P2) (fun e => by cases e) ?_
  · -- the slots
    cases hio2 : ioR io i with
    | none =>
      have h1' : κ1[i]? = some (some k) := by
        cases io with
        | none => exact h1
        | some p =>
          obtain ⟨j0, i0⟩ := p
          have hne : i ≠ i0 := fun e => by
            have : (if i = i0 then some j0 else none) = none := hio2
            rw [if_pos e] at this
            cases this
          have h1'' : (κ1.set i0 ((sg.ks'[j0]?).getD none))[i]? = some (some k) := h1
          rw [List.getElem?_set_ne (Ne.symm hne)] at h1''
          exact h1''
      have h2' : ρ1[i]? = some (some d') := by
        cases io with
        | none => exact h2
        | some p =>
          obtain ⟨j0, i0⟩ := p
          have hne : i ≠ i0 := fun e => by
            have : (if i = i0 then some j0 else none) = none := hio2
            rw [if_pos e] at this
            cases this
          have h2'' : (ρ1.set i0 es[j0]?)[i]? = some (some d') := h2
          rw [List.getElem?_set_ne (Ne.symm hne)] at h2''
          exact h2''
      obtain ⟨v', e', o'⟩ := S1.ok i k d' h1' h2'
      have hi : i < t := by
        have := (List.getElem?_eq_some_iff.mp e').1
        omega
      refine ⟨v', e', own_conv (fun a u z hz => P.tu a u z hz) d' (.inr fun a z => P2.fz a z) (fun a q z hh => ?_) (fun _ z => z) o'⟩
      obtain ⟨h3, h4⟩ := keep a (cow a i _ z hi hio2) (S1.gok a (by rw [z]; simp))
      exact ⟨h4, by rw [if_pos hh]; exact h3.trans z⟩
    | some j =>
      cases io with
      | none => cases hio2
      | some p =>
        obtain ⟨j0, i0⟩ := p
        have e3 : i = i0 ∧ j0 = j := by
          have : (if i = i0 then some j0 else none) = some j := hio2
          by_cases e : i = i0
          · rw [if_pos e] at this; cases this; exact ⟨e, rfl⟩
          · rw [if_neg e] at this; cases this
        obtain ⟨rfl, rfl⟩ := e3
        have h1'' : (κ1.set i ((sg.ks'[j0]?).getD none))[i]? = some (some k) := h1
        have h2'' : (ρ1.set i es[j0]?)[i]? = some (some d') := h2
        rcases set_some h1'' with ⟨_, ek, _⟩ | ⟨hh, _⟩
        · rcases set_some h2'' with ⟨_, ed, _⟩ | ⟨hh, _⟩
          · have ek' : sg.ks'[j0]? = some (some k) := by
              cases q : sg.ks'[j0]? with
              | none => rw [q] at ek; cases ek
              | some o => rw [q] at ek; cases ek; rfl
            have hth' : ms[j0]? = some (.io i) := by
              have h : (match ms[j0]? with
                | some (.io i2) => decide (i2 = i)
                | _ => false) = true := hth
              split at h
              · rename_i i2 e4
                rw [of_decide_eq_true h] at e4
                exact e4
              · cases h
            obtain ⟨_, v', ev, es'⟩ := rows_io hm r1 j0 hth'
            refine ⟨v', es', own_conv (fun a u z _ => z) d' (.inr fun a z => ⟨bfz a z, rfl⟩) (fun a q z hh => ⟨rfl, ?_⟩) (fun _ z => z) (ap j0 k d' v' ek' ed.symm ev)⟩
            rw [if_pos hh]
            unfold gback
            rw [z]
            simp only []
            have hj : j0 < sg.ks.length := by
              have h' : (decide (j0 < sg.ks.length) && decide (i < X.N.length)) = true := hio
              rw [Bool.and_eq_true] at h'
              exact of_decide_eq_true h'.1
            rw [if_neg (by omega)]
            simp
          · exact (hh rfl).elim
        · exact (hh rfl).elim
  · unfold gback at h
    split at h
    · exact gok' a (by rename_i e; rw [e]; simp)
    · exact gok' a (by rename_i e; rw [e]; simp)
    · rename_i e
      split at h
      · rename_i e2
        have hn := S1.gok a h
        rw [(P.un a e2 hn).2]
        exact hn
      · exact (h rfl).elim
  · cases io with
    | none => exact S1.len
    | some p => show (ρ1.set _ _).length = _; rw [List.length_set]; exact S1.len
  · cases io with
    | none => exact S1.lek
    | some p => show (κ1.set _ _).length = _; rw [List.length_set]; exact S1.lek
  · refine own_conv (fun _ _ z _ => z) d (.inr fun a z => ⟨bfz a z, rfl⟩) (fun a q z hh => ⟨rfl, ?_⟩) (fun _ z => z) o
    rw [if_pos hh]
    unfold gback
    rw [z]
    simp
end VS
namespace VS
open PySem PySem.Spec PyProof.Rows L2
variable {K : PySem.W.Frag} {X : Cx} {κ κ1 κ2 κ3 κ4 : OE} {pos : Pos} {rc : RC}
/-! ### a slot's own list gets other contents -/
/-- new contents at L, the rest of the slots as they were -/
theorem Sok.rewrite {ρ : DE} {g g' : G} {σ : L2.St} {H H' : Hp} {i k : Nat} {L : Addr} {dN : D} {o : HO} (S : Sok K κ ρ g σ H) (hk : κ[i]? = some (some k)) (hv : σ[i]? = some (some (.ref L)))
    (hL : H L = some o) (hs : stb o = false) (hg : g L = .ow i []) (hH : ∀ a, a ≠ L → H' a = H a) (hL' : H' L ≠ none) (hg' : ∀ a, g a ≠ .un → (∀ q, g a ≠ .ow i q) → (∀ r q, g a = .ow r q → r < σ.length) → g' a = g a) (hgz : ∀ a, g a = .fz → g' a = .fz) (hgn : ∀ a, g' a ≠ .un → g a ≠ .un)
    (o' : Own K H' g' dN k i [] (.ref L)) : Sok K κ (ρ.set i (some dN)) g' σ H' where
  ok := fun j k' d' h1 h2 => by
    rcases set_some h2 with ⟨rfl, e, _⟩ | ⟨hj, h2⟩
    · cases e
      rw [hk] at h1
      cases h1
      exact ⟨_, hv, o'⟩
    · obtain ⟨v', es, w⟩ := S.ok j k' d' h1 h2
      have hjl := (List.getElem?_eq_some_iff.mp es).1
      refine ⟨v', es, own_conv (fun a u z hz => ?_) d' (.inr fun a z => ⟨hgz a z, hH a ?_⟩) (fun a q z hh => ⟨hH a ?_, ?_⟩) (fun _ z => z) w⟩
      · rw [hH a]
        · exact z
        · rintro rfl
          rw [hL] at z
          cases z
          rw [hs] at hz
          cases hz
      · rintro rfl
        rw [hg] at z
        cases z
      · rintro rfl
        rw [hg] at z
        injection z with z1 z2
        exact hj z1.symm
      · rw [if_pos hh, hg' a (by rw [z]; simp) (fun q' e => by rw [z] at e; injection e with z1 z2; exact hj z1) (fun r q' e => by rw [z] at e; cases e; exact hjl)]
        exact z
  gok := fun a h => by
    by_cases e : a = L
    · subst e; exact hL'
    · rw [hH a e]; exact S.gok a (hgn a h)
  len := by rw [List.length_set]; exact S.len
  lek := S.lek
theorem Pres.rewrite {n t i : Nat} {g g' : G} {H H' : Hp} {L : Addr} {o : HO} (gok : ∀ a, g a ≠ .un → H a ≠ none) (hi : i < n) (hL : H L = some o) (hs : stb o = false) (hg : g L = .ow i []) (hH : ∀ a, a ≠ L → H' a = H a)
    (hgz : ∀ a, g a = .fz → g' a = .fz) (hgu : ∀ a, g a = .un → g' a = .un) (hgt : ∀ a r q, n ≤ r → r < t → g a = .ow r q → g' a = .ow r q) (hgm : ∀ a r q, n ≤ r → r < t → g' a = .ow r q → g a = .ow r q) : Pres n t g H g' H' where
  fz := fun a z => ⟨hgz a z, hH a (by rintro rfl; rw [hg] at z; cases z)⟩
  un := fun a z _ => ⟨hgu a z, hH a (by rintro rfl; rw [hg] at z; cases z)⟩
  tp := fun a r p h1 h2 z => ⟨hgt a r p h1 h2 z, hH a (by rintro rfl; rw [hg] at z; injection z with z1 z2; omega)⟩
  tm := hgm
  tu := fun a u z hz => by
    rw [hH a]
    · exact z
    · rintro rfl
      rw [hL] at z
      cases z
      rw [hs] at hz
      cases hz
/-- x.append(e) -/
def sApp (i : Nat) (me : M) : SM := fun ρ => match ρ[i]? with
  | some (some (.lst _)) => (me ρ).bind fun x => (match x.2[i]? with
    | some (some (.lst ds)) => if ds.length < 16777216 then some (.nx (x.2.set i (some (.lst (ds ++ [x.1]))))) else none
    | _ => none)
  | _ => none
theorem sApp_some {i : Nat} {me : M} {ρ : DE} {o : Out} (h : sApp i me ρ = some o) : ∃ ds0 d ρ1 ds, ρ[i]? = some (some (.lst ds0)) ∧ me ρ = some (d, ρ1) ∧ ρ1[i]? = some (some (.lst ds)) ∧ ds.length < sizeLine ∧ o = .nx (ρ1.set i (some (.lst (ds ++ [d])))) := by
  unfold sApp at h
  split at h
  · rename_i ds0 e0
    cases e : me ρ with
    | none => rw [e] at h; cases h
    | some p =>
      rw [e] at h
      simp only [Option.bind_some] at h
      split at h
      · rename_i ds e1
        split at h
        · cases h
          exact ⟨ds0, p.1, p.2, ds, e0, rfl, e1, by rw [sizeLine_eq]; assumption, rfl⟩
        · cases h
      · cases h
  · cases h
theorem lst_own {H : Hp} {g : G} {ds : List D} {k r : Nat} {p : List Nat} {v : V} (o : Own K H g (.lst ds) k r p v) (h0 : k ≠ 0) : ∃ L vs, v = .ref L ∧ H L = some (.lst vs) ∧ g L = .ow r p ∧ vs.length = ds.length := by
  obtain ⟨L, vs, e, h1, h2, h3⟩ := o
  rw [if_neg h0] at h2
  exact ⟨L, vs, e, h1, h2, ownL_len h3⟩
theorem js_app {e : Expr} {me : M} {i k : Nat} {k0 : Nat} {pu : Bool} {st : Stmt} (he : J X κ e me (.own (lv k)) κ1 pu) (hk0 : κ[i]? = some (some k0)) (hk : κ1[i]? = some (some k)) (h0 : k ≠ 0) (hi : i < X.N.length)
    (mk : ∀ {t : TE}, PE X e t → PS X st (tDrop (tBM X.K "list" rAppend (tVar i) (tCons t tNil)))) : JS X κ st (sApp i me) κ1 rc := by
  refine ⟨fun s0 t ht => PS.imp (mk (he.run t ht)) fun σ H D z q => ?_⟩
  obtain ⟨g, ρ, S, fx, o, em, post⟩ := q z
  obtain ⟨ds0, d, ρ1, ds, e0, e1, e2, hz, rfl⟩ := sApp_some em
  obtain ⟨v, ev, o0⟩ := S.ok i k0 _ hk0 e0
  obtain ⟨L, vs0, rfl, hL0, _⟩ := o0
  refine ⟨.ref L, ev, .inl ⟨rfl, vs0, SqL.of hL0⟩, fun _ => ⟨g, ρ, S, d, ρ1, e1, fun y H1 g1 S1 P1 s1 r1 => ?_⟩⟩
  obtain ⟨v', ev', o1⟩ := S1.ok i k _ hk e2
  rw [ev] at ev'
  cases ev'
  obtain ⟨L', vs, eL, hL, hg, hlen⟩ := lst_own o1 h0
  cases eL
  refine ⟨L, vs, y, rfl, rfl, hL, by rw [hlen]; exact hz, ?_⟩
  have hl : σ.length = X.N.length := z.2
  have o2 := own_push (y := y) t (by omega : i ≠ t) hL o1 h0 r1
  refine post σ _ (mvG t i [ds.length] (fun _ _ => false) g1) (S1.rewrite hk ev hL rfl hg (fun a h => upd_ne h) (by rw [upd_same]; simp) (fun a h1 h2 h3 => ?_) (fun a h => mvG_fz h) (fun a h => mvG_ne h) o2)
    (P1.trans (Pres.rewrite S1.gok hi hL rfl hg (fun a h => upd_ne h) (fun a h => mvG_fz h) (fun a h => mvG_un h) (fun a r q h1 h2 h => mvG_o (by omega) rfl h) fun a r q h1 h2 h => mvG_inv (by omega) h)) fx
  cases e : g1 a with
  | un => exact (h1 e).elim
  | fz => exact mvG_fz e
  | ow r q => exact mvG_o (by have := h3 r q e; omega) rfl e
/-! ### contents with frozen items: reverse, insert, pop, extend -/
theorem ownL_rev {H : Hp} {g : G} : ∀ {ds : List D} {vs : List V} {i j : Nat}, OwnL K H g ds 0 0 [] i vs → ∀ {es : List D} {ws : List V}, OwnL K H g es 0 0 [] j ws → OwnL K H g (ds.reverse ++ es) 0 0 [] j (vs.reverse ++ ws)
  | [], _, _, _, h, _, _, h2 => by cases (show _ = _ from h); exact h2
  | d :: ds, _, i, j, h, es, ws, h2 => by
    obtain ⟨v, w, rfl, o1, o2⟩ := h
    rw [List.reverse_cons, List.reverse_cons, List.append_assoc, List.append_assoc]
    exact ownL_rev (j := j) o2 ⟨v, ws, rfl, own_fz (fun a z => ⟨z, rfl⟩) (fun _ _ z _ => z) o1, ownL_fz (fun a z => ⟨z, rfl⟩) (fun _ _ z _ => z) h2⟩
theorem ownL_app {H : Hp} {g : G} : ∀ {ds : List D} {vs : List V} {i j l : Nat}, OwnL K H g ds 0 0 [] i vs → ∀ {es : List D} {ws : List V}, OwnL K H g es 0 0 [] j ws → OwnL K H g (ds ++ es) 0 0 [] l (vs ++ ws)
  | [], _, _, _, _, h, _, _, h2 => by cases (show _ = _ from h); exact ownL_fz (fun a z => ⟨z, rfl⟩) (fun _ _ z _ => z) h2
  | d :: ds, _, i, j, l, h, es, ws, h2 => by
    obtain ⟨v, w, rfl, o1, o2⟩ := h
    exact ⟨v, w ++ ws, rfl, own_fz (fun a z => ⟨z, rfl⟩) (fun _ _ z _ => z) o1, ownL_app o2 h2⟩
theorem ownL_take {H : Hp} {g : G} {k r : Nat} {p : List Nat} : ∀ (n : Nat) {ds : List D} {vs : List V} {i : Nat}, OwnL K H g ds k r p i vs → OwnL K H g (ds.take n) k r p i (vs.take n)
  | 0, _, _, _, _ => by simp only [List.take_zero]; rfl
  | n + 1, [], _, _, h => by cases (show _ = _ from h); rfl
  | n + 1, d :: ds, _, _, h => by
    obtain ⟨v, w, rfl, o1, o2⟩ := h
    exact ⟨v, _, rfl, o1, ownL_take n o2⟩
theorem ownL_drop {H : Hp} {g : G} : ∀ (n : Nat) {ds : List D} {vs : List V} {i : Nat}, OwnL K H g ds 0 0 [] i vs → OwnL K H g (ds.drop n) 0 0 [] i (vs.drop n)
  | 0, _, _, _, h => h
  | n + 1, [], _, _, h => by cases (show _ = _ from h); rfl
  | n + 1, d :: ds, _, _, h => by
    obtain ⟨v, w, rfl, o1, o2⟩ := h
    exact ownL_fz (fun a z => ⟨z, rfl⟩) (fun _ _ z _ => z) (ownL_drop n o2)
/-- the core: slot i owned one deep, other frozen items -/
theorem mut1 {n t i : Nat} {ρ : DE} {g : G} {σ : L2.St} {H : Hp} {L : Addr} {ds ds' : List D} {vs vs' : List V} (S : Sok K κ ρ g σ H) (hn : σ.length = n) (hk : κ[i]? = some (some 1)) (hv : σ[i]? = some (some (.ref L))) (hL : H L = some (.lst vs)) (hg : g L = .ow i [])
    (ol : OwnL K H g ds' 0 0 [] 0 vs') : Sok K κ (ρ.set i (some (.lst ds'))) g σ (upd H L (.lst vs')) ∧ Pres n t g H g (upd H L (.lst vs')) := by
  have hi : i < n := by
    have := (List.getElem?_eq_some_iff.mp hv).1
    omega
  have P : Pres n t g H g (upd H L (.lst vs')) := Pres.rewrite S.gok hi hL rfl hg (fun a h => upd_ne h) (fun _ z => z) (fun _ z => z) (fun _ _ _ _ _ z => z) fun _ _ _ _ _ z => z
  refine ⟨S.rewrite hk hv hL rfl hg (fun a h => upd_ne h) (by rw [upd_same]; simp) (fun _ _ _ _ => rfl) (fun _ z => z) (fun _ z => z) ?_, P⟩
  exact ⟨L, vs', rfl, upd_same, by rw [if_neg (by decide)]; exact hg, ownL_fz P.fz P.tu ol⟩
theorem own1_list {ρ : DE} {g : G} {σ : L2.St} {H : Hp} {i : Nat} {ds : List D} (S : Sok K κ ρ g σ H) (hk : κ[i]? = some (some 1)) (e : ρ[i]? = some (some (.lst ds))) : ∃ L vs, σ[i]? = some (some (.ref L)) ∧ H L = some (.lst vs) ∧ g L = .ow i [] ∧ OwnL K H g ds 0 0 [] 0 vs := by
  obtain ⟨v, ev, L, vs, rfl, h1, h2, h3⟩ := S.ok i 1 _ hk e
  rw [if_neg (by decide)] at h2
  exact ⟨L, vs, ev, h1, h2, ownL_fz (fun a z => ⟨z, rfl⟩) (fun _ _ z _ => z) h3⟩
/-- x.reverse() -/
def sRev (i : Nat) : SM := fun ρ => match ρ[i]? with
  | some (some (.lst ds)) => some (.nx (ρ.set i (some (.lst ds.reverse))))
  | _ => none
theorem js_rev {i : Nat} {st : Stmt} (hk : κ[i]? = some (some 1)) (mk : PS X st (tDrop (tBM0 X.K "list" rReverse (tVar i)))) : JS X κ st (sRev i) κ rc := by
  refine ⟨fun s0 t ht => PS.imp mk fun σ H D z q => ?_⟩
  obtain ⟨g, ρ, S, fx, o, em, post⟩ := q z
  unfold sRev at em
  split at em
  · rename_i ds e
    cases em
    obtain ⟨L, vs, ev, hL, hg, ol⟩ := own1_list S hk e
    refine ⟨.ref L, ev, .inl ⟨rfl, vs, SqL.of hL⟩, L, vs, rfl, rfl, hL, ?_⟩
    have ol2 := ownL_rev (j := 0) ol (es := []) (ws := []) rfl
    rw [List.append_nil, List.append_nil] at ol2
    obtain ⟨S2, P2⟩ := mut1 (n := X.N.length) (t := t) (ds := ds) S z.2 hk ev hL hg ol2
    exact post σ _ g S2 P2 fx
  · cases em
/-- name op= e on ints -/
def sAug (f : Int → Int → Int) (i : Nat) (me : M) : SM := fun ρ => match ρ[i]? with
  | some (some (.int a)) => (match me ρ with
    | some (.int b, ρ1) => some (.nx (ρ1.set i (some (.int (f a b)))))
    | _ => none)
  | _ => none
theorem js_aug {f : Int → Int → Int} {e : Expr} {me : M} {i k0 : Nat} {rz : Rz} {pu : Bool} {st : Stmt} (he : J X κ e me rz κ1 pu) (hk0 : κ[i]? = some (some k0)) (hi : i < X.N.length) (hf : notFx rc i = true)
    (mk : ∀ {t : TE}, PE X e t → PS X st (tAug i t (ipI f))) : JS X κ st (sAug f i me) (κ1.set i (some 99)) rc := by
  refine ⟨fun s0 t ht => PS.imp (mk (he.run t ht)) fun σ H D z q => ?_⟩
  obtain ⟨g, ρ, S, fx, o, em, post⟩ := q z
  unfold sAug at em
  split at em
  · rename_i a e0
    split at em
    · rename_i b ρ1 e1
      cases em
      obtain ⟨v, ev, o0⟩ := S.ok i k0 _ hk0 e0
      cases (show _ = _ from o0)
      refine ⟨.int a, ev, fun _ => ⟨g, ρ, S, .int b, ρ1, e1, fun y H1 g1 S1 P1 s1 r1 => ?_⟩⟩
      cases (show _ = _ from r1.rep)
      have hl : σ.length = X.N.length := z.2
      refine ⟨a, b, rfl, rfl, post _ H1 _ (S1.store (t := t) (d := .int (f a b)) (k := 99) (v := .int (f a b)) (by omega) (by omega) rfl) (P1.trans (Pres.store hi S1.gok)) (fx.set hf)⟩
    · cases em
  · cases em
/-- x[j] = e -/
def sSet (i : Nat) (me mj : M) : SM := fun ρ => (me ρ).bind fun x => match x.2[i]? with
  | some (some (.lst ds)) => (match mj x.2 with
    | some (.int k, ρ2) => (match ixN ds.length k with
      | some j => some (.nx (ρ2.set i (some (.lst (ds.set j x.1)))))
      | none => none)
    | _ => none)
  | _ => none
theorem sSet_some {i : Nat} {me mj : M} {ρ : DE} {o : Out} (h : sSet i me mj ρ = some o) : ∃ d ρ1 ds k ρ2 j, me ρ = some (d, ρ1) ∧ ρ1[i]? = some (some (.lst ds)) ∧ mj ρ1 = some (.int k, ρ2) ∧ ixN ds.length k = some j ∧ o = .nx (ρ2.set i (some (.lst (ds.set j d)))) := by
  unfold sSet at h
  cases e : me ρ with
  | none => rw [e] at h; cases h
  | some p =>
    rw [e] at h
    simp only [Option.bind_some] at h
    split at h
    · rename_i ds e1
      split at h
      · rename_i k ρ2 e2
        split at h
        · rename_i j e3
          cases h
          exact ⟨p.1, p.2, ds, k, ρ2, j, rfl, e1, e2, e3, rfl⟩
        · cases h
      · cases h
    · cases h
theorem own_setI {H : Hp} {g : G} {t k i j : Nat} {L : Addr} {ds : List D} {e : D} {y : V} {vs : List V} (ht : i ≠ t) (hL : H L = some (.lst vs)) (o : Own K H g (.lst ds) k i [] (.ref L)) (h0 : k ≠ 0) (oe : Own K H g e (lv k) t [] y) (hj : j < ds.length) :
    Own K (upd H L (.lst (vs.set j y))) (mvG t i [j] (fun _ _ => false) g) (.lst (ds.set j e)) k i [] (.ref L) := by
  obtain ⟨a, vs', e1, h1, h2, h3⟩ := o
  cases e1
  rw [hL] at h1
  cases h1
  rw [if_neg h0] at h2
  have nL : ∀ a r q, g a = .ow r q → (r ≠ i ∨ q ≠ []) → a ≠ L := fun a r q e h z => by
    subst z
    rw [h2] at e
    cases e
    rcases h with h | h
    · exact h rfl
    · exact h rfl
  have nf : ∀ a, g a = .fz → a ≠ L := fun a e z => by
    subst z
    rw [h2] at e
    cases e
  have st : ∀ a o, H a = some o → stb o = true → upd H L (.lst (vs.set j y)) a = some o := fun a o e hs => by
    rw [upd_ne]
    · exact e
    · rintro rfl
      rw [hL] at e
      cases e
      cases hs
  refine ⟨L, _, rfl, upd_same, by rw [if_neg h0]; exact mvG_o ht rfl h2, ?_⟩
  have conv1 : ∀ {d : D} {v : V} {m : Nat}, Own K H g d (lv k) i [m] v → Own K (upd H L (.lst (vs.set j y))) (mvG t i [j] (fun _ _ => false) g) d (lv k) i [m] v := fun {d v m} o1 =>
    own_conv st d (.inr fun a z => ⟨mvG_fz z, upd_ne (nf a z)⟩) (fun a q z hh => ⟨upd_ne (nL a _ _ z (.inr (by simp))), by rw [if_pos hh]; exact mvG_o ht rfl z⟩) (fun _ z => z) o1
  have all : ∀ {es : List D} {ws : List V} {m : Nat}, OwnL K H g es (lv k) i [] m ws → OwnL K (upd H L (.lst (vs.set j y))) (mvG t i [j] (fun _ _ => false) g) es (lv k) i [] m ws := by
    intro es
    induction es with
    | nil => intro ws m h; exact h
    | cons d es ih =>
      intro ws m h
      obtain ⟨v, w, rfl, o1, o2⟩ := h
      exact ⟨v, w, rfl, conv1 o1, ih o2⟩
  have put : ∀ {es : List D} {ws : List V} {m l : Nat}, m + l = j → l < es.length → OwnL K H g es (lv k) i [] m ws → OwnL K (upd H L (.lst (vs.set j y))) (mvG t i [j] (fun _ _ => false) g) (es.set l e) (lv k) i [] m (ws.set l y) := by
    intro es
    induction es with
    | nil => intro ws m l _ hl _; simp at hl
    | cons d es ih =>
      intro ws m l hml hl h
      obtain ⟨v, w, rfl, o1, o2⟩ := h
      cases l with
      | zero =>
        refine ⟨y, w, rfl, own_conv st e (.inr fun a z => ⟨mvG_fz z, upd_ne (nf a z)⟩) (fun a q z hh => ⟨upd_ne (nL a _ _ z (.inl (Ne.symm ht))), ?_⟩) (fun _ z => z) oe, all o2⟩
        rw [if_pos hh, mvG_t z]
        have : m = j := by omega
        subst this
        simp
      | succ l =>
        simp only [List.length_cons] at hl
        exact ⟨v, w.set l y, rfl, conv1 o1, ih (by omega) (by omega) o2⟩
  exact put (by omega) hj h3
theorem js_seti {e b : Expr} {me mj : M} {i k k1 : Nat} {rj : Rz} {pe : Bool} {st : Stmt} (he : J X κ e me (.own (lv k)) κ1 pe) (hj : J X κ1 b mj rj κ2 true) (hk1 : κ1[i]? = some (some k1)) (hk : κ2[i]? = some (some k)) (h0 : k ≠ 0)
    (mk : ∀ {te tj : TE}, PE X e te → PE X b tj → PS X st (tAsg te (gSub (tVar i) tj rSetL))) : JS X κ st (sSet i me mj) κ2 rc := by
  refine ⟨fun s0 t ht => PS.imp (mk (he.run t ht) (hj.run (t + 1) (by omega))) fun σ H D z q => ?_⟩
  obtain ⟨g, ρ, S, fx, o, em, post⟩ := q z
  obtain ⟨d, ρ1, ds, kk, ρ2, j, e1, e2, e3, e4, rfl⟩ := sSet_some em
  have hr := hj.pur rfl _ _ _ e3
  subst hr
  refine fun _ => ⟨g, ρ, S, d, ρ2, e1, fun y H1 g1 S1 P1 s1 r1 => ?_⟩
  obtain ⟨v, ev, o1⟩ := S1.ok i k1 _ hk1 e2
  refine ⟨v, ev, fun _ => ⟨g1, ρ2, S1, .int kk, ρ2, e3, fun u H2 g2 S2 P2 s2 r2 => ?_⟩⟩
  cases (show _ = _ from r2.rep)
  obtain ⟨v', ev', o2⟩ := S2.ok i k _ hk e2
  rw [ev] at ev'
  cases ev'
  obtain ⟨L, vs, rfl, hL, hg, hlen⟩ := lst_own o2 h0
  have hjl : j < ds.length := by
    unfold ixN at e4
    split at e4
    · split at e4
      · cases e4; omega
      · cases e4
    · split at e4
      · cases e4; omega
      · cases e4
  refine ⟨L, vs, kk, j, rfl, rfl, hL, by rw [hlen]; exact e4, ?_⟩
  have hl : σ.length = X.N.length := z.2
  have hi : i < σ.length := (List.getElem?_eq_some_iff.mp ev).1
  have r1' := P2.own ht (Nat.lt_succ_self t) r1
  have o3 := own_setI (t := t) (by omega : i ≠ t) hL o2 h0 r1' hjl
  refine post σ _ (mvG t i [j] (fun _ _ => false) g2) (S2.rewrite hk ev hL rfl hg (fun a h => upd_ne h) (by rw [upd_same]; simp) (fun a h1 h2 h3 => ?_) (fun a h => mvG_fz h) (fun a h => mvG_ne h) o3)
    (P1.trans ((P2.less (Nat.le_succ t)).trans (Pres.rewrite S2.gok (by omega) hL rfl hg (fun a h => upd_ne h) (fun a h => mvG_fz h) (fun a h => mvG_un h) (fun a r q h1 h2 h => mvG_o (by omega) rfl h) fun a r q h1 h2 h => mvG_inv (by omega) h))) fx
  cases e : g2 a with
  | un => exact (h1 e).elim
  | fz => exact mvG_fz e
  | ow r q => exact mvG_o (by have := h3 r q e; omega) rfl e
end VS
namespace VS
open PySem PySem.Spec PyProof.Rows L2
variable {K : PySem.W.Frag} {X : Cx} {κ κ1 κ2 κ3 κ4 : OE} {pos : Pos} {rc : RC}
/-! ### a new object at a row -/
def nwG (p : Addr) (t : Nat) (g : G) : G := fun a => if a = p then .ow t [] else g a
theorem nwG_p {p : Addr} {t : Nat} {g : G} : nwG p t g p = .ow t [] := if_pos rfl
theorem nwG_o {p a : Addr} {t : Nat} {g : G} (h : a ≠ p) : nwG p t g a = g a := if_neg h
theorem Sok.new {ρ : DE} {g : G} {σ : L2.St} {H : Hp} {p : Addr} {t : Nat} {o : HO} (S : Sok K κ ρ g σ H) (hp : H p = none) : Sok K κ ρ (nwG p t g) σ (upd H p o) := by
  have ne : ∀ a, g a ≠ .un → a ≠ p := fun a h z => S.gok a h (z ▸ hp)
  refine ⟨fun i k d h3 h4 => ?_, fun a h => ?_, S.len, S.lek⟩
  · obtain ⟨v, e, w⟩ := S.ok i k d h3 h4
    exact ⟨v, e, own_conv (fun a u z _ => same_new hp _ _ z) d (.inr fun a z => ⟨by rw [nwG_o (ne a (by rw [z]; simp))]; exact z, upd_ne (ne a (by rw [z]; simp))⟩) (fun a q z hh => ⟨upd_ne (ne a (by rw [z]; simp)), by rw [if_pos hh, nwG_o (ne a (by rw [z]; simp))]; exact z⟩) (fun _ z => z) w⟩
  · by_cases e : a = p
    · subst e; rw [upd_same]; simp
    · rw [upd_ne e]; rw [nwG_o e] at h; exact S.gok a h
theorem Pres.new {n t t' : Nat} {g : G} {H : Hp} {p : Addr} {o : HO} (gok : ∀ a, g a ≠ .un → H a ≠ none) (hp : H p = none) (ht : t ≤ t') : Pres n t g H (nwG p t' g) (upd H p o) := by
  have hne : ∀ a, H a ≠ none → a ≠ p := fun a h z => h (z ▸ hp)
  refine ⟨fun a z => ?_, fun a z hh => ?_, fun a r q h3 h4 z => ?_, fun a r q h3 h4 z => ?_, fun a u z _ => same_new hp _ _ z⟩
  · have := hne a (gok a (by rw [z]; simp))
    exact ⟨by rw [nwG_o this]; exact z, upd_ne this⟩
  · have := hne a hh
    exact ⟨by rw [nwG_o this]; exact z, upd_ne this⟩
  · have := hne a (gok a (by rw [z]; simp))
    exact ⟨by rw [nwG_o this]; exact z, upd_ne this⟩
  · by_cases e : a = p
    · subst e; rw [nwG_p] at z; cases z; omega
    · rw [nwG_o e] at z; exact z
/-- a new list of frozen items -/
theorem own_newL {H : Hp} {g : G} {p : Addr} {t : Nat} {ds : List D} {vs : List V} (gok : ∀ a, g a ≠ .un → H a ≠ none) (hp : H p = none) (ol : OwnL K H g ds 0 0 [] 0 vs) : Own K (upd H p (.lst vs)) (nwG p t g) (.lst ds) 1 t [] (.ref p) := by
  have ne : ∀ a, g a ≠ .un → a ≠ p := fun a h z => gok a h (z ▸ hp)
  exact ⟨p, vs, rfl, upd_same, by rw [if_neg (by decide)]; exact nwG_p, ownL_fz (fun a z => ⟨by rw [nwG_o (ne a (by rw [z]; simp))]; exact z, upd_ne (ne a (by rw [z]; simp))⟩) (fun a u z _ => same_new hp _ _ z) ol⟩
theorem own_newT {H : Hp} {g : G} {p : Addr} {t : Nat} {ds : List D} {vs : List V} (gok : ∀ a, g a ≠ .un → H a ≠ none) (hp : H p = none) (ol : OwnL K H g ds 0 0 [] 0 vs) : Own K (upd H p (.tup vs)) (nwG p t g) (.tup ds) 1 t [] (.ref p) := by
  have ne : ∀ a, g a ≠ .un → a ≠ p := fun a h z => gok a h (z ▸ hp)
  exact ⟨p, vs, rfl, upd_same, ownL_fz (fun a z => ⟨by rw [nwG_o (ne a (by rw [z]; simp))]; exact z, upd_ne (ne a (by rw [z]; simp))⟩) (fun a u z _ => same_new hp _ _ z) ol⟩
/-- how an operation gives its answer: as it stands, a new list, a new tuple, of frozen items -/
def Gives (K : PySem.W.Frag) (z : D) (H : Hp) (Q : VK) : Prop :=
  (∀ v, Rep K H z v → Q v H) ∨
  (∃ ds vs, z = .lst ds ∧ RepL K H ds vs ∧ ∀ p, H p = none → Q (.ref p) (upd H p (.lst vs)))
/-- .. in own words, asked of the ghost map: the rows that hold the operands are frozen -/
def GivesO (K : PySem.W.Frag) (g : G) (z : D) (H : Hp) (Q : VK) : Prop :=
  (∀ v, Own K H g z 1 0 [] v → Q v H) ∨
  (∃ ds vs, z = .lst ds ∧ OwnL K H g ds 0 0 [] 0 vs ∧ ∀ p, H p = none → Q (.ref p) (upd H p (.lst vs))) ∨
  (∃ ds vs, z = .tup ds ∧ OwnL K H g ds 0 0 [] 0 vs ∧ ∀ p, H p = none → Q (.ref p) (upd H p (.tup vs)))
theorem gives_post {n t : Nat} {g : G} {σ : L2.St} {H : Hp} {ρ : DE} {z : D} {vs : List V} {ds : List D} {b : Bool} {Q : VK} {pu : Bool} (S : Sok K κ ρ g σ H) (hz : z = (if b then .lst ds else .tup ds)) (ol : OwnL K H g ds 0 0 [] 0 vs) {g0 : G} {H0 : Hp} (P : Pres n t g0 H0 g H) (s : pu = true → Same H0 H)
    (post : jPost K n t κ (.own 1) pu g0 σ H0 z ρ Q) (p : Addr) (hp : H p = none) : Q (.ref p) (upd H p (if b then .lst vs else .tup vs)) := by
  refine post (.ref p) _ (nwG p t g) (S.new hp) (P.trans (Pres.new S.gok hp (Nat.le_refl t))) (fun e => (s e).trans (same_new hp)) ?_
  cases b with
  | true => rw [hz]; exact own_newL S.gok hp ol
  | false => rw [hz]; exact own_newT S.gok hp ol
theorem rep_post {n t : Nat} {g : G} {σ : L2.St} {H : Hp} {ρ : DE} {z : D} {o : HO} {Q : VK} {pu : Bool} (S : Sok K κ ρ g σ H) {g0 : G} {H0 : Hp} (P : Pres n t g0 H0 g H) (s : pu = true → Same H0 H)
    (post : jPost K n t κ .rep pu g0 σ H0 z ρ Q) (p : Addr) (hp : H p = none) (r : Rep K (upd H p o) z (.ref p)) : Q (.ref p) (upd H p o) :=
  post (.ref p) _ g (S.grow (same_new hp)) (P.trans (Pres.grow S.gok (same_new hp))) (fun e => (s e).trans (same_new hp)) r
/-! ### a + b of lists, tuples, texts, ints -/
def dCat : D → D → Option D
  | .int i, .int j => some (.int (i + j))
  | .str i, .str j => if i.length + j.length ≤ 16777216 then some (.str (i ++ j)) else none
  | .lst xs, .lst ys => if xs.length + ys.length ≤ 16777216 then some (.lst (xs ++ ys)) else none
  | .tup xs, .tup ys => if xs.length + ys.length ≤ 16777216 then some (.tup (xs ++ ys)) else none
  | _, _ => none
def rCatD (K : PySem.W.Frag) : R2 := fun x y H Q => (rDat K dAdd x y H Q ∨ rCat x y H Q) ∨ rCatA K x y H Q
theorem o_cat : OpR X (binaryOp .Add) (rCatD X.K) := (o_add.or op_cat).or op_catA
theorem repL_nil {H : Hp} {ds : List D} {vs : List V} (h : RepL K H ds vs) (e : vs = []) : ds = [] := by
  cases ds with
  | nil => rfl
  | cons d ds => obtain ⟨v, w, rfl, _⟩ := h; cases e
theorem cat_rep {H : Hp} {x y z : D} {v u : V} {Q : VK} (e : dCat x y = some z) (rx : Rep K H x v) (ry : Rep K H y u) (q0 : ∀ w, Rep K H z w → Q w H) (q1 : ∀ p o, H p = none → Rep K (upd H p o) z (.ref p) → Q (.ref p) (upd H p o)) : rCatD K v u H Q := by
  unfold dCat at e
  split at e
  · cases e
    exact .inl (.inl ⟨_, _, _, rx, ry, rfl, rfl, q0 _ rfl⟩)
  · split at e
    · cases e
      exact .inl (.inl ⟨_, _, _, rx, ry, (by simp only [dAdd]; rw [if_pos (by assumption)] : dAdd _ _ = some (.str _)), rfl, q0 _ rfl⟩)
    · cases e
  · split at e
    · cases e
      obtain ⟨a, vs, rfl, ha, hl⟩ := rx
      obtain ⟨b, ws, rfl, hb, hm⟩ := ry
      refine .inl (.inr ⟨a, b, vs, ws, rfl, rfl, ha, hb, by rw [repL_len hl, repL_len hm, sizeLine_eq]; assumption, fun p hp => q1 p _ hp ?_⟩)
      exact ⟨p, _, rfl, upd_same, repL_mono (same_new hp) _ (repL_app hl hm)⟩
    · cases e
  · split at e
    · cases e
      obtain ⟨a, vs, rfl, ha, hl⟩ := rx
      obtain ⟨b, ws, rfl, hb, hm⟩ := ry
      refine .inr ⟨a, b, vs, ws, rfl, rfl, SqT.of ha, SqT.of hb, by rw [repL_len hl, repL_len hm, sizeLine_eq]; assumption, fun h => ?_, fun _ h => ?_, fun _ _ p hp => q1 p _ hp ?_⟩
      · have := repL_nil hl h
        subst this h
        exact q0 _ ⟨b, ws, rfl, hb, hm⟩
      · have := repL_nil hm h
        subst this h
        rw [List.append_nil] at q0
        exact q0 _ ⟨a, vs, rfl, ha, hl⟩
      · exact ⟨p, _, rfl, upd_same, repL_mono (same_new hp) _ (repL_app hl hm)⟩
    · cases e
  · cases e
theorem j_cat {a b e : Expr} {ma mb : M} {ra rb : Rz} {pa pb : Bool} (ha : J X κ a ma ra κ1 pa) (hb : J X κ1 b mb rb κ2 pb) (ok : okk ra pb = true) (mk : ∀ {ta tb : TE}, PE X a ta → PE X b tb → PE X e (tOp (rCatD X.K) ta tb)) : J X κ e (m2 dCat ma mb) .rep κ2 (pa && pb) := by
  refine ⟨fun t ht => PE.imp (mk (ha.run t ht) (hb.run (t + 1) (by omega))) fun σ H Q z q => ?_, fun hp ρ d ρ' h => ?_⟩
  · obtain ⟨g, ρ, S, d, ρ', em, post⟩ := q z
    obtain ⟨x, ρ1, y, ea, eb, ec⟩ := m2_some em
    refine two (K := X.K) (κ2 := κ2) ht ok S ea eb z fun v u H' g' S' P' s' r1 r2 => ?_
    exact cat_rep ec r1.rep r2.rep (fun w hw => post w H' g' S' P' s' hw) fun p o hp r => rep_post S' P' s' post p hp r
  · rw [Bool.and_eq_true] at hp
    obtain ⟨x, ρ1, y, ea, eb, ec⟩ := m2_some h
    rw [hb.pur hp.2 _ _ _ eb, ha.pur hp.1 _ _ _ ea]
theorem j_catO {a b e : Expr} {ma mb : M} {pa pb : Bool} (ha : J X κ a ma (.own 0) κ1 pa) (hb : J X κ1 b mb (.own 0) κ2 pb) (mk : ∀ {ta tb : TE}, PE X a ta → PE X b tb → PE X e (tOp (rCatD X.K) ta tb)) : J X κ e (m2 dCat ma mb) (.own 1) κ2 (pa && pb) := by
  refine ⟨fun t ht => PE.imp (mk (ha.run t ht) (hb.run (t + 1) (by omega))) fun σ H Q z q => ?_, fun hp ρ d ρ' h => ?_⟩
  · obtain ⟨g, ρ, S, d, ρ', em, post⟩ := q z
    obtain ⟨x, ρ1, y, ea, eb, ec⟩ := m2_some em
    refine two (K := X.K) (κ2 := κ2) ht rfl S ea eb z fun v u H' g' S' P' s' r1 r2 => ?_
    unfold dCat at ec
    have f0 : ∀ {d : D} {w : V} {r : Nat}, Own X.K H' g' d 0 r [] w → ∀ {ds}, d = .lst ds ∨ d = .tup ds → ∃ a vs, w = .ref a ∧ (d = .lst ds → H' a = some (.lst vs)) ∧ (d = .tup ds → H' a = some (.tup vs)) ∧ OwnL X.K H' g' ds 0 0 [] 0 vs := fun {d w r} o {ds} hd => by
      rcases hd with rfl | rfl
      · obtain ⟨a, vs, rfl, h1, _, h3⟩ := o
        exact ⟨a, vs, rfl, fun _ => h1, (fun e => by cases e), ownL_fz (fun a z => ⟨z, rfl⟩) (fun _ _ z _ => z) h3⟩
      · obtain ⟨a, vs, rfl, h1, h3⟩ := o
        exact ⟨a, vs, rfl, (fun e => by cases e), fun _ => h1, ownL_fz (fun a z => ⟨z, rfl⟩) (fun _ _ z _ => z) h3⟩
    split at ec
    · cases ec
      exact .inl (.inl ⟨_, _, _, r1.rep, r2.rep, rfl, rfl, post _ H' g' S' P' s' rfl⟩)
    · split at ec
      · cases ec
        exact .inl (.inl ⟨_, _, _, r1.rep, r2.rep, (by simp only [dAdd]; rw [if_pos (by assumption)] : dAdd _ _ = some (.str _)), rfl, post _ H' g' S' P' s' rfl⟩)
      · cases ec
    · split at ec
      · cases ec
        obtain ⟨a, vs, rfl, h1, _, ol1⟩ := f0 r1 (.inl rfl)
        obtain ⟨b, ws, rfl, h2, _, ol2⟩ := f0 r2 (.inl rfl)
        refine .inl (.inr ⟨a, b, vs, ws, rfl, rfl, h1 rfl, h2 rfl, by rw [ownL_len ol1, ownL_len ol2, sizeLine_eq]; assumption, fun p hp => ?_⟩)
        exact gives_post (b := true) S' rfl (ownL_app ol1 ol2) P' s' post p hp
      · cases ec
    · split at ec
      · cases ec
        obtain ⟨a, vs, rfl, _, h1, ol1⟩ := f0 r1 (.inr rfl)
        obtain ⟨b, ws, rfl, _, h2, ol2⟩ := f0 r2 (.inr rfl)
        refine .inr ⟨a, b, vs, ws, rfl, rfl, SqT.of (h1 rfl), SqT.of (h2 rfl), by rw [ownL_len ol1, ownL_len ol2, sizeLine_eq]; assumption, fun h => ?_, fun _ h => ?_, fun _ _ p hp => ?_⟩
        · subst h
          have e := repL_nil (ownL_repL _ ol1) rfl
          subst e
          exact post _ H' g' S' P' s' ⟨b, ws, rfl, h2 rfl, ownL_fz (fun a z => ⟨z, rfl⟩) (fun _ _ z _ => z) ol2⟩
        · subst h
          have e := repL_nil (ownL_repL _ ol2) rfl
          subst e
          rw [List.append_nil] at post
          exact post _ H' g' S' P' s' ⟨a, vs, rfl, h1 rfl, ownL_fz (fun a z => ⟨z, rfl⟩) (fun _ _ z _ => z) ol1⟩
        · exact gives_post (b := false) S' rfl (ownL_app ol1 ol2) P' s' post p hp
      · cases ec
    · cases ec
  · rw [Bool.and_eq_true] at hp
    obtain ⟨x, ρ1, y, ea, eb, ec⟩ := m2_some h
    rw [hb.pur hp.2 _ _ _ eb, ha.pur hp.1 _ _ _ ea]
/-! ### slices -/
def cutG {α : Type} (xs : List α) (lo hi : Option Int) : List α := (xs.drop (HT.sIx xs.length 0 lo)).take (HT.sIx xs.length xs.length hi - HT.sIx xs.length 0 lo)
abbrev MO := DE → Option (Option Int)
structure JO (X : Cx) (κ : OE) (e : Option Expr) (m : MO) (κ' : OE) : Prop where
  run : ∀ t, X.N.length ≤ t → PO X e (fun σ H Q => En X.N.length σ H → ∃ g ρ, Sok X.K κ ρ g σ H ∧ ∃ o, m ρ = some o ∧ ∀ H' g', Sok X.K κ' ρ g' σ H' → Pres X.N.length t g H g' H' → Same H H' → Q o H')
theorem PO.imp {e : Option Expr} {t t' : TO} (h : PO X e t) (f : ∀ σ H Q, En X.N.length σ H → t' σ H Q → t σ H Q) : PO X e t' := ⟨fun pins s σ H Q I q => h.run pins s σ H Q I (f σ H Q ⟨Inv.sz I, I.len⟩ q)⟩
def oNone : MO := fun _ => some none
def oSome (m : M) : MO := fun ρ => match m ρ with
  | some (.int i, _) => some (some i)
  | _ => none
theorem jo_none : JO X κ none oNone κ := by
  refine ⟨fun t ht => PO.imp po_none fun σ H Q z q => ?_⟩
  obtain ⟨g, ρ, S, o, em, post⟩ := q z
  cases em
  exact post H g S Pres.refl (Same.refl H)
theorem jo_some {e : Expr} {m : M} {rz : Rz} (h : J X κ e m rz κ1 true) : JO X κ (some e) (oSome m) κ1 := by
  refine ⟨fun t ht => PO.imp (po_some (h.run t ht)) fun σ H Q z q => ?_⟩
  obtain ⟨g, ρ, S, o, em, post⟩ := q z
  unfold oSome at em
  split at em
  · rename_i i ρ' e
    cases em
    have hr := h.pur rfl _ _ _ e
    subst hr
    refine fun _ => ⟨g, _, S, _, _, e, fun v H' g' S' P' s' r' => ?_⟩
    cases (show _ = _ from r'.rep)
    exact ⟨i, rfl, post H' g' S' P' (s' rfl)⟩
  · cases em
def mSl (ma : M) (ml mu : MO) (f : D → Option Int → Option Int → Option D) : M := fun ρ => (ma ρ).bind fun x => (ml x.2).bind fun l => (mu x.2).bind fun u => (f x.1 l u).map fun z => (z, x.2)
theorem mSl_some {ma : M} {ml mu : MO} {f : D → Option Int → Option Int → Option D} {ρ ρ' : DE} {d : D} (h : mSl ma ml mu f ρ = some (d, ρ')) : ∃ x l u, ma ρ = some (x, ρ') ∧ ml ρ' = some l ∧ mu ρ' = some u ∧ f x l u = some d := by
  unfold mSl at h
  cases e : ma ρ with
  | none => rw [e] at h; cases h
  | some p =>
    rw [e] at h
    simp only [Option.bind_some] at h
    cases e1 : ml p.2 with
    | none => rw [e1] at h; cases h
    | some l =>
      rw [e1] at h
      simp only [Option.bind_some] at h
      cases e2 : mu p.2 with
      | none => rw [e2] at h; cases h
      | some u =>
        rw [e2] at h
        simp only [Option.bind_some] at h
        cases e3 : f p.1 l u with
        | none => rw [e3] at h; cases h
        | some z => rw [e3] at h; cases h; exact ⟨p.1, l, u, rfl, e1, e2, e3⟩
def dSl : D → Option Int → Option Int → Option D
  | .lst xs, l, u => some (.lst (cutG xs l u))
  | .tup xs, l, u => some (.tup (cutG xs l u))
  | .str z, l, u => if z.length ≤ 16777216 then some (.str (cutS z l u)) else none
  | _, _, _ => none
def rSlD (K : PySem.W.Frag) : V → Option Int → Option Int → Hp → VK → Prop := fun x l u H Q => (rSlL K x l u H Q ∨ rSlA K x l u H Q) ∨ rSlS x l u H Q
theorem sl_all : SlR X (rSlD X.K) := (sl_list.or sl_tupA).or sl_str
theorem cut_rep {H : Hp} {ds : List D} {vs : List V} {l u : Option Int} (h : RepL K H ds vs) : RepL K H (cutG ds l u) (cutV vs l u) := by
  unfold cutG cutV
  rw [repL_len h]
  exact repL_take _ (repL_drop _ h)
theorem cut_own {H : Hp} {g : G} {ds : List D} {vs : List V} {l u : Option Int} (h : OwnL K H g ds 0 0 [] 0 vs) : OwnL K H g (cutG ds l u) 0 0 [] 0 (cutV vs l u) := by
  unfold cutG cutV
  rw [ownL_len h]
  exact ownL_take _ (ownL_drop _ h)
theorem cutG_whole {α : Type} {xs : List α} {l u : Option Int} (h : HT.sIx xs.length 0 l = 0 ∧ HT.sIx xs.length xs.length u = xs.length) : cutG xs l u = xs := by
  unfold cutG
  rw [h.1, h.2]
  simp
theorem slice_core {n t : Nat} {ma : M} {ml mu : MO} {a : Expr} {lo hi : Option Expr} {ra rz : Rz} {pa : Bool} {κ3 : OE} (hn : X.N.length = n) (ht : n ≤ t) (ha : J X κ a ma ra κ1 pa) (hl : JO X κ1 lo ml κ2) (hu : JO X κ2 hi mu κ3) {σ : L2.St} {H : Hp} {Q : VK} {tl th : TO}
    (hsl : ∀ t', n ≤ t' → True) (z : En n σ H) (q : jTE X.K n κ (mSl ma ml mu dSl) rz κ3 pa t σ H Q)
    (fin : ∀ (x d : D) (l u : Option Int) (ρ' : DE) (v : V) (H' : Hp) (g' : G) (g0 : G), dSl x l u = some d → Sok X.K κ3 ρ' g' σ H' → Pres n t g0 H g' H' → (pa = true → Same H H') → RzOk X.K H' g' t ra x v → jPost X.K n t κ3 rz pa g0 σ H d ρ' Q → rSlD X.K v l u H' Q) :
    tSl (rSlD X.K) (jTE X.K n κ ma ra κ1 pa t)
      (fun σ H Q => En X.N.length σ H → ∃ g ρ, Sok X.K κ1 ρ g σ H ∧ ∃ o, ml ρ = some o ∧ ∀ H' g', Sok X.K κ2 ρ g' σ H' → Pres X.N.length (t + 1) g H g' H' → Same H H' → Q o H')
      (fun σ H Q => En X.N.length σ H → ∃ g ρ, Sok X.K κ2 ρ g σ H ∧ ∃ o, mu ρ = some o ∧ ∀ H' g', Sok X.K κ3 ρ g' σ H' → Pres X.N.length (t + 1) g H g' H' → Same H H' → Q o H') σ H Q := by
  subst hn
  obtain ⟨g, ρ, S, d, ρ', em, post⟩ := q z
  obtain ⟨x, l, u, e1, e2, e3, e4⟩ := mSl_some em
  refine fun _ => ⟨g, ρ, S, x, ρ', e1, fun v H1 g1 S1 P1 s1 r1 => fun _ => ⟨g1, ρ', S1, l, e2, fun H2 g2 S2 P2 s2 => fun _ => ⟨g2, ρ', S2, u, e3, fun H3 g3 S3 P3 s3 => ?_⟩⟩⟩
  have P23 := P2.trans P3
  refine fin x d l u ρ' v H3 g3 g e4 S3 (P1.trans (P23.less (Nat.le_succ t))) (fun e => ((s1 e).trans s2).trans s3) ?_ post
  cases ra with
  | rep => exact rep_mono (s2.trans s3) x r1
  | own k => exact P23.own ht (Nat.lt_succ_self t) r1
theorem mSl_pur {ma : M} {ml mu : MO} {f : D → Option Int → Option Int → Option D} {a : Expr} {ra : Rz} {pa : Bool} (ha : J X κ a ma ra κ1 pa) (hp : pa = true) (ρ : DE) (d : D) (ρ' : DE) (e : mSl ma ml mu f ρ = some (d, ρ')) : ρ' = ρ := by
  obtain ⟨x, l, u, e1, _⟩ := mSl_some e
  exact ha.pur hp _ _ _ e1
theorem j_sl {a : Expr} {lo hi : Option Expr} {p2 : Pos} {ma : M} {ml mu : MO} {ra : Rz} {pa : Bool} (ha : J X κ a ma ra κ1 pa) (hl : JO X κ1 lo ml κ2) (hu : JO X κ2 hi mu κ3) : J X κ (.Subscript a (.Slice lo hi none p2) pos) (mSl ma ml mu dSl) .rep κ3 pa := by
  refine ⟨fun t ht => PE.imp (pe_slice sl_all (ha.run t ht) (hl.run (t + 1) (by omega)) (hu.run (t + 1) (by omega))) fun σ H Q z q => slice_core (tl := tNoPart) (th := tNoPart) rfl ht ha hl hu (fun _ _ => trivial) z q fun x d l u ρ' v H' g' g0 e S' P' s' r' post => ?_, mSl_pur ha⟩
  have r2 := r'.rep
  unfold dSl at e
  split at e
  · cases e
    obtain ⟨a, vs, rfl, h1, h2⟩ := r2
    exact .inl (.inl ⟨a, vs, rfl, SqL.of h1, fun p hp => rep_post S' P' s' post p hp ⟨p, _, rfl, upd_same, repL_mono (same_new hp) _ (cut_rep h2)⟩⟩)
  · cases e
    obtain ⟨a, vs, rfl, h1, h2⟩ := r2
    refine .inl (.inr ⟨a, vs, rfl, SqT.of h1, fun hw => ?_, fun _ p hp => rep_post S' P' s' post p hp ⟨p, _, rfl, upd_same, repL_mono (same_new hp) _ (cut_rep h2)⟩⟩)
    rw [repL_len h2] at hw
    rw [cutG_whole hw] at post
    exact post _ H' g' S' P' s' ⟨a, vs, rfl, h1, h2⟩
  · split at e
    · cases e
      cases (show _ = _ from r2)
      exact .inr ⟨_, rfl, by rw [sizeLine_eq]; assumption, post _ H' g' S' P' s' rfl⟩
    · cases e
  · cases e
theorem own0_seq {H : Hp} {g : G} {ds : List D} {v : V} {r : Nat} {p : List Nat} : (Own K H g (.lst ds) 0 r p v → ∃ a vs, v = .ref a ∧ H a = some (.lst vs) ∧ OwnL K H g ds 0 0 [] 0 vs) ∧ (Own K H g (.tup ds) 0 r p v → ∃ a vs, v = .ref a ∧ H a = some (.tup vs) ∧ OwnL K H g ds 0 0 [] 0 vs) := by
  refine ⟨fun o => ?_, fun o => ?_⟩
  · obtain ⟨a, vs, rfl, h1, _, h3⟩ := o
    exact ⟨a, vs, rfl, h1, ownL_fz (fun a z => ⟨z, rfl⟩) (fun _ _ z _ => z) h3⟩
  · obtain ⟨a, vs, rfl, h1, h3⟩ := o
    exact ⟨a, vs, rfl, h1, ownL_fz (fun a z => ⟨z, rfl⟩) (fun _ _ z _ => z) h3⟩
theorem j_slO {a : Expr} {lo hi : Option Expr} {p2 : Pos} {ma : M} {ml mu : MO} {pa : Bool} (ha : J X κ a ma (.own 0) κ1 pa) (hl : JO X κ1 lo ml κ2) (hu : JO X κ2 hi mu κ3) : J X κ (.Subscript a (.Slice lo hi none p2) pos) (mSl ma ml mu dSl) (.own 1) κ3 pa := by
  refine ⟨fun t ht => PE.imp (pe_slice sl_all (ha.run t ht) (hl.run (t + 1) (by omega)) (hu.run (t + 1) (by omega))) fun σ H Q z q => slice_core (tl := tNoPart) (th := tNoPart) rfl ht ha hl hu (fun _ _ => trivial) z q fun x d l u ρ' v H' g' g0 e S' P' s' r' post => ?_, mSl_pur ha⟩
  unfold dSl at e
  split at e
  · cases e
    obtain ⟨a, vs, rfl, h1, h2⟩ := own0_seq.1 r'
    exact .inl (.inl ⟨a, vs, rfl, SqL.of h1, fun p hp => gives_post (b := true) S' rfl (cut_own h2) P' s' post p hp⟩)
  · cases e
    obtain ⟨a, vs, rfl, h1, h2⟩ := own0_seq.2 r'
    refine .inl (.inr ⟨a, vs, rfl, SqT.of h1, fun hw => ?_, fun _ p hp => gives_post (b := false) S' rfl (cut_own h2) P' s' post p hp⟩)
    rw [ownL_len h2] at hw
    rw [cutG_whole hw] at post
    exact post _ H' g' S' P' s' ⟨a, vs, rfl, h1, ownL_fz (fun a z => ⟨z, rfl⟩) (fun _ _ z _ => z) h2⟩
  · split at e
    · cases e
      cases (show _ = _ from r'.rep)
      exact .inr ⟨_, rfl, by rw [sizeLine_eq]; assumption, post _ H' g' S' P' s' rfl⟩
    · cases e
  · cases e
/-! ### list(..), tuple(..), sorted(..) of one list or tuple -/
/-- a call that lays a new list or tuple out of the items of its one argument -/
inductive Mk where
  | lst | tup | srt
def srtOk (ds : List D) : Bool := (ds.all fun a => ds.all fun b => PySem.W.alike (pyD a) (pyD b)) && ((ds.all fun a => match a with | .tup (_ :: _) => true | _ => false) || (ds.all fun a => match a with | .tup _ => false | .non => false | _ => true)) && (ds.all fun a => decide (dep a ≤ 60)) && decide (ds.length ≤ 16777216)
def srtD (ds : List D) : List D := ds.mergeSort (PySem.W.dataLe false pyD)
def dMk : Mk → D → Option D
  | .lst, .lst xs => some (.lst xs)
  | .lst, .tup xs => some (.lst xs)
  | .tup, .lst xs => some (.tup xs)
  | .tup, .tup xs => some (.tup xs)
  | .srt, .lst xs => if srtOk xs = true then some (.lst (srtD xs)) else none
  | _, _ => none
def rMk (X : Cx) : Mk → List V → Hp → VK → Prop
  | .lst => fun xs H Q => ∃ p ys, xs = [.ref p] ∧ (SqL X.K H p ys ∨ SqT X.K H p ys) ∧ ∀ l, H l = none → Q (.ref l) (upd H l (.lst ys))
  | .tup => fun xs H Q => ∃ p ys, xs = [.ref p] ∧ ((SqL X.K H p ys ∧ ∀ l, H l = none → Q (.ref l) (upd H l (.tup ys))) ∨ (SqT X.K H p ys ∧ Q (.ref p) H))
  | .srt => fun xs H Q => ∃ a vs ds, ∃ R : V → D → Prop, xs = [.ref a] ∧ H a = some (.lst vs) ∧ RepL X.K H ds vs ∧ Paired R vs ds ∧ srtOk ds = true ∧ ∀ ys p, H p = none → Paired R ys (srtD ds) → Q (.ref p) (upd H p (.lst ys))
theorem each_of_vals {R : V → D → Prop} : ∀ {vs : List V} {us : List Value} {ds : List D}, Vals vs us → Paired R vs ds → PySem.W.EachIs (fun u d => ∃ v, RelV v u ∧ R v d) us ds
  | _, _, _, .nil, .nil => .nil
  | _, _, _, .cons r t, .cons h q => .cons ⟨_, r, h⟩ (each_of_vals t q)
theorem vals_of_each {R : V → D → Prop} : ∀ {us : List Value} {ds : List D}, PySem.W.EachIs (fun u d => ∃ v, RelV v u ∧ R v d) us ds → ∃ vs, Vals vs us ∧ Paired R vs ds
  | _, _, .nil => ⟨[], .nil, .nil⟩
  | _, _, .cons ⟨v, r, h⟩ t => by
    obtain ⟨vs, h1, h2⟩ := vals_of_each t
    exact ⟨v :: vs, .cons r h1, .cons h h2⟩
theorem reads_of {pins : List (Addr × Obj)} {σ : L2.St} {H : Hp} {s : Shared} (I : Inv X pins σ H s) : ∀ {ds : List D} {vs : List V} {us : List Value}, (∀ d ∈ ds, noD d = true) → RepL X.K H ds vs → Vals vs us → PySem.W.EachIs (fun u d => ∃ as, Reads s.heap u (pyD d) as) us ds
  | [], _, _, _, h, r => by cases (show _ = _ from h); cases r; exact .nil
  | d :: ds, _, _, n, h, r => by
    obtain ⟨v, w, rfl, h1, h2⟩ := h
    cases r with
    | cons r1 r2 => exact .cons (Dp.reads I _ _ _ (rep_dp d (n d (by simp)) h1) r1) (reads_of I (fun x hx => n x (by simp [hx])) h2 r2)
theorem cr_srt (hu : X.A.units + 100 < cLine) : CallR X (.builtin "sorted") (rMk X .srt) := fun pins s σ H xs us Q I r h => by
  obtain ⟨a, vs, ds, R, rfl, ha, hr, hp, ok, q⟩ := h
  obtain ⟨its, rv, hl, hz⟩ := I.list (SqL.of ha)
  rw [Vals.ref1 r]
  unfold srtOk at ok
  simp only [Bool.and_eq_true, Bool.or_eq_true, List.all_eq_true, decide_eq_true_eq] at ok
  obtain ⟨⟨⟨k1, k2⟩, k3⟩, k4⟩ := ok
  refine PySem.W.sorted_data (enc := pyD) hl.isList (each_of_vals rv hp) (reads_of I (fun d hd => (dep_no (k3 d hd)).1) hr rv) ?_ ?_ (by rw [sizeLine_eq]; exact k4) (fun b hb => ?_) fun out h1 h2 => ?_
  · intro d hd d' hd'
    obtain ⟨b, hb, rfl⟩ := List.mem_map.mp hd
    obtain ⟨b', hb', rfl⟩ := List.mem_map.mp hd'
    exact k1 b hb b' hb'
  · rcases k2 with k2 | k2
    · left
      intro d hd
      obtain ⟨b, hb, rfl⟩ := List.mem_map.mp hd
      have := k2 b hb
      split at this
      · exact ⟨_, _, rfl⟩
      · cases this
    · right
      intro d hd
      obtain ⟨b, hb, rfl⟩ := List.mem_map.mp hd
      have := k2 b hb
      cases b <;> first
        | (simp at this; done)
        | exact (Bool.noConfusion (show false = true from (dep_no (k3 _ hb)).1))
        | exact ⟨by simp [pyD], by simp [pyD]⟩
  · have := (dep_no (k3 b hb)).2
    omega
  · obtain ⟨ys, v1, v2⟩ := vals_of_each h2
    obtain ⟨ep, he⟩ := PyProof.Rows.sortedAll_at s.heap its out.toArray
    have hlen : ys.length ≤ sizeLine := by
      rw [v1.length, h1, sizeLine_eq]
      exact k4
    exact ⟨.ref _, upd H (s.heap.objs.size + 1) (.lst ys), I.laid (t' := s.toks) (fun _ _ => PyProof.Rows.sortedAll_old) (Nat.le_succ _) ⟨hlen, out, ep, v1, he⟩, rfl, q ys _ (I.hok.fresh (Nat.le_succ _)) v2⟩
theorem paired_rep {H : Hp} : ∀ {ds : List D} {vs : List V}, RepL K H ds vs → Paired (fun v d => Rep K H d v) vs ds
  | [], _, h => by cases (show _ = _ from h); exact .nil
  | d :: ds, _, h => by
    obtain ⟨v, w, rfl, h1, h2⟩ := h
    exact .cons h1 (paired_rep h2)
theorem rep_paired {H : Hp} : ∀ {ds : List D} {vs : List V}, Paired (fun v d => Rep K H d v) vs ds → RepL K H ds vs
  | _, _, .nil => rfl
  | _, _, .cons h t => ⟨_, _, rfl, h, rep_paired t⟩
theorem paired_own {H : Hp} {g : G} : ∀ {ds : List D} {vs : List V} {i : Nat}, OwnL K H g ds 0 0 [] i vs → Paired (fun v d => Own K H g d 0 0 [] v) vs ds
  | [], _, _, h => by cases (show _ = _ from h); exact .nil
  | d :: ds, _, _, h => by
    obtain ⟨v, w, rfl, h1, h2⟩ := h
    exact .cons (own_fz (fun a z => ⟨z, rfl⟩) (fun _ _ z _ => z) h1) (paired_own h2)
theorem own_paired {H : Hp} {g : G} : ∀ {ds : List D} {vs : List V} {i : Nat}, Paired (fun v d => Own K H g d 0 0 [] v) vs ds → OwnL K H g ds 0 0 [] i vs
  | _, _, _, .nil => rfl
  | _, _, _, .cons h t => ⟨_, _, rfl, own_fz (fun a z => ⟨z, rfl⟩) (fun _ _ z _ => z) h, own_paired t⟩
def mMk (k : Mk) (ml : ML) : M := mB (fun ds => match ds with
  | [d] => dMk k d
  | _ => none) ml
theorem j_mk {k : Mk} {a e : Expr} {ml : ML} {ra : Rz} {pa : Bool} (h : JA X κ [a] ml [.rz ra] κ1 pa) (mk : ∀ {t : TA}, PA X [a] t → PE X e (tCB (rMk X k) t)) : J X κ e (mMk k ml) .rep κ1 pa := by
  refine ⟨fun t ht => PE.imp (mk (h.run t ht)) fun σ H Q z q => ?_, fun hp ρ d ρ' e => ?_⟩
  · obtain ⟨g, ρ, S, d, ρ', em, post⟩ := q z
    obtain ⟨ds, e1, e2⟩ := mB_some em
    refine fun _ => ⟨g, ρ, S, ds, ρ', e1, fun vs H' g' S' P' s' r' => ?_⟩
    obtain ⟨x, ds', v, vs', rfl, rfl, h1, h2⟩ := r'
    obtain ⟨rfl, rfl⟩ := h2
    have r1 := h1.rep
    have e2' : dMk k x = some d := e2
    unfold dMk at e2'
    split at e2'
    · cases e2'
      obtain ⟨a, us, rfl, k1, k2⟩ := r1
      exact ⟨a, us, rfl, .inl (SqL.of k1), fun p hp => rep_post S' P' s' post p hp ⟨p, _, rfl, upd_same, repL_mono (same_new hp) _ k2⟩⟩
    · cases e2'
      obtain ⟨a, us, rfl, k1, k2⟩ := r1
      exact ⟨a, us, rfl, .inr (SqT.of k1), fun p hp => rep_post S' P' s' post p hp ⟨p, _, rfl, upd_same, repL_mono (same_new hp) _ k2⟩⟩
    · cases e2'
      obtain ⟨a, us, rfl, k1, k2⟩ := r1
      exact ⟨a, us, rfl, .inl ⟨SqL.of k1, fun p hp => rep_post S' P' s' post p hp ⟨p, _, rfl, upd_same, repL_mono (same_new hp) _ k2⟩⟩⟩
    · cases e2'
      obtain ⟨a, us, rfl, k1, k2⟩ := r1
      exact ⟨a, us, rfl, .inr ⟨SqT.of k1, post _ H' g' S' P' s' ⟨a, us, rfl, k1, k2⟩⟩⟩
    · split at e2'
      · cases e2'
        obtain ⟨a, us, rfl, k1, k2⟩ := r1
        exact ⟨a, us, _, _, rfl, k1, k2, paired_rep k2, by assumption, fun ys p hp hr => rep_post S' P' s' post p hp ⟨p, _, rfl, upd_same, repL_mono (same_new hp) _ (rep_paired hr)⟩⟩
      · cases e2'
    · cases e2'
  · obtain ⟨ds, e1, e2⟩ := mB_some e
    exact h.pur hp _ _ _ e1
theorem j_mkO {k : Mk} {a e : Expr} {ml : ML} {pa : Bool} (h : JA X κ [a] ml [.rz (.own 0)] κ1 pa) (mk : ∀ {t : TA}, PA X [a] t → PE X e (tCB (rMk X k) t)) : J X κ e (mMk k ml) (.own 1) κ1 pa := by
  refine ⟨fun t ht => PE.imp (mk (h.run t ht)) fun σ H Q z q => ?_, fun hp ρ d ρ' e => ?_⟩
  · obtain ⟨g, ρ, S, d, ρ', em, post⟩ := q z
    obtain ⟨ds, e1, e2⟩ := mB_some em
    refine fun _ => ⟨g, ρ, S, ds, ρ', e1, fun vs H' g' S' P' s' r' => ?_⟩
    obtain ⟨x, ds', v, vs', rfl, rfl, h1, h2⟩ := r'
    obtain ⟨rfl, rfl⟩ := h2
    have e2' : dMk k x = some d := e2
    unfold dMk at e2'
    split at e2'
    · cases e2'
      obtain ⟨a, us, rfl, k1, k2⟩ := own0_seq.1 h1
      exact ⟨a, us, rfl, .inl (SqL.of k1), fun p hp => gives_post (b := true) S' rfl k2 P' s' post p hp⟩
    · cases e2'
      obtain ⟨a, us, rfl, k1, k2⟩ := own0_seq.2 h1
      exact ⟨a, us, rfl, .inr (SqT.of k1), fun p hp => gives_post (b := true) S' rfl k2 P' s' post p hp⟩
    · cases e2'
      obtain ⟨a, us, rfl, k1, k2⟩ := own0_seq.1 h1
      exact ⟨a, us, rfl, .inl ⟨SqL.of k1, fun p hp => gives_post (b := false) S' rfl k2 P' s' post p hp⟩⟩
    · cases e2'
      obtain ⟨a, us, rfl, k1, k2⟩ := own0_seq.2 h1
      exact ⟨a, us, rfl, .inr ⟨SqT.of k1, post _ H' g' S' P' s' ⟨a, us, rfl, k1, ownL_fz (fun a z => ⟨z, rfl⟩) (fun _ _ z _ => z) k2⟩⟩⟩
    · split at e2'
      · cases e2'
        obtain ⟨a, us, rfl, k1, k2⟩ := own0_seq.1 h1
        exact ⟨a, us, _, _, rfl, k1, ownL_repL _ k2, paired_own k2, by assumption, fun ys p hp hr => gives_post (b := true) S' rfl (own_paired hr) P' s' post p hp⟩
      · cases e2'
    · cases e2'
  · obtain ⟨ds, e1, e2⟩ := mB_some e
    exact h.pur hp _ _ _ e1
/-! ### xs.count(x) -/
def dCnt : D → D → Option D
  | .lst ys, x => if (decide (depL ys ≤ 60) && decide (dep x ≤ 60)) = true then some (.int (((pyL ys).countP fun y => PyData.eqv y (pyD x) : Nat) : Int)) else none
  | _, _ => none
def rCnt (X : Cx) : V → List V → Hp → VK → Prop := fun x xs H Q => ∃ ys y z v, xs = [v] ∧ Rep X.K H (.lst ys) x ∧ Rep X.K H y v ∧ dCnt (.lst ys) y = some z ∧ Q (av z) H
theorem mt_cnt (hu : X.A.units + 100 < cLine) : MtR X "list.count" (rCnt X) := fun pins s σ H x xs v us Q I rx rxs h => by
  obtain ⟨ys, y, z, w, rfl, rx', ry', e, q⟩ := h
  obtain ⟨a, vs, rfl, ha, hl⟩ := rx'
  cases rx
  obtain ⟨u, rfl, ru⟩ := rxs.one
  obtain ⟨its, rv, pl, hz⟩ := I.list (SqL.of ha)
  simp only [dCnt] at e
  split at e
  · cases e
    obtain ⟨n1, n2⟩ := in_no (by assumption)
    obtain ⟨as, h1⟩ := Dp.readsAll I _ _ _ (repL_dp ys n1.1 hl) rv
    obtain ⟨bs, h2⟩ := Dp.reads I _ _ _ (rep_dp y n2.1 ry') ru
    exact SeqAt.count_list_data (bs := bs) (as := as) pl.isList (by simpa using h1) h2 (plain_pyL ys) (plain_pyD y) (room_in hu (by assumption)) ⟨.int _, H, I.tok _, ⟨_, rfl⟩, q⟩
  · cases e
theorem dCnt_a (x y z : D) (h : dCnt x y = some z) : isA z = true := by
  unfold dCnt at h
  split at h
  · split at h
    · cases h; rfl
    · cases h
  · cases h
theorem j_cnt {o a e : Expr} {mo ma : M} {ro ra : Rz} {po pa : Bool} (ho : J X κ o mo ro κ1 po) (ha : J X κ1 a ma ra κ2 pa) (ok : okk ro pa = true) (mk : ∀ {to t : TE}, PE X o to → PE X a t → PE X e (tBM X.K "list" (rCnt X) to (tCons t tNil))) {rz : Rz} :
    J X κ e (m2 dCnt mo ma) rz κ2 (po && pa) := by
  refine ⟨fun t ht => PE.imp (mk (ho.run t ht) (ha.run (t + 1) (by omega))) fun σ H Q z q => ?_, fun hp ρ d ρ' h => ?_⟩
  · obtain ⟨g, ρ, S, d, ρ', em, post⟩ := q z
    obtain ⟨x, ρ1, y, ea, eb, ec⟩ := m2_some em
    have hx : ∃ ys, x = .lst ys := by
      unfold dCnt at ec
      split at ec
      · exact ⟨_, rfl⟩
      · cases ec
    obtain ⟨ys, rfl⟩ := hx
    refine fun _ => ⟨g, ρ, S, _, ρ1, ea, fun v H1 g1 S1 P1 s1 r1 => ?_⟩
    obtain ⟨L, vs, rfl, hL, hl⟩ := r1.rep
    refine ⟨.inl ⟨rfl, vs, SqL.of hL⟩, fun _ => ⟨g1, ρ1, S1, y, ρ', eb, fun u H2 g2 S2 P2 s2 r2 => ?_⟩⟩
    have r1' : RzOk X.K H2 g2 t ro (.lst ys) (.ref L) := by
      cases ro with
      | rep => exact rep_mono (s2 ok) (.lst ys) r1
      | own k => exact P2.own ht (Nat.lt_succ_self t) r1
    exact ⟨ys, y, d, u, rfl, r1'.rep, r2.rep, ec, post _ H2 g2 S2 (P1.trans (P2.less (Nat.le_succ t))) (Same.bool s1 s2) (atom_rz (dCnt_a _ _ _ ec))⟩
  · rw [Bool.and_eq_true] at hp
    obtain ⟨x, ρ1, y, ea, eb, ec⟩ := m2_some h
    rw [ha.pur hp.2 _ _ _ eb, ho.pur hp.1 _ _ _ ea]
end VS
namespace VS
open PySem PySem.Spec PyProof.Rows L2
variable {K : PySem.W.Frag} {X : Cx} {κ κ1 κ2 κ3 κ4 : OE} {pos : Pos} {rc : RC}
/-! ### a for over a slot's own list whose items are changed -/
def itM (j : Nat) (mb : SM) : List D → DE → Option (List D × DE)
  | [], ρ => some ([], ρ)
  | d :: ds, ρ => match mb (ρ.set j (some d)) with
    | some (.nx ρ1) => (match ρ1[j]? with
      | some (some d') => (itM j mb ds ρ1).map fun x => (d' :: x.1, x.2)
      | _ => none)
    | _ => none
def sForM (i j : Nat) (mb : SM) : SM := fun ρ => match ρ[i]? with
  | some (some (.lst ds)) => (itM j mb ds ρ).map fun x => .nx (x.2.set i (some (.lst x.1)))
  | _ => none
theorem itM_cons {j : Nat} {mb : SM} {d : D} {ds es : List D} {ρ ρ' : DE} (h : itM j mb (d :: ds) ρ = some (es, ρ')) : ∃ ρ1 d' r, mb (ρ.set j (some d)) = some (.nx ρ1) ∧ ρ1[j]? = some (some d') ∧ itM j mb ds ρ1 = some (r, ρ') ∧ es = d' :: r := by
  simp only [itM] at h
  split at h
  · rename_i ρ1 e1
    split at h
    · rename_i d' e2
      cases e3 : itM j mb ds ρ1 with
      | none => rw [e3] at h; cases h
      | some x => rw [e3] at h; cases h; exact ⟨ρ1, d', x.1, e1, e2, e3, rfl⟩
    · cases h
  · cases h
def stG (t j m : Nat) (g : G) : G := fun a => match g a with
  | .ow r q => if r = t ∧ q.getLast? = some m then .ow j q.dropLast else .ow r q
  | z => z
section
variable {t j m : Nat} {g : G} {a : Addr}
theorem stG_fz (h : g a = .fz) : stG t j m g a = .fz := by unfold stG; rw [h]
theorem stG_un (h : g a = .un) : stG t j m g a = .un := by unfold stG; rw [h]
theorem stG_ne (h : stG t j m g a ≠ .un) : g a ≠ .un := fun z => h (stG_un z)
theorem stG_t {q : List Nat} (h : g a = .ow t (q ++ [m])) : stG t j m g a = .ow j q := by unfold stG; rw [h]; simp
theorem stG_o {r : Nat} {q : List Nat} (hq : r ≠ t ∨ q.getLast? ≠ some m) (h : g a = .ow r q) : stG t j m g a = .ow r q := by
  unfold stG
  rw [h]
  simp only []
  rw [if_neg]
  rintro ⟨e1, e2⟩
  rcases hq with z | z
  · exact z e1
  · exact z e2
theorem stG_inv {r : Nat} {q : List Nat} (hr : r ≠ j) (h : stG t j m g a = .ow r q) : g a = .ow r q := by
  unfold stG at h
  split at h
  · rename_i r' q' e
    split at h
    · cases h; exact (hr rfl).elim
    · cases h; exact e
  · exact h
end
theorem ownL_split {H : Hp} {g : G} {k r : Nat} {p : List Nat} : ∀ {xs ys : List D} {i : Nat} {vs : List V}, OwnL K H g (xs ++ ys) k r p i vs → ∃ v1 v2, vs = v1 ++ v2 ∧ v1.length = xs.length ∧ OwnL K H g xs k r p i v1 ∧ OwnL K H g ys k r p (i + xs.length) v2
  | [], ys, i, vs, h => ⟨[], vs, rfl, rfl, rfl, h⟩
  | x :: xs, ys, i, vs, h => by
    obtain ⟨v, w, rfl, o1, o2⟩ := h
    obtain ⟨v1, v2, rfl, hl, h1, h2⟩ := ownL_split o2
    refine ⟨v :: v1, v2, rfl, by simp [hl], ⟨v, v1, rfl, o1, h1⟩, ?_⟩
    rw [show i + (x :: xs).length = i + 1 + xs.length by simp; omega]
    exact h2
theorem ownL_join {H : Hp} {g : G} {k r : Nat} {p : List Nat} : ∀ {xs ys : List D} {i : Nat} {v1 v2 : List V}, OwnL K H g xs k r p i v1 → OwnL K H g ys k r p (i + xs.length) v2 → OwnL K H g (xs ++ ys) k r p i (v1 ++ v2)
  | [], ys, i, _, _, h1, h2 => by cases (show _ = _ from h1); exact h2
  | x :: xs, ys, i, _, _, h1, h2 => by
    obtain ⟨v, w, rfl, o1, o2⟩ := h1
    refine ⟨v, _, rfl, o1, ownL_join o2 ?_⟩
    rw [show i + 1 + xs.length = i + (x :: xs).length by simp; omega]
    exact h2
theorem ownL_conv {H H' : Hp} {g g' : G} {k r : Nat} (st : ∀ a o, H a = some o → stb o = true → H' a = some o) (hf : ∀ a, g a = .fz → g' a = .fz ∧ H' a = H a) (P : Nat → Prop)
    (hc : ∀ a q m, P m → g a = .ow r (q ++ [m]) → H' a = H a ∧ g' a = .ow r (q ++ [m])) : ∀ {ds : List D} {i : Nat} {vs : List V}, (∀ m, i ≤ m → m < i + ds.length → P m) → OwnL K H g ds k r [] i vs → OwnL K H' g' ds k r [] i vs
  | [], _, _, _, h => h
  | d :: ds, i, _, hp, h => by
    obtain ⟨v, w, rfl, o1, o2⟩ := h
    refine ⟨v, w, rfl, own_conv st d (.inr hf) (fun a q z hh => ?_) (fun _ z => z) o1, ownL_conv st hf P hc (fun m h1 h2 => hp m (by omega) (by simp; omega)) o2⟩
    obtain ⟨h1, h2⟩ := hc a q i (hp i (Nat.le_refl _) (by simp)) z
    exact ⟨h1, by rw [if_pos hh]; exact h2⟩
def rcM (rc : RC) (i j : Nat) : RC := ⟨0, (rc.κr.set j (some 0)).set i (some 0)⟩
theorem js_forM {tg iter : Expr} {b : List Stmt} {mb : SM} {i j k : Nat} {κb' : OE} (hij : i ≠ j) (hil : i < X.N.length) (hjl : j < X.N.length) (hk : κ[i]? = some (some k)) (h0 : k ≠ 0)
    (hb : JB X ((κ.set i none).set j (some (lv k))) b mb κb' (rcM rc i j)) (hr : ∀ ρ d ρ', mb ρ ≠ some (.rt d ρ')) (hj : κb'[j]? = some (some (lv k))) (hle : leO ((κ.set i none).set j none) κb' = true) (hκn : κ.length = X.N.length) (hrc : rc.κr.length = X.N.length) (hfi : notFx rc i = true) (hfj : notFx rc j = true)
    (mk : ∀ {tb : TS}, PSs X b tb → PS X (.For tg iter b [] pos) (tFor (iList X.K (tVar i)) (gName j) tb)) : JS X κ (.For tg iter b [] pos) (sForM i j mb) (((κ.set i none).set j none).set i (some k)) rc := by
  have body : ∀ t, X.N.length ≤ t → PSs X b (fun D σ H => ∃ s1, jTS X.K X.N.length ((κ.set i none).set j (some (lv k))) mb κb' (rcM rc i j) s1 t D σ H) := fun t ht => ⟨fun pins s σ H D I q => by
    obtain ⟨s1, q⟩ := q
    exact (hb.run s1 t ht).run pins s σ H D I q⟩
  refine ⟨fun s0 t ht => PS.imp (mk (body (t + 1) (by omega))) fun σ H Dd z q => ?_⟩
  obtain ⟨g, ρ, S, fx, o, em, post⟩ := q z
  unfold sForM at em
  split at em
  case h_2 => cases em
  rename_i ds ei
  cases e5 : itM j mb ds ρ with
  | none => rw [e5] at em; cases em
  | some x =>
    obtain ⟨es, ρe⟩ := x
    rw [e5] at em
    cases em
    obtain ⟨v, ev, o1⟩ := S.ok i k _ hk ei
    obtain ⟨L, vs0, rfl, hL, hg, _⟩ := lst_own o1 h0
    have lenσ : σ.length = X.N.length := z.2
    have it : i ≠ t := by omega
    have κi : ∀ (m k' : Nat), (((κ.set i none).set j none) : OE)[m]? = some (some k') → m ≠ i ∧ m ≠ j ∧ κ[m]? = some (some k') := fun m k' h => by
      rcases set_some h with ⟨_, e, _⟩ | ⟨h1, h⟩
      · cases e
      · rcases set_some h with ⟨_, e, _⟩ | ⟨h2, h⟩
        · cases e
        · exact ⟨h2, h1, h⟩
    -- the list at a row of its own
    have Sg : Sok X.K ((κ.set i none).set j none) ρ (mvG i t [] (fun _ _ => false) g) σ H := by
      refine ⟨fun m k' d' h1 h2 => ?_, fun a h => S.gok a (mvG_ne h), S.len, by simp [S.lek]⟩
      obtain ⟨mi, mj, h1⟩ := κi m k' h1
      obtain ⟨v', es', w⟩ := S.ok m k' d' h1 h2
      exact ⟨v', es', own_conv (fun _ _ z _ => z) d' (.inr fun a z => ⟨mvG_fz z, rfl⟩) (fun a q z hh => ⟨rfl, by rw [if_pos hh]; exact mvG_o mi rfl z⟩) (fun _ z => z) w⟩
    have Og : Own X.K H (mvG i t [] (fun _ _ => false) g) (.lst ds) k t [] (.ref L) :=
      own_conv (fun _ _ z _ => z) (.lst ds) (.inr fun a z => ⟨mvG_fz z, rfl⟩) (fun a q z hh => ⟨rfl, by rw [if_pos hh, mvG_t z]; simp⟩) (fun _ z => z) o1
    have Pg : Pres X.N.length t g H (mvG i t [] (fun _ _ => false) g) H :=
      ⟨fun a z => ⟨mvG_fz z, rfl⟩, fun a z _ => ⟨mvG_un z, rfl⟩, fun a r p h1 h2 z => ⟨mvG_o (by omega) rfl z, rfl⟩, fun a r p h1 h2 z => mvG_inv (by omega) z, fun _ _ z _ => z⟩
    refine ⟨.ref L, ev, L, rfl, ⟨vs0, SqL.of hL⟩, ?_⟩
    refine ⟨fun idx m σ' H' => m = ds.length - idx ∧ idx ≤ ds.length ∧ ∃ g' ρ' dn r, Sok X.K ((κ.set i none).set j none) ρ' g' σ' H' ∧ Fx rc s0 σ' ∧ σ'[i]? = some (some (.ref L)) ∧ Own X.K H' g' (.lst (dn ++ ds.drop idx)) k t [] (.ref L) ∧ dn.length = idx ∧
      itM j mb (ds.drop idx) ρ' = some (r, ρe) ∧ dn ++ r = es ∧ Pres X.N.length t g H g' H', ⟨ds.length, by omega, Nat.zero_le _, _, ρ, [], es, Sg, fx, ev, by simpa using Og, rfl, by simpa using e5, rfl, Pg⟩, ?_⟩
    rintro idx m σ1 H1 ⟨rfl, hle1, g1, ρ1, dn, r, S1, fx1, ev1, O1, dl, e6, er, P1⟩
    obtain ⟨L', vs, eL, hL1, hg1, hvl⟩ := lst_own O1 h0
    cases eL
    have len1 : σ1.length = X.N.length := by
      rw [← S1.lek]
      simp [hκn]
    by_cases hlt : idx < ds.length
    · obtain ⟨d, ed⟩ := ex_at hlt
      rw [drop_cons ed] at e6 O1
      obtain ⟨ρ2, d', r', e7, e8, e9, rfl⟩ := itM_cons e6
      have hvlen : idx < vs.length := by
        rw [hvl]
        simp
        omega
      obtain ⟨xv, exv⟩ := ex_at hvlen
      refine .inr ⟨⟨vs, xv, SqL.of hL1, exv⟩, fun σ' H' => idx + 1 ≤ ds.length ∧ ∃ g' ρ' dn r, Sok X.K ((κ.set i none).set j none) ρ' g' σ' H' ∧ Fx rc s0 σ' ∧ σ'[i]? = some (some (.ref L)) ∧ Own X.K H' g' (.lst (dn ++ ds.drop (idx + 1))) k t [] (.ref L) ∧ dn.length = idx + 1 ∧
        itM j mb (ds.drop (idx + 1)) ρ' = some (r, ρe) ∧ dn ++ r = es ∧ Pres X.N.length t g H g' H', fun σ' H' hh => ⟨ds.length - (idx + 1), by omega, rfl, hh⟩, fun x H' y => ?_⟩
      obtain ⟨rfl, y⟩ := y
      have hx : x = xv := by
        have := y vs (SqL.of hL1)
        rw [exv] at this
        cases this
        rfl
      subst hx
      -- the item at its slot
      obtain ⟨L2, vs2, eL2, hL2, hgL, ol⟩ := id O1
      cases eL2
      rw [hL1] at hL2
      cases hL2
      obtain ⟨w1, w2, rfl, hw1, ol1, ol2⟩ := ownL_split ol
      obtain ⟨xc, w3, rfl, oc, ol3⟩ := ol2
      rw [Nat.zero_add, dl] at oc ol3
      have exc : xc = x := by
        rw [List.getElem?_append_right (by omega), hw1, dl, Nat.sub_self] at exv
        cases exv
        rfl
      subst exc
      have gLne : ∀ a q mm, g1 a = .ow t (q ++ [mm]) → a ≠ L := fun a q mm e z => by
        subst z
        rw [hg1] at e
        cases q <;> cases e
      have Sb : Sok X.K ((κ.set i none).set j (some (lv k))) (ρ1.set j (some d)) (stG t j idx g1) (σ1.set j (some xc)) H' := by
        refine ⟨fun mm k' d2 h1 h2 => ?_, fun a h => S1.gok a (stG_ne h), by simp [S1.len], by simp [len1, hκn]⟩
        rcases set_some h1 with ⟨rfl, ek, _⟩ | ⟨hm, h1⟩
        · cases ek
          rcases set_some h2 with ⟨_, ed2, _⟩ | ⟨hh, _⟩
          · cases ed2
            refine ⟨xc, List.getElem?_set_self (by omega), own_conv (fun _ _ z _ => z) _ (.inr fun a z => ⟨stG_fz z, rfl⟩) (fun a q z hh => ⟨rfl, ?_⟩) (fun _ z => z) oc⟩
            rw [if_pos hh, stG_t z]
            simp
          · exact (hh rfl).elim
        · rcases set_some h2 with ⟨e, _, _⟩ | ⟨_, h2⟩
          · exact (hm e).elim
          · have h1' : (((κ.set i none).set j none) : OE)[mm]? = some (some k') := by
              rw [List.getElem?_set_ne (Ne.symm hm)]
              exact h1
            obtain ⟨v', es', w⟩ := S1.ok mm k' d2 h1' h2
            have hmm := (List.getElem?_eq_some_iff.mp es').1
            refine ⟨v', by rw [List.getElem?_set_ne (Ne.symm hm)]; exact es', own_conv (fun _ _ z _ => z) d2 (.inr fun a z => ⟨stG_fz z, rfl⟩) (fun a q z hh => ⟨rfl, by rw [if_pos hh]; exact stG_o (.inl (by omega)) z⟩) (fun _ z => z) w⟩
      have Pb : Pres X.N.length t g1 H' (stG t j idx g1) H' :=
        ⟨fun a z => ⟨stG_fz z, rfl⟩, fun a z _ => ⟨stG_un z, rfl⟩, fun a r p h1 h2 z => ⟨stG_o (.inl (by omega)) z, rfl⟩, fun a r p h1 h2 z => stG_inv (by omega) z, fun _ _ z _ => z⟩
      have lastne : ∀ (q : List Nat) (mm : Nat), mm ≠ idx → (q ++ [mm]).getLast? ≠ some idx := fun q mm hm h => by
        rw [List.getLast?_append] at h
        simp at h
        exact hm h
      have ol1s : OwnL X.K H' (stG t j idx g1) dn (lv k) t [] 0 w1 := ownL_conv (fun _ _ z _ => z) (fun a z => ⟨stG_fz z, rfl⟩) (fun mm => mm ≠ idx) (fun a q mm hm z => ⟨rfl, stG_o (.inr (lastne q mm hm)) z⟩) (fun mm h1 h2 => by omega) ol1
      have ol3s : OwnL X.K H' (stG t j idx g1) (ds.drop (idx + 1)) (lv k) t [] (idx + 1) w3 := ownL_conv (fun _ _ z _ => z) (fun a z => ⟨stG_fz z, rfl⟩) (fun mm => mm ≠ idx) (fun a q mm hm z => ⟨rfl, stG_o (.inr (lastne q mm hm)) z⟩) (fun mm h1 h2 => by omega) ol3
      have hgLs : stG t j idx g1 L = .ow t [] := stG_o (.inr (by simp)) hg1
      refine ⟨σ1.set j (some xc), fun _ => ⟨_, _, Sb, fun mm k' _ => rfl, _, e7, fun σ3 H3 g3 S3 P3 F3 => ?_⟩⟩
      have ev3 : σ3[i]? = some (some (.ref L)) := by
        rw [F3 i 0 (by show ((rc.κr.set j (some 0)).set i (some 0))[i]? = _; rw [List.getElem?_set_self (by simp [hrc]; omega)]), List.getElem?_set_ne (Ne.symm hij)]
        exact ev1
      have ej3 : σ3[j]? = some (some xc) := by
        rw [F3 j 0 (by show ((rc.κr.set j (some 0)).set i (some 0))[j]? = _; rw [List.getElem?_set_ne hij, List.getElem?_set_self (by omega)]), List.getElem?_set_self (by omega)]
      have fx3 : Fx rc s0 σ3 := fun mm k' em => by
        have mi : mm ≠ i := by
          rintro rfl
          unfold notFx at hfi
          rw [em] at hfi
          cases hfi
        have mj : mm ≠ j := by
          rintro rfl
          unfold notFx at hfj
          rw [em] at hfj
          cases hfj
        rw [F3 mm k' (by show ((rc.κr.set j (some 0)).set i (some 0))[mm]? = _; rw [List.getElem?_set_ne (Ne.symm mi), List.getElem?_set_ne (Ne.symm mj)]; exact em), List.getElem?_set_ne (Ne.symm mj)]
        exact fx1 mm k' em
      obtain ⟨v3, ev3', o3⟩ := S3.ok j _ d' hj e8
      rw [ej3] at ev3'
      cases ev3'
      have hL3 := P3.tp L t [] (by omega) (Nat.lt_succ_self t) hgLs
      have hs3 : ∀ a o, H' a = some o → stb o = true → H3 a = some o := P3.tu
      -- back to its place
      have hσ3 : σ3.length = X.N.length := by
        rw [← S3.lek]
        have := leO_len hle
        rw [← this]
        simp [hκn]
      have jt : j ≠ t := by omega
      have S4 : Sok X.K ((κ.set i none).set j none) ρ2 (mvG j t [idx] (fun _ _ => false) (wk ((κ.set i none).set j none) g3)) σ3 H3 := by
        have Sw := S3.weaken hle
        refine ⟨fun mm k' d2 h1 h2 => ?_, fun a h => Sw.gok a (mvG_ne h), Sw.len, Sw.lek⟩
        obtain ⟨mi, mj, _⟩ := κi mm k' h1
        obtain ⟨v', es', w⟩ := Sw.ok mm k' d2 h1 h2
        exact ⟨v', es', own_conv (fun _ _ z _ => z) d2 (.inr fun a z => ⟨mvG_fz z, rfl⟩) (fun a q z hh => ⟨rfl, by rw [if_pos hh]; exact mvG_o mj rfl z⟩) (fun _ z => z) w⟩
      have Pw : Pres X.N.length (t + 1) g3 H3 (wk ((κ.set i none).set j none) g3) H3 := Pres.weaken (by simp [hκn])
      have P4 : Pres X.N.length t (wk ((κ.set i none).set j none) g3) H3 (mvG j t [idx] (fun _ _ => false) (wk ((κ.set i none).set j none) g3)) H3 :=
        ⟨fun a z => ⟨mvG_fz z, rfl⟩, fun a z _ => ⟨mvG_un z, rfl⟩, fun a r p h1 h2 z => ⟨mvG_o (by omega) rfl z, rfl⟩, fun a r p h1 h2 z => mvG_inv (by omega) z, fun _ _ z _ => z⟩
      have P13 := P3.trans Pw
      have cv : ∀ {xs : List D} {l : Nat} {ws : List V}, OwnL X.K H' (stG t j idx g1) xs (lv k) t [] l ws → OwnL X.K H3 (mvG j t [idx] (fun _ _ => false) (wk ((κ.set i none).set j none) g3)) xs (lv k) t [] l ws := fun {xs l ws} h =>
        ownL_conv hs3 (fun a z => ⟨mvG_fz (P13.fz a z).1, (P13.fz a z).2⟩) (fun _ => True) (fun a q mm _ z => ⟨(P13.tp a t _ (by omega) (Nat.lt_succ_self t) z).2, mvG_o (by omega) rfl (P13.tp a t _ (by omega) (Nat.lt_succ_self t) z).1⟩) (fun _ _ _ => trivial) h
      have oj : Own X.K H3 (mvG j t [idx] (fun _ _ => false) (wk ((κ.set i none).set j none) g3)) d' (lv k) t [idx] xc := by
        refine own_conv (fun _ _ z _ => z) d' (.inr fun a z => ⟨mvG_fz (wk_fz z), rfl⟩) (fun a q z hh => ⟨rfl, ?_⟩) (fun _ z => z) o3
        have : wk ((κ.set i none).set j none) g3 a = .ow j (q ++ []) := by
          unfold wk
          rw [z]
          simp only []
          rw [List.getElem?_set_self (by simp [hκn]; omega)]
        rw [if_pos hh, mvG_t this]
        simp
      refine ⟨hlt, _, ρ2, dn ++ [d'], r', S4, fx3, ev3, ?_, by simp [dl], e9, by rw [List.append_assoc]; exact er, P1.trans (Pb.trans (((P3.less (Nat.le_succ t)).trans (Pw.less (Nat.le_succ t))).trans P4))⟩
      refine ⟨L, w1 ++ (xc :: w3), rfl, hL3.2.trans hL1, ?_, ?_⟩
      · rw [if_neg h0]
        exact mvG_o (by omega) rfl (Pw.tp L t [] (by omega) (Nat.lt_succ_self t) hL3.1).1
      · rw [List.append_assoc]
        exact ownL_join (cv ol1s) ⟨xc, w3, rfl, by rw [Nat.zero_add, dl]; exact oj, by rw [Nat.zero_add, dl]; exact cv ol3s⟩
    · have hi' : idx = ds.length := by omega
      subst hi'
      rw [List.drop_length] at e6 O1
      cases e6
      rw [List.append_nil] at er O1
      subst er
      have Se : Sok X.K (((κ.set i none).set j none).set i (some k)) (ρe.set i (some (.lst dn))) (mvG t i [] (fun _ _ => false) g1) σ1 H1 := by
        refine ⟨fun mm k' d2 h1 h2 => ?_, fun a h => S1.gok a (mvG_ne h), by simp [S1.len], by simp [len1, hκn]⟩
        rcases set_some h1 with ⟨rfl, ek, _⟩ | ⟨hm, h1⟩
        · cases ek
          rcases set_some h2 with ⟨_, ed2, _⟩ | ⟨hh, _⟩
          · cases ed2
            refine ⟨.ref L, ev1, own_conv (fun _ _ z _ => z) (.lst dn) (.inr fun a z => ⟨mvG_fz z, rfl⟩) (fun a q z hh => ⟨rfl, ?_⟩) (fun _ z => z) O1⟩
            rw [if_pos hh, mvG_t z]
            simp
          · exact (hh rfl).elim
        · rcases set_some h2 with ⟨e, _, _⟩ | ⟨_, h2⟩
          · exact (hm e).elim
          · obtain ⟨v', es', w⟩ := S1.ok mm k' d2 h1 h2
            have hmm := (List.getElem?_eq_some_iff.mp es').1
            exact ⟨v', es', own_conv (fun _ _ z _ => z) d2 (.inr fun a z => ⟨mvG_fz z, rfl⟩) (fun a q z hh => ⟨rfl, by rw [if_pos hh]; exact mvG_o (by omega) rfl z⟩) (fun _ z => z) w⟩
      have Pe : Pres X.N.length t g1 H1 (mvG t i [] (fun _ _ => false) g1) H1 :=
        ⟨fun a z => ⟨mvG_fz z, rfl⟩, fun a z _ => ⟨mvG_un z, rfl⟩, fun a r p h1 h2 z => ⟨mvG_o (by omega) rfl z, rfl⟩, fun a r p h1 h2 z => mvG_inv (by omega) z, fun _ _ z _ => z⟩
      exact .inl ⟨⟨vs, SqL.of hL1, by rw [hvl]; simp [dl]⟩, post σ1 H1 _ Se (P1.trans Pe) fx1⟩
end VS
namespace VS
open PySem PySem.Spec PyProof.Rows L2
variable {P : Program} {w : World} {K : PySem.W.Frag} {mg : Str → Option Value} {base : Heap}
variable {X : Cx} {κ κ1 κ2 κ3 κ4 : OE} {pos : Pos} {rc : RC}
/-! ### short words -/
/-- a local name given away -/
theorem j_mov {i k : Nat} {e : Expr} (h : PE X e (tVar i)) (hk : κ[i]? = some (some k)) : J X κ e (mV i) (.own k) (κ.set i none) true := by
  refine ⟨fun t ht => PE.imp h fun σ H Q z q => ?_, fun _ ρ d' ρ' e => (mV_some e).2⟩
  obtain ⟨g, ρ, S, d', ρ', em, post⟩ := q z
  obtain ⟨e1, rfl⟩ := mV_some em
  obtain ⟨v, es, o⟩ := S.ok i k d' hk e1
  have hi : i < X.N.length := by
    have := (List.getElem?_eq_some_iff.mp es).1
    have := z.2
    omega
  refine ⟨v, es, post v H (mvG i t [] (fun _ _ => false) g) ⟨fun m k' d2 h1 h2 => ?_, fun a h => S.gok a (mvG_ne h), S.len, by simp [S.lek]⟩ ⟨fun a z => ⟨mvG_fz z, rfl⟩, fun a z _ => ⟨mvG_un z, rfl⟩, fun a r p h1 h2 z => ⟨mvG_o (by omega) rfl z, rfl⟩, fun a r p h1 h2 z => mvG_inv (by omega) z, fun _ _ z _ => z⟩ (fun _ => Same.refl H) ?_⟩
  · rcases set_some h1 with ⟨_, e, _⟩ | ⟨hm, h1⟩
    · cases e
    · obtain ⟨v', es', w⟩ := S.ok m k' d2 h1 h2
      exact ⟨v', es', own_conv (fun _ _ z _ => z) d2 (.inr fun a z => ⟨mvG_fz z, rfl⟩) (fun a q z hh => ⟨rfl, by rw [if_pos hh]; exact mvG_o hm rfl z⟩) (fun _ z => z) w⟩
  · exact own_conv (fun _ _ z _ => z) d' (.inr fun a z => ⟨mvG_fz z, rfl⟩) (fun a q z hh => ⟨rfl, by rw [if_pos hh, mvG_t z]; simp⟩) (fun _ z => z) o
/-- a place of something frozen -/
theorem dic_get0 {H : Hp} {g : G} {q : DKs} {xs : List D} {d z : D} {v u : V} {r : Nat} {p : List Nat} (h : dGetD q xs d = some z) (rx : Own K H g (.dic q xs) 0 r p v) (ry : Rep K H d u) : ∃ a w, v = .ref a ∧ DGet H a u (some w) ∧ Own K H g z 0 0 [] w := by
  obtain ⟨j, e1, e2⟩ := dGetD_some h
  obtain ⟨a, vs, rfl, ha, hq, hg, hl⟩ := rx
  obtain ⟨w, e3, r3⟩ := ownL_get hl e2
  have hd : Rd H a (dO q vs) := ha.elim .inl fun z => .inr z.2
  have := dGet_of hd (hq.trans (repL_len (ownL_repL _ hl)).symm) e1 ry
  rw [Option.bind_some, e3] at this
  exact ⟨a, w, rfl, this, own_fz (fun a z => ⟨z, rfl⟩) (fun _ _ z _ => z) r3⟩
theorem j_ix0 (hu : X.A.units + 100 < cLine) {a b : Expr} {ma mb : M} {rb : Rz} {pa pb : Bool} (ha : J X κ a ma (.own 0) κ1 pa) (hb : J X κ1 b mb rb κ2 pb) (hs : PlainIx b) : J X κ (.Subscript a b pos) (m2 dIxP ma mb) (.own 0) κ2 (pa && pb) := by
  refine ⟨fun t ht => PE.imp (PE.or (pe_ix ix_seq (ha.run t ht) (hb.run (t + 1) (by omega)) hs) (pe_dget (by omega) (ha.run t ht) (hb.run (t + 1) (by omega)) hs)) fun σ H Q z q => ?_, fun hp ρ d ρ' h => ?_⟩
  · obtain ⟨g, ρ, S, d, ρ', em, post⟩ := q z
    obtain ⟨x, ρ1, y, ea, eb, ec⟩ := m2_some em
    by_cases hx : isDic x = true
    · refine .inr (two (K := X.K) (κ2 := κ2) ht rfl S ea eb z fun v u H' g' S' P' s' r1 r2 => ?_)
      cases x with
      | dic q xs =>
        obtain ⟨a', w, rfl, h1, h2⟩ := dic_get0 ec r1 r2.rep
        exact ⟨a', w, rfl, h1, post w H' g' S' P' s' (own_fz (fun a z => ⟨z, rfl⟩) (fun _ _ z _ => z) h2)⟩
      | _ => cases hx
    refine .inl (two (K := X.K) (κ2 := κ2) ht rfl S ea eb z fun v u H' g' S' P' s' r1 r2 => ?_)
    unfold dIxP at ec
    split at ec
    · obtain ⟨a, vs, rfl, h1, h2⟩ := own0_seq.1 r1
      cases (show _ = _ from r2.rep)
      obtain ⟨w, e1, e2⟩ := atI_rep (ownL_repL _ h2) ec
      obtain ⟨j, k1, k2⟩ := atI_at (ownL_len h2) e1 ec
      exact .inl ⟨a, vs, _, w, rfl, rfl, SqL.of h1, e1, post w H' g' S' P' s' (own_fz (fun a z => ⟨z, rfl⟩) (fun _ _ z _ => z) (ownL_at h2 k2 k1))⟩
    · obtain ⟨a, vs, rfl, h1, h2⟩ := own0_seq.2 r1
      cases (show _ = _ from r2.rep)
      obtain ⟨w, e1, e2⟩ := atI_rep (ownL_repL _ h2) ec
      obtain ⟨j, k1, k2⟩ := atI_at (ownL_len h2) e1 ec
      exact .inr (.inl ⟨a, vs, _, w, rfl, rfl, SqT.of h1, e1, post w H' g' S' P' s' (own_fz (fun a z => ⟨z, rfl⟩) (fun _ _ z _ => z) (ownL_at h2 k2 k1))⟩)
    · exact (hx rfl).elim
    · cases ec
  · rw [Bool.and_eq_true] at hp
    obtain ⟨x, ρ1, y, ea, eb, ec⟩ := m2_some h
    rw [hb.pur hp.2 _ _ _ eb, ha.pur hp.1 _ _ _ ea]
/-- targets = value, frozen -/
def sTgt (m : M) (mg : MG) : SM := fun ρ => (m ρ).bind fun x => (mg x.1 x.2).map fun ρ2 => .nx ρ2
theorem js_tgt {tg e : Expr} {m : M} {mgd : MG} {ts : List Nat} {pu : Bool} (h : J X κ e m (.own 0) κ1 pu) (hg : JG X κ1 tg mgd κ2 ts) (hf : notFxs rc ts = true) (hs : swapsWithSole [tg] e pos.line X.env = pure false) (hw : swappedStores [tg] e X.env = pure none)
    (h1 : (assignEach [tg] X.env).map (·.2) = [assign tg X.env]) : JS X κ (.Assign [tg] e pos) (sTgt m mgd) κ2 rc := by
  refine ⟨fun s0 t ht => PS.imp (ps_asg (h.run t ht) (hg.run t ht) hs hw h1) fun σ H D z q => ?_⟩
  obtain ⟨g, ρ, S, fx, o, em, post⟩ := q z
  unfold sTgt at em
  cases e1 : m ρ with
  | none => rw [e1] at em; cases em
  | some x =>
    rw [e1] at em
    simp only [Option.bind_some] at em
    cases e2 : mgd x.1 x.2 with
    | none => rw [e2] at em; cases em
    | some ρ2 =>
      rw [e2] at em
      cases em
      refine fun _ => ⟨g, ρ, S, x.1, x.2, e1, fun v H' g' S' P' s' r' => fun _ => ⟨g', x.2, x.1, S', own_fz (fun a z => ⟨z, rfl⟩) (fun _ _ z _ => z) r', ρ2, e2, fun σ2 g2 S2 P2 f2 => post σ2 H' g2 S2 (P'.trans P2) (fx.sets hf f2)⟩⟩
theorem j_glS {x : Str} {z : Str} (hg : Gl X x) (hm : ∃ t, X.mg x = some (.str z t)) (hd : (x == ("__debug__" : Str)) = false) {rz : Rz} : J X κ (.Name x pos) (mC (.str z)) rz κ true := by
  obtain ⟨t, hm⟩ := hm
  exact j_const rfl (pe_glob (v := .str z) hg hm ⟨t, rfl⟩ hd)
theorem j_glI {x : Str} {i : Int} (hg : Gl X x) (hm : ∃ t, X.mg x = some (.int i t)) (hd : (x == ("__debug__" : Str)) = false) {rz : Rz} : J X κ (.Name x pos) (mC (.int i)) rz κ true := by
  obtain ⟨t, hm⟩ := hm
  exact j_const rfl (pe_glob (v := .int i) hg hm ⟨t, rfl⟩ hd)
/-- - a -/
def mNeg (m : M) : M := fun ρ => match m ρ with
  | some (.int i, ρ') => some (.int (-i), ρ')
  | _ => none
theorem j_neg {e : Expr} {m : M} {rz rz' : Rz} {pu : Bool} (h : J X κ e m rz κ1 pu) : J X κ (.UnaryOp .USub e pos) (mNeg m) rz' κ1 pu := by
  have key : ∀ {ρ ρ' d}, mNeg m ρ = some (d, ρ') → ∃ i, m ρ = some (.int i, ρ') ∧ d = .int (-i) := fun {ρ ρ' d} e => by
    unfold mNeg at e
    split at e
    · cases e; exact ⟨_, by assumption, rfl⟩
    · cases e
  refine ⟨fun t ht => PE.imp (pe_un un_neg (h.run t ht)) fun σ H Q z q => ?_, fun hp ρ d ρ' e => ?_⟩
  · obtain ⟨g, ρ, S, c, ρ', em, post⟩ := q z
    obtain ⟨i, e1, rfl⟩ := key em
    refine fun _ => ⟨g, ρ, S, .int i, ρ', e1, fun v H' g' S' P' s' r' => ?_⟩
    cases (show _ = _ from r'.rep)
    exact ⟨i, rfl, post _ H' g' S' P' s' (atom_rz (d := .int (-i)) rfl)⟩
  · obtain ⟨i, e1, _⟩ := key e
    exact h.pur hp _ _ _ e1
/-! ### defs by their names -/
structure Has (P : Program) (w : World) (K : PySem.W.Frag) (mg : Str → Option Value) (base : Heap) (x : Str) (lev : Nat) (ps : List Str) (sg : Sg) (f : FM) : Prop where
  ex : ∃ fa fd, mg x = some (.ref fa) ∧ PySem.W.keepIn K (.ref fa) = true ∧ Binds K fd ps [] ∧ FnOk P w K mg base CX0 lev fa fd ps (fnSp K sg f)
/-- the names' facts that a def's derivation leans on -/
abbrev FnP (K : PySem.W.Frag) (x : Str) (st : Stmt) (f : Addr) (fd : FuncData) : Prop := FunD K x x (defArgs st) (defBody st) (defScope st) [] [] f fd
abbrev cxD (P : Program) (w : World) (K : PySem.W.Frag) (mg : Str → Option Value) (base : Heap) (N : List Str) (qual : Str) (scope : Scope) (f : Addr) (cd : Value) (A : Around) (outer : List Env) (s : Shared) (H : Hp) (E : XK) : Cx :=
  (cxOf CX0 P w K mg base N qual scope f cd A outer s H E).nox
theorem has_mk {x : Str} {st : Stmt} {fa : Addr} {fd : FuncData} {N ps : List Str} {k n np : Nat} {sg : Sg} {m : SM} (F : FnP K x st fa fd) (hm : mg x = some (.ref fa)) (S : FnScope N ps (defScope st)) (hN : N.length = n) (hp : ps.length = sg.ks.length) (h1 : sg.ks.length ≤ n) (h2 : sg.ks'.length = sg.ks.length)
    (bd : ∀ (kV doc pm : Value) (an : Option Addr) (cdv ct : Value) (us : List Value), us.length = ps.length → bindArgs (PySem.W.fnOf x x (defArgs st) (defBody st) (defScope st) .none kV doc pm an cdv ct) ⟨us, []⟩ = pure (ps.zip us))
    (body : ∀ (cdv : Value) (A : Around) (outer : List Env) (s : Shared) (H : Hp) (E : XK), Room k (A.deeper (envOfC x (defScope st) s.heap.objs.size fa cdv)) → JB (cxD P w K mg base N x (defScope st) fa cdv A outer s H E) (κ0 sg n) (defBody st) m (rcOf sg n).κr (rcOf sg n)) :
    Has P w K mg base x (k + 1) ps sg (fM np n sg.ks' m) := by
  refine ⟨fa, fd, hm, F.kp, F.bindsN bd, F.ok S (fun vs H Q E q => fnSp_len hp vs H Q E q) fun cdv A outer s H vs Q E hr q => ?_⟩
  obtain ⟨b1, b2⟩ := body_ok (X := cxD P w K mg base N x (defScope st) fa cdv A outer s H E) rfl hN (body cdv A outer s H E hr) h1 h2 q
  exact ⟨_, b1.nox, b2⟩
/-- a call of a def by its name -/
theorem has_call {x : Str} {lev n : Nat} {ps : List Str} {sg : Sg} {f : FM} {e : Expr} {es : List Expr} {t : TA} {p : Pos} (h : Has X.prog X.w X.K X.mg X.base x lev ps sg f) (hr : Room n X.A) (hl : lev ≤ n) (hg : Gl X x) (ha : PA X (e :: es) t)
    (hd : (x == ("__debug__" : Str)) = false) (he : starEach (e :: es) X.env = (false, eval e X.env) :: starEach es X.env) (hpl : (backTo pos (starEach es X.env)).any (·.1) = false) : PE X (.Call (.Name x p) (e :: es) [] pos) (tCall (fnSp X.K sg f) [] E0 t) := by
  obtain ⟨fa, fd, hm, hk, hb, F⟩ := h.ex
  exact pe_call F (hr.mono hl) hg hm hk hb .nil pass0 ha hd he hpl
theorem units_of {n : Nat} {A : Around} (hr : Room n A) : A.units + 100 < cLine := by
  have := hr.un
  omega
end VS
namespace VS
open PySem PySem.Spec PyProof.Rows L2
variable {X : Cx} {κ κ1 κ2 κ3 κ4 : OE} {pos : Pos} {rc : RC}
/-- what is pure may look at all as if it were frozen -/
theorem J.borrow {κ0 : OE} {e : Expr} {m : M} {rz : Rz} (h : J X κ0 e m rz κ1 true) (hl : leO κ0 κ = true) (hn : κ0.length = X.N.length) : J X κ e m .rep κ true := by
  refine ⟨fun t ht => PE.imp (h.run t ht) fun σ H Q z q _ => ?_, h.pur⟩
  obtain ⟨g, ρ, S, d, ρ', em, post⟩ := q z
  refine ⟨wk κ0 g, ρ, S.weaken hl, d, ρ', em, fun v H' g' S' P' s' r' => ?_⟩
  have sm := s' rfl
  have e := h.pur rfl _ _ _ em
  subst e
  exact post v H' g (S.grow sm) (Pres.grow S.gok sm) (fun _ => sm) r'.rep
/-! ### bodies that never return -/
def NoRt (m : SM) : Prop := ∀ ρ d ρ', m ρ ≠ some (.rt d ρ')
theorem nr_nil : NoRt sNil := fun ρ d ρ' e => by cases e
theorem nr_seq {a b : SM} (ha : NoRt a) (hb : NoRt b) : NoRt (sSeq a b) := fun ρ d ρ' e => by
  rcases sSeq_some e with ⟨ρ1, _, e2⟩ | ⟨d', ρ1, e1, _⟩
  · exact hb _ _ _ e2
  · exact ha _ _ _ e1
theorem nr_asg {i : Nat} {m : M} : NoRt (sAsg i m) := fun ρ d ρ' e => by
  obtain ⟨_, _, _, e⟩ := sAsg_some e
  cases e
theorem nr_exp {m : M} : NoRt (sExp m) := fun ρ d ρ' e => by
  obtain ⟨_, _, _, e⟩ := sExp_some e
  cases e
theorem nr_if {c : M} {a b : SM} (ha : NoRt a) (hb : NoRt b) : NoRt (sIf c a b) := fun ρ d ρ' e => by
  obtain ⟨k, ρ1, _, ⟨_, e⟩ | ⟨_, e⟩⟩ := sIf_some e
  · exact ha _ _ _ e
  · exact hb _ _ _ e
theorem nr_app {i : Nat} {m : M} : NoRt (sApp i m) := fun ρ d ρ' e => by
  obtain ⟨_, _, _, _, _, _, _, _, e⟩ := sApp_some e
  cases e
theorem nr_rev {i : Nat} : NoRt (sRev i) := fun ρ d ρ' e => by
  unfold sRev at e
  split at e
  · cases e
  · cases e
theorem nr_set {i : Nat} {a b : M} : NoRt (sSet i a b) := fun ρ d ρ' e => by
  obtain ⟨_, _, _, _, _, _, _, _, _, _, e⟩ := sSet_some e
  cases e
theorem nr_forM {i j : Nat} {mb : SM} : NoRt (sForM i j mb) := fun ρ d ρ' e => by
  unfold sForM at e
  split at e
  · rename_i ds _
    cases h : itM j mb ds ρ with
    | none => rw [h] at e; cases e
    | some x => rw [h] at e; cases e
  · cases e
theorem nr_itF {mg : MG} {mb : SM} (hb : NoRt mb) : ∀ ds, NoRt (itF mg mb ds)
  | [], ρ, d, ρ', e => by cases e
  | x :: ds, ρ, d, ρ', e => by
    simp only [itF] at e
    cases h : mg x ρ with
    | none => rw [h] at e; cases e
    | some ρ1 =>
      rw [h] at e
      simp only [Option.bind_some] at e
      split at e
      · exact nr_itF hb ds _ _ _ e
      · exact hb _ _ _ e
theorem nr_for {ml : ML} {mg : MG} {mb : SM} (hb : NoRt mb) : NoRt (sFor ml mg mb) := fun ρ d ρ' e => by
  obtain ⟨ds, ρ1, _, e⟩ := sFor_some e
  exact nr_itF hb _ _ _ _ e
end VS
namespace VS
open PySem PySem.Spec PyProof.Rows L2
variable {P : Program} {w : World} {K : PySem.W.Frag} {mg : Str → Option Value} {base : Heap}
/-- the law's own def -/
theorem fn_mk {x : Str} {st : Stmt} {fa : Addr} {fd : FuncData} {N ps : List Str} {k n np : Nat} {sg : Sg} {m : SM} (F : FnP K x st fa fd) (S : FnScope N ps (defScope st)) (hN : N.length = n) (hp : ps.length = sg.ks.length) (h1 : sg.ks.length ≤ n) (h2 : sg.ks'.length = sg.ks.length)
    (body : ∀ (cdv : Value) (A : Around) (outer : List Env) (s : Shared) (H : Hp) (E : XK), Room k (A.deeper (envOfC x (defScope st) s.heap.objs.size fa cdv)) → JB (cxD P w K mg base N x (defScope st) fa cdv A outer s H E) (κ0 sg n) (defBody st) m (rcOf sg n).κr (rcOf sg n)) :
    FnOk P w K mg base CX0 (k + 1) fa fd ps (fnSp K sg (fM np n sg.ks' m)) := by
  refine F.ok S (fun vs H Q E q => fnSp_len hp vs H Q E q) fun cdv A outer s H vs Q E hr q => ?_
  obtain ⟨b1, b2⟩ := body_ok (X := cxD P w K mg base N x (defScope st) fa cdv A outer s H E) rfl hN (body cdv A outer s H E hr) h1 h2 q
  exact ⟨_, b1.nox, b2⟩
/-- what the law is to answer -/
theorem law_sp {sg : Sg} {F : FM} {n : Nat} (hsg : sg.ks = [0]) (law : ∀ ns : List Int, ns.length ≤ n → ∃ e, F [.rol ns] = some (.bl true, [e])) (H : Hp) (a : Addr) (ns : List Int) (hl : ns.length ≤ n) (hO : Only H) (hS : SqL K H a (ns.map V.int)) :
    fnSp K sg F [.ref a] H (fun v _ => v = .bl true) fun _ _ _ => False := by
  obtain ⟨e, he⟩ := law ns hl
  refine ⟨gAll H, [.rol ns], gAll_gok H, ?_, .bl true, [e], he, rfl, fun v H' g' rr _ _ _ o _ => o⟩
  rw [hsg]
  refine ⟨_, [], _, [], rfl, rfl, ⟨a, rfl, ?_⟩, rfl, rfl⟩
  rcases hS with h | h
  · rcases h with h | h
    · rcases hO a with z | ⟨o, xs, z⟩
      · rw [z] at h; cases h
      · rw [z] at h; cases h
    · exact .inl h
  · exact .inr h
end VS
namespace VS
open PySem PySem.Spec PyProof.Rows L2
/-! ### what each word does, for rewriting -/
section
variable {ρ : DE} {f f' : D → D → Option D} {ma mb mc m : M} {ml : ML} {i j : Int}
def one {α β : Type} (o : Option α) (k : α → Option β) : Option β := match o with
  | some x => k x
  | none => none
theorem one_some {α β : Type} {x : α} {k : α → Option β} : one (some x) k = k x := rfl
theorem one_none {α β : Type} {k : α → Option β} : one none k = none := rfl
theorem bind_one {α β : Type} {o : Option α} {k : α → Option β} : o.bind k = one o k := by cases o <;> rfl
theorem ap_v {i : Nat} : mV i ρ = (match ρ[i]? with | some (some d) => some (d, ρ) | _ => none) := rfl
theorem ap_c {d : D} : mC d ρ = some (d, ρ) := rfl
theorem ap_2 : m2 f ma mb ρ = (match ma ρ with | some (x, ρ1) => (match mb ρ1 with | some (y, ρ2) => (match f x y with | some z => some (z, ρ2) | none => none) | none => none) | none => none) := by
  unfold m2
  cases ma ρ with
  | none => rfl
  | some x =>
    simp only [Option.bind_some]
    cases mb x.2 with
    | none => rfl
    | some y =>
      simp only [Option.bind_some]
      cases f x.1 y.1 <;> rfl
theorem ap_A : mA m ρ = (match m ρ with | some (x, ρ1) => (match isA x with | true => some (x, ρ1) | false => none) | none => none) := by
  unfold mA
  cases m ρ with
  | none => rfl
  | some x =>
    simp only [Option.bind_some]
    cases isA x.1 <;> rfl
theorem ap_nil : mNil ρ = some ([], ρ) := rfl
theorem ap_cons : mCons m ml ρ = (match m ρ with | some (x, ρ1) => (match ml ρ1 with | some (xs, ρ2) => some (x :: xs, ρ2) | none => none) | none => none) := by
  unfold mCons
  cases m ρ with
  | none => rfl
  | some x =>
    simp only [Option.bind_some]
    cases ml x.2 <;> rfl
theorem ap_lst : mLst ml ρ = (match ml ρ with | some (xs, ρ1) => (if xs.length ≤ 16777216 then some (.lst xs, ρ1) else none) | none => none) := by
  unfold mLst
  cases ml ρ <;> rfl
theorem ap_tup : mTup ml ρ = (match ml ρ with | some (xs, ρ1) => (if xs.length ≤ 16777216 then some (.tup xs, ρ1) else none) | none => none) := by
  unfold mTup
  cases ml ρ <;> rfl
theorem ap_B {g : List D → Option D} : mB g ml ρ = (match ml ρ with | some (xs, ρ1) => (match g xs with | some z => some (z, ρ1) | none => none) | none => none) := by
  unfold mB
  cases ml ρ with
  | none => rfl
  | some x =>
    simp only [Option.bind_some]
    cases g x.1 <;> rfl
theorem ap_call {g : FM} : mCall g ml ρ = (match ml ρ with | some (xs, ρ1) => (match g xs with | some (z, es) => some (z, ρ1) | none => none) | none => none) := by
  unfold mCall
  cases ml ρ with
  | none => rfl
  | some x =>
    simp only [Option.bind_some]
    cases g x.1 <;> rfl
theorem ap_callN {g : FM} : mCallO g none ml ρ = (match ml ρ with | some (xs, ρ1) => (match g xs with | some (z, es) => some (z, ρ1) | none => none) | none => none) := by
  unfold mCallO
  cases ml ρ with
  | none => rfl
  | some x =>
    simp only [Option.bind_some]
    cases g x.1 <;> rfl
theorem ap_callO {g : FM} {j i : Nat} : mCallO g (some (j, i)) ml ρ = (match ml ρ with | some (xs, ρ1) => (match g xs with | some (z, es) => some (z, ρ1.set i es[j]?) | none => none) | none => none) := by
  unfold mCallO
  cases ml ρ with
  | none => rfl
  | some x =>
    simp only [Option.bind_some]
    cases g x.1 <;> rfl
theorem ap_T : mTr m ρ = (match m ρ with | some (x, ρ1) => (match truD x with | some b => some (.bl b, ρ1) | none => none) | none => none) := by
  unfold mTr
  cases m ρ with
  | none => rfl
  | some x =>
    simp only [Option.bind_some]
    cases truD x.1 <;> rfl
theorem ap_isT {c : String} : mIsT c m ρ = (match m ρ with | some (x, ρ1) => (match isT c x with | some b => some (.bl b, ρ1) | none => none) | none => none) := by
  unfold mIsT
  cases m ρ with
  | none => rfl
  | some x =>
    simp only [Option.bind_some]
    cases isT c x.1 <;> rfl
theorem ap_not : mNot m ρ = (match m ρ with | some (.bl b, ρ1) => some (.bl (!b), ρ1) | _ => none) := rfl
theorem ap_neg : mNeg m ρ = (match m ρ with | some (.int i, ρ1) => some (.int (-i), ρ1) | _ => none) := rfl
theorem ap_and : mAnd ma mb ρ = (match ma ρ with | some (.bl true, ρ1) => mb ρ1 | some (.bl false, ρ1) => some (.bl false, ρ1) | _ => none) := rfl
theorem ap_or : mOr ma mb ρ = (match ma ρ with | some (.bl false, ρ1) => mb ρ1 | some (.bl true, ρ1) => some (.bl true, ρ1) | _ => none) := rfl
theorem ap_if : mIf mc ma mb ρ = (match mc ρ with | some (.bl true, ρ1) => ma ρ1 | some (.bl false, ρ1) => mb ρ1 | _ => none) := rfl
theorem ap_ch : mCh f f' ma mb mc ρ = (match ma ρ with | some (x, ρ1) => (match mb ρ1 with | some (y, ρ2) => (match f x y with | some (.bl true) => (match mc ρ2 with | some (z, ρ3) => (match f' y z with | some w => some (w, ρ3) | none => none) | none => none) | some (.bl false) => some (.bl false, ρ2) | _ => none) | none => none) | none => none) := by
  unfold mCh
  cases ma ρ with
  | none => rfl
  | some x =>
    simp only [Option.bind_some]
    cases mb x.2 with
    | none => rfl
    | some y =>
      simp only [Option.bind_some]
      cases f x.1 y.1 with
      | none => rfl
      | some w => cases w with
        | bl b => cases b with
          | true =>
            simp only []
            cases mc y.2 with
            | none => rfl
            | some z =>
              simp only [Option.bind_some]
              cases f' y.1 z.1 <;> rfl
          | false => rfl
        | _ => rfl
/-! statements -/
variable {a b : SM}
theorem ap_seq : sSeq a b ρ = (match a ρ with | some (.nx ρ1) => b ρ1 | x => x) := rfl
theorem ap_snil : sNil ρ = some (.nx ρ) := rfl
theorem ap_sif : sIf mc a b ρ = (match mc ρ with | some (.bl true, ρ1) => a ρ1 | some (.bl false, ρ1) => b ρ1 | _ => none) := rfl
theorem ap_ret : sRet m ρ = (match m ρ with | some (x, ρ1) => some (.rt x ρ1) | none => none) := by
  unfold sRet
  cases m ρ <;> rfl
theorem ap_retN : sRetN ρ = some (.rt .non ρ) := rfl
theorem ap_asg {i : Nat} : sAsg i m ρ = (match m ρ with | some (x, ρ1) => some (.nx (ρ1.set i (some x))) | none => none) := by
  unfold sAsg
  cases m ρ <;> rfl
theorem ap_exp : sExp m ρ = (match m ρ with | some (x, ρ1) => some (.nx ρ1) | none => none) := by
  unfold sExp
  cases m ρ <;> rfl
theorem ap_tgt {mg : MG} : sTgt m mg ρ = (match m ρ with | some (x, ρ1) => (match mg x ρ1 with | some ρ2 => some (.nx ρ2) | none => none) | none => none) := by
  unfold sTgt
  cases m ρ with
  | none => rfl
  | some x =>
    simp only [Option.bind_some]
    cases mg x.1 x.2 <;> rfl
theorem ap_app {i : Nat} : sApp i m ρ = (match ρ[i]? with | some (some (.lst _)) => (match m ρ with | some (x, ρ1) => (match ρ1[i]? with | some (some (.lst ds)) => if ds.length < 16777216 then some (.nx (ρ1.set i (some (.lst (ds ++ [x]))))) else none | _ => none) | none => none) | _ => none) := by
  unfold sApp
  cases ρ[i]? with
  | none => rfl
  | some o => cases o with
    | none => rfl
    | some d => cases d with
      | lst ds => cases m ρ <;> rfl
      | _ => rfl
theorem ap_rev {i : Nat} : sRev i ρ = (match ρ[i]? with | some (some (.lst ds)) => some (.nx (ρ.set i (some (.lst ds.reverse)))) | _ => none) := rfl
theorem ap_set {i : Nat} : sSet i ma mb ρ = (match ma ρ with | some (x, ρ1) => (match ρ1[i]? with | some (some (.lst ds)) => (match mb ρ1 with | some (.int k, ρ2) => (match ixN ds.length k with | some j => some (.nx (ρ2.set i (some (.lst (ds.set j x))))) | none => none) | _ => none) | _ => none) | none => none) := by
  unfold sSet
  cases ma ρ <;> rfl
theorem ap_aug {g : Int → Int → Int} {i : Nat} : sAug g i m ρ = (match ρ[i]? with | some (some (.int a)) => (match m ρ with | some (.int b, ρ1) => some (.nx (ρ1.set i (some (.int (g a b))))) | _ => none) | _ => none) := rfl
theorem ap_for {mg : MG} : sFor ml mg b ρ = (match ml ρ with | some (ds, ρ1) => itF mg b ds ρ1 | none => none) := by
  unfold sFor
  cases ml ρ <;> rfl
theorem ap_forM {i j : Nat} : sForM i j b ρ = (match ρ[i]? with | some (some (.lst ds)) => (match itM j b ds ρ with | some (xs, ρ1) => some (.nx (ρ1.set i (some (.lst xs)))) | none => none) | _ => none) := by
  unfold sForM
  cases ρ[i]? with
  | none => rfl
  | some o => cases o with
    | none => rfl
    | some d => cases d with
      | lst ds =>
        simp only []
        cases itM j b ds ρ <;> rfl
      | _ => rfl
theorem ap_rng1 : mRng1 ml ρ = (match ml ρ with | some ([.int j], ρ1) => (match lim62 j with | true => some (rngD 0 j.toNat, ρ1) | false => none) | _ => none) := by
  unfold mRng1
  cases ml ρ with
  | none => rfl
  | some p =>
    obtain ⟨xs, ρ1⟩ := p
    simp only [Option.bind_some]
    cases xs with
    | nil => rfl
    | cons x xs => cases xs with
      | nil => cases x with
        | int j =>
          simp only []
          cases lim62 j <;> rfl
        | _ => rfl
      | cons y ys => cases x <;> rfl
theorem ap_rng2 : mRng2 ml ρ = (match ml ρ with | some ([.int i, .int j], ρ1) => (match lim62 i && lim62 j with | true => some (rngD i (j - i).toNat, ρ1) | false => none) | _ => none) := by
  unfold mRng2
  cases ml ρ with
  | none => rfl
  | some p =>
    obtain ⟨xs, ρ1⟩ := p
    simp only [Option.bind_some]
    cases xs with
    | nil => rfl
    | cons x xs => cases xs with
      | nil => cases x <;> rfl
      | cons y ys => cases ys with
        | nil => cases x with
          | int i => cases y with
            | int j =>
              simp only []
              cases lim62 i <;> cases lim62 j <;> simp
            | _ => rfl
          | _ => cases y <;> rfl
        | cons z zs => cases x with
          | int i => cases y <;> rfl
          | _ => rfl
theorem ap_mseq : mSeq m ρ = (match m ρ with | some (.lst xs, ρ1) => some (xs, ρ1) | some (.tup xs, ρ1) => some (xs, ρ1) | _ => none) := by
  unfold mSeq
  cases m ρ with
  | none => rfl
  | some p =>
    obtain ⟨x, ρ1⟩ := p
    simp only [Option.bind_some]
    cases x <;> rfl
theorem ap_enum : mEnum ml ρ = (match ml ρ with | some ([.lst xs], ρ1) => some (enumD xs, ρ1) | _ => none) := by
  unfold mEnum
  cases ml ρ with
  | none => rfl
  | some p =>
    obtain ⟨xs, ρ1⟩ := p
    simp only [Option.bind_some]
    cases xs with
    | nil => rfl
    | cons x xs => cases xs with
      | nil => cases x <;> rfl
      | cons y ys => cases x <;> rfl
theorem ap_lc {pu : Bool} {vs : List Nat} {mg : MG} {me : M} : mLc pu vs ml mg mc me ρ = (match ml ρ with | some (ds, ρ1) => (match cpL vs mg mc me ds ρ1 with | some (es, ρ2) => (if es.length ≤ 16777216 then some (.lst es, if pu then ρ1 else ρ2) else none) | none => none) | none => none) := by
  unfold mLc
  cases ml ρ with
  | none => rfl
  | some p =>
    simp only [Option.bind_some]
    cases cpL vs mg mc me p.1 p.2 <;> rfl
theorem ap_yes : mYes ρ = some (.bl true, ρ) := rfl
theorem ap_gnm {i : Nat} {d : D} : gNm i d ρ = some (ρ.set i (some d)) := rfl
theorem ap_gtp {ms : List D → DE → Option DE} {ds : List D} : gTp ms (.tup ds) ρ = ms ds ρ := rfl
theorem ap_gnil : gsNil [] ρ = some ρ := rfl
theorem ap_gcons {g : MG} {ms : List D → DE → Option DE} {d : D} {ds : List D} : gsCons g ms (d :: ds) ρ = (match g d ρ with | some ρ1 => ms ds ρ1 | none => none) := by
  show (g d ρ).bind _ = _
  cases g d ρ <;> rfl
theorem ap_fM {np n : Nat} {ks' : List (Option Nat)} {m : SM} {ds : List D} : fM np n ks' m ds = (match decide (ds.length = np) with | true => (match m (ds.map some ++ List.replicate (n - ds.length) none) with | some (.rt d ρ) => (match outsD ks' ρ 0 ds with | some es => some (d, es) | none => none) | some (.nx ρ) => (match outsD ks' ρ 0 ds with | some es => some (.non, es) | none => none) | none => none) | false => none) := by
  unfold fM
  by_cases h : ds.length = np
  · simp only [h, if_true, decide_true]
    cases m (ds.map some ++ List.replicate (n - np) none) with
    | none => rfl
    | some o => cases o with
      | rt d ρ =>
        simp only []
        cases outsD ks' ρ 0 ds <;> rfl
      | nx ρ =>
        simp only []
        cases outsD ks' ρ 0 ds <;> rfl
  · simp only [h, if_false, decide_false]
theorem ap_on {ks' : List (Option Nat)} {j : Nat} : outsD ks' ρ j [] = some [] := rfl
theorem ap_oc {ks' : List (Option Nat)} {j : Nat} {d : D} {ds : List D} : outsD ks' ρ j (d :: ds) = (match ks'[j]? with
    | some (some _) => (match ρ[j]? with
      | some (some d') => (match outsD ks' ρ (j + 1) ds with | some es => some (d' :: es) | none => none)
      | _ => none)
    | _ => (match outsD ks' ρ (j + 1) ds with | some es => some (d :: es) | none => none)) := by
  rw [outsD]
  cases ks'[j]? with
  | none => cases outsD ks' ρ (j + 1) ds <;> rfl
  | some o => cases o with
    | none => cases outsD ks' ρ (j + 1) ds <;> rfl
    | some k => cases ρ[j]? with
      | none => rfl
      | some q => cases q with
        | none => rfl
        | some d' => cases outsD ks' ρ (j + 1) ds <;> rfl
/-! data -/
theorem r_add : dAdd (.int i) (.int j) = some (.int (i + j)) := rfl
theorem r_sub : dSub (.int i) (.int j) = some (.int (i - j)) := rfl
theorem cMul_l (h : -1000000000000000000 < i ∧ i < 1000000000000000000) : cMul i j = true := by
  unfold cMul
  have h1 : i.natAbs < 18446744073709551616 := by omega
  simp [h1]
theorem cMul_r (h : -1000000000000000000 < j ∧ j < 1000000000000000000) : cMul i j = true := by
  unfold cMul
  have h1 : j.natAbs < 18446744073709551616 := by omega
  simp [h1]
theorem r_mul (h : cMul i j = true) : dMul (.int i) (.int j) = some (.int (i * j)) := by unfold dMul dI; simp only [h, if_true]
theorem r_div (h : 0 < j) (h2 : j < 1073741824) : dDiv (.int i) (.int j) = some (.int (i / j)) := by unfold dDiv dI cDiv; simp [h, h2]
theorem r_mod (h : 0 < j) : dMod (.int i) (.int j) = some (.int (i % j)) := by unfold dMod dI; simp [h]
theorem r_pow (h : 0 ≤ j) (h1 : j ≤ 1000000) (hi : i.natAbs < 18446744073709551616) : dPow (.int i) (.int j) = some (.int (i ^ j.toNat)) := by unfold dPow dI cPow; simp [h, h1, hi]
theorem r_lt : dLt (.int i) (.int j) = some (.bl (decide (i < j))) := rfl
theorem r_le : dLe (.int i) (.int j) = some (.bl (decide (i ≤ j))) := rfl
theorem r_gt : dGt (.int i) (.int j) = some (.bl (decide (j < i))) := rfl
theorem r_ge : dGe (.int i) (.int j) = some (.bl (decide (j ≤ i))) := rfl
theorem dq_int : deq (.int i) (.int j) = decide (i = j) := by
  unfold deq pyD PyData.eqv
  rfl
theorem dq_str {x y : Str} : deq (.str x) (.str y) = decide (x = y) := by
  unfold deq pyD PyData.eqv
  rfl
theorem r_eqI : dEq (.int i) (.int j) = some (.bl (decide (i = j))) := by
  unfold dEq
  rw [dq_int]
  rfl
theorem r_eqS {x y : Str} : dEq (.str x) (.str y) = some (.bl (decide (x = y))) := by
  unfold dEq
  rw [dq_str]
  rfl
theorem r_neI : dNe (.int i) (.int j) = some (.bl (!decide (i = j))) := by
  unfold dNe
  rw [dq_int]
  rfl
theorem r_neS {x y : Str} : dNe (.str x) (.str y) = some (.bl (!decide (x = y))) := by
  unfold dNe
  rw [dq_str]
  rfl
theorem r_ixL {xs : List D} : dIx (.lst xs) (.int i) = atI xs i := rfl
theorem r_ixT {xs : List D} : dIx (.tup xs) (.int i) = atI xs i := rfl
theorem r_ixR {xs : List Int} : dIx (.rol xs) (.int i) = (atI xs i).map .int := rfl
theorem r_ipL {xs : List D} : dIxP (.lst xs) (.int i) = atI xs i := rfl
theorem r_ipT {xs : List D} : dIxP (.tup xs) (.int i) = atI xs i := rfl
theorem at_nn {α : Type} {xs : List α} {n : Nat} (h : n < xs.length) : atI xs (n : Int) = xs[n]? := by
  unfold atI ixN
  have h1 : (0 : Int) ≤ (n : Int) := by omega
  have h2 : (n : Int) < (xs.length : Int) := by omega
  simp [h1, h2]
theorem r_len {xs : List D} : fLen [.lst xs] = some (.int xs.length) := rfl
theorem r_lenT {xs : List D} : fLen [.tup xs] = some (.int xs.length) := rfl
theorem r_lenR {xs : List Int} : fLen [.rol xs] = some (.int xs.length) := rfl
theorem r_abs : fAbs [.int i] = some (.int (if i < 0 then -i else i)) := rfl
theorem r_max : fMax2 [.int i, .int j] = some (.int (if j > i then j else i)) := rfl
theorem r_min : fMin2 [.int i, .int j] = some (.int (if j < i then j else i)) := rfl
theorem a_int : isA (.int i) = true := rfl
theorem a_bl {b : Bool} : isA (.bl b) = true := rfl
theorem a_str {b : Str} : isA (.str b) = true := rfl
theorem a_non : isA .non = true := rfl
theorem t_bl {b : Bool} : truD (.bl b) = some b := rfl
end
theorem st_seq {a b : SM} {ρ ρ1 : DE} {o : Option Out} (h1 : a ρ = some (.nx ρ1)) (h2 : b ρ1 = o) : sSeq a b ρ = o := by
  rw [ap_seq, h1]
  exact h2
theorem st_ret {a b : SM} {ρ ρ1 : DE} {d : D} (h1 : a ρ = some (.rt d ρ1)) : sSeq a b ρ = some (.rt d ρ1) := by
  rw [ap_seq, h1]
/-! ### loops -/
theorem itF_inv {mg : MG} {mb : SM} (I : Nat → DE → Prop) : ∀ (ds : List D) (k : Nat) (ρ : DE), (∀ (i : Nat) (d : D), ds[i]? = some d → ∀ ρ, I (k + i) ρ → ∃ ρ1 ρ2, mg d ρ = some ρ1 ∧ mb ρ1 = some (.nx ρ2) ∧ I (k + i + 1) ρ2) → I k ρ → ∃ ρ', itF mg mb ds ρ = some (.nx ρ') ∧ I (k + ds.length) ρ'
  | [], k, ρ, _, h => ⟨ρ, rfl, h⟩
  | d :: ds, k, ρ, st, h => by
    obtain ⟨ρ1, ρ2, e1, e2, h2⟩ := st 0 d rfl ρ h
    obtain ⟨ρ', e3, h3⟩ := itF_inv I ds (k + 1) ρ2 (fun i d e ρ hh => by
      have := st (i + 1) d e ρ (by rw [show k + (i + 1) = k + 1 + i by omega]; exact hh)
      rw [show k + (i + 1) + 1 = k + 1 + i + 1 by omega] at this
      exact this) h2
    refine ⟨ρ', ?_, by rw [show k + (d :: ds).length = k + 1 + ds.length by simp; omega]; exact h3⟩
    simp only [itF]
    rw [e1]
    simp only [Option.bind_some]
    rw [e2]
    exact e3
theorem itW_inv {mc : M} {mb : SM} (I : Nat → DE → Prop) (st : ∀ k ρ, I (k + 1) ρ → ∃ ρ1 ρ2, mc ρ = some (.bl true, ρ1) ∧ mb ρ1 = some (.nx ρ2) ∧ I k ρ2) (en : ∀ ρ, I 0 ρ → ∃ ρ1, mc ρ = some (.bl false, ρ1) ∧ I 0 ρ1) :
    ∀ (k n : Nat) (ρ : DE), k < n → I k ρ → ∃ ρ', itW mc mb n ρ = some (.nx ρ') ∧ I 0 ρ'
  | _, 0, _, h, _ => by omega
  | 0, n + 1, ρ, _, h => by
    obtain ⟨ρ1, e, h1⟩ := en ρ h
    exact ⟨ρ1, by simp only [itW]; rw [e], h1⟩
  | k + 1, n + 1, ρ, hk, h => by
    obtain ⟨ρ1, ρ2, e1, e2, h2⟩ := st k ρ h
    obtain ⟨ρ', e3, h3⟩ := itW_inv I st en k n ρ2 (by omega) h2
    refine ⟨ρ', ?_, h3⟩
    simp only [itW]
    rw [e1]
    simp only []
    rw [e2]
    exact e3
/-- a comprehension whose block is pure and always taken, as a map -/
theorem cpL_map {vs : List Nat} {mg : MG} {mc me : M} {ρ : DE} (f : D → D) : ∀ ds : List D, (∀ d ∈ ds, ∃ ρ2, mg d (wp ρ vs) = some ρ2 ∧ mc ρ2 = some (.bl true, ρ2) ∧ ∃ ρ3, me ρ2 = some (f d, ρ3) ∧ wp ρ3 vs = wp ρ vs) → ∀ ρ0, wp ρ0 vs = wp ρ vs → ∃ ρ', cpL vs mg mc me ds ρ0 = some (ds.map f, ρ') ∧ wp ρ' vs = wp ρ vs
  | [], _, ρ0, h => ⟨ρ0, rfl, h⟩
  | d :: ds, st, ρ0, h => by
    obtain ⟨ρ2, e1, e2, ρ3, e3, h3⟩ := st d (by simp)
    obtain ⟨ρ', e4, h4⟩ := cpL_map f ds (fun x hx => st x (by simp [hx])) ρ3 h3
    refine ⟨ρ', ?_, h4⟩
    simp only [cpL]
    rw [h, e1]
    simp only [Option.bind_some]
    rw [e2]
    simp only []
    rw [e3]
    simp only [Option.bind_some]
    rw [e4]
    rfl
/-- .. with a test -/
theorem cpL_filter {vs : List Nat} {mg : MG} {mc me : M} {ρ : DE} (p : D → Bool) (f : D → D) : ∀ ds : List D, (∀ d ∈ ds, ∃ ρ2, mg d (wp ρ vs) = some ρ2 ∧ wp ρ2 vs = wp ρ vs ∧ mc ρ2 = some (.bl (p d), ρ2) ∧ (p d = true → ∃ ρ3, me ρ2 = some (f d, ρ3) ∧ wp ρ3 vs = wp ρ vs)) → ∀ ρ0, wp ρ0 vs = wp ρ vs → ∃ ρ', cpL vs mg mc me ds ρ0 = some ((ds.filter p).map f, ρ') ∧ wp ρ' vs = wp ρ vs
  | [], _, ρ0, h => ⟨ρ0, rfl, h⟩
  | d :: ds, st, ρ0, h => by
    obtain ⟨ρ2, e1, h2, e2, st2⟩ := st d (by simp)
    cases hp : p d with
    | true =>
      obtain ⟨ρ3, e3, h3⟩ := st2 hp
      obtain ⟨ρ', e4, h4⟩ := cpL_filter p f ds (fun x hx => st x (by simp [hx])) ρ3 h3
      refine ⟨ρ', ?_, h4⟩
      rw [hp] at e2
      simp only [cpL]
      rw [h, e1]
      simp only [Option.bind_some]
      rw [e2]
      simp only []
      rw [e3]
      simp only [Option.bind_some]
      rw [e4, List.filter_cons_of_pos hp]
      rfl
    | false =>
      obtain ⟨ρ', e4, h4⟩ := cpL_filter p f ds (fun x hx => st x (by simp [hx])) ρ2 h2
      refine ⟨ρ', ?_, h4⟩
      rw [hp] at e2
      simp only [cpL]
      rw [h, e1]
      simp only [Option.bind_some]
      rw [e2]
      simp only []
      rw [e4, List.filter_cons_of_neg (by simp [hp])]
end VS
namespace VS
open PySem PySem.Spec PyProof.Rows L2
/-! ### plain facts of data -/
theorem deq_self (d : D) : deq d d = true := PySem.SeqAt.eqv_refl_plain _ (plain_pyD d)
theorem pyL_map (ds : List D) : pyL ds = ds.map pyD := by
  induction ds with
  | nil => rfl
  | cons d ds ih => simp only [pyL, List.map_cons, ih]
theorem depL_pl {k : Nat} (hk : k < 1000) : ∀ {ds : List D}, (∀ d ∈ ds, dep d ≤ k) → noDL ds = true ∧ PyData.depthAll (pyL ds) ≤ k
  | [], _ => ⟨rfl, by
    show PyData.depthAll [] ≤ k
    rw [PyData.depthAll]
    exact Nat.zero_le k⟩
  | d :: ds, h => by
    have h1 := h d (by simp)
    obtain ⟨h2, h3⟩ := depL_pl hk (ds := ds) fun x hx => h x (by simp [hx])
    have h4 : noD d = true ∧ (pyD d).depth ≤ k := by
      unfold dep at h1
      split at h1
      · exact ⟨by assumption, h1⟩
      · omega
    refine ⟨by show (noD d && noDL ds) = true; rw [h4.1, h2]; rfl, ?_⟩
    show PyData.depthAll (pyD d :: pyL ds) ≤ k
    rw [PyData.depthAll]
    exact Nat.max_le.mpr ⟨h4.2, h3⟩
theorem depL_le {k : Nat} {ds : List D} (h : ∀ d ∈ ds, dep d ≤ k) (hk : k < 1000 := by omega) : depL ds ≤ k := by
  obtain ⟨h1, h2⟩ := depL_pl hk h
  unfold depL
  rw [if_pos h1]
  exact h2
theorem dep_lst {k : Nat} {ds : List D} (h : ∀ d ∈ ds, dep d ≤ k) (hk : k < 999 := by omega) : dep (.lst ds) ≤ k + 1 := by
  obtain ⟨h1, h2⟩ := depL_pl (by omega) h
  unfold dep
  rw [if_pos (show noD (.lst ds) = true from h1)]
  show PyData.depth (.list (pyL ds)) ≤ k + 1
  rw [PyData.depth]
  omega
theorem dep_tup {k : Nat} {ds : List D} (h : ∀ d ∈ ds, dep d ≤ k) (hk : k < 999 := by omega) : dep (.tup ds) ≤ k + 1 := by
  obtain ⟨h1, h2⟩ := depL_pl (by omega) h
  unfold dep
  rw [if_pos (show noD (.tup ds) = true from h1)]
  show PyData.depth (.tuple (pyL ds)) ≤ k + 1
  rw [PyData.depth]
  omega
theorem dep_atom {d : D} (h : isA d = true) : dep d = 0 := by
  cases d <;> first | (cases h; done) | (unfold dep pyD; simp [PyData.depth, noD])
theorem cmp_ok {a b : D} (h : dep a ≤ 60) (h2 : dep b ≤ 60) : cmpOk a b = true := by
  unfold cmpOk
  simp [h, h2]
theorem eq_same {a : D} (h : dep a ≤ 60) : dEq a a = some (.bl true) := by
  unfold dEq
  rw [if_pos (cmp_ok h h), deq_self]
theorem ne_same {a : D} (h : dep a ≤ 60) : dNe a a = some (.bl false) := by
  unfold dNe
  rw [if_pos (cmp_ok h h), deq_self]
  rfl
theorem cut_take {α : Type} (xs : List α) (t : Nat) : cutG xs none (some (t : Int)) = xs.take t := by
  unfold cutG
  rw [HT.sIx_none, HT.sIx_nat]
  simp only [List.drop_zero, Nat.sub_zero]
  rcases Nat.le_total t xs.length with h | h
  · rw [Nat.min_eq_left h]
  · rw [Nat.min_eq_right h, List.take_of_length_le (Nat.le_refl _), List.take_of_length_le h]
theorem sl_take (xs : List D) (t : Nat) : dSl (.lst xs) none (some (t : Int)) = some (.lst (xs.take t)) := by
  show some (D.lst (cutG xs none (some (t : Int)))) = _
  rw [cut_take]
/-- a sorted list of ints -/
theorem sorted_unique : ∀ {xs ys : List Int}, xs.Perm ys → xs.Pairwise (· ≤ ·) → ys.Pairwise (· ≤ ·) → xs = ys := by
  intro xs
  induction xs with
  | nil => intro ys p _ _; exact (List.Perm.nil_eq p)
  | cons x xs ih =>
    intro ys p h1 h2
    cases ys with
    | nil => exact absurd p.symm (by simp)
    | cons y ys =>
      rw [List.pairwise_cons] at h1 h2
      have e : x = y := by
        have a1 : x ∈ y :: ys := p.subset (by simp)
        have a2 : y ∈ x :: xs := p.symm.subset (by simp)
        rcases List.mem_cons.mp a1 with z | z
        · exact z
        · rcases List.mem_cons.mp a2 with w | w
          · exact w.symm
          · have := h1.1 y w
            have := h2.1 x z
            omega
      subst e
      rw [ih (List.Perm.cons_inv p) h1.2 h2.2]
theorem srt_ints {xs ys : List Int} (p : xs.Perm ys) (h : ys.Pairwise (· ≤ ·)) : srtD (xs.map D.int) = ys.map D.int := by
  unfold srtD
  have e : (xs.mergeSort fun a b => decide (a ≤ b)).map D.int = (xs.map D.int).mergeSort (PySem.W.dataLe false pyD) := by
    refine List.map_mergeSort fun a _ b _ => ?_
    have := congrFun (congrFun (PySem.W.dataLe_int (fun x : Int => x)) a) b
    rw [← this]
    rfl
  rw [← e]
  congr 1
  refine sorted_unique ((List.mergeSort_perm _ _).trans p) ?_ h
  have := List.pairwise_mergeSort (le := fun a b : Int => decide (a ≤ b)) (by intro a b c; simp; omega) (by intro a b; simp; omega) xs
  exact this.imp (by intro a b h; simpa using h)
theorem srt_ok_ints {xs : List Int} (h : xs.length ≤ 16777216) : srtOk (xs.map D.int) = true := by
  unfold srtOk
  have e1 : ((xs.map D.int).all fun a => (xs.map D.int).all fun b => PySem.W.alike (pyD a) (pyD b)) = true := by
    rw [List.all_eq_true]
    intro a ha
    rw [List.all_eq_true]
    intro b hb
    obtain ⟨i, _, rfl⟩ := List.mem_map.mp ha
    obtain ⟨j, _, rfl⟩ := List.mem_map.mp hb
    simp [pyD, PySem.W.alike]
  have e2 : ((xs.map D.int).all fun a => match a with | .tup _ => false | .non => false | _ => true) = true := by
    rw [List.all_eq_true]
    intro a ha
    obtain ⟨i, _, rfl⟩ := List.mem_map.mp ha
    rfl
  have e3 : ((xs.map D.int).all fun a => decide (dep a ≤ 60)) = true := by
    rw [List.all_eq_true]
    intro a ha
    obtain ⟨i, _, rfl⟩ := List.mem_map.mp ha
    rw [dep_atom rfl]
    rfl
  have e4 : decide ((xs.map D.int).length ≤ 16777216) = true := by simpa using h
  simp only [Bool.and_eq_true, Bool.or_eq_true]
  exact ⟨⟨⟨e1, .inr e2⟩, e3⟩, e4⟩
theorem mk_srt {xs ys : List Int} (p : xs.Perm ys) (h : ys.Pairwise (· ≤ ·)) (hl : xs.length ≤ 16777216) : dMk .srt (.lst (xs.map D.int)) = some (.lst (ys.map D.int)) := by
  show (if srtOk (xs.map D.int) = true then some (D.lst (srtD (xs.map D.int))) else none) = _
  rw [if_pos (srt_ok_ints hl), srt_ints p h]
/-- counts of words -/
theorem cnt_str (ws : List Str) (w : Str) : dCnt (.lst (ws.map D.str)) (.str w) = some (.int ((ws.countP fun x => decide (x = w) : Nat) : Int)) := by
  unfold dCnt
  have h0 : depL (ws.map D.str) ≤ 0 := depL_le fun d hd => by
    obtain ⟨x, _, rfl⟩ := List.mem_map.mp hd
    rw [dep_atom rfl]
    exact Nat.le_refl 0
  simp only []
  rw [if_pos (by rw [Bool.and_eq_true, decide_eq_true_eq, decide_eq_true_eq, dep_atom rfl]; omega)]
  congr 3
  rw [pyL_map, List.map_map, List.countP_map]
  refine congrArg Nat.cast (List.countP_congr fun x _ => ?_)
  have := dq_str (x := x) (y := w)
  show (deq (.str x) (.str w) = true) ↔ _
  rw [this]
/-- membership in a display of words -/
theorem in_strT {x : Str} {ws : List Str} : dIn (.str x) (.tup (ws.map D.str)) = some (.bl (ws.any fun w => decide (w = x))) := by
  unfold dIn dInG
  simp only []
  rw [if_pos (by
    have h0 : depL (ws.map D.str) ≤ 0 := depL_le fun d hd => by
      obtain ⟨x, _, rfl⟩ := List.mem_map.mp hd
      rw [dep_atom rfl]
      exact Nat.le_refl 0
    rw [Bool.and_eq_true, decide_eq_true_eq, decide_eq_true_eq, dep_atom rfl]
    omega)]
  congr 2
  simp only [Bool.false_eq_true, if_false]
  unfold inL
  rw [pyL_map, List.map_map, List.any_map]
  congr 1
theorem bls_true {α : Type} (xs : List α) : blsOf (xs.map fun _ => D.bl true) = some (xs.map fun _ => true) := by
  induction xs with
  | nil => rfl
  | cons x xs ih =>
    simp only [List.map_cons, blsOf]
    rw [ih]
    rfl
theorem all_true {α : Type} (xs : List α) : fAll [.lst (xs.map fun _ => D.bl true)] = some (.bl true) := by
  show (blsOf _).map _ = _
  rw [bls_true]
  simp
theorem rngD_len (lo : Int) (n : Nat) : (rngD lo n).length = n := by simp [rngD]
theorem enumD_eq (ds : List D) : enumD ds = (List.range ds.length).map fun i => .tup [.int (i : Nat), (ds[i]?).getD default] := by
  unfold enumD
  apply List.ext_getElem?
  intro j
  rw [List.getElem?_zipWith, List.getElem?_map]
  by_cases h : j < ds.length
  · rw [List.getElem?_range h, List.getElem?_eq_getElem h]
    simp only [Option.map_some, List.getElem?_eq_getElem h, Option.getD_some]
  · rw [List.getElem?_eq_none (by simp; omega)]
    simp
/-! ### data without truths: equal just when they are the same -/
mutual
def sd : D → Bool
  | .non => true
  | .int _ => true
  | .str _ => true
  | .tup xs => sdL xs
  | .lst xs => sdL xs
  | _ => false
def sdL : List D → Bool
  | [] => true
  | x :: xs => sd x && sdL xs
end
theorem deq_iff : (a b : D) → sd a = true → sd b = true → (deq a b = true ↔ a = b)
  | .non, b, _, hb => by cases b <;> first | (cases hb; done) | simp [deq, pyD, PyData.eqv]
  | .int i, b, _, hb => by cases b <;> first | (cases hb; done) | simp [deq, pyD, PyData.eqv]
  | .str x, b, _, hb => by cases b <;> first | (cases hb; done) | simp [deq, pyD, PyData.eqv]
  | .tup xs, b, ha, hb => by
    cases b <;> first | (cases hb; done) | (simp [deq, pyD, PyData.eqv]; done) | skip
    have := go xs _ ha hb
    simp only [deq, pyD, PyData.eqv, D.tup.injEq]
    exact this
  | .lst xs, b, ha, hb => by
    cases b <;> first | (cases hb; done) | (simp [deq, pyD, PyData.eqv]; done) | skip
    have := go xs _ ha hb
    simp only [deq, pyD, PyData.eqv, D.lst.injEq]
    exact this
  | .bl _, _, h, _ => nomatch h
  | .rol _, _, h, _ => nomatch h
  | .dic _ _, _, h, _ => nomatch h
where
  go : (xs ys : List D) → sdL xs = true → sdL ys = true → (PyData.eqvAll (pyL xs) (pyL ys) = true ↔ xs = ys)
  | [], [], _, _ => by simp [pyL, PyData.eqvAll]
  | [], _ :: _, _, _ => by simp [pyL, PyData.eqvAll]
  | _ :: _, [], _, _ => by simp [pyL, PyData.eqvAll]
  | x :: xs, y :: ys, h1, h2 => by
    have h1' : (sd x && sdL xs) = true := h1
    have h2' : (sd y && sdL ys) = true := h2
    rw [Bool.and_eq_true] at h1' h2'
    have a := deq_iff x y h1'.1 h2'.1
    have b := go xs ys h1'.2 h2'.2
    simp only [pyL, PyData.eqvAll, Bool.and_eq_true, List.cons.injEq]
    rw [← b, ← a]
    rfl
theorem sdL_all {ds : List D} (h : ∀ d ∈ ds, sd d = true) : sdL ds = true := by
  induction ds with
  | nil => rfl
  | cons d ds ih =>
    show (sd d && sdL ds) = true
    rw [h d (by simp), ih fun x hx => h x (by simp [hx])]
    rfl
end VS
namespace VS
open PySem PySem.Spec PyProof.Rows L2
variable {K : PySem.W.Frag} {X : Cx} {κ κ1 κ2 : OE} {pos : Pos} {rc : RC}
/-! ### is -/
def isNon : D → Bool
  | .non => true
  | _ => false
def dIsV (neg : Bool) (x : D) : D → Option D
  | .non => some (.bl (if neg then !(isNon x) else isNon x))
  | .bl k => (match x with
    | .bl j => some (.bl (if neg then !(decide (j = k)) else decide (j = k)))
    | _ => none)
  | _ => none
theorem dIsV_a {neg : Bool} (x y z : D) (h : dIsV neg x y = some z) : isA z = true := by
  unfold dIsV at h
  split at h
  · cases h; rfl
  · split at h
    · cases h; rfl
    · cases h
  · cases h
theorem rep_isNon {H : Hp} {d : D} {v : V} (r : Rep K H d v) : decide (v = .non) = isNon d := by
  cases d with
  | non => cases (show v = .non from r); rfl
  | bl b => cases (show _ = _ from r); rfl
  | int b => cases (show _ = _ from r); rfl
  | str b => cases (show _ = _ from r); rfl
  | tup ds => obtain ⟨a, vs, rfl, _⟩ := r; rfl
  | lst ds => obtain ⟨a, vs, rfl, _⟩ := r; rfl
  | rol ns => obtain ⟨a, rfl, _⟩ := r; rfl
  | dic q ds => obtain ⟨a, vs, rfl, _⟩ := r; rfl
theorem o_is : OpR X (compareOp .Is) (rDat X.K (dIsV false)) := by
  intro pins s σ H x y v u Q I rx ry q
  obtain ⟨a, b, c, ra, rb, e, ha, q⟩ := q
  unfold dIsV at e
  split at e
  · cases e
    cases (show _ = _ from rb)
    refine op_isN pins s σ H x .non v u Q I rx ry ⟨rfl, ?_⟩
    rw [rep_isNon ra]
    exact q
  · split at e
    · cases e
      cases (show _ = _ from rb)
      cases (show _ = _ from ra)
      exact op_isBl pins s σ H _ _ v u Q I rx ry ⟨_, _, rfl, rfl, q⟩
    · cases e
  · cases e
theorem o_isnot : OpR X (compareOp .IsNot) (rDat X.K (dIsV true)) := by
  intro pins s σ H x y v u Q I rx ry q
  obtain ⟨a, b, c, ra, rb, e, ha, q⟩ := q
  unfold dIsV at e
  split at e
  · cases e
    cases (show _ = _ from rb)
    refine op_notN pins s σ H x .non v u Q I rx ry ⟨rfl, ?_⟩
    rw [rep_isNon ra]
    exact q
  · split at e
    · cases e
      cases (show _ = _ from rb)
      cases (show _ = _ from ra)
      exact op_notBl pins s σ H _ _ v u Q I rx ry ⟨_, _, rfl, rfl, q⟩
    · cases e
  · cases e
/-! ### x.insert, x.pop, x.extend: a list of frozen items -/
structure MutOp (X : Cx) (r : V → List V → Hp → VK → Prop) (f : List D → List D → Option (D × List D)) : Prop where
  ans : ∀ (H : Hp) (g : G) (L : Addr) (vs avs : List V) (ds as ds' : List D) (z : D) (Q : VK), H L = some (.lst vs) → OwnL X.K H g ds 0 0 [] 0 vs → OwnL X.K H g as 0 0 [] 0 avs → f ds as = some (z, ds') →
    (∀ v vs', OwnL X.K H g ds' 0 0 [] 0 vs' → Own X.K H g z 0 0 [] v → Q v (upd H L (.lst vs'))) → r (.ref L) avs H Q
def mMut (i : Nat) (f : List D → List D → Option (D × List D)) (ml : ML) : M := fun ρ => match ρ[i]? with
  | some (some (.lst _)) => (ml ρ).bind fun x => (match x.2[i]? with
    | some (some (.lst ds)) => (f ds x.1).map fun y => (y.1, x.2.set i (some (.lst y.2)))
    | _ => none)
  | _ => none
theorem mMut_some {i : Nat} {f : List D → List D → Option (D × List D)} {ml : ML} {ρ ρ' : DE} {d : D} (h : mMut i f ml ρ = some (d, ρ')) : ∃ ds0 as ρ1 ds ds', ρ[i]? = some (some (.lst ds0)) ∧ ml ρ = some (as, ρ1) ∧ ρ1[i]? = some (some (.lst ds)) ∧ f ds as = some (d, ds') ∧ ρ' = ρ1.set i (some (.lst ds')) := by
  unfold mMut at h
  split at h
  · rename_i ds0 e0
    cases e : ml ρ with
    | none => rw [e] at h; cases h
    | some p =>
      rw [e] at h
      simp only [Option.bind_some] at h
      split at h
      · rename_i ds e1
        cases e2 : f ds p.1 with
        | none => rw [e2] at h; cases h
        | some y => rw [e2] at h; cases h; exact ⟨ds0, p.1, p.2, ds, y.2, e0, rfl, e1, e2, rfl⟩
      · cases h
  · cases h
theorem rows_fz {H : Hp} {g : G} : ∀ {t i : Nat} {ds : List D} {vs : List V}, OwnRows K H g 0 t ds vs → OwnL K H g ds 0 0 [] i vs
  | _, _, [], _, h => h
  | _, _, d :: ds, _, h => by
    obtain ⟨v, r, rfl, h1, h2⟩ := h
    exact ⟨v, r, rfl, own_fz (fun a z => ⟨z, rfl⟩) (fun _ _ z _ => z) h1, rows_fz h2⟩
theorem j_mut {e : Expr} {es : List Expr} {i k0 : Nat} {ml : ML} {ms : List Am} {pu : Bool} {r : V → List V → Hp → VK → Prop} {f : List D → List D → Option (D × List D)} (ha : JA X κ es ml ms κ1 pu) (hm : allOwn 0 ms = true) (hk0 : κ[i]? = some (some k0)) (hk : κ1[i]? = some (some 1)) (op : MutOp X r f)
    (mk : ∀ {t : TA}, PA X es t → PE X e (tBM X.K "list" r (tVar i) t)) : J X κ e (mMut i f ml) (.own 0) κ1 false := by
  refine ⟨fun t ht => PE.imp (mk (ha.run t ht)) fun σ H Q z q => ?_, fun hp => by cases hp⟩
  obtain ⟨g, ρ, S, d, ρ', em, post⟩ := q z
  obtain ⟨ds0, as, ρ1, ds, ds', e0, e1, e2, e3, rfl⟩ := mMut_some em
  obtain ⟨v, ev, o0⟩ := S.ok i k0 _ hk0 e0
  obtain ⟨L, vs0, rfl, hL0, _⟩ := o0
  refine ⟨.ref L, ev, .inl ⟨rfl, vs0, SqL.of hL0⟩, fun en2 => ⟨g, ρ, S, as, ρ1, e1, fun avs H1 g1 S1 P1 s1 r1 => ?_⟩⟩
  obtain ⟨L', vs, ev', hL, hg, ol⟩ := own1_list S1 hk e2
  rw [ev] at ev'
  cases ev'
  have al := rows_fz (i := 0) (rows_own hm r1)
  refine op.ans H1 g1 L vs avs ds as ds' d Q hL ol al e3 fun v vs' ol' ov => ?_
  obtain ⟨S2, P2⟩ := mut1 (n := X.N.length) (t := t) (ds := ds) S1 z.2 hk ev hL hg ol'
  exact post v _ g1 S2 (P1.trans P2) (fun hp => by cases hp) (own_fz P2.fz P2.tu ov)
theorem j_mut0 {e : Expr} {i : Nat} {r : V → List V → Hp → VK → Prop} {f : List D → List D → Option (D × List D)} (hk : κ[i]? = some (some 1)) (op : MutOp X r f)
    (mk : PE X e (tBM0 X.K "list" r (tVar i))) : J X κ e (mMut i f mNil) (.own 0) κ false := by
  refine ⟨fun t ht => PE.imp mk fun σ H Q z q => ?_, fun hp => by cases hp⟩
  obtain ⟨g, ρ, S, d, ρ', em, post⟩ := q z
  obtain ⟨ds0, as, ρ1, ds, ds', e0, e1, e2, e3, rfl⟩ := mMut_some em
  cases e1
  obtain ⟨L, vs, ev, hL, hg, ol⟩ := own1_list S hk e2
  refine ⟨.ref L, ev, .inl ⟨rfl, vs, SqL.of hL⟩, ?_⟩
  refine op.ans H g L vs [] ds [] ds' d Q hL ol rfl e3 fun v vs' ol' ov => ?_
  obtain ⟨S2, P2⟩ := mut1 (n := X.N.length) (t := t) (ds := ds) S z.2 hk ev hL hg ol'
  exact post v _ g S2 P2 (fun hp => by cases hp) (own_fz P2.fz P2.tu ov)
theorem ownL_cut {H : Hp} {g : G} {k r : Nat} {p : List Nat} : ∀ (n : Nat) {ds : List D} {vs : List V} {i : Nat}, OwnL K H g ds k r p i vs → ∃ m, OwnL K H g (ds.drop n) k r p m (vs.drop n)
  | 0, _, _, i, h => ⟨i, h⟩
  | n + 1, [], _, i, h => by cases (show _ = _ from h); exact ⟨i, rfl⟩
  | n + 1, d :: ds, _, i, h => by
    obtain ⟨v, w, rfl, o1, o2⟩ := h
    exact ownL_cut n o2
def fIns : List D → List D → Option (D × List D)
  | ds, [.int i, d] => if 0 ≤ i ∧ i.natAbs < 1000000000000000000 ∧ ds.length < 16777216 then some (.non, ds.take i.toNat ++ ([d] ++ ds.drop i.toNat)) else none
  | _, _ => none
def rIns : V → List V → Hp → VK → Prop := fun x vs H Q => ∃ (l : Addr) (xs : List V) (i : Int) (y : V), x = .ref l ∧ vs = [.int i, y] ∧ H l = some (.lst xs) ∧ xs.length < sizeLine ∧ 0 ≤ i ∧ i < 2 ^ 63 ∧ Q .non (upd H l (.lst (xs.take i.toNat ++ [y] ++ xs.drop i.toNat)))
theorem u_ins : MutOp X rIns fIns where
  ans := fun H g L vs avs ds as ds' z Q hL ol al e q => by
    unfold fIns at e
    split at e
    · rename_i i d
      split at e
      · rename_i hi
        cases e
        obtain ⟨v1, w1, rfl, o1, v2, w2, rfl, o2, e3⟩ := al
        cases (show _ = _ from e3)
        cases (show v1 = V.int i from o1)
        refine ⟨L, vs, i, v2, rfl, rfl, hL, by rw [ownL_len ol, sizeLine_eq]; exact hi.2.2, hi.1, by omega, ?_⟩
        rw [List.append_assoc]
        exact q .non _ (ownL_app (j := 0) (ownL_take i.toNat ol) (ownL_app (j := 0) (ds := [d]) (vs := [v2]) (i := 0) ⟨v2, [], rfl, own_fz (fun a z => ⟨z, rfl⟩) (fun _ _ z _ => z) o2, rfl⟩ (ownL_drop i.toNat ol))) rfl
      · cases e
    · cases e
def fPop : List D → List D → Option (D × List D)
  | ds, [] => match ds[ds.length - 1]? with
    | some d => some (d, ds.dropLast)
    | none => none
  | _, _ => none
theorem u_pop : MutOp X rPop fPop where
  ans := fun H g L vs avs ds as ds' z Q hL ol al e q => by
    unfold fPop at e
    split at e
    · split at e
      · rename_i d ed
        cases e
        cases (show _ = _ from al)
        obtain ⟨v, ev, ov⟩ := ownL_get ol ed
        refine ⟨L, vs, v, rfl, rfl, hL, by rw [ownL_len ol]; exact ev, ?_⟩
        refine q v _ ?_ (own_fz (fun a z => ⟨z, rfl⟩) (fun _ _ z _ => z) ov)
        rw [List.dropLast_eq_take, List.dropLast_eq_take, ownL_len ol]
        exact ownL_take _ ol
      · cases e
    · cases e
def fPopAt : List D → List D → Option (D × List D)
  | ds, [.int i] => (match seqIndex? i ds.length with
    | some k => (match ds[k]? with
      | some d => if i.natAbs < 1000000000000000000 then some (d, ds.take k ++ ds.drop (k + 1)) else none
      | none => none)
    | none => none)
  | _, _ => none
theorem u_popAt : MutOp X rPopAt fPopAt where
  ans := fun H g L vs avs ds as ds' z Q hL ol al e q => by
    unfold fPopAt at e
    split at e
    · rename_i i
      split at e
      · rename_i k ek
        split at e
        · rename_i d ed
          split at e
          · rename_i hi
            cases e
            obtain ⟨v1, w1, rfl, o1, e3⟩ := al
            cases (show _ = _ from e3)
            cases (show v1 = V.int i from o1)
            obtain ⟨v, ev, ov⟩ := ownL_get ol ed
            refine ⟨L, vs, i, k, v, rfl, rfl, hL, by omega, by omega, by rw [ownL_len ol]; exact ek, ev, ?_⟩
            refine q v _ ?_ (own_fz (fun a z => ⟨z, rfl⟩) (fun _ _ z _ => z) ov)
            rw [List.eraseIdx_eq_take_drop_succ]
            exact ownL_app (j := 0) (ownL_take k ol) (ownL_drop (k + 1) ol)
          · cases e
        · cases e
      · cases e
    · cases e
def fExt : List D → List D → Option (D × List D)
  | ds, [.lst es] => if ds.length + es.length ≤ 16777216 then some (.non, ds ++ es) else none
  | _, _ => none
theorem u_ext : MutOp X rExtend fExt where
  ans := fun H g L vs avs ds as ds' z Q hL ol al e q => by
    unfold fExt at e
    split at e
    · rename_i es
      split at e
      · rename_i hi
        cases e
        obtain ⟨v1, w1, rfl, o1, e3⟩ := al
        cases (show _ = _ from e3)
        obtain ⟨b, zs, rfl, hb, hg, ob⟩ := o1
        refine ⟨L, b, vs, zs, rfl, rfl, hL, hb, by rw [ownL_len ol, ownL_len ob, sizeLine_eq]; exact hi, ?_⟩
        exact q .non _ (ownL_app (j := 0) ol (ownL_fz (fun a z => ⟨z, rfl⟩) (fun _ _ z _ => z) (r' := 0) (p' := []) (j := 0) ob)) rfl
      · cases e
    · cases e
end VS
namespace VS
open PySem PySem.Spec PyProof.Rows L2
variable {K : PySem.W.Frag} {X : Cx} {κ κ1 κ2 : OE} {pos : Pos} {rc : RC}
/-! ### x[a], x[b] = value, a list of frozen items -/
theorem ownL_set {H : Hp} {g : G} {e : D} {y : V} (oe : Own K H g e 0 0 [] y) : ∀ {ds : List D} {vs : List V} {i j : Nat}, OwnL K H g ds 0 0 [] i vs → OwnL K H g (ds.set j e) 0 0 [] i (vs.set j y)
  | [], _, _, _, h => by cases (show _ = _ from h); exact rfl
  | d :: ds, _, i, 0, h => by
    obtain ⟨v, w, rfl, o1, o2⟩ := h
    exact ⟨y, w, rfl, own_fz (fun a z => ⟨z, rfl⟩) (fun _ _ z _ => z) oe, o2⟩
  | d :: ds, _, i, j + 1, h => by
    obtain ⟨v, w, rfl, o1, o2⟩ := h
    exact ⟨v, w.set j y, rfl, o1, ownL_set oe o2⟩
def putI (i : Nat) (mj : M) (d : D) : DE → Option DE := fun ρ => match ρ[i]? with
  | some (some (.lst ds)) => (match mj ρ with
    | some (.int k, _) => (match ixN ds.length k with
      | some j => some (ρ.set i (some (.lst (ds.set j d))))
      | none => none)
    | _ => none)
  | _ => none
theorem putI_some {i : Nat} {mj : M} {d : D} {ρ ρ' : DE} (h : putI i mj d ρ = some ρ') : ∃ ds k ρ2 j, ρ[i]? = some (some (.lst ds)) ∧ mj ρ = some (.int k, ρ2) ∧ ixN ds.length k = some j ∧ ρ' = ρ.set i (some (.lst (ds.set j d))) := by
  unfold putI at h
  split at h
  · rename_i ds e1
    split at h
    · rename_i k ρ2 e2
      split at h
      · rename_i j e3
        cases h
        exact ⟨ds, k, ρ2, j, e1, e2, e3, rfl⟩
      · cases h
    · cases h
  · cases h
theorem put_core {n t i : Nat} {b : Expr} {mj : M} {rj : Rz} {ρ ρ' : DE} {g : G} {σ : L2.St} {H : Hp} {d : D} {v : V} {Q : L2.St → Hp → Prop} (hj : J X κ1 b mj rj κ1 true) (hn : n ≤ t) (hk : κ1[i]? = some (some 1)) (hl : σ.length = n) (S : Sok X.K κ1 ρ g σ H) (ov : Own X.K H g d 0 0 [] v) (e : putI i mj d ρ = some ρ')
    (post : ∀ g' H', Sok X.K κ1 ρ' g' σ H' → Pres n t g H g' H' → Q σ H') : gSub (tVar i) (jTE X.K n κ1 mj rj κ1 true t) rSetL v σ H Q := by
  obtain ⟨ds, k, ρ2, j, e1, e2, e3, rfl⟩ := putI_some e
  obtain ⟨v0, ev, L, vs0, rfl, hL0, _⟩ := S.ok i 1 _ hk e1
  have hr := hj.pur rfl _ _ _ e2
  subst hr
  refine ⟨.ref L, ev, fun _ => ⟨g, ρ2, S, .int k, ρ2, e2, fun u H2 g2 S2 P2 s2 r2 => ?_⟩⟩
  cases (show _ = _ from r2.rep)
  obtain ⟨L', vs, ev', hL, hg, ol⟩ := own1_list S2 hk e1
  rw [ev] at ev'
  cases ev'
  refine ⟨L, vs, k, j, rfl, rfl, hL, by rw [ownL_len ol]; exact e3, ?_⟩
  have o2 : Own X.K H2 g2 d 0 0 [] v := P2.own0 ov
  obtain ⟨S3, P3⟩ := mut1 (n := n) (t := t) (ds := ds) S2 hl hk ev hL hg (ownL_set o2 ol)
  exact post g2 _ S3 (P2.trans P3)
def sSwap (i : Nat) (m ma mb : M) : SM := fun ρ => match m ρ with
  | some (.tup [d1, d2], ρ1) => (match putI i ma d1 ρ1 with
    | some ρ2 => (match putI i mb d2 ρ2 with
      | some ρ3 => some (.nx ρ3)
      | none => none)
    | none => none)
  | _ => none
theorem js_swap {e a b : Expr} {m ma mb : M} {i : Nat} {ra rb : Rz} {pu : Bool} {st : Stmt} (h : J X κ e m (.own 0) κ1 pu) (ha : J X κ1 a ma ra κ1 true) (hb : J X κ1 b mb rb κ1 true) (hk : κ1[i]? = some (some 1))
    (mk : ∀ {te ta tb : TE}, PE X e te → PE X a ta → PE X b tb → PS X st (tAsg te (gTup X.K 2 (gCons (gSub (tVar i) ta rSetL) (gCons (gSub (tVar i) tb rSetL) gNil))))) : JS X κ st (sSwap i m ma mb) κ1 rc := by
  refine ⟨fun s0 t ht => PS.imp (mk (h.run t ht) (ha.run t ht) (hb.run t ht)) fun σ H D z q => ?_⟩
  obtain ⟨g, ρ, S, fx, o, em, post⟩ := q z
  unfold sSwap at em
  split at em
  · rename_i d1 d2 ρ1 e1
    split at em
    · rename_i ρ2 e2
      split at em
      · rename_i ρ3 e3
        cases em
        have hl : σ.length = X.N.length := z.2
        refine fun _ => ⟨g, ρ, S, _, ρ1, e1, fun v H1 g1 S1 P1 s1 r1 => ?_⟩
        obtain ⟨T, vs, rfl, hT, v1, w1, rfl, o1, v2, w2, rfl, o2, e4⟩ := r1
        cases (show _ = _ from e4)
        have o1' : Own X.K H1 g1 d1 0 0 [] v1 := own_fz (fun a z => ⟨z, rfl⟩) (fun _ _ z _ => z) o1
        have o2' : Own X.K H1 g1 d2 0 0 [] v2 := own_fz (fun a z => ⟨z, rfl⟩) (fun _ _ z _ => z) o2
        refine ⟨T, [v1, v2], rfl, SqT.of hT, rfl, v1, [v2], rfl, ?_⟩
        refine put_core ha ht hk hl S1 o1' e2 fun g2 H2 S2 P2 => ?_
        refine ⟨v2, [], rfl, ?_⟩
        refine put_core hb ht hk hl S2 (P2.own0 o2') e3 fun g3 H3 S3 P3 => ?_
        exact ⟨rfl, post σ H3 g3 S3 (P1.trans (P2.trans P3)) fx⟩
      · cases em
    · cases em
  · cases em
end VS
namespace VS
open PySem PySem.Spec PyProof.Rows L2
variable {K : PySem.W.Frag} {X : Cx} {κ κ1 κ2 κ3 κ4 : OE} {pos : Pos} {rc : RC}
/-! ### for i, x in enumerate(xs), the items changed -/
def itE (j1 j : Nat) (mb : SM) : Nat → List D → DE → Option (List D × DE)
  | _, [], ρ => some ([], ρ)
  | n, d :: ds, ρ => match mb ((ρ.set j1 (some (.int (n : Nat)))).set j (some d)) with
    | some (.nx ρ1) => (match ρ1[j]? with
      | some (some d') => (itE j1 j mb (n + 1) ds ρ1).map fun x => (d' :: x.1, x.2)
      | _ => none)
    | _ => none
def sForE (i j1 j : Nat) (mb : SM) : SM := fun ρ => match ρ[i]? with
  | some (some (.lst ds)) => (itE j1 j mb 0 ds ρ).map fun x => .nx (x.2.set i (some (.lst x.1)))
  | _ => none
theorem itE_cons {j1 j n : Nat} {mb : SM} {d : D} {ds es : List D} {ρ ρ' : DE} (h : itE j1 j mb n (d :: ds) ρ = some (es, ρ')) : ∃ ρ1 d' r, mb ((ρ.set j1 (some (.int (n : Nat)))).set j (some d)) = some (.nx ρ1) ∧ ρ1[j]? = some (some d') ∧ itE j1 j mb (n + 1) ds ρ1 = some (r, ρ') ∧ es = d' :: r := by
  simp only [itE] at h
  split at h
  · rename_i ρ1 e1
    split at h
    · rename_i d' e2
      cases e3 : itE j1 j mb (n + 1) ds ρ1 with
      | none => rw [e3] at h; cases h
      | some x => rw [e3] at h; cases h; exact ⟨ρ1, d', x.1, e1, e2, e3, rfl⟩
    · cases h
  · cases h
theorem ap_forE {i j1 j : Nat} {b : SM} {ρ : DE} : sForE i j1 j b ρ = (match ρ[i]? with | some (some (.lst ds)) => (match itE j1 j b 0 ds ρ with | some (xs, ρ1) => some (.nx (ρ1.set i (some (.lst xs)))) | none => none) | _ => none) := by
  unfold sForE
  cases ρ[i]? with
  | none => rfl
  | some o => cases o with
    | none => rfl
    | some d => cases d with
      | lst ds =>
        simp only []
        cases itE j1 j b 0 ds ρ <;> rfl
      | _ => rfl
theorem js_forE {tg iter : Expr} {b : List Stmt} {mb : SM} {i j1 j k : Nat} {κb' : OE} (hij1 : i ≠ j1) (hjj : j1 ≠ j) (hjl1 : j1 < X.N.length) (hfj1 : notFx rc j1 = true) (hij : i ≠ j) (hil : i < X.N.length) (hjl : j < X.N.length) (hk : κ[i]? = some (some k)) (h0 : k ≠ 0)
    (hb : JB X (((κ.set i none).set j1 (some 0)).set j (some (lv k))) b mb κb' (rcM rc i j)) (hr : ∀ ρ d ρ', mb ρ ≠ some (.rt d ρ')) (hj : κb'[j]? = some (some (lv k))) (hle : leO (((κ.set i none).set j1 none).set j none) κb' = true) (hκn : κ.length = X.N.length) (hrc : rc.κr.length = X.N.length) (hfi : notFx rc i = true) (hfj : notFx rc j = true)
    (mk : ∀ {tb : TS}, PSs X b tb → PS X (.For tg iter b [] pos) (tFor (iEnum X.K (tCons (tVar i) tNil)) (gTup X.K 2 (gCons (gName j1) (gCons (gName j) gNil))) tb)) : JS X κ (.For tg iter b [] pos) (sForE i j1 j mb) ((((κ.set i none).set j1 none).set j none).set i (some k)) rc := by
  have body : ∀ t, X.N.length ≤ t → PSs X b (fun D σ H => ∃ s1, jTS X.K X.N.length (((κ.set i none).set j1 (some 0)).set j (some (lv k))) mb κb' (rcM rc i j) s1 t D σ H) := fun t ht => ⟨fun pins s σ H D I q => by
    obtain ⟨s1, q⟩ := q
    exact (hb.run s1 t ht).run pins s σ H D I q⟩
  refine ⟨fun s0 t ht => PS.imp (mk (body (t + 1) (by omega))) fun σ H Dd z q => ?_⟩
  obtain ⟨g, ρ, S, fx, o, em, post⟩ := q z
  unfold sForE at em
  split at em
  case h_2 => cases em
  rename_i ds ei
  cases e5 : itE j1 j mb 0 ds ρ with
  | none => rw [e5] at em; cases em
  | some x =>
    obtain ⟨es, ρe⟩ := x
    rw [e5] at em
    cases em
    obtain ⟨v, ev, o1⟩ := S.ok i k _ hk ei
    obtain ⟨L, vs0, rfl, hL, hg, _⟩ := lst_own o1 h0
    have lenσ : σ.length = X.N.length := z.2
    have it : i ≠ t := by omega
    have κi : ∀ (m k' : Nat), ((((κ.set i none).set j1 none).set j none) : OE)[m]? = some (some k') → m ≠ i ∧ m ≠ j ∧ κ[m]? = some (some k') := fun m k' h => by
      rcases set_some h with ⟨_, e, _⟩ | ⟨h1, h⟩
      · cases e
      · rcases set_some h with ⟨_, e, _⟩ | ⟨h3, h⟩
        · cases e
        · rcases set_some h with ⟨_, e, _⟩ | ⟨h2, h⟩
          · cases e
          · exact ⟨h2, h1, h⟩
    -- the list at a row of its own
    have Sg : Sok X.K (((κ.set i none).set j1 none).set j none) ρ (mvG i t [] (fun _ _ => false) g) σ H := by
      refine ⟨fun m k' d' h1 h2 => ?_, fun a h => S.gok a (mvG_ne h), S.len, by simp [S.lek]⟩
      obtain ⟨mi, mj, h1⟩ := κi m k' h1
      obtain ⟨v', es', w⟩ := S.ok m k' d' h1 h2
      exact ⟨v', es', own_conv (fun _ _ z _ => z) d' (.inr fun a z => ⟨mvG_fz z, rfl⟩) (fun a q z hh => ⟨rfl, by rw [if_pos hh]; exact mvG_o mi rfl z⟩) (fun _ z => z) w⟩
    have Og : Own X.K H (mvG i t [] (fun _ _ => false) g) (.lst ds) k t [] (.ref L) :=
      own_conv (fun _ _ z _ => z) (.lst ds) (.inr fun a z => ⟨mvG_fz z, rfl⟩) (fun a q z hh => ⟨rfl, by rw [if_pos hh, mvG_t z]; simp⟩) (fun _ z => z) o1
    have Pg : Pres X.N.length t g H (mvG i t [] (fun _ _ => false) g) H :=
      ⟨fun a z => ⟨mvG_fz z, rfl⟩, fun a z _ => ⟨mvG_un z, rfl⟩, fun a r p h1 h2 z => ⟨mvG_o (by omega) rfl z, rfl⟩, fun a r p h1 h2 z => mvG_inv (by omega) z, fun _ _ z _ => z⟩
    refine ⟨.ref L, ev, L, vs0, rfl, SqL.of hL, ?_⟩
    refine ⟨fun idx m σ' H' => m = ds.length - idx ∧ idx ≤ ds.length ∧ ∃ g' ρ' dn r, Sok X.K (((κ.set i none).set j1 none).set j none) ρ' g' σ' H' ∧ Fx rc s0 σ' ∧ σ'[i]? = some (some (.ref L)) ∧ Own X.K H' g' (.lst (dn ++ ds.drop idx)) k t [] (.ref L) ∧ dn.length = idx ∧
      itE j1 j mb idx (ds.drop idx) ρ' = some (r, ρe) ∧ dn ++ r = es ∧ Pres X.N.length t g H g' H', ⟨ds.length, by omega, Nat.zero_le _, _, ρ, [], es, Sg, fx, ev, by simpa using Og, rfl, by simpa using e5, rfl, Pg⟩, ?_⟩
    rintro idx m σ1 H1 ⟨rfl, hle1, g1, ρ1, dn, r, S1, fx1, ev1, O1, dl, e6, er, P1⟩
    obtain ⟨L', vs, eL, hL1, hg1, hvl⟩ := lst_own O1 h0
    cases eL
    have len1 : σ1.length = X.N.length := by
      rw [← S1.lek]
      simp [hκn]
    by_cases hlt : idx < ds.length
    · obtain ⟨d, ed⟩ := ex_at hlt
      rw [drop_cons ed] at e6 O1
      obtain ⟨ρ2, d', r', e7, e8, e9, rfl⟩ := itE_cons e6
      have hvlen : idx < vs.length := by
        rw [hvl]
        simp
        omega
      obtain ⟨xv, exv⟩ := ex_at hvlen
      refine .inr ⟨⟨vs, xv, SqL.of hL1, exv⟩, fun σ' H' => idx + 1 ≤ ds.length ∧ ∃ g' ρ' dn r, Sok X.K (((κ.set i none).set j1 none).set j none) ρ' g' σ' H' ∧ Fx rc s0 σ' ∧ σ'[i]? = some (some (.ref L)) ∧ Own X.K H' g' (.lst (dn ++ ds.drop (idx + 1))) k t [] (.ref L) ∧ dn.length = idx + 1 ∧
        itE j1 j mb (idx + 1) (ds.drop (idx + 1)) ρ' = some (r, ρe) ∧ dn ++ r = es ∧ Pres X.N.length t g H g' H', fun σ' H' hh => ⟨ds.length - (idx + 1), by omega, rfl, hh⟩, fun x H' y => ?_⟩
      obtain ⟨T, x1, rfl, nT, hH', y⟩ := y
      have hx : x1 = xv := by
        have := y vs (SqL.of hL1)
        rw [exv] at this
        cases this
        rfl
      subst hx
      have sm : Same H1 H' := by rw [hH']; exact same_new nT
      have hT : H' T = some (.tup [.int (idx : Nat), x1]) := by rw [hH']; exact upd_same
      have Pn : Pres X.N.length (t + 1) g1 H1 g1 H' := Pres.grow S1.gok sm
      replace O1 := Pn.own (by omega) (Nat.lt_succ_self t) O1
      replace hL1 := sm _ _ hL1
      replace S1 := S1.grow sm
      replace P1 := P1.trans (Pn.less (Nat.le_succ t))
      -- the item at its slot
      obtain ⟨L2, vs2, eL2, hL2, hgL, ol⟩ := id O1
      cases eL2
      rw [hL1] at hL2
      cases hL2
      obtain ⟨w1, w2, rfl, hw1, ol1, ol2⟩ := ownL_split ol
      obtain ⟨xc, w3, rfl, oc, ol3⟩ := ol2
      rw [Nat.zero_add, dl] at oc ol3
      have exc : xc = x1 := by
        rw [List.getElem?_append_right (by omega), hw1, dl, Nat.sub_self] at exv
        cases exv
        rfl
      subst exc
      have gLne : ∀ a q mm, g1 a = .ow t (q ++ [mm]) → a ≠ L := fun a q mm e z => by
        subst z
        rw [hg1] at e
        cases q <;> cases e
      have Sb : Sok X.K (((κ.set i none).set j1 (some 0)).set j (some (lv k))) ((ρ1.set j1 (some (.int (idx : Nat)))).set j (some d)) (stG t j idx g1) ((σ1.set j1 (some (.int (idx : Nat)))).set j (some xc)) H' := by
        refine ⟨fun mm k' d2 h1 h2 => ?_, fun a h => S1.gok a (stG_ne h), by simp [S1.len], by simp [len1, hκn]⟩
        rcases set_some h1 with ⟨rfl, ek, _⟩ | ⟨hm, h1⟩
        · cases ek
          rcases set_some h2 with ⟨_, ed2, _⟩ | ⟨hh, _⟩
          · cases ed2
            refine ⟨xc, List.getElem?_set_self (by rw [List.length_set]; omega), own_conv (fun _ _ z _ => z) _ (.inr fun a z => ⟨stG_fz z, rfl⟩) (fun a q z hh => ⟨rfl, ?_⟩) (fun _ z => z) oc⟩
            rw [if_pos hh, stG_t z]
            simp
          · exact (hh rfl).elim
        · rcases set_some h2 with ⟨e, _, _⟩ | ⟨_, h2⟩
          · exact (hm e).elim
          · by_cases hm1 : mm = j1
            · subst hm1
              rcases set_some h2 with ⟨_, ed2, _⟩ | ⟨hh, _⟩
              · cases ed2
                refine ⟨.int (idx : Nat), by rw [List.getElem?_set_ne (Ne.symm hm)]; exact List.getElem?_set_self (by omega), ?_⟩
                rcases set_some h1 with ⟨_, ek, _⟩ | ⟨hh, _⟩
                · cases ek; exact rfl
                · exact (hh rfl).elim
              · exact (hh rfl).elim
            rcases set_some h2 with ⟨e, _, _⟩ | ⟨_, h2⟩
            · exact (hm1 e).elim
            rcases set_some h1 with ⟨e, _, _⟩ | ⟨_, h1⟩
            · exact (hm1 e).elim
            have h1' : ((((κ.set i none).set j1 none).set j none) : OE)[mm]? = some (some k') := by
              rw [List.getElem?_set_ne (Ne.symm hm), List.getElem?_set_ne (Ne.symm hm1)]
              exact h1
            obtain ⟨v', es', w⟩ := S1.ok mm k' d2 h1' h2
            have hmm := (List.getElem?_eq_some_iff.mp es').1
            refine ⟨v', by rw [List.getElem?_set_ne (Ne.symm hm), List.getElem?_set_ne (Ne.symm hm1)]; exact es', own_conv (fun _ _ z _ => z) d2 (.inr fun a z => ⟨stG_fz z, rfl⟩) (fun a q z hh => ⟨rfl, by rw [if_pos hh]; exact stG_o (.inl (by omega)) z⟩) (fun _ z => z) w⟩
      have Pb : Pres X.N.length t g1 H' (stG t j idx g1) H' :=
        ⟨fun a z => ⟨stG_fz z, rfl⟩, fun a z _ => ⟨stG_un z, rfl⟩, fun a r p h1 h2 z => ⟨stG_o (.inl (by omega)) z, rfl⟩, fun a r p h1 h2 z => stG_inv (by omega) z, fun _ _ z _ => z⟩
      have lastne : ∀ (q : List Nat) (mm : Nat), mm ≠ idx → (q ++ [mm]).getLast? ≠ some idx := fun q mm hm h => by
        rw [List.getLast?_append] at h
        simp at h
        exact hm h
      have ol1s : OwnL X.K H' (stG t j idx g1) dn (lv k) t [] 0 w1 := ownL_conv (fun _ _ z _ => z) (fun a z => ⟨stG_fz z, rfl⟩) (fun mm => mm ≠ idx) (fun a q mm hm z => ⟨rfl, stG_o (.inr (lastne q mm hm)) z⟩) (fun mm h1 h2 => by omega) ol1
      have ol3s : OwnL X.K H' (stG t j idx g1) (ds.drop (idx + 1)) (lv k) t [] (idx + 1) w3 := ownL_conv (fun _ _ z _ => z) (fun a z => ⟨stG_fz z, rfl⟩) (fun mm => mm ≠ idx) (fun a q mm hm z => ⟨rfl, stG_o (.inr (lastne q mm hm)) z⟩) (fun mm h1 h2 => by omega) ol3
      have hgLs : stG t j idx g1 L = .ow t [] := stG_o (.inr (by simp)) hg1
      refine ⟨T, [.int (idx : Nat), xc], rfl, SqT.of hT, rfl, .int (idx : Nat), [xc], rfl, xc, [], rfl, rfl, ?_⟩
      refine ⟨(σ1.set j1 (some (.int (idx : Nat)))).set j (some xc), fun _ => ⟨_, _, Sb, fun mm k' _ => rfl, _, e7, fun σ3 H3 g3 S3 P3 F3 => ?_⟩⟩
      have ev3 : σ3[i]? = some (some (.ref L)) := by
        rw [F3 i 0 (by show ((rc.κr.set j (some 0)).set i (some 0))[i]? = _; rw [List.getElem?_set_self (by simp [hrc]; omega)]), List.getElem?_set_ne (Ne.symm hij), List.getElem?_set_ne (Ne.symm hij1)]
        exact ev1
      have ej3 : σ3[j]? = some (some xc) := by
        rw [F3 j 0 (by show ((rc.κr.set j (some 0)).set i (some 0))[j]? = _; rw [List.getElem?_set_ne hij, List.getElem?_set_self (by omega)]), List.getElem?_set_self (by simp; omega)]
      have fx3 : Fx rc s0 σ3 := fun mm k' em => by
        have mi : mm ≠ i := by
          rintro rfl
          unfold notFx at hfi
          rw [em] at hfi
          cases hfi
        have mj : mm ≠ j := by
          rintro rfl
          unfold notFx at hfj
          rw [em] at hfj
          cases hfj
        have mj1 : mm ≠ j1 := by
          rintro rfl
          unfold notFx at hfj1
          rw [em] at hfj1
          cases hfj1
        rw [F3 mm k' (by show ((rc.κr.set j (some 0)).set i (some 0))[mm]? = _; rw [List.getElem?_set_ne (Ne.symm mi), List.getElem?_set_ne (Ne.symm mj)]; exact em), List.getElem?_set_ne (Ne.symm mj), List.getElem?_set_ne (Ne.symm mj1)]
        exact fx1 mm k' em
      obtain ⟨v3, ev3', o3⟩ := S3.ok j _ d' hj e8
      rw [ej3] at ev3'
      cases ev3'
      have hL3 := P3.tp L t [] (by omega) (Nat.lt_succ_self t) hgLs
      have hs3 : ∀ a o, H' a = some o → stb o = true → H3 a = some o := P3.tu
      -- back to its place
      have hσ3 : σ3.length = X.N.length := by
        rw [← S3.lek]
        have := leO_len hle
        rw [← this]
        simp [hκn]
      have jt : j ≠ t := by omega
      have S4 : Sok X.K (((κ.set i none).set j1 none).set j none) ρ2 (mvG j t [idx] (fun _ _ => false) (wk (((κ.set i none).set j1 none).set j none) g3)) σ3 H3 := by
        have Sw := S3.weaken hle
        refine ⟨fun mm k' d2 h1 h2 => ?_, fun a h => Sw.gok a (mvG_ne h), Sw.len, Sw.lek⟩
        obtain ⟨mi, mj, _⟩ := κi mm k' h1
        obtain ⟨v', es', w⟩ := Sw.ok mm k' d2 h1 h2
        exact ⟨v', es', own_conv (fun _ _ z _ => z) d2 (.inr fun a z => ⟨mvG_fz z, rfl⟩) (fun a q z hh => ⟨rfl, by rw [if_pos hh]; exact mvG_o mj rfl z⟩) (fun _ z => z) w⟩
      have Pw : Pres X.N.length (t + 1) g3 H3 (wk (((κ.set i none).set j1 none).set j none) g3) H3 := Pres.weaken (by simp [hκn])
      have P4 : Pres X.N.length t (wk (((κ.set i none).set j1 none).set j none) g3) H3 (mvG j t [idx] (fun _ _ => false) (wk (((κ.set i none).set j1 none).set j none) g3)) H3 :=
        ⟨fun a z => ⟨mvG_fz z, rfl⟩, fun a z _ => ⟨mvG_un z, rfl⟩, fun a r p h1 h2 z => ⟨mvG_o (by omega) rfl z, rfl⟩, fun a r p h1 h2 z => mvG_inv (by omega) z, fun _ _ z _ => z⟩
      have P13 := P3.trans Pw
      have cv : ∀ {xs : List D} {l : Nat} {ws : List V}, OwnL X.K H' (stG t j idx g1) xs (lv k) t [] l ws → OwnL X.K H3 (mvG j t [idx] (fun _ _ => false) (wk (((κ.set i none).set j1 none).set j none) g3)) xs (lv k) t [] l ws := fun {xs l ws} h =>
        ownL_conv hs3 (fun a z => ⟨mvG_fz (P13.fz a z).1, (P13.fz a z).2⟩) (fun _ => True) (fun a q mm _ z => ⟨(P13.tp a t _ (by omega) (Nat.lt_succ_self t) z).2, mvG_o (by omega) rfl (P13.tp a t _ (by omega) (Nat.lt_succ_self t) z).1⟩) (fun _ _ _ => trivial) h
      have oj : Own X.K H3 (mvG j t [idx] (fun _ _ => false) (wk (((κ.set i none).set j1 none).set j none) g3)) d' (lv k) t [idx] xc := by
        refine own_conv (fun _ _ z _ => z) d' (.inr fun a z => ⟨mvG_fz (wk_fz z), rfl⟩) (fun a q z hh => ⟨rfl, ?_⟩) (fun _ z => z) o3
        have : wk (((κ.set i none).set j1 none).set j none) g3 a = .ow j (q ++ []) := by
          unfold wk
          rw [z]
          simp only []
          rw [List.getElem?_set_self (by simp [hκn]; omega)]
        rw [if_pos hh, mvG_t this]
        simp
      refine ⟨hlt, _, ρ2, dn ++ [d'], r', S4, fx3, ev3, ?_, by simp [dl], e9, by rw [List.append_assoc]; exact er, P1.trans (Pb.trans (((P3.less (Nat.le_succ t)).trans (Pw.less (Nat.le_succ t))).trans P4))⟩
      refine ⟨L, w1 ++ (xc :: w3), rfl, hL3.2.trans hL1, ?_, ?_⟩
      · rw [if_neg h0]
        exact mvG_o (by omega) rfl (Pw.tp L t [] (by omega) (Nat.lt_succ_self t) hL3.1).1
      · rw [List.append_assoc]
        exact ownL_join (cv ol1s) ⟨xc, w3, rfl, by rw [Nat.zero_add, dl]; exact oj, by rw [Nat.zero_add, dl]; exact cv ol3s⟩
    · have hi' : idx = ds.length := by omega
      subst hi'
      rw [List.drop_length] at e6 O1
      cases e6
      rw [List.append_nil] at er O1
      subst er
      have Se : Sok X.K ((((κ.set i none).set j1 none).set j none).set i (some k)) (ρe.set i (some (.lst dn))) (mvG t i [] (fun _ _ => false) g1) σ1 H1 := by
        refine ⟨fun mm k' d2 h1 h2 => ?_, fun a h => S1.gok a (mvG_ne h), by simp [S1.len], by simp [len1, hκn]⟩
        rcases set_some h1 with ⟨rfl, ek, _⟩ | ⟨hm, h1⟩
        · cases ek
          rcases set_some h2 with ⟨_, ed2, _⟩ | ⟨hh, _⟩
          · cases ed2
            refine ⟨.ref L, ev1, own_conv (fun _ _ z _ => z) (.lst dn) (.inr fun a z => ⟨mvG_fz z, rfl⟩) (fun a q z hh => ⟨rfl, ?_⟩) (fun _ z => z) O1⟩
            rw [if_pos hh, mvG_t z]
            simp
          · exact (hh rfl).elim
        · rcases set_some h2 with ⟨e, _, _⟩ | ⟨_, h2⟩
          · exact (hm e).elim
          · obtain ⟨v', es', w⟩ := S1.ok mm k' d2 h1 h2
            have hmm := (List.getElem?_eq_some_iff.mp es').1
            exact ⟨v', es', own_conv (fun _ _ z _ => z) d2 (.inr fun a z => ⟨mvG_fz z, rfl⟩) (fun a q z hh => ⟨rfl, by rw [if_pos hh]; exact mvG_o (by omega) rfl z⟩) (fun _ z => z) w⟩
      have Pe : Pres X.N.length t g1 H1 (mvG t i [] (fun _ _ => false) g1) H1 :=
        ⟨fun a z => ⟨mvG_fz z, rfl⟩, fun a z _ => ⟨mvG_un z, rfl⟩, fun a r p h1 h2 z => ⟨mvG_o (by omega) rfl z, rfl⟩, fun a r p h1 h2 z => mvG_inv (by omega) z, fun _ _ z _ => z⟩
      exact .inl ⟨⟨vs, SqL.of hL1, by rw [hvl]; simp [dl]⟩, post σ1 H1 _ Se (P1.trans Pe) fx1⟩
end VS
namespace VS
open PySem PySem.Spec PyProof.Rows L2
variable {K : PySem.W.Frag} {X : Cx} {κ κ1 κ2 : OE} {pos : Pos} {rc : RC}
/-! ### a new list of things without lists in them is owned at any depth -/
mutual
def noL : D → Bool
  | .lst _ => false
  | .dic _ _ => false
  | .tup xs => noLL xs
  | _ => true
def noLL : List D → Bool
  | [] => true
  | x :: xs => noL x && noLL xs
end
theorem own_noL {H : Hp} {g : G} : (d : D) → noL d = true → ∀ {k k' r r' p p' v}, Own K H g d k r p v → Own K H g d k' r' p' v
  | .non, _, _, _, _, _, _, _, _, h => h
  | .bl b, _, _, _, _, _, _, _, _, h => h
  | .int b, _, _, _, _, _, _, _, _, h => h
  | .str b, _, _, _, _, _, _, _, _, h => h
  | .rol b, _, _, _, _, _, _, _, _, h => h
  | .lst ds, e, _, _, _, _, _, _, _, _ => by
    have e' : false = true := e
    cases e'
  | .dic q ds, e, _, _, _, _, _, _, _, _ => by
    have e' : false = true := e
    cases e'
  | .tup ds, e, _, _, _, _, _, _, _, h => by
    obtain ⟨a, vs, rfl, ha, hl⟩ := h
    exact ⟨a, vs, rfl, ha, go ds e hl⟩
where
  go : (ds : List D) → noLL ds = true → ∀ {k k' r r' p p' i i' vs}, OwnL K H g ds k r p i vs → OwnL K H g ds k' r' p' i' vs
  | [], _, _, _, _, _, _, _, _, _, _, h => h
  | d :: ds, e, _, _, _, _, _, _, _, _, _, h => by
    obtain ⟨v, w, rfl, h1, h2⟩ := h
    have e' : (noL d && noLL ds) = true := e
    rw [Bool.and_eq_true] at e'
    exact ⟨v, w, rfl, own_noL d e'.1 h1, go ds e'.2 h2⟩
def mFl (m : M) : M := fun ρ => match m ρ with
  | some (.lst ds, ρ1) => if noLL ds = true then some (.lst ds, ρ1) else none
  | _ => none
theorem J.flat {e : Expr} {m : M} {pu : Bool} (h : J X κ e m (.own 1) κ1 pu) {k : Nat} (h0 : k ≠ 0) : J X κ e (mFl m) (.own k) κ1 pu := by
  have key : ∀ {ρ ρ' d}, mFl m ρ = some (d, ρ') → ∃ ds, m ρ = some (.lst ds, ρ') ∧ d = .lst ds ∧ noLL ds = true := fun {ρ ρ' d} e => by
    unfold mFl at e
    split at e
    · split at e
      · cases e; exact ⟨_, by assumption, rfl, by assumption⟩
      · cases e
    · cases e
  refine ⟨fun t ht => PE.imp (h.run t ht) fun σ H Q z q _ => ?_, fun hp ρ d ρ' e => ?_⟩
  · obtain ⟨g, ρ, S, d, ρ', em, post⟩ := q z
    obtain ⟨ds, e1, rfl, e2⟩ := key em
    refine ⟨g, ρ, S, .lst ds, ρ', e1, fun v H' g' S' P' s' r' => post v H' g' S' P' s' ?_⟩
    obtain ⟨a, vs, rfl, ha, hg, hl⟩ := r'
    refine ⟨a, vs, rfl, ha, ?_, own_noL.go ds e2 hl⟩
    rw [if_neg (by decide)] at hg
    rw [if_neg h0]
    exact hg
  · obtain ⟨ds, e1, _, _⟩ := key e
    exact h.pur hp _ _ _ e1
theorem ap_fl {m : M} {ρ : DE} : mFl m ρ = (match m ρ with | some (.lst ds, ρ1) => if noLL ds = true then some (.lst ds, ρ1) else none | _ => none) := rfl
theorem noLL_all {ds : List D} (h : ∀ d ∈ ds, isA d = true) : noLL ds = true := by
  induction ds with
  | nil => rfl
  | cons d ds ih =>
    show (noL d && noLL ds) = true
    rw [ih fun x hx => h x (by simp [hx])]
    have := h d (by simp)
    cases d <;> first | rfl | cases this
end VS
namespace VS
open PySem PySem.Spec PyProof.Rows L2
variable {K : PySem.W.Frag} {X : Cx} {κ κ1 κ2 : OE} {pos : Pos} {rc : RC}
/-! ### xs[::-1] of a list -/
def mRevL (m : M) : M := fun ρ => match m ρ with
  | some (.lst ds, ρ1) => some (.lst ds.reverse, ρ1)
  | _ => none
theorem mRevL_some {m : M} {ρ ρ' : DE} {d : D} (h : mRevL m ρ = some (d, ρ')) : ∃ ds, m ρ = some (.lst ds, ρ') ∧ d = .lst ds.reverse := by
  unfold mRevL at h
  split at h
  · cases h; exact ⟨_, by assumption, rfl⟩
  · cases h
theorem repL_rev {H : Hp} : ∀ {ds : List D} {vs : List V}, RepL K H ds vs → ∀ {es : List D} {ws : List V}, RepL K H es ws → RepL K H (ds.reverse ++ es) (vs.reverse ++ ws)
  | [], _, h, _, _, h2 => by cases (show _ = _ from h); exact h2
  | d :: ds, _, h, es, ws, h2 => by
    obtain ⟨v, w, rfl, o1, o2⟩ := h
    rw [List.reverse_cons, List.reverse_cons, List.append_assoc, List.append_assoc]
    exact repL_rev o2 ⟨v, ws, rfl, o1, h2⟩
theorem j_revO {a : Expr} {ma : M} {pa : Bool} {k : Nat} {p1 p2 p3 : Pos} (ha : J X κ a ma (.own 0) κ1 pa) : J X κ (.Subscript a (.Slice none none (some (.UnaryOp .USub (.Constant (.int 1) k p1) p2)) p3) pos) (mRevL ma) (.own 1) κ1 pa := by
  refine ⟨fun t ht => PE.imp (pe_revL (ha.run t ht)) fun σ H Q z q => ?_, fun hp ρ d ρ' e => ?_⟩
  · obtain ⟨g, ρ, S, d, ρ', em, post⟩ := q z
    obtain ⟨ds, e1, rfl⟩ := mRevL_some em
    refine fun _ => ⟨g, ρ, S, .lst ds, ρ', e1, fun v H' g' S' P' s' r' => ?_⟩
    obtain ⟨a, vs, rfl, h1, h2⟩ := own0_seq.1 r'
    refine ⟨a, vs, rfl, SqL.of h1, fun p hp => gives_post (b := true) S' rfl ?_ P' s' post p hp⟩
    have := ownL_rev (j := 0) h2 (es := []) (ws := []) rfl
    rw [List.append_nil, List.append_nil] at this
    exact this
  · obtain ⟨ds, e1, _⟩ := mRevL_some e
    exact ha.pur hp _ _ _ e1
theorem j_revR {a : Expr} {ma : M} {ra : Rz} {pa : Bool} {k : Nat} {p1 p2 p3 : Pos} (ha : J X κ a ma ra κ1 pa) : J X κ (.Subscript a (.Slice none none (some (.UnaryOp .USub (.Constant (.int 1) k p1) p2)) p3) pos) (mRevL ma) .rep κ1 pa := by
  refine ⟨fun t ht => PE.imp (pe_revL (ha.run t ht)) fun σ H Q z q => ?_, fun hp ρ d ρ' e => ?_⟩
  · obtain ⟨g, ρ, S, d, ρ', em, post⟩ := q z
    obtain ⟨ds, e1, rfl⟩ := mRevL_some em
    refine fun _ => ⟨g, ρ, S, .lst ds, ρ', e1, fun v H' g' S' P' s' r' => ?_⟩
    obtain ⟨a, vs, rfl, h1, h2⟩ := r'.rep
    refine ⟨a, vs, rfl, SqL.of h1, fun p hp => rep_post S' P' s' post p hp ⟨p, _, rfl, upd_same, ?_⟩⟩
    have := repL_rev h2 (es := []) (ws := []) rfl
    rw [List.append_nil, List.append_nil] at this
    exact repL_mono (same_new hp) _ this
  · obtain ⟨ds, e1, _⟩ := mRevL_some e
    exact ha.pur hp _ _ _ e1
theorem ap_revL {m : M} {ρ : DE} : mRevL m ρ = (match m ρ with | some (.lst ds, ρ1) => some (.lst ds.reverse, ρ1) | _ => none) := rfl
end VS
namespace VS
open PySem PySem.Spec PyProof.Rows L2
variable {K : PySem.W.Frag} {X : Cx} {κ κ1 κ2 : OE} {pos : Pos} {rc : RC}
/-! ### a, b = x, y with local names -/
def sPar (i j : Nat) (ml : ML) : SM := fun ρ => match ml ρ with
  | some ([d1, d2], ρ1) => some (.nx ((ρ1.set i (some d1)).set j (some d2)))
  | _ => none
theorem js_par {e1 e2 : Expr} {ml : ML} {i j k1 k2 : Nat} {pu : Bool} {st : Stmt} (ha : JA X κ [e1, e2] ml [.rz (.own k1), .rz (.own k2)] κ1 pu) (hi : i < X.N.length) (hj : j < X.N.length) (hfi : notFx rc i = true) (hfj : notFx rc j = true)
    (mk : ∀ {ta : TA}, PA X [e1, e2] ta → PS X st (tPar i j ta)) : JS X κ st (sPar i j ml) ((κ1.set i (some k1)).set j (some k2)) rc := by
  refine ⟨fun s0 t ht => PS.imp (mk (ha.run t ht)) fun σ H D z q => ?_⟩
  obtain ⟨g, ρ, S, fx, o, em, post⟩ := q z
  unfold sPar at em
  split at em
  · rename_i d1 d2 ρ1 e
    cases em
    refine fun _ => ⟨g, ρ, S, _, ρ1, e, fun vs H' g' S' P' s' r' => ?_⟩
    obtain ⟨x1, ds', v1, vs', ed, rfl, o1, r2⟩ := r'
    cases ed
    obtain ⟨x2, ds'', v2, vs'', ed, rfl, o2, r3⟩ := r2
    cases ed
    obtain ⟨_, rfl⟩ := r3
    have hl : σ.length = X.N.length := z.2
    have S2 := S'.store (i := i) (by omega) (by omega) o1
    have o2' : Own X.K H' (mvG t i [] (fun r _ => decide (r = i)) g') d2 k2 (t + 1) [] v2 :=
      own_conv (fun _ _ z _ => z) d2 (.inr fun a z => ⟨mvG_fz z, rfl⟩) (fun a q z hh => ⟨rfl, by rw [if_pos hh]; exact mvG_o (by omega) (by simp; omega) z⟩) (fun _ z => z) o2
    have S3 := S2.store (t := t + 1) (i := j) (by simp; omega) (by simp; omega) o2'
    refine ⟨v1, v2, rfl, post _ H' _ S3 (P'.trans ((Pres.store hi S'.gok).trans ((Pres.store (t := t + 1) hj S2.gok).less (Nat.le_succ t)))) ?_⟩
    exact (fx.set hfi).set hfj
  · cases em
theorem ap_par {i j : Nat} {ml : ML} {ρ : DE} : sPar i j ml ρ = (match ml ρ with | some ([d1, d2], ρ1) => some (.nx ((ρ1.set i (some d1)).set j (some d2))) | _ => none) := rfl
end VS
namespace VS
open PySem PySem.Spec PyProof.Rows L2
variable {K : PySem.W.Frag} {X : Cx} {κ κ1 κ2 : OE} {pos : Pos} {rc : RC}
/-! ### max(xs), min(xs) of ints -/
def mxI : Int → List Int → Int
  | m, [] => m
  | m, x :: xs => mxI (if x > m then x else m) xs
theorem mxI_in : ∀ (xs : List Int) (m : Int), mxI m xs ∈ m :: xs ∧ ∀ y ∈ m :: xs, y ≤ mxI m xs
  | [], m => by simp [mxI]
  | x :: xs, m => by
    obtain ⟨h1, h2⟩ := mxI_in xs (if x > m then x else m)
    have e : mxI m (x :: xs) = mxI (if x > m then x else m) xs := rfl
    have h0 := h2 _ (by simp : (if x > m then x else m) ∈ (if x > m then x else m) :: xs)
    have h3 : m ≤ (if x > m then x else m) ∧ x ≤ (if x > m then x else m) ∧ ((if x > m then x else m) = x ∨ (if x > m then x else m) = m) := by
      split <;> omega
    rw [e]
    generalize (if x > m then x else m) = w at h0 h1 h2 h3
    refine ⟨?_, fun y hy => ?_⟩
    · rcases List.mem_cons.mp h1 with z | z
      · rw [z]
        rcases h3.2.2 with z | z <;> simp [z]
      · simp [z]
    · rcases List.mem_cons.mp hy with rfl | hy
      · omega
      · rcases List.mem_cons.mp hy with rfl | hy
        · omega
        · exact h2 y (by simp [hy])
def fMax1 : List D → Option D
  | [.lst xs] => (match intsOf xs with
    | some (n :: ns) => some (.int (mxI n ns))
    | _ => none)
  | _ => none
theorem at_max1 : AtCall X (rMax X.K) fMax1 where
  ans := fun H ds z vs Q _ e rr q => by
    unfold fMax1 at e
    split at e
    · rename_i xs
      split at e
      · rename_i n ns e2
        cases e
        obtain ⟨v, w, rfl, ⟨a, us, rfl, ha, hl⟩, h2⟩ := rr
        cases (show _ = _ from h2)
        refine ⟨a, n :: ns, rfl, by rw [← ints_rep e2 hl]; exact SqL.of ha, by simp, fun m hm hy => ?_⟩
        obtain ⟨h1, h2⟩ := mxI_in ns n
        have a1 := h2 m hm
        have a2 := hy _ h1
        have : m = mxI n ns := by omega
        rw [this]
        exact q
      · cases e
    · cases e
  atom := fun ds z e => by
    unfold fMax1 at e
    split at e
    · split at e
      · cases e; rfl
      · cases e
    · cases e
end VS
namespace VS
open PySem PySem.Spec PyProof.Rows L2
variable {K : PySem.W.Frag} {X : Cx} {κ κ1 κ2 κ3 κ4 : OE} {pos : Pos} {rc : RC}
/-! ### a dict's keys, walked -/
def kD : Key → D
  | .inl i => .int i
  | .inr x => .str x
def DKs.keys : DKs → List D
  | .K ks => ks.map kD
  | .T ks => ks.map fun k => .tup (k.map kD)
theorem DKs.keys_len (q : DKs) : q.keys.length = q.len := by cases q <;> simp [DKs.keys, DKs.len]
theorem own_kD {H : Hp} {g : G} {k r : Nat} {p : List Nat} : ∀ x : Key, Own K H g (kD x) k r p (kV x)
  | .inl _ => rfl
  | .inr _ => rfl
theorem ownL_kD {H : Hp} {g : G} {k r : Nat} {p : List Nat} : ∀ (xs : List Key) (i : Nat), OwnL K H g (xs.map kD) k r p i (xs.map kV)
  | [], _ => rfl
  | x :: xs, i => ⟨kV x, xs.map kV, rfl, own_kD x, ownL_kD xs (i + 1)⟩
theorem zip_get {α β : Type} {ks : List α} {vs : List β} {i : Nat} (h : ks.length = vs.length) (hi : i < ks.length) : ∃ k v, ks[i]? = some k ∧ vs[i]? = some v ∧ (ks.zip vs)[i]? = some (k, v) := by
  refine ⟨ks[i], vs[i], List.getElem?_eq_getElem hi, List.getElem?_eq_getElem (by omega), ?_⟩
  rw [List.getElem?_zip_eq_some]
  exact ⟨List.getElem?_eq_getElem hi, List.getElem?_eq_getElem (by omega)⟩
/-- the dict at d, locked -/
def Lkd (d : Addr) (od : Obj) (u : HO) : Src := fun g H => H d = some (.frz od u) ∧ g d = .fz
theorem Lkd.keep {d : Addr} {od : Obj} {u : HO} {g g' : G} {H H' : Hp} (h : Lkd d od u g H) (hf : ∀ a, g a = .fz → g' a = .fz ∧ H' a = H a) : Lkd d od u g' H' := ⟨(hf d h.2).2.trans h.1, (hf d h.2).1⟩
theorem dlv_keysK {d : Addr} {od : Obj} {ks : List Key} {vs : List V} (hl : ks.length = vs.length) : Dlv K (Itk d od (ks.zip vs)) (Lkd d od (.dK (ks.zip vs))) (DKs.keys (.K ks)) where
  go := fun i g H h hi => ⟨h.1, by rw [DKs.keys_len] at hi; have : i < ks.length := hi; rw [List.length_zip]; omega⟩
  stop := fun i g H h hi => ⟨h.1, by rw [DKs.keys_len] at hi; have : ks.length ≤ i := hi; rw [List.length_zip]; omega⟩
  yld := fun i g H x H' e h gok y ed => by
    obtain ⟨rfl, k, v, e1, rfl⟩ := y
    have e2 : ks[i]? = some k := (List.getElem?_zip_eq_some.mp e1).1
    have e3 : (ks.map kD)[i]? = some e := ed
    rw [List.getElem?_map, e2] at e3
    cases e3
    exact ⟨Same.refl _, own_kD k⟩
  keep := fun g H g' H' h hf _ => h.keep hf
theorem dlv_keysT {d : Addr} {od : Obj} {ks : List (List Key)} {vs : List V} (hl : ks.length = vs.length) : Dlv K (Itkt d od (ks.zip vs)) (Lkd d od (.dT (ks.zip vs))) (DKs.keys (.T ks)) where
  go := fun i g H h hi => ⟨h.1, by rw [DKs.keys_len] at hi; have : i < ks.length := hi; rw [List.length_zip]; omega⟩
  stop := fun i g H h hi => ⟨h.1, by rw [DKs.keys_len] at hi; have : ks.length ≤ i := hi; rw [List.length_zip]; omega⟩
  yld := fun i g H x H' e h gok y ed => by
    obtain ⟨rfl, k, v, q, e1, rfl, hq⟩ := y
    have e2 : ks[i]? = some k := (List.getElem?_zip_eq_some.mp e1).1
    have e3 : (ks.map fun k => D.tup (k.map kD))[i]? = some e := ed
    rw [List.getElem?_map, e2] at e3
    cases e3
    exact ⟨Same.refl _, q, _, rfl, hq, ownL_kD k 0⟩
  keep := fun g H g' H' h hf _ => h.keep hf
/-! ### a frozen dict is locked and unlocked -/
def isDO : HO → Bool
  | .dK _ => true
  | .dT _ => true
  | _ => false
theorem isDO_dO {q : DKs} {vs : List V} : isDO (dO q vs) = true := by cases q <;> rfl
theorem own_swap {H : Hp} {g : G} {a0 : Addr} {u o1 o2 : HO} {od : Obj} (h1 : H a0 = some o1) (hu : isDO u = true) (hg : g a0 = .fz)
    (h12 : (o1 = u ∧ o2 = .frz od u) ∨ (o1 = .frz od u ∧ o2 = u)) : (d : D) → ∀ {k r p v}, Own K H g d k r p v → Own K (upd H a0 o2) g d k r p v
  | .non, _, _, _, _, h => h
  | .bl _, _, _, _, _, h => h
  | .int _, _, _, _, _, h => h
  | .str _, _, _, _, _, h => h
  | .tup ds, _, _, _, _, h => by
    obtain ⟨a, vs, rfl, ha, hl⟩ := h
    have ne : a ≠ a0 := fun z => by
      rw [z, h1] at ha
      rcases h12 with ⟨rfl, rfl⟩ | ⟨rfl, rfl⟩ <;> cases ha
      cases hu
    exact ⟨a, vs, rfl, by rw [upd_ne ne]; exact ha, go ds hl⟩
  | .lst ds, _, _, _, _, h => by
    obtain ⟨a, vs, rfl, ha, hg', hl⟩ := h
    have ne : a ≠ a0 := fun z => by
      rw [z, h1] at ha
      rcases h12 with ⟨rfl, rfl⟩ | ⟨rfl, rfl⟩ <;> cases ha
      cases hu
    exact ⟨a, vs, rfl, by rw [upd_ne ne]; exact ha, hg', go ds hl⟩
  | .rol ns, _, _, _, _, h => by
    obtain ⟨a, rfl, h⟩ := h
    refine ⟨a, rfl, h.imp (fun ⟨o, w⟩ => ⟨o, ?_⟩) id⟩
    have ne : a ≠ a0 := fun z => by
      rw [z, h1] at w
      rcases h12 with ⟨rfl, rfl⟩ | ⟨rfl, rfl⟩ <;> cases w <;> cases hu
    rw [upd_ne ne]
    exact w
  | .dic q ds, k, _, _, _, h => by
    obtain ⟨a, vs, rfl, ha, hq, hg', hl⟩ := h
    have hl' := go ds hl
    by_cases e : a = a0
    · subst e
      have k0 : k = 0 := by
        rw [hg] at hg'
        split at hg'
        · assumption
        · cases hg'
      refine ⟨a, vs, rfl, ?_, hq, hg', hl'⟩
      rw [upd_same, k0]
      rw [h1] at ha
      rcases h12 with ⟨rfl, rfl⟩ | ⟨rfl, rfl⟩
      · refine .inr ⟨rfl, od, ?_⟩
        rcases ha with ha | ⟨_, o, ha⟩
        · cases ha; rfl
        · cases ha; cases hu
      · refine .inl ?_
        rcases ha with ha | ⟨_, o, ha⟩
        · cases q <;> cases ha
        · cases ha; rfl
    · exact ⟨a, vs, rfl, by rw [upd_ne e]; exact ha, hq, hg', hl'⟩
where
  go : (ds : List D) → ∀ {k r p i vs}, OwnL K H g ds k r p i vs → OwnL K (upd H a0 o2) g ds k r p i vs
  | [], _, _, _, _, _, h => h
  | d :: ds, _, _, _, _, _, h => by
    obtain ⟨v, w, rfl, h2, h3⟩ := h
    exact ⟨v, w, rfl, own_swap h1 hu hg h12 d h2, go ds h3⟩
theorem Sok.swap {ρ : DE} {g : G} {σ : L2.St} {H : Hp} {a0 : Addr} {u o1 o2 : HO} {od : Obj} (S : Sok K κ ρ g σ H) (h1 : H a0 = some o1) (hu : isDO u = true) (hg : g a0 = .fz)
    (h12 : (o1 = u ∧ o2 = .frz od u) ∨ (o1 = .frz od u ∧ o2 = u)) : Sok K κ ρ g σ (upd H a0 o2) where
  ok := fun i k d e1 e2 => by
    obtain ⟨v, e, o⟩ := S.ok i k d e1 e2
    exact ⟨v, e, own_swap h1 hu hg h12 d o⟩
  gok := fun a h => by
    by_cases e : a = a0
    · subst e; rw [upd_same]; simp
    · rw [upd_ne e]; exact S.gok a h
  len := S.len
  lek := S.lek
/-- all that was done while the dict was locked, seen from outside -/
theorem Pres.swap {n t : Nat} {g g' : G} {H H' : Hp} {a0 : Addr} {u : HO} {od : Obj} (P : Pres n t g (upd H a0 (.frz od u)) g' H') (h1 : H a0 = some u) (hu : isDO u = true) (hg : g a0 = .fz) : Pres n t g H g' (upd H' a0 u) where
  fz := fun a h => by
    obtain ⟨h2, h3⟩ := P.fz a h
    refine ⟨h2, ?_⟩
    by_cases e : a = a0
    · subst e; rw [upd_same, h1]
    · rw [upd_ne e, h3, upd_ne e]
  un := fun a h hn => by
    have e : a ≠ a0 := fun z => by rw [z, hg] at h; cases h
    obtain ⟨h2, h3⟩ := P.un a h (by rw [upd_ne e]; exact hn)
    exact ⟨h2, by rw [upd_ne e, h3, upd_ne e]⟩
  tp := fun a r p q1 q2 h => by
    have e : a ≠ a0 := fun z => by rw [z, hg] at h; cases h
    obtain ⟨h2, h3⟩ := P.tp a r p q1 q2 h
    exact ⟨h2, by rw [upd_ne e, h3, upd_ne e]⟩
  tm := P.tm
  tu := fun a o h hs => by
    have e : a ≠ a0 := fun z => by
      rw [z, h1] at h
      cases h
      cases u <;> first | (cases hu; done) | cases hs
    rw [upd_ne e]
    exact P.tu a o (by rw [upd_ne e]; exact h) hs
/-! ### what stands at a slot -/
theorem dic_at {ρ : DE} {g : G} {σ : L2.St} {H : Hp} {i : Nat} {q : DKs} {xs : List D} (S : Sok K κ ρ g σ H) (hk : κ[i]? = some (some 0)) (e : ρ[i]? = some (some (.dic q xs))) :
    ∃ a vs, σ[i]? = some (some (.ref a)) ∧ (H a = some (dO q vs) ∨ ∃ o, H a = some (.frz o (dO q vs))) ∧ q.len = vs.length ∧ g a = .fz := by
  obtain ⟨v, es, a, vs, rfl, ha, hq, hg, hl⟩ := S.ok i 0 _ hk e
  exact ⟨a, vs, es, ha.imp id fun z => z.2, hq.trans (repL_len (ownL_repL _ hl)).symm, by simpa using hg⟩
def mKeys (i : Nat) : ML := fun ρ => match ρ[i]? with
  | some (some (.dic q _)) => some (q.keys, ρ)
  | _ => none
theorem mKeys_some {i : Nat} {ρ ρ' : DE} {ds : List D} (h : mKeys i ρ = some (ds, ρ')) : ∃ q xs, ρ[i]? = some (some (.dic q xs)) ∧ ds = q.keys ∧ ρ' = ρ := by
  unfold mKeys at h
  split at h
  · cases h; exact ⟨_, _, by assumption, rfl, rfl⟩
  · cases h
/-- the locked dict gives its keys -/
theorem wi_keys {n t i : Nat} {σ : L2.St} {H : Hp} {R : It → Hp → Prop} {d : Addr} {od : Obj} {u : HO} (hk : κ[i]? = some (some 0)) (en : En n σ H) (es : σ[i]? = some (some (.ref d))) (hd : H d = some (.frz od u))
    (h : jTI K n κ (mKeys i) κ true t σ H R) : iKeys (tVar i) σ H R := by
  obtain ⟨g, ρ, S, ds, ρ', em, post⟩ := h en
  obtain ⟨q, xs, e, rfl, rfl⟩ := mKeys_some em
  obtain ⟨a, vs, es', ha, hl, hg⟩ := dic_at S hk e
  rw [es] at es'
  cases es'
  rw [hd] at ha
  have hu : u = dO q vs := by
    rcases ha with ha | ⟨o, ha⟩
    · cases q <;> cases ha
    · cases ha; rfl
  subst hu
  refine ⟨_, es, d, od, rfl, ?_⟩
  cases q with
  | K ks => exact .inl ⟨_, hd, post _ _ H g S Pres.refl (fun _ => Same.refl H) (dlv_keysK hl) ⟨hd, hg⟩⟩
  | T ks => exact .inr ⟨_, hd, post _ _ H g S Pres.refl (fun _ => Same.refl H) (dlv_keysT hl) ⟨hd, hg⟩⟩
theorem PS.or {st : Stmt} {t t' : TS} (h : PS X st t) (h' : PS X st t') : PS X st (fun D σ H => t D σ H ∨ t' D σ H) :=
  ⟨fun pins s σ H D I q => q.elim (h.run pins s σ H D I) (h'.run pins s σ H D I)⟩
theorem mut_dO {q : DKs} {vs : List V} : Mut (some (dO q vs)) := by cases q <;> exact trivial
theorem En.upd {n : Nat} {σ : L2.St} {H : Hp} {a : Addr} {od : Obj} {u : HO} (en : En n σ H) : En n σ (upd H a (.frz od u)) := ⟨fun b xs h => by
  by_cases e : b = a
  · subst e
    rw [upd_same] at h
    rcases h with h | h <;> cases h
  · rw [upd_ne e] at h
    exact en.1 b xs h, en.2⟩
/-- the ends while the dict is locked -/
theorem lock_end {n t : Nat} {κn : OE} {s0 : L2.St} {g : G} {H : Hp} {D : Ends} {o : Out} {d : Addr} {od : Obj} {u : HO} (h1 : H d = some u) (hu : isDO u = true) (hg : g d = .fz) (h : jEnd K n t κn rc s0 g H D o) :
    jEnd K n t κn rc s0 g (upd H d (.frz od u)) ⟨fun σ' H' => H' d = some (.frz od u) ∧ D.nx σ' (upd H' d u), fun v H' => H' d = some (.frz od u) ∧ D.rt v (upd H' d u), fun σ' H' => H' d = some (.frz od u) ∧ D.bk σ' (upd H' d u), fun σ' H' => H' d = some (.frz od u) ∧ D.ct σ' (upd H' d u)⟩ o := by
  have at' : ∀ {g' : G} {H' : Hp}, Pres n t g (upd H d (.frz od u)) g' H' → H' d = some (.frz od u) ∧ g' d = .fz := fun P => by
    obtain ⟨h2, h3⟩ := P.fz d hg
    exact ⟨by rw [h3, upd_same], h2⟩
  cases o with
  | nx ρ' =>
    intro σ' H' g' S' P' F'
    obtain ⟨h2, h3⟩ := at' P'
    exact ⟨h2, h σ' _ g' (S'.swap h2 hu h3 (.inr ⟨rfl, rfl⟩)) (P'.swap h1 hu hg) F'⟩
  | rt r ρ' =>
    intro v σ' H' g' rr hr S' P' F' o'
    obtain ⟨h2, h3⟩ := at' P'
    exact ⟨h2, h v σ' _ g' rr hr (S'.swap h2 hu h3 (.inr ⟨rfl, rfl⟩)) (P'.swap h1 hu hg) F' (own_swap h2 hu h3 (.inr ⟨rfl, rfl⟩) r o')⟩
/-- for k in d, d at slot i; frozen from there on -/
theorem js_forK {tg iter : Expr} {b : List Stmt} {mg : MG} {mb : SM} {ts : List Nat} {i : Nat} (hp : PassesOwn (model X.prog X.w) X.A X.env X.xe) (hc : X.calm = true) (hv : PE X iter (tVar i)) (hk : κ[i]? = some (some 0)) (hg : JG X κ tg mg κ2 ts) (hb : JB X κ2 b mb κ rc)
    (hf : notFxs rc ts = true) (hs : ∀ x, foldedSetIterable iter X.env x = pure x) : JS X κ (.For tg iter b [] pos) (sFor (mKeys i) mg mb) κ rc := by
  refine ⟨fun s0 t ht => PS.imp (PS.or (ps_lock (ps_for hp hc (pi_keys hv) (hg.run t ht) (hb.run s0 t ht) hs)) (ps_for hp hc (pi_keys hv) (hg.run t ht) (hb.run s0 t ht) hs)) fun σ H D z q => ?_⟩
  obtain ⟨g, ρ, S, fx, o, em, post⟩ := q z
  obtain ⟨ds, ρ1, e1, e2⟩ := sFor_some em
  obtain ⟨dq, xs, e, rfl, rfl⟩ := mKeys_some e1
  obtain ⟨a, vs, es, ha, hl, hg0⟩ := dic_at S hk e
  rcases ha with ha | ⟨od, ha⟩
  · refine .inl ⟨a, dO dq vs, ha, mut_dO, fun od => ?_⟩
    have S1 := S.swap (od := od) ha isDO_dO hg0 (.inl ⟨rfl, rfl⟩)
    have fr := for_read (K := X.K) (κ := κ) (κ2 := κ2) (ml := mKeys i) (pu := true) (t := t) hf (z.upd (a := a) (od := od) (u := dO dq vs)) fun _ => ⟨g, ρ1, S1, fx, o, em, lock_end ha isDO_dO hg0 post⟩
    exact wi_keys hk z.upd es upd_same fr
  · exact .inr (wi_keys hk z es ha (for_read (K := X.K) (κ := κ) (κ2 := κ2) (ml := mKeys i) (pu := true) (t := t) hf z fun _ => ⟨g, ρ1, S, fx, o, em, post⟩))
theorem Same.swap {H H' : Hp} {a0 : Addr} {u : HO} {od : Obj} (s : Same (upd H a0 (.frz od u)) H') (h1 : H a0 = some u) : Same H (upd H' a0 u) := fun a o h => by
  by_cases e : a = a0
  · subst e; rw [upd_same]; rw [h1] at h; exact h
  · rw [upd_ne e]; exact s a o (by rw [upd_ne e]; exact h)
/-- the end of an expression while the dict is locked -/
theorem lock_post {n t k : Nat} {κ' : OE} {pu : Bool} {g : G} {σ : L2.St} {H : Hp} {r : D} {ρ' : DE} {Q : VK} {d : Addr} {od : Obj} {u : HO} (h1 : H d = some u) (hu : isDO u = true) (hg : g d = .fz) (h : jPost K n t κ' (.own k) pu g σ H r ρ' Q) :
    jPost K n t κ' (.own k) pu g σ (upd H d (.frz od u)) r ρ' (fun v H' => H' d = some (.frz od u) ∧ Q v (upd H' d u)) := by
  intro v H' g' S' P' s' o'
  obtain ⟨h2, h3⟩ := P'.fz d hg
  rw [upd_same] at h3
  exact ⟨h3, h v _ g' (S'.swap h3 hu h2 (.inr ⟨rfl, rfl⟩)) (P'.swap h1 hu hg) (fun e => Same.swap (s' e) h1) (own_swap h3 hu h2 (.inr ⟨rfl, rfl⟩) r o')⟩
section
variable {tg iter elt : Expr} {ifs : List Expr} {scope : Scope} {own : List (Str × Nat)} {mg : MG} {mc me : M} {ts : List Nat} {pc pe : Bool} {k i : Nat}
/-- the reading of a comprehension over a dict's keys, locked or not -/
theorem lcK_read {t : Nat} (htt : X.N.length ≤ t) (hk : κ[i]? = some (some 0)) (hg : InBlk X scope fun Y => JG Y κ tg mg κ2 ts) (ht : InBlk X scope fun Y => JTs Y κ2 ifs mc κ3 pc) (he : InBlk X scope fun Y => J Y κ3 elt me (.own (lv k)) κ4 pe)
    (h0 : k ≠ 0) (hκ : noneAt κ (own.map (·.2)) = true) (hκn : κ.length = X.N.length) (hts : ts.all (fun i => (own.map (·.2)).contains i) = true) (h1 : leO κ κ4 = true) (h2 : leO κ κ3 = true) {σ : L2.St} {H : Hp} {Q : VK} (z : En X.N.length σ H)
    (q : ∃ g ρ, Sok X.K κ ρ g σ H ∧ ∃ d ρ', mLc (true && (pc && pe)) (own.map (·.2)) (mKeys i) mg mc me ρ = some (d, ρ') ∧ jPost X.K X.N.length t κ (.own k) (true && (pc && pe)) g σ H d ρ' Q) :
    tLockE (tLc (iKeys (tVar i)) (jTG X.K X.N.length κ mg κ2 ts (t + 1)) (jTT X.K X.N.length κ2 mc κ3 pc (t + 1)) (jTE X.K X.N.length κ3 me (.own (lv k)) κ4 pe (t + 1)) (own.map (·.2))) σ H Q ∨
    tLc (iKeys (tVar i)) (jTG X.K X.N.length κ mg κ2 ts (t + 1)) (jTT X.K X.N.length κ2 mc κ3 pc (t + 1)) (jTE X.K X.N.length κ3 me (.own (lv k)) κ4 pe (t + 1)) (own.map (·.2)) σ H Q := by
  obtain ⟨g, ρ, S, d, ρ', em, post⟩ := q
  obtain ⟨ds, ρ1, es, ρ2, e1, e2, hz, rfl, hρ⟩ := mLc_some em
  obtain ⟨dq, xs, e, rfl, rfl⟩ := mKeys_some e1
  obtain ⟨a, vs, eσ, ha, hl, hg0⟩ := dic_at S hk e
  have core : ∀ {H1 : Hp} {Q1 : VK}, En X.N.length σ H1 → (∃ g ρ, Sok X.K κ ρ g σ H1 ∧ ∃ d ρ', mLc (true && (pc && pe)) (own.map (·.2)) (mKeys i) mg mc me ρ = some (d, ρ') ∧ jPost X.K X.N.length t κ (.own k) (true && (pc && pe)) g σ H1 d ρ' Q1) →
      tLc (jTI X.K X.N.length κ (mKeys i) κ true t) (jTG X.K X.N.length κ mg κ2 ts (t + 1)) (jTT X.K X.N.length κ2 mc κ3 pc (t + 1)) (jTE X.K X.N.length κ3 me (.own (lv k)) κ4 pe (t + 1)) (own.map (·.2)) σ H1 Q1 := fun z1 q1 =>
    lc_core' (tg := tg) (iter := elt) (elt := elt) (ifs := ifs) rfl htt h0 hκ hκn hts (hg X.s_0 H 0 [] []).out (ht X.s_0 H 0 [] []).pur (he X.s_0 H 0 [] []).pur h1 h2 rfl rfl rfl rfl σ _ _ z1 q1
  rcases ha with ha | ⟨od, ha⟩
  · refine .inl ⟨a, dO dq vs, ha, mut_dO, fun od => ?_⟩
    exact wi_keys hk z.upd eσ upd_same (core z.upd ⟨g, ρ1, S.swap (od := od) ha isDO_dO hg0 (.inl ⟨rfl, rfl⟩), _, _, em, lock_post ha isDO_dO hg0 post⟩)
  · exact .inr (wi_keys hk z eσ ha (core z ⟨g, ρ1, S, _, _, em, post⟩))
theorem j_lcK (hc : X.calm = true) (hN : X.N.Nodup) (hv : PE X iter (tVar i)) (hk : κ[i]? = some (some 0))
    (ok : BlkOk X.N X.env.scope scope own) (hg : InBlk X scope fun Y => JG Y κ tg mg κ2 ts) (ht : InBlk X scope fun Y => JTs Y κ2 ifs mc κ3 pc) (he : InBlk X scope fun Y => J Y κ3 elt me (.own (lv k)) κ4 pe)
    (hs : ∀ x, foldedSetIterable iter X.env x = pure x) (h0 : k ≠ 0) (hκ : noneAt κ (own.map (·.2)) = true) (hκn : κ.length = X.N.length) (hts : ts.all (fun i => (own.map (·.2)).contains i) = true) (h1 : leO κ κ4 = true) (h2 : leO κ κ3 = true) :
    J X κ (.ListComp elt [⟨tg, iter, ifs, 0⟩] scope pos) (mLc (true && (pc && pe)) (own.map (·.2)) (mKeys i) mg mc me) (.own k) κ (true && (pc && pe)) := by
  have base : ∀ t, X.N.length ≤ t → PE X (.ListComp elt [⟨tg, iter, ifs, 0⟩] scope pos) (tLc (iKeys (tVar i)) (jTG X.K X.N.length κ mg κ2 ts (t + 1)) (jTT X.K X.N.length κ2 mc κ3 pc (t + 1)) (jTE X.K X.N.length κ3 me (.own (lv k)) κ4 pe (t + 1)) (own.map (·.2))) := fun t htt =>
    pe_lc hc hN (pi_keys hv) ok (fun s H C cl fp => (hg s H C cl fp).run (t + 1) (by exact Nat.le_succ_of_le htt)) (fun s H C cl fp => (ht s H C cl fp).run (t + 1) (by exact Nat.le_succ_of_le htt)) (fun s H C cl fp => (he s H C cl fp).run (t + 1) (by exact Nat.le_succ_of_le htt)) hs
  refine ⟨fun t htt => PE.imp (PE.or (pe_lock (base t htt)) (base t htt)) fun σ H Q z q => ?_, fun hp ρ d ρ' e => ?_⟩
  · exact lcK_read htt hk hg ht he h0 hκ hκn hts h1 h2 z (q z)
  · obtain ⟨ds, ρ1, es, ρ2, e1, e2, hz, rfl, rfl⟩ := mLc_some e
    rw [if_pos hp]
    obtain ⟨_, _, _, _, rfl⟩ := mKeys_some e1
    rfl
theorem js_lcK {j : Nat} {y : Str} {py spos : Pos} (hc : X.calm = true) (hN : X.N.Nodup) (hy : X.N[j]? = some y) (hyl : X.env.scope.names.lookup y = some .local) (hsw : swapsWith (.ListComp elt [⟨tg, iter, ifs, 0⟩] scope pos) (some (.Name y py)) spos.line X.env = pure true)
    (hv : PE X iter (tVar i)) (hk : κ[i]? = some (some 0))
    (ok : BlkOk X.N X.env.scope scope own) (hg : InBlk X scope fun Y => JG Y κ tg mg κ2 ts) (ht : InBlk X scope fun Y => JTs Y κ2 ifs mc κ3 pc) (he : InBlk X scope fun Y => J Y κ3 elt me (.own (lv k)) κ4 pe)
    (hs : ∀ x, foldedSetIterable iter X.env x = pure x) (h0 : k ≠ 0) (hκ : noneAt κ (own.map (·.2)) = true) (hκn : κ.length = X.N.length) (hts : ts.all (fun i => (own.map (·.2)).contains i) = true) (h1 : leO κ κ4 = true) (h2 : leO κ κ3 = true) (hfx : notFx rc j = true) :
    JS X κ (.Assign [.Name y py] (.ListComp elt [⟨tg, iter, ifs, 0⟩] scope pos) spos) (sAsg j (mLc (true && (pc && pe)) (own.map (·.2)) (mKeys i) mg mc me)) (κ.set j (some k)) rc := by
  have hin : j < X.N.length := (List.getElem?_eq_some_iff.mp hy).1
  have base : ∀ t, X.N.length ≤ t → PS X (.Assign [.Name y py] (.ListComp elt [⟨tg, iter, ifs, 0⟩] scope pos) spos) (tAsg (tLc (iKeys (tVar i)) (jTG X.K X.N.length κ mg κ2 ts (t + 1)) (jTT X.K X.N.length κ2 mc κ3 pc (t + 1)) (jTE X.K X.N.length κ3 me (.own (lv k)) κ4 pe (t + 1)) (own.map (·.2))) (gName j)) := fun t htt =>
    ps_setLc hc hN hy hyl hsw (pi_keys hv) ok (fun s H C cl fp => (hg s H C cl fp).run (t + 1) (by exact Nat.le_succ_of_le htt)) (fun s H C cl fp => (ht s H C cl fp).run (t + 1) (by exact Nat.le_succ_of_le htt)) (fun s H C cl fp => (he s H C cl fp).run (t + 1) (by exact Nat.le_succ_of_le htt)) hs
  refine ⟨fun s0 t htt => PS.imp (PS.or (ps_lock (base t htt)) (base t htt)) fun σ H D z q => ?_⟩
  obtain ⟨g, ρ, S, fx, o, em, post⟩ := q z
  obtain ⟨d, ρ1, e1, rfl⟩ := sAsg_some em
  have hl : σ.length = X.N.length := z.2
  exact lcK_read htt hk hg ht he h0 hκ hκn hts h1 h2 (Q := fun v H' => D.nx (σ.set j (some v)) H') z ⟨g, ρ, S, d, ρ1, e1, fun v H' g' S' P' s' r' => post _ H' _ (S'.store (by omega) (by omega) r') (P'.trans (Pres.store hin S'.gok)) (fx.set hfx)⟩
end
end VS
namespace VS
open PySem PySem.Spec PyProof.Rows L2
variable {K : PySem.W.Frag} {X : Cx} {κ κ1 κ2 κ3 κ4 : OE} {pos : Pos} {rc : RC}
/-! ### new dicts -/
def mD (q : DKs) : M := fun ρ => some (.dic q [], ρ)
theorem j_dnew {t' : Bool} {k' : Nat} (h0 : k' ≠ 0) : J X κ (.Dict [] [] pos) (mD (if t' then .T [] else .K [])) (.own k') κ true := by
  have key : ∀ (q : DKs), q.len = 0 → PE X (.Dict [] [] pos) (fun _ H Q => ∀ p, H p = none → Q (.ref p) (upd H p (dO q []))) → J X κ (.Dict [] [] pos) (mD q) (.own k') κ true := fun q hq h => by
    refine ⟨fun t ht => PE.imp h fun σ H Q z q1 => ?_, fun _ ρ d ρ' e => by cases e; rfl⟩
    obtain ⟨g, ρ, S, d, ρ', em, post⟩ := q1 z
    cases em
    intro p hp
    exact post (.ref p) _ (nwG p t g) (S.new hp) (Pres.new S.gok hp (Nat.le_refl t)) (fun _ => same_new hp) ⟨p, [], rfl, .inl upd_same, hq, by rw [if_neg h0]; exact nwG_p, rfl⟩
  cases t' with
  | true => exact key (.T []) rfl pe_dnewT
  | false => exact key (.K []) rfl pe_dnewK
/-! ### a key gets a value -/
def putL {κ α : Type} [DecidableEq κ] (ks : List κ) (xs : List α) (k : κ) (v : α) : List κ × List α :=
  if ks.any (fun j => decide (j = k)) = true then (ks, ks.zipWith (fun j x => if j = k then v else x) xs) else (ks ++ [k], xs ++ [v])
def dPut : DKs → List D → D → D → Option (DKs × List D)
  | .K ks, xs, d, v => (keyA d).map fun k => (.K (putL ks xs k v).1, (putL ks xs k v).2)
  | .T ks, xs, .tup ds, v => (keyAs ds).map fun k => (.T (putL ks xs k v).1, (putL ks xs k v).2)
  | .T _, _, _, _ => none
theorem zip_zipWith {κ α β : Type} (f : κ → α → β) : ∀ (ks : List κ) (xs : List α), ks.zip (ks.zipWith f xs) = (ks.zip xs).map fun p => (p.1, f p.1 p.2)
  | [], _ => rfl
  | _ :: _, [] => rfl
  | k :: ks, x :: xs => by simp [zip_zipWith f ks xs]
theorem any_zip {κ α : Type} (p : κ → Bool) : ∀ {ks : List κ} {xs : List α}, ks.length = xs.length → ((ks.zip xs).any fun kv => p kv.1) = ks.any p
  | [], [], _ => rfl
  | k :: ks, x :: xs, h => by simp [any_zip p (ks := ks) (xs := xs) (by simpa using h)]
theorem putK_zip {κ : Type} [DecidableEq κ] {ks : List κ} {vs : List V} {k : κ} {v : V} (h : ks.length = vs.length) : putK (ks.zip vs) k v = (putL ks vs k v).1.zip (putL ks vs k v).2 := by
  unfold putK putL
  rw [any_zip (fun j => decide (j = k)) h]
  split
  · simp only []
    rw [zip_zipWith]
    refine List.map_congr_left fun p _ => ?_
    by_cases e : p.1 = k <;> simp [e]
  · rw [List.zip_append h]
    rfl
theorem putL_len {κ α : Type} [DecidableEq κ] {ks : List κ} {xs : List α} {k : κ} {v : α} (h : ks.length = xs.length) : (putL ks xs k v).1.length = (putL ks xs k v).2.length := by
  unfold putL
  split <;> simp [h]
theorem putL_own {κ : Type} [DecidableEq κ] {H : Hp} {g : G} {k : κ} {d : D} {v : V} (ov : Own K H g d 0 0 [] v) : ∀ {ks : List κ} {ds : List D} {vs : List V} {i j : Nat}, OwnL K H g ds 0 0 [] i vs →
    OwnL K H g (ks.zipWith (fun a x => if a = k then d else x) ds) 0 0 [] j (ks.zipWith (fun a x => if a = k then v else x) vs)
  | [], _, _, _, _, _ => rfl
  | _ :: _, [], _, _, _, h => by cases (show _ = _ from h); rfl
  | a :: ks, x :: ds, _, i, j, h => by
    obtain ⟨u, w, rfl, h1, h2⟩ := h
    refine ⟨_, _, rfl, ?_, putL_own ov h2⟩
    by_cases e : a = k
    · simp only [e, if_true]
      exact own_fz (fun a z => ⟨z, rfl⟩) (fun _ _ z _ => z) ov
    · simp only [e, if_false]
      exact own_fz (fun a z => ⟨z, rfl⟩) (fun _ _ z _ => z) h1
theorem putL_ownL {κ : Type} [DecidableEq κ] {H : Hp} {g : G} {k : κ} {d : D} {v : V} (ov : Own K H g d 0 0 [] v) {ks : List κ} {ds : List D} {vs : List V} (h : OwnL K H g ds 0 0 [] 0 vs) (hl : ks.length = ds.length) :
    (putL ks ds k d).1 = (putL ks vs k v).1 ∧ OwnL K H g (putL ks ds k d).2 0 0 [] 0 (putL ks vs k v).2 := by
  unfold putL
  split
  · exact ⟨rfl, putL_own ov h⟩
  · exact ⟨rfl, ownL_app (l := 0) h (j := 0) (es := [d]) (ws := [v]) ⟨v, [], rfl, own_fz (fun a z => ⟨z, rfl⟩) (fun _ _ z _ => z) ov, rfl⟩⟩
theorem dPut_of {H : Hp} {g : G} {q q' : DKs} {xs xs' : List D} {kd d : D} {a : Addr} {vs : List V} {y v : V} (e : dPut q xs kd d = some (q', xs')) (hd : H a = some (dO q vs)) (hl : q.len = vs.length) (hx : OwnL K H g xs 0 0 [] 0 vs) (hz : xs.length < sizeLine)
    (rk : Rep K H kd y) (ov : Own K H g d 0 0 [] v) : ∃ vs', DPut H a y v (upd H a (dO q' vs')) ∧ q'.len = xs'.length ∧ OwnL K H g xs' 0 0 [] 0 vs' := by
  have hlx := ownL_len hx
  cases q with
  | K ks =>
    have e' : ((keyA kd).map fun k => (DKs.K (putL ks xs k d).1, (putL ks xs k d).2)) = some (q', xs') := e
    cases e1 : keyA kd with
    | none => rw [e1] at e'; cases e'
    | some k =>
      rw [e1] at e'
      cases e'
      have hl' : ks.length = vs.length := hl
      obtain ⟨p1, p2⟩ := putL_ownL (k := k) ov hx (hl'.trans hlx)
      refine ⟨(putL ks vs k v).2, .inl ⟨_, k, hd, keyA_rep e1 rk, by rw [List.length_zip]; omega, ?_⟩, putL_len (hl'.trans hlx), p2⟩
      rw [putK_zip hl', ← p1]
      rfl
  | T ks =>
    cases kd with
    | tup ds =>
      have e' : ((keyAs ds).map fun k => (DKs.T (putL ks xs k d).1, (putL ks xs k d).2)) = some (q', xs') := e
      cases e1 : keyAs ds with
      | none => rw [e1] at e'; cases e'
      | some k =>
        rw [e1] at e'
        cases e'
        have hl' : ks.length = vs.length := hl
        obtain ⟨b, ws, rfl, hb, hr⟩ := rk
        rw [keyAs_rep e1 hr] at hb
        obtain ⟨p1, p2⟩ := putL_ownL (k := k) ov hx (hl'.trans hlx)
        refine ⟨(putL ks vs k v).2, .inr ⟨_, k, b, hd, rfl, hb, by rw [List.length_zip]; omega, ?_⟩, putL_len (hl'.trans hlx), p2⟩
        rw [putK_zip hl', ← p1]
        rfl
    | _ => cases e
/-- d[k] = v, d at slot i -/
def sPut (i : Nat) (me mk : M) : SM := fun ρ => match me ρ with
  | some (d, ρ1) => (match ρ1[i]? with
    | some (some (.dic q xs)) => if xs.length < 16777216 then (match mk ρ1 with
      | some (kd, ρ2) => (match dPut q xs kd d with
        | some (q', xs') => some (.nx (ρ2.set i (some (.dic q' xs'))))
        | none => none)
      | none => none) else none
    | _ => none)
  | none => none
theorem sPut_some {i : Nat} {me mk : M} {ρ : DE} {o : Out} (h : sPut i me mk ρ = some o) : ∃ d ρ1 q xs kd ρ2 q' xs', me ρ = some (d, ρ1) ∧ ρ1[i]? = some (some (.dic q xs)) ∧ xs.length < sizeLine ∧ mk ρ1 = some (kd, ρ2) ∧ dPut q xs kd d = some (q', xs') ∧ o = .nx (ρ2.set i (some (.dic q' xs'))) := by
  unfold sPut at h
  split at h
  · split at h
    · split at h
      · split at h
        · split at h
          · cases h
            exact ⟨_, _, _, _, _, _, _, _, by assumption, by assumption, by rw [sizeLine_eq]; assumption, by assumption, by assumption, rfl⟩
          · cases h
        · cases h
      · cases h
    · cases h
  · cases h
theorem own1_dic {ρ : DE} {g : G} {σ : L2.St} {H : Hp} {i : Nat} {q : DKs} {xs : List D} (S : Sok K κ ρ g σ H) (hk : κ[i]? = some (some 1)) (e : ρ[i]? = some (some (.dic q xs))) :
    ∃ a vs, σ[i]? = some (some (.ref a)) ∧ H a = some (dO q vs) ∧ q.len = vs.length ∧ g a = .ow i [] ∧ OwnL K H g xs 0 0 [] 0 vs := by
  obtain ⟨v, ev, a, vs, rfl, h1, hq, h2, h3⟩ := S.ok i 1 _ hk e
  rw [if_neg (by decide)] at h2
  exact ⟨a, vs, ev, h1.resolve_right (fun z => by cases z.1), hq.trans (repL_len (ownL_repL _ h3)).symm, h2, ownL_fz (fun a z => ⟨z, rfl⟩) (fun _ _ z _ => z) h3⟩
theorem stb_dO {q : DKs} {vs : List V} : stb (dO q vs) = false := by cases q <;> rfl
theorem mut1D {n t i : Nat} {ρ : DE} {g : G} {σ : L2.St} {H : Hp} {L : Addr} {q q' : DKs} {ds' : List D} {vs vs' : List V} (S : Sok K κ ρ g σ H) (hn : σ.length = n) (hk : κ[i]? = some (some 1)) (hv : σ[i]? = some (some (.ref L))) (hL : H L = some (dO q vs)) (hg : g L = .ow i [])
    (hq : q'.len = ds'.length) (ol : OwnL K H g ds' 0 0 [] 0 vs') : Sok K κ (ρ.set i (some (.dic q' ds'))) g σ (upd H L (dO q' vs')) ∧ Pres n t g H g (upd H L (dO q' vs')) := by
  have hi : i < n := by
    have := (List.getElem?_eq_some_iff.mp hv).1
    omega
  have P : Pres n t g H g (upd H L (dO q' vs')) := Pres.rewrite S.gok hi hL stb_dO hg (fun a h => upd_ne h) (fun _ z => z) (fun _ z => z) (fun _ _ _ _ _ z => z) fun _ _ _ _ _ z => z
  refine ⟨S.rewrite hk hv hL stb_dO hg (fun a h => upd_ne h) (by rw [upd_same]; simp) (fun _ _ _ _ => rfl) (fun _ z => z) (fun _ z => z) ?_, P⟩
  exact ⟨L, vs', rfl, .inl upd_same, hq, by rw [if_neg (by decide)]; exact hg, ownL_fz P.fz P.tu ol⟩
theorem js_put {e b o : Expr} {me mk : M} {i k1 : Nat} {rk : Rz} {pe : Bool} {pos' : Pos} (hu : X.A.units + 100 < cLine) (he : J X κ e me (.own 0) κ1 pe) (ho : PE X o (tVar i)) (hb : J X κ1 b mk rk κ2 true) (hk1 : κ1[i]? = some (some k1)) (hk : κ2[i]? = some (some 1))
    (hs : swapsWith e (some (.Subscript o b pos')) pos.line X.env = pure false) : JS X κ (.Assign [.Subscript o b pos'] e pos) (sPut i me mk) κ2 rc := by
  refine ⟨fun s0 t ht => PS.imp (ps_dput (by omega) ho (hb.run (t + 1) (by omega)) (he.run t ht) hs) fun σ H D z q => ?_⟩
  obtain ⟨g, ρ, S, fx, out, em, post⟩ := q z
  obtain ⟨d, ρ1, q, xs, kd, ρ2, q', xs', e1, e2, e3, e4, e5, rfl⟩ := sPut_some em
  refine fun _ => ⟨g, ρ, S, d, ρ1, e1, fun v H1 g1 S1 P1 s1 r1 => ?_⟩
  obtain ⟨v2, ev, o2⟩ := S1.ok i k1 _ hk1 e2
  refine ⟨v2, ev, fun _ => ⟨g1, ρ1, S1, kd, ρ2, e4, fun y H2 g2 S2 P2 s2 r2 => ?_⟩⟩
  have eρ := hb.pur rfl _ _ _ e4
  subst eρ
  obtain ⟨a, vs, ev', hL, hl, hg, ol⟩ := own1_dic S2 hk e2
  rw [ev] at ev'
  cases ev'
  have ov : Own X.K H2 g2 d 0 0 [] v := P2.own0 r1
  obtain ⟨vs', h1, h2, h3⟩ := dPut_of e5 hL hl ol e3 r2.rep ov
  obtain ⟨S3, P3⟩ := mut1D (n := X.N.length) (t := t) S2 z.2 hk ev hL hg h2 h3
  exact ⟨a, _, rfl, h1, post σ _ g2 S3 (P1.trans ((P2.less (Nat.le_succ t)).trans P3)) fx⟩
/-! ### d.get -/
def dGet2 (q : DKs) (xs : List D) (d x : D) : Option D := (q.at d).map fun o => (o.bind fun j => xs[j]?).getD x
theorem isD_of {H : Hp} {q : DKs} {vs : List V} {a : Addr} (h : Rd H a (dO q vs)) : IsD H a := by
  cases q with
  | K ks => exact .inl ⟨_, h⟩
  | T ks => exact .inr ⟨_, h⟩
theorem dGet2_of {H : Hp} {q : DKs} {xs : List D} {d x z : D} {v y u : V} (e : dGet2 q xs d x = some z) (rx : Rep K H (.dic q xs) v) (ry : Rep K H d y) (ru : Rep K H x u) : ∃ a o, v = .ref a ∧ DGet H a y o ∧ Rep K H z (o.getD u) := by
  obtain ⟨a, vs, rfl, ha, hq, hl⟩ := rx
  unfold dGet2 at e
  cases eo : q.at d with
  | none => rw [eo] at e; cases e
  | some o =>
    rw [eo] at e
    cases e
    refine ⟨a, _, rfl, dGet_of ha (hq.trans (repL_len hl).symm) eo ry, ?_⟩
    cases o with
    | none => exact ru
    | some j =>
      have hj := DKs.at_lt eo
      have e2 : xs[j]? = some xs[j] := List.getElem?_eq_getElem (by omega)
      obtain ⟨w, e3, r3⟩ := repL_get hl e2
      simp only [Option.bind_some, e2, e3, Option.getD_some]
      exact r3
def mGet2 (md mk mx : M) : M := fun ρ => match md ρ with
  | some (.dic q xs, ρ1) => (match mk ρ1 with
    | some (kd, ρ2) => (match mx ρ2 with
      | some (x, ρ3) => (match dGet2 q xs kd x with
        | some z => some (z, ρ3)
        | none => none)
      | none => none)
    | none => none)
  | _ => none
theorem mGet2_some {md mk mx : M} {ρ ρ' : DE} {z : D} (h : mGet2 md mk mx ρ = some (z, ρ')) : ∃ q xs ρ1 kd ρ2 x, md ρ = some (.dic q xs, ρ1) ∧ mk ρ1 = some (kd, ρ2) ∧ mx ρ2 = some (x, ρ') ∧ dGet2 q xs kd x = some z := by
  unfold mGet2 at h
  split at h
  · split at h
    · split at h
      · split at h
        · cases h; exact ⟨_, _, _, _, _, _, by assumption, by assumption, by assumption, by assumption⟩
        · cases h
      · cases h
    · cases h
  · cases h
/-- all three are looked at alone -/
theorem j_get2 {o e f : Expr} {md mk mx : M} {r1 r2 r3 : Rz} {p1 : Bool} {apos cpos : Pos} (hu : X.A.units + 100 < cLine) (ho : J X κ o md r1 κ1 p1) (he : J X κ1 e mk r2 κ2 true) (hf : J X κ2 f mx r3 κ3 true) (m : M2 X o "get" apos e f cpos) :
    J X κ (.Call (.Attribute o "get" apos) [e, f] [] cpos) (mGet2 md mk mx) .rep κ3 p1 := by
  refine ⟨fun t ht => PE.imp (pe_dget2 (by omega) (ho.run t ht) (he.run (t + 1) (by omega)) (hf.run (t + 2) (by omega)) m) fun σ H Q z q => ?_, fun hp ρ d ρ' h => ?_⟩
  · obtain ⟨g, ρ, S, d, ρ', em, post⟩ := q z
    obtain ⟨dq, xs, ρ1, kd, ρ2, x, e1, e2, e3, e4⟩ := mGet2_some em
    refine fun _ => ⟨g, ρ, S, _, ρ1, e1, fun v H1 g1 S1 P1 s1 q1 => ?_⟩
    obtain ⟨a, vs, rfl, ha, hq, hl⟩ := q1.rep
    refine ⟨a, rfl, isD_of ha, fun _ => ⟨g1, ρ1, S1, kd, ρ2, e2, fun y H2 g2 S2 P2 s2 q2 => fun _ => ⟨g2, ρ2, S2, x, ρ', e3, fun u H3 g3 S3 P3 s3 q3 => ?_⟩⟩⟩
    have rx : Rep X.K H3 (.dic dq xs) (.ref a) := rep_mono ((s2 rfl).trans (s3 rfl)) _ ⟨a, vs, rfl, ha, hq, hl⟩
    obtain ⟨a', ov, ea, hg, rz⟩ := dGet2_of e4 rx (rep_mono (s3 rfl) _ q2.rep) q3.rep
    cases ea
    exact ⟨ov, hg, post _ H3 g3 S3 (P1.trans ((P2.less (by omega)).trans (P3.less (by omega)))) (fun e => ((s1 e).trans (s2 rfl)).trans (s3 rfl)) rz⟩
  · obtain ⟨dq, xs, ρ1, kd, ρ2, x, e1, e2, e3, e4⟩ := mGet2_some h
    rw [hf.pur rfl _ _ _ e3, he.pur rfl _ _ _ e2, ho.pur hp _ _ _ e1]
/-- all three are frozen -/
theorem j_get20 {o e f : Expr} {md mk mx : M} {r2 : Rz} {p1 : Bool} {apos cpos : Pos} (hu : X.A.units + 100 < cLine) (ho : J X κ o md (.own 0) κ1 p1) (he : J X κ1 e mk r2 κ2 true) (hf : J X κ2 f mx (.own 0) κ3 true) (m : M2 X o "get" apos e f cpos) :
    J X κ (.Call (.Attribute o "get" apos) [e, f] [] cpos) (mGet2 md mk mx) (.own 0) κ3 p1 := by
  refine ⟨fun t ht => PE.imp (pe_dget2 (by omega) (ho.run t ht) (he.run (t + 1) (by omega)) (hf.run (t + 2) (by omega)) m) fun σ H Q z q => ?_, fun hp ρ d ρ' h => ?_⟩
  · obtain ⟨g, ρ, S, d, ρ', em, post⟩ := q z
    obtain ⟨dq, xs, ρ1, kd, ρ2, x, e1, e2, e3, e4⟩ := mGet2_some em
    refine fun _ => ⟨g, ρ, S, _, ρ1, e1, fun v H1 g1 S1 P1 s1 q1 => ?_⟩
    obtain ⟨a, vs, rfl, ha, hq, hl⟩ := own_rep _ q1
    refine ⟨a, rfl, isD_of ha, fun _ => ⟨g1, ρ1, S1, kd, ρ2, e2, fun y H2 g2 S2 P2 s2 q2 => fun _ => ⟨g2, ρ2, S2, x, ρ', e3, fun u H3 g3 S3 P3 s3 q3 => ?_⟩⟩⟩
    have ox : Own X.K H3 g3 (.dic dq xs) 0 0 [] (.ref a) := P3.own0 (P2.own0 (r' := 0) (p' := []) q1)
    obtain ⟨a', vs', e5, ha', hq', _, hl'⟩ := ox
    cases e5
    unfold dGet2 at e4
    cases eo : dq.at kd with
    | none => rw [eo] at e4; cases e4
    | some ok =>
      rw [eo] at e4
      cases e4
      refine ⟨_, dGet_of (ha'.elim .inl fun z => .inr z.2) (hq'.trans (repL_len (ownL_repL _ hl')).symm) eo (rep_mono (s3 rfl) _ q2.rep), post _ H3 g3 S3 (P1.trans ((P2.less (by omega)).trans (P3.less (by omega)))) (fun e => ((s1 e).trans (s2 rfl)).trans (s3 rfl)) ?_⟩
      cases ok with
      | none => exact own_fz (fun a z => ⟨z, rfl⟩) (fun _ _ z _ => z) (show Own X.K H3 g3 x 0 (t + 2) [] u from q3)
      | some j =>
        have hj := DKs.at_lt eo
        have e6 : xs[j]? = some xs[j] := List.getElem?_eq_getElem (by omega)
        obtain ⟨w, e7, o7⟩ := ownL_get hl' e6
        simp only [Option.bind_some, e6, e7, Option.getD_some]
        exact own_fz (fun a z => ⟨z, rfl⟩) (fun _ _ z _ => z) o7
  · obtain ⟨dq, xs, ρ1, kd, ρ2, x, e1, e2, e3, e4⟩ := mGet2_some h
    rw [hf.pur rfl _ _ _ e3, he.pur rfl _ _ _ e2, ho.pur hp _ _ _ e1]
/-! ### a written dict -/
abbrev MDs := DE → Option (List D × List D)
structure JDs (X : Cx) (κ : OE) (keys : List (Option Expr)) (values : List Expr) (m : MDs) : Prop where
  run : ∀ pos t, X.N.length ≤ t → ∃ trs, PPs X pos keys values trs ∧ ∀ σ H Q, (∃ g ρ, Sok X.K κ ρ g σ H ∧ ∃ ks xs, m ρ = some (ks, xs) ∧ ∀ ps H' g', Sok X.K κ ρ g' σ H' → Pres X.N.length t g H g' H' → Same H H' →
    RepL X.K H' ks (ps.map (·.1)) → OwnL X.K H' g' xs 0 0 [] 0 (ps.map (·.2)) → Q ps H') → tPairs trs σ H Q
def dsNil : MDs := fun _ => some ([], [])
def dsCons (mk mv : M) (m : MDs) : MDs := fun ρ => match mk ρ with
  | some (k, _) => (match mv ρ with
    | some (v, _) => (match m ρ with
      | some (ks, xs) => some (k :: ks, v :: xs)
      | none => none)
    | none => none)
  | none => none
theorem jds_nil : JDs X κ [] [] dsNil := ⟨fun pos t ht => ⟨[], pps_nil, fun σ H Q q => by
  obtain ⟨g, ρ, S, ks, xs, em, post⟩ := q
  cases em
  exact post [] H g S Pres.refl (Same.refl H) rfl rfl⟩⟩
theorem jds_cons {k v : Expr} {keys : List (Option Expr)} {values : List Expr} {mk mv : M} {m : MDs} {rk : Rz} (hk : J X κ k mk rk κ true) (hv : J X κ v mv (.own 0) κ true) (h : JDs X κ keys values m) : JDs X κ (some k :: keys) (v :: values) (dsCons mk mv m) := by
  refine ⟨fun pos t ht => ?_⟩
  obtain ⟨trs, pp, rd⟩ := h.run pos t ht
  refine ⟨_, pps_cons (hk.run t ht) (hv.run t ht) pp, fun σ H Q q => ?_⟩
  obtain ⟨g, ρ, S, ks, xs, em, post⟩ := q
  unfold dsCons at em
  split at em
  · rename_i dk ρ1 e1
    split at em
    · rename_i dv ρ2 e2
      split at em
      · rename_i ks' xs' e3
        cases em
        cases hk.pur rfl _ _ _ e1
        cases hv.pur rfl _ _ _ e2
        refine fun _ => ⟨g, ρ, S, dk, ρ, e1, fun x H1 g1 S1 P1 s1 r1 => fun _ => ⟨g1, ρ, S1, dv, ρ, e2, fun y H2 g2 S2 P2 s2 r2 => ?_⟩⟩
        refine rd σ H2 _ ⟨g2, ρ, S2, ks', xs', e3, fun ps H3 g3 S3 P3 s3 r3 o3 => ?_⟩
        refine post ((x, y) :: ps) H3 g3 S3 (P1.trans (P2.trans P3)) (((s1 rfl).trans (s2 rfl)).trans s3) ⟨x, _, rfl, rep_mono ((s2 rfl).trans s3) _ r1.rep, r3⟩ ⟨y, _, rfl, P3.own0 r2, ownL_fz (fun a z => ⟨z, rfl⟩) (fun _ _ z _ => z) o3⟩
      · cases em
    · cases em
  · cases em
/-- the keys, told once each -/
def dispK : List D → List D → Option (List Key × List D)
  | [], [] => some ([], [])
  | k :: ks, x :: xs => (keyA k).bind fun k' => (dispK ks xs).map fun p => (k' :: p.1, x :: p.2)
  | _, _ => none
/-- ints or texts as keys, each one another -/
def mDisp (m : MDs) : M := fun ρ => match m ρ with
  | some (ks, xs) => (match dispK ks xs with
    | some (ks', xs') => if ks'.Nodup ∧ xs'.length ≤ 15 then some (.dic (.K ks') xs', ρ) else none
    | none => none)
  | none => none
theorem dispK_rep {H : Hp} : ∀ {ks xs : List D} {ks' : List Key} {xs' : List D} {vs : List V}, dispK ks xs = some (ks', xs') → RepL K H ks vs → vs = ks'.map kV ∧ xs' = xs ∧ ks'.length = xs.length
  | [], [], _, _, _, e, r => by cases e; cases (show _ = _ from r); exact ⟨rfl, rfl, rfl⟩
  | k :: ks, x :: xs, ks', xs', vs, e, r => by
    obtain ⟨v, w, rfl, h1, h2⟩ := r
    have e' : ((keyA k).bind fun k' => (dispK ks xs).map fun p => (k' :: p.1, x :: p.2)) = some (ks', xs') := e
    cases e1 : keyA k with
    | none => rw [e1] at e'; cases e'
    | some k2 =>
      rw [e1] at e'
      simp only [Option.bind_some] at e'
      cases e2 : dispK ks xs with
      | none => rw [e2] at e'; cases e'
      | some p =>
        rw [e2] at e'
        cases e'
        obtain ⟨rfl, h4, h5⟩ := dispK_rep (show dispK ks xs = some (p.1, p.2) from e2) h2
        rw [h4, keyA_rep e1 h1]
        exact ⟨rfl, rfl, by simp [h5]⟩
  | [], _ :: _, _, _, _, e, _ => nomatch e
  | _ :: _, [], _, _, _, e, _ => nomatch e
theorem merge_nodup : ∀ (kvs acc : List (Key × V)), ((acc ++ kvs).map (·.1)).Nodup → mergeK acc kvs = acc ++ kvs
  | [], acc, _ => by simp [mergeK]
  | p :: kvs, acc, h => by
    have hn : (acc.any fun kv => decide (kv.1 = p.1)) = false := by
      rw [List.any_eq_false]
      intro x hx
      rw [List.map_append, List.map_cons, List.nodup_append] at h
      have := h.2.2 x.1 (List.mem_map_of_mem hx) p.1 (by simp)
      simpa using this
    have e : putK acc p.1 p.2 = acc ++ [p] := by
      unfold putK
      rw [hn]
      simp
    show mergeK (putK acc p.1 p.2) kvs = _
    rw [e, merge_nodup kvs (acc ++ [p]) (by simpa using h)]
    simp
theorem pairs_zip : ∀ {ps : List (V × V)} {ks : List Key}, ps.map (·.1) = ks.map kV → ps = (ks.zip (ps.map (·.2))).map fun kv => (kV kv.1, kv.2)
  | [], [], _ => rfl
  | p :: ps, k :: ks, h => by
    simp only [List.map_cons, List.cons.injEq] at h
    have := pairs_zip h.2
    simp only [List.map_cons, List.zip_cons_cons, List.cons.injEq]
    exact ⟨by rw [← h.1], this⟩
/-- an object on its way gets other contents -/
theorem Sok.rowset {ρ : DE} {g : G} {σ : L2.St} {H : Hp} {L : Addr} {t : Nat} {o o' : HO} (S : Sok K κ ρ g σ H) (ht : σ.length ≤ t) (hL : H L = some o) (hs : stb o = false) (hg : g L = .ow t []) : Sok K κ ρ g σ (upd H L o') where
  ok := fun i k d h1 h2 => by
    obtain ⟨v, es, w⟩ := S.ok i k d h1 h2
    have hi := (List.getElem?_eq_some_iff.mp es).1
    refine ⟨v, es, own_conv (fun a u z hz => ?_) d (.inr fun a z => ⟨z, upd_ne ?_⟩) (fun a q z hh => ⟨upd_ne ?_, by rw [if_pos hh]; exact z⟩) (fun _ z => z) w⟩
    · rw [upd_ne]
      · exact z
      · rintro rfl; rw [hL] at z; cases z; rw [hs] at hz; cases hz
    · rintro rfl; rw [hg] at z; cases z
    · rintro rfl; rw [hg] at z; injection z with z1 z2; omega
  gok := fun a h => by
    by_cases e : a = L
    · subst e; rw [upd_same]; simp
    · rw [upd_ne e]; exact S.gok a h
  len := S.len
  lek := S.lek
theorem Pres.rowset {n t : Nat} {g : G} {H : Hp} {L : Addr} {o o' : HO} (hL : H L = some o) (hs : stb o = false) (hg : g L = .ow t []) : Pres n t g H g (upd H L o') where
  fz := fun a z => ⟨z, upd_ne (by rintro rfl; rw [hg] at z; cases z)⟩
  un := fun a z _ => ⟨z, upd_ne (by rintro rfl; rw [hg] at z; cases z)⟩
  tp := fun a r p _ h2 z => ⟨z, upd_ne (by rintro rfl; rw [hg] at z; injection z with z1 z2; omega)⟩
  tm := fun _ _ _ _ _ z => z
  tu := fun a u z hz => by
    rw [upd_ne]
    · exact z
    · rintro rfl; rw [hL] at z; cases z; rw [hs] at hz; cases hz
theorem j_disp {keys : List (Option Expr)} {values : List Expr} {m : MDs} (h : JDs X κ keys values m) (hall : keys.all (·.isSome) = true) (hl : keys.length = values.length) (h0 : keys ≠ []) (h15 : keys.length ≤ 15) : J X κ (.Dict keys values pos) (mDisp m) (.own 1) κ true := by
  have some' : ∀ {ρ ρ' d}, mDisp m ρ = some (d, ρ') → ∃ ks xs ks' xs', m ρ = some (ks, xs) ∧ dispK ks xs = some (ks', xs') ∧ ks'.Nodup ∧ xs'.length ≤ 15 ∧ d = .dic (.K ks') xs' ∧ ρ' = ρ := fun {ρ ρ' d} e => by
    unfold mDisp at e
    split at e
    · split at e
      · split at e
        · rename_i hh
          cases e
          exact ⟨_, _, _, _, by assumption, by assumption, hh.1, hh.2, rfl, rfl⟩
        · cases e
      · cases e
    · cases e
  refine ⟨fun t ht => ?_, fun _ ρ d ρ' e => by obtain ⟨_, _, _, _, _, _, _, _, _, h⟩ := some' e; exact h⟩
  obtain ⟨trs, pp, rd⟩ := h.run pos (t + 1) (by omega)
  refine PE.imp (pe_disp pp hall hl h0 h15) fun σ H Q z q => ?_
  obtain ⟨g, ρ, S, d, ρ', em, post⟩ := q z
  obtain ⟨ks, xs, ks', xs', e1, e2, e3, e4, rfl, rfl⟩ := some' em
  intro p hp
  have sN : Same H (upd H p (.dK [])) := same_new hp
  refine rd σ _ _ ⟨nwG p t g, ρ', S.new hp, ks, xs, e1, fun ps H' g' S' P' s' r' o' => ?_⟩
  have hL : H' p = some (.dK []) := s' p _ upd_same
  obtain ⟨h1, rfl, h3⟩ := dispK_rep e2 r'
  have hps : ps.length = ks'.length := by have := congrArg List.length h1; simpa using this
  refine ⟨hL, ks'.zip (ps.map (·.2)), pairs_zip h1, ?_, ?_⟩
  · rw [List.length_zip, List.length_map, hps, Nat.min_self, h3]
    exact e4
  · have hgp : g' p = .ow t [] := (P'.tp p t [] ht (Nat.lt_succ_self t) nwG_p).1
    have hz : ks'.length = (ps.map (·.2)).length := by rw [List.length_map, hps]
    rw [merge_nodup _ [] (by rw [List.nil_append, List.map_fst_zip (by omega)]; exact e3), List.nil_append]
    have hσ : σ.length ≤ t := by have := z.2; omega
    have P2 := Pres.rowset (n := X.N.length) (t := t) (o' := .dK (ks'.zip (ps.map (·.2)))) hL rfl hgp
    refine post (.ref p) _ g' (S'.rowset hσ hL rfl hgp) ((Pres.new S.gok hp (Nat.le_refl t)).trans ((P'.less (Nat.le_succ t)).trans P2)) (fun _ => fun a o hh => ?_) ⟨p, ps.map (·.2), rfl, .inl upd_same, h3, by rw [if_neg (by decide)]; exact hgp, ownL_fz P2.fz P2.tu o'⟩
    have ne : a ≠ p := fun e => by rw [e, hp] at hh; cases hh
    rw [upd_ne ne]
    exact s' a o (by rw [upd_ne ne]; exact hh)
end VS
namespace VS
open PySem PySem.Spec PyProof.Rows L2 PySem.Calls
variable {K : PySem.W.Frag} {X : Cx} {κ κ1 κ2 κ3 κ4 : OE} {pos : Pos} {rc : RC}
/-! ### sorted(d): the keys -/
theorem each_keys {ks : List Key} : ∀ {us : List Value}, us.length = ks.length → (∀ (j : Nat) (v : Value) (k : Key), us[j]? = some v → ks[j]? = some k → RelV (kV k) v) → PySem.W.EachIs (fun u d => RelV (kV d) u) us ks := by
  induction ks with
  | nil =>
    intro us hl _
    cases us with
    | nil => exact .nil
    | cons u us => cases hl
  | cons k ks ih =>
    intro us hl h
    cases us with
    | nil => cases hl
    | cons u us => exact .cons (h 0 u k rfl rfl) (ih (by simpa using hl) fun j v k' e1 e2 => h (j + 1) v k' (by simpa using e1) (by simpa using e2))
theorem key_reads {h : Heap} {k : Key} {u : Value} (r : RelV (kV k) u) : ∃ as, Reads h u (pyD (kD k)) as := by
  cases k with
  | inl i => obtain ⟨t, rfl⟩ := r; exact ⟨[], .int _ _⟩
  | inr x => obtain ⟨t, rfl⟩ := r; exact ⟨[], .str _ _⟩
theorem key_reads0 {h : Heap} {k : Key} {u : Value} (r : RelV (kV k) u) (a : Addr) : ∃ as, Reads h u (pyD (kD k)) as ∧ a ∉ as := by
  cases k with
  | inl i => obtain ⟨t, rfl⟩ := r; exact ⟨[], .int _ _, by simp⟩
  | inr x => obtain ⟨t, rfl⟩ := r; exact ⟨[], .str _ _, by simp⟩
def srtK (ks : List Key) : List Key := ks.mergeSort (PySem.W.dataLe false fun k => pyD (kD k))
def alikeK : List Key → Bool
  | [] => true
  | .inl _ :: ks => ks.all fun k => match k with | .inl _ => true | _ => false
  | .inr _ :: ks => ks.all fun k => match k with | .inr _ => true | _ => false
theorem vals_keys {R : Key → Key → Prop} : ∀ {us : List Value} {ks : List Key}, PySem.W.EachIs (fun u d => RelV (kV d) u) us ks → Vals (ks.map kV) us
  | _, _, .nil => .nil
  | _, _, .cons h t => .cons h (vals_keys (R := R) t)
theorem alike_ii (a b : Int) : PySem.W.alike (.int a) (.int b) = true := by simp [PySem.W.alike]
theorem alike_ss (a b : Str) : PySem.W.alike (.str a) (.str b) = true := by simp [PySem.W.alike]
theorem alikeK_all {ks : List Key} (h : alikeK ks = true) : ∀ a ∈ ks, ∀ b ∈ ks, PySem.W.alike (pyD (kD a)) (pyD (kD b)) = true := by
  have key : (∀ a ∈ ks, ∃ i, a = .inl i) ∨ (∀ a ∈ ks, ∃ i, a = .inr i) := by
    cases ks with
    | nil => left; intro a h; cases h
    | cons k ks =>
      cases k with
      | inl i =>
        left
        intro a ha
        rcases List.mem_cons.mp ha with rfl | ha
        · exact ⟨i, rfl⟩
        · have := List.all_eq_true.mp h a ha
          cases a with
          | inl j => exact ⟨j, rfl⟩
          | inr y => cases this
      | inr i =>
        right
        intro a ha
        rcases List.mem_cons.mp ha with rfl | ha
        · exact ⟨i, rfl⟩
        · have := List.all_eq_true.mp h a ha
          cases a with
          | inr j => exact ⟨j, rfl⟩
          | inl y => cases this
  intro a ha b hb
  rcases key with key | key
  · obtain ⟨i, rfl⟩ := key a ha
    obtain ⟨j, rfl⟩ := key b hb
    exact alike_ii i j
  · obtain ⟨i, rfl⟩ := key a ha
    obtain ⟨j, rfl⟩ := key b hb
    exact alike_ss i j
def rSrtD : List V → Hp → VK → Prop := fun xs H Q => ∃ (a : Addr) (kvs : List (Key × V)), xs = [V.ref a] ∧ Rd H a (.dK kvs) ∧ alikeK (kvs.map (·.1)) = true ∧ kvs.length ≤ 16777216 ∧ ∀ p, H p = none → Q (.ref p) (upd H p (.lst ((srtK (kvs.map (·.1))).map kV)))
theorem cr_srtD (hu : X.A.units + 100 < cLine) (hc : X.calm = true) : CallR X (.builtin "sorted") rSrtD := by
  intro pins s σ H xs us Q I rv q0
  obtain ⟨a, kvs, rfl, ha, hal, hz, q1⟩ := q0
  obtain ⟨u, rfl, hu1⟩ := vals1 rv
  cases hu1
  obtain ⟨od, H1, I1, hd1⟩ : ∃ od H1, Inv X pins σ H1 s ∧ H1 a = some (.frz od (.dK kvs)) := by
    rcases ha with ha | ⟨o, ha⟩
    · obtain ⟨od, I2⟩ := I.lock ha trivial
      exact ⟨od, _, I2, upd_same⟩
    · exact ⟨o, H, I, ha⟩
  obtain ⟨lo, hget, hex, es, ep, vs, hdat, hsz, hkv, hat⟩ := I1.frzK hd1
  have hlen : kvs.length = vs.length := Paired.length hkv
  have hline : vs.length ≤ sizeLine := by rw [sizeLine_eq]; omega
  refine call_function_entry kind_sorted plain_sorted entry_sorted (args_sorted1 _) ?_
  show wpAny _ _ (Builtin.«sorted» _) _ _ _
  unfold Builtin.«sorted»
  refine wpAny_bind (m := checkCount "sorted" 1 1 _) (wpAny_pure ?_)
  have hh : X.A.in1.handled = none := by first | exact I.ok.hd hc | simpa using I.ok.hd hc
  refine wpAny_bind (PySem.W.kdu_collect (A := X.A.in1) (PySem.W.kdl_dict (knd := mixKind X.prog X.w) (kvs := vs) (ep := ep) lo) hh hat hline fun h' tk acc hk hacc => ?_)
  have hal' : acc.toList.length = kvs.length := by rw [Array.length_toList, hacc.1, hlen]
  refine wpAny_bind (wpAny_newList ?_ (by rw [hal', sizeLine_eq]; exact hz))
  have hD : (h'.push { cls := .type "list", data := .seq acc.toList.toArray }).get? h'.objs.size = some (seqObj "list" acc.toList.toArray 0) := Heap.get?_push_size _ rfl
  have each : PySem.W.EachIs (fun u d => RelV (kV d) u) acc.toList (kvs.map (·.1)) := each_keys (by rw [List.length_map, hal']) fun j v k e1 e2 => by
    obtain ⟨k', x', e3, e4⟩ := hacc.2 j v (by rw [← Array.getElem?_toList]; exact e1)
    rw [List.getElem?_map, Option.map_eq_some_iff] at e2
    obtain ⟨⟨k2, v2⟩, e5, rfl⟩ := e2
    obtain ⟨u2, e6, _⟩ := kv_get hkv e5
    rw [e3] at e6
    cases e6
    exact relV_key e4
  have nget : s.heap.get? h'.objs.size = none := by
    cases e : s.heap.get? h'.objs.size with
    | none => rfl
    | some o => exact absurd (Heap.lt_size (hk _ _ e)) (Nat.lt_irrefl _)
  have nH : H h'.objs.size = none := I.hok.gone nget
  refine wpAny_bind (wpAny_holding (wpAny_mono (PySem.W.list_sort_data (Q := fun v s2 => v = .none ∧ EP X pins σ Q (.ref h'.objs.size) s2) (R := fun u d => RelV (kV d) u) (enc := fun k => pyD (kD k)) (bs := kvs.map (·.1)) hD each (each.mono fun _ _ r => key_reads0 r _) ?_ ?_ (by rw [List.length_map, sizeLine_eq]; exact hz) (fun b _ => ?_) fun out ho h2 => ?_) (fun v s2 q2 => wpAny_pure ⟨_, rfl, q2.2⟩) fun _ _ z => z))
  · intro d hd d' hd'
    obtain ⟨b, hb, rfl⟩ := List.mem_map.mp hd
    obtain ⟨b', hb', rfl⟩ := List.mem_map.mp hd'
    exact alikeK_all hal b hb b' hb'
  · right
    intro d hd
    obtain ⟨b, hb, rfl⟩ := List.mem_map.mp hd
    cases b <;> exact ⟨by simp [pyD, kD], by simp [pyD, kD]⟩
  · cases b <;> simp [pyD, kD, PyData.depth] <;> (show X.A.units + 1 + 1 < cLine) <;> omega
  · refine ⟨rfl, .ref h'.objs.size, upd H h'.objs.size (.lst ((srtK (kvs.map (·.1))).map kV)), ?_, rfl, q1 _ nH⟩
    obtain ⟨ep2, he⟩ := sortedHeap_at (out := List.toArray out) hD
    refine I.laidN (t' := tk) (fun b o e => ?_) nget nH ⟨?_, out, ep2, vals_keys (R := fun _ _ => True) h2, he⟩
    · have hb := Heap.lt_size (hk b o e)
      rw [sortedHeap_old (Nat.ne_of_lt hb) (by rw [size_push']; exact Nat.lt_succ_of_lt hb), Heap.get?_push_of_some _ (hk b o e)]
    · rw [List.length_map]
      unfold srtK
      rw [List.length_mergeSort, List.length_map, sizeLine_eq]
      exact hz
def mSrtD (m : M) : M := fun ρ => match m ρ with
  | some (.dic (.K ks) _, ρ1) => if alikeK ks = true ∧ ks.length ≤ 16777216 then some (.lst ((srtK ks).map kD), ρ1) else none
  | _ => none
theorem mSrtD_some {m : M} {ρ ρ' : DE} {d : D} (h : mSrtD m ρ = some (d, ρ')) : ∃ ks xs, m ρ = some (.dic (.K ks) xs, ρ') ∧ alikeK ks = true ∧ ks.length ≤ 16777216 ∧ d = .lst ((srtK ks).map kD) := by
  unfold mSrtD at h
  split at h
  · split at h
    · rename_i hh
      cases h
      exact ⟨_, _, by assumption, hh.1, hh.2, rfl⟩
    · cases h
  · cases h
theorem j_srtD {a e : Expr} {m : M} {ra : Rz} {pa : Bool} {k : Nat} (h : J X κ a m ra κ1 pa) (h0 : k ≠ 0) (hs : starEach [a] X.env = (false, eval a X.env) :: starEach [] X.env) (mk : ∀ {t : TA}, PA X [a] t → PE X e (tCB rSrtD t)) : J X κ e (mSrtD m) (.own k) κ1 pa := by
  refine ⟨fun t ht => PE.imp (mk (pa_cons (h.run t ht) pa_nil hs)) fun σ H Q z q => ?_, fun hp ρ d ρ' e => ?_⟩
  · obtain ⟨g, ρ, S, d, ρ', em, post⟩ := q z
    obtain ⟨ks, xs, e1, e2, e3, rfl⟩ := mSrtD_some em
    refine fun _ => ⟨g, ρ, S, _, ρ', e1, fun v H' g' S' P' s' r' => ?_⟩
    obtain ⟨p0, vs, rfl, hd, hq, hl⟩ := r'.rep
    have hq' : ks.length = vs.length := hq.trans (repL_len hl).symm
    have ek : (ks.zip vs).map (·.1) = ks := List.map_fst_zip (by omega)
    refine ⟨p0, _, rfl, hd, by rw [ek]; exact e2, by rw [List.length_zip]; omega, fun p hp => ?_⟩
    rw [ek]
    exact post (.ref p) _ (nwG p t g') (S'.new hp) (P'.trans (Pres.new S'.gok hp (Nat.le_refl t))) (fun e => (s' e).trans (same_new hp)) ⟨p, _, rfl, upd_same, by rw [if_neg h0]; exact nwG_p, ownL_kD _ 0⟩
  · obtain ⟨ks, xs, e1, _⟩ := mSrtD_some e
    exact h.pur hp _ _ _ e1
end VS
namespace VS
open PySem PySem.Spec PyProof.Rows L2 PySem.Calls
variable {K : PySem.W.Frag} {X : Cx} {κ κ1 κ2 κ3 κ4 : OE} {pos : Pos} {rc : RC}
/-! ### xs[a:c] = ys, c wherever it may lie -/
theorem cut_bounds {a c n : Nat} (h : a ≤ n) : sliceBounds (some (a : Int)) (some (c : Int)) none n = ((a : Int), ((min c n : Nat) : Int), 1) := by
  simp only [sliceBounds, Option.getD_none]
  rw [if_neg (show ¬ ((a : Int) < 0) by omega), if_neg (show ¬ ((c : Int) < 0) by omega)]
  simp only [show (1 : Int) > 0 by decide, if_true]
  refine Prod.ext (by show max 0 (min (a : Int) n) = a; omega) (Prod.ext ?_ rfl)
  show max 0 (min (c : Int) n) = ((min c n : Nat) : Int)
  omega
section
variable {prog : Program} {w : World} {A : Around} {E : Value → Shared → Prop} {s : Shared}
theorem set_cut {l b sl : Addr} {old new : Array Value} {n n2 : Nat} {vl vu : Value} {a c : Nat} {Q : Unit → Shared → Prop} (e : s.heap.get? l = some { cls := .type "list", data := .seq old n })
    (e2 : s.heap.get? b = some { cls := .type "list", data := .seq new n2 }) (hne : l ≠ b) (hs : s.heap.IsSliceOf sl vl vu .none) (pl : IsPart vl (some (a : Int))) (pu : IsPart vu (some (c : Int))) (hac : a ≤ c) (ha : a ≤ old.size)
    (hsz : old.size + new.size ≤ sizeLine) (h : Q () { s with heap := s.heap.update l (Obj.mapSeq fun xs => xs.extract 0 a ++ new ++ xs.extract (min c old.size) xs.size) }) : wpAny (model prog w) A (setItem (.ref l) (.ref sl) (.ref b)) Q E s := by
  have k1 : s.heap.IsList l old := PySem.IsL.isList e
  have k2 : s.heap.IsList b new := PySem.IsL.isList e2
  obtain ⟨os, hos, hcs, hds⟩ := id hs
  have k3 : s.TypeIs (.ref sl) "slice" := ⟨os, hos, hcs⟩
  have k4 : ¬ ((rawPart none == rawInt 0) = true) := Bool.false_ne_true
  have k5 : Builtin.List.listSameRef (.ref l) (.ref b) = false := by unfold Builtin.List.listSameRef; exact beq_eq_false_iff_ne.mpr hne
  have k6 : (max (a : Int) ((min c old.size : Nat) : Int)).toNat = min c old.size := by omega
  have k7 : ((fun xs : Array Value => xs.extract 0 a ++ new ++ xs.extract (min c old.size) xs.size) old).size ≤ sizeLine + 1 := by simp only [Array.size_append, Array.size_extract]; omega
  unfold setItem
  (try with_reducible refine wpAny_holding ?_); (first | refine wpAny_bind (wpAny_pure ?_) | skip)
  refine wpAny_bind (wpAny_sequenceKey k1.typeIs (by decide) ?_)
  refine wpAny_bind (wpAny_callSpecial?_slot (name := Str.ofString "__setitem__") k1.typeIs slot_list_setitem (wpAny_call_entry slot_list_setitem k1.typeIs entry_list_setitem ?_ (args_list_setitem _ _ _)))
  show wpAny _ _ (Builtin.List.listSubscript? (.ref sl) >>= _) _ _ s; refine wpAny_bind ?_
  unfold Builtin.List.listSubscript?; refine wpAny_bind (wpAny_specialOf k3 slice_no_index ?_)
  simp only [Option.isNone_none, if_true]; refine wpAny_pure ?_
  show wpAny _ _ (typeOf (.ref sl) >>= _) _ _ s; refine wpAny_bind (wpAny_typeOf k3 ?_)
  (first | rw [if_neg (by decide)] | refine PySem.W.KFB.if_not (by decide) ?_); rw [listSliceParts_eq]
  refine wpAny_bind (wpAny_bind (wpAny_field hos hds (x := .none) rfl (wpAny_bind (wpAny_listPart .none ?_)))); rw [if_neg k4]
  refine wpAny_bind (wpAny_field hos hds (x := vl) rfl (wpAny_bind (wpAny_listPart pl ?_))); refine wpAny_bind (wpAny_field hos hds (x := vu) rfl (wpAny_bind (wpAny_listPart pu (wpAny_pure ?_))))
  first | simp only [k5, Bool.false_eq_true, if_false] | refine PySem.W.KFB.if_not k5 ?_
  refine wpAny_bind (m := Builtin.List.listAllItems (.ref b) "must assign iterable to extended slice") ?_; unfold Builtin.List.listAllItems
  refine wpAny_bind (wpAny_typeOf k2.typeIs ?_); (first | refine PySem.W.KFB.if_so (by decide) ?_ | rw [if_pos (by decide)] | simp only [beq_self_eq_true, Bool.true_or, if_true])
  unfold Builtin.List.listItems; refine wpAny_bind (wpAny_seqItems e2 rfl (wpAny_pure ?_))
  refine wpAny_bind (wpAny_bind (wpAny_seqItems e rfl (wpAny_pure ?_))); refine wpAny_bind (wpAny_of_eq ((sliceIndices_raw (some (a : Int)) (some (c : Int)) none old.size (by simp)).trans (congrArg (pure : Int × Int × Int → Sem (Int × Int × Int)) (cut_bounds ha))) ?_)
  show wpAny _ _ (if ((1 : Int) == 1) = true then _ else _) _ _ s; rw [if_pos (by decide)]; refine wpAny_bind (wpAny_rule ?_)
  first | simp only [notLongL hsz, Bool.false_eq_true, if_false] | refine PySem.W.KFB.if_not (notLongL hsz) ?_
  first | refine wpAny_bind (wpAny_pure ?_) | skip
  show wpAny _ _ (updateSeq l (fun xs => xs.extract 0 ((a : Int)).toNat ++ new ++ xs.extract (max (a : Int) ((min c old.size : Nat) : Int)).toNat xs.size) >>= _) _ _ s
  rw [k6, Int.toNat_natCast]; refine wpAny_bind (wpAny_updateSeq (hz := Nat.le_trans (Nat.le_add_right _ _) hsz) (_hz' := k7) e rfl ?_)
  refine wpAny_bind (wpAny_letGo ?_); first | exact wpAny_bind (wpAny_pure (wpAny_pure ⟨.none, rfl, wpAny_pure h⟩)) | exact wpAny_pure ⟨.none, rfl, wpAny_pure h⟩
end
def gCut (to : TE) (tl tu : TO) : TG := fun v σ H Q => to σ H fun o H1 => tl σ H1 fun lo H2 => tu σ H2 fun hi H3 => ∃ (l b : Addr) (xs ys : List V) (a c : Nat), o = .ref l ∧ v = .ref b ∧ H3 l = some (.lst xs) ∧ H3 b = some (.lst ys) ∧ l ≠ b ∧ lo = some (a : Int) ∧ hi = some (c : Int) ∧ a ≤ c ∧ a ≤ xs.length ∧
  xs.length + ys.length ≤ sizeLine ∧ Q σ (upd H3 l (.lst (xs.take a ++ ys ++ xs.drop (min c xs.length))))
theorem cut_arr (its its2 : List Value) (a c : Nat) : its.toArray.extract 0 a ++ its2.toArray ++ its.toArray.extract c its.toArray.size = (its.take a ++ its2 ++ its.drop c).toArray := splice_eq its its2 a c
theorem pg_cut {o : Expr} {lo hi : Option Expr} {to : TE} {tl tu : TO} {p2 : Pos} (ho : PE X o to) (hl : PO X lo tl) (hh : PO X hi tu)
    (ha : ∀ v, assign (.Subscript o (.Slice lo hi none p2) pos) X.env v = (do
      let ov ← holding [v] (eval o X.env)
      let iv ← holding [v, ov] (eval (.Slice lo hi none p2) X.env)
      standAt pos
      holding [v, ov, iv] (setItem ov iv v)
      release [iv, v, ov] []) := by intro _; rfl) : PG X (.Subscript o (.Slice lo hi none p2) pos) (gCut to tl tu) := by
  refine ⟨fun pins s σ H v u Q I r h => ?_⟩
  rw [ha]
  refine wpAny_bind (wpAny_holding (thn (ho.run pins s σ H _ I h) fun ov s1 ⟨x, H1, I1, r1, q1⟩ => ?_))
  refine wpAny_bind (wpAny_holding (wpAny_Slice (thn (hl.run pins s1 σ H1 _ I1 q1) fun vl s2 ⟨l, H2, I2, pl, q2⟩ => thn (hh.run pins s2 σ H2 _ I2 q2) fun vu s3 ⟨up, H3, I3, pu, q3⟩ => ?_)))
  rw [evalPart_none]
  refine wpAny_pure ?_
  obtain ⟨L, b, xs, ys, a, c, rfl, rfl, hL, hb, hne, rfl, rfl, hac, hal, hz, q4⟩ := q3
  cases r1
  cases r
  have I4 : Inv X pins σ H3 { s3 with heap := s3.heap.push { cls := .type "slice", data := .fields #[vl, vu, .none] } } := I3.kept (t' := s3.toks) fun b ob q => Heap.get?_push_of_some _ q
  obtain ⟨z1, its, n, rv, hl1, e1⟩ := I4.lstM hL
  obtain ⟨z2, its2, n2, rv2, hl2, e2⟩ := I4.lstM hb
  refine wpAny_bind (wpAny_standAt (wpAny_bind (wpAny_holding (set_cut (a := a) (c := c) e1 e2 hne (Heap.IsSliceOf.new ..) pl pu hac (by rw [List.size_toArray]; omega) (by rw [List.size_toArray, List.size_toArray]; omega) ?_))))
  refine wpAny_release ⟨σ, upd H3 L (.lst (xs.take a ++ ys ++ xs.drop (min c xs.length))), ?_, q4⟩
  rw [List.size_toArray, ← hl1]
  refine I4.lset (its' := its.take a ++ its2 ++ its.drop (min c xs.length)) (t' := s3.toks) hL e1 (cut_arr its its2 a _) (Vals.append (Vals.append (rv.take _) rv2) (rv.drop _)) ?_
  simp only [List.length_append, List.length_take, List.length_drop]
  omega
/-- x[a:c] = ys, x at slot i -/
def sCut (i : Nat) (me : M) (ml mu : MO) : SM := fun ρ => match me ρ with
  | some (.lst ys, ρ1) => (match ρ1[i]? with
    | some (some (.lst xs)) => (match ml ρ1 with
      | some (some a) => (match mu ρ1 with
        | some (some c) => if 0 ≤ a ∧ a ≤ c ∧ a ≤ xs.length ∧ xs.length + ys.length ≤ 16777216 then some (.nx (ρ1.set i (some (.lst (xs.take a.toNat ++ ys ++ xs.drop (min c.toNat xs.length)))))) else none
        | _ => none)
      | _ => none)
    | _ => none)
  | _ => none
theorem sCut_some {i : Nat} {me : M} {ml mu : MO} {ρ : DE} {o : Out} (h : sCut i me ml mu ρ = some o) : ∃ ys ρ1 xs, ∃ a c : Nat, me ρ = some (.lst ys, ρ1) ∧ ρ1[i]? = some (some (.lst xs)) ∧ ml ρ1 = some (some (a : Int)) ∧ mu ρ1 = some (some (c : Int)) ∧ a ≤ c ∧ a ≤ xs.length ∧ xs.length + ys.length ≤ sizeLine ∧
    o = .nx (ρ1.set i (some (.lst (xs.take a ++ ys ++ xs.drop (min c xs.length))))) := by
  unfold sCut at h
  split at h
  · split at h
    · split at h
      · split at h
        · split at h
          · rename_i ys ρ1 e1 _ xs e2 _ a e3 _ c e4 hh
            cases h
            obtain ⟨h1, h2, h3, h4⟩ := hh
            refine ⟨ys, ρ1, xs, a.toNat, c.toNat, e1, e2, ?_, ?_, by omega, by omega, by rw [sizeLine_eq]; exact h4, rfl⟩
            · rw [Int.toNat_of_nonneg h1]; exact e3
            · rw [Int.toNat_of_nonneg (by omega)]; exact e4
          · cases h
        · cases h
      · cases h
    · cases h
  · cases h
theorem js_cut {e : Expr} {lo hi : Option Expr} {me : M} {ml mu : MO} {i k1 : Nat} {pe : Bool} {st : Stmt} (he : J X κ e me (.own 0) κ1 pe) (hl : JO X κ1 lo ml κ1) (hh : JO X κ1 hi mu κ1) (hk : κ1[i]? = some (some 1))
    (mk : ∀ {te : TE} {tl tu : TO}, PE X e te → PO X lo tl → PO X hi tu → PS X st (tAsg te (gCut (tVar i) tl tu))) : JS X κ st (sCut i me ml mu) κ1 rc := by
  refine ⟨fun s0 t ht => PS.imp (mk (he.run t ht) (hl.run (t + 1) (by omega)) (hh.run (t + 1) (by omega))) fun σ H D z q => ?_⟩
  obtain ⟨g, ρ, S, fx, out, em, post⟩ := q z
  obtain ⟨ys, ρ1, xs, a, c, e1, e2, e3, e4, h1, h2, h3, rfl⟩ := sCut_some em
  refine fun _ => ⟨g, ρ, S, _, ρ1, e1, fun v H1 g1 S1 P1 s1 r1 => ?_⟩
  obtain ⟨v0, ev, L0, vs0, rfl, hL0, _⟩ := S1.ok i 1 _ hk e2
  refine ⟨_, ev, fun _ => ⟨g1, ρ1, S1, _, e3, fun H2 g2 S2 P2 s2 => fun _ => ⟨g2, ρ1, S2, _, e4, fun H3 g3 S3 P3 s3 => ?_⟩⟩⟩
  obtain ⟨L, vs, ev', hL, hg, ol⟩ := own1_list S3 hk e2
  rw [ev] at ev'
  cases ev'
  have oy : Own X.K H3 g3 (.lst ys) 0 0 [] v := P3.own0 (P2.own0 (r' := 0) (p' := []) r1)
  obtain ⟨b, us, rfl, hb, hgb, olb⟩ := oy
  have hne : L0 ≠ b := fun z => by rw [if_pos rfl, ← z, hg] at hgb; cases hgb
  have l1 := ownL_len ol
  have l2 := ownL_len olb
  refine ⟨L0, b, vs, us, a, c, rfl, rfl, hL, hb, hne, rfl, rfl, h1, by omega, by omega, ?_⟩
  have o1 : OwnL X.K H3 g3 (xs.take a) 0 0 [] 0 (vs.take a) := ownL_take a ol
  have o2 := ownL_app (l := 0) o1 (ownL_fz (i := 0) (j := 0) (r' := 0) (p' := []) (fun a z => ⟨z, rfl⟩) (fun _ _ z _ => z) olb)
  have o3 := ownL_app (l := 0) o2 (ownL_drop (min c xs.length) ol)
  rw [l1]
  obtain ⟨S4, P4⟩ := mut1 (n := X.N.length) (t := t) (ds := xs) S3 z.2 hk ev hL hg o3
  exact post σ _ g3 S4 (P1.trans ((P2.less (Nat.le_succ t)).trans ((P3.less (Nat.le_succ t)).trans P4))) fx
/-! ### d[a], d[b] = x, y -/
def rSetD : TSet := fun o i v H Q => ∃ a H4, o = .ref a ∧ DPut H a i v H4 ∧ Q H4
theorem set_dict (hu : X.A.units + 100 < cLine) : PSet X rSetD := by
  intro pins s σ H o i v ov iv u Q I ro ri rv h
  obtain ⟨a, H4, rfl, hp, q⟩ := h
  cases ro
  exact d_setItem (by omega) I hp ri rv fun s4 I4 => ⟨H4, I4, q⟩
def putD (i : Nat) (mk : M) (d : D) : DE → Option DE := fun ρ => match ρ[i]? with
  | some (some (.dic q xs)) => if xs.length < 16777216 then (match mk ρ with
    | some (kd, _) => (match dPut q xs kd d with
      | some (q', xs') => some (ρ.set i (some (.dic q' xs')))
      | none => none)
    | none => none) else none
  | _ => none
theorem putD_some {i : Nat} {mk : M} {d : D} {ρ ρ' : DE} (h : putD i mk d ρ = some ρ') : ∃ q xs kd ρ2 q' xs', ρ[i]? = some (some (.dic q xs)) ∧ xs.length < sizeLine ∧ mk ρ = some (kd, ρ2) ∧ dPut q xs kd d = some (q', xs') ∧ ρ' = ρ.set i (some (.dic q' xs')) := by
  unfold putD at h
  split at h
  · split at h
    · split at h
      · split at h
        · cases h
          exact ⟨_, _, _, _, _, _, by assumption, by rw [sizeLine_eq]; assumption, by assumption, by assumption, rfl⟩
        · cases h
      · cases h
    · cases h
  · cases h
theorem putD_core {n t i : Nat} {b : Expr} {mk : M} {rk : Rz} {ρ ρ' : DE} {g : G} {σ : L2.St} {H : Hp} {d : D} {v : V} {Q : L2.St → Hp → Prop} (hj : J X κ1 b mk rk κ1 true) (hn : n ≤ t) (hk : κ1[i]? = some (some 1)) (hl : σ.length = n) (S : Sok X.K κ1 ρ g σ H) (ov : Own X.K H g d 0 0 [] v) (e : putD i mk d ρ = some ρ')
    (post : ∀ g' H', Sok X.K κ1 ρ' g' σ H' → Pres n t g H g' H' → Q σ H') : gSub (tVar i) (jTE X.K n κ1 mk rk κ1 true t) rSetD v σ H Q := by
  obtain ⟨q, xs, kd, ρ2, q', xs', e1, e2, e3, e4, rfl⟩ := putD_some e
  obtain ⟨v0, ev, L, vs0, rfl, hL0, _⟩ := S.ok i 1 _ hk e1
  have hr := hj.pur rfl _ _ _ e3
  subst hr
  refine ⟨.ref L, ev, fun _ => ⟨g, ρ2, S, kd, ρ2, e3, fun u H2 g2 S2 P2 s2 r2 => ?_⟩⟩
  obtain ⟨a, vs, ev', hL, hlen, hg, ol⟩ := own1_dic S2 hk e1
  rw [ev] at ev'
  cases ev'
  obtain ⟨vs', h1, h2, h3⟩ := dPut_of e4 hL hlen ol e2 r2.rep (P2.own0 ov)
  obtain ⟨S3, P3⟩ := mut1D (n := n) (t := t) S2 hl hk ev hL hg h2 h3
  exact ⟨L, _, rfl, h1, post g2 _ S3 (P2.trans P3)⟩
def sSwapD (i : Nat) (m ma mb : M) : SM := fun ρ => match m ρ with
  | some (.tup [d1, d2], ρ1) => (match putD i ma d1 ρ1 with
    | some ρ2 => (match putD i mb d2 ρ2 with
      | some ρ3 => some (.nx ρ3)
      | none => none)
    | none => none)
  | _ => none
theorem js_swapD {e a b : Expr} {m ma mb : M} {i : Nat} {ra rb : Rz} {pu : Bool} {st : Stmt} (h : J X κ e m (.own 0) κ1 pu) (ha : J X κ1 a ma ra κ1 true) (hb : J X κ1 b mb rb κ1 true) (hk : κ1[i]? = some (some 1))
    (mk : ∀ {te ta tb : TE}, PE X e te → PE X a ta → PE X b tb → PS X st (tAsg te (gTup X.K 2 (gCons (gSub (tVar i) ta rSetD) (gCons (gSub (tVar i) tb rSetD) gNil))))) : JS X κ st (sSwapD i m ma mb) κ1 rc := by
  refine ⟨fun s0 t ht => PS.imp (mk (h.run t ht) (ha.run t ht) (hb.run t ht)) fun σ H D z q => ?_⟩
  obtain ⟨g, ρ, S, fx, o, em, post⟩ := q z
  unfold sSwapD at em
  split at em
  · rename_i d1 d2 ρ1 e1
    split at em
    · rename_i ρ2 e2
      split at em
      · rename_i ρ3 e3
        cases em
        have hl : σ.length = X.N.length := z.2
        refine fun _ => ⟨g, ρ, S, _, ρ1, e1, fun v H1 g1 S1 P1 s1 r1 => ?_⟩
        obtain ⟨T, vs, rfl, hT, v1, w1, rfl, o1, v2, w2, rfl, o2, e4⟩ := r1
        cases (show _ = _ from e4)
        have o1' : Own X.K H1 g1 d1 0 0 [] v1 := own_fz (fun a z => ⟨z, rfl⟩) (fun _ _ z _ => z) o1
        have o2' : Own X.K H1 g1 d2 0 0 [] v2 := own_fz (fun a z => ⟨z, rfl⟩) (fun _ _ z _ => z) o2
        refine ⟨T, [v1, v2], rfl, SqT.of hT, rfl, v1, [v2], rfl, ?_⟩
        refine putD_core ha ht hk hl S1 o1' e2 fun g2 H2 S2 P2 => ?_
        refine ⟨v2, [], rfl, ?_⟩
        refine putD_core hb ht hk hl S2 (P2.own0 o2') e3 fun g3 H3 S3 P3 => ?_
        exact ⟨rfl, post σ H3 g3 S3 (P1.trans (P2.trans P3)) fx⟩
      · cases em
    · cases em
  · cases em
/-- a statement that is never reached -/
def sNo : SM := fun _ => none
theorem js_no {st : Stmt} {κn : OE} : JS X κ st sNo κn rc := ⟨fun s0 t ht => PS.imp ps_never fun σ H D z q => by
  obtain ⟨g, ρ, S, fx, o, em, post⟩ := q z
  cases em⟩
/-! ### xs[::2] -/
def ev2 {α : Type} : List α → List α
  | [] => []
  | [a] => [a]
  | a :: _ :: r => a :: ev2 r
theorem ev2_len {α : Type} : ∀ xs : List α, (ev2 xs).length ≤ xs.length
  | [] => Nat.le_refl _
  | [_] => Nat.le_refl _
  | a :: b :: r => by have := ev2_len r; simp only [ev2, List.length_cons]; omega
theorem fm_congr {α β : Type} {f g : α → Option β} (h : ∀ a, f a = g a) (l : List α) : l.filterMap f = l.filterMap g := by rw [show f = g from funext h]
theorem ev2_range {α : Type} : ∀ l : List α, ((List.range ((l.length + 1) / 2)).filterMap fun i => l[2 * i]?) = ev2 l
  | [] => by simp [ev2]
  | [a] => by simp [ev2, List.range_succ]
  | a :: b :: r => by
    have e : ((a :: b :: r).length + 1) / 2 = (r.length + 1) / 2 + 1 := by simp only [List.length_cons]; omega
    rw [e, List.range_succ_eq_map, List.filterMap_cons, List.filterMap_map]
    simp only [Nat.mul_zero, List.getElem?_cons_zero, ev2]
    congr 1
    rw [← ev2_range r]
    refine fm_congr (fun i => ?_) _
    show (a :: b :: r)[2 * (i + 1)]? = r[2 * i]?
    rw [show 2 * (i + 1) = 2 * i + 1 + 1 by omega, List.getElem?_cons_succ, List.getElem?_cons_succ]
theorem pick2 (items : Array Value) : slicePick items none none (some 2) = (ev2 items.toList).toArray := by
  unfold slicePick
  have e : sliceBounds none none (some 2) items.size = (0, (items.size : Int), 2) := rfl
  rw [e]
  refine congrArg List.toArray ?_
  rw [← ev2_range items.toList]
  unfold sliceRange
  simp only [show (2 : Int) > 0 by decide, if_true, Array.length_toList]
  by_cases h0 : items.size = 0
  · simp [h0]
  · have h1 : (0 : Int) < (items.size : Int) := by omega
    have h2 : (((items.size : Int) - 0 + 2 - 1) / 2).toNat = (items.size + 1) / 2 := by omega
    simp only [h1, if_true, h2, List.filterMap_map]
    refine fm_congr (fun i => ?_) _
    show items[((0 : Int) + 2 * (i : Int)).toNat]? = _
    rw [show ((0 : Int) + 2 * (i : Int)).toNat = 2 * i by omega, Array.getElem?_toList]
theorem vals_ev2 : ∀ {xs : List V} {us : List Value}, Vals xs us → Vals (VS.ev2 xs) (VS.ev2 us)
  | _, _, .nil => .nil
  | _, _, .cons r .nil => .cons r .nil
  | _, _, .cons r (.cons _ t) => .cons r (vals_ev2 t)
def tEv2 (K : PySem.W.Frag) (te : TE) : TE := fun σ H Q => te σ H fun x H1 => ∃ a xs, x = .ref a ∧ SqL K H1 a xs ∧ ∀ p, H1 p = none → Q (.ref p) (upd H1 p (.lst (ev2 xs)))
theorem pe_ev2 {e : Expr} {te : TE} {k : Nat} {p1 p3 pos : Pos} (he : PE X e te) : PE X (.Subscript e (.Slice none none (some (.Constant (.int 2) k p1)) p3) pos) (tEv2 X.K te) := by
  refine ⟨fun pins s σ H Q I h => Subscript_ (thn (he.run pins s σ H _ I h) fun v s1 ⟨x, H1, I1, r1, a, xs, ex, hx, q⟩ => ?_)⟩
  subst ex
  cases r1
  have hst : PO X (some (.Constant (.int 2) k p1)) (tPart (tC (.int 2))) := po_some pe_int
  refine wpAny_Slice (thn (po_none.run pins s1 σ H1 (fun o H2 => o = none ∧ H2 = H1) I1 ⟨rfl, rfl⟩) fun vl s2 ⟨l, H2, I2, pl, el, e2⟩ => ?_)
  subst el e2
  refine thn (po_none.run pins s2 σ H2 (fun o H3 => o = none ∧ H3 = H2) I2 ⟨rfl, rfl⟩) fun vu s3 ⟨u, H3, I3, pu, eu, e3⟩ => ?_
  subst eu e3
  refine thn (hst.run pins s3 σ H3 (fun o H4 => o = some 2 ∧ H4 = H3) I3 ⟨2, rfl, rfl, rfl⟩) fun vs s4 ⟨o, H4, I4, ps, eo, e4⟩ => ?_
  subst eo e4
  have I5 : Inv X pins σ H4 { s4 with heap := s4.heap.push { cls := .type "slice", data := .fields #[vl, vu, vs] } } := I4.kept (t' := s4.toks) fun b ob z => Heap.get?_push_of_some _ z
  obtain ⟨its, r, ht, hz⟩ := I5.list hx
  have hlen := r.length
  refine tail_any (s := { s4 with heap := s4.heap.push { cls := .type "slice", data := .fields #[vl, vu, vs] } }) (ops := [.ref a, .ref s4.heap.objs.size]) ht.isList.typeIs (PySem.slot_list_getitem.lookup) (wpAny_getItem_list_slice ht.isList (Heap.IsSliceOf.new _ vl vu vs) pl pu ps (by decide) ?_ (by rw [List.size_toArray]; omega)) (by with_unfolding_all rfl)
  rw [pick2]
  refine ⟨.ref _, _, I5.laid (t' := s4.toks) (o := .lst (ev2 xs)) (fun b ob z => Heap.get?_push_of_some _ z) (Nat.le_refl _) ?_, rfl, q _ (I5.hok.fresh (Nat.le_refl _))⟩
  exact ⟨Nat.le_trans (ev2_len xs) hz, _, 0, vals_ev2 r, Heap.get?_push_size _ rfl⟩
def mEv2 (m : M) : M := fun ρ => match m ρ with
  | some (.lst ds, ρ1) => some (.lst (ev2 ds), ρ1)
  | _ => none
theorem mEv2_some {m : M} {ρ ρ' : DE} {d : D} (h : mEv2 m ρ = some (d, ρ')) : ∃ ds, m ρ = some (.lst ds, ρ') ∧ d = .lst (ev2 ds) := by
  unfold mEv2 at h
  split at h
  · cases h; exact ⟨_, by assumption, rfl⟩
  · cases h
theorem ownL_ev2 {H : Hp} {g : G} : ∀ {ds : List D} {vs : List V} {i j : Nat}, OwnL K H g ds 0 0 [] i vs → OwnL K H g (ev2 ds) 0 0 [] j (ev2 vs)
  | [], _, _, _, h => by cases (show _ = _ from h); rfl
  | [d], _, _, _, h => by
    obtain ⟨v, w, rfl, o1, o2⟩ := h
    cases (show _ = _ from o2)
    exact ⟨v, [], rfl, own_fz (fun a z => ⟨z, rfl⟩) (fun _ _ z _ => z) o1, rfl⟩
  | d :: e :: ds, _, _, _, h => by
    obtain ⟨v, w, rfl, o1, u, w2, rfl, _, o3⟩ := h
    exact ⟨v, _, rfl, own_fz (fun a z => ⟨z, rfl⟩) (fun _ _ z _ => z) o1, ownL_ev2 o3⟩
theorem j_ev2 {a : Expr} {ma : M} {pa : Bool} {k : Nat} {p1 p3 : Pos} (ha : J X κ a ma (.own 0) κ1 pa) : J X κ (.Subscript a (.Slice none none (some (.Constant (.int 2) k p1)) p3) pos) (mEv2 ma) (.own 1) κ1 pa := by
  refine ⟨fun t ht => PE.imp (pe_ev2 (ha.run t ht)) fun σ H Q z q => ?_, fun hp ρ d ρ' e => ?_⟩
  · obtain ⟨g, ρ, S, d, ρ', em, post⟩ := q z
    obtain ⟨ds, e1, rfl⟩ := mEv2_some em
    refine fun _ => ⟨g, ρ, S, .lst ds, ρ', e1, fun v H' g' S' P' s' r' => ?_⟩
    obtain ⟨a, vs, rfl, h1, h2⟩ := own0_seq.1 r'
    exact ⟨a, vs, rfl, SqL.of h1, fun p hp => gives_post (b := true) S' rfl (ownL_ev2 (j := 0) h2) P' s' post p hp⟩
  · obtain ⟨ds, e1, _⟩ := mEv2_some e
    exact ha.pur hp _ _ _ e1
end VS
namespace VS
open PySem PySem.Spec PyProof.Rows L2 PySem.Calls
/-! ### (a, b, ..) = a list of that length -/
variable {K : PySem.W.Frag} {X : Cx} {κ κ1 κ2 κ3 κ4 : OE} {pos : Pos} {rc : RC}
def gTupL (K : PySem.W.Frag) (n : Nat) (t : TGs) : TG := fun v σ H Q => ∃ a xs, v = .ref a ∧ SqL K H a xs ∧ xs.length = n ∧ t xs σ H Q
theorem pg_tupL {es : List Expr} {k : Nat} {t : TGs} {n : Nat} (hc : X.calm = true) (h : PGs X es t)
    (hn : (assignEach es X.env).length = n := by rfl) (hst : (assignEach es X.env).findIdx? (·.1) = none := by rfl) : PG X (.Tuple es k pos) (gTupL X.K n t) := by
  refine ⟨fun pins s σ H v u Q I r hw => ?_⟩
  obtain ⟨a, xs, e1, hq, hl, hw⟩ := hw
  subst e1
  cases r
  obtain ⟨its, rv, ht, hz⟩ := I.list hq
  rw [PyProof.Rows.assign_Tuple]
  refine wpAny_bind (wpAny_standAt ?_)
  have hsz : (assignEach es X.env).length = its.toArray.size := by rw [hn, ← hl]; simp [rv.length]
  unfold unpack
  rw [hsz, hst]
  refine wpAny_bind (wpAny_holding (PySem.W.kun_itemsOf (I.ok.hd hc) ht.isList fun h' hx => ?_))
  have I1 : Inv X pins σ H { s with heap := h' } := I.kept (t' := s.toks) fun b o e => hx b o (Nat.ne_of_lt (Heap.lt_size e)) e
  exact h.run pins _ σ H xs _ Q I1 (by simpa using rv) hw
def gTpL (ms : List D → DE → Option DE) : MG := fun d ρ => match d with
  | .lst ds => ms ds ρ
  | _ => none
theorem jg_tupL {es : List Expr} {k n : Nat} {ms : List D → DE → Option DE} {ts : List Nat} (hc : X.calm = true) (h : JGs X κ es ms κ1 ts)
    (hn : (assignEach es X.env).length = n) (hst : (assignEach es X.env).findIdx? (·.1) = none) (hlen : ∀ ds ρ ρ', ms ds ρ = some ρ' → ds.length = n) : JG X κ (.Tuple es k pos) (gTpL ms) κ1 ts := by
  refine ⟨fun t ht => PG.imp (pg_tupL hc (h.run t ht) hn hst) fun v σ H Q hl q => ?_, fun d ρ ρ' e => by
    unfold gTpL at e
    split at e
    · exact h.out _ _ _ e
    · cases e⟩
  obtain ⟨g, ρ, d, S, o, ρ', em, post⟩ := q hl
  unfold gTpL at em
  split at em
  · obtain ⟨a, vs, rfl, ha, hg, ol⟩ := o
    exact ⟨a, vs, rfl, SqL.of ha, by rw [ownL_len ol]; exact hlen _ _ _ em, fun _ => ⟨g, ρ, _, 0, S, ol, ρ', em, post⟩⟩
  · cases em
theorem ap_gtpL {ms : List D → DE → Option DE} {ds : List D} {ρ : DE} : gTpL ms (.lst ds) ρ = ms ds ρ := rfl
/-! ### a list times a number -/
def dRep : D → D → Option D
  | .lst xs, .int k => if -1000000000000000000 < k ∧ k < 1000000000000000000 ∧ xs.length * k.toNat ≤ 16777216 then some (.lst (List.replicate k.toNat xs).flatten) else none
  | _, _ => none
theorem ownL_times {H : Hp} {g : G} {ds : List D} {vs : List V} (h : OwnL K H g ds 0 0 [] 0 vs) : ∀ n : Nat, OwnL K H g (List.replicate n ds).flatten 0 0 [] 0 (List.replicate n vs).flatten
  | 0 => rfl
  | n + 1 => by
    rw [List.replicate_succ, List.replicate_succ, List.flatten_cons, List.flatten_cons]
    exact ownL_app (l := 0) h (ownL_times h n)
theorem j_repO {a b e : Expr} {ma mb : M} {pa pb : Bool} (ha : J X κ a ma (.own 0) κ1 pa) (hb : J X κ1 b mb (.own 0) κ2 pb) (mk : ∀ {ta tb : TE}, PE X a ta → PE X b tb → PE X e (tOp rRep ta tb)) : J X κ e (m2 dRep ma mb) (.own 1) κ2 (pa && pb) := by
  refine ⟨fun t ht => PE.imp (mk (ha.run t ht) (hb.run (t + 1) (by omega))) fun σ H Q z q => ?_, fun hp ρ d ρ' h => ?_⟩
  · obtain ⟨g, ρ, S, d, ρ', em, post⟩ := q z
    obtain ⟨x, ρ1, y, ea, eb, ec⟩ := m2_some em
    refine two (K := X.K) (κ2 := κ2) ht rfl S ea eb z fun v u H' g' S' P' s' r1 r2 => ?_
    unfold dRep at ec
    split at ec
    · split at ec
      · rename_i xs k hk
        cases ec
        obtain ⟨l, vs, rfl, h1, _, ol⟩ := r1
        have ol1 : OwnL X.K H' g' xs 0 0 [] 0 vs := ownL_fz (fun a z => ⟨z, rfl⟩) (fun _ _ z _ => z) ol
        cases (show u = V.int k from r2)
        obtain ⟨k1, k2, k3⟩ := hk
        refine ⟨l, k, vs, rfl, rfl, h1, by omega, by omega, by rw [ownL_len ol1, sizeLine_eq]; exact k3, fun p hp => ?_⟩
        exact gives_post (b := true) S' rfl (ownL_times ol1 k.toNat) P' s' post p hp
      · cases ec
    · cases ec
  · rw [Bool.and_eq_true] at hp
    obtain ⟨x, ρ1, y, ea, eb, ec⟩ := m2_some h
    rw [hb.pur hp.2 _ _ _ eb, ha.pur hp.1 _ _ _ ea]
theorem r_rep1 {x : D} {n : Nat} (h : n ≤ 16777216) : dRep (.lst [x]) (.int n) = some (.lst (List.replicate n x)) := by
  show (if -1000000000000000000 < (n : Int) ∧ (n : Int) < 1000000000000000000 ∧ 1 * (n : Int).toNat ≤ 16777216 then some (D.lst (List.replicate (n : Int).toNat [x]).flatten) else none) = _
  rw [if_pos ⟨by omega, by omega, by omega⟩, Int.toNat_natCast]
  congr 2
  clear h
  induction n with
  | zero => rfl
  | succ n ih => rw [List.replicate_succ, List.flatten_cons, ih]; rfl
/-! ### what the later pieces answer, in lines -/
section
variable {ρ : DE} {i j : Int}
theorem ap_mk {k : Mk} {ml : ML} : mMk k ml ρ = (match ml ρ with | some ([x], ρ1) => (match dMk k x with | some z => some (z, ρ1) | none => none) | _ => none) := by
  unfold mMk
  rw [ap_B]
  cases ml ρ with
  | none => rfl
  | some p =>
    obtain ⟨xs, ρ1⟩ := p
    match xs with
    | [] => rfl
    | [x] => rfl
    | _ :: _ :: _ => rfl
theorem ap_mut {i : Nat} {f : List D → List D → Option (D × List D)} {ml : ML} : mMut i f ml ρ = (match ρ[i]? with | some (some (.lst _)) => (match ml ρ with | some (as, ρ1) => (match ρ1[i]? with | some (some (.lst ds)) => (match f ds as with | some (z, ds') => some (z, ρ1.set i (some (.lst ds'))) | none => none) | _ => none) | none => none) | _ => none) := by
  unfold mMut
  rcases ρ[i]? with _ | _ | d
  · rfl
  · rfl
  cases d with
  | lst ds0 =>
    simp only []
    cases ml ρ with
    | none => rfl
    | some p =>
      obtain ⟨xs, ρ1⟩ := p
      simp only [Option.bind_some]
      rcases ρ1[i]? with _ | _ | d
      · rfl
      · rfl
      cases d with
      | lst ds => simp only []; cases f ds xs <;> rfl
      | _ => rfl
  | _ => rfl
theorem ap_cut {i : Nat} {me : M} {ml mu : MO} : sCut i me ml mu ρ = (match me ρ with
  | some (.lst ys, ρ1) => (match ρ1[i]? with
    | some (some (.lst xs)) => (match ml ρ1 with
      | some (some a) => (match mu ρ1 with
        | some (some c) => if 0 ≤ a ∧ a ≤ c ∧ a ≤ xs.length ∧ xs.length + ys.length ≤ 16777216 then some (.nx (ρ1.set i (some (.lst (xs.take a.toNat ++ ys ++ xs.drop (min c.toNat xs.length)))))) else none
        | _ => none)
      | _ => none)
    | _ => none)
  | _ => none) := rfl
theorem ap_swap {i : Nat} {m ma mb : M} : sSwap i m ma mb ρ = (match m ρ with
  | some (.tup [d1, d2], ρ1) => (match putI i ma d1 ρ1 with
    | some ρ2 => (match putI i mb d2 ρ2 with
      | some ρ3 => some (.nx ρ3)
      | none => none)
    | none => none)
  | _ => none) := rfl
theorem ap_putI {i : Nat} {mj : M} {d : D} : putI i mj d ρ = (match ρ[i]? with
  | some (some (.lst ds)) => (match mj ρ with
    | some (.int k, _) => (match ixN ds.length k with
      | some j => some (ρ.set i (some (.lst (ds.set j d))))
      | none => none)
    | _ => none)
  | _ => none) := rfl
theorem ap_ev2 {m : M} : mEv2 m ρ = (match m ρ with | some (.lst ds, ρ1) => some (.lst (ev2 ds), ρ1) | _ => none) := rfl
theorem ap_keys {i : Nat} : mKeys i ρ = (match ρ[i]? with | some (some (.dic q _)) => some (q.keys, ρ) | _ => none) := rfl
theorem ap_mD {q : DKs} : mD q ρ = some (.dic q [], ρ) := rfl
theorem ap_put {i : Nat} {me mk : M} : sPut i me mk ρ = (match me ρ with
  | some (d, ρ1) => (match ρ1[i]? with
    | some (some (.dic q xs)) => if xs.length < 16777216 then (match mk ρ1 with
      | some (kd, ρ2) => (match dPut q xs kd d with
        | some (q', xs') => some (.nx (ρ2.set i (some (.dic q' xs'))))
        | none => none)
      | none => none) else none
    | _ => none)
  | none => none) := rfl
theorem ap_get2 {md mk mx : M} : mGet2 md mk mx ρ = (match md ρ with
  | some (.dic q xs, ρ1) => (match mk ρ1 with
    | some (kd, ρ2) => (match mx ρ2 with
      | some (x, ρ3) => (match dGet2 q xs kd x with
        | some z => some (z, ρ3)
        | none => none)
      | none => none)
    | none => none)
  | _ => none) := rfl
theorem ap_disp {m : MDs} : mDisp m ρ = (match m ρ with
  | some (ks, xs) => (match dispK ks xs with
    | some (ks', xs') => if ks'.Nodup ∧ xs'.length ≤ 15 then some (.dic (.K ks') xs', ρ) else none
    | none => none)
  | none => none) := rfl
theorem ap_dsN : dsNil ρ = some ([], []) := rfl
theorem ap_dsC {mk mv : M} {m : MDs} : dsCons mk mv m ρ = (match mk ρ with
  | some (k, _) => (match mv ρ with
    | some (v, _) => (match m ρ with
      | some (ks, xs) => some (k :: ks, v :: xs)
      | none => none)
    | none => none)
  | none => none) := rfl
theorem ap_srtD {m : M} : mSrtD m ρ = (match m ρ with
  | some (.dic (.K ks) _, ρ1) => if alikeK ks = true ∧ ks.length ≤ 16777216 then some (.lst ((srtK ks).map kD), ρ1) else none
  | _ => none) := rfl
theorem ap_sl {ma : M} {ml mu : MO} {f : D → Option Int → Option Int → Option D} : mSl ma ml mu f ρ = (match ma ρ with | some (x, ρ1) => (match ml ρ1 with | some l => (match mu ρ1 with | some u => (match f x l u with | some z => some (z, ρ1) | none => none) | none => none) | none => none) | none => none) := by
  unfold mSl
  cases ma ρ with
  | none => rfl
  | some p =>
    simp only [Option.bind_some]
    cases ml p.2 with
    | none => rfl
    | some l =>
      simp only [Option.bind_some]
      cases mu p.2 with
      | none => rfl
      | some u =>
        simp only [Option.bind_some]
        cases f p.1 l u <;> rfl
theorem ap_oS {m : M} : oSome m ρ = (match m ρ with | some (.int i, _) => some (some i) | _ => none) := rfl
theorem ap_oN : oNone ρ = some none := rfl
theorem r_catI : dCat (.int i) (.int j) = some (.int (i + j)) := rfl
theorem r_cat {xs ys : List D} (h : xs.length + ys.length ≤ 16777216) : dCat (.lst xs) (.lst ys) = some (.lst (xs ++ ys)) := by unfold dCat; simp only [h, if_true]
theorem r_catT {xs ys : List D} (h : xs.length + ys.length ≤ 16777216) : dCat (.tup xs) (.tup ys) = some (.tup (xs ++ ys)) := by unfold dCat; simp only [h, if_true]
theorem r_mkL {xs : List D} : dMk .lst (.lst xs) = some (.lst xs) := rfl
theorem r_mkLT {xs : List D} : dMk .lst (.tup xs) = some (.lst xs) := rfl
theorem r_mkT {xs : List D} : dMk .tup (.lst xs) = some (.tup xs) := rfl
theorem r_slL {xs : List D} {l u : Option Int} : dSl (.lst xs) l u = some (.lst (cutG xs l u)) := rfl
theorem r_slT {xs : List D} {l u : Option Int} : dSl (.tup xs) l u = some (.tup (cutG xs l u)) := rfl
theorem at0 {α : Type} {x : α} {xs : List α} : atI (x :: xs) 0 = some x := by simp [atI, ixN]
theorem at1 {α : Type} {x y : α} {xs : List α} : atI (x :: y :: xs) 1 = some y := (at_nn (xs := x :: y :: xs) (n := 1) (by simp)).trans rfl
theorem ix_nn {n k : Nat} (h : k < n) : ixN n (k : Int) = some k := by simp [ixN, h]
theorem r_fIns {ds : List D} {n : Nat} {d : D} (h : n ≤ 16777216) (h2 : ds.length < 16777216) : fIns ds [.int n, d] = some (.non, ds.take n ++ ([d] ++ ds.drop n)) := by
  show (if 0 ≤ (n : Int) ∧ (n : Int).natAbs < 1000000000000000000 ∧ ds.length < 16777216 then some (D.non, ds.take (n : Int).toNat ++ ([d] ++ ds.drop (n : Int).toNat)) else none) = _
  rw [if_pos ⟨by omega, by omega, h2⟩]
  rfl
theorem cut_ok {i : Nat} {me : M} {ml mu : MO} {ρ1 : DE} {xs ys : List D} {a c : Nat} (e1 : me ρ = some (.lst ys, ρ1)) (e2 : ρ1[i]? = some (some (.lst xs))) (e3 : ml ρ1 = some (some (a : Int))) (e4 : mu ρ1 = some (some (c : Int))) (h1 : a ≤ c) (h2 : a ≤ xs.length) (h3 : xs.length + ys.length ≤ 16777216) : sCut i me ml mu ρ = some (.nx (ρ1.set i (some (.lst (xs.take a ++ ys ++ xs.drop (min c xs.length)))))) := by
  have hh : 0 ≤ (a : Int) ∧ (a : Int) ≤ (c : Int) ∧ (a : Int) ≤ xs.length ∧ xs.length + ys.length ≤ 16777216 := ⟨by omega, by omega, by omega, h3⟩
  rw [ap_cut, e1]
  simp only [e2, e3, e4, if_pos hh, Int.toNat_natCast]
end
end VS
namespace VS
open PySem PySem.Spec PyProof.Rows L2 PySem.Calls
variable {K : PySem.W.Frag} {X : Cx} {κ κ1 κ2 κ3 κ4 : OE} {pos : Pos} {rc : RC}
/-! ### for i in range(a, b, c) -/
def rngC (lo c : Int) (n : Nat) : List D := (List.range n).map fun i => .int (lo + (i : Nat) * c)
theorem rngC_len (lo c : Int) (n : Nat) : (rngC lo c n).length = n := by simp [rngC]
theorem dlv_rangeC {lo c : Int} {n : Nat} : Dlv K (Itc lo c n) (fun _ _ => True) (rngC lo c n) where
  go := fun i g H _ hi => by
    rw [rngC_len] at hi
    exact hi
  stop := fun i g H _ hi => by
    rw [rngC_len] at hi
    exact hi
  yld := fun i g H x H' d _ gok y e => by
    obtain ⟨rfl, rfl⟩ := y
    unfold rngC at e
    rw [List.getElem?_map] at e
    cases q : (List.range n)[i]? with
    | none => rw [q] at e; cases e
    | some j =>
      rw [q] at e
      have hj : j = i := by
        have := List.getElem?_eq_some_iff.mp q
        obtain ⟨h1, h2⟩ := this
        simpa using h2.symm
      subst hj
      cases e
      exact ⟨Same.refl _, rfl⟩
  keep := fun g H g' H' _ _ _ => trivial
def okC (i j c : Int) : Bool := decide (c ≠ 0) && (decide (c.natAbs < 1073741824) && (Builtin.Range.small i j c && decide (Builtin.Range.rangeSize i j c = ((Builtin.Range.rangeSize i j c).toNat : Int))))
def mRng3 (ml : ML) : ML := fun ρ => match ml ρ with
  | some ([.int i, .int j, .int c], ρ1) => (match okC i j c with
    | true => some (rngC i c (Builtin.Range.rangeSize i j c).toNat, ρ1)
    | false => none)
  | _ => none
theorem mRng3_some {ml : ML} {ρ ρ' : DE} {ds : List D} (h : mRng3 ml ρ = some (ds, ρ')) : ∃ i j c, ∃ n : Nat, ml ρ = some ([.int i, .int j, .int c], ρ') ∧ RgC i j c n ∧ ds = rngC i c n := by
  unfold mRng3 at h
  split at h
  · split at h
    · rename_i hc
      cases h
      unfold okC at hc
      simp only [Bool.and_eq_true, decide_eq_true_eq] at hc
      exact ⟨_, _, _, _, by assumption, ⟨hc.1, hc.2.1, hc.2.2.1, hc.2.2.2⟩, rfl⟩
    · cases h
  · cases h
theorem ji_range3 {tg a b c : Expr} {p : Pos} {ml : ML} {ms : List Am} {pu : Bool} (h : JA X κ [a, b, c] ml ms κ1 pu) (hm : allRz ms = true) (hg : Gl X "range") (hmg : X.mg "range" = none)
    (hs : starEach [a, b, c] X.env = (false, eval a X.env) :: starEach [b, c] X.env) (hs2 : (backTo pos (starEach [b, c] X.env)).any (·.1) = false) : JI X κ tg (.Call (.Name "range" p) [a, b, c] [] pos) (mRng3 ml) κ1 pu := by
  refine ⟨fun t ht => PI.imp (pi_range3 hg hmg (h.run t ht) hs hs2) fun σ H R z q => ?_, fun hp ρ d ρ' e => by
    obtain ⟨_, _, _, _, e1, _⟩ := mRng3_some e
    exact h.pur hp _ _ _ e1⟩
  obtain ⟨g, ρ, S, ds, ρ', em, post⟩ := q z
  obtain ⟨i, j, k, n, e1, hr, rfl⟩ := mRng3_some em
  refine fun _ => ⟨g, ρ, S, _, ρ', e1, fun vs H' g' S' P' s' r' => ?_⟩
  obtain ⟨v, w, rfl, h1, v2, w2, rfl, h2, v3, w3, rfl, h3, h4⟩ := rows_repL hm r'
  cases (show _ = _ from h1)
  cases (show _ = _ from h2)
  cases (show _ = _ from h3)
  cases (show _ = _ from h4)
  exact ⟨i, j, k, n, rfl, hr, post _ _ H' g' S' P' s' dlv_rangeC trivial⟩
/-! ### a op b op c op d, nothing changed on the way -/
def mCh3 (f f' f'' : D → D → Option D) (ma mb mc md : M) : M := fun ρ => match ma ρ with
  | some (x, ρ1) => (match mb ρ1 with
    | some (y, ρ2) => (match f x y with
      | some (.bl false) => some (.bl false, ρ2)
      | some (.bl true) => (match mc ρ2 with
        | some (w, ρ3) => (match f' y w with
          | some (.bl false) => some (.bl false, ρ3)
          | some (.bl true) => (match md ρ3 with
            | some (v, ρ4) => (match f'' w v with
              | some z => some (z, ρ4)
              | none => none)
            | none => none)
          | _ => none)
        | none => none)
      | _ => none)
    | none => none)
  | none => none
def tChain3 (r r' r'' : R2) (ta tb tc td : TE) : TE := fun σ H Q => ta σ H fun x H1 => tb σ H1 fun y H2 => r x y H2 fun z H3 => ∃ k, z = .bl k ∧
  (if k = true then tc σ H3 fun w H4 => r' y w H4 fun z' H5 => ∃ k', z' = .bl k' ∧ (if k' = true then td σ H5 fun v H6 => r'' w v H6 Q else Q (.bl false) H5) else Q (.bl false) H3)
theorem pe_chain3 {op op' op'' : CmpOp} {a b c d : Expr} {ta tb tc td : TE} {r r' r'' : R2} (ho : OpR X (compareOp op) r) (ho' : OpR X (compareOp op') r') (ho'' : OpR X (compareOp op'') r'') (ha : PE X a ta) (hb : PE X b tb) (hc : PE X c tc) (hd : PE X d td)
    (hm : lastMarks [op, op', op''] [b, c, d] = false) : PE X (.Compare a [op, op', op''] [b, c, d] pos) (tChain3 r r' r'' ta tb tc td) := by
  refine ⟨fun pins s σ H Q I h => ?_⟩
  refine Compare_chain (thn (ha.run pins s σ H _ I h) fun v s1 ⟨x, H1, I1, r1, q1⟩ => chain_link (thn (hb.run pins s1 σ H1 _ I1 q1) fun u s2 ⟨y, H2, I2, r2, q2⟩ =>
    thn (ho pins s2 σ H2 x y v u _ I2 r1 r2 q2) fun d0 s3 ⟨z, H3, I3, r3, k, e, q3⟩ => ?_)) hm
  subst e
  cases r3
  refine wpAny_truthy_bool ?_
  cases k with
  | false => exact ite_ff ⟨.bl false, H3, I3, rfl, q3⟩
  | true =>
    refine ite_tt (chain_link (thn (hc.run pins s3 σ H3 _ I3 q3) fun w' s4 ⟨z', H4, I4, r4, q4⟩ => thn (ho' pins s4 σ H4 y z' u w' _ I4 r2 r4 q4) fun d1 s5 ⟨z2, H5, I5, r5, k', e', q5⟩ => ?_))
    subst e'
    cases r5
    refine wpAny_truthy_bool ?_
    cases k' with
    | false => exact ite_ff ⟨.bl false, H5, I5, rfl, q5⟩
    | true => exact ite_tt (chain_last (thn (hd.run pins s5 σ H5 _ I5 q5) fun w2 s6 ⟨z3, H6, I6, r6, q6⟩ => ho'' pins s6 σ H6 z' z3 w' w2 Q I6 r4 r6 q6))
theorem mCh3_some {f f' f'' : D → D → Option D} {ma mb mc md : M} {ρ ρ' : DE} {d : D} (h : mCh3 f f' f'' ma mb mc md ρ = some (d, ρ')) : ∃ x ρ1 y ρ2, ma ρ = some (x, ρ1) ∧ mb ρ1 = some (y, ρ2) ∧
    ((f x y = some (.bl false) ∧ d = .bl false ∧ ρ' = ρ2) ∨ (f x y = some (.bl true) ∧ ∃ w ρ3, mc ρ2 = some (w, ρ3) ∧ ((f' y w = some (.bl false) ∧ d = .bl false ∧ ρ' = ρ3) ∨ (f' y w = some (.bl true) ∧ ∃ v, md ρ3 = some (v, ρ') ∧ f'' w v = some d)))) := by
  unfold mCh3 at h
  split at h
  · rename_i x ρ1 e1
    split at h
    · rename_i y ρ2 e2
      refine ⟨x, ρ1, y, ρ2, e1, e2, ?_⟩
      split at h
      · rename_i e3
        cases h
        exact .inl ⟨e3, rfl, rfl⟩
      · rename_i e3
        refine .inr ⟨e3, ?_⟩
        split at h
        · rename_i w ρ3 e4
          refine ⟨w, ρ3, e4, ?_⟩
          split at h
          · rename_i e5
            cases h
            exact .inl ⟨e5, rfl, rfl⟩
          · rename_i e5
            refine .inr ⟨e5, ?_⟩
            split at h
            · rename_i v ρ4 e6
              split at h
              · rename_i z0 e7
                cases h
                exact ⟨v, e6, e7⟩
              · cases h
            · cases h
          · cases h
        · cases h
      · cases h
    · cases h
  · cases h
theorem j_chain3 {op op' op'' : CmpOp} {a b c d : Expr} {ma mb mc md : M} {ra rb rc rd : Rz} {r r' r'' : R2} {f f' f'' : D → D → Option D} (ho : OpR X (compareOp op) r) (ho' : OpR X (compareOp op') r') (ho'' : OpR X (compareOp op'') r'')
    (ha : J X κ a ma ra κ true) (hb : J X κ b mb rb κ true) (hc : J X κ c mc rc κ true) (hd : J X κ d md rd κ true) (o1 : okk ra true = true) (at1 : AtOp X r f) (at2 : AtOp X r' f') (at3 : AtOp X r'' f'')
    (hm : lastMarks [op, op', op''] [b, c, d] = false) {rz : Rz} : J X κ (.Compare a [op, op', op''] [b, c, d] pos) (mCh3 f f' f'' ma mb mc md) rz κ true := by
  refine ⟨fun t ht => PE.imp (pe_chain3 ho ho' ho'' (ha.run t ht) (hb.run (t + 1) (by omega)) (hc.run (t + 2) (by omega)) (hd.run (t + 3) (by omega)) hm) fun σ H Q z q => ?_, fun hp ρ d ρ' e => ?_⟩
  · obtain ⟨g, ρ, S, d, ρ', em, post⟩ := q z
    obtain ⟨x, ρ1, y, ρ2, ea, eb, hc0⟩ := mCh3_some em
    refine two (K := X.K) (κ2 := κ) ht o1 S ea eb z fun v u H2 g2 S2 P2 s2 r1 r2 => ?_
    rcases hc0 with ⟨e1, rfl, rfl⟩ | ⟨e1, w, ρ3, ec, hd0⟩
    · refine at1.ans H2 x y _ v u _ e1 r1.rep r2.rep ⟨false, rfl, ?_⟩
      exact iteF (post (.bl false) H2 _ S2 P2 (fun e => s2 rfl) (atom_rz (d := .bl false) rfl))
    · refine at1.ans H2 x y _ v u _ e1 r1.rep r2.rep ⟨true, rfl, ?_⟩
      refine iteT ?_
      refine fun _ => ⟨g2, ρ2, S2, w, ρ3, ec, fun w' H3 g3 S3 P3 s3 r3 => ?_⟩
      have ry := rep_mono (s3 rfl) y r2.rep
      rcases hd0 with ⟨e2, rfl, rfl⟩ | ⟨e2, v2, ed, e3⟩
      · refine at2.ans H3 y w _ u w' _ e2 ry r3.rep ⟨false, rfl, ?_⟩
        exact iteF (post (.bl false) H3 _ S3 (P2.trans (P3.less (by omega))) (fun e => (s2 rfl).trans (s3 rfl)) (atom_rz (d := .bl false) rfl))
      · refine at2.ans H3 y w _ u w' _ e2 ry r3.rep ⟨true, rfl, ?_⟩
        refine iteT ?_
        refine fun _ => ⟨g3, ρ3, S3, v2, ρ', ed, fun v' H4 g4 S4 P4 s4 r4 => ?_⟩
        have rw' := rep_mono (s4 rfl) w r3.rep
        have hda : isA d = true := at3.atom _ _ _ e3
        exact at3.ans H4 w v2 _ w' v' _ e3 rw' r4.rep (post _ H4 g4 S4 (P2.trans ((P3.less (by omega)).trans (P4.less (by omega)))) (fun e => (s2 rfl).trans ((s3 rfl).trans (s4 rfl))) (atom_rz hda))
  · obtain ⟨x, ρ1, y, ρ2, ea, eb, hc0⟩ := mCh3_some e
    have e1 := ha.pur rfl _ _ _ ea
    have e2 := hb.pur rfl _ _ _ eb
    rcases hc0 with ⟨_, _, rfl⟩ | ⟨_, w, ρ3, ec, hd0⟩
    · rw [e2, e1]
    · have e3 := hc.pur rfl _ _ _ ec
      rcases hd0 with ⟨_, _, rfl⟩ | ⟨_, v2, ed, _⟩
      · rw [e3, e2, e1]
      · rw [hd.pur rfl _ _ _ ed, e3, e2, e1]
/-! ### list(range(n)) -/
def mLRg (m : M) : M := fun ρ => match m ρ with
  | some (.int n, ρ1) => (match lim62 n && decide (n.toNat ≤ 16777216) with
    | true => some (.lst (rngD 0 n.toNat), ρ1)
    | false => none)
  | _ => none
theorem mLRg_some {m : M} {ρ ρ' : DE} {d : D} (h : mLRg m ρ = some (d, ρ')) : ∃ n : Int, m ρ = some (.int n, ρ') ∧ lim62 n = true ∧ n.toNat ≤ 16777216 ∧ d = .lst (rngD 0 n.toNat) := by
  unfold mLRg at h
  split at h
  · split at h
    · rename_i hc
      cases h
      rw [Bool.and_eq_true, decide_eq_true_eq] at hc
      exact ⟨_, by assumption, hc.1, hc.2, rfl⟩
    · cases h
  · cases h
theorem ownL_rg {H : Hp} {g : G} {r : Nat} {p : List Nat} : ∀ (is : List Int) (i : Nat), OwnL K H g (is.map D.int) 0 r p i (is.map V.int)
  | [], _ => rfl
  | k :: is, i => ⟨V.int k, is.map V.int, rfl, rfl, ownL_rg is (i + 1)⟩
theorem j_lrg {a : Expr} {ma : M} {ra : Rz} {pu : Bool} {p p1 p2 : Pos} (hc : X.calm = true) (ha : J X κ a ma ra κ1 pu) (hg : Gl X "list") (hm : X.mg "list" = none) (hg2 : Gl X "range") (hm2 : X.mg "range" = none)
    (na : starEach [a] X.env = (false, eval a X.env) :: starEach [] X.env) (nb : starEach [.Call (.Name "range" p1) [a] [] p2] X.env = (false, eval (.Call (.Name "range" p1) [a] [] p2) X.env) :: starEach [] X.env) :
    J X κ (.Call (.Name "list" p) [.Call (.Name "range" p1) [a] [] p2] [] pos) (mLRg ma) (.own 1) κ1 pu := by
  refine ⟨fun t ht => PE.imp (pe_listRg hc hg hm (prg_1 hg2 hm2 (ha.run t ht) na) nb) fun σ H Q z q => ?_, fun hp ρ d ρ' e => ?_⟩
  · obtain ⟨g, ρ, S, d, ρ', em, post⟩ := q z
    obtain ⟨n, e1, h1, h2, rfl⟩ := mLRg_some em
    refine fun _ => ⟨g, ρ, S, .int n, ρ', e1, fun v H' g' S' P' s' r' => ?_⟩
    cases (show _ = _ from r'.rep)
    refine ⟨n, rfl, ⟨by omega, by omega, (lim62_ok h1).1, (lim62_ok h1).2, by rw [Int.sub_zero]; exact h2⟩, fun p hp => ?_⟩
    have e2 : rgV 0 n = ((List.range n.toNat).map fun i : Nat => (0 : Int) + (i : Nat)).map V.int := by
      unfold rgV
      rw [Int.sub_zero, List.map_map]
      rfl
    have e3 : rngD 0 n.toNat = ((List.range n.toNat).map fun i : Nat => (0 : Int) + (i : Nat)).map D.int := by
      unfold rngD
      rw [List.map_map]
      rfl
    rw [e2]
    rw [e3] at post
    exact gives_post (b := true) S' rfl (ownL_rg _ 0) P' s' post p hp
  · obtain ⟨n, e1, _⟩ := mLRg_some e
    exact ha.pur hp _ _ _ e1
end VS
namespace VS
open PySem PySem.Spec PyProof.Rows L2 PySem.Calls
variable {K : PySem.W.Frag} {X : Cx} {κ κ1 κ2 κ3 κ4 : OE} {pos : Pos} {rc : RC}
/-! ### xs.index(x), plain values -/
def dIdx : D → D → Option D
  | .lst ys, x => if (ys.all isA && isA x) = true then ((ys.map av).findIdx? fun z => eqV z (av x)).map fun j => .int (j : Nat) else none
  | _, _ => none
theorem repL_atoms {H : Hp} : ∀ {ys : List D} {vs : List V}, ys.all isA = true → RepL K H ys vs → vs = ys.map av
  | [], vs, _, h => h
  | d :: ds, vs, ha, h => by
    obtain ⟨v, w, rfl, r1, r2⟩ := h
    rw [List.all_cons, Bool.and_eq_true] at ha
    rw [rep_atom ha.1 r1, repL_atoms ha.2 r2]
    rfl
theorem flat_av {d : D} (h : isA d = true) : flatV (av d) = true := by
  cases d <;> first | rfl | cases h
def rIdx (X : Cx) : V → List V → Hp → VK → Prop := fun x xs H Q => ∃ ys y z v, xs = [v] ∧ Rep X.K H (.lst ys) x ∧ Rep X.K H y v ∧ dIdx (.lst ys) y = some z ∧ Q (av z) H
theorem mt_idx : MtR X "list.index" (rIdx X) := fun pins s σ H x xs v us Q I rx rxs h => by
  obtain ⟨ys, y, z, w, rfl, rx', ry', e, q⟩ := h
  obtain ⟨a, vs, rfl, ha, hl⟩ := rx'
  simp only [dIdx] at e
  split at e
  · rename_i hh
    rw [Bool.and_eq_true] at hh
    cases ef : (ys.map av).findIdx? fun z => eqV z (av y) with
    | none => rw [ef] at e; cases e
    | some j =>
      rw [ef] at e
      cases e
      obtain ⟨hj, h1, h2⟩ := List.findIdx?_eq_some_iff_getElem.mp ef
      have ev := repL_atoms hh.1 hl
      have ew := rep_atom hh.2 ry'
      subst ev
      subst ew
      refine mt_index pins s σ H (.ref a) [av y] v us Q I rx rxs ⟨a, ys.map av, av y, j, (ys.map av)[j], rfl, rfl, SqL.of ha, flat_av hh.2, ?_, List.getElem?_eq_getElem hj, h1, fun m z' hm hz => ?_, q⟩
      · rw [List.all_map]
        exact List.all_eq_true.mpr fun d hd => flat_av (List.all_eq_true.mp hh.1 d hd)
      · obtain ⟨hm2, rfl⟩ := List.getElem?_eq_some_iff.mp hz
        have := h2 m hm
        simpa using this
  · cases e
theorem dIdx_a (x y z : D) (h : dIdx x y = some z) : isA z = true := by
  unfold dIdx at h
  split at h
  · split at h
    · obtain ⟨j, hj, rfl⟩ := Option.map_eq_some_iff.mp h
      rfl
    · cases h
  · cases h
theorem j_idx {o a e : Expr} {mo ma : M} {ro ra : Rz} {po pa : Bool} (ho : J X κ o mo ro κ1 po) (ha : J X κ1 a ma ra κ2 pa) (ok : okk ro pa = true) (mk : ∀ {to t : TE}, PE X o to → PE X a t → PE X e (tBM X.K "list" (rIdx X) to (tCons t tNil))) {rz : Rz} :
    J X κ e (m2 dIdx mo ma) rz κ2 (po && pa) := by
  refine ⟨fun t ht => PE.imp (mk (ho.run t ht) (ha.run (t + 1) (by omega))) fun σ H Q z q => ?_, fun hp ρ d ρ' h => ?_⟩
  · obtain ⟨g, ρ, S, d, ρ', em, post⟩ := q z
    obtain ⟨x, ρ1, y, ea, eb, ec⟩ := m2_some em
    have hx : ∃ ys, x = .lst ys := by
      unfold dIdx at ec
      split at ec
      · exact ⟨_, rfl⟩
      · cases ec
    obtain ⟨ys, rfl⟩ := hx
    refine fun _ => ⟨g, ρ, S, _, ρ1, ea, fun v H1 g1 S1 P1 s1 r1 => ?_⟩
    obtain ⟨L, vs, rfl, hL, hl⟩ := r1.rep
    refine ⟨.inl ⟨rfl, vs, SqL.of hL⟩, fun _ => ⟨g1, ρ1, S1, y, ρ', eb, fun u H2 g2 S2 P2 s2 r2 => ?_⟩⟩
    have r1' : RzOk X.K H2 g2 t ro (.lst ys) (.ref L) := by
      cases ro with
      | rep => exact rep_mono (s2 ok) (.lst ys) r1
      | own k => exact P2.own ht (Nat.lt_succ_self t) r1
    exact ⟨ys, y, d, u, rfl, r1'.rep, r2.rep, ec, post _ H2 g2 S2 (P1.trans (P2.less (Nat.le_succ t))) (Same.bool s1 s2) (atom_rz (dIdx_a _ _ _ ec))⟩
  · rw [Bool.and_eq_true] at hp
    obtain ⟨x, ρ1, y, ea, eb, ec⟩ := m2_some h
    rw [ha.pur hp.2 _ _ _ eb, ho.pur hp.1 _ _ _ ea]
end VS
namespace VS
open PySem PySem.Spec PySem.Calls PyProof.Rows L2
/-! ### set(xs) of a list of ints, and sorted of it -/
section
variable {P : Program} {w : World} {A : Around} {E : Value → Shared → Prop} {s : Shared}
abbrev newSet (w : World) : Obj := { cls := .type "set", dict := none, data := .set #[] 0 (.fresh 0 0 (!w.params.followText "set-order")) }
theorem set_of_ints {l : Addr} {its : Array Value} (ns : List Int) {Q : Value → Shared → Prop} (hh : A.handled = none) (hl : s.heap.IsList l its) (hit : IntsAre its.toList ns) (hb : ns.length + 1 < scanBound)
    (h : ∀ (h' : Heap) (tk c : Nat), SetR w h' s.heap.objs.size (fun j => decide (j ∈ ns)) c → c ≤ ns.length → (∀ b o, s.heap.get? b = some o → h'.get? b = some o) → Q (.ref s.heap.objs.size) { s with heap := h', toks := tk }) : wpAny (model P w) A (call (.type "set") [.ref l]) Q E s := by
  have hz0 : its.size = ns.length := (Array.length_toList (xs := its)).symm.trans (IntsAre.length hit)
  obtain ⟨c, tl, hmro⟩ := F.called_set.mro; have hmade := F.called_set.made; have hsub := F.called_set.sub
  refine wpAny_call (codeAny_of_tree ?_); show wpAny _ _ (callAny (.type "set") _) _ _ _
  refine wpAny_pure ⟨Code.quiet_builtin _ (by decide +kernel), codeAny_builtin F.entry_type_call ?_⟩; rw [Around.under_plain (weight_type_call_type "set" [.ref l] []) rfl]
  have h1 := F.called_set.notType; have h2 := F.called_set.canCreate; have hct := F.typeCall_set_1 (.ref l)
  repeat (any_goals (first | assumption | wp_step))
  refine codeAny_mono (code_set_led1 (.ref l) (E := E) (Q₁ := fun obj t => obj = .ref s.heap.objs.size ∧ t = { s with heap := s.heap.push (newSet w) }) ⟨rfl, rfl⟩) fun r t hr => ?_
  match r, hr with
  | .ok (.ret obj), hr =>
      obtain ⟨rfl, rfl⟩ := hr
      have hS : (s.heap.push (newSet w)).get? s.heap.objs.size = some (newSet w) := Heap.get?_push_size _ rfl
      have hT : Shared.TypeIs { s with heap := s.heap.push (newSet w) } (.ref s.heap.objs.size) "set" := ⟨_, hS, rfl⟩
      have hli := F.called_set.init.lookup; have hbi := F.called_set.init.bind (.ref s.heap.objs.size)
      repeat (any_goals (first | assumption | wp_step))
      refine codeAny_mono (codeAny_call_builtin (R := wants (fun r t => r = .none ∧ ∃ h' tk c, t = { s with heap := h', toks := tk } ∧ SetR w h' s.heap.objs.size (fun j => decide (j ∈ ns)) c ∧ c ≤ ns.length ∧ (∀ b o, s.heap.get? b = some o → h'.get? b = some o)) E) F.called_set.init.plain F.entry_set_init (check_set_init_1 hT ?_)) fun r2 t2 hr2 => ?_
      · obtain ⟨⟨ocls, odict, odata, oslots⟩, hol, hcl, nl, hdl⟩ := hl
        simp only at hcl hdl; subst hcl; subst hdl
        have hol' : (s.heap.push (newSet w)).get? l = some { cls := .type "list", dict := odict, data := .seq its nl, slots := oslots } := Heap.get?_push_of_some _ hol
        have hsls := F.sub_list_set; have hslf := F.sub_list_frozenset; have hne : (Value.type "list" == Value.type "dict") = false := by decide
        have hl1 : (s.heap.push (newSet w)).IsList l its := ⟨_, hol', rfl, nl, rfl⟩
        unfold Builtin.«set.__init__» noKeywords Builtin.Frozenset.updateFrom; generalize hPI : pyIter = PI
        wp_walk
        subst hPI; refine wpAny_pyIter_list hl1 ?_; refine wpAny_bind (wpAny_runValue ?_)
        have hlS : l < s.heap.objs.size := Heap.lt_size hol
        have hz1 : (s.heap.push (newSet w)).objs.size = s.heap.objs.size + 1 := Heap.size_push ..
        have hneI : l ≠ (s.heap.push (newSet w)).objs.size := by rw [hz1]; exact Nat.ne_of_lt (Nat.lt_succ_of_lt hlS)
        have hSf : s.heap.objs.size ∉ [(s.heap.push (newSet w)).objs.size, l] := by simp only [hz1, List.mem_cons, List.not_mem_nil, or_false, not_or]; exact ⟨Nat.ne_of_lt (Nat.lt_succ_self _), Nat.ne_of_gt hlS⟩
        have hval : ∀ (i : Nat) (v : Value), its[i]? = some v → ∃ k t, ns[i]? = some k ∧ v = .int k t := fun i v hv => by
          have hi : i < ns.length := by rw [← hz0]; exact (Array.getElem?_eq_some_iff.mp hv).1
          obtain ⟨t, e⟩ := IntsAre.int_at hit i v (by rw [Array.getElem?_toList]; exact hv)
          exact ⟨ns[i], t, List.getElem?_eq_getElem hi, by rw [e, List.getD_eq_getElem?_getD, List.getElem?_eq_getElem hi] <;> rfl⟩
        refine set_update_ints ((Walks.list (show A.in1.in1.in1.handled = none by simp [hh]) _ l hneI its).toS) s.heap.objs.size hSf ns hz0 hb hval (its.size - 0) 0 _ (by omega) (Nat.zero_le _) ⟨⟨_, Heap.get?_push_size _ rfl, rfl, rfl⟩, (hl1.push _)⟩ ⟨0, Nat.le_refl 0, setR_new_at (Heap.get?_push_of_some _ hS)⟩ ?_
        intro t3 c3 hm hc3 hS3
        obtain ⟨h', g2, d', tk', os'⟩ := t3
        have eg : g2 = s.gens := hm.gens; have ed : d' = s.drawn := hm.drawn; have eo : os' = s.os := hm.os
        subst eg; subst ed; subst eo; show wpAny _ _ _ _ _ _
        refine wpAny_pure ?_; show wpAny _ _ (ret Value.none) _ _ _
        rw [hz0] at hc3
        refine wpAny_pure ⟨rfl, h', tk', c3, rfl, hS3, hc3, fun b o e => ?_⟩
        have hb0 : b < s.heap.objs.size := Heap.lt_size e
        exact hm.heap b o (by simp only [hz1, List.mem_cons, List.not_mem_nil, or_false, not_or]; exact ⟨Nat.ne_of_lt hb0, Nat.ne_of_lt (Nat.lt_succ_of_lt hb0)⟩) (Heap.get?_push_of_some _ (Heap.get?_push_of_some _ e))
      · match r2, hr2 with
        | .ok (.ret r), hr2 =>
          obtain ⟨rfl, h', tk, c, rfl, hS3, hc3, hk⟩ := hr2
          repeat (any_goals (first | assumption | wp_step))
          exact h _ _ _ hS3 hc3 hk
        | .error e, hr2 => exact hr2
        | .ok (.next), hr2 => exact hr2.elim
        | .ok (.brk), hr2 => exact hr2.elim
        | .ok (.cont), hr2 => exact hr2.elim
  | .error e, hr => exact hr
  | .ok (.next), hr => exact hr.elim
  | .ok (.brk), hr => exact hr.elim
  | .ok (.cont), hr => exact hr.elim
end
variable {K : PySem.W.Frag} {X : Cx} {κ κ1 κ2 κ3 κ4 : OE} {pos : Pos} {rc : RC}
/-- the ints of a list, each once, rising -/
def uqI : List Int → List Int
  | [] => []
  | x :: xs => if x ∈ uqI xs then uqI xs else x :: uqI xs
theorem uqI_nodup : ∀ ns, (uqI ns).Nodup
  | [] => List.nodup_nil
  | x :: xs => by
    unfold uqI
    split
    · exact uqI_nodup xs
    · exact List.nodup_cons.mpr ⟨by assumption, uqI_nodup xs⟩
theorem uqI_mem {k : Int} : ∀ {ns : List Int}, k ∈ uqI ns ↔ k ∈ ns
  | [] => Iff.rfl
  | x :: xs => by
    unfold uqI
    split
    · rename_i h
      rw [uqI_mem, List.mem_cons]
      exact ⟨.inr, fun z => z.elim (fun e => e ▸ uqI_mem.mp h) id⟩
    · rw [List.mem_cons, List.mem_cons, uqI_mem]
def srtU (ns : List Int) : List Int := (uqI ns).mergeSort fun a b => decide (a ≤ b)
theorem srtU_sorted (ns : List Int) : (srtU ns).Pairwise (· ≤ ·) := by
  have := List.pairwise_mergeSort (le := fun a b : Int => decide (a ≤ b)) (by intro a b c; simp; omega) (by intro a b; simp; omega) (uqI ns)
  exact this.imp (by intro a b h; simpa using h)
theorem perm_of {xs ys : List Int} (h1 : xs.Nodup) (h2 : ys.Nodup) (h : ∀ k, k ∈ xs ↔ k ∈ ys) : xs.Perm ys := by
  rw [List.perm_iff_count]
  intro a
  rw [h1.count, h2.count]
  by_cases q : a ∈ xs
  · rw [if_pos q, if_pos ((h a).mp q)]
  · rw [if_neg q, if_neg fun z => q ((h a).mpr z)]
theorem srtU_of {out ns : List Int} (h : out.Pairwise (· < ·)) (hm : ∀ k, k ∈ out ↔ k ∈ ns) : out = srtU ns := by
  refine sorted_unique ?_ (h.imp fun h => Int.le_of_lt h) (srtU_sorted ns)
  refine (perm_of (h.imp fun h => Int.ne_of_lt h) (uqI_nodup ns) fun k => ?_).trans (List.mergeSort_perm _ _).symm
  rw [hm, uqI_mem]
theorem srtU_len (ns : List Int) : (srtU ns).length ≤ ns.length := by
  unfold srtU
  rw [(List.mergeSort_perm _ _).length_eq]
  have : ∀ ns : List Int, (uqI ns).length ≤ ns.length := fun ns => by
    induction ns with
    | nil => exact Nat.le_refl _
    | cons x xs ih =>
      unfold uqI
      split
      · simp; omega
      · simp; omega
  exact this ns
theorem vals_intsI : ∀ {us : List Value} {ns : List Int}, IntsAre us ns → Vals (ns.map V.int) us
  | _, _, .nil => .nil
  | _, _, .cons n t h => .cons ⟨t, rfl⟩ (vals_intsI h)
def mSrtS (m : M) : M := fun ρ => match m ρ with
  | some (.lst xs, ρ1) => (match intsOf xs with
    | some ns => if ns.length < 64 then some (.lst ((srtU ns).map .int), ρ1) else none
    | none => none)
  | _ => none
theorem mSrtS_some {m : M} {ρ ρ' : DE} {d : D} (h : mSrtS m ρ = some (d, ρ')) : ∃ xs ns, m ρ = some (.lst xs, ρ') ∧ intsOf xs = some ns ∧ ns.length < 64 ∧ d = .lst ((srtU ns).map .int) := by
  unfold mSrtS at h
  split at h
  · split at h
    · split at h
      · cases h
        exact ⟨_, _, by assumption, by assumption, by assumption, rfl⟩
      · cases h
    · cases h
  · cases h
def tSrtS (ta : TE) : TE := fun σ H Q => ta σ H fun v H1 => ∃ (a : Addr) (ns : List Int), v = .ref a ∧ H1 a = some (.lst (ns.map V.int)) ∧ ns.length < 64 ∧ ∀ p, H1 p = none → Q (.ref p) (upd H1 p (.lst ((srtU ns).map V.int)))
theorem pe_srtS {a : Expr} {ta : TE} {p p1 p2 : Pos} (hc : X.calm = true) (ha : PE X a ta) (hg : Gl X "sorted") (hm : X.mg "sorted" = none) (hg2 : Gl X "set") (hm2 : X.mg "set" = none)
    (na : starEach [a] X.env = (false, eval a X.env) :: starEach [] X.env) (nb : starEach [.Call (.Name "set" p1) [a] [] p2] X.env = (false, eval (.Call (.Name "set" p1) [a] [] p2) X.env) :: starEach [] X.env) :
    PE X (.Call (.Name "sorted" p) [.Call (.Name "set" p1) [a] [] p2] [] pos) (tSrtS ta) := by
  refine ⟨fun pins s σ H Q I h => ?_⟩
  refine Call_ (ld_blt I hg hm boot_sorted (PyProof.Rows.callWith_builtin1 (args_cons ?_ nb) nb))
  refine Call_ (ld_blt I hg2 hm2 boot_set (PyProof.Rows.callWith_type1 (args_cons (thn (ha.run pins s σ H _ I h) fun v s1 ⟨x, H1, I1, r1, q1⟩ => args_nil ?_) na) na))
  obtain ⟨L, ns, rfl, hL, hz, q⟩ := q1
  cases r1
  obtain ⟨its, rv, pl, hz2⟩ := I1.list (SqL.of hL)
  have hd := I1.ok.hd hc
  refine set_of_ints ns hd pl.isList (ints_of_vals rv) (by unfold scanBound; omega) fun h' tk c R1 hcn k => ?_
  refine args_nil ?_
  refine sorted_set R1 hd (by omega) fun s' p out c2 ms k2 g2 o2 hpo hp hi hs hmem hlen => ?_
  have e : ms = srtU ns := srtU_of hs fun j => by rw [hmem, decide_eq_true_eq]
  subst e
  obtain ⟨o, es, ep, t, ho, _⟩ := R1
  have hlt : s1.heap.objs.size < h'.objs.size := Heap.lt_size ho
  have hp2 : s1.heap.objs.size ≤ p := Nat.le_trans (Nat.le_of_lt hlt) hpo
  have hn : H1 p = none := I1.hok.fresh hp2
  have kk : ∀ b u, s1.heap.get? b = some u → s'.heap.get? b = some u := fun b u e => k2 b u (k b u e)
  have hl : ((srtU ns).map V.int).length ≤ sizeLine := by
    have := srtU_len ns
    rw [List.length_map, sizeLine_eq]
    omega
  exact ⟨.ref p, upd H1 p (.lst ((srtU ns).map V.int)), I1.call' (ch := []) o2 (Un.laid kk hp2 hn) (I1.hok.laid kk hp2 ⟨hl, out.toList, c2, vals_intsI hi, hp⟩) (by rw [g2]; exact I1.bare) (fun _ z => nomatch z), rfl, q p hn⟩
theorem j_srtS {a : Expr} {ma : M} {pu : Bool} {p p1 p2 : Pos} (hc : X.calm = true) (ha : J X κ a ma (.own 0) κ1 pu) (hg : Gl X "sorted") (hm : X.mg "sorted" = none) (hg2 : Gl X "set") (hm2 : X.mg "set" = none)
    (na : starEach [a] X.env = (false, eval a X.env) :: starEach [] X.env) (nb : starEach [.Call (.Name "set" p1) [a] [] p2] X.env = (false, eval (.Call (.Name "set" p1) [a] [] p2) X.env) :: starEach [] X.env) :
    J X κ (.Call (.Name "sorted" p) [.Call (.Name "set" p1) [a] [] p2] [] pos) (mSrtS ma) (.own 1) κ1 pu := by
  refine ⟨fun t ht => PE.imp (pe_srtS hc (ha.run t ht) hg hm hg2 hm2 na nb) fun σ H Q z q => ?_, fun hp ρ d ρ' e => ?_⟩
  · obtain ⟨g, ρ, S, d, ρ', em, post⟩ := q z
    obtain ⟨xs, ns, e1, e2, h1, rfl⟩ := mSrtS_some em
    refine fun _ => ⟨g, ρ, S, .lst xs, ρ', e1, fun v H' g' S' P' s' r' => ?_⟩
    obtain ⟨L, vs, rfl, hL, ol⟩ := own0_seq.1 r'
    have ev := ints_rep e2 (ownL_repL _ ol)
    subst ev
    refine ⟨L, ns, rfl, hL, h1, fun p hp => ?_⟩
    exact gives_post (b := true) S' rfl (ownL_rg _ 0) P' s' post p hp
  · obtain ⟨xs, ns, e1, _⟩ := mSrtS_some e
    exact ha.pur hp _ _ _ e1
end VS
namespace L_k05
open PySem PySem.Spec PyProof.Rows L2 VS
def topS (i : Nat) : Stmt := PySem.Challenge.pw_bendfronts_k05_pieces.main.body.getD i (.Pass ⟨0, 0, 0, 0⟩)
structure Gs (mg : Str → Option Value) : Prop where
  abs : mg "abs" = none
  all : mg "all" = none
  bool : mg "bool" = none
  enumerate : mg "enumerate" = none
  int : mg "int" = none
  isinstance : mg "isinstance" = none
  len : mg "len" = none
  list : mg "list" = none
  max : mg "max" = none
  min : mg "min" = none
  range : mg "range" = none
  set : mg "set" = none
  sorted : mg "sorted" = none
  BORN : ∃ t, mg "BORN" = some (.str "born" t)
  CROSS : ∃ t, mg "CROSS" = some (.str "cross" t)
  END : ∃ t, mg "END" = some (.str "end" t)
variable {P : Program} {w : World} {K : PySem.W.Frag} {mg : Str → Option Value} {base : Heap}
/-! numbers_of -/
abbrev s_numbers_of : Stmt := topS 4
abbrev N_numbers_of : List Str := ["drawing", "words", "t", "letter"]
abbrev p_numbers_of : List Str := ["drawing", "words"]
abbrev sg_numbers_of : Sg := ⟨[0, 0], 99, [none, none]⟩
def m_numbers_of : SM := (sRet (mLc (true && (true && true)) [2, 3] (mEnum (mCons (mV 0) mNil)) (gTp (gsCons (gNm 2) (gsCons (gNm 3) gsNil))) (m2 dIn (m2 dIx (mV 3) (mC (.int 0))) (mV 1)) (mA (mV 2))))
def F_numbers_of : FM := fM 2 4 sg_numbers_of.ks' m_numbers_of
theorem sc_numbers_of : FnScope N_numbers_of p_numbers_of (defScope s_numbers_of) := ⟨rfl, rfl, rfl, by decide +kernel, rfl, by decide +kernel, by decide +kernel⟩
theorem ok_numbers_of (G : Gs mg) {fa : Addr} {fd : FuncData} (F : FnP K "numbers_of" s_numbers_of fa fd) (hm : mg "numbers_of" = some (.ref fa)) : Has P w K mg base "numbers_of" 1 p_numbers_of sg_numbers_of F_numbers_of := by
  refine has_mk (k := 0) (n := 4) F hm sc_numbers_of rfl rfl (by decide) rfl (fun _ _ _ _ _ _ us hl => match us, hl with | [_, _], _ => rfl) fun cdv A outer s H E hr => ?_
  have hu := units_of hr
  exact (jb_one (js_ret (κ1 := [some 0, some 0, none, none]) (j_lc (k := 99) (own := [("t", 2), ("letter", 3)]) rfl sc_numbers_of.nd (ji_enum (ja_cons (j_frz (κ := [some 0, some 0, none, none]) (i := 0) (k := 0) (pv 0) rfl rfl) ja_nil rfl rfl) (by rfl) G.enumerate rfl) (blkOk_by (N := N_numbers_of) (sc := defScope s_numbers_of) (own := [("t", 2), ("letter", 3)]) (by decide +kernel)) (fun _ _ _ _ _ => (jg_tup (n := 2) rfl (jgs_cons (jg_name (i := 2) sc_numbers_of.nd rfl (by first | exact .inl rfl | exact .inr rfl) (by first | exact .inr rfl | exact .inl rfl)) (jgs_cons (jg_name (i := 3) sc_numbers_of.nd rfl (by first | exact .inl rfl | exact .inr rfl) (by first | exact .inr rfl | exact .inl rfl)) jgs_nil fun a b => pgs_cons a b) fun a b => pgs_cons a b) rfl rfl (gs_lenS (gs_lenS gs_len0)))) (fun _ _ _ _ _ => (jts_one (JT.two_read (j_ix hu (j_var (i := 3) (pv 3) rfl) (j_const (d := .int 0) (rz := .own 99) rfl pe_int) rfl (fun _ _ => rfl)) (j_var (i := 1) (pv 1) rfl) rfl (atOp fun _ _ _ => dInG_a _ _ _) fun a b => pt_cmpR (o_in hu) a b (by with_unfolding_all rfl)))) (fun _ _ _ _ _ => (J.asAtom (z' := .own 99) (j_var (i := 2) (pv 2) rfl))) (fun _ => rfl) (by decide) rfl rfl rfl rfl rfl) rfl rfl))
/-! ends_of -/
abbrev s_ends_of : Stmt := topS 5
abbrev N_ends_of : List Str := ["drawing"]
abbrev p_ends_of : List Str := ["drawing"]
abbrev sg_ends_of : Sg := ⟨[0], 99, [none]⟩
def m_ends_of : SM := (sRet (mCall F_numbers_of (mCons (mV 0) (mCons (mTup (mCons (mC (.str "end")) mNil)) mNil))))
def F_ends_of : FM := fM 1 1 sg_ends_of.ks' m_ends_of
theorem sc_ends_of : FnScope N_ends_of p_ends_of (defScope s_ends_of) := ⟨rfl, rfl, rfl, by decide +kernel, rfl, by decide +kernel, by decide +kernel⟩
theorem ok_ends_of (G : Gs mg) (h_numbers_of : Has P w K mg base "numbers_of" 1 p_numbers_of sg_numbers_of F_numbers_of) {fa : Addr} {fd : FuncData} (F : FnP K "ends_of" s_ends_of fa fd) (hm : mg "ends_of" = some (.ref fa)) : Has P w K mg base "ends_of" 2 p_ends_of sg_ends_of F_ends_of := by
  refine has_mk (k := 1) (n := 1) F hm sc_ends_of rfl rfl (by decide) rfl (fun _ _ _ _ _ _ us hl => match us, hl with | [_], _ => rfl) fun cdv A outer s H E hr => ?_
  have hu := units_of hr
  exact (jb_one (js_ret (κ1 := [some 0]) (call_pure (n := 2) (r := 99) (rz := .own 99) (ja_cons (j_var (i := 0) (pv 0) rfl) (ja_cons (j_tup (k' := 99) (ja_cons (j_glS (z := "end") (rz := .own 99) (by rfl) G.END rfl) ja_nil rfl rfl) rfl) ja_nil rfl rfl) rfl rfl) rfl (fun _ _ _ => fM_len _ _ _) (fun h => has_call h_numbers_of hr (by decide) (by rfl) h (by rfl) (by rfl) (by rfl)) (.inr ⟨rfl, by decide⟩)) rfl rfl))
/-! threads_behind -/
abbrev s_threads_behind : Stmt := topS 7
abbrev N_threads_behind : List Str := ["row", "letter", "born", "word", "k"]
abbrev p_threads_behind : List Str := ["row", "letter", "born"]
abbrev sg_threads_behind : Sg := ⟨[0, 0, 0], 99, [none, none, none]⟩
def m_threads_behind : SM := (sSeq (sTgt (mV 1) (gTp (gsCons (gNm 3) (gsCons (gNm 4) gsNil))))
  (sSeq (sIf (m2 dEq (mV 3) (mC (.str "born")))
  (sRet (mFl (m2 dCat (m2 dCat (mSl (mV 0) oNone (oSome (mV 4)) dSl) (mLst (mCons (mA (mV 2)) (mCons (m2 dAdd (mV 2) (mC (.int 1))) mNil)))) (mSl (mV 0) (oSome (mV 4)) oNone dSl))))
  sNil)
  (sSeq (sIf (m2 dEq (mV 3) (mC (.str "cross")))
  (sRet (mFl (m2 dCat (m2 dCat (mSl (mV 0) oNone (oSome (mV 4)) dSl) (mLst (mCons (m2 dIxP (mV 0) (m2 dAdd (mV 4) (mC (.int 1)))) (mCons (m2 dIxP (mV 0) (mV 4)) mNil)))) (mSl (mV 0) (oSome (m2 dAdd (mV 4) (mC (.int 2)))) oNone dSl))))
  sNil)
  (sRet (mFl (m2 dCat (mSl (mV 0) oNone (oSome (mV 4)) dSl) (mSl (mV 0) (oSome (m2 dAdd (mV 4) (mC (.int 2)))) oNone dSl)))))))
def F_threads_behind : FM := fM 3 5 sg_threads_behind.ks' m_threads_behind
theorem sc_threads_behind : FnScope N_threads_behind p_threads_behind (defScope s_threads_behind) := ⟨rfl, rfl, rfl, by decide +kernel, rfl, by decide +kernel, by decide +kernel⟩
theorem ok_threads_behind (G : Gs mg) {fa : Addr} {fd : FuncData} (F : FnP K "threads_behind" s_threads_behind fa fd) (hm : mg "threads_behind" = some (.ref fa)) : Has P w K mg base "threads_behind" 1 p_threads_behind sg_threads_behind F_threads_behind := by
  refine has_mk (k := 0) (n := 5) F hm sc_threads_behind rfl rfl (by decide) rfl (fun _ _ _ _ _ _ us hl => match us, hl with | [_, _, _], _ => rfl) fun cdv A outer s H E hr => ?_
  have hu := units_of hr
  exact (jb_cons (js_tgt (j_frz (κ := [some 0, some 0, some 0, none, none]) (i := 1) (k := 0) (pv 1) rfl rfl) (jg_tup (n := 2) rfl (jgs_cons (jg_name (i := 3) sc_threads_behind.nd rfl (by first | exact .inl rfl | exact .inr rfl) (.inl rfl)) (jgs_cons (jg_name (i := 4) sc_threads_behind.nd rfl (by first | exact .inl rfl | exact .inr rfl) (.inl rfl)) jgs_nil fun a b => pgs_cons a b) fun a b => pgs_cons a b) rfl rfl (gs_lenS (gs_lenS gs_len0))) rfl rfl rfl rfl)
    (jb_cons (js_if (κ1 := [some 0, some 0, some 0, some 0, some 0]) (κ2 := [some 0, some 0, some 0, some 0, some 0]) (JT.two_read (j_var (i := 3) (pv 3) rfl) (j_glS (z := "born") (rz := .own 99) (by rfl) G.BORN rfl) rfl (atOp dEq_a) fun a b => pt_cmpR (o_eq hu) a b (nomark _))
    (jb_one (js_ret (κ1 := [some 0, some 0, some 0, some 0, some 0]) (J.flat (k := 99) (j_catO (J.less (j := 0) (k := 1) (j_catO (J.less (j := 0) (k := 1) (j_slO (j_frz (κ := [some 0, some 0, some 0, some 0, some 0]) (i := 0) (k := 0) (pv 0) rfl rfl) jo_none (jo_some (j_var (i := 4) (pv 4) rfl))) (by decide)) (J.less (j := 0) (k := 99) (j_lst (k := 0) (k' := 99) (ja_cons (J.asAtom (z' := .own 99) (j_var (i := 2) (pv 2) rfl)) (ja_cons (J.two_read (rz := .own 99) (j_var (i := 2) (pv 2) rfl) (j_const (d := .int 1) (rz := .own 99) rfl pe_int) rfl (atOp dAdd_a) fun a b => pe_op o_add a b) ja_nil rfl rfl) rfl rfl) rfl (by decide)) (by decide)) fun a b => pe_op o_cat a b) (by decide)) (J.less (j := 0) (k := 1) (j_slO (j_frz (κ := [some 0, some 0, some 0, some 0, some 0]) (i := 0) (k := 0) (pv 0) rfl rfl) (jo_some (j_var (i := 4) (pv 4) rfl)) jo_none) (by decide)) fun a b => pe_op o_cat a b) (by decide)) rfl rfl))
    jb_nil)
    (jb_cons (js_if (κ1 := [some 0, some 0, some 0, some 0, some 0]) (κ2 := [some 0, some 0, some 0, some 0, some 0]) (JT.two_read (j_var (i := 3) (pv 3) rfl) (j_glS (z := "cross") (rz := .own 99) (by rfl) G.CROSS rfl) rfl (atOp dEq_a) fun a b => pt_cmpR (o_eq hu) a b (nomark _))
    (jb_one (js_ret (κ1 := [some 0, some 0, some 0, some 0, some 0]) (J.flat (k := 99) (j_catO (J.less (j := 0) (k := 1) (j_catO (J.less (j := 0) (k := 1) (j_slO (j_frz (κ := [some 0, some 0, some 0, some 0, some 0]) (i := 0) (k := 0) (pv 0) rfl rfl) jo_none (jo_some (j_var (i := 4) (pv 4) rfl))) (by decide)) (J.less (j := 0) (k := 1) (j_lst (k := 0) (k' := 1) (ja_cons (jp_frz (κ1 := [some 0, some 0, some 0, some 0, some 0]) (i := 0) (n := 1) (k := 0) (jp_ix (κ1 := [some 0, some 0, some 0, some 0, some 0]) (κ2 := [some 0, some 0, some 0, some 0, some 0]) (i := 0) (n := 0) (k := 0) hu (jp_var (i := 0) (k := 0) (pv 0) rfl) (J.two_read (rz := .own 99) (j_var (i := 4) (pv 4) rfl) (j_const (d := .int 1) (rz := .own 99) rfl pe_int) rfl (atOp dAdd_a) fun a b => pe_op o_add a b) (fun _ _ => rfl) rfl) rfl (by decide) rfl) (ja_cons (jp_frz (κ1 := [some 0, some 0, some 0, some 0, some 0]) (i := 0) (n := 1) (k := 0) (jp_ix (κ1 := [some 0, some 0, some 0, some 0, some 0]) (κ2 := [some 0, some 0, some 0, some 0, some 0]) (i := 0) (n := 0) (k := 0) hu (jp_var (i := 0) (k := 0) (pv 0) rfl) (j_var (i := 4) (pv 4) rfl) (fun _ _ => rfl) rfl) rfl (by decide) rfl) ja_nil rfl rfl) rfl rfl) rfl (by decide)) (by decide)) fun a b => pe_op o_cat a b) (by decide)) (J.less (j := 0) (k := 1) (j_slO (j_frz (κ := [some 0, some 0, some 0, some 0, some 0]) (i := 0) (k := 0) (pv 0) rfl rfl) (jo_some (J.two_read (rz := .own 99) (j_var (i := 4) (pv 4) rfl) (j_const (d := .int 2) (rz := .own 99) rfl pe_int) rfl (atOp dAdd_a) fun a b => pe_op o_add a b)) jo_none) (by decide)) fun a b => pe_op o_cat a b) (by decide)) rfl rfl))
    jb_nil)
    (jb_one (js_ret (κ1 := [some 0, some 0, some 0, some 0, some 0]) (J.flat (k := 99) (j_catO (J.less (j := 0) (k := 1) (j_slO (j_frz (κ := [some 0, some 0, some 0, some 0, some 0]) (i := 0) (k := 0) (pv 0) rfl rfl) jo_none (jo_some (j_var (i := 4) (pv 4) rfl))) (by decide)) (J.less (j := 0) (k := 1) (j_slO (j_frz (κ := [some 0, some 0, some 0, some 0, some 0]) (i := 0) (k := 0) (pv 0) rfl rfl) (jo_some (J.two_read (rz := .own 99) (j_var (i := 4) (pv 4) rfl) (j_const (d := .int 2) (rz := .own 99) rfl pe_int) rfl (atOp dAdd_a) fun a b => pe_op o_add a b)) jo_none) (by decide)) fun a b => pe_op o_cat a b) (by decide)) rfl rfl)))))
/-! threads -/
abbrev s_threads : Stmt := topS 8
abbrev N_threads : List Str := ["drawing", "found", "born", "letter"]
abbrev p_threads : List Str := ["drawing"]
abbrev sg_threads : Sg := ⟨[0], 99, [none]⟩
def b_threads_0 : SM := (sSeq (sApp 1 (mCall F_threads_behind (mCons (m2 dIx (mV 1) (mNeg (mC (.int 1)))) (mCons (mV 3) (mCons (mV 2) mNil)))))
  (sIf (m2 dEq (m2 dIx (mV 3) (mC (.int 0))) (mC (.str "born")))
  (sAug (fun i j => i + j) 2 (mC (.int 2)))
  sNil))
def m_threads : SM := (sSeq (sAsg 1 (mLst (mCons (mLst mNil) mNil)))
  (sSeq (sAsg 2 (mC (.int 0)))
  (sSeq (sFor (mSeq (mV 0)) (gNm 3)
  b_threads_0)
  (sRet (mV 1)))))
def F_threads : FM := fM 1 4 sg_threads.ks' m_threads
theorem sc_threads : FnScope N_threads p_threads (defScope s_threads) := ⟨rfl, rfl, rfl, by decide +kernel, rfl, by decide +kernel, by decide +kernel⟩
theorem ok_threads (G : Gs mg) (h_threads_behind : Has P w K mg base "threads_behind" 1 p_threads_behind sg_threads_behind F_threads_behind) {fa : Addr} {fd : FuncData} (F : FnP K "threads" s_threads fa fd) (hm : mg "threads" = some (.ref fa)) : Has P w K mg base "threads" 2 p_threads sg_threads F_threads := by
  refine has_mk (k := 1) (n := 4) F hm sc_threads rfl rfl (by decide) rfl (fun _ _ _ _ _ _ us hl => match us, hl with | [_], _ => rfl) fun cdv A outer s H E hr => ?_
  have hu := units_of hr
  exact (jb_cons (js_set (κ1 := [some 0, none, none, none]) (i := 1) (k := 99) (j_lst (k := 0) (k' := 99) (ja_cons (j_lst (k := 0) (k' := 99) ja_nil rfl (by decide)) ja_nil rfl rfl) rfl (by decide)) sc_threads.nd rfl (by first | exact .inl rfl | exact .inr rfl) rfl (.inl rfl) rfl)
    (jb_cons (js_set (κ1 := [some 0, some 99, none, none]) (i := 2) (k := 99) (j_const (d := .int 0) (rz := .own 99) rfl pe_int) sc_threads.nd rfl (by first | exact .inl rfl | exact .inr rfl) rfl (.inl rfl) rfl)
    (jb_cons (js_for (κ1 := [some 0, some 99, some 99, none]) PassesOwn.never rfl (ji_seq (j_frz (κ := [some 0, some 99, some 99, none]) (i := 0) (k := 0) (pv 0) rfl rfl)) (jg_name (i := 3) sc_threads.nd rfl (by first | exact .inl rfl | exact .inr rfl) (.inl rfl))
    (JB.weak (κ1 := [some 0, some 99, some 99, some 0]) (κn := [some 0, some 99, some 99, some 0]) (jb_cons (js_app (i := 1) (k := 99) (call_pure (n := 3) (r := 99) (rz := .own 99) (ja_cons (j_ix hu (j_var (i := 1) (pv 1) rfl) (j_neg (rz' := .own 99) (j_const (d := .int 1) (rz := .own 99) rfl pe_int)) rfl (fun _ _ => rfl)) (ja_cons (j_var (i := 3) (pv 3) rfl) (ja_cons (j_var (i := 2) (pv 2) rfl) ja_nil rfl rfl) rfl rfl) rfl rfl) rfl (fun _ _ _ => fM_len _ _ _) (fun h => has_call h_threads_behind hr (by decide) (by rfl) h (by rfl) (by rfl) (by rfl)) (.inr ⟨rfl, by decide⟩)) rfl rfl (by decide) (by exact Nat.le_of_ble_eq_true rfl) fun h => ps_expr (pe_bm PySem.F.plainAttrs_list PySem.F.slot_list_append PySem.F.type_list_append mt_append (pv 1) (pa_cons h pa_nil)))
    (jb_one (js_if (κ1 := [some 0, some 99, some 99, some 0]) (κ2 := [some 0, some 99, some 99, some 0]) (JT.two_read (j_ix hu (j_var (i := 3) (pv 3) rfl) (j_const (d := .int 0) (rz := .own 99) rfl pe_int) rfl (fun _ _ => rfl)) (j_glS (z := "born") (rz := .own 99) (by rfl) G.BORN rfl) rfl (atOp dEq_a) fun a b => pt_cmpR (o_eq hu) a b (nomark _))
    (jb_one (js_aug (κ1 := [some 0, some 99, some 99, some 0]) (f := fun i j => i + j) (i := 2) (j_const (d := .int 2) (rz := .own 99) rfl pe_int) rfl (by exact Nat.le_of_ble_eq_true rfl) rfl fun h => ps_aug sc_threads.nd rfl (by first | exact .inl rfl | exact .inr rfl) h ip_add))
    jb_nil))) rfl rfl rfl rfl) rfl (fun _ => rfl))
    (jb_one (js_ret (κ1 := [some 0, none, some 99, none]) (j_mov (κ := [some 0, some 99, some 99, none]) (i := 1) (k := 99) (pv 1) rfl) rfl rfl)))))
/-! thread_many -/
abbrev s_thread_many : Stmt := topS 9
abbrev N_thread_many : List Str := ["drawing"]
abbrev p_thread_many : List Str := ["drawing"]
abbrev sg_thread_many : Sg := ⟨[0], 99, [none]⟩
def m_thread_many : SM := (sRet (m2 dMul (mC (.int 2)) (mB fLen (mCons (mCall F_ends_of (mCons (mV 0) mNil)) mNil))))
def F_thread_many : FM := fM 1 1 sg_thread_many.ks' m_thread_many
theorem sc_thread_many : FnScope N_thread_many p_thread_many (defScope s_thread_many) := ⟨rfl, rfl, rfl, by decide +kernel, rfl, by decide +kernel, by decide +kernel⟩
theorem ok_thread_many (G : Gs mg) (h_ends_of : Has P w K mg base "ends_of" 2 p_ends_of sg_ends_of F_ends_of) {fa : Addr} {fd : FuncData} (F : FnP K "thread_many" s_thread_many fa fd) (hm : mg "thread_many" = some (.ref fa)) : Has P w K mg base "thread_many" 3 p_thread_many sg_thread_many F_thread_many := by
  refine has_mk (k := 2) (n := 1) F hm sc_thread_many rfl rfl (by decide) rfl (fun _ _ _ _ _ _ us hl => match us, hl with | [_], _ => rfl) fun cdv A outer s H E hr => ?_
  have hu := units_of hr
  exact (jb_one (js_ret (κ1 := [some 0]) (J.two_read (rz := .own 99) (j_const (d := .int 2) (rz := .own 99) rfl pe_int) (j_callA (rz := .own 99) (ja_cons (call_pure (n := 1) (r := 99) (rz := .rep) (ja_cons (j_var (i := 0) (pv 0) rfl) ja_nil rfl rfl) rfl (fun _ _ _ => fM_len _ _ _) (fun h => has_call h_ends_of hr (by decide) (by rfl) h (by rfl) (by rfl) (by rfl)) (.inl rfl)) ja_nil rfl rfl) rfl at_len fun h => pe_callB (CallR.en cr_len) (by rfl) G.len (by decide +kernel) h) rfl (atOp (dI_a fun _ _ => rfl)) fun a b => pe_op o_mul a b) rfl rfl))
/-! end_pairs -/
abbrev s_end_pairs : Stmt := topS 10
abbrev N_end_pairs : List Str := ["drawing", "rows", "t"]
abbrev p_end_pairs : List Str := ["drawing"]
abbrev sg_end_pairs : Sg := ⟨[0], 2, [none]⟩
def m_end_pairs : SM := (sSeq (sAsg 1 (mCall F_threads (mCons (mV 0) mNil)))
  (sRet (mLc (true && (true && true)) [2] (mSeq (mCall F_ends_of (mCons (mV 0) mNil))) (gNm 2) mYes (mTup (mCons (m2 dIxP (m2 dIxP (mV 1) (mV 2)) (m2 dIx (m2 dIx (mV 0) (mV 2)) (mC (.int 1)))) (mCons (m2 dIxP (m2 dIxP (mV 1) (mV 2)) (m2 dAdd (m2 dIx (m2 dIx (mV 0) (mV 2)) (mC (.int 1))) (mC (.int 1)))) mNil))))))
def F_end_pairs : FM := fM 1 3 sg_end_pairs.ks' m_end_pairs
theorem sc_end_pairs : FnScope N_end_pairs p_end_pairs (defScope s_end_pairs) := ⟨rfl, rfl, rfl, by decide +kernel, rfl, by decide +kernel, by decide +kernel⟩
theorem ok_end_pairs (G : Gs mg) (h_threads : Has P w K mg base "threads" 2 p_threads sg_threads F_threads) (h_ends_of : Has P w K mg base "ends_of" 2 p_ends_of sg_ends_of F_ends_of) {fa : Addr} {fd : FuncData} (F : FnP K "end_pairs" s_end_pairs fa fd) (hm : mg "end_pairs" = some (.ref fa)) : Has P w K mg base "end_pairs" 3 p_end_pairs sg_end_pairs F_end_pairs := by
  refine has_mk (k := 2) (n := 3) F hm sc_end_pairs rfl rfl (by decide) rfl (fun _ _ _ _ _ _ us hl => match us, hl with | [_], _ => rfl) fun cdv A outer s H E hr => ?_
  have hu := units_of hr
  exact (jb_cons (js_set (κ1 := [some 0, none, none]) (i := 1) (k := 99) (call_pure (n := 1) (r := 99) (rz := .own 99) (ja_cons (j_var (i := 0) (pv 0) rfl) ja_nil rfl rfl) rfl (fun _ _ _ => fM_len _ _ _) (fun h => has_call h_threads hr (by decide) (by rfl) h (by rfl) (by rfl) (by rfl)) (.inr ⟨rfl, by decide⟩)) sc_end_pairs.nd rfl (by first | exact .inl rfl | exact .inr rfl) rfl (.inl rfl) rfl)
    (jb_one (JS.weak (κ1 := [some 0, some 2, none]) (κn := [none, none, none]) (κn' := [none, none, none]) (js_ret (κ1 := [some 0, some 2, none]) (j_lc (k := 2) (own := [("t", 2)]) rfl sc_end_pairs.nd (ji_seq (J.less (j := 0) (k := 99) (call_pure (n := 1) (r := 99) (rz := .own 99) (ja_cons (j_var (i := 0) (pv 0) rfl) ja_nil rfl rfl) rfl (fun _ _ _ => fM_len _ _ _) (fun h => has_call h_ends_of hr (by decide) (by rfl) h (by rfl) (by rfl) (by rfl)) (.inr ⟨rfl, by decide⟩)) (by decide))) (blkOk_by (N := N_end_pairs) (sc := defScope s_end_pairs) (own := [("t", 2)]) (by decide +kernel)) (fun _ _ _ _ _ => (jg_name (i := 2) sc_end_pairs.nd rfl (by first | exact .inl rfl | exact .inr rfl) (by first | exact .inr rfl | exact .inl rfl))) (fun _ _ _ _ _ => jts_nil) (fun _ _ _ _ _ => (j_tup (k' := 1) (ja_cons (jp_frz (κ1 := [some 0, some 2, some 0]) (i := 1) (n := 2) (k := 2) (jp_ix (κ1 := [some 0, some 2, some 0]) (κ2 := [some 0, some 2, some 0]) (i := 1) (n := 1) (k := 2) hu (jp_ix (κ1 := [some 0, some 2, some 0]) (κ2 := [some 0, some 2, some 0]) (i := 1) (n := 0) (k := 2) hu (jp_var (i := 1) (k := 2) (pv 1) rfl) (j_var (i := 2) (pv 2) rfl) (fun _ _ => rfl) rfl) (j_ix hu (j_ix hu (j_var (i := 0) (pv 0) rfl) (j_var (i := 2) (pv 2) rfl) rfl (fun _ _ => rfl)) (j_const (d := .int 1) (rz := .own 99) rfl pe_int) rfl (fun _ _ => rfl)) (fun _ _ => rfl) rfl) rfl (by decide) rfl) (ja_cons (jp_frz (κ1 := [some 0, some 2, some 0]) (i := 1) (n := 2) (k := 2) (jp_ix (κ1 := [some 0, some 2, some 0]) (κ2 := [some 0, some 2, some 0]) (i := 1) (n := 1) (k := 2) hu (jp_ix (κ1 := [some 0, some 2, some 0]) (κ2 := [some 0, some 2, some 0]) (i := 1) (n := 0) (k := 2) hu (jp_var (i := 1) (k := 2) (pv 1) rfl) (j_var (i := 2) (pv 2) rfl) (fun _ _ => rfl) rfl) (J.two_read (rz := .own 99) (j_ix hu (j_ix hu (j_var (i := 0) (pv 0) rfl) (j_var (i := 2) (pv 2) rfl) rfl (fun _ _ => rfl)) (j_const (d := .int 1) (rz := .own 99) rfl pe_int) rfl (fun _ _ => rfl)) (j_const (d := .int 1) (rz := .own 99) rfl pe_int) rfl (atOp dAdd_a) fun a b => pe_op o_add a b) (fun _ _ => rfl) rfl) rfl (by decide) rfl) ja_nil rfl rfl) rfl rfl) rfl)) (fun _ => rfl) (by decide) rfl rfl rfl rfl rfl) rfl rfl) rfl rfl rfl rfl)))
/-! end_mates -/
abbrev s_end_mates : Stmt := topS 11
abbrev N_end_mates : List Str := ["drawing", "found", "upper", "lower"]
abbrev p_end_mates : List Str := ["drawing"]
abbrev sg_end_mates : Sg := ⟨[0], 1, [none]⟩
def b_end_mates_0 : SM := (sSeq (sPut 1 (mTup (mCons (mA (mV 3)) (mCons (mC (.bl true)) mNil))) (mV 2))
  (sPut 1 (mTup (mCons (mA (mV 2)) (mCons (mC (.bl false)) mNil))) (mV 3)))
def m_end_mates : SM := (sSeq (sAsg 1 (mD (.K [])))
  (sSeq (sFor (mSeq (mCallO F_end_pairs (none) (mCons (mV 0) mNil))) (gTp (gsCons (gNm 2) (gsCons (gNm 3) gsNil)))
  b_end_mates_0)
  (sRet (mV 1))))
def F_end_mates : FM := fM 1 4 sg_end_mates.ks' m_end_mates
theorem sc_end_mates : FnScope N_end_mates p_end_mates (defScope s_end_mates) := ⟨rfl, rfl, rfl, by decide +kernel, rfl, by decide +kernel, by decide +kernel⟩
theorem ok_end_mates (G : Gs mg) (h_end_pairs : Has P w K mg base "end_pairs" 3 p_end_pairs sg_end_pairs F_end_pairs) {fa : Addr} {fd : FuncData} (F : FnP K "end_mates" s_end_mates fa fd) (hm : mg "end_mates" = some (.ref fa)) : Has P w K mg base "end_mates" 4 p_end_mates sg_end_mates F_end_mates := by
  refine has_mk (k := 3) (n := 4) F hm sc_end_mates rfl rfl (by decide) rfl (fun _ _ _ _ _ _ us hl => match us, hl with | [_], _ => rfl) fun cdv A outer s H E hr => ?_
  have hu := units_of hr
  exact (jb_cons (js_set (κ1 := [some 0, none, none, none]) (i := 1) (k := 99) (j_dnew (t' := false) (k' := 99) (by decide)) sc_end_mates.nd rfl (by first | exact .inl rfl | exact .inr rfl) rfl (.inl rfl) rfl)
    (jb_cons (JS.weak (κ1 := [some 0, some 1, none, none]) (κn := [some 0, some 1, none, none]) (κn' := [some 0, some 1, none, none]) (js_for (κ1 := [some 0, some 1, none, none]) PassesOwn.never rfl (ji_seq (J.less (j := 0) (k := 2) (call_own (sg := sg_end_pairs) (io := none) (ja_cons (j_frz (κ := [some 0, some 1, none, none]) (i := 0) (k := 0) (pv 0) rfl rfl) ja_nil rfl rfl) rfl rfl rfl (fun _ _ _ h => (fM_len _ _ _ h).2.trans (fM_len _ _ _ h).1.symm) (fun h => has_call h_end_pairs hr (by decide) (by rfl) h (by rfl) (by rfl) (by rfl))) (by decide))) (jg_tup (n := 2) rfl (jgs_cons (jg_name (i := 2) sc_end_mates.nd rfl (by first | exact .inl rfl | exact .inr rfl) (.inl rfl)) (jgs_cons (jg_name (i := 3) sc_end_mates.nd rfl (by first | exact .inl rfl | exact .inr rfl) (.inl rfl)) jgs_nil fun a b => pgs_cons a b) fun a b => pgs_cons a b) rfl rfl (gs_lenS (gs_lenS gs_len0)))
    (JB.weak (κ1 := [some 0, some 1, some 0, some 0]) (κn := [some 0, some 1, some 0, some 0]) (jb_cons (js_put (κ1 := [some 0, some 1, some 0, some 0]) (i := 1) (k1 := 1) hu (J.less (j := 0) (k := 99) (j_tup (k' := 99) (ja_cons (J.asAtom (z' := .own 99) (j_var (i := 3) (pv 3) rfl)) (ja_cons (j_const (d := .bl true) (rz := .own 99) rfl pe_bl) ja_nil rfl rfl) rfl rfl) rfl) (by decide)) (pv 1) (j_var (i := 2) (pv 2) rfl) rfl rfl rfl)
    (jb_one (js_put (κ1 := [some 0, some 1, some 0, some 0]) (i := 1) (k1 := 1) hu (J.less (j := 0) (k := 99) (j_tup (k' := 99) (ja_cons (J.asAtom (z' := .own 99) (j_var (i := 2) (pv 2) rfl)) (ja_cons (j_const (d := .bl false) (rz := .own 99) rfl pe_bl) ja_nil rfl rfl) rfl rfl) rfl) (by decide)) (pv 1) (j_var (i := 3) (pv 3) rfl) rfl rfl rfl))) rfl rfl rfl rfl) rfl (fun _ => rfl)) rfl rfl rfl rfl)
    (jb_one (js_ret (κ1 := [some 0, none, none, none]) (j_mov (κ := [some 0, some 1, none, none]) (i := 1) (k := 1) (pv 1) rfl) rfl rfl))))
/-! birth_mate -/
abbrev s_birth_mate : Stmt := topS 12
abbrev N_birth_mate : List Str := ["thread"]
abbrev p_birth_mate : List Str := ["thread"]
abbrev sg_birth_mate : Sg := ⟨[0], 99, [none]⟩
def m_birth_mate : SM := (sSeq (sIf (m2 dEq (m2 dMod (mV 0) (mC (.int 2))) (mC (.int 0)))
  (sRet (mTup (mCons (m2 dAdd (mV 0) (mC (.int 1))) (mCons (mC (.bl true)) mNil))))
  sNil)
  (sRet (mTup (mCons (m2 dSub (mV 0) (mC (.int 1))) (mCons (mC (.bl false)) mNil)))))
def F_birth_mate : FM := fM 1 1 sg_birth_mate.ks' m_birth_mate
theorem sc_birth_mate : FnScope N_birth_mate p_birth_mate (defScope s_birth_mate) := ⟨rfl, rfl, rfl, by decide +kernel, rfl, by decide +kernel, by decide +kernel⟩
theorem ok_birth_mate (G : Gs mg) {fa : Addr} {fd : FuncData} (F : FnP K "birth_mate" s_birth_mate fa fd) (hm : mg "birth_mate" = some (.ref fa)) : Has P w K mg base "birth_mate" 1 p_birth_mate sg_birth_mate F_birth_mate := by
  refine has_mk (k := 0) (n := 1) F hm sc_birth_mate rfl rfl (by decide) rfl (fun _ _ _ _ _ _ us hl => match us, hl with | [_], _ => rfl) fun cdv A outer s H E hr => ?_
  have hu := units_of hr
  exact (jb_cons (js_if (κ1 := [some 0]) (κ2 := [some 0]) (JT.two_read (J.two_read (rz := .own 99) (j_var (i := 0) (pv 0) rfl) (j_const (d := .int 2) (rz := .own 99) rfl pe_int) rfl (atOp (dI_a fun _ _ => rfl)) fun a b => pe_op o_mod a b) (j_const (d := .int 0) (rz := .own 99) rfl pe_int) rfl (atOp dEq_a) fun a b => pt_cmpR (o_eq hu) a b (nomark _))
    (jb_one (js_ret (κ1 := [some 0]) (j_tup (k' := 99) (ja_cons (J.two_read (rz := .own 99) (j_var (i := 0) (pv 0) rfl) (j_const (d := .int 1) (rz := .own 99) rfl pe_int) rfl (atOp dAdd_a) fun a b => pe_op o_add a b) (ja_cons (j_const (d := .bl true) (rz := .own 99) rfl pe_bl) ja_nil rfl rfl) rfl rfl) rfl) rfl rfl))
    jb_nil)
    (jb_one (js_ret (κ1 := [some 0]) (j_tup (k' := 99) (ja_cons (J.two_read (rz := .own 99) (j_var (i := 0) (pv 0) rfl) (j_const (d := .int 1) (rz := .own 99) rfl pe_int) rfl (atOp (dI_a fun _ _ => rfl)) fun a b => pe_op o_sub a b) (ja_cons (j_const (d := .bl false) (rz := .own 99) rfl pe_bl) ja_nil rfl rfl) rfl rfl) rfl) rfl rfl)))
/-! gone_along -/
abbrev s_gone_along : Stmt := topS 13
abbrev N_gone_along : List Str := ["mates", "start", "found", "steps", "here", "there", "down", "back", "further"]
abbrev p_gone_along : List Str := ["mates", "start"]
abbrev sg_gone_along : Sg := ⟨[0, 0], 2, [none, none]⟩
def b_gone_along_0 : SM := (sSeq (sTgt (m2 dIxP (mV 0) (mV 4)) (gTp (gsCons (gNm 5) (gsCons (gNm 6) gsNil))))
  (sSeq (sTgt (mCall F_birth_mate (mCons (mV 5) mNil)) (gTp (gsCons (gNm 7) (gsCons (gNm 8) gsNil))))
  (sSeq (sExp (mMut 2 fExt (mCons (mLst (mCons (mA (mV 4)) (mCons (mV 5) mNil))) mNil)))
  (sSeq (sExp (mMut 3 fExt (mCons (mLst (mCons (mV 6) (mCons (mV 8) mNil))) mNil)))
  (sAsg 4 (mV 7))))))
def m_gone_along : SM := (sSeq (sAsg 2 (mLst mNil))
  (sSeq (sAsg 3 (mLst mNil))
  (sSeq (sAsg 4 (mV 1))
  (sSeq (sWhile (mOr (m2 dNe (mV 4) (mV 1)) (m2 dEq (mB fLen (mCons (mV 2) mNil)) (mC (.int 0))))
  b_gone_along_0)
  (sRet (mTup (mCons (mV 2) (mCons (mV 3) mNil))))))))
def F_gone_along : FM := fM 2 9 sg_gone_along.ks' m_gone_along
theorem sc_gone_along : FnScope N_gone_along p_gone_along (defScope s_gone_along) := ⟨rfl, rfl, rfl, by decide +kernel, rfl, by decide +kernel, by decide +kernel⟩
theorem ok_gone_along (G : Gs mg) (h_birth_mate : Has P w K mg base "birth_mate" 1 p_birth_mate sg_birth_mate F_birth_mate) {fa : Addr} {fd : FuncData} (F : FnP K "gone_along" s_gone_along fa fd) (hm : mg "gone_along" = some (.ref fa)) : Has P w K mg base "gone_along" 2 p_gone_along sg_gone_along F_gone_along := by
  refine has_mk (k := 1) (n := 9) F hm sc_gone_along rfl rfl (by decide) rfl (fun _ _ _ _ _ _ us hl => match us, hl with | [_, _], _ => rfl) fun cdv A outer s H E hr => ?_
  have hu := units_of hr
  exact (jb_cons (js_set (κ1 := [some 0, some 0, none, none, none, none, none, none, none]) (i := 2) (k := 99) (j_lst (k := 0) (k' := 99) ja_nil rfl (by decide)) sc_gone_along.nd rfl (by first | exact .inl rfl | exact .inr rfl) rfl (.inl rfl) rfl)
    (jb_cons (js_set (κ1 := [some 0, some 0, some 99, none, none, none, none, none, none]) (i := 3) (k := 99) (j_lst (k := 0) (k' := 99) ja_nil rfl (by decide)) sc_gone_along.nd rfl (by first | exact .inl rfl | exact .inr rfl) rfl (.inl rfl) rfl)
    (jb_cons (js_set (κ1 := [some 0, some 0, some 99, some 99, none, none, none, none, none]) (i := 4) (k := 0) (j_frz (κ := [some 0, some 0, some 99, some 99, none, none, none, none, none]) (i := 1) (k := 0) (pv 1) rfl rfl) sc_gone_along.nd rfl (by first | exact .inl rfl | exact .inr rfl) rfl (.inl rfl) rfl)
    (jb_cons (JS.weak (κ1 := [some 0, some 0, some 1, some 1, some 0, none, none, none, none]) (κn := [some 0, some 0, some 1, some 1, some 0, none, none, none, none]) (κn' := [some 0, some 0, some 1, some 1, some 0, none, none, none, none]) (js_while PassesOwn.never (JW.jt (jw_or (JT.two_read (j_var (i := 4) (pv 4) rfl) (j_var (i := 1) (pv 1) rfl) rfl (atOp dNe_a) fun a b => pt_cmpR (o_ne hu) a b (nomark _)) (jw_or1 (JT.two_read (j_callA (rz := .own 99) (ja_cons (j_var (i := 2) (pv 2) rfl) ja_nil rfl rfl) rfl at_len fun h => pe_callB (CallR.en cr_len) (by rfl) G.len (by decide +kernel) h) (j_const (d := .int 0) (rz := .own 99) rfl pe_int) rfl (atOp dEq_a) fun a b => pt_cmpR (o_eq hu) a b (nomark _))) rfl rfl))
    (JB.weak (κ1 := [some 0, some 0, some 1, some 1, some 0, none, none, none, none]) (κn := [some 0, some 0, some 1, some 1, some 0, some 0, some 0, some 0, some 0]) (jb_cons (js_tgt (jp_frz (κ1 := [some 0, some 0, some 1, some 1, some 0, none, none, none, none]) (i := 0) (n := 1) (k := 0) (jp_ix (κ1 := [some 0, some 0, some 1, some 1, some 0, none, none, none, none]) (κ2 := [some 0, some 0, some 1, some 1, some 0, none, none, none, none]) (i := 0) (n := 0) (k := 0) hu (jp_var (i := 0) (k := 0) (pv 0) rfl) (j_var (i := 4) (pv 4) rfl) (fun _ _ => rfl) rfl) rfl (by decide) rfl) (jg_tup (n := 2) rfl (jgs_cons (jg_name (i := 5) sc_gone_along.nd rfl (by first | exact .inl rfl | exact .inr rfl) (.inl rfl)) (jgs_cons (jg_name (i := 6) sc_gone_along.nd rfl (by first | exact .inl rfl | exact .inr rfl) (.inl rfl)) jgs_nil fun a b => pgs_cons a b) fun a b => pgs_cons a b) rfl rfl (gs_lenS (gs_lenS gs_len0))) rfl rfl rfl rfl)
    (jb_cons (js_tgt (J.less (j := 0) (k := 99) (call_pure (n := 1) (r := 99) (rz := .own 99) (ja_cons (j_var (i := 5) (pv 5) rfl) ja_nil rfl rfl) rfl (fun _ _ _ => fM_len _ _ _) (fun h => has_call h_birth_mate hr (by decide) (by rfl) h (by rfl) (by rfl) (by rfl)) (.inr ⟨rfl, by decide⟩)) (by decide)) (jg_tup (n := 2) rfl (jgs_cons (jg_name (i := 7) sc_gone_along.nd rfl (by first | exact .inl rfl | exact .inr rfl) (.inl rfl)) (jgs_cons (jg_name (i := 8) sc_gone_along.nd rfl (by first | exact .inl rfl | exact .inr rfl) (.inl rfl)) jgs_nil fun a b => pgs_cons a b) fun a b => pgs_cons a b) rfl rfl (gs_lenS (gs_lenS gs_len0))) rfl rfl rfl rfl)
    (jb_cons (js_exp (j_mut (κ1 := [some 0, some 0, some 1, some 1, some 0, some 0, some 0, some 0, some 0]) (i := 2) (k0 := 1) (ja_cons (J.less (j := 0) (k := 1) (j_lst (k := 0) (k' := 1) (ja_cons (J.less (j := 0) (k := 99) (J.asAtom (z' := .own 99) (j_var (i := 4) (pv 4) rfl)) (by decide)) (ja_cons (j_frz (κ := [some 0, some 0, some 1, some 1, some 0, some 0, some 0, some 0, some 0]) (i := 5) (k := 0) (pv 5) rfl rfl) ja_nil rfl rfl) rfl rfl) rfl (by decide)) (by decide)) ja_nil rfl rfl) rfl rfl rfl u_ext fun h => pe_bm PySem.F.plainAttrs_list PySem.F.slot_list_extend PySem.F.type_list_extend mt_extend (pv 2) h) rfl)
    (jb_cons (js_exp (j_mut (κ1 := [some 0, some 0, some 1, some 1, some 0, some 0, some 0, some 0, some 0]) (i := 3) (k0 := 1) (ja_cons (J.less (j := 0) (k := 1) (j_lst (k := 0) (k' := 1) (ja_cons (j_frz (κ := [some 0, some 0, some 1, some 1, some 0, some 0, some 0, some 0, some 0]) (i := 6) (k := 0) (pv 6) rfl rfl) (ja_cons (j_frz (κ := [some 0, some 0, some 1, some 1, some 0, some 0, some 0, some 0, some 0]) (i := 8) (k := 0) (pv 8) rfl rfl) ja_nil rfl rfl) rfl rfl) rfl (by decide)) (by decide)) ja_nil rfl rfl) rfl rfl rfl u_ext fun h => pe_bm PySem.F.plainAttrs_list PySem.F.slot_list_extend PySem.F.type_list_extend mt_extend (pv 3) h) rfl)
    (jb_one (js_set (κ1 := [some 0, some 0, some 1, some 1, some 0, some 0, some 0, some 0, some 0]) (i := 4) (k := 0) (j_frz (κ := [some 0, some 0, some 1, some 1, some 0, some 0, some 0, some 0, some 0]) (i := 7) (k := 0) (pv 7) rfl rfl) sc_gone_along.nd rfl (by first | exact .inl rfl | exact .inr rfl) rfl (.inl rfl) rfl)))))) rfl rfl rfl rfl)) rfl rfl rfl rfl)
    (jb_one (js_ret (κ1 := [some 0, some 0, none, none, some 0, none, none, none, none]) (j_tup (k' := 2) (ja_cons (j_mov (κ := [some 0, some 0, some 1, some 1, some 0, none, none, none, none]) (i := 2) (k := 1) (pv 2) rfl) (ja_cons (j_mov (κ := [some 0, some 0, none, some 1, some 0, none, none, none, none]) (i := 3) (k := 1) (pv 3) rfl) ja_nil rfl rfl) rfl rfl) rfl) rfl rfl))))))
/-! piece_walks -/
abbrev s_piece_walks : Stmt := topS 14
abbrev N_piece_walks : List Str := ["drawing", "mates", "found", "seen", "thread", "walk", "one"]
abbrev p_piece_walks : List Str := ["drawing"]
abbrev sg_piece_walks : Sg := ⟨[0], 1, [none]⟩
def b_piece_walks_0 : SM := (sPut 3 (mC (.bl true)) (mV 6))
def b_piece_walks_1 : SM := (sIf (m2 dNi (mV 4) (mV 3))
  (sSeq (sAsg 5 (mCallO F_gone_along (none) (mCons (mV 1) (mCons (mA (mV 4)) mNil))))
  (sSeq (sApp 2 (mV 5))
  (sFor (mSeq (m2 dIxP (mV 5) (mC (.int 0)))) (gNm 6)
  b_piece_walks_0)))
  sNil)
def m_piece_walks : SM := (sSeq (sAsg 1 (mCallO F_end_mates (none) (mCons (mV 0) mNil)))
  (sSeq (sAsg 2 (mLst mNil))
  (sSeq (sAsg 3 (mD (.K [])))
  (sSeq (sFor (mRng1 (mCons (mCall F_thread_many (mCons (mV 0) mNil)) mNil)) (gNm 4)
  b_piece_walks_1)
  (sRet (mV 2))))))
def F_piece_walks : FM := fM 1 7 sg_piece_walks.ks' m_piece_walks
theorem sc_piece_walks : FnScope N_piece_walks p_piece_walks (defScope s_piece_walks) := ⟨rfl, rfl, rfl, by decide +kernel, rfl, by decide +kernel, by decide +kernel⟩
theorem ok_piece_walks (G : Gs mg) (h_end_mates : Has P w K mg base "end_mates" 4 p_end_mates sg_end_mates F_end_mates) (h_thread_many : Has P w K mg base "thread_many" 3 p_thread_many sg_thread_many F_thread_many) (h_gone_along : Has P w K mg base "gone_along" 2 p_gone_along sg_gone_along F_gone_along) {fa : Addr} {fd : FuncData} (F : FnP K "piece_walks" s_piece_walks fa fd) (hm : mg "piece_walks" = some (.ref fa)) : Has P w K mg base "piece_walks" 5 p_piece_walks sg_piece_walks F_piece_walks := by
  refine has_mk (k := 4) (n := 7) F hm sc_piece_walks rfl rfl (by decide) rfl (fun _ _ _ _ _ _ us hl => match us, hl with | [_], _ => rfl) fun cdv A outer s H E hr => ?_
  have hu := units_of hr
  exact (jb_cons (js_set (κ1 := [some 0, none, none, none, none, none, none]) (i := 1) (k := 1) (call_own (sg := sg_end_mates) (io := none) (ja_cons (j_frz (κ := [some 0, none, none, none, none, none, none]) (i := 0) (k := 0) (pv 0) rfl rfl) ja_nil rfl rfl) rfl rfl rfl (fun _ _ _ h => (fM_len _ _ _ h).2.trans (fM_len _ _ _ h).1.symm) (fun h => has_call h_end_mates hr (by decide) (by rfl) h (by rfl) (by rfl) (by rfl))) sc_piece_walks.nd rfl (by first | exact .inl rfl | exact .inr rfl) rfl (.inl rfl) rfl)
    (jb_cons (js_set (κ1 := [some 0, some 1, none, none, none, none, none]) (i := 2) (k := 99) (j_lst (k := 0) (k' := 99) ja_nil rfl (by decide)) sc_piece_walks.nd rfl (by first | exact .inl rfl | exact .inr rfl) rfl (.inl rfl) rfl)
    (jb_cons (js_set (κ1 := [some 0, some 1, some 99, none, none, none, none]) (i := 3) (k := 99) (j_dnew (t' := false) (k' := 99) (by decide)) sc_piece_walks.nd rfl (by first | exact .inl rfl | exact .inr rfl) rfl (.inl rfl) rfl)
    (jb_cons (JS.weak (κ1 := [some 0, some 0, some 1, some 1, none, none, none]) (κn := [some 0, some 0, some 1, some 1, none, none, none]) (κn' := [some 0, some 0, some 1, some 1, none, none, none]) (js_for (κ1 := [some 0, some 0, some 1, some 1, none, none, none]) PassesOwn.never rfl (ji_range1 (ja_cons (call_pure (n := 1) (r := 99) (rz := .rep) (ja_cons (j_var (i := 0) (pv 0) rfl) ja_nil rfl rfl) rfl (fun _ _ _ => fM_len _ _ _) (fun h => has_call h_thread_many hr (by decide) (by rfl) h (by rfl) (by rfl) (by rfl)) (.inl rfl)) ja_nil rfl rfl) rfl (by rfl) G.range rfl) (jg_name (i := 4) sc_piece_walks.nd rfl (by first | exact .inl rfl | exact .inr rfl) (.inl rfl))
    (JB.weak (κ1 := [some 0, some 0, some 1, some 1, some 0, none, none]) (κn := [some 0, some 0, some 1, some 1, some 0, none, none]) (jb_one (js_if (κ1 := [some 0, some 0, some 1, some 1, some 0, none, none]) (κ2 := [some 0, some 0, some 1, some 1, some 0, none, none]) (JT.two_read (j_var (i := 4) (pv 4) rfl) (j_var (i := 3) (pv 3) rfl) rfl (atOp fun _ _ _ => dInG_a _ _ _) fun a b => pt_cmpR (o_ni hu) a b (by with_unfolding_all rfl))
    (JB.weak (κ1 := [some 0, some 0, some 1, some 1, some 0, none, none]) (κn := [some 0, some 0, some 1, some 1, some 0, some 0, none]) (jb_cons (js_set (κ1 := [some 0, some 0, some 1, some 1, some 0, none, none]) (i := 5) (k := 2) (call_own (sg := sg_gone_along) (io := none) (ja_cons (j_frz (κ := [some 0, some 0, some 1, some 1, some 0, none, none]) (i := 1) (k := 0) (pv 1) rfl rfl) (ja_cons (J.less (j := 0) (k := 99) (J.asAtom (z' := .own 99) (j_var (i := 4) (pv 4) rfl)) (by decide)) ja_nil rfl rfl) rfl rfl) rfl rfl rfl (fun _ _ _ h => (fM_len _ _ _ h).2.trans (fM_len _ _ _ h).1.symm) (fun h => has_call h_gone_along hr (by decide) (by rfl) h (by rfl) (by rfl) (by rfl))) sc_piece_walks.nd rfl (by first | exact .inl rfl | exact .inr rfl) rfl (.inl rfl) rfl)
    (jb_cons (js_app (i := 2) (k := 1) (j_frz (κ := [some 0, some 0, some 1, some 1, some 0, some 2, none]) (i := 5) (k := 2) (pv 5) rfl rfl) rfl rfl (by decide) (by exact Nat.le_of_ble_eq_true rfl) fun h => ps_expr (pe_bm PySem.F.plainAttrs_list PySem.F.slot_list_append PySem.F.type_list_append mt_append (pv 2) (pa_cons h pa_nil)))
    (jb_one (js_for (κ1 := [some 0, some 0, some 1, some 1, some 0, some 0, none]) PassesOwn.never rfl (ji_seq (jp_frz (κ1 := [some 0, some 0, some 1, some 1, some 0, some 0, none]) (i := 5) (n := 1) (k := 0) (jp_ix (κ1 := [some 0, some 0, some 1, some 1, some 0, some 0, none]) (κ2 := [some 0, some 0, some 1, some 1, some 0, some 0, none]) (i := 5) (n := 0) (k := 0) hu (jp_var (i := 5) (k := 0) (pv 5) rfl) (j_const (d := .int 0) (rz := .own 99) rfl pe_int) (fun _ _ => rfl) rfl) rfl (by decide) rfl)) (jg_name (i := 6) sc_piece_walks.nd rfl (by first | exact .inl rfl | exact .inr rfl) (.inl rfl))
    (JB.weak (κ1 := [some 0, some 0, some 1, some 1, some 0, some 0, some 0]) (κn := [some 0, some 0, some 1, some 1, some 0, some 0, some 0]) (jb_one (js_put (κ1 := [some 0, some 0, some 1, some 1, some 0, some 0, some 0]) (i := 3) (k1 := 1) hu (J.less (j := 0) (k := 99) (j_const (d := .bl true) (rz := .own 99) rfl pe_bl) (by decide)) (pv 3) (j_var (i := 6) (pv 6) rfl) rfl rfl rfl)) rfl rfl rfl rfl) rfl (fun _ => rfl))))) rfl rfl rfl rfl)
    jb_nil)) rfl rfl rfl rfl) rfl (fun _ => rfl)) rfl rfl rfl rfl)
    (jb_one (js_ret (κ1 := [some 0, some 0, none, some 1, none, none, none]) (j_mov (κ := [some 0, some 0, some 1, some 1, none, none, none]) (i := 2) (k := 1) (pv 2) rfl) rfl rfl))))))
/-! pieces -/
abbrev s_pieces : Stmt := topS 15
abbrev N_pieces : List Str := ["drawing", "found", "piece", "walk", "thread"]
abbrev p_pieces : List Str := ["drawing"]
abbrev sg_pieces : Sg := ⟨[0], 1, [none]⟩
def b_pieces_0 : SM := (sSet 1 (mA (mV 2)) (mV 4))
def b_pieces_1 : SM := (sFor (mSeq (m2 dIxP (mV 3) (mC (.int 0)))) (gNm 4)
  b_pieces_0)
def m_pieces : SM := (sSeq (sAsg 1 (m2 dRep (mLst (mCons (mC (.int 0)) mNil)) (mCall F_thread_many (mCons (mV 0) mNil))))
  (sSeq (sFor (mEnum (mCons (mCallO F_piece_walks (none) (mCons (mV 0) mNil)) mNil)) (gTp (gsCons (gNm 2) (gsCons (gNm 3) gsNil)))
  b_pieces_1)
  (sRet (mV 1))))
def F_pieces : FM := fM 1 5 sg_pieces.ks' m_pieces
theorem sc_pieces : FnScope N_pieces p_pieces (defScope s_pieces) := ⟨rfl, rfl, rfl, by decide +kernel, rfl, by decide +kernel, by decide +kernel⟩
theorem ok_pieces (G : Gs mg) (h_thread_many : Has P w K mg base "thread_many" 3 p_thread_many sg_thread_many F_thread_many) (h_piece_walks : Has P w K mg base "piece_walks" 5 p_piece_walks sg_piece_walks F_piece_walks) {fa : Addr} {fd : FuncData} (F : FnP K "pieces" s_pieces fa fd) (hm : mg "pieces" = some (.ref fa)) : Has P w K mg base "pieces" 6 p_pieces sg_pieces F_pieces := by
  refine has_mk (k := 5) (n := 5) F hm sc_pieces rfl rfl (by decide) rfl (fun _ _ _ _ _ _ us hl => match us, hl with | [_], _ => rfl) fun cdv A outer s H E hr => ?_
  have hu := units_of hr
  exact (jb_cons (js_set (κ1 := [some 0, none, none, none, none]) (i := 1) (k := 1) (j_repO (J.less (j := 0) (k := 99) (j_lst (k := 0) (k' := 99) (ja_cons (j_const (d := .int 0) (rz := .own 99) rfl pe_int) ja_nil rfl rfl) rfl (by decide)) (by decide)) (J.less (j := 0) (k := 99) (call_pure (n := 1) (r := 99) (rz := .own 99) (ja_cons (j_var (i := 0) (pv 0) rfl) ja_nil rfl rfl) rfl (fun _ _ _ => fM_len _ _ _) (fun h => has_call h_thread_many hr (by decide) (by rfl) h (by rfl) (by rfl) (by rfl)) (.inr ⟨rfl, by decide⟩)) (by decide)) fun a b => pe_op op_rep a b) sc_pieces.nd rfl (by first | exact .inl rfl | exact .inr rfl) rfl (.inl rfl) rfl)
    (jb_cons (js_for (κ1 := [some 0, some 1, none, none, none]) PassesOwn.never rfl (ji_enum (ja_cons (J.less (j := 0) (k := 1) (call_own (sg := sg_piece_walks) (io := none) (ja_cons (j_frz (κ := [some 0, some 1, none, none, none]) (i := 0) (k := 0) (pv 0) rfl rfl) ja_nil rfl rfl) rfl rfl rfl (fun _ _ _ h => (fM_len _ _ _ h).2.trans (fM_len _ _ _ h).1.symm) (fun h => has_call h_piece_walks hr (by decide) (by rfl) h (by rfl) (by rfl) (by rfl))) (by decide)) ja_nil rfl rfl) (by rfl) G.enumerate rfl) (jg_tup (n := 2) rfl (jgs_cons (jg_name (i := 2) sc_pieces.nd rfl (by first | exact .inl rfl | exact .inr rfl) (.inl rfl)) (jgs_cons (jg_name (i := 3) sc_pieces.nd rfl (by first | exact .inl rfl | exact .inr rfl) (.inl rfl)) jgs_nil fun a b => pgs_cons a b) fun a b => pgs_cons a b) rfl rfl (gs_lenS (gs_lenS gs_len0)))
    (JB.weak (κ1 := [some 0, some 1, some 0, some 0, none]) (κn := [some 0, some 1, some 0, some 0, none]) (jb_one (js_for (κ1 := [some 0, some 1, some 0, some 0, none]) PassesOwn.never rfl (ji_seq (jp_frz (κ1 := [some 0, some 1, some 0, some 0, none]) (i := 3) (n := 1) (k := 0) (jp_ix (κ1 := [some 0, some 1, some 0, some 0, none]) (κ2 := [some 0, some 1, some 0, some 0, none]) (i := 3) (n := 0) (k := 0) hu (jp_var (i := 3) (k := 0) (pv 3) rfl) (j_const (d := .int 0) (rz := .own 99) rfl pe_int) (fun _ _ => rfl) rfl) rfl (by decide) rfl)) (jg_name (i := 4) sc_pieces.nd rfl (by first | exact .inl rfl | exact .inr rfl) (.inl rfl))
    (JB.weak (κ1 := [some 0, some 1, some 0, some 0, some 0]) (κn := [some 0, some 1, some 0, some 0, some 0]) (jb_one (js_seti (i := 1) (k := 1) (J.less (j := 0) (k := 99) (J.asAtom (z' := .own 99) (j_var (i := 2) (pv 2) rfl)) (by decide)) (j_var (i := 4) (pv 4) rfl) rfl rfl (by decide) (fun he hj => ps_asg he (pg_sub (pv 1) hj set_list)))) rfl rfl rfl rfl) rfl (fun _ => rfl))) rfl rfl rfl rfl) rfl (fun _ => rfl))
    (jb_one (js_ret (κ1 := [some 0, none, none, none, none]) (j_mov (κ := [some 0, some 1, none, none, none]) (i := 1) (k := 1) (pv 1) rfl) rfl rfl))))
/-! _law_bag -/
abbrev s__law_bag : Stmt := topS 17
abbrev N__law_bag : List Str := ["_law_script", "_law_at", "_law_cell", "_law_great", "_law_primes"]
abbrev p__law_bag : List Str := ["_law_script", "_law_at"]
abbrev sg__law_bag : Sg := ⟨[0, 0], 99, [none, none]⟩
def m__law_bag : SM := (sSeq (sAsg 2 (mC (.int 0)))
  (sSeq (sIf (m2 dLt (mV 1) (mB fLen (mCons (mV 0) mNil)))
  (sAsg 2 (mA (m2 dIx (mV 0) (mV 1))))
  sNil)
  (sSeq (sAsg 3 (mC (.int 0)))
  (sSeq (sIf (m2 dGe (mB fAbs (mCons (mV 2) mNil)) (m2 dPow (mC (.int 10)) (mC (.int 18))))
  (sAsg 3 (mB fAbs (mCons (mV 2) mNil)))
  sNil)
  (sSeq (sAsg 4 (mLst (mCons (mC (.int 2147483629)) (mCons (mC (.int 2147483587)) (mCons (mC (.int 2147483579)) (mCons (mC (.int 2147483563)) (mCons (mC (.int 2147483549)) (mCons (mC (.int 2147483543)) (mCons (mC (.int 2147483497)) (mCons (mC (.int 2147483489)) mNil))))))))))
  (sRet (mLst (mCons (mA (mV 3)) (mCons (m2 dMod (m2 dPow (m2 dAdd (m2 dAdd (m2 dMod (mV 2) (mC (.int 2147483647))) (m2 dMul (mC (.int 104729)) (mV 1))) (mC (.int 7))) (mC (.int 5))) (m2 dIx (mV 4) (m2 dMod (mV 1) (mC (.int 8))))) mNil)))))))))
def F__law_bag : FM := fM 2 5 sg__law_bag.ks' m__law_bag
theorem sc__law_bag : FnScope N__law_bag p__law_bag (defScope s__law_bag) := ⟨rfl, rfl, rfl, by decide +kernel, rfl, by decide +kernel, by decide +kernel⟩
theorem ok__law_bag (G : Gs mg) {fa : Addr} {fd : FuncData} (F : FnP K "_law_bag" s__law_bag fa fd) (hm : mg "_law_bag" = some (.ref fa)) : Has P w K mg base "_law_bag" 1 p__law_bag sg__law_bag F__law_bag := by
  refine has_mk (k := 0) (n := 5) F hm sc__law_bag rfl rfl (by decide) rfl (fun _ _ _ _ _ _ us hl => match us, hl with | [_, _], _ => rfl) fun cdv A outer s H E hr => ?_
  have hu := units_of hr
  exact (jb_cons (js_set (κ1 := [some 0, some 0, none, none, none]) (i := 2) (k := 99) (j_const (d := .int 0) (rz := .own 99) rfl pe_int) sc__law_bag.nd rfl (by first | exact .inl rfl | exact .inr rfl) rfl (.inl rfl) rfl)
    (jb_cons (js_if (κ1 := [some 0, some 0, some 99, none, none]) (κ2 := [some 0, some 0, some 99, none, none]) (JT.two_read (j_var (i := 1) (pv 1) rfl) (j_callA (rz := .own 99) (ja_cons (j_var (i := 0) (pv 0) rfl) ja_nil rfl rfl) rfl at_len fun h => pe_callB (CallR.en cr_len) (by rfl) G.len (by decide +kernel) h) rfl (atOp (dI_a fun _ _ => rfl)) fun a b => pt_cmpR (o_lt) a b (nomark _))
    (jb_one (js_set (κ1 := [some 0, some 0, some 99, none, none]) (i := 2) (k := 99) (J.asAtom (z' := .own 99) (j_ix hu (j_var (i := 0) (pv 0) rfl) (j_var (i := 1) (pv 1) rfl) rfl (fun _ _ => rfl))) sc__law_bag.nd rfl (by first | exact .inl rfl | exact .inr rfl) rfl (.inl rfl) rfl))
    jb_nil)
    (jb_cons (js_set (κ1 := [some 0, some 0, some 99, none, none]) (i := 3) (k := 99) (j_const (d := .int 0) (rz := .own 99) rfl pe_int) sc__law_bag.nd rfl (by first | exact .inl rfl | exact .inr rfl) rfl (.inl rfl) rfl)
    (jb_cons (js_if (κ1 := [some 0, some 0, some 99, some 99, none]) (κ2 := [some 0, some 0, some 99, some 99, none]) (JT.two_read (j_callA (rz := .own 99) (ja_cons (j_var (i := 2) (pv 2) rfl) ja_nil rfl rfl) rfl at_abs fun h => pe_callB (CallR.en call_abs) (by rfl) G.abs (by decide +kernel) h) (J.two_read (rz := .own 99) (j_const (d := .int 10) (rz := .own 99) rfl pe_int) (j_const (d := .int 18) (rz := .own 99) rfl pe_int) rfl (atOp (dI_a fun _ _ => rfl)) fun a b => pe_op o_pow a b) rfl (atOp (dI_a fun _ _ => rfl)) fun a b => pt_cmpR (o_ge) a b (nomark _))
    (jb_one (js_set (κ1 := [some 0, some 0, some 99, some 99, none]) (i := 3) (k := 99) (j_callA (rz := .own 99) (ja_cons (j_var (i := 2) (pv 2) rfl) ja_nil rfl rfl) rfl at_abs fun h => pe_callB (CallR.en call_abs) (by rfl) G.abs (by decide +kernel) h) sc__law_bag.nd rfl (by first | exact .inl rfl | exact .inr rfl) rfl (.inl rfl) rfl))
    jb_nil)
    (jb_cons (js_set (κ1 := [some 0, some 0, some 99, some 99, none]) (i := 4) (k := 99) (j_lst (k := 0) (k' := 99) (ja_cons (j_const (d := .int 2147483629) (rz := .own 99) rfl pe_int) (ja_cons (j_const (d := .int 2147483587) (rz := .own 99) rfl pe_int) (ja_cons (j_const (d := .int 2147483579) (rz := .own 99) rfl pe_int) (ja_cons (j_const (d := .int 2147483563) (rz := .own 99) rfl pe_int) (ja_cons (j_const (d := .int 2147483549) (rz := .own 99) rfl pe_int) (ja_cons (j_const (d := .int 2147483543) (rz := .own 99) rfl pe_int) (ja_cons (j_const (d := .int 2147483497) (rz := .own 99) rfl pe_int) (ja_cons (j_const (d := .int 2147483489) (rz := .own 99) rfl pe_int) ja_nil rfl rfl) rfl rfl) rfl rfl) rfl rfl) rfl rfl) rfl rfl) rfl rfl) rfl rfl) rfl (by decide)) sc__law_bag.nd rfl (by first | exact .inl rfl | exact .inr rfl) rfl (.inl rfl) rfl)
    (jb_one (js_ret (κ1 := [some 0, some 0, some 99, some 99, some 99]) (j_lst (k := 0) (k' := 99) (ja_cons (J.asAtom (z' := .own 99) (j_var (i := 3) (pv 3) rfl)) (ja_cons (J.two_read (rz := .own 99) (J.two_read (rz := .own 99) (J.two_read (rz := .own 99) (J.two_read (rz := .own 99) (J.two_read (rz := .own 99) (j_var (i := 2) (pv 2) rfl) (j_const (d := .int 2147483647) (rz := .own 99) rfl pe_int) rfl (atOp (dI_a fun _ _ => rfl)) fun a b => pe_op o_mod a b) (J.two_read (rz := .own 99) (j_const (d := .int 104729) (rz := .own 99) rfl pe_int) (j_var (i := 1) (pv 1) rfl) rfl (atOp (dI_a fun _ _ => rfl)) fun a b => pe_op o_mul a b) rfl (atOp dAdd_a) fun a b => pe_op o_add a b) (j_const (d := .int 7) (rz := .own 99) rfl pe_int) rfl (atOp dAdd_a) fun a b => pe_op o_add a b) (j_const (d := .int 5) (rz := .own 99) rfl pe_int) rfl (atOp (dI_a fun _ _ => rfl)) fun a b => pe_op o_pow a b) (j_ix hu (j_var (i := 4) (pv 4) rfl) (J.two_read (rz := .own 99) (j_var (i := 1) (pv 1) rfl) (j_const (d := .int 8) (rz := .own 99) rfl pe_int) rfl (atOp (dI_a fun _ _ => rfl)) fun a b => pe_op o_mod a b) rfl (fun _ _ => rfl)) rfl (atOp (dI_a fun _ _ => rfl)) fun a b => pe_op o_mod a b) ja_nil rfl rfl) rfl rfl) rfl (by decide)) rfl rfl)))))))
/-! _law_take -/
abbrev s__law_take : Stmt := topS 18
abbrev N__law_take : List Str := ["_law_bag_here", "_law_many", "_law_digit"]
abbrev p__law_take : List Str := ["_law_bag_here", "_law_many"]
abbrev sg__law_take : Sg := ⟨[1, 0], 99, [some 1, none]⟩
def m__law_take : SM := (sSeq (sIf (m2 dGt (m2 dIx (mV 0) (mC (.int 0))) (mC (.int 0)))
  (sSeq (sAsg 2 (m2 dMod (m2 dIx (mV 0) (mC (.int 0))) (mV 1)))
  (sSeq (sSet 0 (m2 dDiv (m2 dIx (mV 0) (mC (.int 0))) (mV 1)) (mC (.int 0)))
  (sRet (mA (mV 2)))))
  sNil)
  (sSeq (sSet 0 (m2 dMod (m2 dAdd (m2 dMul (m2 dIx (mV 0) (mC (.int 1))) (mC (.int 48271))) (mC (.int 11))) (mC (.int 2147483647))) (mC (.int 1)))
  (sRet (m2 dMod (m2 dMod (m2 dPow (m2 dDiv (m2 dIx (mV 0) (mC (.int 1))) (mC (.int 8))) (mC (.int 3))) (mC (.int 2147483629))) (mV 1)))))
def F__law_take : FM := fM 2 3 sg__law_take.ks' m__law_take
theorem sc__law_take : FnScope N__law_take p__law_take (defScope s__law_take) := ⟨rfl, rfl, rfl, by decide +kernel, rfl, by decide +kernel, by decide +kernel⟩
theorem ok__law_take (G : Gs mg) {fa : Addr} {fd : FuncData} (F : FnP K "_law_take" s__law_take fa fd) (hm : mg "_law_take" = some (.ref fa)) : Has P w K mg base "_law_take" 1 p__law_take sg__law_take F__law_take := by
  refine has_mk (k := 0) (n := 3) F hm sc__law_take rfl rfl (by decide) rfl (fun _ _ _ _ _ _ us hl => match us, hl with | [_, _], _ => rfl) fun cdv A outer s H E hr => ?_
  have hu := units_of hr
  exact (jb_cons (js_if (κ1 := [some 1, some 0, none]) (κ2 := [some 1, some 0, none]) (JT.two_read (j_ix hu (j_var (i := 0) (pv 0) rfl) (j_const (d := .int 0) (rz := .own 99) rfl pe_int) rfl (fun _ _ => rfl)) (j_const (d := .int 0) (rz := .own 99) rfl pe_int) rfl (atOp (dI_a fun _ _ => rfl)) fun a b => pt_cmpR (o_gt) a b (nomark _))
    (jb_cons (js_set (κ1 := [some 1, some 0, none]) (i := 2) (k := 99) (J.two_read (rz := .own 99) (j_ix hu (j_var (i := 0) (pv 0) rfl) (j_const (d := .int 0) (rz := .own 99) rfl pe_int) rfl (fun _ _ => rfl)) (j_var (i := 1) (pv 1) rfl) rfl (atOp (dI_a fun _ _ => rfl)) fun a b => pe_op o_mod a b) sc__law_take.nd rfl (by first | exact .inl rfl | exact .inr rfl) rfl (.inl rfl) rfl)
    (jb_cons (js_seti (i := 0) (k := 1) (J.less (j := 0) (k := 99) (J.two_read (rz := .own 99) (j_ix hu (j_var (i := 0) (pv 0) rfl) (j_const (d := .int 0) (rz := .own 99) rfl pe_int) rfl (fun _ _ => rfl)) (j_var (i := 1) (pv 1) rfl) rfl (atOp (dI_a fun _ _ => rfl)) fun a b => pe_op o_div a b) (by decide)) (j_const (d := .int 0) (rz := .own 99) rfl pe_int) rfl rfl (by decide) (fun he hj => ps_asg he (pg_sub (pv 0) hj set_list)))
    (jb_one (js_ret (κ1 := [some 1, some 0, some 99]) (J.asAtom (z' := .own 99) (j_var (i := 2) (pv 2) rfl)) rfl rfl))))
    jb_nil)
    (jb_cons (js_seti (i := 0) (k := 1) (J.less (j := 0) (k := 99) (J.two_read (rz := .own 99) (J.two_read (rz := .own 99) (J.two_read (rz := .own 99) (j_ix hu (j_var (i := 0) (pv 0) rfl) (j_const (d := .int 1) (rz := .own 99) rfl pe_int) rfl (fun _ _ => rfl)) (j_const (d := .int 48271) (rz := .own 99) rfl pe_int) rfl (atOp (dI_a fun _ _ => rfl)) fun a b => pe_op o_mul a b) (j_const (d := .int 11) (rz := .own 99) rfl pe_int) rfl (atOp dAdd_a) fun a b => pe_op o_add a b) (j_const (d := .int 2147483647) (rz := .own 99) rfl pe_int) rfl (atOp (dI_a fun _ _ => rfl)) fun a b => pe_op o_mod a b) (by decide)) (j_const (d := .int 1) (rz := .own 99) rfl pe_int) rfl rfl (by decide) (fun he hj => ps_asg he (pg_sub (pv 0) hj set_list)))
    (jb_one (js_ret (κ1 := [some 1, some 0, none]) (J.two_read (rz := .own 99) (J.two_read (rz := .own 99) (J.two_read (rz := .own 99) (J.two_read (rz := .own 99) (j_ix hu (j_var (i := 0) (pv 0) rfl) (j_const (d := .int 1) (rz := .own 99) rfl pe_int) rfl (fun _ _ => rfl)) (j_const (d := .int 8) (rz := .own 99) rfl pe_int) rfl (atOp (dI_a fun _ _ => rfl)) fun a b => pe_op o_div a b) (j_const (d := .int 3) (rz := .own 99) rfl pe_int) rfl (atOp (dI_a fun _ _ => rfl)) fun a b => pe_op o_pow a b) (j_const (d := .int 2147483629) (rz := .own 99) rfl pe_int) rfl (atOp (dI_a fun _ _ => rfl)) fun a b => pe_op o_mod a b) (j_var (i := 1) (pv 1) rfl) rfl (atOp (dI_a fun _ _ => rfl)) fun a b => pe_op o_mod a b) rfl rfl))))
/-! _law_drawing -/
abbrev s__law_drawing : Stmt := topS 19
abbrev N__law_drawing : List Str := ["_law_bag_here", "_law_births", "_law_most", "_law_letters", "_law_many", "_law_left", "_law_crosses", "_law_turn", "_law_way"]
abbrev p__law_drawing : List Str := ["_law_bag_here", "_law_births", "_law_most"]
abbrev sg__law_drawing : Sg := ⟨[1, 0, 0], 99, [some 1, none, none]⟩
def b__law_drawing_0 : SM := (sSeq (sAsg 8 (mCallO F__law_take (some (0, 0)) (mCons (mV 0) (mCons (mC (.int 8)) mNil))))
  (sIf (mAnd (m2 dGt (mV 5) (mC (.int 0))) (mAnd (m2 dLt (mV 4) (mC (.int 7))) (mOr (m2 dEq (mV 4) (mC (.int 0))) (m2 dEq (mV 8) (mC (.int 0))))))
  (sSeq (sApp 3 (mTup (mCons (mC (.str "born")) (mCons (mCallO F__law_take (some (0, 0)) (mCons (mV 0) (mCons (m2 dAdd (mV 4) (mC (.int 1))) mNil))) mNil))))
  (sSeq (sAsg 4 (m2 dAdd (mV 4) (mC (.int 2))))
  (sAsg 5 (m2 dSub (mV 5) (mC (.int 1))))))
  (sIf (mAnd (m2 dGt (mV 4) (mC (.int 1))) (m2 dEq (mV 8) (mC (.int 1))))
  (sSeq (sApp 3 (mTup (mCons (mC (.str "end")) (mCons (mCallO F__law_take (some (0, 0)) (mCons (mV 0) (mCons (m2 dSub (mV 4) (mC (.int 1))) mNil))) mNil))))
  (sAsg 4 (m2 dSub (mV 4) (mC (.int 2)))))
  (sIf (mAnd (m2 dGt (mV 4) (mC (.int 1))) (m2 dGt (mV 6) (mC (.int 0))))
  (sSeq (sApp 3 (mTup (mCons (mC (.str "cross")) (mCons (mCallO F__law_take (some (0, 0)) (mCons (mV 0) (mCons (m2 dSub (mV 4) (mC (.int 1))) mNil))) mNil))))
  (sAsg 6 (m2 dSub (mV 6) (mC (.int 1)))))
  sNil))))
def b__law_drawing_1 : SM := (sSeq (sApp 3 (mTup (mCons (mC (.str "end")) (mCons (mCallO F__law_take (some (0, 0)) (mCons (mV 0) (mCons (m2 dSub (mV 4) (mC (.int 1))) mNil))) mNil))))
  (sAsg 4 (m2 dSub (mV 4) (mC (.int 2)))))
def m__law_drawing : SM := (sSeq (sAsg 3 (mLst mNil))
  (sSeq (sAsg 4 (mC (.int 0)))
  (sSeq (sAsg 5 (m2 dAdd (mC (.int 1)) (mCallO F__law_take (some (0, 0)) (mCons (mV 0) (mCons (mV 1) mNil)))))
  (sSeq (sAsg 6 (mCallO F__law_take (some (0, 0)) (mCons (mV 0) (mCons (m2 dAdd (mV 2) (mC (.int 1))) mNil))))
  (sSeq (sFor (mRng1 (mCons (mC (.int 30)) mNil)) (gNm 7)
  b__law_drawing_0)
  (sSeq (sWhile (m2 dGt (mV 4) (mC (.int 0)))
  b__law_drawing_1)
  (sRet (mV 3))))))))
def F__law_drawing : FM := fM 3 9 sg__law_drawing.ks' m__law_drawing
theorem sc__law_drawing : FnScope N__law_drawing p__law_drawing (defScope s__law_drawing) := ⟨rfl, rfl, rfl, by decide +kernel, rfl, by decide +kernel, by decide +kernel⟩
theorem ok__law_drawing (G : Gs mg) (h__law_take : Has P w K mg base "_law_take" 1 p__law_take sg__law_take F__law_take) {fa : Addr} {fd : FuncData} (F : FnP K "_law_drawing" s__law_drawing fa fd) (hm : mg "_law_drawing" = some (.ref fa)) : Has P w K mg base "_law_drawing" 2 p__law_drawing sg__law_drawing F__law_drawing := by
  refine has_mk (k := 1) (n := 9) F hm sc__law_drawing rfl rfl (by decide) rfl (fun _ _ _ _ _ _ us hl => match us, hl with | [_, _, _], _ => rfl) fun cdv A outer s H E hr => ?_
  have hu := units_of hr
  exact (jb_cons (js_set (κ1 := [some 1, some 0, some 0, none, none, none, none, none, none]) (i := 3) (k := 99) (j_lst (k := 0) (k' := 99) ja_nil rfl (by decide)) sc__law_drawing.nd rfl (by first | exact .inl rfl | exact .inr rfl) rfl (.inl rfl) rfl)
    (jb_cons (js_set (κ1 := [some 1, some 0, some 0, some 99, none, none, none, none, none]) (i := 4) (k := 99) (j_const (d := .int 0) (rz := .own 99) rfl pe_int) sc__law_drawing.nd rfl (by first | exact .inl rfl | exact .inr rfl) rfl (.inl rfl) rfl)
    (jb_cons (js_set (κ1 := [some 1, some 0, some 0, some 99, some 99, none, none, none, none]) (i := 5) (k := 99) (J.two_read (rz := .own 99) (j_const (d := .int 1) (rz := .own 99) rfl pe_int) (call_own (sg := sg__law_take) (io := some (0, 0)) (ja_io (i := 0) (pv 0) rfl (ja_cons (j_frz (κ := [some 1, some 0, some 0, some 99, some 99, none, none, none, none]) (i := 1) (k := 0) (pv 1) rfl rfl) ja_nil rfl rfl) rfl) rfl rfl rfl (fun _ _ _ h => (fM_len _ _ _ h).2.trans (fM_len _ _ _ h).1.symm) (fun h => has_call h__law_take hr (by decide) (by rfl) h (by rfl) (by rfl) (by rfl))) rfl (atOp dAdd_a) fun a b => pe_op o_add a b) sc__law_drawing.nd rfl (by first | exact .inl rfl | exact .inr rfl) rfl (.inl rfl) rfl)
    (jb_cons (js_set (κ1 := [some 1, some 0, some 0, some 99, some 99, some 99, none, none, none]) (i := 6) (k := 99) (call_own (sg := sg__law_take) (io := some (0, 0)) (ja_io (i := 0) (pv 0) rfl (ja_cons (J.less (j := 0) (k := 99) (J.two_read (rz := .own 99) (j_var (i := 2) (pv 2) rfl) (j_const (d := .int 1) (rz := .own 99) rfl pe_int) rfl (atOp dAdd_a) fun a b => pe_op o_add a b) (by decide)) ja_nil rfl rfl) rfl) rfl rfl rfl (fun _ _ _ h => (fM_len _ _ _ h).2.trans (fM_len _ _ _ h).1.symm) (fun h => has_call h__law_take hr (by decide) (by rfl) h (by rfl) (by rfl) (by rfl))) sc__law_drawing.nd rfl (by first | exact .inl rfl | exact .inr rfl) rfl (.inl rfl) rfl)
    (jb_cons (js_for (κ1 := [some 1, some 0, some 0, some 99, some 99, some 99, some 99, none, none]) PassesOwn.never rfl (ji_range1 (ja_cons (j_const (d := .int 30) (rz := .own 99) rfl pe_int) ja_nil rfl rfl) rfl (by rfl) G.range rfl) (jg_name (i := 7) sc__law_drawing.nd rfl (by first | exact .inl rfl | exact .inr rfl) (.inl rfl))
    (JB.weak (κ1 := [some 1, some 0, some 0, some 99, some 99, some 99, some 99, some 0, none]) (κn := [some 1, some 0, some 0, some 99, some 99, some 99, some 99, some 0, some 99]) (jb_cons (js_set (κ1 := [some 1, some 0, some 0, some 99, some 99, some 99, some 99, some 0, none]) (i := 8) (k := 99) (call_own (sg := sg__law_take) (io := some (0, 0)) (ja_io (i := 0) (pv 0) rfl (ja_cons (J.less (j := 0) (k := 99) (j_const (d := .int 8) (rz := .own 99) rfl pe_int) (by decide)) ja_nil rfl rfl) rfl) rfl rfl rfl (fun _ _ _ h => (fM_len _ _ _ h).2.trans (fM_len _ _ _ h).1.symm) (fun h => has_call h__law_take hr (by decide) (by rfl) h (by rfl) (by rfl) (by rfl))) sc__law_drawing.nd rfl (by first | exact .inl rfl | exact .inr rfl) rfl (.inl rfl) rfl)
    (jb_one (js_if (κ1 := [some 1, some 0, some 0, some 99, some 99, some 99, some 99, some 0, some 99]) (κ2 := [some 1, some 0, some 0, some 99, some 99, some 99, some 99, some 0, some 99]) (JW.jt (jw_and (JT.two_read (j_var (i := 5) (pv 5) rfl) (j_const (d := .int 0) (rz := .own 99) rfl pe_int) rfl (atOp (dI_a fun _ _ => rfl)) fun a b => pt_cmpR (o_gt) a b (nomark _)) (jw_and (JT.two_read (j_var (i := 4) (pv 4) rfl) (j_const (d := .int 7) (rz := .own 99) rfl pe_int) rfl (atOp (dI_a fun _ _ => rfl)) fun a b => pt_cmpR (o_lt) a b (nomark _)) (jw_and1 (JW.jt (jw_or (JT.two_read (j_var (i := 4) (pv 4) rfl) (j_const (d := .int 0) (rz := .own 99) rfl pe_int) rfl (atOp dEq_a) fun a b => pt_cmpR (o_eq hu) a b (nomark _)) (jw_or1 (JT.two_read (j_var (i := 8) (pv 8) rfl) (j_const (d := .int 0) (rz := .own 99) rfl pe_int) rfl (atOp dEq_a) fun a b => pt_cmpR (o_eq hu) a b (nomark _))) rfl rfl))) rfl rfl) rfl rfl))
    (jb_cons (js_app (i := 3) (k := 99) (j_tup (k' := 99) (ja_cons (j_const (d := .str "born") (rz := .own 99) rfl pe_str) (ja_cons (call_own (sg := sg__law_take) (io := some (0, 0)) (ja_io (i := 0) (pv 0) rfl (ja_cons (J.less (j := 0) (k := 99) (J.two_read (rz := .own 99) (j_var (i := 4) (pv 4) rfl) (j_const (d := .int 1) (rz := .own 99) rfl pe_int) rfl (atOp dAdd_a) fun a b => pe_op o_add a b) (by decide)) ja_nil rfl rfl) rfl) rfl rfl rfl (fun _ _ _ h => (fM_len _ _ _ h).2.trans (fM_len _ _ _ h).1.symm) (fun h => has_call h__law_take hr (by decide) (by rfl) h (by rfl) (by rfl) (by rfl))) ja_nil rfl rfl) rfl rfl) rfl) rfl rfl (by decide) (by exact Nat.le_of_ble_eq_true rfl) fun h => ps_expr (pe_bm PySem.F.plainAttrs_list PySem.F.slot_list_append PySem.F.type_list_append mt_append (pv 3) (pa_cons h pa_nil)))
    (jb_cons (js_set (κ1 := [some 1, some 0, some 0, some 99, some 99, some 99, some 99, some 0, some 99]) (i := 4) (k := 99) (J.two_read (rz := .own 99) (j_var (i := 4) (pv 4) rfl) (j_const (d := .int 2) (rz := .own 99) rfl pe_int) rfl (atOp dAdd_a) fun a b => pe_op o_add a b) sc__law_drawing.nd rfl (by first | exact .inl rfl | exact .inr rfl) rfl (.inl rfl) rfl)
    (jb_one (js_set (κ1 := [some 1, some 0, some 0, some 99, some 99, some 99, some 99, some 0, some 99]) (i := 5) (k := 99) (J.two_read (rz := .own 99) (j_var (i := 5) (pv 5) rfl) (j_const (d := .int 1) (rz := .own 99) rfl pe_int) rfl (atOp (dI_a fun _ _ => rfl)) fun a b => pe_op o_sub a b) sc__law_drawing.nd rfl (by first | exact .inl rfl | exact .inr rfl) rfl (.inl rfl) rfl))))
    (jb_one (js_if (κ1 := [some 1, some 0, some 0, some 99, some 99, some 99, some 99, some 0, some 99]) (κ2 := [some 1, some 0, some 0, some 99, some 99, some 99, some 99, some 0, some 99]) (JW.jt (jw_and (JT.two_read (j_var (i := 4) (pv 4) rfl) (j_const (d := .int 1) (rz := .own 99) rfl pe_int) rfl (atOp (dI_a fun _ _ => rfl)) fun a b => pt_cmpR (o_gt) a b (nomark _)) (jw_and1 (JT.two_read (j_var (i := 8) (pv 8) rfl) (j_const (d := .int 1) (rz := .own 99) rfl pe_int) rfl (atOp dEq_a) fun a b => pt_cmpR (o_eq hu) a b (nomark _))) rfl rfl))
    (jb_cons (js_app (i := 3) (k := 99) (j_tup (k' := 99) (ja_cons (j_const (d := .str "end") (rz := .own 99) rfl pe_str) (ja_cons (call_own (sg := sg__law_take) (io := some (0, 0)) (ja_io (i := 0) (pv 0) rfl (ja_cons (J.less (j := 0) (k := 99) (J.two_read (rz := .own 99) (j_var (i := 4) (pv 4) rfl) (j_const (d := .int 1) (rz := .own 99) rfl pe_int) rfl (atOp (dI_a fun _ _ => rfl)) fun a b => pe_op o_sub a b) (by decide)) ja_nil rfl rfl) rfl) rfl rfl rfl (fun _ _ _ h => (fM_len _ _ _ h).2.trans (fM_len _ _ _ h).1.symm) (fun h => has_call h__law_take hr (by decide) (by rfl) h (by rfl) (by rfl) (by rfl))) ja_nil rfl rfl) rfl rfl) rfl) rfl rfl (by decide) (by exact Nat.le_of_ble_eq_true rfl) fun h => ps_expr (pe_bm PySem.F.plainAttrs_list PySem.F.slot_list_append PySem.F.type_list_append mt_append (pv 3) (pa_cons h pa_nil)))
    (jb_one (js_set (κ1 := [some 1, some 0, some 0, some 99, some 99, some 99, some 99, some 0, some 99]) (i := 4) (k := 99) (J.two_read (rz := .own 99) (j_var (i := 4) (pv 4) rfl) (j_const (d := .int 2) (rz := .own 99) rfl pe_int) rfl (atOp (dI_a fun _ _ => rfl)) fun a b => pe_op o_sub a b) sc__law_drawing.nd rfl (by first | exact .inl rfl | exact .inr rfl) rfl (.inl rfl) rfl)))
    (jb_one (js_if (κ1 := [some 1, some 0, some 0, some 99, some 99, some 99, some 99, some 0, some 99]) (κ2 := [some 1, some 0, some 0, some 99, some 99, some 99, some 99, some 0, some 99]) (JW.jt (jw_and (JT.two_read (j_var (i := 4) (pv 4) rfl) (j_const (d := .int 1) (rz := .own 99) rfl pe_int) rfl (atOp (dI_a fun _ _ => rfl)) fun a b => pt_cmpR (o_gt) a b (nomark _)) (jw_and1 (JT.two_read (j_var (i := 6) (pv 6) rfl) (j_const (d := .int 0) (rz := .own 99) rfl pe_int) rfl (atOp (dI_a fun _ _ => rfl)) fun a b => pt_cmpR (o_gt) a b (nomark _))) rfl rfl))
    (jb_cons (js_app (i := 3) (k := 99) (j_tup (k' := 99) (ja_cons (j_const (d := .str "cross") (rz := .own 99) rfl pe_str) (ja_cons (call_own (sg := sg__law_take) (io := some (0, 0)) (ja_io (i := 0) (pv 0) rfl (ja_cons (J.less (j := 0) (k := 99) (J.two_read (rz := .own 99) (j_var (i := 4) (pv 4) rfl) (j_const (d := .int 1) (rz := .own 99) rfl pe_int) rfl (atOp (dI_a fun _ _ => rfl)) fun a b => pe_op o_sub a b) (by decide)) ja_nil rfl rfl) rfl) rfl rfl rfl (fun _ _ _ h => (fM_len _ _ _ h).2.trans (fM_len _ _ _ h).1.symm) (fun h => has_call h__law_take hr (by decide) (by rfl) h (by rfl) (by rfl) (by rfl))) ja_nil rfl rfl) rfl rfl) rfl) rfl rfl (by decide) (by exact Nat.le_of_ble_eq_true rfl) fun h => ps_expr (pe_bm PySem.F.plainAttrs_list PySem.F.slot_list_append PySem.F.type_list_append mt_append (pv 3) (pa_cons h pa_nil)))
    (jb_one (js_set (κ1 := [some 1, some 0, some 0, some 99, some 99, some 99, some 99, some 0, some 99]) (i := 6) (k := 99) (J.two_read (rz := .own 99) (j_var (i := 6) (pv 6) rfl) (j_const (d := .int 1) (rz := .own 99) rfl pe_int) rfl (atOp (dI_a fun _ _ => rfl)) fun a b => pe_op o_sub a b) sc__law_drawing.nd rfl (by first | exact .inl rfl | exact .inr rfl) rfl (.inl rfl) rfl)))
    jb_nil))))))) rfl rfl rfl rfl) rfl (fun _ => rfl))
    (jb_cons (js_while PassesOwn.never (JT.two_read (j_var (i := 4) (pv 4) rfl) (j_const (d := .int 0) (rz := .own 99) rfl pe_int) rfl (atOp (dI_a fun _ _ => rfl)) fun a b => pt_cmpR (o_gt) a b (nomark _))
    (jb_cons (js_app (i := 3) (k := 99) (j_tup (k' := 99) (ja_cons (j_const (d := .str "end") (rz := .own 99) rfl pe_str) (ja_cons (call_own (sg := sg__law_take) (io := some (0, 0)) (ja_io (i := 0) (pv 0) rfl (ja_cons (J.less (j := 0) (k := 99) (J.two_read (rz := .own 99) (j_var (i := 4) (pv 4) rfl) (j_const (d := .int 1) (rz := .own 99) rfl pe_int) rfl (atOp (dI_a fun _ _ => rfl)) fun a b => pe_op o_sub a b) (by decide)) ja_nil rfl rfl) rfl) rfl rfl rfl (fun _ _ _ h => (fM_len _ _ _ h).2.trans (fM_len _ _ _ h).1.symm) (fun h => has_call h__law_take hr (by decide) (by rfl) h (by rfl) (by rfl) (by rfl))) ja_nil rfl rfl) rfl rfl) rfl) rfl rfl (by decide) (by exact Nat.le_of_ble_eq_true rfl) fun h => ps_expr (pe_bm PySem.F.plainAttrs_list PySem.F.slot_list_append PySem.F.type_list_append mt_append (pv 3) (pa_cons h pa_nil)))
    (jb_one (js_set (κ1 := [some 1, some 0, some 0, some 99, some 99, some 99, some 99, none, none]) (i := 4) (k := 99) (J.two_read (rz := .own 99) (j_var (i := 4) (pv 4) rfl) (j_const (d := .int 2) (rz := .own 99) rfl pe_int) rfl (atOp (dI_a fun _ _ => rfl)) fun a b => pe_op o_sub a b) sc__law_drawing.nd rfl (by first | exact .inl rfl | exact .inr rfl) rfl (.inl rfl) rfl))))
    (jb_one (js_ret (κ1 := [some 1, some 0, some 0, none, some 99, some 99, some 99, none, none]) (j_mov (κ := [some 1, some 0, some 0, some 99, some 99, some 99, some 99, none, none]) (i := 3) (k := 99) (pv 3) rfl) rfl rfl))))))))
/-! _law_plat -/
abbrev s__law_plat : Stmt := topS 20
abbrev N__law_plat : List Str := ["_law_bag_here", "_law_most", "_law_births", "_law_letters", "_law_turn", "_law_k"]
abbrev p__law_plat : List Str := ["_law_bag_here", "_law_most"]
abbrev sg__law_plat : Sg := ⟨[1, 0], 1, [some 1, none]⟩
def b__law_plat_0 : SM := (sSeq (sAsg 5 (mCallO F__law_take (some (0, 0)) (mCons (mV 0) (mCons (m2 dSub (m2 dMul (mC (.int 2)) (mV 2)) (mC (.int 1))) mNil))))
  (sSeq (sIf (mAnd (m2 dGt (mV 2) (mC (.int 1))) (m2 dEq (mCallO F__law_take (some (0, 0)) (mCons (mV 0) (mCons (mC (.int 2)) mNil))) (mC (.int 1))))
  (sAsg 5 (m2 dAdd (m2 dMul (mC (.int 2)) (m2 dMod (m2 dDiv (mV 5) (mC (.int 2))) (m2 dSub (mV 2) (mC (.int 1))))) (mC (.int 1))))
  sNil)
  (sApp 3 (mTup (mCons (mC (.str "cross")) (mCons (mA (mV 5)) mNil))))))
def m__law_plat : SM := (sSeq (sAsg 2 (m2 dAdd (mC (.int 1)) (mCallO F__law_take (some (0, 0)) (mCons (mV 0) (mCons (mC (.int 3)) mNil)))))
  (sSeq (sAsg 3 (mLc (true && (true && true)) [5] (mRng1 (mCons (mV 2) mNil)) (gNm 5) mYes (mTup (mCons (mC (.str "born")) (mCons (m2 dMul (mC (.int 2)) (mV 5)) mNil)))))
  (sSeq (sFor (mRng1 (mCons (mCallO F__law_take (some (0, 0)) (mCons (mV 0) (mCons (m2 dAdd (mV 1) (mC (.int 1))) mNil))) mNil)) (gNm 4)
  b__law_plat_0)
  (sRet (m2 dCat (mV 3) (mLc (true && (true && true)) [5] (mRng1 (mCons (mV 2) mNil)) (gNm 5) mYes (mTup (mCons (mC (.str "end")) (mCons (mC (.int 0)) mNil)))))))))
def F__law_plat : FM := fM 2 6 sg__law_plat.ks' m__law_plat
theorem sc__law_plat : FnScope N__law_plat p__law_plat (defScope s__law_plat) := ⟨rfl, rfl, rfl, by decide +kernel, rfl, by decide +kernel, by decide +kernel⟩
theorem ok__law_plat (G : Gs mg) (h__law_take : Has P w K mg base "_law_take" 1 p__law_take sg__law_take F__law_take) {fa : Addr} {fd : FuncData} (F : FnP K "_law_plat" s__law_plat fa fd) (hm : mg "_law_plat" = some (.ref fa)) : Has P w K mg base "_law_plat" 2 p__law_plat sg__law_plat F__law_plat := by
  refine has_mk (k := 1) (n := 6) F hm sc__law_plat rfl rfl (by decide) rfl (fun _ _ _ _ _ _ us hl => match us, hl with | [_, _], _ => rfl) fun cdv A outer s H E hr => ?_
  have hu := units_of hr
  exact (jb_cons (js_set (κ1 := [some 1, some 0, none, none, none, none]) (i := 2) (k := 99) (J.two_read (rz := .own 99) (j_const (d := .int 1) (rz := .own 99) rfl pe_int) (call_own (sg := sg__law_take) (io := some (0, 0)) (ja_io (i := 0) (pv 0) rfl (ja_cons (J.less (j := 0) (k := 99) (j_const (d := .int 3) (rz := .own 99) rfl pe_int) (by decide)) ja_nil rfl rfl) rfl) rfl rfl rfl (fun _ _ _ h => (fM_len _ _ _ h).2.trans (fM_len _ _ _ h).1.symm) (fun h => has_call h__law_take hr (by decide) (by rfl) h (by rfl) (by rfl) (by rfl))) rfl (atOp dAdd_a) fun a b => pe_op o_add a b) sc__law_plat.nd rfl (by first | exact .inl rfl | exact .inr rfl) rfl (.inl rfl) rfl)
    (jb_cons (js_lc (κ1 := [some 1, some 0, some 99, none, none, none]) (i := 3) (k := 99) (own := [("_law_k", 5)]) rfl sc__law_plat.nd rfl rfl (sw_true rfl rfl rfl (by decide +kernel)) (ji_range1 (ja_cons (j_var (i := 2) (pv 2) rfl) ja_nil rfl rfl) rfl (by rfl) G.range rfl) (blkOk_by (N := N__law_plat) (sc := defScope s__law_plat) (own := [("_law_k", 5)]) (by decide +kernel)) (fun _ _ _ _ _ => (jg_name (i := 5) sc__law_plat.nd rfl (by first | exact .inl rfl | exact .inr rfl) (by first | exact .inr rfl | exact .inl rfl))) (fun _ _ _ _ _ => jts_nil) (fun _ _ _ _ _ => (j_tup (k' := 99) (ja_cons (j_const (d := .str "born") (rz := .own 99) rfl pe_str) (ja_cons (J.two_read (rz := .own 99) (j_const (d := .int 2) (rz := .own 99) rfl pe_int) (j_var (i := 5) (pv 5) rfl) rfl (atOp (dI_a fun _ _ => rfl)) fun a b => pe_op o_mul a b) ja_nil rfl rfl) rfl rfl) rfl)) (fun _ => rfl) (by decide) rfl rfl rfl rfl rfl rfl)
    (jb_cons (js_for (κ1 := [some 1, some 0, some 99, some 99, none, none]) PassesOwn.never rfl (ji_range1 (ja_cons (call_own (sg := sg__law_take) (io := some (0, 0)) (ja_io (i := 0) (pv 0) rfl (ja_cons (J.less (j := 0) (k := 99) (J.two_read (rz := .own 99) (j_var (i := 1) (pv 1) rfl) (j_const (d := .int 1) (rz := .own 99) rfl pe_int) rfl (atOp dAdd_a) fun a b => pe_op o_add a b) (by decide)) ja_nil rfl rfl) rfl) rfl rfl rfl (fun _ _ _ h => (fM_len _ _ _ h).2.trans (fM_len _ _ _ h).1.symm) (fun h => has_call h__law_take hr (by decide) (by rfl) h (by rfl) (by rfl) (by rfl))) ja_nil rfl rfl) rfl (by rfl) G.range rfl) (jg_name (i := 4) sc__law_plat.nd rfl (by first | exact .inl rfl | exact .inr rfl) (.inl rfl))
    (JB.weak (κ1 := [some 1, some 0, some 99, some 99, some 0, none]) (κn := [some 1, some 0, some 99, some 99, some 0, some 99]) (jb_cons (js_set (κ1 := [some 1, some 0, some 99, some 99, some 0, none]) (i := 5) (k := 99) (call_own (sg := sg__law_take) (io := some (0, 0)) (ja_io (i := 0) (pv 0) rfl (ja_cons (J.less (j := 0) (k := 99) (J.two_read (rz := .own 99) (J.two_read (rz := .own 99) (j_const (d := .int 2) (rz := .own 99) rfl pe_int) (j_var (i := 2) (pv 2) rfl) rfl (atOp (dI_a fun _ _ => rfl)) fun a b => pe_op o_mul a b) (j_const (d := .int 1) (rz := .own 99) rfl pe_int) rfl (atOp (dI_a fun _ _ => rfl)) fun a b => pe_op o_sub a b) (by decide)) ja_nil rfl rfl) rfl) rfl rfl rfl (fun _ _ _ h => (fM_len _ _ _ h).2.trans (fM_len _ _ _ h).1.symm) (fun h => has_call h__law_take hr (by decide) (by rfl) h (by rfl) (by rfl) (by rfl))) sc__law_plat.nd rfl (by first | exact .inl rfl | exact .inr rfl) rfl (.inl rfl) rfl)
    (jb_cons (js_if (κ1 := [some 1, some 0, some 99, some 99, some 0, some 99]) (κ2 := [some 1, some 0, some 99, some 99, some 0, some 99]) (JW.jt (jw_and (JT.two_read (j_var (i := 2) (pv 2) rfl) (j_const (d := .int 1) (rz := .own 99) rfl pe_int) rfl (atOp (dI_a fun _ _ => rfl)) fun a b => pt_cmpR (o_gt) a b (nomark _)) (jw_and1 (JT.two_read (call_own (sg := sg__law_take) (io := some (0, 0)) (ja_io (i := 0) (pv 0) rfl (ja_cons (J.less (j := 0) (k := 99) (j_const (d := .int 2) (rz := .own 99) rfl pe_int) (by decide)) ja_nil rfl rfl) rfl) rfl rfl rfl (fun _ _ _ h => (fM_len _ _ _ h).2.trans (fM_len _ _ _ h).1.symm) (fun h => has_call h__law_take hr (by decide) (by rfl) h (by rfl) (by rfl) (by rfl))) (j_const (d := .int 1) (rz := .own 99) rfl pe_int) rfl (atOp dEq_a) fun a b => pt_cmpR (o_eq hu) a b (nomark _))) rfl rfl))
    (jb_one (js_set (κ1 := [some 1, some 0, some 99, some 99, some 0, some 99]) (i := 5) (k := 99) (J.two_read (rz := .own 99) (J.two_read (rz := .own 99) (j_const (d := .int 2) (rz := .own 99) rfl pe_int) (J.two_read (rz := .own 99) (J.two_read (rz := .own 99) (j_var (i := 5) (pv 5) rfl) (j_const (d := .int 2) (rz := .own 99) rfl pe_int) rfl (atOp (dI_a fun _ _ => rfl)) fun a b => pe_op o_div a b) (J.two_read (rz := .own 99) (j_var (i := 2) (pv 2) rfl) (j_const (d := .int 1) (rz := .own 99) rfl pe_int) rfl (atOp (dI_a fun _ _ => rfl)) fun a b => pe_op o_sub a b) rfl (atOp (dI_a fun _ _ => rfl)) fun a b => pe_op o_mod a b) rfl (atOp (dI_a fun _ _ => rfl)) fun a b => pe_op o_mul a b) (j_const (d := .int 1) (rz := .own 99) rfl pe_int) rfl (atOp dAdd_a) fun a b => pe_op o_add a b) sc__law_plat.nd rfl (by first | exact .inl rfl | exact .inr rfl) rfl (.inl rfl) rfl))
    jb_nil)
    (jb_one (js_app (i := 3) (k := 99) (j_tup (k' := 99) (ja_cons (j_const (d := .str "cross") (rz := .own 99) rfl pe_str) (ja_cons (J.asAtom (z' := .own 99) (j_var (i := 5) (pv 5) rfl)) ja_nil rfl rfl) rfl rfl) rfl) rfl rfl (by decide) (by exact Nat.le_of_ble_eq_true rfl) fun h => ps_expr (pe_bm PySem.F.plainAttrs_list PySem.F.slot_list_append PySem.F.type_list_append mt_append (pv 3) (pa_cons h pa_nil)))))) rfl rfl rfl rfl) rfl (fun _ => rfl))
    (jb_one (js_ret (κ1 := [some 1, some 0, some 99, some 0, none, none]) (j_catO (j_frz (κ := [some 1, some 0, some 99, some 99, none, none]) (i := 3) (k := 99) (pv 3) rfl rfl) (J.less (j := 0) (k := 99) (j_lc (k := 99) (own := [("_law_k", 5)]) rfl sc__law_plat.nd (ji_range1 (ja_cons (j_var (i := 2) (pv 2) rfl) ja_nil rfl rfl) rfl (by rfl) G.range rfl) (blkOk_by (N := N__law_plat) (sc := defScope s__law_plat) (own := [("_law_k", 5)]) (by decide +kernel)) (fun _ _ _ _ _ => (jg_name (i := 5) sc__law_plat.nd rfl (by first | exact .inl rfl | exact .inr rfl) (by first | exact .inr rfl | exact .inl rfl))) (fun _ _ _ _ _ => jts_nil) (fun _ _ _ _ _ => (j_tup (k' := 99) (ja_cons (j_const (d := .str "end") (rz := .own 99) rfl pe_str) (ja_cons (j_const (d := .int 0) (rz := .own 99) rfl pe_int) ja_nil rfl rfl) rfl rfl) rfl)) (fun _ => rfl) (by decide) rfl rfl rfl rfl rfl) (by decide)) fun a b => pe_op o_cat a b) rfl rfl)))))
/-! _law_any -/
abbrev s__law_any : Stmt := topS 21
abbrev N__law_any : List Str := ["_law_bag_here", "_law_most"]
abbrev p__law_any : List Str := ["_law_bag_here", "_law_most"]
abbrev sg__law_any : Sg := ⟨[1, 0], 1, [some 1, none]⟩
def m__law_any : SM := (sSeq (sIf (m2 dEq (mCallO F__law_take (some (0, 0)) (mCons (mV 0) (mCons (mC (.int 3)) mNil))) (mC (.int 0)))
  (sRet (mCallO F__law_plat (some (0, 0)) (mCons (mV 0) (mCons (mV 1) mNil))))
  sNil)
  (sRet (mCallO F__law_drawing (some (0, 0)) (mCons (mV 0) (mCons (mC (.int 4)) (mCons (mV 1) mNil))))))
def F__law_any : FM := fM 2 2 sg__law_any.ks' m__law_any
theorem sc__law_any : FnScope N__law_any p__law_any (defScope s__law_any) := ⟨rfl, rfl, rfl, by decide +kernel, rfl, by decide +kernel, by decide +kernel⟩
theorem ok__law_any (G : Gs mg) (h__law_take : Has P w K mg base "_law_take" 1 p__law_take sg__law_take F__law_take) (h__law_plat : Has P w K mg base "_law_plat" 2 p__law_plat sg__law_plat F__law_plat) (h__law_drawing : Has P w K mg base "_law_drawing" 2 p__law_drawing sg__law_drawing F__law_drawing) {fa : Addr} {fd : FuncData} (F : FnP K "_law_any" s__law_any fa fd) (hm : mg "_law_any" = some (.ref fa)) : Has P w K mg base "_law_any" 3 p__law_any sg__law_any F__law_any := by
  refine has_mk (k := 2) (n := 2) F hm sc__law_any rfl rfl (by decide) rfl (fun _ _ _ _ _ _ us hl => match us, hl with | [_, _], _ => rfl) fun cdv A outer s H E hr => ?_
  have hu := units_of hr
  exact (jb_cons (js_if (κ1 := [some 1, some 0]) (κ2 := [some 1, some 0]) (JT.two_read (call_own (sg := sg__law_take) (io := some (0, 0)) (ja_io (i := 0) (pv 0) rfl (ja_cons (J.less (j := 0) (k := 99) (j_const (d := .int 3) (rz := .own 99) rfl pe_int) (by decide)) ja_nil rfl rfl) rfl) rfl rfl rfl (fun _ _ _ h => (fM_len _ _ _ h).2.trans (fM_len _ _ _ h).1.symm) (fun h => has_call h__law_take hr (by decide) (by rfl) h (by rfl) (by rfl) (by rfl))) (j_const (d := .int 0) (rz := .own 99) rfl pe_int) rfl (atOp dEq_a) fun a b => pt_cmpR (o_eq hu) a b (nomark _))
    (jb_one (js_ret (κ1 := [some 1, some 0]) (call_own (sg := sg__law_plat) (io := some (0, 0)) (ja_io (i := 0) (pv 0) rfl (ja_cons (j_frz (κ := [some 1, some 0]) (i := 1) (k := 0) (pv 1) rfl rfl) ja_nil rfl rfl) rfl) rfl rfl rfl (fun _ _ _ h => (fM_len _ _ _ h).2.trans (fM_len _ _ _ h).1.symm) (fun h => has_call h__law_plat hr (by decide) (by rfl) h (by rfl) (by rfl) (by rfl))) rfl rfl))
    jb_nil)
    (jb_one (js_ret (κ1 := [some 1, some 0]) (J.less (j := 1) (k := 99) (call_own (sg := sg__law_drawing) (io := some (0, 0)) (ja_io (i := 0) (pv 0) rfl (ja_cons (J.less (j := 0) (k := 99) (j_const (d := .int 4) (rz := .own 99) rfl pe_int) (by decide)) (ja_cons (j_frz (κ := [some 1, some 0]) (i := 1) (k := 0) (pv 1) rfl rfl) ja_nil rfl rfl) rfl rfl) rfl) rfl rfl rfl (fun _ _ _ h => (fM_len _ _ _ h).2.trans (fM_len _ _ _ h).1.symm) (fun h => has_call h__law_drawing hr (by decide) (by rfl) h (by rfl) (by rfl) (by rfl))) (by decide)) rfl rfl)))
/-! _law_rows -/
abbrev s__law_rows : Stmt := topS 22
abbrev N__law_rows : List Str := ["_law_drawing_here", "_law_rows_here", "_law_born", "_law_word", "_law_k", "_law_row"]
abbrev p__law_rows : List Str := ["_law_drawing_here"]
abbrev sg__law_rows : Sg := ⟨[0], 1, [none]⟩
def b__law_rows_0 : SM := (sSeq (sAsg 5 (mMk .lst (mCons (m2 dIxP (mV 1) (mNeg (mC (.int 1)))) mNil)))
  (sSeq (sIf (m2 dEq (mV 3) (mC (.str "born")))
  (sSeq (sExp (mMut 5 fIns (mCons (mA (mV 4)) (mCons (m2 dAdd (mV 2) (mC (.int 1))) mNil))))
  (sSeq (sExp (mMut 5 fIns (mCons (mA (mV 4)) (mCons (mA (mV 2)) mNil))))
  (sAsg 2 (m2 dAdd (mV 2) (mC (.int 2))))))
  (sIf (m2 dEq (mV 3) (mC (.str "cross")))
  (sSwap 5 (mTup (mCons (m2 dIxP (mV 5) (m2 dAdd (mV 4) (mC (.int 1)))) (mCons (m2 dIxP (mV 5) (mV 4)) mNil))) (mV 4) (m2 dAdd (mV 4) (mC (.int 1))))
  (sSeq (sExp (mMut 5 fPopAt (mCons (mA (mV 4)) mNil)))
  (sExp (mMut 5 fPopAt (mCons (mA (mV 4)) mNil))))))
  (sApp 1 (mV 5))))
def m__law_rows : SM := (sSeq (sAsg 1 (mLst (mCons (mLst mNil) mNil)))
  (sSeq (sAsg 2 (mC (.int 0)))
  (sSeq (sFor (mSeq (mV 0)) (gTp (gsCons (gNm 3) (gsCons (gNm 4) gsNil)))
  b__law_rows_0)
  (sRet (mV 1)))))
def F__law_rows : FM := fM 1 6 sg__law_rows.ks' m__law_rows
theorem sc__law_rows : FnScope N__law_rows p__law_rows (defScope s__law_rows) := ⟨rfl, rfl, rfl, by decide +kernel, rfl, by decide +kernel, by decide +kernel⟩
theorem ok__law_rows (G : Gs mg) {fa : Addr} {fd : FuncData} (F : FnP K "_law_rows" s__law_rows fa fd) (hm : mg "_law_rows" = some (.ref fa)) : Has P w K mg base "_law_rows" 1 p__law_rows sg__law_rows F__law_rows := by
  refine has_mk (k := 0) (n := 6) F hm sc__law_rows rfl rfl (by decide) rfl (fun _ _ _ _ _ _ us hl => match us, hl with | [_], _ => rfl) fun cdv A outer s H E hr => ?_
  have hu := units_of hr
  exact (jb_cons (js_set (κ1 := [some 0, none, none, none, none, none]) (i := 1) (k := 99) (j_lst (k := 0) (k' := 99) (ja_cons (j_lst (k := 0) (k' := 99) ja_nil rfl (by decide)) ja_nil rfl rfl) rfl (by decide)) sc__law_rows.nd rfl (by first | exact .inl rfl | exact .inr rfl) rfl (.inl rfl) rfl)
    (jb_cons (js_set (κ1 := [some 0, some 99, none, none, none, none]) (i := 2) (k := 99) (j_const (d := .int 0) (rz := .own 99) rfl pe_int) sc__law_rows.nd rfl (by first | exact .inl rfl | exact .inr rfl) rfl (.inl rfl) rfl)
    (jb_cons (JS.weak (κ1 := [some 0, some 1, some 99, none, none, none]) (κn := [some 0, some 1, some 99, none, none, none]) (κn' := [some 0, some 1, some 99, none, none, none]) (js_for (κ1 := [some 0, some 1, some 99, none, none, none]) PassesOwn.never rfl (ji_seq (j_frz (κ := [some 0, some 1, some 99, none, none, none]) (i := 0) (k := 0) (pv 0) rfl rfl)) (jg_tup (n := 2) rfl (jgs_cons (jg_name (i := 3) sc__law_rows.nd rfl (by first | exact .inl rfl | exact .inr rfl) (.inl rfl)) (jgs_cons (jg_name (i := 4) sc__law_rows.nd rfl (by first | exact .inl rfl | exact .inr rfl) (.inl rfl)) jgs_nil fun a b => pgs_cons a b) fun a b => pgs_cons a b) rfl rfl (gs_lenS (gs_lenS gs_len0)))
    (JB.weak (κ1 := [some 0, some 1, some 99, some 0, some 0, none]) (κn := [some 0, some 1, some 99, some 0, some 0, some 0]) (jb_cons (js_set (κ1 := [some 0, some 1, some 99, some 0, some 0, none]) (i := 5) (k := 1) (j_mkO (k := .lst) (ja_cons (jp_frz (κ1 := [some 0, some 1, some 99, some 0, some 0, none]) (i := 1) (n := 1) (k := 1) (jp_ix (κ1 := [some 0, some 1, some 99, some 0, some 0, none]) (κ2 := [some 0, some 1, some 99, some 0, some 0, none]) (i := 1) (n := 0) (k := 1) hu (jp_var (i := 1) (k := 1) (pv 1) rfl) (j_neg (rz' := .own 99) (j_const (d := .int 1) (rz := .own 99) rfl pe_int)) (fun _ _ => rfl) rfl) rfl (by decide) rfl) ja_nil rfl rfl) fun h => pe_callTy call_list_of (by rfl) G.list (by decide +kernel) h) sc__law_rows.nd rfl (by first | exact .inl rfl | exact .inr rfl) rfl (.inl rfl) rfl)
    (jb_cons (js_if (κ1 := [some 0, some 1, some 99, some 0, some 0, some 1]) (κ2 := [some 0, some 1, some 99, some 0, some 0, some 1]) (JT.two_read (j_var (i := 3) (pv 3) rfl) (j_const (d := .str "born") (rz := .own 99) rfl pe_str) rfl (atOp dEq_a) fun a b => pt_cmpR (o_eq hu) a b (nomark _))
    (jb_cons (js_exp (j_mut (κ1 := [some 0, some 1, some 99, some 0, some 0, some 1]) (i := 5) (k0 := 1) (ja_cons (J.less (j := 0) (k := 99) (J.asAtom (z' := .own 99) (j_var (i := 4) (pv 4) rfl)) (by decide)) (ja_cons (J.less (j := 0) (k := 99) (J.two_read (rz := .own 99) (j_var (i := 2) (pv 2) rfl) (j_const (d := .int 1) (rz := .own 99) rfl pe_int) rfl (atOp dAdd_a) fun a b => pe_op o_add a b) (by decide)) ja_nil rfl rfl) rfl rfl) rfl rfl rfl u_ins fun h => pe_bm PySem.F.plainAttrs_list PySem.F.slot_list_insert PySem.F.type_list_insert mt_insert (pv 5) h) rfl)
    (jb_cons (js_exp (j_mut (κ1 := [some 0, some 1, some 99, some 0, some 0, some 1]) (i := 5) (k0 := 1) (ja_cons (J.less (j := 0) (k := 99) (J.asAtom (z' := .own 99) (j_var (i := 4) (pv 4) rfl)) (by decide)) (ja_cons (J.less (j := 0) (k := 99) (J.asAtom (z' := .own 99) (j_var (i := 2) (pv 2) rfl)) (by decide)) ja_nil rfl rfl) rfl rfl) rfl rfl rfl u_ins fun h => pe_bm PySem.F.plainAttrs_list PySem.F.slot_list_insert PySem.F.type_list_insert mt_insert (pv 5) h) rfl)
    (jb_one (js_set (κ1 := [some 0, some 1, some 99, some 0, some 0, some 1]) (i := 2) (k := 99) (J.two_read (rz := .own 99) (j_var (i := 2) (pv 2) rfl) (j_const (d := .int 2) (rz := .own 99) rfl pe_int) rfl (atOp dAdd_a) fun a b => pe_op o_add a b) sc__law_rows.nd rfl (by first | exact .inl rfl | exact .inr rfl) rfl (.inl rfl) rfl))))
    (jb_one (js_if (κ1 := [some 0, some 1, some 99, some 0, some 0, some 1]) (κ2 := [some 0, some 1, some 99, some 0, some 0, some 1]) (JT.two_read (j_var (i := 3) (pv 3) rfl) (j_const (d := .str "cross") (rz := .own 99) rfl pe_str) rfl (atOp dEq_a) fun a b => pt_cmpR (o_eq hu) a b (nomark _))
    (jb_one (js_swap (κ1 := [some 0, some 1, some 99, some 0, some 0, some 1]) (i := 5) (J.less (j := 0) (k := 1) (j_tup (k' := 1) (ja_cons (jp_frz (κ1 := [some 0, some 1, some 99, some 0, some 0, some 1]) (i := 5) (n := 1) (k := 1) (jp_ix (κ1 := [some 0, some 1, some 99, some 0, some 0, some 1]) (κ2 := [some 0, some 1, some 99, some 0, some 0, some 1]) (i := 5) (n := 0) (k := 1) hu (jp_var (i := 5) (k := 1) (pv 5) rfl) (J.two_read (rz := .own 99) (j_var (i := 4) (pv 4) rfl) (j_const (d := .int 1) (rz := .own 99) rfl pe_int) rfl (atOp dAdd_a) fun a b => pe_op o_add a b) (fun _ _ => rfl) rfl) rfl (by decide) rfl) (ja_cons (jp_frz (κ1 := [some 0, some 1, some 99, some 0, some 0, some 1]) (i := 5) (n := 1) (k := 1) (jp_ix (κ1 := [some 0, some 1, some 99, some 0, some 0, some 1]) (κ2 := [some 0, some 1, some 99, some 0, some 0, some 1]) (i := 5) (n := 0) (k := 1) hu (jp_var (i := 5) (k := 1) (pv 5) rfl) (j_var (i := 4) (pv 4) rfl) (fun _ _ => rfl) rfl) rfl (by decide) rfl) ja_nil rfl rfl) rfl rfl) rfl) (by decide)) (j_var (i := 4) (pv 4) rfl) (J.two_read (rz := .own 99) (j_var (i := 4) (pv 4) rfl) (j_const (d := .int 1) (rz := .own 99) rfl pe_int) rfl (atOp dAdd_a) fun a b => pe_op o_add a b) rfl fun h ha hb => ps_asg h (pg_tup rfl (pgs_cons (pg_sub (pv 5) ha set_list) (pgs_cons (pg_sub (pv 5) hb set_list) pgs_nil)))))
    (jb_cons (js_exp (j_mut (κ1 := [some 0, some 1, some 99, some 0, some 0, some 1]) (i := 5) (k0 := 1) (ja_cons (J.less (j := 0) (k := 99) (J.asAtom (z' := .own 99) (j_var (i := 4) (pv 4) rfl)) (by decide)) ja_nil rfl rfl) rfl rfl rfl u_popAt fun h => pe_bm PySem.F.plainAttrs_list PySem.F.slot_list_pop PySem.F.type_list_pop mt_popAt (pv 5) h) rfl)
    (jb_one (js_exp (j_mut (κ1 := [some 0, some 1, some 99, some 0, some 0, some 1]) (i := 5) (k0 := 1) (ja_cons (J.less (j := 0) (k := 99) (J.asAtom (z' := .own 99) (j_var (i := 4) (pv 4) rfl)) (by decide)) ja_nil rfl rfl) rfl rfl rfl u_popAt fun h => pe_bm PySem.F.plainAttrs_list PySem.F.slot_list_pop PySem.F.type_list_pop mt_popAt (pv 5) h) rfl))))))
    (jb_one (js_app (i := 1) (k := 1) (j_frz (κ := [some 0, some 1, some 99, some 0, some 0, some 1]) (i := 5) (k := 1) (pv 5) rfl rfl) rfl rfl (by decide) (by exact Nat.le_of_ble_eq_true rfl) fun h => ps_expr (pe_bm PySem.F.plainAttrs_list PySem.F.slot_list_append PySem.F.type_list_append mt_append (pv 1) (pa_cons h pa_nil)))))) rfl rfl rfl rfl) rfl (fun _ => rfl)) rfl rfl rfl rfl)
    (jb_one (js_ret (κ1 := [some 0, none, some 99, none, none, none]) (j_mov (κ := [some 0, some 1, some 99, none, none, none]) (i := 1) (k := 1) (pv 1) rfl) rfl rfl)))))
/-! _law_whole -/
abbrev s__law_whole : Stmt := topS 23
abbrev N__law_whole : List Str := ["_law_thing"]
abbrev p__law_whole : List Str := ["_law_thing"]
abbrev sg__law_whole : Sg := ⟨[0], 99, [none]⟩
def m__law_whole : SM := (sRet (mAnd (mIsT "int" (mV 0)) (mNot (mIsT "bool" (mV 0)))))
def F__law_whole : FM := fM 1 1 sg__law_whole.ks' m__law_whole
theorem sc__law_whole : FnScope N__law_whole p__law_whole (defScope s__law_whole) := ⟨rfl, rfl, rfl, by decide +kernel, rfl, by decide +kernel, by decide +kernel⟩
theorem ok__law_whole (G : Gs mg) {fa : Addr} {fd : FuncData} (F : FnP K "_law_whole" s__law_whole fa fd) (hm : mg "_law_whole" = some (.ref fa)) : Has P w K mg base "_law_whole" 1 p__law_whole sg__law_whole F__law_whole := by
  refine has_mk (k := 0) (n := 1) F hm sc__law_whole rfl rfl (by decide) rfl (fun _ _ _ _ _ _ us hl => match us, hl with | [_], _ => rfl) fun cdv A outer s H E hr => ?_
  have hu := units_of hr
  exact (jb_one (js_ret (κ1 := [some 0]) (j_and (j_isi (rz' := .own 99) (T := "int") (j_var (i := 0) (pv 0) rfl) rfl (by rfl) G.isinstance (by rfl) G.int (by decide +kernel) (by decide) (by decide) rfl) (j_and1 (j_not (rz' := .own 99) (j_isi (rz' := .own 99) (T := "bool") (j_var (i := 0) (pv 0) rfl) rfl (by rfl) G.isinstance (by rfl) G.bool (by decide +kernel) (by decide) (by decide) rfl))) rfl rfl) rfl rfl))
/-! _law_numbers -/
abbrev s__law_numbers : Stmt := topS 24
abbrev N__law_numbers : List Str := ["_law_thing", "_law_one"]
abbrev p__law_numbers : List Str := ["_law_thing"]
abbrev sg__law_numbers : Sg := ⟨[0], 99, [none]⟩
def m__law_numbers : SM := (sRet (mAnd (mIsT "list" (mV 0)) (mB fAll (mCons (mLc (true && (true && true)) [1] (mSeq (mV 0)) (gNm 1) mYes (mCall F__law_whole (mCons (mV 1) mNil))) mNil))))
def F__law_numbers : FM := fM 1 2 sg__law_numbers.ks' m__law_numbers
theorem sc__law_numbers : FnScope N__law_numbers p__law_numbers (defScope s__law_numbers) := ⟨rfl, rfl, rfl, by decide +kernel, rfl, by decide +kernel, by decide +kernel⟩
theorem ok__law_numbers (G : Gs mg) (h__law_whole : Has P w K mg base "_law_whole" 1 p__law_whole sg__law_whole F__law_whole) {fa : Addr} {fd : FuncData} (F : FnP K "_law_numbers" s__law_numbers fa fd) (hm : mg "_law_numbers" = some (.ref fa)) : Has P w K mg base "_law_numbers" 2 p__law_numbers sg__law_numbers F__law_numbers := by
  refine has_mk (k := 1) (n := 2) F hm sc__law_numbers rfl rfl (by decide) rfl (fun _ _ _ _ _ _ us hl => match us, hl with | [_], _ => rfl) fun cdv A outer s H E hr => ?_
  have hu := units_of hr
  exact (jb_one (js_ret (κ1 := [some 0, none]) (j_and (j_isi (rz' := .own 99) (T := "list") (j_var (i := 0) (pv 0) rfl) rfl (by rfl) G.isinstance (by rfl) G.list (by decide +kernel) (by decide) (by decide) rfl) (j_and1 (j_callA (rz := .own 99) (ja_cons (j_lc (k := 99) (own := [("_law_one", 1)]) rfl sc__law_numbers.nd (ji_seq (j_frz (κ := [some 0, none]) (i := 0) (k := 0) (pv 0) rfl rfl)) (blkOk_by (N := N__law_numbers) (sc := defScope s__law_numbers) (own := [("_law_one", 1)]) (by decide +kernel)) (fun _ _ _ _ _ => (jg_name (i := 1) sc__law_numbers.nd rfl (by first | exact .inl rfl | exact .inr rfl) (by first | exact .inr rfl | exact .inl rfl))) (fun _ _ _ _ _ => jts_nil) (fun _ _ _ _ _ => (call_pure (n := 1) (r := 99) (rz := .own 99) (ja_cons (j_var (i := 1) (pv 1) rfl) ja_nil rfl rfl) rfl (fun _ _ _ => fM_len _ _ _) (fun h => has_call h__law_whole hr (by decide) (by rfl) h (by rfl) (by rfl) (by rfl)) (.inr ⟨rfl, by decide⟩))) (fun _ => rfl) (by decide) rfl rfl rfl rfl rfl) ja_nil rfl rfl) rfl at_all fun h => pe_callB (CallR.en (cr_all rfl)) (by rfl) G.all (by decide +kernel) h)) rfl rfl) rfl rfl))
/-! _law_pieces -/
abbrev s__law_pieces : Stmt := topS 25
abbrev N__law_pieces : List Str := ["_law_drawing_here", "_law_rows_here", "_law_found", "_law_order", "_law_t", "_law_letter", "_law_thread", "_law_both", "_law_one", "_law_row"]
abbrev p__law_pieces : List Str := ["_law_drawing_here"]
abbrev sg__law_pieces : Sg := ⟨[0], 99, [none]⟩
def b__law_pieces_0 : SM := (sIf (m2 dEq (m2 dIx (mV 5) (mC (.int 0))) (mC (.str "end")))
  (sSeq (sAsg 7 (mMk .srt (mCons (mLst (mCons (m2 dIxP (mV 2) (m2 dIx (m2 dIx (mV 1) (mV 4)) (m2 dIx (mV 5) (mC (.int 1))))) (mCons (m2 dIxP (mV 2) (m2 dIx (m2 dIx (mV 1) (mV 4)) (m2 dAdd (m2 dIx (mV 5) (mC (.int 1))) (mC (.int 1))))) mNil))) mNil)))
  (sAsg 2 (mLc (true && (true && true)) [8] (mSeq (mV 2)) (gNm 8) mYes (m2 dIxP (mLst (mCons (mV 8) (mCons (m2 dIxP (mV 7) (mC (.int 0))) mNil))) (mB fInt (mCons (m2 dEq (mV 8) (m2 dIx (mV 7) (mC (.int 1)))) mNil))))))
  sNil)
def m__law_pieces : SM := (sSeq (sAsg 1 (mCallO F__law_rows (none) (mCons (mV 0) mNil)))
  (sSeq (sAsg 2 (mLc (true && (true && true)) [6] (mRng1 (mCons (mB fMax1 (mCons (m2 dCat (mLst (mCons (mC (.int 0)) mNil)) (mLc (true && (true && true)) [9] (mSeq (mV 1)) (gNm 9) (m2 dNe (mV 9) (mLst mNil)) (m2 dAdd (mC (.int 1)) (mB fMax1 (mCons (mV 9) mNil))))) mNil)) mNil)) (gNm 6) mYes (m2 dDiv (mV 6) (mC (.int 2)))))
  (sSeq (sFor (mEnum (mCons (mV 0) mNil)) (gTp (gsCons (gNm 4) (gsCons (gNm 5) gsNil)))
  b__law_pieces_0)
  (sSeq (sAsg 3 (mSrtS (mV 2)))
  (sRet (mLc (true && (true && true)) [8] (mSeq (mV 2)) (gNm 8) mYes (m2 dIdx (mV 3) (mV 8))))))))
def F__law_pieces : FM := fM 1 10 sg__law_pieces.ks' m__law_pieces
theorem sc__law_pieces : FnScope N__law_pieces p__law_pieces (defScope s__law_pieces) := ⟨rfl, rfl, rfl, by decide +kernel, rfl, by decide +kernel, by decide +kernel⟩
theorem ok__law_pieces (G : Gs mg) (h__law_rows : Has P w K mg base "_law_rows" 1 p__law_rows sg__law_rows F__law_rows) {fa : Addr} {fd : FuncData} (F : FnP K "_law_pieces" s__law_pieces fa fd) (hm : mg "_law_pieces" = some (.ref fa)) : Has P w K mg base "_law_pieces" 2 p__law_pieces sg__law_pieces F__law_pieces := by
  refine has_mk (k := 1) (n := 10) F hm sc__law_pieces rfl rfl (by decide) rfl (fun _ _ _ _ _ _ us hl => match us, hl with | [_], _ => rfl) fun cdv A outer s H E hr => ?_
  have hu := units_of hr
  exact (jb_cons (js_set (κ1 := [some 0, none, none, none, none, none, none, none, none, none]) (i := 1) (k := 1) (call_own (sg := sg__law_rows) (io := none) (ja_cons (j_frz (κ := [some 0, none, none, none, none, none, none, none, none, none]) (i := 0) (k := 0) (pv 0) rfl rfl) ja_nil rfl rfl) rfl rfl rfl (fun _ _ _ h => (fM_len _ _ _ h).2.trans (fM_len _ _ _ h).1.symm) (fun h => has_call h__law_rows hr (by decide) (by rfl) h (by rfl) (by rfl) (by rfl))) sc__law_pieces.nd rfl (by first | exact .inl rfl | exact .inr rfl) rfl (.inl rfl) rfl)
    (jb_cons (js_lc (κ1 := [some 0, some 1, none, none, none, none, none, none, none, none]) (i := 2) (k := 99) (own := [("_law_thread", 6)]) rfl sc__law_pieces.nd rfl rfl (sw_true rfl rfl rfl (by decide +kernel)) (ji_range1 (ja_cons (j_callA (rz := .own 99) (ja_cons (j_cat (j_lst (k := 0) (k' := 99) (ja_cons (j_const (d := .int 0) (rz := .own 99) rfl pe_int) ja_nil rfl rfl) rfl (by decide)) (J.borrow (κ0 := [some 0, some 1, none, none, none, none, none, none, none, none]) (κ1 := [some 0, some 0, none, none, none, none, none, none, none, none]) (j_lc (k := 99) (own := [("_law_row", 9)]) rfl sc__law_pieces.nd (ji_seq (j_frz (κ := [some 0, some 1, none, none, none, none, none, none, none, none]) (i := 1) (k := 1) (pv 1) rfl rfl)) (blkOk_by (N := N__law_pieces) (sc := defScope s__law_pieces) (own := [("_law_row", 9)]) (by decide +kernel)) (fun _ _ _ _ _ => (jg_name (i := 9) sc__law_pieces.nd rfl (by first | exact .inl rfl | exact .inr rfl) (by first | exact .inr rfl | exact .inl rfl))) (fun _ _ _ _ _ => (jts_one (JT.two_read (j_var (i := 9) (pv 9) rfl) (j_lst (k := 0) (k' := 99) ja_nil rfl (by decide)) rfl (atOp dNe_a) fun a b => pt_cmpR (o_ne hu) a b (nomark _)))) (fun _ _ _ _ _ => (J.two_read (rz := .own 99) (j_const (d := .int 1) (rz := .own 99) rfl pe_int) (j_callA (rz := .own 99) (ja_cons (j_var (i := 9) (pv 9) rfl) ja_nil rfl rfl) rfl at_max1 fun h => pe_callB (CallR.en (cr_max rfl)) (by rfl) G.max (by decide +kernel) h) rfl (atOp dAdd_a) fun a b => pe_op o_add a b)) (fun _ => rfl) (by decide) rfl rfl rfl rfl rfl) rfl rfl) rfl fun a b => pe_op o_cat a b) ja_nil rfl rfl) rfl at_max1 fun h => pe_callB (CallR.en (cr_max rfl)) (by rfl) G.max (by decide +kernel) h) ja_nil rfl rfl) rfl (by rfl) G.range rfl) (blkOk_by (N := N__law_pieces) (sc := defScope s__law_pieces) (own := [("_law_thread", 6)]) (by decide +kernel)) (fun _ _ _ _ _ => (jg_name (i := 6) sc__law_pieces.nd rfl (by first | exact .inl rfl | exact .inr rfl) (by first | exact .inr rfl | exact .inl rfl))) (fun _ _ _ _ _ => jts_nil) (fun _ _ _ _ _ => (J.two_read (rz := .own 99) (j_var (i := 6) (pv 6) rfl) (j_const (d := .int 2) (rz := .own 99) rfl pe_int) rfl (atOp (dI_a fun _ _ => rfl)) fun a b => pe_op o_div a b)) (fun _ => rfl) (by decide) rfl rfl rfl rfl rfl rfl)
    (jb_cons (JS.weak (κ1 := [some 0, some 1, some 1, none, none, none, none, none, none, none]) (κn := [some 0, some 1, some 1, none, none, none, none, none, none, none]) (κn' := [some 0, some 1, some 1, none, none, none, none, none, none, none]) (js_for (κ1 := [some 0, some 1, some 1, none, none, none, none, none, none, none]) PassesOwn.never rfl (ji_enum (ja_cons (j_frz (κ := [some 0, some 1, some 1, none, none, none, none, none, none, none]) (i := 0) (k := 0) (pv 0) rfl rfl) ja_nil rfl rfl) (by rfl) G.enumerate rfl) (jg_tup (n := 2) rfl (jgs_cons (jg_name (i := 4) sc__law_pieces.nd rfl (by first | exact .inl rfl | exact .inr rfl) (.inl rfl)) (jgs_cons (jg_name (i := 5) sc__law_pieces.nd rfl (by first | exact .inl rfl | exact .inr rfl) (.inl rfl)) jgs_nil fun a b => pgs_cons a b) fun a b => pgs_cons a b) rfl rfl (gs_lenS (gs_lenS gs_len0)))
    (JB.weak (κ1 := [some 0, some 1, some 1, none, some 0, some 0, none, none, none, none]) (κn := [some 0, some 1, some 1, none, some 0, some 0, none, none, none, none]) (jb_one (js_if (κ1 := [some 0, some 1, some 1, none, some 0, some 0, none, none, none, none]) (κ2 := [some 0, some 1, some 1, none, some 0, some 0, none, none, none, none]) (JT.two_read (j_ix hu (j_var (i := 5) (pv 5) rfl) (j_const (d := .int 0) (rz := .own 99) rfl pe_int) rfl (fun _ _ => rfl)) (j_const (d := .str "end") (rz := .own 99) rfl pe_str) rfl (atOp dEq_a) fun a b => pt_cmpR (o_eq hu) a b (nomark _))
    (JB.weak (κ1 := [some 0, some 1, some 1, none, some 0, some 0, none, none, none, none]) (κn := [some 0, some 1, some 1, none, some 0, some 0, none, some 1, none, none]) (jb_cons (js_set (κ1 := [some 0, some 1, some 1, none, some 0, some 0, none, none, none, none]) (i := 7) (k := 1) (j_mkO (k := .srt) (ja_cons (J.less (j := 0) (k := 1) (j_lst (k := 0) (k' := 1) (ja_cons (jp_frz (κ1 := [some 0, some 1, some 1, none, some 0, some 0, none, none, none, none]) (i := 2) (n := 1) (k := 1) (jp_ix (κ1 := [some 0, some 1, some 1, none, some 0, some 0, none, none, none, none]) (κ2 := [some 0, some 1, some 1, none, some 0, some 0, none, none, none, none]) (i := 2) (n := 0) (k := 1) hu (jp_var (i := 2) (k := 1) (pv 2) rfl) (j_ix hu (j_ix hu (j_var (i := 1) (pv 1) rfl) (j_var (i := 4) (pv 4) rfl) rfl (fun _ _ => rfl)) (j_ix hu (j_var (i := 5) (pv 5) rfl) (j_const (d := .int 1) (rz := .own 99) rfl pe_int) rfl (fun _ _ => rfl)) rfl (fun _ _ => rfl)) (fun _ _ => rfl) rfl) rfl (by decide) rfl) (ja_cons (jp_frz (κ1 := [some 0, some 1, some 1, none, some 0, some 0, none, none, none, none]) (i := 2) (n := 1) (k := 1) (jp_ix (κ1 := [some 0, some 1, some 1, none, some 0, some 0, none, none, none, none]) (κ2 := [some 0, some 1, some 1, none, some 0, some 0, none, none, none, none]) (i := 2) (n := 0) (k := 1) hu (jp_var (i := 2) (k := 1) (pv 2) rfl) (j_ix hu (j_ix hu (j_var (i := 1) (pv 1) rfl) (j_var (i := 4) (pv 4) rfl) rfl (fun _ _ => rfl)) (J.two_read (rz := .own 99) (j_ix hu (j_var (i := 5) (pv 5) rfl) (j_const (d := .int 1) (rz := .own 99) rfl pe_int) rfl (fun _ _ => rfl)) (j_const (d := .int 1) (rz := .own 99) rfl pe_int) rfl (atOp dAdd_a) fun a b => pe_op o_add a b) rfl (fun _ _ => rfl)) (fun _ _ => rfl) rfl) rfl (by decide) rfl) ja_nil rfl rfl) rfl rfl) rfl (by decide)) (by decide)) ja_nil rfl rfl) fun h => pe_callB (cr_srt hu) (by rfl) G.sorted (by decide +kernel) h) sc__law_pieces.nd rfl (by first | exact .inl rfl | exact .inr rfl) rfl (.inl rfl) rfl)
    (jb_one (js_lc (κ1 := [some 0, some 1, some 0, none, some 0, some 0, none, some 1, none, none]) (i := 2) (k := 1) (own := [("_law_one", 8)]) rfl sc__law_pieces.nd rfl rfl (sw_true rfl rfl rfl (by decide +kernel)) (ji_seq (j_frz (κ := [some 0, some 1, some 1, none, some 0, some 0, none, some 1, none, none]) (i := 2) (k := 1) (pv 2) rfl rfl)) (blkOk_by (N := N__law_pieces) (sc := defScope s__law_pieces) (own := [("_law_one", 8)]) (by decide +kernel)) (fun _ _ _ _ _ => (jg_name (i := 8) sc__law_pieces.nd rfl (by first | exact .inl rfl | exact .inr rfl) (by first | exact .inr rfl | exact .inl rfl))) (fun _ _ _ _ _ => jts_nil) (fun _ _ _ _ _ => (j_ix0 hu (J.less (j := 0) (k := 1) (j_lst (k := 0) (k' := 1) (ja_cons (j_frz (κ := [some 0, some 1, some 0, none, some 0, some 0, none, some 1, some 0, none]) (i := 8) (k := 0) (pv 8) rfl rfl) (ja_cons (jp_frz (κ1 := [some 0, some 1, some 0, none, some 0, some 0, none, some 1, some 0, none]) (i := 7) (n := 1) (k := 1) (jp_ix (κ1 := [some 0, some 1, some 0, none, some 0, some 0, none, some 1, some 0, none]) (κ2 := [some 0, some 1, some 0, none, some 0, some 0, none, some 1, some 0, none]) (i := 7) (n := 0) (k := 1) hu (jp_var (i := 7) (k := 1) (pv 7) rfl) (j_const (d := .int 0) (rz := .own 99) rfl pe_int) (fun _ _ => rfl) rfl) rfl (by decide) rfl) ja_nil rfl rfl) rfl rfl) rfl (by decide)) (by decide)) (j_callA (rz := .own 99) (ja_cons (J.two_read (rz := .own 99) (j_var (i := 8) (pv 8) rfl) (j_ix hu (j_var (i := 7) (pv 7) rfl) (j_const (d := .int 1) (rz := .own 99) rfl pe_int) rfl (fun _ _ => rfl)) rfl (atOp dEq_a) fun a b => pe_cmpR (o_eq hu) a b (nomark _)) ja_nil rfl rfl) rfl at_int fun h => pe_callTy (CallR.en call_int1) (by rfl) G.int (by decide +kernel) h) (fun _ _ => rfl))) (fun _ => rfl) (by decide) rfl rfl rfl rfl rfl rfl))) rfl rfl rfl rfl)
    jb_nil)) rfl rfl rfl rfl) rfl (fun _ => rfl)) rfl rfl rfl rfl)
    (jb_cons (js_set (κ1 := [some 0, some 1, some 0, none, none, none, none, none, none, none]) (i := 3) (k := 1) (j_srtS rfl (j_frz (κ := [some 0, some 1, some 1, none, none, none, none, none, none, none]) (i := 2) (k := 1) (pv 2) rfl rfl) (by rfl) G.sorted (by rfl) G.set rfl rfl) sc__law_pieces.nd rfl (by first | exact .inl rfl | exact .inr rfl) rfl (.inl rfl) rfl)
    (jb_one (js_ret (κ1 := [some 0, some 1, some 0, some 1, none, none, none, none, none, none]) (j_lc (k := 99) (own := [("_law_one", 8)]) rfl sc__law_pieces.nd (ji_seq (j_frz (κ := [some 0, some 1, some 0, some 1, none, none, none, none, none, none]) (i := 2) (k := 0) (pv 2) rfl rfl)) (blkOk_by (N := N__law_pieces) (sc := defScope s__law_pieces) (own := [("_law_one", 8)]) (by decide +kernel)) (fun _ _ _ _ _ => (jg_name (i := 8) sc__law_pieces.nd rfl (by first | exact .inl rfl | exact .inr rfl) (by first | exact .inr rfl | exact .inl rfl))) (fun _ _ _ _ _ => jts_nil) (fun _ _ _ _ _ => (j_idx (rz := .own 99) (j_var (i := 3) (pv 3) rfl) (j_var (i := 8) (pv 8) rfl) rfl fun o a => pe_bm PySem.F.plainAttrs_list PySem.F.slot_list_index PySem.F.type_list_index mt_idx o (pa_cons a pa_nil))) (fun _ => rfl) (by decide) rfl rfl rfl rfl rfl) rfl rfl))))))
/-! _law_right -/
abbrev s__law_right : Stmt := topS 26
abbrev N__law_right : List Str := ["_law_drawing_here", "_law_due", "_law_handed", "_law_turn", "_law_told"]
abbrev p__law_right : List Str := ["_law_drawing_here"]
abbrev sg__law_right : Sg := ⟨[0], 99, [none]⟩
def b__law_right_0 : SM := (sSeq (sAsg 4 (mCallO F_pieces (none) (mCons (mV 2) mNil)))
  (sSeq (sIf (mOr (m2 dNe (mV 4) (mV 1)) (mOr (mNot (mTr (mCall F__law_numbers (mCons (mV 4) mNil)))) (m2 dNe (mV 2) (mV 0))))
  (sRet (mC (.bl false)))
  sNil)
  (sSeq (sApp 4 (mC (.int 0)))
  (sRev 4))))
def m__law_right : SM := (sSeq (sAsg 1 (mCall F__law_pieces (mCons (mV 0) mNil)))
  (sSeq (sAsg 2 (mMk .lst (mCons (mV 0) mNil)))
  (sSeq (sFor (mRng1 (mCons (mC (.int 2)) mNil)) (gNm 3)
  b__law_right_0)
  (sRet (mC (.bl true))))))
def F__law_right : FM := fM 1 5 sg__law_right.ks' m__law_right
theorem sc__law_right : FnScope N__law_right p__law_right (defScope s__law_right) := ⟨rfl, rfl, rfl, by decide +kernel, rfl, by decide +kernel, by decide +kernel⟩
theorem ok__law_right (G : Gs mg) (h__law_pieces : Has P w K mg base "_law_pieces" 2 p__law_pieces sg__law_pieces F__law_pieces) (h_pieces : Has P w K mg base "pieces" 6 p_pieces sg_pieces F_pieces) (h__law_numbers : Has P w K mg base "_law_numbers" 2 p__law_numbers sg__law_numbers F__law_numbers) {fa : Addr} {fd : FuncData} (F : FnP K "_law_right" s__law_right fa fd) (hm : mg "_law_right" = some (.ref fa)) : Has P w K mg base "_law_right" 7 p__law_right sg__law_right F__law_right := by
  refine has_mk (k := 6) (n := 5) F hm sc__law_right rfl rfl (by decide) rfl (fun _ _ _ _ _ _ us hl => match us, hl with | [_], _ => rfl) fun cdv A outer s H E hr => ?_
  have hu := units_of hr
  exact (jb_cons (js_set (κ1 := [some 0, none, none, none, none]) (i := 1) (k := 99) (call_pure (n := 1) (r := 99) (rz := .own 99) (ja_cons (j_var (i := 0) (pv 0) rfl) ja_nil rfl rfl) rfl (fun _ _ _ => fM_len _ _ _) (fun h => has_call h__law_pieces hr (by decide) (by rfl) h (by rfl) (by rfl) (by rfl)) (.inr ⟨rfl, by decide⟩)) sc__law_right.nd rfl (by first | exact .inl rfl | exact .inr rfl) rfl (.inl rfl) rfl)
    (jb_cons (js_set (κ1 := [some 0, some 99, none, none, none]) (i := 2) (k := 1) (j_mkO (k := .lst) (ja_cons (j_frz (κ := [some 0, some 99, none, none, none]) (i := 0) (k := 0) (pv 0) rfl rfl) ja_nil rfl rfl) fun h => pe_callTy call_list_of (by rfl) G.list (by decide +kernel) h) sc__law_right.nd rfl (by first | exact .inl rfl | exact .inr rfl) rfl (.inl rfl) rfl)
    (jb_cons (JS.weak (κ1 := [some 0, some 99, some 0, none, none]) (κn := [some 0, some 99, some 0, none, none]) (κn' := [some 0, some 99, some 0, none, none]) (js_for (κ1 := [some 0, some 99, some 0, none, none]) PassesOwn.never rfl (ji_range1 (ja_cons (j_const (d := .int 2) (rz := .own 99) rfl pe_int) ja_nil rfl rfl) rfl (by rfl) G.range rfl) (jg_name (i := 3) sc__law_right.nd rfl (by first | exact .inl rfl | exact .inr rfl) (.inl rfl))
    (JB.weak (κ1 := [some 0, some 99, some 0, some 0, none]) (κn := [some 0, some 99, some 0, some 0, some 1]) (jb_cons (js_set (κ1 := [some 0, some 99, some 0, some 0, none]) (i := 4) (k := 1) (call_own (sg := sg_pieces) (io := none) (ja_cons (j_frz (κ := [some 0, some 99, some 0, some 0, none]) (i := 2) (k := 0) (pv 2) rfl rfl) ja_nil rfl rfl) rfl rfl rfl (fun _ _ _ h => (fM_len _ _ _ h).2.trans (fM_len _ _ _ h).1.symm) (fun h => has_call h_pieces hr (by decide) (by rfl) h (by rfl) (by rfl) (by rfl))) sc__law_right.nd rfl (by first | exact .inl rfl | exact .inr rfl) rfl (.inl rfl) rfl)
    (jb_cons (js_if (κ1 := [some 0, some 99, some 0, some 0, some 1]) (κ2 := [some 0, some 99, some 0, some 0, some 1]) (JW.jt (jw_or (JT.two_read (j_var (i := 4) (pv 4) rfl) (j_var (i := 1) (pv 1) rfl) rfl (atOp dNe_a) fun a b => pt_cmpR (o_ne hu) a b (nomark _)) (jw_or (jt_not (jt_val (call_pure (n := 1) (r := 99) (rz := .rep) (ja_cons (j_var (i := 4) (pv 4) rfl) ja_nil rfl rfl) rfl (fun _ _ _ => fM_len _ _ _) (fun h => has_call h__law_numbers hr (by decide) (by rfl) h (by rfl) (by rfl) (by rfl)) (.inl rfl)) (fun _ => rfl))) (jw_or1 (JT.two_read (j_var (i := 2) (pv 2) rfl) (j_var (i := 0) (pv 0) rfl) rfl (atOp dNe_a) fun a b => pt_cmpR (o_ne hu) a b (nomark _))) rfl rfl) rfl rfl))
    (jb_one (js_ret (κ1 := [some 0, some 99, some 0, some 0, some 1]) (j_const (d := .bl false) (rz := .own 99) rfl pe_bl) rfl rfl))
    jb_nil)
    (jb_cons (js_app (i := 4) (k := 1) (J.less (j := 0) (k := 99) (j_const (d := .int 0) (rz := .own 99) rfl pe_int) (by decide)) rfl rfl (by decide) (by exact Nat.le_of_ble_eq_true rfl) fun h => ps_expr (pe_bm PySem.F.plainAttrs_list PySem.F.slot_list_append PySem.F.type_list_append mt_append (pv 4) (pa_cons h pa_nil)))
    (jb_one (js_rev (i := 4) rfl (ps_expr (pe_bm0 PySem.F.plainAttrs_list PySem.F.slot_list_reverse PySem.F.type_list_reverse mt_reverse (pv 4)))))))) rfl rfl rfl rfl) rfl (fun _ => rfl)) rfl rfl rfl rfl)
    (jb_one (js_ret (κ1 := [some 0, some 99, some 0, none, none]) (j_const (d := .bl true) (rz := .own 99) rfl pe_bl) rfl rfl)))))
/-! law -/
abbrev s_law : Stmt := topS 27
abbrev N_law : List Str := ["_law_script", "_law_at"]
abbrev p_law : List Str := ["_law_script"]
abbrev sg_law : Sg := ⟨[0], 99, [none]⟩
def b_law_0 : SM := (sIf (mNot (mTr (mCall F__law_right (mCons (mCallO F__law_any (none) (mCons (mCall F__law_bag (mCons (mV 0) (mCons (mV 1) mNil))) (mCons (mC (.int 12)) mNil))) mNil))))
  (sRet (mC (.bl false)))
  sNil)
def m_law : SM := (sSeq (sFor (mRng1 (mCons (mB fMax2 (mCons (mC (.int 3)) (mCons (mB fMin2 (mCons (mB fLen (mCons (mV 0) mNil)) (mCons (mC (.int 8)) mNil))) mNil))) mNil)) (gNm 1)
  b_law_0)
  (sRet (mCall F__law_right (mCons (mLst mNil) mNil))))
def F_law : FM := fM 1 2 sg_law.ks' m_law
theorem sc_law : FnScope N_law p_law (defScope s_law) := ⟨rfl, rfl, rfl, by decide +kernel, rfl, by decide +kernel, by decide +kernel⟩
theorem ok_law (G : Gs mg) (h__law_bag : Has P w K mg base "_law_bag" 1 p__law_bag sg__law_bag F__law_bag) (h__law_any : Has P w K mg base "_law_any" 3 p__law_any sg__law_any F__law_any) (h__law_right : Has P w K mg base "_law_right" 7 p__law_right sg__law_right F__law_right) {fa : Addr} {fd : FuncData} (F : FnP K "law" s_law fa fd) : FnOk P w K mg base CX0 8 fa fd p_law (fnSp K sg_law F_law) := by
  refine fn_mk (k := 7) (n := 2) F sc_law rfl rfl (by decide) rfl fun cdv A outer s H E hr => ?_
  have hu := units_of hr
  exact (jb_cons (js_for (κ1 := [some 0, none]) PassesOwn.never rfl (ji_range1 (ja_cons (j_callA (rz := .own 99) (ja_cons (j_const (d := .int 3) (rz := .own 99) rfl pe_int) (ja_cons (j_callA (rz := .own 99) (ja_cons (j_callA (rz := .own 99) (ja_cons (j_var (i := 0) (pv 0) rfl) ja_nil rfl rfl) rfl at_len fun h => pe_callB (CallR.en cr_len) (by rfl) G.len (by decide +kernel) h) (ja_cons (j_const (d := .int 8) (rz := .own 99) rfl pe_int) ja_nil rfl rfl) rfl rfl) rfl at_min2 fun h => pe_callB (CallR.en (call_min2 rfl)) (by rfl) G.min (by decide +kernel) h) ja_nil rfl rfl) rfl rfl) rfl at_max2 fun h => pe_callB (CallR.en (call_max2 rfl)) (by rfl) G.max (by decide +kernel) h) ja_nil rfl rfl) rfl (by rfl) G.range rfl) (jg_name (i := 1) sc_law.nd rfl (by first | exact .inl rfl | exact .inr rfl) (.inl rfl))
    (JB.weak (κ1 := [some 0, some 0]) (κn := [some 0, some 0]) (jb_one (js_if (κ1 := [some 0, some 0]) (κ2 := [some 0, some 0]) (jt_not (jt_val (call_pure (n := 1) (r := 99) (rz := .rep) (ja_cons (call_own (sg := sg__law_any) (io := none) (ja_cons (J.less (j := 1) (k := 99) (call_pure (n := 2) (r := 99) (rz := .own 99) (ja_cons (j_var (i := 0) (pv 0) rfl) (ja_cons (j_var (i := 1) (pv 1) rfl) ja_nil rfl rfl) rfl rfl) rfl (fun _ _ _ => fM_len _ _ _) (fun h => has_call h__law_bag hr (by decide) (by rfl) h (by rfl) (by rfl) (by rfl)) (.inr ⟨rfl, by decide⟩)) (by decide)) (ja_cons (J.less (j := 0) (k := 99) (j_const (d := .int 12) (rz := .own 99) rfl pe_int) (by decide)) ja_nil rfl rfl) rfl rfl) rfl rfl rfl (fun _ _ _ h => (fM_len _ _ _ h).2.trans (fM_len _ _ _ h).1.symm) (fun h => has_call h__law_any hr (by decide) (by rfl) h (by rfl) (by rfl) (by rfl))) ja_nil rfl rfl) rfl (fun _ _ _ => fM_len _ _ _) (fun h => has_call h__law_right hr (by decide) (by rfl) h (by rfl) (by rfl) (by rfl)) (.inl rfl)) (fun _ => rfl)))
    (jb_one (js_ret (κ1 := [some 0, some 0]) (j_const (d := .bl false) (rz := .own 99) rfl pe_bl) rfl rfl))
    jb_nil)) rfl rfl rfl rfl) rfl (fun _ => rfl))
    (jb_one (js_ret (κ1 := [some 0, none]) (call_pure (n := 1) (r := 99) (rz := .own 99) (ja_cons (j_lst (k := 0) (k' := 99) ja_nil rfl (by decide)) ja_nil rfl rfl) rfl (fun _ _ _ => fM_len _ _ _) (fun h => has_call h__law_right hr (by decide) (by rfl) h (by rfl) (by rfl) (by rfl)) (.inr ⟨rfl, by decide⟩)) rfl rfl)))
end L_k05
namespace L_k05
open PySem VS L2
theorem take_ok (g s n : Int) (hn : 0 < n) (hn2 : n < 1073741824) (hs : 0 ≤ s) (hs2 : s < 2147483647) : ∃ r g' s', F__law_take [.lst [.int g, .int s], .int n] = some (.int r, [.lst [.int g', .int s'], .int n]) ∧ 0 ≤ r ∧ r < n ∧ 0 ≤ s' ∧ s' < 2147483647 := by
  by_cases hg : 0 < g
  · refine ⟨g % n, g / n, s, ?_, Int.emod_nonneg _ (by omega), Int.emod_lt_of_pos _ hn, hs, hs2⟩
    simp [F__law_take, m__law_take, sg__law_take, ap_v, ap_c, ap_2, ap_A, ap_nil, ap_cons, ap_lst, ap_tup, ap_B, ap_call, ap_callN, ap_callO, ap_T, ap_isT, ap_not, ap_neg, ap_and, ap_or, ap_if, ap_ch, ap_seq, ap_snil, ap_sif, ap_ret, ap_retN, ap_asg, ap_exp, ap_tgt, ap_app, ap_rev, ap_set, ap_aug, ap_for, ap_forM, ap_rng1, ap_rng2, ap_mseq, ap_enum, ap_lc, ap_yes, ap_gnm, ap_gtp, ap_gnil, ap_gcons, ap_fM, ap_on, ap_oc, r_add, r_sub, r_mul, r_div, r_mod, r_pow, r_lt, r_le, r_gt, r_ge, r_eqI, r_eqS, r_neI, r_neS, r_ixL, r_ixT, r_ixR, r_ipL, r_ipT, r_len, r_lenT, r_lenR, r_abs, r_max, r_min, a_int, a_bl, a_str, a_non, t_bl, List.map_cons, List.map_nil, List.length_cons, List.length_nil, List.replicate, List.cons_append, List.nil_append, List.getElem?_cons_zero, List.getElem?_cons_succ, List.set_cons_zero, List.set_cons_succ, List.getElem?_nil, Nat.reduceSub, Nat.reduceAdd, Nat.reduceEqDiff, decide_true, decide_false, ap_mk, ap_mut, ap_swap, ap_putI, ap_ev2, ap_keys, ap_mD, ap_put, ap_get2, ap_disp, ap_dsN, ap_dsC, ap_srtD, ap_sl, ap_oS, ap_oN, r_catI, r_mkL, r_mkLT, r_mkT, ap_gtpL, atI, ixN, hg, hn, hn2]
  · have e1 : cMul s 48271 = true := cMul_r (by omega)
    have e2 : ((s * 48271 + 11) % 2147483647 / 8).natAbs < 18446744073709551616 := by omega
    refine ⟨((s * 48271 + 11) % 2147483647 / 8) ^ 3 % 2147483629 % n, g, (s * 48271 + 11) % 2147483647, ?_, Int.emod_nonneg _ (by omega), Int.emod_lt_of_pos _ hn, Int.emod_nonneg _ (by omega), Int.emod_lt_of_pos _ (by omega)⟩
    simp [F__law_take, m__law_take, sg__law_take, ap_v, ap_c, ap_2, ap_A, ap_nil, ap_cons, ap_lst, ap_tup, ap_B, ap_call, ap_callN, ap_callO, ap_T, ap_isT, ap_not, ap_neg, ap_and, ap_or, ap_if, ap_ch, ap_seq, ap_snil, ap_sif, ap_ret, ap_retN, ap_asg, ap_exp, ap_tgt, ap_app, ap_rev, ap_set, ap_aug, ap_for, ap_forM, ap_rng1, ap_rng2, ap_mseq, ap_enum, ap_lc, ap_yes, ap_gnm, ap_gtp, ap_gnil, ap_gcons, ap_fM, ap_on, ap_oc, r_add, r_sub, r_mul, r_div, r_mod, r_pow, r_lt, r_le, r_gt, r_ge, r_eqI, r_eqS, r_neI, r_neS, r_ixL, r_ixT, r_ixR, r_ipL, r_ipT, r_len, r_lenT, r_lenR, r_abs, r_max, r_min, a_int, a_bl, a_str, a_non, t_bl, List.map_cons, List.map_nil, List.length_cons, List.length_nil, List.replicate, List.cons_append, List.nil_append, List.getElem?_cons_zero, List.getElem?_cons_succ, List.set_cons_zero, List.set_cons_succ, List.getElem?_nil, Nat.reduceSub, Nat.reduceAdd, Nat.reduceEqDiff, decide_true, decide_false, ap_mk, ap_mut, ap_swap, ap_putI, ap_ev2, ap_keys, ap_mD, ap_put, ap_get2, ap_disp, ap_dsN, ap_dsC, ap_srtD, ap_sl, ap_oS, ap_oN, r_catI, r_mkL, r_mkLT, r_mkT, ap_gtpL, atI, ixN, hg, hn, e1, e2]
theorem bag_ok (ns : List Int) (a : Nat) (ha : a < 1000) : ∃ g s, F__law_bag [.rol ns, .int a] = some (.lst [.int g, .int s], [.rol ns, .int a]) ∧ 0 ≤ s ∧ s < 2147483647 := by
  have key : ∀ c : Int, (c % 2147483647 + 104729 * (a : Int) + 7).natAbs < 18446744073709551616 := fun c => by omega
  have e1 : cMul 104729 (a : Int) = true := cMul_l (by omega)
  have e2 : ((10 : Int) ^ 18) = 1000000000000000000 := by decide
  have pr : ∀ x : Int, ∃ p : Int, 0 < p ∧ p ≤ 2147483647 ∧ atI [D.int 2147483629, .int 2147483587, .int 2147483579, .int 2147483563, .int 2147483549, .int 2147483543, .int 2147483497, .int 2147483489] ((a : Int) % 8) = some (.int p) := fun x => by
    have : (a : Int) % 8 = 0 ∨ (a : Int) % 8 = 1 ∨ (a : Int) % 8 = 2 ∨ (a : Int) % 8 = 3 ∨ (a : Int) % 8 = 4 ∨ (a : Int) % 8 = 5 ∨ (a : Int) % 8 = 6 ∨ (a : Int) % 8 = 7 := by omega
    rcases this with e | e | e | e | e | e | e | e <;> rw [e] <;> exact ⟨_, by decide, by decide, rfl⟩
  obtain ⟨p, p1, p2, ep⟩ := pr 0
  have fin : ∀ c : Int, 0 ≤ (c % 2147483647 + 104729 * (a : Int) + 7) ^ 5 % p ∧ (c % 2147483647 + 104729 * (a : Int) + 7) ^ 5 % p < 2147483647 := fun c => ⟨Int.emod_nonneg _ (by omega), by
    have := Int.emod_lt_of_pos ((c % 2147483647 + 104729 * (a : Int) + 7) ^ 5) p1
    omega⟩
  have kk : ∀ c : Int, ∃ g, F__law_bag [.rol ns, .int a] = F__law_bag [.rol ns, .int a] := fun c => ⟨0, rfl⟩
  by_cases hl : a < ns.length
  · have hc : atI ns (a : Int) = some ns[a] := by rw [at_nn hl, List.getElem?_eq_getElem hl]
    generalize ns[a] = c at hc
    have hl' : (a : Int) < (ns.length : Int) := by omega
    by_cases h18 : 1000000000000000000 ≤ (if c < 0 then -c else c)
    · refine ⟨if c < 0 then -c else c, _, ?_, fin c⟩
      simp [F__law_bag, m__law_bag, sg__law_bag, ap_v, ap_c, ap_2, ap_A, ap_nil, ap_cons, ap_lst, ap_tup, ap_B, ap_call, ap_callN, ap_callO, ap_T, ap_isT, ap_not, ap_neg, ap_and, ap_or, ap_if, ap_ch, ap_seq, ap_snil, ap_sif, ap_ret, ap_retN, ap_asg, ap_exp, ap_tgt, ap_app, ap_rev, ap_set, ap_aug, ap_for, ap_forM, ap_rng1, ap_rng2, ap_mseq, ap_enum, ap_lc, ap_yes, ap_gnm, ap_gtp, ap_gnil, ap_gcons, ap_fM, ap_on, ap_oc, r_add, r_sub, r_mul, r_div, r_mod, r_pow, r_lt, r_le, r_gt, r_ge, r_eqI, r_eqS, r_neI, r_neS, r_ixL, r_ixT, r_ixR, r_ipL, r_ipT, r_len, r_lenT, r_lenR, r_abs, r_max, r_min, a_int, a_bl, a_str, a_non, t_bl, List.map_cons, List.map_nil, List.length_cons, List.length_nil, List.replicate, List.cons_append, List.nil_append, List.getElem?_cons_zero, List.getElem?_cons_succ, List.set_cons_zero, List.set_cons_succ, List.getElem?_nil, Nat.reduceSub, Nat.reduceAdd, Nat.reduceEqDiff, decide_true, decide_false, ap_mk, ap_mut, ap_swap, ap_putI, ap_ev2, ap_keys, ap_mD, ap_put, ap_get2, ap_disp, ap_dsN, ap_dsC, ap_srtD, ap_sl, ap_oS, ap_oN, r_catI, r_mkL, r_mkLT, r_mkT, ap_gtpL, hc, hl', h18, e1, e2, key c, ep, p1]
    · refine ⟨0, _, ?_, fin c⟩
      simp [F__law_bag, m__law_bag, sg__law_bag, ap_v, ap_c, ap_2, ap_A, ap_nil, ap_cons, ap_lst, ap_tup, ap_B, ap_call, ap_callN, ap_callO, ap_T, ap_isT, ap_not, ap_neg, ap_and, ap_or, ap_if, ap_ch, ap_seq, ap_snil, ap_sif, ap_ret, ap_retN, ap_asg, ap_exp, ap_tgt, ap_app, ap_rev, ap_set, ap_aug, ap_for, ap_forM, ap_rng1, ap_rng2, ap_mseq, ap_enum, ap_lc, ap_yes, ap_gnm, ap_gtp, ap_gnil, ap_gcons, ap_fM, ap_on, ap_oc, r_add, r_sub, r_mul, r_div, r_mod, r_pow, r_lt, r_le, r_gt, r_ge, r_eqI, r_eqS, r_neI, r_neS, r_ixL, r_ixT, r_ixR, r_ipL, r_ipT, r_len, r_lenT, r_lenR, r_abs, r_max, r_min, a_int, a_bl, a_str, a_non, t_bl, List.map_cons, List.map_nil, List.length_cons, List.length_nil, List.replicate, List.cons_append, List.nil_append, List.getElem?_cons_zero, List.getElem?_cons_succ, List.set_cons_zero, List.set_cons_succ, List.getElem?_nil, Nat.reduceSub, Nat.reduceAdd, Nat.reduceEqDiff, decide_true, decide_false, ap_mk, ap_mut, ap_swap, ap_putI, ap_ev2, ap_keys, ap_mD, ap_put, ap_get2, ap_disp, ap_dsN, ap_dsC, ap_srtD, ap_sl, ap_oS, ap_oN, r_catI, r_mkL, r_mkLT, r_mkT, ap_gtpL, hc, hl', h18, e1, e2, key c, ep, p1]
  · have hl' : ¬ (a : Int) < (ns.length : Int) := by omega
    refine ⟨0, _, ?_, fin 0⟩
    have k0 := key 0
    simp only [Int.zero_emod, Int.zero_add] at k0
    simp [F__law_bag, m__law_bag, sg__law_bag, ap_v, ap_c, ap_2, ap_A, ap_nil, ap_cons, ap_lst, ap_tup, ap_B, ap_call, ap_callN, ap_callO, ap_T, ap_isT, ap_not, ap_neg, ap_and, ap_or, ap_if, ap_ch, ap_seq, ap_snil, ap_sif, ap_ret, ap_retN, ap_asg, ap_exp, ap_tgt, ap_app, ap_rev, ap_set, ap_aug, ap_for, ap_forM, ap_rng1, ap_rng2, ap_mseq, ap_enum, ap_lc, ap_yes, ap_gnm, ap_gtp, ap_gnil, ap_gcons, ap_fM, ap_on, ap_oc, r_add, r_sub, r_mul, r_div, r_mod, r_pow, r_lt, r_le, r_gt, r_ge, r_eqI, r_eqS, r_neI, r_neS, r_ixL, r_ixT, r_ixR, r_ipL, r_ipT, r_len, r_lenT, r_lenR, r_abs, r_max, r_min, a_int, a_bl, a_str, a_non, t_bl, List.map_cons, List.map_nil, List.length_cons, List.length_nil, List.replicate, List.cons_append, List.nil_append, List.getElem?_cons_zero, List.getElem?_cons_succ, List.set_cons_zero, List.set_cons_succ, List.getElem?_nil, Nat.reduceSub, Nat.reduceAdd, Nat.reduceEqDiff, decide_true, decide_false, ap_mk, ap_mut, ap_swap, ap_putI, ap_ev2, ap_keys, ap_mD, ap_put, ap_get2, ap_disp, ap_dsN, ap_dsC, ap_srtD, ap_sl, ap_oS, ap_oN, r_catI, r_mkL, r_mkLT, r_mkT, ap_gtpL, hl', e1, e2, k0, ep, p1]
/-- letters that lead from one many to another -/
def OkL : Int → List D → Int → Prop
  | m, [], m' => m = m'
  | m, d :: ds, m' => ∃ k : Int, (d = .tup [.str "born", .int k] ∧ 0 ≤ k ∧ k ≤ m ∧ OkL (m + 2) ds m') ∨ (d = .tup [.str "cross", .int k] ∧ 0 ≤ k ∧ k ≤ m - 2 ∧ OkL m ds m') ∨ (d = .tup [.str "end", .int k] ∧ 0 ≤ k ∧ k ≤ m - 2 ∧ OkL (m - 2) ds m')
theorem OkL.app : ∀ {xs ys : List D} {m m1 m2 : Int}, OkL m xs m1 → OkL m1 ys m2 → OkL m (xs ++ ys) m2
  | [], ys, m, m1, m2, h1, h2 => by cases (show m = m1 from h1); exact h2
  | d :: xs, ys, m, m1, m2, h1, h2 => by
    obtain ⟨k, ⟨h3, h4, h5, h6⟩ | ⟨h3, h4, h5, h6⟩ | ⟨h3, h4, h5, h6⟩⟩ := h1
    · exact ⟨k, .inl ⟨h3, h4, h5, h6.app h2⟩⟩
    · exact ⟨k, .inr (.inl ⟨h3, h4, h5, h6.app h2⟩)⟩
    · exact ⟨k, .inr (.inr ⟨h3, h4, h5, h6.app h2⟩)⟩
theorem OkL.born {k m : Int} (h1 : 0 ≤ k) (h2 : k ≤ m) : OkL m [.tup [.str "born", .int k]] (m + 2) := ⟨k, .inl ⟨rfl, h1, h2, rfl⟩⟩
theorem OkL.cross {k m : Int} (h1 : 0 ≤ k) (h2 : k ≤ m - 2) : OkL m [.tup [.str "cross", .int k]] m := ⟨k, .inr (.inl ⟨rfl, h1, h2, rfl⟩)⟩
theorem OkL.fin {k m : Int} (h1 : 0 ≤ k) (h2 : k ≤ m - 2) : OkL m [.tup [.str "end", .int k]] (m - 2) := ⟨k, .inr (.inr ⟨rfl, h1, h2, rfl⟩)⟩
def Bg (d : D) : Prop := ∃ g s : Int, d = .lst [.int g, .int s] ∧ 0 ≤ s ∧ s < 2147483647
theorem take_bg {d : D} (h : Bg d) (n : Int) (hn : 0 < n) (hn2 : n < 1073741824) : ∃ r d', F__law_take [d, .int n] = some (.int r, [d', .int n]) ∧ 0 ≤ r ∧ r < n ∧ Bg d' := by
  obtain ⟨g, s, rfl, h1, h2⟩ := h
  obtain ⟨r, g', s', e, h3, h4, h5, h6⟩ := take_ok g s n hn hn2 h1 h2
  exact ⟨r, _, e, h3, h4, g', s', rfl, h5, h6⟩
theorem born_ne : (("born" : Str) = "cross") = False ∧ (("born" : Str) = "end") = False ∧ (("cross" : Str) = "born") = False ∧ (("cross" : Str) = "end") = False ∧ (("end" : Str) = "born") = False ∧ (("end" : Str) = "cross") = False := by
  refine ⟨?_, ?_, ?_, ?_, ?_, ?_⟩ <;> exact eq_false (by decide)
def beh : Int → D → Option Int
  | m, .tup [.str w, .int k] => if w = "born" then (if 0 ≤ k ∧ k ≤ m ∧ m < 7 then some (m + 2) else none) else if w = "cross" then (if 0 ≤ k ∧ k + 2 ≤ m then some m else none) else if w = "end" then (if 0 ≤ k ∧ k + 2 ≤ m then some (m - 2) else none) else none
  | _, _ => none
def fo : Int → List D → Option Int
  | m, [] => some m
  | m, x :: xs => match beh m x with
    | some m1 => fo m1 xs
    | none => none
def wd : D → Str
  | .tup (.str x :: _) => x
  | _ => "born"
def cw (v : Str) (ls : List D) : Nat := (ls.map wd).countP fun x => decide (x = v)
theorem fo_app : ∀ (xs ys : List D) {m m1 : Int}, fo m xs = some m1 → fo m (xs ++ ys) = fo m1 ys
  | [], ys, m, m1, h => by cases h; rfl
  | x :: xs, ys, m, m1, h => by
    cases eb : beh m x with
    | none => simp [fo, eb] at h
    | some m2 =>
      have h' : fo m2 xs = some m1 := by simpa [fo, eb] using h
      show fo m (x :: (xs ++ ys)) = _
      rw [show fo m (x :: (xs ++ ys)) = fo m2 (xs ++ ys) by simp [fo, eb]]
      exact fo_app xs ys h'
theorem cw_snoc (v : Str) (ls : List D) (w : Str) (k : Int) : cw v (ls ++ [.tup [.str w, .int k]]) = cw v ls + (if w = v then 1 else 0) := by
  by_cases h : w = v <;> simp [cw, wd, h]
def Dv (ls : List D) (m l c b mo : Int) : Prop := fo 0 ls = some m ∧ (cw "born" ls : Int) + l ≤ b ∧ (cw "cross" ls : Int) + c ≤ mo ∧ 0 ≤ l ∧ 0 ≤ c
theorem Dv.born {ls : List D} {m l c b mo k : Int} (h : Dv ls m l c b mo) (h0 : 0 ≤ k) (h1 : k ≤ m) (h2 : m < 7) (h3 : 0 < l) : Dv (ls ++ [.tup [.str "born", .int k]]) (m + 2) (l - 1) c b mo := by
  obtain ⟨a1, a2, a3, a4, a5⟩ := h
  refine ⟨by rw [fo_app _ _ a1]; simp [fo, beh, h0, h1, h2], ?_, ?_, by omega, a5⟩
  · rw [cw_snoc, if_pos rfl]; omega
  · rw [cw_snoc, if_neg (by decide)]; omega
theorem Dv.cross {ls : List D} {m l c b mo k : Int} (h : Dv ls m l c b mo) (h0 : 0 ≤ k) (h1 : k ≤ m - 2) (h3 : 0 < c) : Dv (ls ++ [.tup [.str "cross", .int k]]) m l (c - 1) b mo := by
  obtain ⟨a1, a2, a3, a4, a5⟩ := h
  have h2 : k + 2 ≤ m := by omega
  refine ⟨by rw [fo_app _ _ a1]; simp [fo, beh, h0, h2, born_ne], ?_, ?_, a4, by omega⟩
  · rw [cw_snoc, if_neg (by decide)]; omega
  · rw [cw_snoc, if_pos rfl]; omega
theorem Dv.fin {ls : List D} {m l c b mo k : Int} (h : Dv ls m l c b mo) (h0 : 0 ≤ k) (h1 : k ≤ m - 2) : Dv (ls ++ [.tup [.str "end", .int k]]) (m - 2) l c b mo := by
  obtain ⟨a1, a2, a3, a4, a5⟩ := h
  have h2 : k + 2 ≤ m := by omega
  refine ⟨by rw [fo_app _ _ a1]; simp [fo, beh, h0, h2, born_ne], ?_, ?_, a4, a5⟩
  · rw [cw_snoc, if_neg (by decide)]; omega
  · rw [cw_snoc, if_neg (by decide)]; omega
def I0 (b mo : Int) (k : Nat) (ρ : DE) : Prop := ∃ (bg : D) (ls : List D) (m l c : Int) (x y : Option D), ρ = [some bg, some (.int b), some (.int mo), some (.lst ls), some (.int m), some (.int l), some (.int c), x, y] ∧ Bg bg ∧ Dv ls m l c b mo ∧ m % 2 = 0 ∧ 0 ≤ m ∧ m ≤ 8 ∧ ls.length ≤ k
theorem draw_step (b mo : Int) (k : Nat) (hk : k < 1000) (d : D) (ρ : DE) (h : I0 b mo k ρ) : ∃ ρ1 ρ2, gNm 7 d ρ = some ρ1 ∧ b__law_drawing_0 ρ1 = some (.nx ρ2) ∧ I0 b mo (k + 1) ρ2 := by
  obtain ⟨bg, ls, m, l, c, x, y, rfl, hb, ho, h2, h3, h4, h5⟩ := h
  refine ⟨[some bg, some (.int b), some (.int mo), some (.lst ls), some (.int m), some (.int l), some (.int c), some d, y], ?_⟩
  obtain ⟨w, bg1, e1, w0, w1, hb1⟩ := take_bg hb 8 (by omega) (by omega)
  have hl : ls.length < 16777216 := by omega
  by_cases c1 : 0 < l ∧ m < 7 ∧ (m = 0 ∨ w = 0)
  · obtain ⟨q, bg2, e2, q0, q1, hb2⟩ := take_bg hb1 (m + 1) (by omega) (by omega)
    refine ⟨[some bg2, some (.int b), some (.int mo), some (.lst (ls ++ [.tup [.str "born", .int q]])), some (.int (m + 2)), some (.int (l - 1)), some (.int c), some d, some (.int w)], rfl, ?_, ⟨_, _, _, _, _, _, _, rfl, hb2, ho.born q0 (by omega) (by omega) (by omega), by omega, by omega, by omega, by simp; omega⟩⟩
    obtain ⟨c2, c3, c4⟩ := c1
    by_cases c5 : m = 0
    · subst c5
      simp only [Int.zero_add] at e2
      simp [b__law_drawing_0, ap_v, ap_c, ap_2, ap_A, ap_nil, ap_cons, ap_lst, ap_tup, ap_B, ap_call, ap_callN, ap_callO, ap_T, ap_isT, ap_not, ap_neg, ap_and, ap_or, ap_if, ap_ch, ap_seq, ap_snil, ap_sif, ap_ret, ap_retN, ap_asg, ap_exp, ap_tgt, ap_app, ap_rev, ap_set, ap_aug, ap_for, ap_forM, ap_rng1, ap_rng2, ap_mseq, ap_enum, ap_lc, ap_yes, ap_gnm, ap_gtp, ap_gnil, ap_gcons, ap_fM, ap_on, ap_oc, r_add, r_sub, r_mul, r_div, r_mod, r_pow, r_lt, r_le, r_gt, r_ge, r_eqI, r_eqS, r_neI, r_neS, r_ixL, r_ixT, r_ixR, r_ipL, r_ipT, r_len, r_lenT, r_lenR, r_abs, r_max, r_min, a_int, a_bl, a_str, a_non, t_bl, List.map_cons, List.map_nil, List.length_cons, List.length_nil, List.replicate, List.cons_append, List.nil_append, List.getElem?_cons_zero, List.getElem?_cons_succ, List.set_cons_zero, List.set_cons_succ, List.getElem?_nil, Nat.reduceSub, Nat.reduceAdd, Nat.reduceEqDiff, decide_true, decide_false, ap_mk, ap_mut, ap_swap, ap_putI, ap_ev2, ap_keys, ap_mD, ap_put, ap_get2, ap_disp, ap_dsN, ap_dsC, ap_srtD, ap_sl, ap_oS, ap_oN, r_catI, r_mkL, r_mkLT, r_mkT, ap_gtpL, e1, e2, c2, c3, hl]
    · have c6 := c4.resolve_left c5
      subst c6
      simp [b__law_drawing_0, ap_v, ap_c, ap_2, ap_A, ap_nil, ap_cons, ap_lst, ap_tup, ap_B, ap_call, ap_callN, ap_callO, ap_T, ap_isT, ap_not, ap_neg, ap_and, ap_or, ap_if, ap_ch, ap_seq, ap_snil, ap_sif, ap_ret, ap_retN, ap_asg, ap_exp, ap_tgt, ap_app, ap_rev, ap_set, ap_aug, ap_for, ap_forM, ap_rng1, ap_rng2, ap_mseq, ap_enum, ap_lc, ap_yes, ap_gnm, ap_gtp, ap_gnil, ap_gcons, ap_fM, ap_on, ap_oc, r_add, r_sub, r_mul, r_div, r_mod, r_pow, r_lt, r_le, r_gt, r_ge, r_eqI, r_eqS, r_neI, r_neS, r_ixL, r_ixT, r_ixR, r_ipL, r_ipT, r_len, r_lenT, r_lenR, r_abs, r_max, r_min, a_int, a_bl, a_str, a_non, t_bl, List.map_cons, List.map_nil, List.length_cons, List.length_nil, List.replicate, List.cons_append, List.nil_append, List.getElem?_cons_zero, List.getElem?_cons_succ, List.set_cons_zero, List.set_cons_succ, List.getElem?_nil, Nat.reduceSub, Nat.reduceAdd, Nat.reduceEqDiff, decide_true, decide_false, ap_mk, ap_mut, ap_swap, ap_putI, ap_ev2, ap_keys, ap_mD, ap_put, ap_get2, ap_disp, ap_dsN, ap_dsC, ap_srtD, ap_sl, ap_oS, ap_oN, r_catI, r_mkL, r_mkLT, r_mkT, ap_gtpL, e1, e2, c2, c3, c5, hl]
  · have n1 : ∀ (α : Type) (u v : α), (if 0 < l ∧ m < 7 ∧ (m = 0 ∨ w = 0) then u else v) = v := fun _ _ _ => if_neg c1
    have first : ∀ (z : SM) (ρ : DE), ρ[5]? = some (some (.int l)) → ρ[4]? = some (some (.int m)) → ρ[8]? = some (some (.int w)) → mAnd (m2 dGt (mV 5) (mC (.int 0))) (mAnd (m2 dLt (mV 4) (mC (.int 7))) (mOr (m2 dEq (mV 4) (mC (.int 0))) (m2 dEq (mV 8) (mC (.int 0))))) ρ = some (.bl false, ρ) := by
      intro z ρ a1 a2 a3
      by_cases d1 : 0 < l
      · by_cases d2 : m < 7
        · have d3 : m ≠ 0 := fun z => c1 ⟨d1, d2, .inl z⟩
          have d4 : w ≠ 0 := fun z => c1 ⟨d1, d2, .inr z⟩
          simp [ap_v, ap_c, ap_2, ap_A, ap_nil, ap_cons, ap_lst, ap_tup, ap_B, ap_call, ap_callN, ap_callO, ap_T, ap_isT, ap_not, ap_neg, ap_and, ap_or, ap_if, ap_ch, ap_seq, ap_snil, ap_sif, ap_ret, ap_retN, ap_asg, ap_exp, ap_tgt, ap_app, ap_rev, ap_set, ap_aug, ap_for, ap_forM, ap_rng1, ap_rng2, ap_mseq, ap_enum, ap_lc, ap_yes, ap_gnm, ap_gtp, ap_gnil, ap_gcons, ap_fM, ap_on, ap_oc, r_add, r_sub, r_mul, r_div, r_mod, r_pow, r_lt, r_le, r_gt, r_ge, r_eqI, r_eqS, r_neI, r_neS, r_ixL, r_ixT, r_ixR, r_ipL, r_ipT, r_len, r_lenT, r_lenR, r_abs, r_max, r_min, a_int, a_bl, a_str, a_non, t_bl, List.map_cons, List.map_nil, List.length_cons, List.length_nil, List.replicate, List.cons_append, List.nil_append, List.getElem?_cons_zero, List.getElem?_cons_succ, List.set_cons_zero, List.set_cons_succ, List.getElem?_nil, Nat.reduceSub, Nat.reduceAdd, Nat.reduceEqDiff, decide_true, decide_false, ap_mk, ap_mut, ap_swap, ap_putI, ap_ev2, ap_keys, ap_mD, ap_put, ap_get2, ap_disp, ap_dsN, ap_dsC, ap_srtD, ap_sl, ap_oS, ap_oN, r_catI, r_mkL, r_mkLT, r_mkT, ap_gtpL, a1, a2, a3, d1, d2, d3, d4]
        · simp [ap_v, ap_c, ap_2, ap_A, ap_nil, ap_cons, ap_lst, ap_tup, ap_B, ap_call, ap_callN, ap_callO, ap_T, ap_isT, ap_not, ap_neg, ap_and, ap_or, ap_if, ap_ch, ap_seq, ap_snil, ap_sif, ap_ret, ap_retN, ap_asg, ap_exp, ap_tgt, ap_app, ap_rev, ap_set, ap_aug, ap_for, ap_forM, ap_rng1, ap_rng2, ap_mseq, ap_enum, ap_lc, ap_yes, ap_gnm, ap_gtp, ap_gnil, ap_gcons, ap_fM, ap_on, ap_oc, r_add, r_sub, r_mul, r_div, r_mod, r_pow, r_lt, r_le, r_gt, r_ge, r_eqI, r_eqS, r_neI, r_neS, r_ixL, r_ixT, r_ixR, r_ipL, r_ipT, r_len, r_lenT, r_lenR, r_abs, r_max, r_min, a_int, a_bl, a_str, a_non, t_bl, List.map_cons, List.map_nil, List.length_cons, List.length_nil, List.replicate, List.cons_append, List.nil_append, List.getElem?_cons_zero, List.getElem?_cons_succ, List.set_cons_zero, List.set_cons_succ, List.getElem?_nil, Nat.reduceSub, Nat.reduceAdd, Nat.reduceEqDiff, decide_true, decide_false, ap_mk, ap_mut, ap_swap, ap_putI, ap_ev2, ap_keys, ap_mD, ap_put, ap_get2, ap_disp, ap_dsN, ap_dsC, ap_srtD, ap_sl, ap_oS, ap_oN, r_catI, r_mkL, r_mkLT, r_mkT, ap_gtpL, a1, a2, a3, d1, d2]
      · simp [ap_v, ap_c, ap_2, ap_A, ap_nil, ap_cons, ap_lst, ap_tup, ap_B, ap_call, ap_callN, ap_callO, ap_T, ap_isT, ap_not, ap_neg, ap_and, ap_or, ap_if, ap_ch, ap_seq, ap_snil, ap_sif, ap_ret, ap_retN, ap_asg, ap_exp, ap_tgt, ap_app, ap_rev, ap_set, ap_aug, ap_for, ap_forM, ap_rng1, ap_rng2, ap_mseq, ap_enum, ap_lc, ap_yes, ap_gnm, ap_gtp, ap_gnil, ap_gcons, ap_fM, ap_on, ap_oc, r_add, r_sub, r_mul, r_div, r_mod, r_pow, r_lt, r_le, r_gt, r_ge, r_eqI, r_eqS, r_neI, r_neS, r_ixL, r_ixT, r_ixR, r_ipL, r_ipT, r_len, r_lenT, r_lenR, r_abs, r_max, r_min, a_int, a_bl, a_str, a_non, t_bl, List.map_cons, List.map_nil, List.length_cons, List.length_nil, List.replicate, List.cons_append, List.nil_append, List.getElem?_cons_zero, List.getElem?_cons_succ, List.set_cons_zero, List.set_cons_succ, List.getElem?_nil, Nat.reduceSub, Nat.reduceAdd, Nat.reduceEqDiff, decide_true, decide_false, ap_mk, ap_mut, ap_swap, ap_putI, ap_ev2, ap_keys, ap_mD, ap_put, ap_get2, ap_disp, ap_dsN, ap_dsC, ap_srtD, ap_sl, ap_oS, ap_oN, r_catI, r_mkL, r_mkLT, r_mkT, ap_gtpL, a1, a2, a3, d1]
    by_cases c2 : 1 < m ∧ w = 1
    · obtain ⟨q, bg2, e2, q0, q1, hb2⟩ := take_bg hb1 (m - 1) (by omega) (by omega)
      refine ⟨[some bg2, some (.int b), some (.int mo), some (.lst (ls ++ [.tup [.str "end", .int q]])), some (.int (m - 2)), some (.int l), some (.int c), some d, some (.int w)], rfl, ?_, ⟨_, _, _, _, _, _, _, rfl, hb2, ho.fin q0 (by omega), by omega, by omega, by omega, by simp; omega⟩⟩
      obtain ⟨c3, rfl⟩ := c2
      have f1 := first sNil [some bg1, some (.int b), some (.int mo), some (.lst ls), some (.int m), some (.int l), some (.int c), some d, some (.int 1)] rfl rfl rfl
      simp only [b__law_drawing_0, ap_seq, ap_sif, ap_asg, ap_callO, ap_cons, ap_nil, ap_c, ap_v, List.getElem?_cons_zero, List.getElem?_cons_succ, List.set_cons_zero, List.set_cons_succ, e1, f1]
      simp [ap_v, ap_c, ap_2, ap_A, ap_nil, ap_cons, ap_lst, ap_tup, ap_B, ap_call, ap_callN, ap_callO, ap_T, ap_isT, ap_not, ap_neg, ap_and, ap_or, ap_if, ap_ch, ap_seq, ap_snil, ap_sif, ap_ret, ap_retN, ap_asg, ap_exp, ap_tgt, ap_app, ap_rev, ap_set, ap_aug, ap_for, ap_forM, ap_rng1, ap_rng2, ap_mseq, ap_enum, ap_lc, ap_yes, ap_gnm, ap_gtp, ap_gnil, ap_gcons, ap_fM, ap_on, ap_oc, r_add, r_sub, r_mul, r_div, r_mod, r_pow, r_lt, r_le, r_gt, r_ge, r_eqI, r_eqS, r_neI, r_neS, r_ixL, r_ixT, r_ixR, r_ipL, r_ipT, r_len, r_lenT, r_lenR, r_abs, r_max, r_min, a_int, a_bl, a_str, a_non, t_bl, List.map_cons, List.map_nil, List.length_cons, List.length_nil, List.replicate, List.cons_append, List.nil_append, List.getElem?_cons_zero, List.getElem?_cons_succ, List.set_cons_zero, List.set_cons_succ, List.getElem?_nil, Nat.reduceSub, Nat.reduceAdd, Nat.reduceEqDiff, decide_true, decide_false, ap_mk, ap_mut, ap_swap, ap_putI, ap_ev2, ap_keys, ap_mD, ap_put, ap_get2, ap_disp, ap_dsN, ap_dsC, ap_srtD, ap_sl, ap_oS, ap_oN, r_catI, r_mkL, r_mkLT, r_mkT, ap_gtpL, e2, c3, hl]
    · by_cases c3 : 1 < m ∧ 0 < c
      · obtain ⟨q, bg2, e2, q0, q1, hb2⟩ := take_bg hb1 (m - 1) (by omega) (by omega)
        refine ⟨[some bg2, some (.int b), some (.int mo), some (.lst (ls ++ [.tup [.str "cross", .int q]])), some (.int m), some (.int l), some (.int (c - 1)), some d, some (.int w)], rfl, ?_, ⟨_, _, _, _, _, _, _, rfl, hb2, ho.cross q0 (by omega) (by omega), by omega, by omega, by omega, by simp; omega⟩⟩
        obtain ⟨c4, c5⟩ := c3
        have c6 : w ≠ 1 := fun z => c2 ⟨c4, z⟩
        have f1 := first sNil [some bg1, some (.int b), some (.int mo), some (.lst ls), some (.int m), some (.int l), some (.int c), some d, some (.int w)] rfl rfl rfl
        simp only [b__law_drawing_0, ap_seq, ap_sif, ap_asg, ap_callO, ap_cons, ap_nil, ap_c, ap_v, List.getElem?_cons_zero, List.getElem?_cons_succ, List.set_cons_zero, List.set_cons_succ, e1, f1]
        simp [ap_v, ap_c, ap_2, ap_A, ap_nil, ap_cons, ap_lst, ap_tup, ap_B, ap_call, ap_callN, ap_callO, ap_T, ap_isT, ap_not, ap_neg, ap_and, ap_or, ap_if, ap_ch, ap_seq, ap_snil, ap_sif, ap_ret, ap_retN, ap_asg, ap_exp, ap_tgt, ap_app, ap_rev, ap_set, ap_aug, ap_for, ap_forM, ap_rng1, ap_rng2, ap_mseq, ap_enum, ap_lc, ap_yes, ap_gnm, ap_gtp, ap_gnil, ap_gcons, ap_fM, ap_on, ap_oc, r_add, r_sub, r_mul, r_div, r_mod, r_pow, r_lt, r_le, r_gt, r_ge, r_eqI, r_eqS, r_neI, r_neS, r_ixL, r_ixT, r_ixR, r_ipL, r_ipT, r_len, r_lenT, r_lenR, r_abs, r_max, r_min, a_int, a_bl, a_str, a_non, t_bl, List.map_cons, List.map_nil, List.length_cons, List.length_nil, List.replicate, List.cons_append, List.nil_append, List.getElem?_cons_zero, List.getElem?_cons_succ, List.set_cons_zero, List.set_cons_succ, List.getElem?_nil, Nat.reduceSub, Nat.reduceAdd, Nat.reduceEqDiff, decide_true, decide_false, ap_mk, ap_mut, ap_swap, ap_putI, ap_ev2, ap_keys, ap_mD, ap_put, ap_get2, ap_disp, ap_dsN, ap_dsC, ap_srtD, ap_sl, ap_oS, ap_oN, r_catI, r_mkL, r_mkLT, r_mkT, ap_gtpL, e2, c4, c5, c6, hl]
      · refine ⟨[some bg1, some (.int b), some (.int mo), some (.lst ls), some (.int m), some (.int l), some (.int c), some d, some (.int w)], rfl, ?_, ⟨_, _, _, _, _, _, _, rfl, hb1, ho, by omega, by omega, by omega, by omega⟩⟩
        have f1 := first sNil [some bg1, some (.int b), some (.int mo), some (.lst ls), some (.int m), some (.int l), some (.int c), some d, some (.int w)] rfl rfl rfl
        simp only [b__law_drawing_0, ap_seq, ap_sif, ap_asg, ap_callO, ap_cons, ap_nil, ap_c, ap_v, List.getElem?_cons_zero, List.getElem?_cons_succ, List.set_cons_zero, List.set_cons_succ, e1, f1]
        by_cases c4 : 1 < m
        · have c5 : w ≠ 1 := fun z => c2 ⟨c4, z⟩
          have c6 : ¬ 0 < c := fun z => c3 ⟨c4, z⟩
          simp [ap_v, ap_c, ap_2, ap_A, ap_nil, ap_cons, ap_lst, ap_tup, ap_B, ap_call, ap_callN, ap_callO, ap_T, ap_isT, ap_not, ap_neg, ap_and, ap_or, ap_if, ap_ch, ap_seq, ap_snil, ap_sif, ap_ret, ap_retN, ap_asg, ap_exp, ap_tgt, ap_app, ap_rev, ap_set, ap_aug, ap_for, ap_forM, ap_rng1, ap_rng2, ap_mseq, ap_enum, ap_lc, ap_yes, ap_gnm, ap_gtp, ap_gnil, ap_gcons, ap_fM, ap_on, ap_oc, r_add, r_sub, r_mul, r_div, r_mod, r_pow, r_lt, r_le, r_gt, r_ge, r_eqI, r_eqS, r_neI, r_neS, r_ixL, r_ixT, r_ixR, r_ipL, r_ipT, r_len, r_lenT, r_lenR, r_abs, r_max, r_min, a_int, a_bl, a_str, a_non, t_bl, List.map_cons, List.map_nil, List.length_cons, List.length_nil, List.replicate, List.cons_append, List.nil_append, List.getElem?_cons_zero, List.getElem?_cons_succ, List.set_cons_zero, List.set_cons_succ, List.getElem?_nil, Nat.reduceSub, Nat.reduceAdd, Nat.reduceEqDiff, decide_true, decide_false, ap_mk, ap_mut, ap_swap, ap_putI, ap_ev2, ap_keys, ap_mD, ap_put, ap_get2, ap_disp, ap_dsN, ap_dsC, ap_srtD, ap_sl, ap_oS, ap_oN, r_catI, r_mkL, r_mkLT, r_mkT, ap_gtpL, c4, c5, c6]
        · simp [ap_v, ap_c, ap_2, ap_A, ap_nil, ap_cons, ap_lst, ap_tup, ap_B, ap_call, ap_callN, ap_callO, ap_T, ap_isT, ap_not, ap_neg, ap_and, ap_or, ap_if, ap_ch, ap_seq, ap_snil, ap_sif, ap_ret, ap_retN, ap_asg, ap_exp, ap_tgt, ap_app, ap_rev, ap_set, ap_aug, ap_for, ap_forM, ap_rng1, ap_rng2, ap_mseq, ap_enum, ap_lc, ap_yes, ap_gnm, ap_gtp, ap_gnil, ap_gcons, ap_fM, ap_on, ap_oc, r_add, r_sub, r_mul, r_div, r_mod, r_pow, r_lt, r_le, r_gt, r_ge, r_eqI, r_eqS, r_neI, r_neS, r_ixL, r_ixT, r_ixR, r_ipL, r_ipT, r_len, r_lenT, r_lenR, r_abs, r_max, r_min, a_int, a_bl, a_str, a_non, t_bl, List.map_cons, List.map_nil, List.length_cons, List.length_nil, List.replicate, List.cons_append, List.nil_append, List.getElem?_cons_zero, List.getElem?_cons_succ, List.set_cons_zero, List.set_cons_succ, List.getElem?_nil, Nat.reduceSub, Nat.reduceAdd, Nat.reduceEqDiff, decide_true, decide_false, ap_mk, ap_mut, ap_swap, ap_putI, ap_ev2, ap_keys, ap_mD, ap_put, ap_get2, ap_disp, ap_dsN, ap_dsC, ap_srtD, ap_sl, ap_oS, ap_oN, r_catI, r_mkL, r_mkLT, r_mkT, ap_gtpL, c4]
def I1 (b mo : Int) (k : Nat) (ρ : DE) : Prop := ∃ (bg : D) (ls : List D) (m l c : Int) (x y : Option D), ρ = [some bg, some (.int b), some (.int mo), some (.lst ls), some (.int m), some (.int l), some (.int c), x, y] ∧ Bg bg ∧ Dv ls m l c b mo ∧ m = 2 * (k : Int) ∧ ls.length + k ≤ 60
theorem draw_ok {bg : D} (hb : Bg bg) (b mo : Int) (h0 : 0 < b) (h1 : b < 1000) (h2 : 0 ≤ mo) (h3 : mo < 1000) : ∃ ls bg', F__law_drawing [bg, .int b, .int mo] = some (.lst ls, [bg', .int b, .int mo]) ∧ Bg bg' ∧ (fo 0 ls = some 0 ∧ (cw "born" ls : Int) ≤ b ∧ (cw "cross" ls : Int) ≤ mo) ∧ ls.length ≤ 60 := by
  obtain ⟨r1, bg1, e1, u1, u2, hb1⟩ := take_bg hb b h0 (by omega)
  obtain ⟨r2, bg2, e2, u3, u4, hb2⟩ := take_bg hb1 (mo + 1) (by omega) (by omega)
  obtain ⟨ρ3, e3, i3⟩ := itF_inv (mg := gNm 7) (mb := b__law_drawing_0) (I0 b mo) (rngD 0 30) 0 [some bg2, some (.int b), some (.int mo), some (.lst []), some (.int 0), some (.int (1 + r1)), some (.int r2), none, none]
    (fun i d ed ρ hi => draw_step b mo (0 + i) (by have := (List.getElem?_eq_some_iff.mp ed).1; simp [rngD] at this; omega) d ρ hi) ⟨_, _, _, _, _, _, _, rfl, hb2, ⟨rfl, by simp [cw]; omega, by simp [cw]; omega, by omega, by omega⟩, by omega, by omega, by omega, by simp⟩
  obtain ⟨bg3, ls, m, l, c, x, y, rfl, hb3, ho, k2, k3, k4, k5⟩ := i3
  obtain ⟨ρ4, e4, i4⟩ := itW_inv (mc := m2 dGt (mV 4) (mC (.int 0))) (mb := b__law_drawing_1) (I1 b mo) (fun k ρ h => by
      obtain ⟨bg, ls, m, l, c, x, y, rfl, hb, ho, hm, hl⟩ := h
      obtain ⟨q, bg2, e2, q0, q1, hb2⟩ := take_bg hb (m - 1) (by omega) (by omega)
      have hl' : ls.length < 16777216 := by omega
      have hm' : 0 < m := by omega
      refine ⟨[some bg, some (.int b), some (.int mo), some (.lst ls), some (.int m), some (.int l), some (.int c), x, y], [some bg2, some (.int b), some (.int mo), some (.lst (ls ++ [.tup [.str "end", .int q]])), some (.int (m - 2)), some (.int l), some (.int c), x, y], ?_, ?_, ⟨_, _, _, _, _, _, _, rfl, hb2, ho.fin q0 (by omega), by omega, by simp; omega⟩⟩
      · simp [ap_v, ap_c, ap_2, ap_A, ap_nil, ap_cons, ap_lst, ap_tup, ap_B, ap_call, ap_callN, ap_callO, ap_T, ap_isT, ap_not, ap_neg, ap_and, ap_or, ap_if, ap_ch, ap_seq, ap_snil, ap_sif, ap_ret, ap_retN, ap_asg, ap_exp, ap_tgt, ap_app, ap_rev, ap_set, ap_aug, ap_for, ap_forM, ap_rng1, ap_rng2, ap_mseq, ap_enum, ap_lc, ap_yes, ap_gnm, ap_gtp, ap_gnil, ap_gcons, ap_fM, ap_on, ap_oc, r_add, r_sub, r_mul, r_div, r_mod, r_pow, r_lt, r_le, r_gt, r_ge, r_eqI, r_eqS, r_neI, r_neS, r_ixL, r_ixT, r_ixR, r_ipL, r_ipT, r_len, r_lenT, r_lenR, r_abs, r_max, r_min, a_int, a_bl, a_str, a_non, t_bl, List.map_cons, List.map_nil, List.length_cons, List.length_nil, List.replicate, List.cons_append, List.nil_append, List.getElem?_cons_zero, List.getElem?_cons_succ, List.set_cons_zero, List.set_cons_succ, List.getElem?_nil, Nat.reduceSub, Nat.reduceAdd, Nat.reduceEqDiff, decide_true, decide_false, ap_mk, ap_mut, ap_swap, ap_putI, ap_ev2, ap_keys, ap_mD, ap_put, ap_get2, ap_disp, ap_dsN, ap_dsC, ap_srtD, ap_sl, ap_oS, ap_oN, r_catI, r_mkL, r_mkLT, r_mkT, ap_gtpL, hm']
      · simp [b__law_drawing_1, ap_v, ap_c, ap_2, ap_A, ap_nil, ap_cons, ap_lst, ap_tup, ap_B, ap_call, ap_callN, ap_callO, ap_T, ap_isT, ap_not, ap_neg, ap_and, ap_or, ap_if, ap_ch, ap_seq, ap_snil, ap_sif, ap_ret, ap_retN, ap_asg, ap_exp, ap_tgt, ap_app, ap_rev, ap_set, ap_aug, ap_for, ap_forM, ap_rng1, ap_rng2, ap_mseq, ap_enum, ap_lc, ap_yes, ap_gnm, ap_gtp, ap_gnil, ap_gcons, ap_fM, ap_on, ap_oc, r_add, r_sub, r_mul, r_div, r_mod, r_pow, r_lt, r_le, r_gt, r_ge, r_eqI, r_eqS, r_neI, r_neS, r_ixL, r_ixT, r_ixR, r_ipL, r_ipT, r_len, r_lenT, r_lenR, r_abs, r_max, r_min, a_int, a_bl, a_str, a_non, t_bl, List.map_cons, List.map_nil, List.length_cons, List.length_nil, List.replicate, List.cons_append, List.nil_append, List.getElem?_cons_zero, List.getElem?_cons_succ, List.set_cons_zero, List.set_cons_succ, List.getElem?_nil, Nat.reduceSub, Nat.reduceAdd, Nat.reduceEqDiff, decide_true, decide_false, ap_mk, ap_mut, ap_swap, ap_putI, ap_ev2, ap_keys, ap_mD, ap_put, ap_get2, ap_disp, ap_dsN, ap_dsC, ap_srtD, ap_sl, ap_oS, ap_oN, r_catI, r_mkL, r_mkLT, r_mkT, ap_gtpL, e2, hl'])
    (fun ρ h => by
      obtain ⟨bg, ls, m, l, c, x, y, rfl, hb, ho, hm, hl⟩ := h
      have hm' : ¬ 0 < m := by omega
      exact ⟨[some bg, some (.int b), some (.int mo), some (.lst ls), some (.int m), some (.int l), some (.int c), x, y], by simp [ap_v, ap_c, ap_2, ap_A, ap_nil, ap_cons, ap_lst, ap_tup, ap_B, ap_call, ap_callN, ap_callO, ap_T, ap_isT, ap_not, ap_neg, ap_and, ap_or, ap_if, ap_ch, ap_seq, ap_snil, ap_sif, ap_ret, ap_retN, ap_asg, ap_exp, ap_tgt, ap_app, ap_rev, ap_set, ap_aug, ap_for, ap_forM, ap_rng1, ap_rng2, ap_mseq, ap_enum, ap_lc, ap_yes, ap_gnm, ap_gtp, ap_gnil, ap_gcons, ap_fM, ap_on, ap_oc, r_add, r_sub, r_mul, r_div, r_mod, r_pow, r_lt, r_le, r_gt, r_ge, r_eqI, r_eqS, r_neI, r_neS, r_ixL, r_ixT, r_ixR, r_ipL, r_ipT, r_len, r_lenT, r_lenR, r_abs, r_max, r_min, a_int, a_bl, a_str, a_non, t_bl, List.map_cons, List.map_nil, List.length_cons, List.length_nil, List.replicate, List.cons_append, List.nil_append, List.getElem?_cons_zero, List.getElem?_cons_succ, List.set_cons_zero, List.set_cons_succ, List.getElem?_nil, Nat.reduceSub, Nat.reduceAdd, Nat.reduceEqDiff, decide_true, decide_false, ap_mk, ap_mut, ap_swap, ap_putI, ap_ev2, ap_keys, ap_mD, ap_put, ap_get2, ap_disp, ap_dsN, ap_dsC, ap_srtD, ap_sl, ap_oS, ap_oN, r_catI, r_mkL, r_mkLT, r_mkT, ap_gtpL, hm'], _, _, _, _, _, _, _, rfl, hb, ho, hm, hl⟩)
    (m / 2).toNat 100000 _ (by omega) ⟨bg3, ls, m, l, c, x, y, rfl, hb3, ho, by omega, by simp [rngD] at k5; omega⟩
  obtain ⟨bg4, ls4, m4, l4, c4, x4, y4, rfl, hb4, ho4, hm4, hl4⟩ := i4
  have hm4' : m4 = 0 := by omega
  subst hm4'
  obtain ⟨o1, o2, o3, o4, o5⟩ := ho4
  refine ⟨ls4, bg4, ?_, hb4, ⟨o1, by omega, by omega⟩, by omega⟩
  have lim : lim62 30 = true := by decide
  simp [F__law_drawing, m__law_drawing, sg__law_drawing, ap_v, ap_c, ap_2, ap_A, ap_nil, ap_cons, ap_lst, ap_tup, ap_B, ap_call, ap_callN, ap_callO, ap_T, ap_isT, ap_not, ap_neg, ap_and, ap_or, ap_if, ap_ch, ap_seq, ap_snil, ap_sif, ap_ret, ap_retN, ap_asg, ap_exp, ap_tgt, ap_app, ap_rev, ap_set, ap_aug, ap_for, ap_forM, ap_rng1, ap_rng2, ap_mseq, ap_enum, ap_lc, ap_yes, ap_gnm, ap_gtp, ap_gnil, ap_gcons, ap_fM, ap_on, ap_oc, r_add, r_sub, r_mul, r_div, r_mod, r_pow, r_lt, r_le, r_gt, r_ge, r_eqI, r_eqS, r_neI, r_neS, r_ixL, r_ixT, r_ixR, r_ipL, r_ipT, r_len, r_lenT, r_lenR, r_abs, r_max, r_min, a_int, a_bl, a_str, a_non, t_bl, List.map_cons, List.map_nil, List.length_cons, List.length_nil, List.replicate, List.cons_append, List.nil_append, List.getElem?_cons_zero, List.getElem?_cons_succ, List.set_cons_zero, List.set_cons_succ, List.getElem?_nil, Nat.reduceSub, Nat.reduceAdd, Nat.reduceEqDiff, decide_true, decide_false, ap_mk, ap_mut, ap_swap, ap_putI, ap_ev2, ap_keys, ap_mD, ap_put, ap_get2, ap_disp, ap_dsN, ap_dsC, ap_srtD, ap_sl, ap_oS, ap_oN, r_catI, r_mkL, r_mkLT, r_mkT, ap_gtpL, e1, e2, lim, e3, sWhile, e4]
def I2 (b mo r2 : Int) (k : Nat) (ρ : DE) : Prop := ∃ (bg : D) (ls : List D) (x y : Option D), ρ = [some bg, some (.int mo), some (.int b), some (.lst ls), x, y] ∧ Bg bg ∧ Dv ls (2 * b) 0 (r2 - k) 3 mo ∧ ls.length ≤ 10 + k
theorem plat_step (b mo r2 : Int) (hb1 : 1 ≤ b) (hb3 : b ≤ 3) (k : Nat) (hk : k < 2000) (hr : (k : Int) < r2) (d : D) (ρ : DE) (h : I2 b mo r2 k ρ) : ∃ ρ1 ρ2, gNm 4 d ρ = some ρ1 ∧ b__law_plat_0 ρ1 = some (.nx ρ2) ∧ I2 b mo r2 (k + 1) ρ2 := by
  obtain ⟨bg, ls, x, y, rfl, hb, ho, hl⟩ := h
  refine ⟨[some bg, some (.int mo), some (.int b), some (.lst ls), some d, y], ?_⟩
  obtain ⟨q, bg1, e1, q0, q1, hb1'⟩ := take_bg hb (2 * b - 1) (by omega) (by omega)
  have hl' : ls.length < 16777216 := by omega
  have cm : cMul 2 b = true := cMul_l (by omega)
  by_cases c1 : 1 < b
  · obtain ⟨u, bg2, e2, u0, u1, hb2'⟩ := take_bg hb1' 2 (by omega) (by omega)
    have cm2 : cMul 2 (q / 2 % (b - 1)) = true := cMul_l (by omega)
    have c2 : 0 < b - 1 := by omega
    by_cases c3 : u = 1
    · have v0 := Int.emod_nonneg (q / 2) (show b - 1 ≠ 0 by omega)
      have v1 := Int.emod_lt_of_pos (q / 2) c2
      refine ⟨[some bg2, some (.int mo), some (.int b), some (.lst (ls ++ [.tup [.str "cross", .int (2 * (q / 2 % (b - 1)) + 1)]])), some d, some (.int (2 * (q / 2 % (b - 1)) + 1))], rfl, ?_, ⟨_, _, _, _, rfl, hb2', (show r2 - (k : Int) - 1 = r2 - ((k + 1 : Nat) : Int) by omega) ▸ ho.cross (by omega) (by omega) (by omega), by simp; omega⟩⟩
      subst c3
      have c2' : 1 < b := c1
      simp [b__law_plat_0, ap_v, ap_c, ap_2, ap_A, ap_nil, ap_cons, ap_lst, ap_tup, ap_B, ap_call, ap_callN, ap_callO, ap_T, ap_isT, ap_not, ap_neg, ap_and, ap_or, ap_if, ap_ch, ap_seq, ap_snil, ap_sif, ap_ret, ap_retN, ap_asg, ap_exp, ap_tgt, ap_app, ap_rev, ap_set, ap_aug, ap_for, ap_forM, ap_rng1, ap_rng2, ap_mseq, ap_enum, ap_lc, ap_yes, ap_gnm, ap_gtp, ap_gnil, ap_gcons, ap_fM, ap_on, ap_oc, r_add, r_sub, r_mul, r_div, r_mod, r_pow, r_lt, r_le, r_gt, r_ge, r_eqI, r_eqS, r_neI, r_neS, r_ixL, r_ixT, r_ixR, r_ipL, r_ipT, r_len, r_lenT, r_lenR, r_abs, r_max, r_min, a_int, a_bl, a_str, a_non, t_bl, List.map_cons, List.map_nil, List.length_cons, List.length_nil, List.replicate, List.cons_append, List.nil_append, List.getElem?_cons_zero, List.getElem?_cons_succ, List.set_cons_zero, List.set_cons_succ, List.getElem?_nil, Nat.reduceSub, Nat.reduceAdd, Nat.reduceEqDiff, decide_true, decide_false, ap_mk, ap_mut, ap_swap, ap_putI, ap_ev2, ap_keys, ap_mD, ap_put, ap_get2, ap_disp, ap_dsN, ap_dsC, ap_srtD, ap_sl, ap_oS, ap_oN, r_catI, r_mkL, r_mkLT, r_mkT, ap_gtpL, e1, e2, cm, cm2, c1, hl']
    · refine ⟨[some bg2, some (.int mo), some (.int b), some (.lst (ls ++ [.tup [.str "cross", .int q]])), some d, some (.int q)], rfl, ?_, ⟨_, _, _, _, rfl, hb2', (show r2 - (k : Int) - 1 = r2 - ((k + 1 : Nat) : Int) by omega) ▸ ho.cross (by omega) (by omega) (by omega), by simp; omega⟩⟩
      simp [b__law_plat_0, ap_v, ap_c, ap_2, ap_A, ap_nil, ap_cons, ap_lst, ap_tup, ap_B, ap_call, ap_callN, ap_callO, ap_T, ap_isT, ap_not, ap_neg, ap_and, ap_or, ap_if, ap_ch, ap_seq, ap_snil, ap_sif, ap_ret, ap_retN, ap_asg, ap_exp, ap_tgt, ap_app, ap_rev, ap_set, ap_aug, ap_for, ap_forM, ap_rng1, ap_rng2, ap_mseq, ap_enum, ap_lc, ap_yes, ap_gnm, ap_gtp, ap_gnil, ap_gcons, ap_fM, ap_on, ap_oc, r_add, r_sub, r_mul, r_div, r_mod, r_pow, r_lt, r_le, r_gt, r_ge, r_eqI, r_eqS, r_neI, r_neS, r_ixL, r_ixT, r_ixR, r_ipL, r_ipT, r_len, r_lenT, r_lenR, r_abs, r_max, r_min, a_int, a_bl, a_str, a_non, t_bl, List.map_cons, List.map_nil, List.length_cons, List.length_nil, List.replicate, List.cons_append, List.nil_append, List.getElem?_cons_zero, List.getElem?_cons_succ, List.set_cons_zero, List.set_cons_succ, List.getElem?_nil, Nat.reduceSub, Nat.reduceAdd, Nat.reduceEqDiff, decide_true, decide_false, ap_mk, ap_mut, ap_swap, ap_putI, ap_ev2, ap_keys, ap_mD, ap_put, ap_get2, ap_disp, ap_dsN, ap_dsC, ap_srtD, ap_sl, ap_oS, ap_oN, r_catI, r_mkL, r_mkLT, r_mkT, ap_gtpL, e1, e2, cm, c1, c3, hl']
  · refine ⟨[some bg1, some (.int mo), some (.int b), some (.lst (ls ++ [.tup [.str "cross", .int q]])), some d, some (.int q)], rfl, ?_, ⟨_, _, _, _, rfl, hb1', (show r2 - (k : Int) - 1 = r2 - ((k + 1 : Nat) : Int) by omega) ▸ ho.cross (by omega) (by omega) (by omega), by simp; omega⟩⟩
    simp [b__law_plat_0, ap_v, ap_c, ap_2, ap_A, ap_nil, ap_cons, ap_lst, ap_tup, ap_B, ap_call, ap_callN, ap_callO, ap_T, ap_isT, ap_not, ap_neg, ap_and, ap_or, ap_if, ap_ch, ap_seq, ap_snil, ap_sif, ap_ret, ap_retN, ap_asg, ap_exp, ap_tgt, ap_app, ap_rev, ap_set, ap_aug, ap_for, ap_forM, ap_rng1, ap_rng2, ap_mseq, ap_enum, ap_lc, ap_yes, ap_gnm, ap_gtp, ap_gnil, ap_gcons, ap_fM, ap_on, ap_oc, r_add, r_sub, r_mul, r_div, r_mod, r_pow, r_lt, r_le, r_gt, r_ge, r_eqI, r_eqS, r_neI, r_neS, r_ixL, r_ixT, r_ixR, r_ipL, r_ipT, r_len, r_lenT, r_lenR, r_abs, r_max, r_min, a_int, a_bl, a_str, a_non, t_bl, List.map_cons, List.map_nil, List.length_cons, List.length_nil, List.replicate, List.cons_append, List.nil_append, List.getElem?_cons_zero, List.getElem?_cons_succ, List.set_cons_zero, List.set_cons_succ, List.getElem?_nil, Nat.reduceSub, Nat.reduceAdd, Nat.reduceEqDiff, decide_true, decide_false, ap_mk, ap_mut, ap_swap, ap_putI, ap_ev2, ap_keys, ap_mD, ap_put, ap_get2, ap_disp, ap_dsN, ap_dsC, ap_srtD, ap_sl, ap_oS, ap_oN, r_catI, r_mkL, r_mkLT, r_mkT, ap_gtpL, e1, cm, c1, hl']
theorem dcat (xs ys : List D) (h : xs.length + ys.length ≤ 16777216) : dCat (.lst xs) (.lst ys) = some (.lst (xs ++ ys)) := by
  unfold dCat
  simp [h]
theorem plat_ok {bg : D} (hb : Bg bg) (mo : Int) (h2 : 0 ≤ mo) (h3 : mo < 1000) : ∃ ls bg', F__law_plat [bg, .int mo] = some (.lst ls, [bg', .int mo]) ∧ Bg bg' ∧ (fo 0 ls = some 0 ∧ (cw "born" ls : Int) ≤ 4 ∧ (cw "cross" ls : Int) ≤ mo) ∧ ls.length ≤ 70 + mo := by
  obtain ⟨r1, bg1, e1, r0, r3, hb1⟩ := take_bg hb 3 (by omega) (by omega)
  obtain ⟨r2, bg2, e2, s0, s1, hb2⟩ := take_bg hb1 (mo + 1) (by omega) (by omega)
  have lim3 : lim62 r2 = true := lim62_of (by omega) (by omega)
  have c01 : cMul 2 0 = true := rfl
  have c21 : cMul 2 1 = true := rfl
  have c22 : cMul 2 2 = true := rfl
  have l1 : lim62 1 = true := by decide
  have l2 : lim62 2 = true := by decide
  have l3 : lim62 3 = true := by decide
  have go : ∀ (b : Int) (ls0 : List D), 1 ≤ b → b ≤ 3 → Dv ls0 (2 * b) 0 r2 3 mo → ls0.length ≤ 10 → ∃ bg3 ls x y, itF (gNm 4) b__law_plat_0 (rngD 0 r2.toNat) [some bg2, some (.int mo), some (.int b), some (.lst ls0), none, none] = some (.nx [some bg3, some (.int mo), some (.int b), some (.lst ls), x, y]) ∧ Bg bg3 ∧ Dv ls (2 * b) 0 0 3 mo ∧ ls.length ≤ 10 + r2.toNat := by
    intro b ls0 b1 b3 ho hl
    obtain ⟨ρ3, e3, bg3, ls, x, y, rfl, hb3, ho3, hl3⟩ := itF_inv (mg := gNm 4) (mb := b__law_plat_0) (I2 b mo r2) (rngD 0 r2.toNat) 0 [some bg2, some (.int mo), some (.int b), some (.lst ls0), none, none]
      (fun i d ed ρ hi => plat_step b mo r2 b1 b3 (0 + i) (by have := (List.getElem?_eq_some_iff.mp ed).1; simp [rngD] at this; omega) (by have := (List.getElem?_eq_some_iff.mp ed).1; simp [rngD] at this; omega) d ρ hi) ⟨_, _, _, _, rfl, hb2, by rw [show r2 - ((0 : Nat) : Int) = r2 by omega]; exact ho, by omega⟩
    exact ⟨bg3, ls, x, y, e3, hb3, by rw [show r2 - ((0 + (rngD 0 r2.toNat).length : Nat) : Int) = 0 by simp [rngD]; omega] at ho3; exact ho3, by simpa [rngD] using hl3⟩
  have fin : ∀ (n : Nat) (ls : List D), Dv ls (2 * (n : Int)) 0 0 3 mo → Dv (ls ++ List.replicate n (.tup [.str "end", .int 0])) 0 0 0 3 mo := by
    intro n
    induction n with
    | zero => intro ls h; simpa using h
    | succ n ih =>
      intro ls h
      have h2 := Dv.fin (k := 0) h (by omega) (by omega)
      rw [show 2 * ((n + 1 : Nat) : Int) - 2 = 2 * (n : Int) by omega] at h2
      have h3 := ih _ h2
      rw [List.append_assoc] at h3
      exact h3
  have en : ∀ ls : List D, Dv ls 0 0 0 3 mo → fo 0 ls = some 0 ∧ (cw "born" ls : Int) ≤ 4 ∧ (cw "cross" ls : Int) ≤ mo := fun ls h => ⟨h.1, by have := h.2.1; omega, by have := h.2.2.1; omega⟩
  have r1c : r1 = 0 ∨ r1 = 1 ∨ r1 = 2 := by omega
  rcases r1c with rfl | rfl | rfl
  · obtain ⟨bg3, ls, x, y, e3, hb3, ho3, hl3⟩ := go 1 [.tup [.str "born", .int 0]] (by omega) (by omega) ⟨rfl, by simp [cw, wd], by simp [cw, wd, born_ne]; omega, by omega, by omega⟩ (by simp)
    refine ⟨ls ++ [.tup [.str "end", .int 0]], bg3, ?_, hb3, en _ (by have h := fin 1 ls ho3; simpa [List.replicate] using h), by simp; omega⟩
    have hs := dcat ls [.tup [.str "end", .int 0]] (by simp; omega)
    simp [rngD, List.range] at e3
    simp [F__law_plat, m__law_plat, sg__law_plat, ap_v, ap_c, ap_2, ap_A, ap_nil, ap_cons, ap_lst, ap_tup, ap_B, ap_call, ap_callN, ap_callO, ap_T, ap_isT, ap_not, ap_neg, ap_and, ap_or, ap_if, ap_ch, ap_seq, ap_snil, ap_sif, ap_ret, ap_retN, ap_asg, ap_exp, ap_tgt, ap_app, ap_rev, ap_set, ap_aug, ap_for, ap_forM, ap_rng1, ap_rng2, ap_mseq, ap_enum, ap_lc, ap_yes, ap_gnm, ap_gtp, ap_gnil, ap_gcons, ap_fM, ap_on, ap_oc, r_add, r_sub, r_mul, r_div, r_mod, r_pow, r_lt, r_le, r_gt, r_ge, r_eqI, r_eqS, r_neI, r_neS, r_ixL, r_ixT, r_ixR, r_ipL, r_ipT, r_len, r_lenT, r_lenR, r_abs, r_max, r_min, a_int, a_bl, a_str, a_non, t_bl, List.map_cons, List.map_nil, List.length_cons, List.length_nil, List.replicate, List.cons_append, List.nil_append, List.getElem?_cons_zero, List.getElem?_cons_succ, List.set_cons_zero, List.set_cons_succ, List.getElem?_nil, Nat.reduceSub, Nat.reduceAdd, Nat.reduceEqDiff, decide_true, decide_false, ap_mk, ap_mut, ap_swap, ap_putI, ap_ev2, ap_keys, ap_mD, ap_put, ap_get2, ap_disp, ap_dsN, ap_dsC, ap_srtD, ap_sl, ap_oS, ap_oN, r_catI, r_mkL, r_mkLT, r_mkT, ap_gtpL, e1, e2, l1, lim3, rngD, List.range, List.range.loop, cpL, wp, c01, c21, c22, e3, hs]
  · obtain ⟨bg3, ls, x, y, e3, hb3, ho3, hl3⟩ := go 2 [.tup [.str "born", .int 0], .tup [.str "born", .int 2]] (by omega) (by omega) ⟨rfl, by simp [cw, wd], by simp [cw, wd, born_ne]; omega, by omega, by omega⟩ (by simp)
    refine ⟨ls ++ [.tup [.str "end", .int 0], .tup [.str "end", .int 0]], bg3, ?_, hb3, en _ (by have h := fin 2 ls ho3; simpa [List.replicate] using h), by simp; omega⟩
    have hs := dcat ls [.tup [.str "end", .int 0], .tup [.str "end", .int 0]] (by simp; omega)
    simp [rngD, List.range] at e3
    simp [F__law_plat, m__law_plat, sg__law_plat, ap_v, ap_c, ap_2, ap_A, ap_nil, ap_cons, ap_lst, ap_tup, ap_B, ap_call, ap_callN, ap_callO, ap_T, ap_isT, ap_not, ap_neg, ap_and, ap_or, ap_if, ap_ch, ap_seq, ap_snil, ap_sif, ap_ret, ap_retN, ap_asg, ap_exp, ap_tgt, ap_app, ap_rev, ap_set, ap_aug, ap_for, ap_forM, ap_rng1, ap_rng2, ap_mseq, ap_enum, ap_lc, ap_yes, ap_gnm, ap_gtp, ap_gnil, ap_gcons, ap_fM, ap_on, ap_oc, r_add, r_sub, r_mul, r_div, r_mod, r_pow, r_lt, r_le, r_gt, r_ge, r_eqI, r_eqS, r_neI, r_neS, r_ixL, r_ixT, r_ixR, r_ipL, r_ipT, r_len, r_lenT, r_lenR, r_abs, r_max, r_min, a_int, a_bl, a_str, a_non, t_bl, List.map_cons, List.map_nil, List.length_cons, List.length_nil, List.replicate, List.cons_append, List.nil_append, List.getElem?_cons_zero, List.getElem?_cons_succ, List.set_cons_zero, List.set_cons_succ, List.getElem?_nil, Nat.reduceSub, Nat.reduceAdd, Nat.reduceEqDiff, decide_true, decide_false, ap_mk, ap_mut, ap_swap, ap_putI, ap_ev2, ap_keys, ap_mD, ap_put, ap_get2, ap_disp, ap_dsN, ap_dsC, ap_srtD, ap_sl, ap_oS, ap_oN, r_catI, r_mkL, r_mkLT, r_mkT, ap_gtpL, e1, e2, l2, lim3, rngD, List.range, List.range.loop, cpL, wp, c01, c21, c22, e3, hs]
  · obtain ⟨bg3, ls, x, y, e3, hb3, ho3, hl3⟩ := go 3 [.tup [.str "born", .int 0], .tup [.str "born", .int 2], .tup [.str "born", .int 4]] (by omega) (by omega) ⟨rfl, by simp [cw, wd], by simp [cw, wd, born_ne]; omega, by omega, by omega⟩ (by simp)
    refine ⟨ls ++ [.tup [.str "end", .int 0], .tup [.str "end", .int 0], .tup [.str "end", .int 0]], bg3, ?_, hb3, en _ (by have h := fin 3 ls ho3; simpa [List.replicate] using h), by simp; omega⟩
    have hs := dcat ls [.tup [.str "end", .int 0], .tup [.str "end", .int 0], .tup [.str "end", .int 0]] (by simp; omega)
    simp [rngD, List.range] at e3
    simp [F__law_plat, m__law_plat, sg__law_plat, ap_v, ap_c, ap_2, ap_A, ap_nil, ap_cons, ap_lst, ap_tup, ap_B, ap_call, ap_callN, ap_callO, ap_T, ap_isT, ap_not, ap_neg, ap_and, ap_or, ap_if, ap_ch, ap_seq, ap_snil, ap_sif, ap_ret, ap_retN, ap_asg, ap_exp, ap_tgt, ap_app, ap_rev, ap_set, ap_aug, ap_for, ap_forM, ap_rng1, ap_rng2, ap_mseq, ap_enum, ap_lc, ap_yes, ap_gnm, ap_gtp, ap_gnil, ap_gcons, ap_fM, ap_on, ap_oc, r_add, r_sub, r_mul, r_div, r_mod, r_pow, r_lt, r_le, r_gt, r_ge, r_eqI, r_eqS, r_neI, r_neS, r_ixL, r_ixT, r_ixR, r_ipL, r_ipT, r_len, r_lenT, r_lenR, r_abs, r_max, r_min, a_int, a_bl, a_str, a_non, t_bl, List.map_cons, List.map_nil, List.length_cons, List.length_nil, List.replicate, List.cons_append, List.nil_append, List.getElem?_cons_zero, List.getElem?_cons_succ, List.set_cons_zero, List.set_cons_succ, List.getElem?_nil, Nat.reduceSub, Nat.reduceAdd, Nat.reduceEqDiff, decide_true, decide_false, ap_mk, ap_mut, ap_swap, ap_putI, ap_ev2, ap_keys, ap_mD, ap_put, ap_get2, ap_disp, ap_dsN, ap_dsC, ap_srtD, ap_sl, ap_oS, ap_oN, r_catI, r_mkL, r_mkLT, r_mkT, ap_gtpL, e1, e2, l3, lim3, rngD, List.range, List.range.loop, cpL, wp, c01, c21, c22, e3, hs]
theorem any_ok {bg : D} (hb : Bg bg) (mo : Int) (h2 : 0 ≤ mo) (h3 : mo < 1000) : ∃ ls bg', F__law_any [bg, .int mo] = some (.lst ls, [bg', .int mo]) ∧ Bg bg' ∧ (fo 0 ls = some 0 ∧ (cw "born" ls : Int) ≤ 4 ∧ (cw "cross" ls : Int) ≤ mo) ∧ ls.length ≤ 70 + mo := by
  obtain ⟨r, bg1, e1, _, _, hb1⟩ := take_bg hb 3 (by omega) (by omega)
  by_cases hr : r = 0
  · subst hr
    obtain ⟨ls, bg2, e2, hb2, ho, hl⟩ := plat_ok hb1 mo h2 h3
    refine ⟨ls, bg2, ?_, hb2, ho, hl⟩
    simp [F__law_any, m__law_any, sg__law_any, ap_v, ap_c, ap_2, ap_A, ap_nil, ap_cons, ap_lst, ap_tup, ap_B, ap_call, ap_callN, ap_callO, ap_T, ap_isT, ap_not, ap_neg, ap_and, ap_or, ap_if, ap_ch, ap_seq, ap_snil, ap_sif, ap_ret, ap_retN, ap_asg, ap_exp, ap_tgt, ap_app, ap_rev, ap_set, ap_aug, ap_for, ap_forM, ap_rng1, ap_rng2, ap_mseq, ap_enum, ap_lc, ap_yes, ap_gnm, ap_gtp, ap_gnil, ap_gcons, ap_fM, ap_on, ap_oc, r_add, r_sub, r_mul, r_div, r_mod, r_pow, r_lt, r_le, r_gt, r_ge, r_eqI, r_eqS, r_neI, r_neS, r_ixL, r_ixT, r_ixR, r_ipL, r_ipT, r_len, r_lenT, r_lenR, r_abs, r_max, r_min, a_int, a_bl, a_str, a_non, t_bl, List.map_cons, List.map_nil, List.length_cons, List.length_nil, List.replicate, List.cons_append, List.nil_append, List.getElem?_cons_zero, List.getElem?_cons_succ, List.set_cons_zero, List.set_cons_succ, List.getElem?_nil, Nat.reduceSub, Nat.reduceAdd, Nat.reduceEqDiff, decide_true, decide_false, ap_mk, ap_mut, ap_swap, ap_putI, ap_ev2, ap_keys, ap_mD, ap_put, ap_get2, ap_disp, ap_dsN, ap_dsC, ap_srtD, ap_sl, ap_oS, ap_oN, r_catI, r_mkL, r_mkLT, r_mkT, ap_gtpL, e1, e2]
  · obtain ⟨ls, bg2, e2, hb2, ho, hl⟩ := draw_ok hb1 4 mo (by omega) (by omega) h2 h3
    refine ⟨ls, bg2, ?_, hb2, ⟨ho.1, by have := ho.2.1; omega, ho.2.2⟩, by omega⟩
    simp [F__law_any, m__law_any, sg__law_any, ap_v, ap_c, ap_2, ap_A, ap_nil, ap_cons, ap_lst, ap_tup, ap_B, ap_call, ap_callN, ap_callO, ap_T, ap_isT, ap_not, ap_neg, ap_and, ap_or, ap_if, ap_ch, ap_seq, ap_snil, ap_sif, ap_ret, ap_retN, ap_asg, ap_exp, ap_tgt, ap_app, ap_rev, ap_set, ap_aug, ap_for, ap_forM, ap_rng1, ap_rng2, ap_mseq, ap_enum, ap_lc, ap_yes, ap_gnm, ap_gtp, ap_gnil, ap_gcons, ap_fM, ap_on, ap_oc, r_add, r_sub, r_mul, r_div, r_mod, r_pow, r_lt, r_le, r_gt, r_ge, r_eqI, r_eqS, r_neI, r_neS, r_ixL, r_ixT, r_ixR, r_ipL, r_ipT, r_len, r_lenT, r_lenR, r_abs, r_max, r_min, a_int, a_bl, a_str, a_non, t_bl, List.map_cons, List.map_nil, List.length_cons, List.length_nil, List.replicate, List.cons_append, List.nil_append, List.getElem?_cons_zero, List.getElem?_cons_succ, List.set_cons_zero, List.set_cons_succ, List.getElem?_nil, Nat.reduceSub, Nat.reduceAdd, Nat.reduceEqDiff, decide_true, decide_false, ap_mk, ap_mut, ap_swap, ap_putI, ap_ev2, ap_keys, ap_mD, ap_put, ap_get2, ap_disp, ap_dsN, ap_dsC, ap_srtD, ap_sl, ap_oS, ap_oN, r_catI, r_mkL, r_mkLT, r_mkT, ap_gtpL, e1, e2, hr]
def row (r : List Int) : D := .lst (r.map .int)
def nx (b : Int) (r : List Int) (w : Str) (k : Nat) : List Int := if w = "born" then r.take k ++ [b, b + 1] ++ r.drop k else if w = "cross" then r.take k ++ [(r[k + 1]?).getD 0, (r[k]?).getD 0] ++ r.drop (k + 2) else r.take k ++ r.drop (k + 2)
theorem sl_drop (xs : List D) (t : Nat) : dSl (.lst xs) (some (t : Int)) none = some (.lst (xs.drop t)) := by
  show some (D.lst (cutG xs (some (t : Int)) none)) = _
  unfold cutG
  rw [HT.sIx_none, HT.sIx_nat]
  congr 2
  rcases Nat.le_total t xs.length with h | h
  · rw [Nat.min_eq_left h]
    exact List.take_of_length_le (by simp)
  · rw [Nat.min_eq_right h, List.drop_of_length_le h, List.drop_of_length_le (Nat.le_refl _)]
    simp
theorem noLL_ints (xs : List Int) : noLL (xs.map D.int) = true := noLL_all fun d hd => by
  obtain ⟨i, _, rfl⟩ := List.mem_map.mp hd
  rfl
theorem at_row {r : List Int} {k : Nat} (h : k < r.length) : atI (r.map D.int) (k : Int) = some (.int ((r[k]?).getD 0)) := by
  rw [at_nn (by simpa using h), List.getElem?_map, List.getElem?_eq_getElem h]
  rfl
theorem beh_ok (b : Int) (r : List Int) (w : Str) (k : Nat) (hl : r.length < 1000000) (hw : w = "born" ∨ ((w = "cross" ∨ w = "end") ∧ k + 2 ≤ r.length)) :
    ∃ e, F_threads_behind [row r, .tup [.str w, .int k], .int b] = some (row (nx b r w k), e) := by
  refine ⟨[row r, .tup [.str w, .int k], .int b], ?_⟩
  have s1 := sl_take (r.map D.int) k
  have s2 := sl_drop (r.map D.int) k
  have s3 := sl_drop (r.map D.int) (k + 2)
  have s3' : dSl (.lst (r.map D.int)) (some ((k : Int) + 2)) none = some (.lst ((r.map D.int).drop (k + 2))) := s3
  rcases hw with rfl | ⟨rfl | rfl, hk⟩
  · have c1 := dcat ((r.map D.int).take k) [.int b, .int (b + 1)] (by simp; omega)
    have c2 := dcat ((r.map D.int).take k ++ [.int b, .int (b + 1)]) ((r.map D.int).drop k) (by simp; omega)
    have e : (r.map D.int).take k ++ [.int b, .int (b + 1)] ++ (r.map D.int).drop k = (nx b r "born" k).map D.int := by
      simp [nx]
    rw [e] at c2
    have n := noLL_ints (nx b r "born" k)
    have g' : m_threads_behind [some (.lst (r.map D.int)), some (.tup [.str "born", .int k]), some (.int b), none, none] = some (.rt (row (nx b r "born" k)) [some (.lst (r.map D.int)), some (.tup [.str "born", .int k]), some (.int b), some (.str "born"), some (.int k)]) := by
      simp only [m_threads_behind, ap_v, ap_c, ap_2, ap_A, ap_nil, ap_cons, ap_lst, ap_tup, ap_B, ap_call, ap_callN, ap_callO, ap_T, ap_isT, ap_not, ap_neg, ap_and, ap_or, ap_if, ap_ch, ap_seq, ap_snil, ap_sif, ap_ret, ap_retN, ap_asg, ap_exp, ap_tgt, ap_app, ap_rev, ap_set, ap_aug, ap_for, ap_forM, ap_rng1, ap_rng2, ap_mseq, ap_enum, ap_lc, ap_yes, ap_gnm, ap_gtp, ap_gnil, ap_gcons, ap_fM, ap_on, ap_oc, r_add, r_sub, r_mul, r_div, r_mod, r_pow, r_lt, r_le, r_gt, r_ge, r_eqI, r_eqS, r_neI, r_neS, r_ixL, r_ixT, r_ixR, r_ipL, r_ipT, r_len, r_lenT, r_lenR, r_abs, r_max, r_min, a_int, a_bl, a_str, a_non, t_bl, List.map_cons, List.map_nil, List.length_cons, List.length_nil, List.replicate, List.cons_append, List.nil_append, List.getElem?_cons_zero, List.getElem?_cons_succ, List.set_cons_zero, List.set_cons_succ, List.getElem?_nil, Nat.reduceSub, Nat.reduceAdd, Nat.reduceEqDiff, decide_true, decide_false, ap_mk, ap_mut, ap_swap, ap_putI, ap_ev2, ap_keys, ap_mD, ap_put, ap_get2, ap_disp, ap_dsN, ap_dsC, ap_srtD, ap_sl, ap_oS, ap_oN, r_catI, r_mkL, r_mkLT, r_mkT, ap_gtpL, ap_fl, mSl, oNone, oSome, Option.bind_some, Option.map_some, s1, s2, c1, c2, n, if_true, row, show (0 + 1 + 1 : Nat) ≤ 16777216 from by omega]
    simp only [F_threads_behind, sg_threads_behind, ap_v, ap_c, ap_2, ap_A, ap_nil, ap_cons, ap_lst, ap_tup, ap_B, ap_call, ap_callN, ap_callO, ap_T, ap_isT, ap_not, ap_neg, ap_and, ap_or, ap_if, ap_ch, ap_seq, ap_snil, ap_sif, ap_ret, ap_retN, ap_asg, ap_exp, ap_tgt, ap_app, ap_rev, ap_set, ap_aug, ap_for, ap_forM, ap_rng1, ap_rng2, ap_mseq, ap_enum, ap_lc, ap_yes, ap_gnm, ap_gtp, ap_gnil, ap_gcons, ap_fM, ap_on, ap_oc, r_add, r_sub, r_mul, r_div, r_mod, r_pow, r_lt, r_le, r_gt, r_ge, r_eqI, r_eqS, r_neI, r_neS, r_ixL, r_ixT, r_ixR, r_ipL, r_ipT, r_len, r_lenT, r_lenR, r_abs, r_max, r_min, a_int, a_bl, a_str, a_non, t_bl, List.map_cons, List.map_nil, List.length_cons, List.length_nil, List.replicate, List.cons_append, List.nil_append, List.getElem?_cons_zero, List.getElem?_cons_succ, List.set_cons_zero, List.set_cons_succ, List.getElem?_nil, Nat.reduceSub, Nat.reduceAdd, Nat.reduceEqDiff, decide_true, decide_false, ap_mk, ap_mut, ap_swap, ap_putI, ap_ev2, ap_keys, ap_mD, ap_put, ap_get2, ap_disp, ap_dsN, ap_dsC, ap_srtD, ap_sl, ap_oS, ap_oN, r_catI, r_mkL, r_mkLT, r_mkT, ap_gtpL, row] at g' ⊢
    simp only [g']
  · have hk1 : k < r.length := by omega
    have hk2 : k + 1 < r.length := by omega
    have i1 := at_row hk1
    have i2 := at_row hk2
    have i2' : atI (r.map D.int) ((k : Int) + 1) = some (.int ((r[k + 1]?).getD 0)) := i2
    have c1 := dcat ((r.map D.int).take k) [.int ((r[k + 1]?).getD 0), .int ((r[k]?).getD 0)] (by simp; omega)
    have c2 := dcat ((r.map D.int).take k ++ [.int ((r[k + 1]?).getD 0), .int ((r[k]?).getD 0)]) ((r.map D.int).drop (k + 2)) (by simp; omega)
    have e : (r.map D.int).take k ++ [.int ((r[k + 1]?).getD 0), .int ((r[k]?).getD 0)] ++ (r.map D.int).drop (k + 2) = (nx b r "cross" k).map D.int := by
      simp [nx, born_ne]
    rw [e] at c2
    have n := noLL_ints (nx b r "cross" k)
    have g' : m_threads_behind [some (.lst (r.map D.int)), some (.tup [.str "cross", .int k]), some (.int b), none, none] = some (.rt (row (nx b r "cross" k)) [some (.lst (r.map D.int)), some (.tup [.str "cross", .int k]), some (.int b), some (.str "cross"), some (.int k)]) := by
      simp only [m_threads_behind, ap_v, ap_c, ap_2, ap_A, ap_nil, ap_cons, ap_lst, ap_tup, ap_B, ap_call, ap_callN, ap_callO, ap_T, ap_isT, ap_not, ap_neg, ap_and, ap_or, ap_if, ap_ch, ap_seq, ap_snil, ap_sif, ap_ret, ap_retN, ap_asg, ap_exp, ap_tgt, ap_app, ap_rev, ap_set, ap_aug, ap_for, ap_forM, ap_rng1, ap_rng2, ap_mseq, ap_enum, ap_lc, ap_yes, ap_gnm, ap_gtp, ap_gnil, ap_gcons, ap_fM, ap_on, ap_oc, r_add, r_sub, r_mul, r_div, r_mod, r_pow, r_lt, r_le, r_gt, r_ge, r_eqI, r_eqS, r_neI, r_neS, r_ixL, r_ixT, r_ixR, r_ipL, r_ipT, r_len, r_lenT, r_lenR, r_abs, r_max, r_min, a_int, a_bl, a_str, a_non, t_bl, List.map_cons, List.map_nil, List.length_cons, List.length_nil, List.replicate, List.cons_append, List.nil_append, List.getElem?_cons_zero, List.getElem?_cons_succ, List.set_cons_zero, List.set_cons_succ, List.getElem?_nil, Nat.reduceSub, Nat.reduceAdd, Nat.reduceEqDiff, decide_true, decide_false, ap_mk, ap_mut, ap_swap, ap_putI, ap_ev2, ap_keys, ap_mD, ap_put, ap_get2, ap_disp, ap_dsN, ap_dsC, ap_srtD, ap_sl, ap_oS, ap_oN, r_catI, r_mkL, r_mkLT, r_mkT, ap_gtpL, ap_fl, mSl, oNone, oSome, Option.bind_some, Option.map_some, s1, s3', i1, i2', c1, c2, n, if_true, row, born_ne, decide_false, show (0 + 1 + 1 : Nat) ≤ 16777216 from by omega]
    simp only [F_threads_behind, sg_threads_behind, ap_v, ap_c, ap_2, ap_A, ap_nil, ap_cons, ap_lst, ap_tup, ap_B, ap_call, ap_callN, ap_callO, ap_T, ap_isT, ap_not, ap_neg, ap_and, ap_or, ap_if, ap_ch, ap_seq, ap_snil, ap_sif, ap_ret, ap_retN, ap_asg, ap_exp, ap_tgt, ap_app, ap_rev, ap_set, ap_aug, ap_for, ap_forM, ap_rng1, ap_rng2, ap_mseq, ap_enum, ap_lc, ap_yes, ap_gnm, ap_gtp, ap_gnil, ap_gcons, ap_fM, ap_on, ap_oc, r_add, r_sub, r_mul, r_div, r_mod, r_pow, r_lt, r_le, r_gt, r_ge, r_eqI, r_eqS, r_neI, r_neS, r_ixL, r_ixT, r_ixR, r_ipL, r_ipT, r_len, r_lenT, r_lenR, r_abs, r_max, r_min, a_int, a_bl, a_str, a_non, t_bl, List.map_cons, List.map_nil, List.length_cons, List.length_nil, List.replicate, List.cons_append, List.nil_append, List.getElem?_cons_zero, List.getElem?_cons_succ, List.set_cons_zero, List.set_cons_succ, List.getElem?_nil, Nat.reduceSub, Nat.reduceAdd, Nat.reduceEqDiff, decide_true, decide_false, ap_mk, ap_mut, ap_swap, ap_putI, ap_ev2, ap_keys, ap_mD, ap_put, ap_get2, ap_disp, ap_dsN, ap_dsC, ap_srtD, ap_sl, ap_oS, ap_oN, r_catI, r_mkL, r_mkLT, r_mkT, ap_gtpL, row] at g' ⊢
    simp only [g']
  · have c2 := dcat ((r.map D.int).take k) ((r.map D.int).drop (k + 2)) (by simp; omega)
    have e : (r.map D.int).take k ++ (r.map D.int).drop (k + 2) = (nx b r "end" k).map D.int := by
      simp [nx, born_ne]
    rw [e] at c2
    have n := noLL_ints (nx b r "end" k)
    have g' : m_threads_behind [some (.lst (r.map D.int)), some (.tup [.str "end", .int k]), some (.int b), none, none] = some (.rt (row (nx b r "end" k)) [some (.lst (r.map D.int)), some (.tup [.str "end", .int k]), some (.int b), some (.str "end"), some (.int k)]) := by
      simp only [m_threads_behind, ap_v, ap_c, ap_2, ap_A, ap_nil, ap_cons, ap_lst, ap_tup, ap_B, ap_call, ap_callN, ap_callO, ap_T, ap_isT, ap_not, ap_neg, ap_and, ap_or, ap_if, ap_ch, ap_seq, ap_snil, ap_sif, ap_ret, ap_retN, ap_asg, ap_exp, ap_tgt, ap_app, ap_rev, ap_set, ap_aug, ap_for, ap_forM, ap_rng1, ap_rng2, ap_mseq, ap_enum, ap_lc, ap_yes, ap_gnm, ap_gtp, ap_gnil, ap_gcons, ap_fM, ap_on, ap_oc, r_add, r_sub, r_mul, r_div, r_mod, r_pow, r_lt, r_le, r_gt, r_ge, r_eqI, r_eqS, r_neI, r_neS, r_ixL, r_ixT, r_ixR, r_ipL, r_ipT, r_len, r_lenT, r_lenR, r_abs, r_max, r_min, a_int, a_bl, a_str, a_non, t_bl, List.map_cons, List.map_nil, List.length_cons, List.length_nil, List.replicate, List.cons_append, List.nil_append, List.getElem?_cons_zero, List.getElem?_cons_succ, List.set_cons_zero, List.set_cons_succ, List.getElem?_nil, Nat.reduceSub, Nat.reduceAdd, Nat.reduceEqDiff, decide_true, decide_false, ap_mk, ap_mut, ap_swap, ap_putI, ap_ev2, ap_keys, ap_mD, ap_put, ap_get2, ap_disp, ap_dsN, ap_dsC, ap_srtD, ap_sl, ap_oS, ap_oN, r_catI, r_mkL, r_mkLT, r_mkT, ap_gtpL, ap_fl, mSl, oNone, oSome, Option.bind_some, Option.map_some, s1, s3', c2, n, if_true, row, born_ne, decide_false]
    simp only [F_threads_behind, sg_threads_behind, ap_v, ap_c, ap_2, ap_A, ap_nil, ap_cons, ap_lst, ap_tup, ap_B, ap_call, ap_callN, ap_callO, ap_T, ap_isT, ap_not, ap_neg, ap_and, ap_or, ap_if, ap_ch, ap_seq, ap_snil, ap_sif, ap_ret, ap_retN, ap_asg, ap_exp, ap_tgt, ap_app, ap_rev, ap_set, ap_aug, ap_for, ap_forM, ap_rng1, ap_rng2, ap_mseq, ap_enum, ap_lc, ap_yes, ap_gnm, ap_gtp, ap_gnil, ap_gcons, ap_fM, ap_on, ap_oc, r_add, r_sub, r_mul, r_div, r_mod, r_pow, r_lt, r_le, r_gt, r_ge, r_eqI, r_eqS, r_neI, r_neS, r_ixL, r_ixT, r_ixR, r_ipL, r_ipT, r_len, r_lenT, r_lenR, r_abs, r_max, r_min, a_int, a_bl, a_str, a_non, t_bl, List.map_cons, List.map_nil, List.length_cons, List.length_nil, List.replicate, List.cons_append, List.nil_append, List.getElem?_cons_zero, List.getElem?_cons_succ, List.set_cons_zero, List.set_cons_succ, List.getElem?_nil, Nat.reduceSub, Nat.reduceAdd, Nat.reduceEqDiff, decide_true, decide_false, ap_mk, ap_mut, ap_swap, ap_putI, ap_ev2, ap_keys, ap_mD, ap_put, ap_get2, ap_disp, ap_dsN, ap_dsC, ap_srtD, ap_sl, ap_oS, ap_oN, r_catI, r_mkL, r_mkLT, r_mkT, ap_gtpL, row] at g' ⊢
    simp only [g']
theorem ins_ok {ds : List D} {k : Nat} {d : D} (h : k < 1000000) (hl : ds.length < 1000000) : fIns ds [.int (k : Int), d] = some (.non, ds.take k ++ ([d] ++ ds.drop k)) := by
  unfold fIns
  have h1 : (0 : Int) ≤ (k : Int) ∧ (k : Int).natAbs < 1000000000000000000 ∧ ds.length < 16777216 := by omega
  simp only [h1, and_self, if_true, Int.toNat_natCast]
theorem pop_ok {ds : List D} {k : Nat} (h : k < ds.length) (hl : ds.length < 1000000) : ∃ x, fPopAt ds [.int (k : Int)] = some (x, ds.take k ++ ds.drop (k + 1)) := by
  have e : seqIndex? (k : Int) ds.length = some k := by
    unfold seqIndex?
    have h1 : ¬ (k : Int) < 0 := by omega
    have h2 : (0 : Int) ≤ (k : Int) := by omega
    have h3 : (k : Int) < (ds.length : Int) := by omega
    simp [h1, h3]
  refine ⟨ds[k], ?_⟩
  have h4 : ((k : Int)).natAbs < 1000000000000000000 := by omega
  unfold fPopAt
  simp only [e, List.getElem?_eq_getElem h, h4, if_true]
theorem set2 (x y : D) : ∀ (k : Nat) (ds : List D), k + 1 < ds.length → (ds.set k x).set (k + 1) y = ds.take k ++ [x, y] ++ ds.drop (k + 2)
  | 0, a :: c :: t, _ => by simp
  | 0, [a], h => by simp at h
  | 0, [], h => by simp at h
  | k + 1, a :: t, h => by
    have := set2 x y k t (by simpa using h)
    simp only [List.set_cons_succ, List.take_succ_cons, List.drop_succ_cons, List.cons_append]
    rw [this]
  | k + 1, [], h => by simp at h
theorem last_ix {found : List D} {x : D} : atI (found ++ [x]) (-1) = some x := by
  unfold atI ixN
  have h1 : ¬ (0 : Int) ≤ -1 := by omega
  have h2 : -(((found ++ [x]).length : Nat) : Int) ≤ -1 := by simp; omega
  rw [if_neg h1, if_pos h2]
  have e : (-1 + (((found ++ [x]).length : Nat) : Int)).toNat = found.length := by
    simp <;> omega
  rw [Option.bind_some, e]
  simp
def bn (b : Int) (w : Str) : Int := if w = "born" then b + 2 else b
theorem rows_step (d0 : D) (acc : List D) (b : Int) (r : List Int) (w : Str) (k : Nat) (x5 : Option D) (hl : r.length < 100000) (ha : acc.length < 100000) (hk : k ≤ r.length) (hw : w = "born" ∨ ((w = "cross" ∨ w = "end") ∧ k + 2 ≤ r.length)) :
    b__law_rows_0 [some d0, some (.lst (acc ++ [row r])), some (.int b), some (.str w), some (.int k), x5] = some (.nx [some d0, some (.lst (acc ++ [row r] ++ [row (nx b r w k)])), some (.int (bn b w)), some (.str w), some (.int k), some (row (nx b r w k))]) := by
  have li := last_ix (found := acc) (x := row r)
  have mk : dMk .lst (row r) = some (row r) := rfl
  have hz : (acc ++ [row r]).length < 16777216 := by simp; omega
  have rl : (r.map D.int).length = r.length := by simp
  refine st_seq (ρ1 := [some d0, some (.lst (acc ++ [row r])), some (.int b), some (.str w), some (.int k), some (row r)]) ?_ ?_
  · simp only [ap_v, ap_c, ap_2, ap_A, ap_nil, ap_cons, ap_lst, ap_tup, ap_B, ap_call, ap_callN, ap_callO, ap_T, ap_isT, ap_not, ap_neg, ap_and, ap_or, ap_if, ap_ch, ap_seq, ap_snil, ap_sif, ap_ret, ap_retN, ap_asg, ap_exp, ap_tgt, ap_app, ap_rev, ap_set, ap_aug, ap_for, ap_forM, ap_rng1, ap_rng2, ap_mseq, ap_enum, ap_lc, ap_yes, ap_gnm, ap_gtp, ap_gnil, ap_gcons, ap_fM, ap_on, ap_oc, r_add, r_sub, r_mul, r_div, r_mod, r_pow, r_lt, r_le, r_gt, r_ge, r_eqI, r_eqS, r_neI, r_neS, r_ixL, r_ixT, r_ixR, r_ipL, r_ipT, r_len, r_lenT, r_lenR, r_abs, r_max, r_min, a_int, a_bl, a_str, a_non, t_bl, List.map_cons, List.map_nil, List.length_cons, List.length_nil, List.replicate, List.cons_append, List.nil_append, List.getElem?_cons_zero, List.getElem?_cons_succ, List.set_cons_zero, List.set_cons_succ, List.getElem?_nil, Nat.reduceSub, Nat.reduceAdd, Nat.reduceEqDiff, decide_true, decide_false, ap_mk, ap_mut, ap_swap, ap_putI, ap_ev2, ap_keys, ap_mD, ap_put, ap_get2, ap_disp, ap_dsN, ap_dsC, ap_srtD, ap_sl, ap_oS, ap_oN, r_catI, r_mkL, r_mkLT, r_mkT, ap_gtpL, mMk, li, mk]
  refine st_seq (ρ1 := [some d0, some (.lst (acc ++ [row r])), some (.int (bn b w)), some (.str w), some (.int k), some (row (nx b r w k))]) ?_ ?_
  · rcases hw with rfl | ⟨rfl | rfl, hk2⟩
    · have i1 := ins_ok (ds := r.map D.int) (k := k) (d := .int (b + 1)) (by omega) (by rw [rl]; omega)
      have i2 := ins_ok (ds := (r.map D.int).take k ++ ([D.int (b + 1)] ++ (r.map D.int).drop k)) (k := k) (d := .int b) (by omega) (by simp; omega)
      have tk : ((r.map D.int).take k).length = k := by rw [List.length_take, rl]; omega
      rw [List.take_left' tk, List.drop_left' tk] at i2
      have e : (r.map D.int).take k ++ ([.int b] ++ ([.int (b + 1)] ++ (r.map D.int).drop k)) = (nx b r "born" k).map D.int := by simp [nx]
      rw [e] at i2
      simp only [List.cons_append, List.nil_append] at i1 i2
      have q : bn b "born" = b + 2 := by simp [bn]
      rw [q]
      simp only [ap_v, ap_c, ap_2, ap_A, ap_nil, ap_cons, ap_lst, ap_tup, ap_B, ap_call, ap_callN, ap_callO, ap_T, ap_isT, ap_not, ap_neg, ap_and, ap_or, ap_if, ap_ch, ap_seq, ap_snil, ap_sif, ap_ret, ap_retN, ap_asg, ap_exp, ap_tgt, ap_app, ap_rev, ap_set, ap_aug, ap_for, ap_forM, ap_rng1, ap_rng2, ap_mseq, ap_enum, ap_lc, ap_yes, ap_gnm, ap_gtp, ap_gnil, ap_gcons, ap_fM, ap_on, ap_oc, r_add, r_sub, r_mul, r_div, r_mod, r_pow, r_lt, r_le, r_gt, r_ge, r_eqI, r_eqS, r_neI, r_neS, r_ixL, r_ixT, r_ixR, r_ipL, r_ipT, r_len, r_lenT, r_lenR, r_abs, r_max, r_min, a_int, a_bl, a_str, a_non, t_bl, List.map_cons, List.map_nil, List.length_cons, List.length_nil, List.replicate, List.cons_append, List.nil_append, List.getElem?_cons_zero, List.getElem?_cons_succ, List.set_cons_zero, List.set_cons_succ, List.getElem?_nil, Nat.reduceSub, Nat.reduceAdd, Nat.reduceEqDiff, decide_true, decide_false, ap_mk, ap_mut, ap_swap, ap_putI, ap_ev2, ap_keys, ap_mD, ap_put, ap_get2, ap_disp, ap_dsN, ap_dsC, ap_srtD, ap_sl, ap_oS, ap_oN, r_catI, r_mkL, r_mkLT, r_mkT, ap_gtpL, ap_mut, row, i1, i2]
    · have s := set2 (.int ((r[k + 1]?).getD 0)) (.int ((r[k]?).getD 0)) k (r.map D.int) (by rw [rl]; omega)
      have e : (r.map D.int).take k ++ [.int ((r[k + 1]?).getD 0), .int ((r[k]?).getD 0)] ++ (r.map D.int).drop (k + 2) = (nx b r "cross" k).map D.int := by simp [nx, born_ne]
      rw [e] at s
      have a1 := at_row (r := r) (k := k) (by omega)
      have a2 := at_row (r := r) (k := k + 1) (by omega)
      have a2' : atI (r.map D.int) ((k : Int) + 1) = some (.int ((r[k + 1]?).getD 0)) := a2
      have j1 := ix_nn (n := r.length) (k := k) (by omega)
      have j2 := ix_nn (n := r.length) (k := k + 1) (by omega)
      have j2' : ixN r.length ((k : Int) + 1) = some (k + 1) := j2
      have q : bn b "cross" = b := by simp [bn, born_ne]
      rw [q]
      simp only [ap_v, ap_c, ap_2, ap_A, ap_nil, ap_cons, ap_lst, ap_tup, ap_B, ap_call, ap_callN, ap_callO, ap_T, ap_isT, ap_not, ap_neg, ap_and, ap_or, ap_if, ap_ch, ap_seq, ap_snil, ap_sif, ap_ret, ap_retN, ap_asg, ap_exp, ap_tgt, ap_app, ap_rev, ap_set, ap_aug, ap_for, ap_forM, ap_rng1, ap_rng2, ap_mseq, ap_enum, ap_lc, ap_yes, ap_gnm, ap_gtp, ap_gnil, ap_gcons, ap_fM, ap_on, ap_oc, r_add, r_sub, r_mul, r_div, r_mod, r_pow, r_lt, r_le, r_gt, r_ge, r_eqI, r_eqS, r_neI, r_neS, r_ixL, r_ixT, r_ixR, r_ipL, r_ipT, r_len, r_lenT, r_lenR, r_abs, r_max, r_min, a_int, a_bl, a_str, a_non, t_bl, List.map_cons, List.map_nil, List.length_cons, List.length_nil, List.replicate, List.cons_append, List.nil_append, List.getElem?_cons_zero, List.getElem?_cons_succ, List.set_cons_zero, List.set_cons_succ, List.getElem?_nil, Nat.reduceSub, Nat.reduceAdd, Nat.reduceEqDiff, decide_true, decide_false, ap_mk, ap_mut, ap_swap, ap_putI, ap_ev2, ap_keys, ap_mD, ap_put, ap_get2, ap_disp, ap_dsN, ap_dsC, ap_srtD, ap_sl, ap_oS, ap_oN, r_catI, r_mkL, r_mkLT, r_mkT, ap_gtpL, sSwap, putI, row, a1, a2', rl, List.length_set, j1, j2', s, born_ne, decide_false, show (0 + 1 + 1 : Nat) ≤ 16777216 from by omega, if_true]
    · obtain ⟨x1, p1⟩ := pop_ok (ds := r.map D.int) (k := k) (by rw [rl]; omega) (by rw [rl]; omega)
      obtain ⟨x2, p2⟩ := pop_ok (ds := (r.map D.int).take k ++ (r.map D.int).drop (k + 1)) (k := k) (by simp; omega) (by simp; omega)
      have tk : ((r.map D.int).take k).length = k := by rw [List.length_take, rl]; omega
      have d1 : ((r.map D.int).take k ++ (r.map D.int).drop (k + 1)).drop (k + 1) = (r.map D.int).drop (k + 2) := by
        rw [← List.drop_drop, List.drop_left' tk, List.drop_drop]
      rw [List.take_left' tk, d1] at p2
      have e : (r.map D.int).take k ++ (r.map D.int).drop (k + 2) = (nx b r "end" k).map D.int := by simp [nx, born_ne]
      rw [e] at p2
      have q : bn b "end" = b := by simp [bn, born_ne]
      rw [q]
      simp only [ap_v, ap_c, ap_2, ap_A, ap_nil, ap_cons, ap_lst, ap_tup, ap_B, ap_call, ap_callN, ap_callO, ap_T, ap_isT, ap_not, ap_neg, ap_and, ap_or, ap_if, ap_ch, ap_seq, ap_snil, ap_sif, ap_ret, ap_retN, ap_asg, ap_exp, ap_tgt, ap_app, ap_rev, ap_set, ap_aug, ap_for, ap_forM, ap_rng1, ap_rng2, ap_mseq, ap_enum, ap_lc, ap_yes, ap_gnm, ap_gtp, ap_gnil, ap_gcons, ap_fM, ap_on, ap_oc, r_add, r_sub, r_mul, r_div, r_mod, r_pow, r_lt, r_le, r_gt, r_ge, r_eqI, r_eqS, r_neI, r_neS, r_ixL, r_ixT, r_ixR, r_ipL, r_ipT, r_len, r_lenT, r_lenR, r_abs, r_max, r_min, a_int, a_bl, a_str, a_non, t_bl, List.map_cons, List.map_nil, List.length_cons, List.length_nil, List.replicate, List.cons_append, List.nil_append, List.getElem?_cons_zero, List.getElem?_cons_succ, List.set_cons_zero, List.set_cons_succ, List.getElem?_nil, Nat.reduceSub, Nat.reduceAdd, Nat.reduceEqDiff, decide_true, decide_false, ap_mk, ap_mut, ap_swap, ap_putI, ap_ev2, ap_keys, ap_mD, ap_put, ap_get2, ap_disp, ap_dsN, ap_dsC, ap_srtD, ap_sl, ap_oS, ap_oN, r_catI, r_mkL, r_mkLT, r_mkT, ap_gtpL, ap_mut, row, p1, p2, born_ne, decide_false]
  simp only [ap_v, ap_c, ap_2, ap_A, ap_nil, ap_cons, ap_lst, ap_tup, ap_B, ap_call, ap_callN, ap_callO, ap_T, ap_isT, ap_not, ap_neg, ap_and, ap_or, ap_if, ap_ch, ap_seq, ap_snil, ap_sif, ap_ret, ap_retN, ap_asg, ap_exp, ap_tgt, ap_app, ap_rev, ap_set, ap_aug, ap_for, ap_forM, ap_rng1, ap_rng2, ap_mseq, ap_enum, ap_lc, ap_yes, ap_gnm, ap_gtp, ap_gnil, ap_gcons, ap_fM, ap_on, ap_oc, r_add, r_sub, r_mul, r_div, r_mod, r_pow, r_lt, r_le, r_gt, r_ge, r_eqI, r_eqS, r_neI, r_neS, r_ixL, r_ixT, r_ixR, r_ipL, r_ipT, r_len, r_lenT, r_lenR, r_abs, r_max, r_min, a_int, a_bl, a_str, a_non, t_bl, List.map_cons, List.map_nil, List.length_cons, List.length_nil, List.replicate, List.cons_append, List.nil_append, List.getElem?_cons_zero, List.getElem?_cons_succ, List.set_cons_zero, List.set_cons_succ, List.getElem?_nil, Nat.reduceSub, Nat.reduceAdd, Nat.reduceEqDiff, decide_true, decide_false, ap_mk, ap_mut, ap_swap, ap_putI, ap_ev2, ap_keys, ap_mD, ap_put, ap_get2, ap_disp, ap_dsN, ap_dsC, ap_srtD, ap_sl, ap_oS, ap_oN, r_catI, r_mkL, r_mkLT, r_mkT, ap_gtpL, hz, if_true]
def wk2 : D → Str × Nat
  | .tup [.str w, .int k] => (w, k.toNat)
  | _ => ("born", 0)
def rowsF : List Int → Int → List D → List (List Int)
  | _, _, [] => []
  | r, b, d :: ls => nx b r (wk2 d).1 (wk2 d).2 :: rowsF (nx b r (wk2 d).1 (wk2 d).2) (bn b (wk2 d).1) ls
/-- what a letter is, at a row of as many as there are -/
theorem letter_at {m m' : Int} {d : D} {ls : List D} (h : OkL m (d :: ls) m') (r : List Int) (hr : (r.length : Int) = m) (b : Int) :
    ∃ (w : Str) (k : Nat) (m2 : Int), d = .tup [.str w, .int k] ∧ k ≤ r.length ∧ (w = "born" ∨ ((w = "cross" ∨ w = "end") ∧ k + 2 ≤ r.length)) ∧ OkL m2 ls m' ∧ ((nx b r w k).length : Int) = m2 ∧ m2 ≤ m + 2 := by
  obtain ⟨k, ⟨rfl, h4, h5, h6⟩ | ⟨rfl, h4, h5, h6⟩ | ⟨rfl, h4, h5, h6⟩⟩ := h
  · obtain ⟨n, rfl⟩ := Int.eq_ofNat_of_zero_le h4
    refine ⟨"born", n, m + 2, rfl, by omega, .inl rfl, h6, ?_, by omega⟩
    simp [nx]
    omega
  · obtain ⟨n, rfl⟩ := Int.eq_ofNat_of_zero_le h4
    refine ⟨"cross", n, m, rfl, by omega, .inr ⟨.inl rfl, by omega⟩, h6, ?_, by omega⟩
    simp [nx, born_ne]
    omega
  · obtain ⟨n, rfl⟩ := Int.eq_ofNat_of_zero_le h4
    refine ⟨"end", n, m - 2, rfl, by omega, .inr ⟨.inr rfl, by omega⟩, h6, ?_, by omega⟩
    simp [nx, born_ne]
    omega
theorem rows_loop (d0 : D) : ∀ (ls : List D) (m m' b : Int) (r : List Int) (acc : List D) (x3 x4 x5 : Option D), OkL m ls m' → (r.length : Int) = m → acc.length + ls.length < 50000 → m + 2 * ls.length < 50000 →
    ∃ b' y3 y4 y5, itF (gTp (gsCons (gNm 3) (gsCons (gNm 4) gsNil))) b__law_rows_0 ls [some d0, some (.lst (acc ++ [row r])), some (.int b), x3, x4, x5] = some (.nx [some d0, some (.lst (acc ++ [row r] ++ (rowsF r b ls).map row)), some (.int b'), y3, y4, y5])
  | [], m, m', b, r, acc, x3, x4, x5, _, _, _, _ => ⟨b, x3, x4, x5, by simp [itF, rowsF]⟩
  | d :: ls, m, m', b, r, acc, x3, x4, x5, h, hr, hl, hm => by
    obtain ⟨w, k, m2, rfl, hk, hw, h2, hn, hm2⟩ := letter_at h r hr b
    have step := rows_step d0 acc b r w k x5 (by simp at hm; omega) (by simp at hl; omega) hk hw
    obtain ⟨b', y3, y4, y5, e⟩ := rows_loop d0 ls m2 m' (bn b w) (nx b r w k) (acc ++ [row r]) (some (.str w)) (some (.int k)) (some (row (nx b r w k))) h2 hn (by simp at hl ⊢; omega) (by simp at hm ⊢; omega)
    refine ⟨b', y3, y4, y5, ?_⟩
    have e0 : rowsF r b (.tup [.str w, .int k] :: ls) = nx b r w k :: rowsF (nx b r w k) (bn b w) ls := by simp [rowsF, wk2]
    simp only [itF, ap_gtp, ap_gcons, ap_gnil, ap_gnm, Option.bind_some, List.set_cons_zero, List.set_cons_succ]
    rw [step]
    simp only []
    rw [e, e0]
    simp
theorem thr_step (d0 : D) (acc : List D) (b : Int) (r : List Int) (w : Str) (k : Nat) (hl : r.length < 100000) (ha : acc.length < 100000) (hw : w = "born" ∨ ((w = "cross" ∨ w = "end") ∧ k + 2 ≤ r.length)) :
    b_threads_0 [some d0, some (.lst (acc ++ [row r])), some (.int b), some (.tup [.str w, .int k])] = some (.nx [some d0, some (.lst (acc ++ [row r] ++ [row (nx b r w k)])), some (.int (bn b w)), some (.tup [.str w, .int k])]) := by
  have li := last_ix (found := acc) (x := row r)
  have hz : (acc ++ [row r]).length < 16777216 := by simp; omega
  obtain ⟨e, eb⟩ := beh_ok b r w k (by omega) hw
  have a0 : atI [D.str w, .int k] 0 = some (.str w) := rfl
  refine st_seq (ρ1 := [some d0, some (.lst (acc ++ [row r] ++ [row (nx b r w k)])), some (.int b), some (.tup [.str w, .int k])]) ?_ ?_
  · simp only [ap_v, ap_c, ap_2, ap_A, ap_nil, ap_cons, ap_lst, ap_tup, ap_B, ap_call, ap_callN, ap_callO, ap_T, ap_isT, ap_not, ap_neg, ap_and, ap_or, ap_if, ap_ch, ap_seq, ap_snil, ap_sif, ap_ret, ap_retN, ap_asg, ap_exp, ap_tgt, ap_app, ap_rev, ap_set, ap_aug, ap_for, ap_forM, ap_rng1, ap_rng2, ap_mseq, ap_enum, ap_lc, ap_yes, ap_gnm, ap_gtp, ap_gnil, ap_gcons, ap_fM, ap_on, ap_oc, r_add, r_sub, r_mul, r_div, r_mod, r_pow, r_lt, r_le, r_gt, r_ge, r_eqI, r_eqS, r_neI, r_neS, r_ixL, r_ixT, r_ixR, r_ipL, r_ipT, r_len, r_lenT, r_lenR, r_abs, r_max, r_min, a_int, a_bl, a_str, a_non, t_bl, List.map_cons, List.map_nil, List.length_cons, List.length_nil, List.replicate, List.cons_append, List.nil_append, List.getElem?_cons_zero, List.getElem?_cons_succ, List.set_cons_zero, List.set_cons_succ, List.getElem?_nil, Nat.reduceSub, Nat.reduceAdd, Nat.reduceEqDiff, decide_true, decide_false, ap_mk, ap_mut, ap_swap, ap_putI, ap_ev2, ap_keys, ap_mD, ap_put, ap_get2, ap_disp, ap_dsN, ap_dsC, ap_srtD, ap_sl, ap_oS, ap_oN, r_catI, r_mkL, r_mkLT, r_mkT, ap_gtpL, li, eb, hz, if_true]
  by_cases q : w = "born"
  · subst q
    have q : bn b "born" = b + 2 := by simp [bn]
    rw [q]
    simp only [ap_v, ap_c, ap_2, ap_A, ap_nil, ap_cons, ap_lst, ap_tup, ap_B, ap_call, ap_callN, ap_callO, ap_T, ap_isT, ap_not, ap_neg, ap_and, ap_or, ap_if, ap_ch, ap_seq, ap_snil, ap_sif, ap_ret, ap_retN, ap_asg, ap_exp, ap_tgt, ap_app, ap_rev, ap_set, ap_aug, ap_for, ap_forM, ap_rng1, ap_rng2, ap_mseq, ap_enum, ap_lc, ap_yes, ap_gnm, ap_gtp, ap_gnil, ap_gcons, ap_fM, ap_on, ap_oc, r_add, r_sub, r_mul, r_div, r_mod, r_pow, r_lt, r_le, r_gt, r_ge, r_eqI, r_eqS, r_neI, r_neS, r_ixL, r_ixT, r_ixR, r_ipL, r_ipT, r_len, r_lenT, r_lenR, r_abs, r_max, r_min, a_int, a_bl, a_str, a_non, t_bl, List.map_cons, List.map_nil, List.length_cons, List.length_nil, List.replicate, List.cons_append, List.nil_append, List.getElem?_cons_zero, List.getElem?_cons_succ, List.set_cons_zero, List.set_cons_succ, List.getElem?_nil, Nat.reduceSub, Nat.reduceAdd, Nat.reduceEqDiff, decide_true, decide_false, ap_mk, ap_mut, ap_swap, ap_putI, ap_ev2, ap_keys, ap_mD, ap_put, ap_get2, ap_disp, ap_dsN, ap_dsC, ap_srtD, ap_sl, ap_oS, ap_oN, r_catI, r_mkL, r_mkLT, r_mkT, ap_gtpL, a0]
  · have q2 : bn b w = b := by simp [bn, q]
    rw [q2]
    simp only [ap_v, ap_c, ap_2, ap_A, ap_nil, ap_cons, ap_lst, ap_tup, ap_B, ap_call, ap_callN, ap_callO, ap_T, ap_isT, ap_not, ap_neg, ap_and, ap_or, ap_if, ap_ch, ap_seq, ap_snil, ap_sif, ap_ret, ap_retN, ap_asg, ap_exp, ap_tgt, ap_app, ap_rev, ap_set, ap_aug, ap_for, ap_forM, ap_rng1, ap_rng2, ap_mseq, ap_enum, ap_lc, ap_yes, ap_gnm, ap_gtp, ap_gnil, ap_gcons, ap_fM, ap_on, ap_oc, r_add, r_sub, r_mul, r_div, r_mod, r_pow, r_lt, r_le, r_gt, r_ge, r_eqI, r_eqS, r_neI, r_neS, r_ixL, r_ixT, r_ixR, r_ipL, r_ipT, r_len, r_lenT, r_lenR, r_abs, r_max, r_min, a_int, a_bl, a_str, a_non, t_bl, List.map_cons, List.map_nil, List.length_cons, List.length_nil, List.replicate, List.cons_append, List.nil_append, List.getElem?_cons_zero, List.getElem?_cons_succ, List.set_cons_zero, List.set_cons_succ, List.getElem?_nil, Nat.reduceSub, Nat.reduceAdd, Nat.reduceEqDiff, decide_true, decide_false, ap_mk, ap_mut, ap_swap, ap_putI, ap_ev2, ap_keys, ap_mD, ap_put, ap_get2, ap_disp, ap_dsN, ap_dsC, ap_srtD, ap_sl, ap_oS, ap_oN, r_catI, r_mkL, r_mkLT, r_mkT, ap_gtpL, a0, q]
theorem thr_loop (d0 : D) : ∀ (ls : List D) (m m' b : Int) (r : List Int) (acc : List D) (x3 : Option D), OkL m ls m' → (r.length : Int) = m → acc.length + ls.length < 50000 → m + 2 * ls.length < 50000 →
    ∃ b' y3, itF (gNm 3) b_threads_0 ls [some d0, some (.lst (acc ++ [row r])), some (.int b), x3] = some (.nx [some d0, some (.lst (acc ++ [row r] ++ (rowsF r b ls).map row)), some (.int b'), y3])
  | [], m, m', b, r, acc, x3, _, _, _, _ => ⟨b, x3, by simp [itF, rowsF]⟩
  | d :: ls, m, m', b, r, acc, x3, h, hr, hl, hm => by
    obtain ⟨w, k, m2, rfl, hk, hw, h2, hn, hm2⟩ := letter_at h r hr b
    have step := thr_step d0 acc b r w k (by simp at hm; omega) (by simp at hl; omega) hw
    obtain ⟨b', y3, e⟩ := thr_loop d0 ls m2 m' (bn b w) (nx b r w k) (acc ++ [row r]) (some (.tup [.str w, .int k])) h2 hn (by simp at hl ⊢; omega) (by simp at hm ⊢; omega)
    refine ⟨b', y3, ?_⟩
    have e0 : rowsF r b (.tup [.str w, .int k] :: ls) = nx b r w k :: rowsF (nx b r w k) (bn b w) ls := by simp [rowsF, wk2]
    simp only [itF, ap_gnm, Option.bind_some, List.set_cons_zero, List.set_cons_succ]
    rw [step]
    simp only []
    rw [e, e0]
    simp
def allR (ls : List D) : List (List Int) := [] :: rowsF [] 0 ls
theorem rows_ok {ls : List D} {m' : Int} (h : OkL 0 ls m') (hl : ls.length < 2000) : ∃ e, F__law_rows [.lst ls] = some (.lst ((allR ls).map row), e) := by
  obtain ⟨b', y3, y4, y5, e⟩ := rows_loop (.lst ls) ls 0 m' 0 [] [] none none none h rfl (by simp; omega) (by omega)
  refine ⟨[.lst ls], ?_⟩
  have e' : itF (gTp (gsCons (gNm 3) (gsCons (gNm 4) gsNil))) b__law_rows_0 ls [some (.lst ls), some (.lst [.lst []]), some (.int 0), none, none, none] = some (.nx [some (.lst ls), some (.lst ((allR ls).map row)), some (.int b'), y3, y4, y5]) := e
  simp only [F__law_rows, m__law_rows, sg__law_rows, ap_v, ap_c, ap_2, ap_A, ap_nil, ap_cons, ap_lst, ap_tup, ap_B, ap_call, ap_callN, ap_callO, ap_T, ap_isT, ap_not, ap_neg, ap_and, ap_or, ap_if, ap_ch, ap_seq, ap_snil, ap_sif, ap_ret, ap_retN, ap_asg, ap_exp, ap_tgt, ap_app, ap_rev, ap_set, ap_aug, ap_for, ap_forM, ap_rng1, ap_rng2, ap_mseq, ap_enum, ap_lc, ap_yes, ap_gnm, ap_gtp, ap_gnil, ap_gcons, ap_fM, ap_on, ap_oc, r_add, r_sub, r_mul, r_div, r_mod, r_pow, r_lt, r_le, r_gt, r_ge, r_eqI, r_eqS, r_neI, r_neS, r_ixL, r_ixT, r_ixR, r_ipL, r_ipT, r_len, r_lenT, r_lenR, r_abs, r_max, r_min, a_int, a_bl, a_str, a_non, t_bl, List.map_cons, List.map_nil, List.length_cons, List.length_nil, List.replicate, List.cons_append, List.nil_append, List.getElem?_cons_zero, List.getElem?_cons_succ, List.set_cons_zero, List.set_cons_succ, List.getElem?_nil, Nat.reduceSub, Nat.reduceAdd, Nat.reduceEqDiff, decide_true, decide_false, ap_mk, ap_mut, ap_swap, ap_putI, ap_ev2, ap_keys, ap_mD, ap_put, ap_get2, ap_disp, ap_dsN, ap_dsC, ap_srtD, ap_sl, ap_oS, ap_oN, r_catI, r_mkL, r_mkLT, r_mkT, ap_gtpL, e', show (0 + 1 : Nat) ≤ 16777216 from by omega, show (0 : Nat) ≤ 16777216 from by omega, if_true]
theorem threads_ok {ls : List D} {m' : Int} (h : OkL 0 ls m') (hl : ls.length < 2000) : ∃ e, F_threads [.lst ls] = some (.lst ((allR ls).map row), e) := by
  obtain ⟨b', y3, e⟩ := thr_loop (.lst ls) ls 0 m' 0 [] [] none h rfl (by simp; omega) (by omega)
  refine ⟨[.lst ls], ?_⟩
  have e' : itF (gNm 3) b_threads_0 ls [some (.lst ls), some (.lst [.lst []]), some (.int 0), none] = some (.nx [some (.lst ls), some (.lst ((allR ls).map row)), some (.int b'), y3]) := e
  simp only [F_threads, m_threads, sg_threads, ap_v, ap_c, ap_2, ap_A, ap_nil, ap_cons, ap_lst, ap_tup, ap_B, ap_call, ap_callN, ap_callO, ap_T, ap_isT, ap_not, ap_neg, ap_and, ap_or, ap_if, ap_ch, ap_seq, ap_snil, ap_sif, ap_ret, ap_retN, ap_asg, ap_exp, ap_tgt, ap_app, ap_rev, ap_set, ap_aug, ap_for, ap_forM, ap_rng1, ap_rng2, ap_mseq, ap_enum, ap_lc, ap_yes, ap_gnm, ap_gtp, ap_gnil, ap_gcons, ap_fM, ap_on, ap_oc, r_add, r_sub, r_mul, r_div, r_mod, r_pow, r_lt, r_le, r_gt, r_ge, r_eqI, r_eqS, r_neI, r_neS, r_ixL, r_ixT, r_ixR, r_ipL, r_ipT, r_len, r_lenT, r_lenR, r_abs, r_max, r_min, a_int, a_bl, a_str, a_non, t_bl, List.map_cons, List.map_nil, List.length_cons, List.length_nil, List.replicate, List.cons_append, List.nil_append, List.getElem?_cons_zero, List.getElem?_cons_succ, List.set_cons_zero, List.set_cons_succ, List.getElem?_nil, Nat.reduceSub, Nat.reduceAdd, Nat.reduceEqDiff, decide_true, decide_false, ap_mk, ap_mut, ap_swap, ap_putI, ap_ev2, ap_keys, ap_mD, ap_put, ap_get2, ap_disp, ap_dsN, ap_dsC, ap_srtD, ap_sl, ap_oS, ap_oN, r_catI, r_mkL, r_mkLT, r_mkT, ap_gtpL, e', show (0 + 1 : Nat) ≤ 16777216 from by omega, show (0 : Nat) ≤ 16777216 from by omega, if_true]
theorem whole_ok (i : Int) : F__law_whole [.int i] = some (.bl true, [.int i]) := rfl
theorem numbers_yes (xs : List Int) (hl : xs.length < 100000) : F__law_numbers [.lst (xs.map .int)] = some (.bl true, [.lst (xs.map .int)]) := by
  obtain ⟨ρ', e, _⟩ := cpL_map (vs := [1]) (mg := gNm 1) (mc := mYes) (me := mCall F__law_whole (mCons (mV 1) mNil)) (ρ := [some (.lst (xs.map .int)), none]) (fun _ => D.bl true) (xs.map D.int)
    (fun d hd => by
      obtain ⟨i, _, rfl⟩ := List.mem_map.mp hd
      exact ⟨[some (.lst (xs.map .int)), some (.int i)], rfl, rfl, [some (.lst (xs.map .int)), some (.int i)], rfl, rfl⟩) [some (.lst (xs.map .int)), none] rfl
  have hz : ((xs.map D.int).map fun _ => D.bl true).length ≤ 16777216 := by simp; omega
  have e1 : isT "list" (.lst (xs.map D.int)) = some true := rfl
  have e2 := all_true (xs.map D.int)
  simp only [F__law_numbers, m__law_numbers, sg__law_numbers, ap_v, ap_c, ap_2, ap_A, ap_nil, ap_cons, ap_lst, ap_tup, ap_B, ap_call, ap_callN, ap_callO, ap_T, ap_isT, ap_not, ap_neg, ap_and, ap_or, ap_if, ap_ch, ap_seq, ap_snil, ap_sif, ap_ret, ap_retN, ap_asg, ap_exp, ap_tgt, ap_app, ap_rev, ap_set, ap_aug, ap_for, ap_forM, ap_rng1, ap_rng2, ap_mseq, ap_enum, ap_lc, ap_yes, ap_gnm, ap_gtp, ap_gnil, ap_gcons, ap_fM, ap_on, ap_oc, r_add, r_sub, r_mul, r_div, r_mod, r_pow, r_lt, r_le, r_gt, r_ge, r_eqI, r_eqS, r_neI, r_neS, r_ixL, r_ixT, r_ixR, r_ipL, r_ipT, r_len, r_lenT, r_lenR, r_abs, r_max, r_min, a_int, a_bl, a_str, a_non, t_bl, List.map_cons, List.map_nil, List.length_cons, List.length_nil, List.replicate, List.cons_append, List.nil_append, List.getElem?_cons_zero, List.getElem?_cons_succ, List.set_cons_zero, List.set_cons_succ, List.getElem?_nil, Nat.reduceSub, Nat.reduceAdd, Nat.reduceEqDiff, decide_true, decide_false, ap_mk, ap_mut, ap_swap, ap_putI, ap_ev2, ap_keys, ap_mD, ap_put, ap_get2, ap_disp, ap_dsN, ap_dsC, ap_srtD, ap_sl, ap_oS, ap_oN, r_catI, r_mkL, r_mkLT, r_mkT, ap_gtpL, e1, e, hz, if_true, e2]
theorem OkL.shape : ∀ {ls : List D} {m m' : Int}, OkL m ls m' → ∀ d ∈ ls, ∃ (w : Str) (k : Int), d = .tup [.str w, .int k]
  | [], _, _, _, d, hd => by simp at hd
  | d :: ls, m, m', h, x, hx => by
    obtain ⟨k, ⟨rfl, h4, h5, h6⟩ | ⟨rfl, h4, h5, h6⟩ | ⟨rfl, h4, h5, h6⟩⟩ := h <;>
    · rcases List.mem_cons.mp hx with rfl | hx
      · exact ⟨_, k, rfl⟩
      · exact h6.shape x hx
theorem dep_let {ls : List D} (hs : ∀ d ∈ ls, ∃ (w : Str) (k : Int), d = .tup [.str w, .int k]) : dep (.lst ls) ≤ 60 := Nat.le_trans (dep_lst (k := 1) fun d hd => by
  obtain ⟨w, k, rfl⟩ := hs d hd
  refine dep_tup (k := 0) fun x hx => ?_
  simp only [List.mem_cons, List.not_mem_nil, or_false] at hx
  rcases hx with rfl | rfl <;> exact Nat.le_of_eq (dep_atom rfl)) (by omega)
theorem dep_rows (rs : List (List Int)) : dep (.lst (rs.map row)) ≤ 60 := Nat.le_trans (dep_lst (k := 1) fun d hd => by
  obtain ⟨r, _, rfl⟩ := List.mem_map.mp hd
  refine dep_lst (k := 0) fun x hx => ?_
  obtain ⟨i, _, rfl⟩ := List.mem_map.mp hx
  exact Nat.le_of_eq (dep_atom rfl)) (by omega)
theorem rowsF_len : ∀ (ls : List D) (m m' b : Int) (r : List Int), OkL m ls m' → (r.length : Int) = m → ∀ q ∈ rowsF r b ls, (q.length : Int) ≤ m + 2 * ls.length
  | [], _, _, _, _, _, _, q, hq => by simp [rowsF] at hq
  | d :: ls, m, m', b, r, h, hr, q, hq => by
    obtain ⟨w, k, m2, rfl, hk, hw, h2, hn, hm2⟩ := letter_at h r hr b
    have e0 : rowsF r b (.tup [.str w, .int k] :: ls) = nx b r w k :: rowsF (nx b r w k) (bn b w) ls := by simp [rowsF, wk2]
    rw [e0] at hq
    rcases List.mem_cons.mp hq with rfl | hq
    · simp
      omega
    · have := rowsF_len ls m2 m' (bn b w) (nx b r w k) h2 hn q hq
      simp at this ⊢
      omega
theorem rowsF_many : ∀ (ls : List D) (b : Int) (r : List Int), (rowsF r b ls).length = ls.length
  | [], _, _ => rfl
  | d :: ls, b, r => by simp [rowsF, rowsF_many ls]
theorem allR_len {ls : List D} {m' : Int} (h : OkL 0 ls m') (hl : ls.length < 2000) : ∀ q ∈ allR ls, q.length < 10000 := fun q hq => by
  rcases List.mem_cons.mp hq with rfl | hq
  · simp
  · have := rowsF_len ls 0 m' 0 [] h rfl q hq
    omega
theorem allR_many (ls : List D) : (allR ls).length = ls.length + 1 := by simp [allR, rowsF_many]
structure Mts (S : Int → Prop) (mu bm : Int → Int) : Prop where
  mS : ∀ x, S x → S (mu x)
  bS : ∀ x, S x → S (bm x)
  mm : ∀ x, S x → mu (mu x) = x
  bb : ∀ x, S x → bm (bm x) = x
  mn : ∀ x, S x → mu x ≠ x
  bn : ∀ x, S x → bm x ≠ x
def hs (mu bm : Int → Int) (s : Int) : Nat → Int
  | 0 => s
  | k + 1 => bm (mu (hs mu bm s k))
def gon (mu bm : Int → Int) (s : Int) : Nat → List Int
  | 0 => []
  | k + 1 => gon mu bm s k ++ [hs mu bm s k, mu (hs mu bm s k)]
theorem nodup_le : ∀ (xs ys : List Int), xs.Nodup → (∀ x ∈ xs, x ∈ ys) → xs.length ≤ ys.length
  | [], ys, _, _ => Nat.zero_le _
  | x :: xs, ys, h, hs => by
    have hx : x ∈ ys := hs x (by simp)
    have hn := List.nodup_cons.mp h
    have := nodup_le xs (ys.erase x) hn.2 fun y hy => by
      have hne : y ≠ x := fun z => hn.1 (z ▸ hy)
      exact (List.mem_erase_of_ne hne).mpr (hs y (by simp [hy]))
    rw [List.length_erase_of_mem hx] at this
    have hp : 0 < ys.length := List.length_pos_of_mem hx
    simp
    omega
section
variable {S : Int → Prop} {mu bm : Int → Int} {s : Int}
theorem hs_S (M : Mts S mu bm) (h : S s) : ∀ k, S (hs mu bm s k)
  | 0 => h
  | k + 1 => M.bS _ (M.mS _ (hs_S M h k))
theorem hs_back (M : Mts S mu bm) (h : S s) : ∀ i d, hs mu bm s (i + d) = hs mu bm s i → hs mu bm s d = s
  | 0, d, e => by rw [Nat.zero_add] at e; exact e
  | i + 1, d, e => by
    rw [show i + 1 + d = i + d + 1 by omega] at e
    have e1 : bm (mu (hs mu bm s (i + d))) = bm (mu (hs mu bm s i)) := e
    have h1 := hs_S M h (i + d)
    have h2 := hs_S M h i
    have e2 := congrArg bm e1
    rw [M.bb _ (M.mS _ h1), M.bb _ (M.mS _ h2)] at e2
    have e3 := congrArg mu e2
    rw [M.mm _ h1, M.mm _ h2] at e3
    exact hs_back M h i d e3
theorem meet_flip (M : Mts S mu bm) (h : S s) {i j : Nat} (e : hs mu bm s i = mu (hs mu bm s j)) : hs mu bm s j = mu (hs mu bm s i) := by
  rw [e, M.mm _ (hs_S M h j)]
theorem no_meet (M : Mts S mu bm) (h : S s) (d : Nat) : ∀ j, hs mu bm s (j + d) ≠ mu (hs mu bm s j) := by
  induction d using Nat.strongRecOn with
  | ind d ih =>
    intro j e
    match d, ih with
    | 0, _ => exact M.mn _ (hs_S M h j) (by rw [Nat.add_zero] at e; exact e.symm)
    | 1, _ => exact M.bn _ (M.mS _ (hs_S M h j)) e
    | d + 2, ih =>
      have e1 : bm (mu (hs mu bm s (j + d + 1))) = mu (hs mu bm s j) := e
      have e2 := congrArg bm e1
      rw [M.bb _ (M.mS _ (hs_S M h _))] at e2
      have e3 : hs mu bm s (j + 1 + d) = mu (hs mu bm s (j + 1)) := by
        rw [show j + 1 + d = j + d + 1 by omega]
        exact meet_flip M h e2.symm
      exact ih d (by omega) (j + 1) e3
theorem no_meet' (M : Mts S mu bm) (h : S s) (i j : Nat) : hs mu bm s i ≠ mu (hs mu bm s j) := by
  rcases Nat.le_total j i with q | q
  · obtain ⟨d, rfl⟩ := Nat.le.dest q
    exact no_meet M h d j
  · obtain ⟨d, rfl⟩ := Nat.le.dest q
    exact fun e => no_meet M h d i (meet_flip M h e)
theorem mem_gon {x : Int} : ∀ {k : Nat}, x ∈ gon mu bm s k ↔ ∃ i, i < k ∧ (x = hs mu bm s i ∨ x = mu (hs mu bm s i))
  | 0 => by simp [gon]
  | k + 1 => by
    rw [show gon mu bm s (k + 1) = gon mu bm s k ++ [hs mu bm s k, mu (hs mu bm s k)] from rfl, List.mem_append, mem_gon]
    constructor
    · rintro (⟨i, h, e⟩ | h)
      · exact ⟨i, by omega, e⟩
      · simp only [List.mem_cons, List.not_mem_nil, or_false] at h
        exact ⟨k, by omega, h⟩
    · rintro ⟨i, h, e⟩
      by_cases q : i < k
      · exact .inl ⟨i, q, e⟩
      · have : i = k := by omega
        subst this
        exact .inr (by simpa using e)
def Per (mu bm : Int → Int) (s : Int) (N : Nat) : Prop := 0 < N ∧ hs mu bm s N = s ∧ ∀ k, 0 < k → k < N → hs mu bm s k ≠ s
theorem per_upto (K : Nat) : (∃ N, N ≤ K ∧ Per mu bm s N) ∨ (∀ k, 0 < k → k ≤ K → hs mu bm s k ≠ s) := by
  induction K with
  | zero => exact .inr fun k h1 h2 => by omega
  | succ K ih =>
    rcases ih with ⟨N, h1, h2⟩ | h
    · exact .inl ⟨N, by omega, h2⟩
    · by_cases e : hs mu bm s (K + 1) = s
      · exact .inl ⟨K + 1, by omega, by omega, e, fun k a b => h k a (by omega)⟩
      · refine .inr fun k a b => ?_
        by_cases q : k = K + 1
        · rw [q]; exact e
        · exact h k a (by omega)
theorem hs_nodup (M : Mts S mu bm) (h : S s) {K : Nat} (hk : ∀ k, 0 < k → k < K → hs mu bm s k ≠ s) : ((List.range K).map (hs mu bm s)).Nodup := by
  rw [List.Nodup, List.pairwise_map]
  refine List.Pairwise.imp_of_mem ?_ List.pairwise_lt_range
  intro i j hi hj hij e
  obtain ⟨d, rfl⟩ := Nat.le.dest (Nat.le_of_lt hij)
  rw [List.mem_range] at hj
  exact hk d (by omega) (by omega) (hs_back M h i d e.symm)
theorem per_ex (M : Mts S mu bm) (h : S s) {L : List Int} (hL : ∀ x, S x → x ∈ L) : ∃ N, N ≤ L.length ∧ Per mu bm s N := by
  rcases per_upto (mu := mu) (bm := bm) (s := s) L.length with q | q
  · exact q
  · have n := hs_nodup M h (K := L.length + 1) fun k a b => q k a (by omega)
    have := nodup_le _ L n fun x hx => by
      obtain ⟨i, _, rfl⟩ := List.mem_map.mp hx
      exact hL _ (hs_S M h i)
    rw [List.length_map, List.length_range] at this
    omega
noncomputable def NN (mu bm : Int → Int) (s : Int) : Nat := Classical.epsilon (Per mu bm s)
theorem NN_ok (M : Mts S mu bm) (h : S s) {L : List Int} (hL : ∀ x, S x → x ∈ L) : Per mu bm s (NN mu bm s) := by
  obtain ⟨N, _, p⟩ := per_ex M h hL
  exact Classical.epsilon_spec (p := Per mu bm s) ⟨N, p⟩
theorem per_le (M : Mts S mu bm) (h : S s) {L : List Int} (hL : ∀ x, S x → x ∈ L) {N : Nat} (p : Per mu bm s N) : N ≤ L.length := by
  have n := hs_nodup M h (K := N) fun k a b => p.2.2 k a b
  have := nodup_le _ L n fun x hx => by
    obtain ⟨i, _, rfl⟩ := List.mem_map.mp hx
    exact hL _ (hs_S M h i)
  simpa using this
theorem not_yet (M : Mts S mu bm) (h : S s) {N k : Nat} (p : Per mu bm s N) (hk : 0 < k) (hk2 : k < N) : hs mu bm s k ∉ gon mu bm s k := by
  rw [mem_gon]
  rintro ⟨i, hi, e | e⟩
  · obtain ⟨d, rfl⟩ := Nat.le.dest (Nat.le_of_lt hi)
    exact p.2.2 d (by omega) (by omega) (hs_back M h i d e)
  · exact no_meet' M h k i e
theorem back_now {N : Nat} (p : Per mu bm s N) : hs mu bm s N ∈ gon mu bm s N := mem_gon.mpr ⟨0, p.1, .inl p.2.1⟩
theorem gon_len : ∀ k, (gon mu bm s k).length = 2 * k
  | 0 => rfl
  | k + 1 => by simp [gon, gon_len k]; omega
theorem gon_nodup (M : Mts S mu bm) (h : S s) {N : Nat} (p : Per mu bm s N) : ∀ k, k ≤ N → (gon mu bm s k).Nodup
  | 0, _ => List.nodup_nil
  | k + 1, hk => by
    rw [show gon mu bm s (k + 1) = gon mu bm s k ++ [hs mu bm s k, mu (hs mu bm s k)] from rfl, List.nodup_append]
    refine ⟨gon_nodup M h p k (by omega), ?_, ?_⟩
    · have := no_meet' M h k k
      simp [List.nodup_cons, this]
    · intro a ha b hb e
      subst e
      simp only [List.mem_cons, List.not_mem_nil, or_false] at hb
      obtain ⟨i, hi, q⟩ := mem_gon.mp ha
      rcases hb with rfl | rfl
      · exact not_yet M h p (by omega) (by omega) ha
      · rcases q with q | q
        · exact no_meet' M h i k q.symm
        · have e2 := congrArg mu q
          rw [M.mm _ (hs_S M h k), M.mm _ (hs_S M h i)] at e2
          obtain ⟨d, rfl⟩ := Nat.le.dest (Nat.le_of_lt hi)
          exact p.2.2 d (by omega) (by omega) (hs_back M h i d e2)
noncomputable def wlk (mu bm : Int → Int) (s : Int) : List Int := gon mu bm s (NN mu bm s)
def Clo (mu bm : Int → Int) (xs : List Int) : Prop := ∀ x ∈ xs, mu x ∈ xs ∧ bm x ∈ xs
theorem gon_clo (M : Mts S mu bm) (h : S s) {N : Nat} (p : Per mu bm s N) : Clo mu bm (gon mu bm s N) := by
  intro x hx
  obtain ⟨i, hi, e⟩ := mem_gon.mp hx
  have hb : bm (hs mu bm s i) ∈ gon mu bm s N := by
    rw [mem_gon]
    match i, hi with
    | 0, _ =>
      obtain ⟨n, rfl⟩ : ∃ n, N = n + 1 := ⟨N - 1, by have := p.1; omega⟩
      have e1 : bm (mu (hs mu bm s n)) = s := p.2.1
      have e2 := congrArg bm e1
      rw [M.bb _ (M.mS _ (hs_S M h n))] at e2
      exact ⟨n, by omega, .inr e2.symm⟩
    | i + 1, hi => exact ⟨i, by omega, .inr (M.bb _ (M.mS _ (hs_S M h i)))⟩
  have hm : bm (mu (hs mu bm s i)) ∈ gon mu bm s N := by
    rw [mem_gon]
    by_cases q : i + 1 < N
    · exact ⟨i + 1, q, .inl rfl⟩
    · have q2 : i + 1 = N := by omega
      have q3 : bm (mu (hs mu bm s i)) = s := by
        have := p.2.1
        rw [← q2] at this
        exact this
      exact ⟨0, p.1, .inl q3⟩
  rcases e with rfl | rfl
  · exact ⟨mem_gon.mpr ⟨i, hi, .inr rfl⟩, hb⟩
  · exact ⟨mem_gon.mpr ⟨i, hi, .inl (M.mm _ (hs_S M h i))⟩, hm⟩
theorem gon_out (M : Mts S mu bm) (h : S s) {seen : List Int} (c : Clo mu bm seen) (hs0 : s ∉ seen) : ∀ k, hs mu bm s k ∉ seen
  | 0 => hs0
  | k + 1 => fun z => by
    have z1 := (c _ z).2
    rw [show hs mu bm s (k + 1) = bm (mu (hs mu bm s k)) from rfl, M.bb _ (M.mS _ (hs_S M h k))] at z1
    have z2 := (c _ z1).1
    rw [M.mm _ (hs_S M h k)] at z2
    exact gon_out M h c hs0 k z2
theorem gon_apart (M : Mts S mu bm) (h : S s) {seen : List Int} (c : Clo mu bm seen) (hs0 : s ∉ seen) (k : Nat) : ∀ x ∈ gon mu bm s k, x ∉ seen := by
  intro x hx z
  obtain ⟨i, _, rfl | rfl⟩ := mem_gon.mp hx
  · exact gon_out M h c hs0 i z
  · have z2 := (c _ z).1
    rw [M.mm _ (hs_S M h i)] at z2
    exact gon_out M h c hs0 i z2
open Classical in
noncomputable def sta (mu bm : Int → Int) : List Int → List Int → List Int
  | [], _ => []
  | x :: xs, seen => if x ∈ seen then sta mu bm xs seen else x :: sta mu bm xs (seen ++ wlk mu bm x)
theorem sta_all (M : Mts S mu bm) {L : List Int} (hL : ∀ x, S x → x ∈ L) : ∀ (rem seen : List Int), (∀ x ∈ rem, S x) → seen.Nodup → Clo mu bm seen → (∀ x ∈ seen, S x) →
    (seen ++ (sta mu bm rem seen).flatMap (wlk mu bm)).Nodup ∧ (∀ x ∈ rem, x ∈ seen ++ (sta mu bm rem seen).flatMap (wlk mu bm)) ∧ (∀ x ∈ seen ++ (sta mu bm rem seen).flatMap (wlk mu bm), S x) ∧ (∀ x ∈ sta mu bm rem seen, S x)
  | [], seen, _, h1, _, h3 => by simpa [sta] using ⟨h1, h3⟩
  | x :: xs, seen, hr, h1, h2, h3 => by
    by_cases q : x ∈ seen
    · obtain ⟨a, b, c, d⟩ := sta_all M hL xs seen (fun y hy => hr y (by simp [hy])) h1 h2 h3
      rw [show sta mu bm (x :: xs) seen = sta mu bm xs seen by simp [sta, q]]
      refine ⟨a, fun y hy => ?_, c, d⟩
      rcases List.mem_cons.mp hy with rfl | hy
      · exact List.mem_append_left _ q
      · exact b y hy
    · have hx : S x := hr x (by simp)
      have p := NN_ok M hx hL
      have n1 : (seen ++ wlk mu bm x).Nodup := by
        rw [List.nodup_append]
        exact ⟨h1, gon_nodup M hx p _ (Nat.le_refl _), fun a ha b hb e => gon_apart M hx h2 q _ b hb (e ▸ ha)⟩
      have c1 : Clo mu bm (seen ++ wlk mu bm x) := by
        intro y hy
        rcases List.mem_append.mp hy with hy | hy
        · exact ⟨List.mem_append_left _ (h2 y hy).1, List.mem_append_left _ (h2 y hy).2⟩
        · have := gon_clo M hx p y hy
          exact ⟨List.mem_append_right _ this.1, List.mem_append_right _ this.2⟩
      have s1 : ∀ y ∈ seen ++ wlk mu bm x, S y := by
        intro y hy
        rcases List.mem_append.mp hy with hy | hy
        · exact h3 y hy
        · obtain ⟨i, _, rfl | rfl⟩ := mem_gon.mp hy
          · exact hs_S M hx i
          · exact M.mS _ (hs_S M hx i)
      obtain ⟨a, b, c, d⟩ := sta_all M hL xs (seen ++ wlk mu bm x) (fun y hy => hr y (by simp [hy])) n1 c1 s1
      have e : sta mu bm (x :: xs) seen = x :: sta mu bm xs (seen ++ wlk mu bm x) := by simp [sta, q]
      have e2 : seen ++ (sta mu bm (x :: xs) seen).flatMap (wlk mu bm) = seen ++ wlk mu bm x ++ (sta mu bm xs (seen ++ wlk mu bm x)).flatMap (wlk mu bm) := by rw [e]; simp
      rw [e2, e]
      refine ⟨a, fun y hy => ?_, c, fun y hy => ?_⟩
      · rcases List.mem_cons.mp hy with rfl | hy
        · refine List.mem_append_left _ (List.mem_append_right _ ?_)
          exact mem_gon.mpr ⟨0, p.1, .inl rfl⟩
        · exact b y hy
      · rcases List.mem_cons.mp hy with rfl | hy
        · exact hx
        · exact d y hy
end
def flt : List (Int × Int) → List Int
  | [] => []
  | p :: es => p.1 :: p.2 :: flt es
theorem flt_app : ∀ (xs ys : List (Int × Int)), flt (xs ++ ys) = flt xs ++ flt ys
  | [], _ => rfl
  | p :: xs, ys => by simp [flt, flt_app xs ys]
theorem flt_len : ∀ es, (flt es).length = 2 * es.length
  | [] => rfl
  | p :: es => by simp [flt, flt_len es]; omega
def mu2 : List (Int × Int) → Int → Int × Bool
  | [], x => (x, true)
  | p :: es, x => if x = p.1 then (p.2, true) else if x = p.2 then (p.1, false) else mu2 es x
abbrev mu (es : List (Int × Int)) (x : Int) : Int := (mu2 es x).1
theorem mu_ok : ∀ {es : List (Int × Int)} {x : Int}, (flt es).Nodup → x ∈ flt es → mu es x ∈ flt es ∧ mu es (mu es x) = x ∧ mu es x ≠ x
  | [], x, _, h => by simp [flt] at h
  | (u, l) :: es, x, hn, h => by
    simp only [flt, List.nodup_cons, List.mem_cons, not_or] at hn h
    obtain ⟨⟨h1, h2⟩, h3, h4⟩ := hn
    by_cases q : x = u
    · subst q
      have e1 : mu ((x, l) :: es) x = l := by simp [mu, mu2]
      have e2 : mu ((x, l) :: es) l = x := by simp [mu, mu2, Ne.symm h1]
      rw [e1, e2]
      exact ⟨by simp [flt], rfl, Ne.symm h1⟩
    · by_cases q2 : x = l
      · subst q2
        have e1 : mu ((u, x) :: es) x = u := by simp [mu, mu2, q]
        have e2 : mu ((u, x) :: es) u = x := by simp [mu, mu2]
        rw [e1, e2]
        exact ⟨by simp [flt], rfl, Ne.symm q⟩
      · have hx : x ∈ flt es := (h.resolve_left q).resolve_left q2
        obtain ⟨a, b, c⟩ := mu_ok h4 hx
        have n1 : mu es x ≠ u := fun z => h2 (z ▸ a)
        have n2 : mu es x ≠ l := fun z => h3 (z ▸ a)
        have e1 : mu ((u, l) :: es) x = mu es x := by simp [mu, mu2, q, q2]
        have e2 : mu ((u, l) :: es) (mu es x) = mu es (mu es x) := by
          show (if mu es x = u then (l, true) else if mu es x = l then (u, false) else mu2 es (mu es x)).1 = _
          rw [if_neg n1, if_neg n2]
        rw [e1, e2]
        exact ⟨by simp [flt, a], b, c⟩
def bm (x : Int) : Int := if x % 2 = 0 then x + 1 else x - 1
def irg (b : Int) (n : Nat) : List Int := (List.range n).map fun i : Nat => b + (i : Int)
theorem irg_len (b : Int) (n : Nat) : (irg b n).length = n := by simp [irg]
theorem mem_irg {b x : Int} {n : Nat} : x ∈ irg b n ↔ b ≤ x ∧ x < b + n := by
  unfold irg
  simp only [List.mem_map, List.mem_range]
  constructor
  · rintro ⟨i, h, rfl⟩
    omega
  · rintro ⟨h1, h2⟩
    exact ⟨(x - b).toNat, by omega, by omega⟩
theorem irg_nodup (b : Int) (n : Nat) : (irg b n).Nodup := by
  unfold irg
  rw [List.Nodup, List.pairwise_map]
  exact List.Pairwise.imp (fun {i j} h => by omega) List.pairwise_lt_range
theorem irg_succ (b : Int) (n : Nat) : irg b (n + 1) = b :: irg (b + 1) n := by
  unfold irg
  rw [List.range_succ_eq_map, List.map_cons, List.map_map]
  refine congr (congrArg List.cons (by simp)) ?_
  refine List.map_congr_left fun i _ => ?_
  simp only [Function.comp_apply]
  omega
structure Good (es : List (Int × Int)) : Prop where
  perm : (flt es).Perm (irg 0 (2 * es.length))
theorem Good.nodup {es : List (Int × Int)} (g : Good es) : (flt es).Nodup := (g.perm.nodup_iff).mpr (irg_nodup _ _)
theorem Good.mem {es : List (Int × Int)} (g : Good es) {x : Int} : x ∈ flt es ↔ 0 ≤ x ∧ x < 2 * es.length := by
  rw [g.perm.mem_iff, mem_irg]
  omega
theorem Good.mts {es : List (Int × Int)} (g : Good es) : Mts (fun x => x ∈ flt es) (mu es) bm where
  mS := fun x h => (mu_ok g.nodup h).1
  mm := fun x h => (mu_ok g.nodup h).2.1
  mn := fun x h => (mu_ok g.nodup h).2.2
  bS := fun x h => by
    rw [g.mem] at h ⊢
    unfold bm
    split <;> omega
  bb := fun x h => by
    unfold bm
    split
    · rw [if_neg (by omega)]; omega
    · rw [if_pos (by omega)]; omega
  bn := fun x h => by
    unfold bm
    split <;> omega
def endsF : List Int → Int → List D → List (Int × Int)
  | _, _, [] => []
  | r, b, d :: ls => (if (wk2 d).1 = "end" then [((r[(wk2 d).2]?).getD 0, (r[(wk2 d).2 + 1]?).getD 0)] else []) ++ endsF (nx b r (wk2 d).1 (wk2 d).2) (bn b (wk2 d).1) ls
def bornN (ls : List D) : Nat := ls.countP fun d => decide ((wk2 d).1 = ("born" : Str))
theorem split2 {r : List Int} {k : Nat} (h : k + 2 ≤ r.length) : r = r.take k ++ ([(r[k]?).getD 0, (r[k + 1]?).getD 0] ++ r.drop (k + 2)) := by
  have e1 := (List.take_append_drop k r).symm
  have e2 : r.drop k = [(r[k]?).getD 0, (r[k + 1]?).getD 0] ++ r.drop (k + 2) := by
    rw [List.drop_eq_getElem_cons (by omega), List.drop_eq_getElem_cons (by omega), List.getElem?_eq_getElem (show k < r.length by omega), List.getElem?_eq_getElem (show k + 1 < r.length by omega)]
    rfl
  rw [← e2]
  exact e1
theorem ends_perm : ∀ (ls : List D) (m b : Int) (r : List Int), OkL m ls 0 → (r.length : Int) = m → (flt (endsF r b ls)).Perm (r ++ irg b (2 * bornN ls))
  | [], m, b, r, h, hr => by
    have h0 : m = 0 := h
    have : r = [] := List.length_eq_zero_iff.mp (by omega)
    subst this
    exact List.Perm.refl _
  | d :: ls, m, b, r, h, hr => by
    obtain ⟨w, k, m2, rfl, hk, hw, h2, hn, hm2⟩ := letter_at h r hr b
    have ih := ends_perm ls m2 (bn b w) (nx b r w k) h2 hn
    have e0 : endsF r b (.tup [.str w, .int k] :: ls) = (if w = "end" then [((r[k]?).getD 0, (r[k + 1]?).getD 0)] else []) ++ endsF (nx b r w k) (bn b w) ls := rfl
    rw [e0]
    rcases hw with rfl | ⟨rfl | rfl, hk2⟩
    · have e1 : bornN (.tup [.str "born", .int k] :: ls) = bornN ls + 1 := by simp [bornN, wk2]
      have e2 : nx b r "born" k = r.take k ++ [b, b + 1] ++ r.drop k := by simp [nx]
      have e3 : bn b "born" = b + 2 := by simp [bn]
      rw [e2, e3] at ih
      rw [e1, show 2 * (bornN ls + 1) = 2 * bornN ls + 1 + 1 by omega, irg_succ, irg_succ, show b + 1 + 1 = b + 2 by omega, if_neg (by decide), List.nil_append, e2, e3]
      refine ih.trans ?_
      have p1 : (r.take k ++ [b, b + 1] ++ r.drop k).Perm (r ++ [b, b + 1]) := by
        have : r ++ [b, b + 1] = r.take k ++ (r.drop k ++ [b, b + 1]) := by rw [← List.append_assoc, List.take_append_drop]
        rw [this, List.append_assoc]
        exact List.Perm.append_left _ List.perm_append_comm
      have := p1.append_right (irg (b + 2) (2 * bornN ls))
      simpa using this
    · have e1 : bornN (.tup [.str "cross", .int k] :: ls) = bornN ls := by simp [bornN, wk2, born_ne]
      have e2 : nx b r "cross" k = r.take k ++ [(r[k + 1]?).getD 0, (r[k]?).getD 0] ++ r.drop (k + 2) := by simp [nx, born_ne]
      have e3 : bn b "cross" = b := by simp [bn, born_ne]
      rw [e2, e3] at ih
      rw [e1, if_neg (by decide), List.nil_append, e2, e3]
      refine ih.trans (List.Perm.append_right _ ?_)
      have s := split2 hk2
      generalize (r[k]?).getD 0 = x at s ⊢
      generalize (r[k + 1]?).getD 0 = y at s ⊢
      generalize r.take k = t1 at s ⊢
      generalize r.drop (k + 2) = t2 at s ⊢
      subst s
      rw [List.append_assoc]
      exact List.Perm.append_left _ (List.Perm.swap x y t2)
    · have e1 : bornN (.tup [.str "end", .int k] :: ls) = bornN ls := by simp [bornN, wk2, born_ne]
      have e2 : nx b r "end" k = r.take k ++ r.drop (k + 2) := by simp [nx, born_ne]
      have e3 : bn b "end" = b := by simp [bn, born_ne]
      rw [e2, e3] at ih
      rw [e1, if_pos rfl, e2, e3]
      have s := split2 hk2
      generalize (r[k]?).getD 0 = x at s ⊢
      generalize (r[k + 1]?).getD 0 = y at s ⊢
      generalize r.take k = t1 at s ih ⊢
      generalize r.drop (k + 2) = t2 at s ih ⊢
      subst s
      show (x :: y :: flt (endsF (t1 ++ t2) b ls)).Perm _
      have p1 := ih.append_left [x, y]
      refine p1.trans ?_
      have p2 : ([x, y] ++ (t1 ++ t2)).Perm (t1 ++ ([x, y] ++ t2)) := by
        rw [← List.append_assoc, ← List.append_assoc]
        exact List.Perm.append_right _ List.perm_append_comm
      rw [← List.append_assoc]
      exact List.Perm.append_right _ p2
theorem ends_good {ls : List D} (h : OkL 0 ls 0) : Good (endsF [] 0 ls) := by
  have p := ends_perm ls 0 0 [] h rfl
  have e : 2 * (endsF [] 0 ls).length = 2 * bornN ls := by
    rw [← flt_len, p.length_eq]
    simp [irg_len]
  refine ⟨?_⟩
  rw [e]
  exact p
theorem ends_le : ∀ (ls : List D) (r : List Int) (b : Int), (endsF r b ls).length ≤ ls.length
  | [], _, _ => Nat.le_refl _
  | d :: ls, r, b => by
    have := ends_le ls (nx b r (wk2 d).1 (wk2 d).2) (bn b (wk2 d).1)
    simp only [endsF, List.length_append, List.length_cons]
    split <;> simp <;> omega
def en : Nat → List D → List D
  | _, [] => []
  | n, d :: ds => .tup [.int (n : Nat), d] :: en (n + 1) ds
theorem enum_en0 : ∀ (ds : List D) (n : Nat), (List.range' n ds.length).zipWith (fun i d => D.tup [.int (i : Nat), d]) ds = en n ds
  | [], n => rfl
  | d :: ds, n => by
    rw [List.length_cons, List.range'_succ, List.zipWith_cons_cons, enum_en0 ds (n + 1)]
    rfl
theorem enum_en (ds : List D) : enumD ds = en 0 ds := by
  unfold enumD
  rw [List.range_eq_range']
  exact enum_en0 ds 0
def kys (es : List (Int × Int)) : List Key := (flt es).map Sum.inl
def vls (a b : D) : List (Int × Int) → List D
  | [] => []
  | p :: es => .tup [.int p.2, a] :: .tup [.int p.1, b] :: vls a b es
theorem vls_app (a b : D) : ∀ xs ys, vls a b (xs ++ ys) = vls a b xs ++ vls a b ys
  | [], _ => rfl
  | p :: xs, ys => by simp [vls, vls_app a b xs ys]
theorem vls_len (a b : D) : ∀ es, (vls a b es).length = 2 * es.length
  | [] => rfl
  | p :: es => by simp [vls, vls_len a b es]; omega
theorem kys_len (es : List (Int × Int)) : (kys es).length = 2 * es.length := by simp [kys, flt_len]
theorem look (a b : D) : ∀ {es : List (Int × Int)} {x : Int}, x ∈ flt es → (((kys es).findIdx? fun j => decide (j = Sum.inl x)).bind fun j => (vls a b es)[j]?) = some (.tup [.int (mu es x), if (mu2 es x).2 then a else b])
  | [], x, h => by simp [flt] at h
  | (u, l) :: es, x, h => by
    have e : kys ((u, l) :: es) = .inl u :: .inl l :: kys es := rfl
    rw [e, List.findIdx?_cons, List.findIdx?_cons]
    by_cases q : x = u
    · subst q
      simp [vls, mu, mu2]
    · have q' : ¬ (Sum.inl u : Key) = Sum.inl x := fun z => q (Sum.inl.inj z).symm
      by_cases q2 : x = l
      · subst q2
        simp [vls, mu, mu2, q, q']
      · have q2' : ¬ (Sum.inl l : Key) = Sum.inl x := fun z => q2 (Sum.inl.inj z).symm
        have hx : x ∈ flt es := by
          simp only [flt, List.mem_cons] at h
          exact (h.resolve_left q).resolve_left q2
        have ih := look a b hx
        have em : mu2 ((u, l) :: es) x = mu2 es x := by simp [mu2, q, q2]
        rw [mu, em]
        rw [mu] at ih
        rw [← ih]
        simp only [decide_eq_true_eq, q', q2', if_false]
        cases (kys es).findIdx? fun j => decide (j = Sum.inl x) <;> rfl
theorem get_mate (a b : D) {es : List (Int × Int)} {x : Int} (h : x ∈ flt es) : dGetD (.K (kys es)) (vls a b es) (.int x) = some (.tup [.int (mu es x), if (mu2 es x).2 then a else b]) := look a b h
theorem put_new {ks : List Key} {xs : List D} {x : Int} {v : D} (h : Sum.inl x ∉ ks) : dPut (.K ks) xs (.int x) v = some (.K (ks ++ [.inl x]), xs ++ [v]) := by
  have e : (ks.any fun j => decide (j = (Sum.inl x : Key))) = false := by
    rw [List.any_eq_false]
    intro j hj z
    exact h (of_decide_eq_true z ▸ hj)
  show some (DKs.K (putL ks xs (Sum.inl x) v).1, (putL ks xs (Sum.inl x) v).2) = _
  unfold putL
  rw [e]
  rfl
theorem not_ky {es : List (Int × Int)} {x : Int} (h : x ∉ flt es) : (Sum.inl x : Key) ∉ kys es := fun z => by
  obtain ⟨y, hy, e⟩ := List.mem_map.mp z
  cases e
  exact h hy
theorem two_new {es0 es1 : List (Int × Int)} {u l : Int} (h : (flt (es0 ++ (u, l) :: es1)).Nodup) : u ∉ flt es0 ∧ l ∉ flt es0 ∧ l ≠ u := by
  rw [flt_app] at h
  have h2 := List.nodup_append.mp h
  have h3 : (u :: l :: flt es1).Nodup := h2.2.1
  refine ⟨fun z => h2.2.2 u z u (by simp [flt]) rfl, fun z => h2.2.2 l z l (by simp [flt]) rfl, fun z => ?_⟩
  have := (List.nodup_cons.mp h3).1
  exact this (by simp [z])
theorem put_two (a b : D) {es0 es1 : List (Int × Int)} {u l : Int} (h : (flt (es0 ++ (u, l) :: es1)).Nodup) :
    dPut (.K (kys es0)) (vls a b es0) (.int u) (.tup [.int l, a]) = some (.K (kys es0 ++ [.inl u]), vls a b es0 ++ [.tup [.int l, a]]) ∧
    dPut (.K (kys es0 ++ [.inl u])) (vls a b es0 ++ [.tup [.int l, a]]) (.int l) (.tup [.int u, b]) = some (.K (kys (es0 ++ [(u, l)])), vls a b (es0 ++ [(u, l)])) := by
  obtain ⟨h1, h2, h3⟩ := two_new h
  refine ⟨put_new (not_ky h1), ?_⟩
  rw [put_new (x := l)]
  · simp [kys, flt_app, vls_app, flt, vls]
  · intro z
    rcases List.mem_append.mp z with z | z
    · exact not_ky h2 z
    · simp only [List.mem_singleton] at z
      exact h3 (Sum.inl.inj z)
def pr (p : Int × Int) : D := .tup [.int p.1, .int p.2]
theorem mates_loop (d0 : Option D) : ∀ (es1 es0 : List (Int × Int)) (x2 x3 : Option D), (flt (es0 ++ es1)).Nodup → (es0 ++ es1).length < 1000000 →
    ∃ y2 y3, itF (gTp (gsCons (gNm 2) (gsCons (gNm 3) gsNil))) b_end_mates_0 (es1.map pr) [d0, some (.dic (.K (kys es0)) (vls (.bl true) (.bl false) es0)), x2, x3] = some (.nx [d0, some (.dic (.K (kys (es0 ++ es1))) (vls (.bl true) (.bl false) (es0 ++ es1))), y2, y3])
  | [], es0, x2, x3, _, _ => ⟨x2, x3, by simp [itF]⟩
  | (u, l) :: es1, es0, x2, x3, h, hl => by
    obtain ⟨p1, p2⟩ := put_two (.bl true) (.bl false) h
    have e : es0 ++ (u, l) :: es1 = es0 ++ [(u, l)] ++ es1 := by simp
    obtain ⟨y2, y3, ih⟩ := mates_loop d0 es1 (es0 ++ [(u, l)]) (some (.int u)) (some (.int l)) (e ▸ h) (e ▸ hl)
    refine ⟨y2, y3, ?_⟩
    rw [e, ← ih]
    have z1 : (vls (.bl true) (.bl false) es0).length < 16777216 := by rw [vls_len]; simp at hl; omega
    have z2 : (vls (.bl true) (.bl false) es0).length + 1 < 16777216 := by rw [vls_len]; simp at hl; omega
    simp only [List.map_cons, itF, pr, ap_gtp, ap_gcons, ap_gnil, ap_gnm, Option.bind_some, List.set_cons_zero, List.set_cons_succ]
    simp only [b_end_mates_0, ap_v, ap_c, ap_2, ap_A, ap_nil, ap_cons, ap_lst, ap_tup, ap_B, ap_call, ap_callN, ap_callO, ap_T, ap_isT, ap_not, ap_neg, ap_and, ap_or, ap_if, ap_ch, ap_seq, ap_snil, ap_sif, ap_ret, ap_retN, ap_asg, ap_exp, ap_tgt, ap_app, ap_rev, ap_set, ap_aug, ap_for, ap_forM, ap_rng1, ap_rng2, ap_mseq, ap_enum, ap_lc, ap_yes, ap_gnm, ap_gtp, ap_gnil, ap_gcons, ap_fM, ap_on, ap_oc, r_add, r_sub, r_mul, r_div, r_mod, r_pow, r_lt, r_le, r_gt, r_ge, r_eqI, r_eqS, r_neI, r_neS, r_ixL, r_ixT, r_ixR, r_ipL, r_ipT, r_len, r_lenT, r_lenR, r_abs, r_max, r_min, a_int, a_bl, a_str, a_non, t_bl, List.map_cons, List.map_nil, List.length_cons, List.length_nil, List.replicate, List.cons_append, List.nil_append, List.getElem?_cons_zero, List.getElem?_cons_succ, List.set_cons_zero, List.set_cons_succ, List.getElem?_nil, Nat.reduceSub, Nat.reduceAdd, Nat.reduceEqDiff, decide_true, decide_false, ap_mk, ap_mut, ap_swap, ap_putI, ap_ev2, ap_keys, ap_mD, ap_put, ap_get2, ap_disp, ap_dsN, ap_dsC, ap_srtD, ap_sl, ap_oS, ap_oN, r_catI, r_mkL, r_mkLT, r_mkT, ap_gtpL, p1, p2, z1, z2, if_true, List.length_append, show (0 + 1 + 1 : Nat) ≤ 16777216 from by omega]
theorem cut_two {r : List Int} {k : Nat} (h : k + 2 ≤ r.length) : dSl (row r) (some (k : Int)) (some ((k : Int) + 2)) = some (.lst [.int ((r[k]?).getD 0), .int ((r[k + 1]?).getD 0)]) := by
  show some (D.lst (cutG (r.map D.int) (some (k : Int)) (some ((k + 2 : Nat) : Int)))) = _
  unfold cutG
  have e : (r.map D.int).length = r.length := by simp
  rw [HT.sIx_nat, HT.sIx_nat, e, Nat.min_eq_left (by omega), Nat.min_eq_left (by omega), show k + 2 - k = 2 by omega]
  have s := split2 h
  have e2 : r.drop k = [(r[k]?).getD 0, (r[k + 1]?).getD 0] ++ r.drop (k + 2) := by
    rw [List.drop_eq_getElem_cons (by omega), List.drop_eq_getElem_cons (by omega), List.getElem?_eq_getElem (show k < r.length by omega), List.getElem?_eq_getElem (show k + 1 < r.length by omega)]
    rfl
  rw [← List.map_drop, e2]
  rfl
theorem ap_swapD {i : Nat} {m ma mb : M} {ρ : DE} : sSwapD i m ma mb ρ = (match m ρ with
  | some (.tup [d1, d2], ρ1) => (match putD i ma d1 ρ1 with
    | some ρ2 => (match putD i mb d2 ρ2 with
      | some ρ3 => some (.nx ρ3)
      | none => none)
    | none => none)
  | _ => none) := rfl
theorem ap_putD {i : Nat} {mk : M} {d : D} {ρ : DE} : putD i mk d ρ = (match ρ[i]? with
  | some (some (.dic q xs)) => if xs.length < 16777216 then (match mk ρ with
    | some (kd, _) => (match dPut q xs kd d with
      | some (q', xs') => some (ρ.set i (some (.dic q' xs')))
      | none => none)
    | none => none) else none
  | _ => none) := rfl
theorem atI_row {RR : List (List Int)} {n : Nat} {r : List Int} (h : RR[n]? = some r) : atI (RR.map row) (n : Int) = some (row r) := by
  have hn := (List.getElem?_eq_some_iff.mp h).1
  rw [at_nn (by simpa using hn), List.getElem?_map, h]
  rfl
theorem inL_int {x : Int} {xs : List Int} : inL (.int x) (xs.map D.int) = decide (x ∈ xs) := by
  unfold inL
  rw [pyL_map, List.map_map, List.any_map]
  have : (xs.any ((fun y => PyData.eqv y (pyD (.int x))) ∘ pyD ∘ D.int)) = xs.any fun y => decide (y = x) := by
    congr 1
  rw [this]
  by_cases h : x ∈ xs
  · rw [decide_eq_true h, List.any_eq_true]
    exact ⟨x, h, by simp⟩
  · rw [decide_eq_false h, List.any_eq_false]
    intro y hy z
    exact h (of_decide_eq_true z ▸ hy)
theorem depL_ints (xs : List Int) : depL (xs.map D.int) ≤ 0 := depL_le fun d hd => by
  obtain ⟨x, _, rfl⟩ := List.mem_map.mp hd
  rw [dep_atom rfl]
  exact Nat.le_refl 0
theorem ni_int {x : Int} {xs : List Int} : dNi (.int x) (.lst (xs.map D.int)) = some (.bl (!decide (x ∈ xs))) := by
  unfold dNi dInG
  simp only []
  have h0 := depL_ints xs
  rw [if_pos (by rw [Bool.and_eq_true, decide_eq_true_eq, decide_eq_true_eq, dep_atom rfl]; omega), inL_int]
  rfl
theorem ni_key {x : Int} {xs : List Int} {vs : List D} : dNi (.int x) (.dic (.K (xs.map Sum.inl)) vs) = some (.bl (!decide (x ∈ xs))) := by
  show some (D.bl (!((xs.map (Sum.inl : Int → Key)).findIdx? fun j => decide (j = Sum.inl x)).isSome)) = _
  congr 3
  rw [List.findIdx?_isSome, List.any_map]
  by_cases h : x ∈ xs
  · rw [decide_eq_true h, List.any_eq_true]
    exact ⟨x, h, by simp⟩
  · rw [decide_eq_false h, List.any_eq_false]
    intro y hy z
    have : (Sum.inl y : Key) = Sum.inl x := of_decide_eq_true z
    exact h (Sum.inl.inj this ▸ hy)
def posE : Nat → List D → List Int
  | _, [] => []
  | n, d :: ls => (if (wk2 d).1 = "end" then [(n : Int)] else []) ++ posE (n + 1) ls
def pE : D → Bool
  | .tup [_, d] => decide ((wk2 d).1 = "end")
  | _ => false
def fE : D → D
  | .tup [i, _] => i
  | d => d
theorem pos_en : ∀ (ls : List D) (n : Nat), ((en n ls).filter pE).map fE = (posE n ls).map D.int
  | [], n => rfl
  | d :: ls, n => by
    have ih := pos_en ls (n + 1)
    rw [show en n (d :: ls) = .tup [.int (n : Nat), d] :: en (n + 1) ls from rfl, List.filter_cons]
    by_cases q : (wk2 d).1 = "end"
    · have e : pE (.tup [.int (n : Nat), d]) = true := by simp [pE, q]
      rw [if_pos e, List.map_cons, ih]
      simp [posE, q, fE]
    · have e : ¬ pE (.tup [.int (n : Nat), d]) = true := by simp [pE, q]
      rw [if_neg e, ih]
      simp [posE, q]
theorem en_shape : ∀ {ls : List D} {n : Nat} {y : D}, y ∈ en n ls → ∃ (i : Nat) (d : D), y = .tup [.int (i : Nat), d] ∧ d ∈ ls
  | [], n, y, h => by simp [en] at h
  | d :: ls, n, y, h => by
    rcases List.mem_cons.mp h with rfl | h
    · exact ⟨n, d, rfl, by simp⟩
    · obtain ⟨i, x, e, hx⟩ := en_shape h
      exact ⟨i, x, e, by simp [hx]⟩
theorem ends_ok {ls : List D} (hs : ∀ d ∈ ls, ∃ (w : Str) (k : Int), d = .tup [.str w, .int k]) (hl : ls.length < 100000) (hp : (posE 0 ls).length ≤ ls.length) : ∃ e, F_ends_of [.lst ls] = some (.lst ((posE 0 ls).map D.int), e) := by
  let R0 : DE := [some (.lst ls), some (.tup [.str "end"]), none, none]
  obtain ⟨ρ', e, _⟩ := cpL_filter (vs := [2, 3]) (mg := gTp (gsCons (gNm 2) (gsCons (gNm 3) gsNil))) (mc := m2 dIn (m2 dIx (mV 3) (mC (.int 0))) (mV 1)) (me := mA (mV 2)) (ρ := R0) pE fE (en 0 ls)
    (fun y hy => by
      obtain ⟨i, d, rfl, hd⟩ := en_shape hy
      obtain ⟨w, k, rfl⟩ := hs d hd
      have t0 : atI [D.str w, .int k] 0 = some (.str w) := at0
      have i1 := in_strT (x := w) (ws := [("end" : Str)])
      have i2 : ([("end" : Str)].any fun z => decide (z = w)) = pE (.tup [.int (i : Nat), .tup [.str w, .int k]]) := by
        show (decide ("end" = w) || false) = decide (w = "end")
        rw [Bool.or_false]
        by_cases q : w = "end"
        · subst q; rfl
        · rw [decide_eq_false q, decide_eq_false (Ne.symm q)]
      rw [i2] at i1
      simp only [List.map_cons, List.map_nil] at i1
      refine ⟨[some (.lst ls), some (.tup [.str "end"]), some (.int (i : Nat)), some (.tup [.str w, .int k])], rfl, rfl, ?_, fun _ => ⟨[some (.lst ls), some (.tup [.str "end"]), some (.int (i : Nat)), some (.tup [.str w, .int k])], ?_, rfl⟩⟩
      · simp only [ap_v, ap_c, ap_2, ap_A, ap_nil, ap_cons, ap_lst, ap_tup, ap_B, ap_call, ap_callN, ap_callO, ap_T, ap_isT, ap_not, ap_neg, ap_and, ap_or, ap_if, ap_ch, ap_seq, ap_snil, ap_sif, ap_ret, ap_retN, ap_asg, ap_exp, ap_tgt, ap_app, ap_rev, ap_set, ap_aug, ap_for, ap_forM, ap_rng1, ap_rng2, ap_mseq, ap_enum, ap_lc, ap_yes, ap_gnm, ap_gtp, ap_gnil, ap_gcons, ap_fM, ap_on, ap_oc, r_add, r_sub, r_mul, r_div, r_mod, r_pow, r_lt, r_le, r_gt, r_ge, r_eqI, r_eqS, r_neI, r_neS, r_ixL, r_ixT, r_ixR, r_ipL, r_ipT, r_len, r_lenT, r_lenR, r_abs, r_max, r_min, a_int, a_bl, a_str, a_non, t_bl, List.map_cons, List.map_nil, List.length_cons, List.length_nil, List.replicate, List.cons_append, List.nil_append, List.getElem?_cons_zero, List.getElem?_cons_succ, List.set_cons_zero, List.set_cons_succ, List.getElem?_nil, Nat.reduceSub, Nat.reduceAdd, Nat.reduceEqDiff, decide_true, decide_false, ap_mk, ap_mut, ap_swap, ap_putI, ap_ev2, ap_keys, ap_mD, ap_put, ap_get2, ap_disp, ap_dsN, ap_dsC, ap_srtD, ap_sl, ap_oS, ap_oN, r_catI, r_mkL, r_mkLT, r_mkT, ap_gtpL, t0, i1]
      · simp only [ap_v, ap_c, ap_2, ap_A, ap_nil, ap_cons, ap_lst, ap_tup, ap_B, ap_call, ap_callN, ap_callO, ap_T, ap_isT, ap_not, ap_neg, ap_and, ap_or, ap_if, ap_ch, ap_seq, ap_snil, ap_sif, ap_ret, ap_retN, ap_asg, ap_exp, ap_tgt, ap_app, ap_rev, ap_set, ap_aug, ap_for, ap_forM, ap_rng1, ap_rng2, ap_mseq, ap_enum, ap_lc, ap_yes, ap_gnm, ap_gtp, ap_gnil, ap_gcons, ap_fM, ap_on, ap_oc, r_add, r_sub, r_mul, r_div, r_mod, r_pow, r_lt, r_le, r_gt, r_ge, r_eqI, r_eqS, r_neI, r_neS, r_ixL, r_ixT, r_ixR, r_ipL, r_ipT, r_len, r_lenT, r_lenR, r_abs, r_max, r_min, a_int, a_bl, a_str, a_non, t_bl, List.map_cons, List.map_nil, List.length_cons, List.length_nil, List.replicate, List.cons_append, List.nil_append, List.getElem?_cons_zero, List.getElem?_cons_succ, List.set_cons_zero, List.set_cons_succ, List.getElem?_nil, Nat.reduceSub, Nat.reduceAdd, Nat.reduceEqDiff, decide_true, decide_false, ap_mk, ap_mut, ap_swap, ap_putI, ap_ev2, ap_keys, ap_mD, ap_put, ap_get2, ap_disp, ap_dsN, ap_dsC, ap_srtD, ap_sl, ap_oS, ap_oN, r_catI, r_mkL, r_mkLT, r_mkT, ap_gtpL, fE]) R0 rfl
  rw [pos_en, ← enum_en] at e
  have z : ((posE 0 ls).map D.int).length ≤ 16777216 := by simp; omega
  have en1 : F_numbers_of [.lst ls, .tup [.str "end"]] = some (.lst ((posE 0 ls).map D.int), [.lst ls, .tup [.str "end"]]) := by
    simp only [F_numbers_of, m_numbers_of, sg_numbers_of, ap_v, ap_c, ap_2, ap_A, ap_nil, ap_cons, ap_lst, ap_tup, ap_B, ap_call, ap_callN, ap_callO, ap_T, ap_isT, ap_not, ap_neg, ap_and, ap_or, ap_if, ap_ch, ap_seq, ap_snil, ap_sif, ap_ret, ap_retN, ap_asg, ap_exp, ap_tgt, ap_app, ap_rev, ap_set, ap_aug, ap_for, ap_forM, ap_rng1, ap_rng2, ap_mseq, ap_enum, ap_lc, ap_yes, ap_gnm, ap_gtp, ap_gnil, ap_gcons, ap_fM, ap_on, ap_oc, r_add, r_sub, r_mul, r_div, r_mod, r_pow, r_lt, r_le, r_gt, r_ge, r_eqI, r_eqS, r_neI, r_neS, r_ixL, r_ixT, r_ixR, r_ipL, r_ipT, r_len, r_lenT, r_lenR, r_abs, r_max, r_min, a_int, a_bl, a_str, a_non, t_bl, List.map_cons, List.map_nil, List.length_cons, List.length_nil, List.replicate, List.cons_append, List.nil_append, List.getElem?_cons_zero, List.getElem?_cons_succ, List.set_cons_zero, List.set_cons_succ, List.getElem?_nil, Nat.reduceSub, Nat.reduceAdd, Nat.reduceEqDiff, decide_true, decide_false, ap_mk, ap_mut, ap_swap, ap_putI, ap_ev2, ap_keys, ap_mD, ap_put, ap_get2, ap_disp, ap_dsN, ap_dsC, ap_srtD, ap_sl, ap_oS, ap_oN, r_catI, r_mkL, r_mkLT, r_mkT, ap_gtpL, R0] at e ⊢
    simp only [e, z, if_true, Bool.and_self]
  exact ⟨[.lst ls], by simp only [F_ends_of, m_ends_of, sg_ends_of, ap_v, ap_c, ap_2, ap_A, ap_nil, ap_cons, ap_lst, ap_tup, ap_B, ap_call, ap_callN, ap_callO, ap_T, ap_isT, ap_not, ap_neg, ap_and, ap_or, ap_if, ap_ch, ap_seq, ap_snil, ap_sif, ap_ret, ap_retN, ap_asg, ap_exp, ap_tgt, ap_app, ap_rev, ap_set, ap_aug, ap_for, ap_forM, ap_rng1, ap_rng2, ap_mseq, ap_enum, ap_lc, ap_yes, ap_gnm, ap_gtp, ap_gnil, ap_gcons, ap_fM, ap_on, ap_oc, r_add, r_sub, r_mul, r_div, r_mod, r_pow, r_lt, r_le, r_gt, r_ge, r_eqI, r_eqS, r_neI, r_neS, r_ixL, r_ixT, r_ixR, r_ipL, r_ipT, r_len, r_lenT, r_lenR, r_abs, r_max, r_min, a_int, a_bl, a_str, a_non, t_bl, List.map_cons, List.map_nil, List.length_cons, List.length_nil, List.replicate, List.cons_append, List.nil_append, List.getElem?_cons_zero, List.getElem?_cons_succ, List.set_cons_zero, List.set_cons_succ, List.getElem?_nil, Nat.reduceSub, Nat.reduceAdd, Nat.reduceEqDiff, decide_true, decide_false, ap_mk, ap_mut, ap_swap, ap_putI, ap_ev2, ap_keys, ap_mD, ap_put, ap_get2, ap_disp, ap_dsN, ap_dsC, ap_srtD, ap_sl, ap_oS, ap_oN, r_catI, r_mkL, r_mkLT, r_mkT, ap_gtpL, en1, show (0 + 1 : Nat) ≤ 16777216 from by omega, if_true]⟩
def pairAt (RR : List (List Int)) (LL : List D) (n : Nat) : Int × Int := ((((RR[n]?).getD [])[(wk2 ((LL[n]?).getD .non)).2]?).getD 0, (((RR[n]?).getD [])[(wk2 ((LL[n]?).getD .non)).2 + 1]?).getD 0)
theorem pos_pairs (RR : List (List Int)) (LL : List D) : ∀ (ls : List D) (m m' b : Int) (r : List Int) (n : Nat), OkL m ls m' → (r.length : Int) = m → RR.drop n = r :: rowsF r b ls → LL.drop n = ls →
    (posE n ls).map (fun t => pairAt RR LL t.toNat) = endsF r b ls ∧ ∀ t ∈ posE n ls, ∃ (i : Nat) (r' : List Int) (k' : Nat), t = (i : Int) ∧ RR[i]? = some r' ∧ LL[i]? = some (.tup [.str "end", .int (k' : Nat)]) ∧ k' + 2 ≤ r'.length
  | [], m, m', b, r, n, _, _, _, _ => ⟨rfl, fun t h => by simp [posE] at h⟩
  | d :: ls, m, m', b, r, n, h, hr, hR, hL => by
    obtain ⟨w, k, m2, rfl, hk, hw, h2, hn2, hm2⟩ := letter_at h r hr b
    have e0 : endsF r b (.tup [.str w, .int k] :: ls) = (if w = "end" then [((r[k]?).getD 0, (r[k + 1]?).getD 0)] else []) ++ endsF (nx b r w k) (bn b w) ls := rfl
    have e1 : posE n (.tup [.str w, .int k] :: ls) = (if w = "end" then [(n : Int)] else []) ++ posE (n + 1) ls := rfl
    have eR : RR[n]? = some r := by
      have := congrArg List.head? hR
      rw [List.head?_drop] at this
      exact this
    have eL : LL[n]? = some (.tup [.str w, .int k]) := by
      have := congrArg List.head? hL
      rw [List.head?_drop] at this
      exact this
    have hR2 : RR.drop (n + 1) = nx b r w k :: rowsF (nx b r w k) (bn b w) ls := by
      rw [← List.drop_drop, hR]
      rfl
    have hL2 : LL.drop (n + 1) = ls := by
      rw [← List.drop_drop, hL]
      rfl
    obtain ⟨i1, i2⟩ := pos_pairs RR LL ls m2 m' (bn b w) (nx b r w k) (n + 1) h2 hn2 hR2 hL2
    rw [e0, e1]
    by_cases q : w = "end"
    · subst q
      have hk2 : k + 2 ≤ r.length := by
        rcases hw with z | ⟨_, z⟩
        · exact absurd z (by decide)
        · exact z
      rw [if_pos rfl, if_pos rfl]
      refine ⟨?_, fun t ht => ?_⟩
      · rw [List.map_append, i1]
        congr 1
        have : pairAt RR LL ((n : Int)).toNat = ((r[k]?).getD 0, (r[k + 1]?).getD 0) := by
          rw [Int.toNat_natCast]
          unfold pairAt
          rw [eR, eL]
          rfl
        rw [List.map_cons, List.map_nil, this]
      · rcases List.mem_append.mp ht with ht | ht
        · rw [List.mem_singleton] at ht
          exact ⟨n, r, k, ht, eR, eL, hk2⟩
        · exact i2 t ht
    · rw [if_neg q, if_neg q]
      exact ⟨i1, i2⟩
theorem pos_all {ls : List D} (h : OkL 0 ls 0) : (posE 0 ls).map (fun t => pairAt (allR ls) ls t.toNat) = endsF [] 0 ls ∧ ∀ t ∈ posE 0 ls, ∃ (i : Nat) (r' : List Int) (k' : Nat), t = (i : Int) ∧ (allR ls)[i]? = some r' ∧ ls[i]? = some (.tup [.str "end", .int (k' : Nat)]) ∧ k' + 2 ≤ r'.length :=
  pos_pairs (allR ls) ls ls 0 0 0 [] 0 h rfl rfl rfl
theorem pos_len {ls : List D} (h : OkL 0 ls 0) : (posE 0 ls).length = (endsF [] 0 ls).length := by rw [← (pos_all h).1, List.length_map]
theorem pairs_ok {ls : List D} (h : OkL 0 ls 0) (hl : ls.length < 2000) : ∃ e, F_end_pairs [.lst ls] = some (.lst ((endsF [] 0 ls).map pr), e) := by
  obtain ⟨e1, e2⟩ := threads_ok h hl
  obtain ⟨p1, p2⟩ := pos_all h
  have pl := pos_len h
  have el := ends_le ls [] 0
  obtain ⟨e3, e4⟩ := ends_ok h.shape (by omega) (by omega)
  let fP : D → D := fun d => match d with
    | .int t => pr (pairAt (allR ls) ls t.toNat)
    | d => d
  let R0 : DE := [some (.lst ls), some (.lst ((allR ls).map row)), none]
  obtain ⟨ρ', e5, _⟩ := cpL_map (vs := [2]) (mg := gNm 2) (mc := mYes) (me := mTup (mCons (m2 dIxP (m2 dIxP (mV 1) (mV 2)) (m2 dIx (m2 dIx (mV 0) (mV 2)) (mC (.int 1)))) (mCons (m2 dIxP (m2 dIxP (mV 1) (mV 2)) (m2 dAdd (m2 dIx (m2 dIx (mV 0) (mV 2)) (mC (.int 1))) (mC (.int 1)))) mNil))) (ρ := R0) fP ((posE 0 ls).map D.int)
    (fun d hd => by
      obtain ⟨t, ht, rfl⟩ := List.mem_map.mp hd
      obtain ⟨i, r', k', rfl, a1, a2, a3⟩ := p2 t ht
      have b1 := atI_row a1
      have b2 : atI ls (i : Int) = some (.tup [.str "end", .int (k' : Nat)]) := by
        rw [at_nn (List.getElem?_eq_some_iff.mp a2).1, a2]
      have b3 : atI [D.str "end", .int (k' : Nat)] 1 = some (.int (k' : Nat)) := at1
      have b4 := at_row (r := r') (k := k') (by omega)
      have b5 := at_row (r := r') (k := k' + 1) (by omega)
      have b5' : atI (r'.map D.int) ((k' : Int) + 1) = some (.int ((r'[k' + 1]?).getD 0)) := b5
      have b6 : pairAt (allR ls) ls i = ((r'[k']?).getD 0, (r'[k' + 1]?).getD 0) := by
        unfold pairAt
        rw [a1, a2]
        rfl
      have b7 : fP (.int (i : Nat)) = .tup [.int ((r'[k']?).getD 0), .int ((r'[k' + 1]?).getD 0)] := by
        show pr (pairAt (allR ls) ls ((i : Int)).toNat) = _
        rw [Int.toNat_natCast, b6]
        rfl
      rw [b7]
      refine ⟨[some (.lst ls), some (.lst ((allR ls).map row)), some (.int (i : Nat))], rfl, rfl, [some (.lst ls), some (.lst ((allR ls).map row)), some (.int (i : Nat))], ?_, rfl⟩
      simp only [ap_v, ap_c, ap_2, ap_A, ap_nil, ap_cons, ap_lst, ap_tup, ap_B, ap_call, ap_callN, ap_callO, ap_T, ap_isT, ap_not, ap_neg, ap_and, ap_or, ap_if, ap_ch, ap_seq, ap_snil, ap_sif, ap_ret, ap_retN, ap_asg, ap_exp, ap_tgt, ap_app, ap_rev, ap_set, ap_aug, ap_for, ap_forM, ap_rng1, ap_rng2, ap_mseq, ap_enum, ap_lc, ap_yes, ap_gnm, ap_gtp, ap_gnil, ap_gcons, ap_fM, ap_on, ap_oc, r_add, r_sub, r_mul, r_div, r_mod, r_pow, r_lt, r_le, r_gt, r_ge, r_eqI, r_eqS, r_neI, r_neS, r_ixL, r_ixT, r_ixR, r_ipL, r_ipT, r_len, r_lenT, r_lenR, r_abs, r_max, r_min, a_int, a_bl, a_str, a_non, t_bl, List.map_cons, List.map_nil, List.length_cons, List.length_nil, List.replicate, List.cons_append, List.nil_append, List.getElem?_cons_zero, List.getElem?_cons_succ, List.set_cons_zero, List.set_cons_succ, List.getElem?_nil, Nat.reduceSub, Nat.reduceAdd, Nat.reduceEqDiff, decide_true, decide_false, ap_mk, ap_mut, ap_swap, ap_putI, ap_ev2, ap_keys, ap_mD, ap_put, ap_get2, ap_disp, ap_dsN, ap_dsC, ap_srtD, ap_sl, ap_oS, ap_oN, r_catI, r_mkL, r_mkLT, r_mkT, ap_gtpL, b1, b2, b3, row, b4, b5', show (0 + 1 + 1 : Nat) ≤ 16777216 from by omega, if_true]) R0 rfl
  have e6 : ((posE 0 ls).map D.int).map fP = (endsF [] 0 ls).map pr := by
    rw [← p1, List.map_map, List.map_map]
    rfl
  rw [e6] at e5
  have z : ((endsF [] 0 ls).map pr).length ≤ 16777216 := by simp; omega
  refine ⟨[.lst ls], ?_⟩
  simp only [F_end_pairs, m_end_pairs, sg_end_pairs, ap_v, ap_c, ap_2, ap_A, ap_nil, ap_cons, ap_lst, ap_tup, ap_B, ap_call, ap_callN, ap_callO, ap_T, ap_isT, ap_not, ap_neg, ap_and, ap_or, ap_if, ap_ch, ap_seq, ap_snil, ap_sif, ap_ret, ap_retN, ap_asg, ap_exp, ap_tgt, ap_app, ap_rev, ap_set, ap_aug, ap_for, ap_forM, ap_rng1, ap_rng2, ap_mseq, ap_enum, ap_lc, ap_yes, ap_gnm, ap_gtp, ap_gnil, ap_gcons, ap_fM, ap_on, ap_oc, r_add, r_sub, r_mul, r_div, r_mod, r_pow, r_lt, r_le, r_gt, r_ge, r_eqI, r_eqS, r_neI, r_neS, r_ixL, r_ixT, r_ixR, r_ipL, r_ipT, r_len, r_lenT, r_lenR, r_abs, r_max, r_min, a_int, a_bl, a_str, a_non, t_bl, List.map_cons, List.map_nil, List.length_cons, List.length_nil, List.replicate, List.cons_append, List.nil_append, List.getElem?_cons_zero, List.getElem?_cons_succ, List.set_cons_zero, List.set_cons_succ, List.getElem?_nil, Nat.reduceSub, Nat.reduceAdd, Nat.reduceEqDiff, decide_true, decide_false, ap_mk, ap_mut, ap_swap, ap_putI, ap_ev2, ap_keys, ap_mD, ap_put, ap_get2, ap_disp, ap_dsN, ap_dsC, ap_srtD, ap_sl, ap_oS, ap_oN, r_catI, r_mkL, r_mkLT, r_mkT, ap_gtpL, e2, e4, R0] at e5 ⊢
  simp only [e5, z, if_true, Bool.and_self, ap_v, ap_c, ap_2, ap_A, ap_nil, ap_cons, ap_lst, ap_tup, ap_B, ap_call, ap_callN, ap_callO, ap_T, ap_isT, ap_not, ap_neg, ap_and, ap_or, ap_if, ap_ch, ap_seq, ap_snil, ap_sif, ap_ret, ap_retN, ap_asg, ap_exp, ap_tgt, ap_app, ap_rev, ap_set, ap_aug, ap_for, ap_forM, ap_rng1, ap_rng2, ap_mseq, ap_enum, ap_lc, ap_yes, ap_gnm, ap_gtp, ap_gnil, ap_gcons, ap_fM, ap_on, ap_oc, r_add, r_sub, r_mul, r_div, r_mod, r_pow, r_lt, r_le, r_gt, r_ge, r_eqI, r_eqS, r_neI, r_neS, r_ixL, r_ixT, r_ixR, r_ipL, r_ipT, r_len, r_lenT, r_lenR, r_abs, r_max, r_min, a_int, a_bl, a_str, a_non, t_bl, List.map_cons, List.map_nil, List.length_cons, List.length_nil, List.replicate, List.cons_append, List.nil_append, List.getElem?_cons_zero, List.getElem?_cons_succ, List.set_cons_zero, List.set_cons_succ, List.getElem?_nil, Nat.reduceSub, Nat.reduceAdd, Nat.reduceEqDiff, decide_true, decide_false, ap_mk, ap_mut, ap_swap, ap_putI, ap_ev2, ap_keys, ap_mD, ap_put, ap_get2, ap_disp, ap_dsN, ap_dsC, ap_srtD, ap_sl, ap_oS, ap_oN, r_catI, r_mkL, r_mkLT, r_mkT, ap_gtpL]
def mdP (es : List (Int × Int)) : D := .dic (.K (kys es)) (vls (.bl true) (.bl false) es)
def mdL (es : List (Int × Int)) : D := .dic (.K (kys es)) (vls (.int 1) (.int (-1)) es)
theorem mates_ok {ls : List D} (h : OkL 0 ls 0) (hl : ls.length < 2000) : ∃ e, F_end_mates [.lst ls] = some (mdP (endsF [] 0 ls), e) := by
  obtain ⟨e1, e2⟩ := pairs_ok h hl
  have el := ends_le ls [] 0
  obtain ⟨y2, y3, e3⟩ := mates_loop (some (.lst ls)) (endsF [] 0 ls) [] none none (ends_good h).nodup (by simp; omega)
  simp only [List.nil_append] at e3
  refine ⟨[.lst ls], ?_⟩
  have e4 : itF (gTp (gsCons (gNm 2) (gsCons (gNm 3) gsNil))) b_end_mates_0 ((endsF [] 0 ls).map pr) [some (.lst ls), some (.dic (.K []) []), none, none] = some (.nx [some (.lst ls), some (mdP (endsF [] 0 ls)), y2, y3]) := e3
  simp only [F_end_mates, m_end_mates, sg_end_mates, ap_v, ap_c, ap_2, ap_A, ap_nil, ap_cons, ap_lst, ap_tup, ap_B, ap_call, ap_callN, ap_callO, ap_T, ap_isT, ap_not, ap_neg, ap_and, ap_or, ap_if, ap_ch, ap_seq, ap_snil, ap_sif, ap_ret, ap_retN, ap_asg, ap_exp, ap_tgt, ap_app, ap_rev, ap_set, ap_aug, ap_for, ap_forM, ap_rng1, ap_rng2, ap_mseq, ap_enum, ap_lc, ap_yes, ap_gnm, ap_gtp, ap_gnil, ap_gcons, ap_fM, ap_on, ap_oc, r_add, r_sub, r_mul, r_div, r_mod, r_pow, r_lt, r_le, r_gt, r_ge, r_eqI, r_eqS, r_neI, r_neS, r_ixL, r_ixT, r_ixR, r_ipL, r_ipT, r_len, r_lenT, r_lenR, r_abs, r_max, r_min, a_int, a_bl, a_str, a_non, t_bl, List.map_cons, List.map_nil, List.length_cons, List.length_nil, List.replicate, List.cons_append, List.nil_append, List.getElem?_cons_zero, List.getElem?_cons_succ, List.set_cons_zero, List.set_cons_succ, List.getElem?_nil, Nat.reduceSub, Nat.reduceAdd, Nat.reduceEqDiff, decide_true, decide_false, ap_mk, ap_mut, ap_swap, ap_putI, ap_ev2, ap_keys, ap_mD, ap_put, ap_get2, ap_disp, ap_dsN, ap_dsC, ap_srtD, ap_sl, ap_oS, ap_oN, r_catI, r_mkL, r_mkLT, r_mkT, ap_gtpL, e2, e4]
theorem many_ok {ls : List D} (h : OkL 0 ls 0) (hl : ls.length < 2000) : ∃ e, F_thread_many [.lst ls] = some (.int ((2 * (endsF [] 0 ls).length : Nat) : Int), e) := by
  have pl := pos_len h
  have el := ends_le ls [] 0
  obtain ⟨e3, e4⟩ := ends_ok h.shape (by omega) (by omega)
  have c : cMul 2 (((posE 0 ls).map D.int).length : Int) = true := cMul_l (by omega)
  have q : (2 : Int) * ((((posE 0 ls).map D.int).length : Nat) : Int) = ((2 * (endsF [] 0 ls).length : Nat) : Int) := by simp; omega
  refine ⟨[.lst ls], ?_⟩
  have r := r_mul c
  rw [q] at r
  simp only [F_thread_many, m_thread_many, sg_thread_many, ap_fM, ap_ret, ap_2, ap_B, ap_c, ap_call, ap_cons, ap_nil, ap_v, List.map_cons, List.map_nil, List.length_cons, List.length_nil, List.replicate, List.cons_append, List.nil_append, List.getElem?_cons_zero, decide_true, Nat.reduceSub, Nat.reduceAdd, Nat.reduceEqDiff, e4, r_len, r, ap_oc, ap_on]
def sgn (b : Bool) : Int := if b then 1 else -1
abbrev hh (es : List (Int × Int)) (s : Int) (k : Nat) : Int := hs (mu es) bm s k
def stp (es : List (Int × Int)) (s : Int) : Nat → List Bool
  | 0 => []
  | k + 1 => stp es s k ++ [(mu2 es (hh es s k)).2, decide (mu es (hh es s k) % 2 = 0)]
def fal (es : List (Int × Int)) (s : Int) : Nat → Int
  | 0 => 0
  | k + 1 => fal es s k + sgn (mu2 es (hh es s k)).2 + sgn (decide (mu es (hh es s k) % 2 = 0))
theorem stp_len (es : List (Int × Int)) (s : Int) : ∀ k, (stp es s k).length = 2 * k
  | 0 => rfl
  | k + 1 => by simp [stp, stp_len es s k]; omega
theorem fal_cnt (es : List (Int × Int)) (s : Int) : ∀ k, fal es s k = 2 * (((stp es s k).countP fun b => b : Nat) : Int) - (((stp es s k).length : Nat) : Int)
  | 0 => rfl
  | k + 1 => by
    have ih := fal_cnt es s k
    simp only [fal, stp, List.countP_append, List.length_append, ih]
    cases (mu2 es (hh es s k)).2 <;> cases decide (mu es (hh es s k) % 2 = 0) <;> simp [sgn] <;> omega
theorem bmate_ok (t : Int) : F_birth_mate [.int t] = some (.tup [.int (bm t), .bl (decide (t % 2 = 0))], [.int t]) := by
  by_cases q : t % 2 = 0
  · simp [F_birth_mate, m_birth_mate, sg_birth_mate, ap_v, ap_c, ap_2, ap_A, ap_nil, ap_cons, ap_lst, ap_tup, ap_B, ap_call, ap_callN, ap_callO, ap_T, ap_isT, ap_not, ap_neg, ap_and, ap_or, ap_if, ap_ch, ap_seq, ap_snil, ap_sif, ap_ret, ap_retN, ap_asg, ap_exp, ap_tgt, ap_app, ap_rev, ap_set, ap_aug, ap_for, ap_forM, ap_rng1, ap_rng2, ap_mseq, ap_enum, ap_lc, ap_yes, ap_gnm, ap_gtp, ap_gnil, ap_gcons, ap_fM, ap_on, ap_oc, r_add, r_sub, r_mul, r_div, r_mod, r_pow, r_lt, r_le, r_gt, r_ge, r_eqI, r_eqS, r_neI, r_neS, r_ixL, r_ixT, r_ixR, r_ipL, r_ipT, r_len, r_lenT, r_lenR, r_abs, r_max, r_min, a_int, a_bl, a_str, a_non, t_bl, List.map_cons, List.map_nil, List.length_cons, List.length_nil, List.replicate, List.cons_append, List.nil_append, List.getElem?_cons_zero, List.getElem?_cons_succ, List.set_cons_zero, List.set_cons_succ, List.getElem?_nil, Nat.reduceSub, Nat.reduceAdd, Nat.reduceEqDiff, decide_true, decide_false, ap_mk, ap_mut, ap_swap, ap_putI, ap_ev2, ap_keys, ap_mD, ap_put, ap_get2, ap_disp, ap_dsN, ap_dsC, ap_srtD, ap_sl, ap_oS, ap_oN, r_catI, r_mkL, r_mkLT, r_mkT, ap_gtpL, bm, q]
  · simp [F_birth_mate, m_birth_mate, sg_birth_mate, ap_v, ap_c, ap_2, ap_A, ap_nil, ap_cons, ap_lst, ap_tup, ap_B, ap_call, ap_callN, ap_callO, ap_T, ap_isT, ap_not, ap_neg, ap_and, ap_or, ap_if, ap_ch, ap_seq, ap_snil, ap_sif, ap_ret, ap_retN, ap_asg, ap_exp, ap_tgt, ap_app, ap_rev, ap_set, ap_aug, ap_for, ap_forM, ap_rng1, ap_rng2, ap_mseq, ap_enum, ap_lc, ap_yes, ap_gnm, ap_gtp, ap_gnil, ap_gcons, ap_fM, ap_on, ap_oc, r_add, r_sub, r_mul, r_div, r_mod, r_pow, r_lt, r_le, r_gt, r_ge, r_eqI, r_eqS, r_neI, r_neS, r_ixL, r_ixT, r_ixR, r_ipL, r_ipT, r_len, r_lenT, r_lenR, r_abs, r_max, r_min, a_int, a_bl, a_str, a_non, t_bl, List.map_cons, List.map_nil, List.length_cons, List.length_nil, List.replicate, List.cons_append, List.nil_append, List.getElem?_cons_zero, List.getElem?_cons_succ, List.set_cons_zero, List.set_cons_succ, List.getElem?_nil, Nat.reduceSub, Nat.reduceAdd, Nat.reduceEqDiff, decide_true, decide_false, ap_mk, ap_mut, ap_swap, ap_putI, ap_ev2, ap_keys, ap_mD, ap_put, ap_get2, ap_disp, ap_dsN, ap_dsC, ap_srtD, ap_sl, ap_oS, ap_oN, r_catI, r_mkL, r_mkLT, r_mkT, ap_gtpL, bm, q]
theorem ext_ok {xs ys : List D} (h : xs.length + ys.length ≤ 16777216) : fExt xs [.lst ys] = some (.non, xs ++ ys) := by
  unfold fExt
  simp only [h, if_true]
theorem gone_step {es : List (Int × Int)} {s h : Int} (hm : h ∈ flt es) (g : List Int) (t : List Bool) (hg : g.length < 1000000) (ht : t.length < 1000000) (x5 x6 x7 x8 : Option D) :
    b_gone_along_0 [some (mdP es), some (.int s), some (.lst (g.map D.int)), some (.lst (t.map D.bl)), some (.int h), x5, x6, x7, x8] = some (.nx [some (mdP es), some (.int s), some (.lst ((g ++ [h, mu es h]).map D.int)), some (.lst ((t ++ [(mu2 es h).2, decide (mu es h % 2 = 0)]).map D.bl)), some (.int (bm (mu es h))), some (.int (mu es h)), some (.bl (mu2 es h).2), some (.int (bm (mu es h))), some (.bl (decide (mu es h % 2 = 0)))]) := by
  have e1 : dIxP (mdP es) (.int h) = some (.tup [.int (mu es h), if (mu2 es h).2 then .bl true else .bl false]) := get_mate _ _ hm
  have e2 : (if (mu2 es h).2 = true then D.bl true else D.bl false) = .bl (mu2 es h).2 := by cases (mu2 es h).2 <;> rfl
  rw [e2] at e1
  have e3 := bmate_ok (mu es h)
  have e4 := ext_ok (xs := g.map D.int) (ys := [.int h, .int (mu es h)]) (by simp; omega)
  have e5 := ext_ok (xs := t.map D.bl) (ys := [.bl (mu2 es h).2, .bl (decide (mu es h % 2 = 0))]) (by simp; omega)
  have e6 : g.map D.int ++ [.int h, .int (mu es h)] = (g ++ [h, mu es h]).map D.int := by simp
  have e7 : t.map D.bl ++ [.bl (mu2 es h).2, .bl (decide (mu es h % 2 = 0))] = (t ++ [(mu2 es h).2, decide (mu es h % 2 = 0)]).map D.bl := by simp
  rw [e6] at e4
  rw [e7] at e5
  simp only [b_gone_along_0, ap_v, ap_c, ap_2, ap_A, ap_nil, ap_cons, ap_lst, ap_tup, ap_B, ap_call, ap_callN, ap_callO, ap_T, ap_isT, ap_not, ap_neg, ap_and, ap_or, ap_if, ap_ch, ap_seq, ap_snil, ap_sif, ap_ret, ap_retN, ap_asg, ap_exp, ap_tgt, ap_app, ap_rev, ap_set, ap_aug, ap_for, ap_forM, ap_rng1, ap_rng2, ap_mseq, ap_enum, ap_lc, ap_yes, ap_gnm, ap_gtp, ap_gnil, ap_gcons, ap_fM, ap_on, ap_oc, r_add, r_sub, r_mul, r_div, r_mod, r_pow, r_lt, r_le, r_gt, r_ge, r_eqI, r_eqS, r_neI, r_neS, r_ixL, r_ixT, r_ixR, r_ipL, r_ipT, r_len, r_lenT, r_lenR, r_abs, r_max, r_min, a_int, a_bl, a_str, a_non, t_bl, List.map_cons, List.map_nil, List.length_cons, List.length_nil, List.replicate, List.cons_append, List.nil_append, List.getElem?_cons_zero, List.getElem?_cons_succ, List.set_cons_zero, List.set_cons_succ, List.getElem?_nil, Nat.reduceSub, Nat.reduceAdd, Nat.reduceEqDiff, decide_true, decide_false, ap_mk, ap_mut, ap_swap, ap_putI, ap_ev2, ap_keys, ap_mD, ap_put, ap_get2, ap_disp, ap_dsN, ap_dsC, ap_srtD, ap_sl, ap_oS, ap_oN, r_catI, r_mkL, r_mkLT, r_mkT, ap_gtpL, e1, e3, e4, e5, show (0 + 1 + 1 : Nat) ≤ 16777216 from by omega, if_true]
noncomputable abbrev nn (es : List (Int × Int)) (s : Int) : Nat := NN (mu es) bm s
noncomputable abbrev wl (es : List (Int × Int)) (s : Int) : List Int := wlk (mu es) bm s
theorem nn_per {es : List (Int × Int)} (G : Good es) {s : Int} (h : s ∈ flt es) : Per (mu es) bm s (nn es s) := NN_ok G.mts h (L := flt es) fun _ z => z
theorem nn_le {es : List (Int × Int)} (G : Good es) {s : Int} (h : s ∈ flt es) : nn es s ≤ 2 * es.length := by
  have := per_le G.mts h (L := flt es) (fun _ z => z) (nn_per G h)
  rwa [flt_len] at this
noncomputable def walkD (es : List (Int × Int)) (s : Int) : D := .tup [.lst ((wl es s).map D.int), .lst ((stp es s (nn es s)).map D.bl)]
theorem gone_ok {es : List (Int × Int)} (G : Good es) (hl : es.length < 10000) {s : Int} (h : s ∈ flt es) : ∃ e, F_gone_along [mdP es, .int s] = some (walkD es s, e) := by
  have P := nn_per G h
  have hN := nn_le G h
  obtain ⟨ρ', e1, x5, x6, x7, x8, e2⟩ := itW_inv (mc := mOr (m2 dNe (mV 4) (mV 1)) (m2 dEq (mB fLen (mCons (mV 2) mNil)) (mC (.int 0)))) (mb := b_gone_along_0)
    (fun j ρ => ∃ x5 x6 x7 x8, j ≤ nn es s ∧ ρ = [some (mdP es), some (.int s), some (.lst ((gon (mu es) bm s (nn es s - j)).map D.int)), some (.lst ((stp es s (nn es s - j)).map D.bl)), some (.int (hh es s (nn es s - j))), x5, x6, x7, x8])
    (fun j ρ hi => by
      obtain ⟨x5, x6, x7, x8, hj, rfl⟩ := hi
      have hm := hs_S G.mts h (nn es s - (j + 1))
      have l1 := gon_len (mu := mu es) (bm := bm) (s := s) (nn es s - (j + 1))
      have l2 := stp_len es s (nn es s - (j + 1))
      refine ⟨[some (mdP es), some (.int s), some (.lst ((gon (mu es) bm s (nn es s - (j + 1))).map D.int)), some (.lst ((stp es s (nn es s - (j + 1))).map D.bl)), some (.int (hh es s (nn es s - (j + 1)))), x5, x6, x7, x8], _, ?_, gone_step (h := hh es s (nn es s - (j + 1))) hm _ _ (by omega) (by omega) x5 x6 x7 x8, ?_⟩
      · by_cases q : nn es s - (j + 1) = 0
        · have q2 : hh es s (nn es s - (j + 1)) = s := by rw [q]; rfl
          rw [q2, q]
          simp [ap_v, ap_c, ap_2, ap_A, ap_nil, ap_cons, ap_lst, ap_tup, ap_B, ap_call, ap_callN, ap_callO, ap_T, ap_isT, ap_not, ap_neg, ap_and, ap_or, ap_if, ap_ch, ap_seq, ap_snil, ap_sif, ap_ret, ap_retN, ap_asg, ap_exp, ap_tgt, ap_app, ap_rev, ap_set, ap_aug, ap_for, ap_forM, ap_rng1, ap_rng2, ap_mseq, ap_enum, ap_lc, ap_yes, ap_gnm, ap_gtp, ap_gnil, ap_gcons, ap_fM, ap_on, ap_oc, r_add, r_sub, r_mul, r_div, r_mod, r_pow, r_lt, r_le, r_gt, r_ge, r_eqI, r_eqS, r_neI, r_neS, r_ixL, r_ixT, r_ixR, r_ipL, r_ipT, r_len, r_lenT, r_lenR, r_abs, r_max, r_min, a_int, a_bl, a_str, a_non, t_bl, List.map_cons, List.map_nil, List.length_cons, List.length_nil, List.replicate, List.cons_append, List.nil_append, List.getElem?_cons_zero, List.getElem?_cons_succ, List.set_cons_zero, List.set_cons_succ, List.getElem?_nil, Nat.reduceSub, Nat.reduceAdd, Nat.reduceEqDiff, decide_true, decide_false, ap_mk, ap_mut, ap_swap, ap_putI, ap_ev2, ap_keys, ap_mD, ap_put, ap_get2, ap_disp, ap_dsN, ap_dsC, ap_srtD, ap_sl, ap_oS, ap_oN, r_catI, r_mkL, r_mkLT, r_mkT, ap_gtpL, gon]
        · have q2 : ¬ hh es s (nn es s - (j + 1)) = s := P.2.2 _ (by omega) (by omega)
          simp only [ap_v, ap_c, ap_2, ap_A, ap_nil, ap_cons, ap_lst, ap_tup, ap_B, ap_call, ap_callN, ap_callO, ap_T, ap_isT, ap_not, ap_neg, ap_and, ap_or, ap_if, ap_ch, ap_seq, ap_snil, ap_sif, ap_ret, ap_retN, ap_asg, ap_exp, ap_tgt, ap_app, ap_rev, ap_set, ap_aug, ap_for, ap_forM, ap_rng1, ap_rng2, ap_mseq, ap_enum, ap_lc, ap_yes, ap_gnm, ap_gtp, ap_gnil, ap_gcons, ap_fM, ap_on, ap_oc, r_add, r_sub, r_mul, r_div, r_mod, r_pow, r_lt, r_le, r_gt, r_ge, r_eqI, r_eqS, r_neI, r_neS, r_ixL, r_ixT, r_ixR, r_ipL, r_ipT, r_len, r_lenT, r_lenR, r_abs, r_max, r_min, a_int, a_bl, a_str, a_non, t_bl, List.map_cons, List.map_nil, List.length_cons, List.length_nil, List.replicate, List.cons_append, List.nil_append, List.getElem?_cons_zero, List.getElem?_cons_succ, List.set_cons_zero, List.set_cons_succ, List.getElem?_nil, Nat.reduceSub, Nat.reduceAdd, Nat.reduceEqDiff, decide_true, decide_false, ap_mk, ap_mut, ap_swap, ap_putI, ap_ev2, ap_keys, ap_mD, ap_put, ap_get2, ap_disp, ap_dsN, ap_dsC, ap_srtD, ap_sl, ap_oS, ap_oN, r_catI, r_mkL, r_mkLT, r_mkT, ap_gtpL, q2, Bool.not_false]
      · have q : nn es s - j = nn es s - (j + 1) + 1 := by omega
        refine ⟨some (.int (mu es (hh es s (nn es s - (j + 1))))), some (.bl (mu2 es (hh es s (nn es s - (j + 1)))).2), some (.int (bm (mu es (hh es s (nn es s - (j + 1)))))), some (.bl (decide (mu es (hh es s (nn es s - (j + 1))) % 2 = 0))), by omega, ?_⟩
        rw [q]
        rfl)
    (fun ρ hi => by
      obtain ⟨x5, x6, x7, x8, hj, rfl⟩ := hi
      refine ⟨[some (mdP es), some (.int s), some (.lst ((gon (mu es) bm s (nn es s - 0)).map D.int)), some (.lst ((stp es s (nn es s - 0)).map D.bl)), some (.int (hh es s (nn es s - 0))), x5, x6, x7, x8], ?_, x5, x6, x7, x8, hj, rfl⟩
      have q1 : hh es s (nn es s - 0) = s := P.2.1
      have q2 : ¬ ((((gon (mu es) bm s (nn es s - 0)).map D.int).length : Nat) : Int) = 0 := by
        have := P.1
        rw [List.length_map, gon_len]
        omega
      rw [q1]
      simp only [ap_v, ap_c, ap_2, ap_A, ap_nil, ap_cons, ap_lst, ap_tup, ap_B, ap_call, ap_callN, ap_callO, ap_T, ap_isT, ap_not, ap_neg, ap_and, ap_or, ap_if, ap_ch, ap_seq, ap_snil, ap_sif, ap_ret, ap_retN, ap_asg, ap_exp, ap_tgt, ap_app, ap_rev, ap_set, ap_aug, ap_for, ap_forM, ap_rng1, ap_rng2, ap_mseq, ap_enum, ap_lc, ap_yes, ap_gnm, ap_gtp, ap_gnil, ap_gcons, ap_fM, ap_on, ap_oc, r_add, r_sub, r_mul, r_div, r_mod, r_pow, r_lt, r_le, r_gt, r_ge, r_eqI, r_eqS, r_neI, r_neS, r_ixL, r_ixT, r_ixR, r_ipL, r_ipT, r_len, r_lenT, r_lenR, r_abs, r_max, r_min, a_int, a_bl, a_str, a_non, t_bl, List.map_cons, List.map_nil, List.length_cons, List.length_nil, List.replicate, List.cons_append, List.nil_append, List.getElem?_cons_zero, List.getElem?_cons_succ, List.set_cons_zero, List.set_cons_succ, List.getElem?_nil, Nat.reduceSub, Nat.reduceAdd, Nat.reduceEqDiff, decide_true, decide_false, ap_mk, ap_mut, ap_swap, ap_putI, ap_ev2, ap_keys, ap_mD, ap_put, ap_get2, ap_disp, ap_dsN, ap_dsC, ap_srtD, ap_sl, ap_oS, ap_oN, r_catI, r_mkL, r_mkLT, r_mkT, ap_gtpL, Bool.not_true, q2])
    (nn es s) 100000 [some (mdP es), some (.int s), some (.lst []), some (.lst []), some (.int s), none, none, none, none] (by omega)
    ⟨none, none, none, none, Nat.le_refl _, by rw [Nat.sub_self]; rfl⟩
  obtain ⟨_, rfl⟩ := e2
  refine ⟨[mdP es, .int s], ?_⟩
  simp only [F_gone_along, m_gone_along, sg_gone_along, ap_v, ap_c, ap_2, ap_A, ap_nil, ap_cons, ap_lst, ap_tup, ap_B, ap_call, ap_callN, ap_callO, ap_T, ap_isT, ap_not, ap_neg, ap_and, ap_or, ap_if, ap_ch, ap_seq, ap_snil, ap_sif, ap_ret, ap_retN, ap_asg, ap_exp, ap_tgt, ap_app, ap_rev, ap_set, ap_aug, ap_for, ap_forM, ap_rng1, ap_rng2, ap_mseq, ap_enum, ap_lc, ap_yes, ap_gnm, ap_gtp, ap_gnil, ap_gcons, ap_fM, ap_on, ap_oc, r_add, r_sub, r_mul, r_div, r_mod, r_pow, r_lt, r_le, r_gt, r_ge, r_eqI, r_eqS, r_neI, r_neS, r_ixL, r_ixT, r_ixR, r_ipL, r_ipT, r_len, r_lenT, r_lenR, r_abs, r_max, r_min, a_int, a_bl, a_str, a_non, t_bl, List.map_cons, List.map_nil, List.length_cons, List.length_nil, List.replicate, List.cons_append, List.nil_append, List.getElem?_cons_zero, List.getElem?_cons_succ, List.set_cons_zero, List.set_cons_succ, List.getElem?_nil, Nat.reduceSub, Nat.reduceAdd, Nat.reduceEqDiff, decide_true, decide_false, ap_mk, ap_mut, ap_swap, ap_putI, ap_ev2, ap_keys, ap_mD, ap_put, ap_get2, ap_disp, ap_dsN, ap_dsC, ap_srtD, ap_sl, ap_oS, ap_oN, r_catI, r_mkL, r_mkLT, r_mkT, ap_gtpL, sWhile, e1, show (0 + 1 + 1 : Nat) ≤ 16777216 from by omega, show (0 : Nat) ≤ 16777216 from by omega, if_true]
  rfl
def sd1 (seen : List Int) : D := .dic (.K (seen.map Sum.inl)) (seen.map fun _ => .bl true)
theorem seen_loop (a0 a1 a2 a4 a5 : Option D) : ∀ (g seen : List Int) (x6 : Option D), (seen ++ g).Nodup → (seen ++ g).length < 1000000 →
    ∃ y6, itF (gNm 6) b_piece_walks_0 (g.map D.int) [a0, a1, a2, some (sd1 seen), a4, a5, x6] = some (.nx [a0, a1, a2, some (sd1 (seen ++ g)), a4, a5, y6])
  | [], seen, x6, _, _ => ⟨x6, by simp [itF]⟩
  | x :: g, seen, x6, h, hl => by
    have e : seen ++ x :: g = seen ++ [x] ++ g := by simp
    obtain ⟨y6, ih⟩ := seen_loop a0 a1 a2 a4 a5 g (seen ++ [x]) (some (.int x)) (e ▸ h) (e ▸ hl)
    refine ⟨y6, ?_⟩
    rw [e, ← ih]
    have hx : x ∉ seen := fun z => (List.nodup_append.mp h).2.2 x z x (by simp) rfl
    have hk : (Sum.inl x : Key) ∉ seen.map Sum.inl := fun z => by
      obtain ⟨y, hy, q⟩ := List.mem_map.mp z
      cases q
      exact hx hy
    have p := put_new (xs := seen.map fun _ => D.bl true) (v := .bl true) hk
    have z1 : (seen.map fun _ => D.bl true).length < 16777216 := by simp at hl ⊢; omega
    simp only [List.map_cons, itF, ap_gnm, Option.bind_some, List.set_cons_zero, List.set_cons_succ]
    simp only [b_piece_walks_0, ap_v, ap_c, ap_2, ap_A, ap_nil, ap_cons, ap_lst, ap_tup, ap_B, ap_call, ap_callN, ap_callO, ap_T, ap_isT, ap_not, ap_neg, ap_and, ap_or, ap_if, ap_ch, ap_seq, ap_snil, ap_sif, ap_ret, ap_retN, ap_asg, ap_exp, ap_tgt, ap_app, ap_rev, ap_set, ap_aug, ap_for, ap_forM, ap_rng1, ap_rng2, ap_mseq, ap_enum, ap_lc, ap_yes, ap_gnm, ap_gtp, ap_gnil, ap_gcons, ap_fM, ap_on, ap_oc, r_add, r_sub, r_mul, r_div, r_mod, r_pow, r_lt, r_le, r_gt, r_ge, r_eqI, r_eqS, r_neI, r_neS, r_ixL, r_ixT, r_ixR, r_ipL, r_ipT, r_len, r_lenT, r_lenR, r_abs, r_max, r_min, a_int, a_bl, a_str, a_non, t_bl, List.map_cons, List.map_nil, List.length_cons, List.length_nil, List.replicate, List.cons_append, List.nil_append, List.getElem?_cons_zero, List.getElem?_cons_succ, List.set_cons_zero, List.set_cons_succ, List.getElem?_nil, Nat.reduceSub, Nat.reduceAdd, Nat.reduceEqDiff, decide_true, decide_false, ap_mk, ap_mut, ap_swap, ap_putI, ap_ev2, ap_keys, ap_mD, ap_put, ap_get2, ap_disp, ap_dsN, ap_dsC, ap_srtD, ap_sl, ap_oS, ap_oN, r_catI, r_mkL, r_mkLT, r_mkT, ap_gtpL, sd1, p, z1, if_true, List.map_append]
structure Ws (es : List (Int × Int)) (seen : List Int) : Prop where
  nd : seen.Nodup
  clo : Clo (mu es) bm seen
  sub : ∀ x ∈ seen, x ∈ flt es
theorem Ws.next {es : List (Int × Int)} {seen : List Int} (W : Ws es seen) (G : Good es) {x : Int} (hx : x ∈ flt es) (hn : x ∉ seen) : Ws es (seen ++ wl es x) := by
  have p := nn_per G hx
  refine ⟨?_, ?_, ?_⟩
  · rw [List.nodup_append]
    exact ⟨W.nd, gon_nodup G.mts hx p _ (Nat.le_refl _), fun a ha b hb e => gon_apart G.mts hx W.clo hn _ b hb (e ▸ ha)⟩
  · intro y hy
    rcases List.mem_append.mp hy with hy | hy
    · exact ⟨List.mem_append_left _ (W.clo y hy).1, List.mem_append_left _ (W.clo y hy).2⟩
    · have := gon_clo G.mts hx p y hy
      exact ⟨List.mem_append_right _ this.1, List.mem_append_right _ this.2⟩
  · intro y hy
    rcases List.mem_append.mp hy with hy | hy
    · exact W.sub y hy
    · obtain ⟨i, _, rfl | rfl⟩ := mem_gon.mp hy
      · exact hs_S G.mts hx i
      · exact G.mts.mS _ (hs_S G.mts hx i)
theorem Ws.len {es : List (Int × Int)} {seen : List Int} (W : Ws es seen) : seen.length ≤ 2 * es.length := by
  have := nodup_le _ _ W.nd W.sub
  rwa [flt_len] at this
theorem Ws.nil (es : List (Int × Int)) : Ws es [] := ⟨List.nodup_nil, fun x h => by simp at h, fun x h => by simp at h⟩
noncomputable abbrev st0 (es : List (Int × Int)) (rem seen : List Int) : List Int := sta (mu es) bm rem seen
theorem st0_in {es : List (Int × Int)} {x : Int} {xs seen : List Int} (h : x ∈ seen) : st0 es (x :: xs) seen = st0 es xs seen := by simp [st0, sta, h]
theorem st0_out {es : List (Int × Int)} {x : Int} {xs seen : List Int} (h : x ∉ seen) : st0 es (x :: xs) seen = x :: st0 es xs (seen ++ wl es x) := by simp [st0, sta, h]
theorem walks_loop {es : List (Int × Int)} (G : Good es) (hl : es.length < 10000) (d0 : Option D) : ∀ (rem seen : List Int) (acc : List D) (x4 x5 x6 : Option D), Ws es seen → (∀ x ∈ rem, x ∈ flt es) → acc.length + rem.length < 1000000 →
    ∃ y3 y4 y5 y6, itF (gNm 4) b_piece_walks_1 (rem.map D.int) [d0, some (mdP es), some (.lst acc), some (sd1 seen), x4, x5, x6] = some (.nx [d0, some (mdP es), some (.lst (acc ++ (st0 es rem seen).map (walkD es))), y3, y4, y5, y6])
  | [], seen, acc, x4, x5, x6, _, _, _ => ⟨some (sd1 seen), x4, x5, x6, by simp [itF, st0, sta]⟩
  | x :: rem, seen, acc, x4, x5, x6, W, hr, ha => by
    have hx : x ∈ flt es := hr x (by simp)
    have i1 := ni_key (x := x) (xs := seen) (vs := seen.map fun _ => D.bl true)
    by_cases q : x ∈ seen
    · obtain ⟨y3, y4, y5, y6, ih⟩ := walks_loop G hl d0 rem seen acc (some (.int x)) x5 x6 W (fun y hy => hr y (by simp [hy])) (by simp at ha; omega)
      refine ⟨y3, y4, y5, y6, ?_⟩
      rw [st0_in q, ← ih]
      rw [decide_eq_true q] at i1
      have i1' : dNi (.int x) (sd1 seen) = some (.bl (!true)) := i1
      simp only [List.map_cons, itF, ap_gnm, Option.bind_some, List.set_cons_zero, List.set_cons_succ]
      simp only [b_piece_walks_1, ap_v, ap_c, ap_2, ap_A, ap_nil, ap_cons, ap_lst, ap_tup, ap_B, ap_call, ap_callN, ap_callO, ap_T, ap_isT, ap_not, ap_neg, ap_and, ap_or, ap_if, ap_ch, ap_seq, ap_snil, ap_sif, ap_ret, ap_retN, ap_asg, ap_exp, ap_tgt, ap_app, ap_rev, ap_set, ap_aug, ap_for, ap_forM, ap_rng1, ap_rng2, ap_mseq, ap_enum, ap_lc, ap_yes, ap_gnm, ap_gtp, ap_gnil, ap_gcons, ap_fM, ap_on, ap_oc, r_add, r_sub, r_mul, r_div, r_mod, r_pow, r_lt, r_le, r_gt, r_ge, r_eqI, r_eqS, r_neI, r_neS, r_ixL, r_ixT, r_ixR, r_ipL, r_ipT, r_len, r_lenT, r_lenR, r_abs, r_max, r_min, a_int, a_bl, a_str, a_non, t_bl, List.map_cons, List.map_nil, List.length_cons, List.length_nil, List.replicate, List.cons_append, List.nil_append, List.getElem?_cons_zero, List.getElem?_cons_succ, List.set_cons_zero, List.set_cons_succ, List.getElem?_nil, Nat.reduceSub, Nat.reduceAdd, Nat.reduceEqDiff, decide_true, decide_false, ap_mk, ap_mut, ap_swap, ap_putI, ap_ev2, ap_keys, ap_mD, ap_put, ap_get2, ap_disp, ap_dsN, ap_dsC, ap_srtD, ap_sl, ap_oS, ap_oN, r_catI, r_mkL, r_mkLT, r_mkT, ap_gtpL, i1', Bool.not_true]
    · rw [decide_eq_false q] at i1
      have i1' : dNi (.int x) (sd1 seen) = some (.bl (!false)) := i1
      obtain ⟨e, eg⟩ := gone_ok G hl hx
      have W2 := W.next G hx q
      have wlen := W2.len
      obtain ⟨z6, sl⟩ := seen_loop d0 (some (mdP es)) (some (.lst (acc ++ [walkD es x]))) (some (.int x)) (some (walkD es x)) (wl es x) seen x6 W2.nd (by omega)
      obtain ⟨y3, y4, y5, y6, ih⟩ := walks_loop G hl d0 rem (seen ++ wl es x) (acc ++ [walkD es x]) (some (.int x)) (some (walkD es x)) z6 W2 (fun y hy => hr y (by simp [hy])) (by simp at ha ⊢; omega)
      refine ⟨y3, y4, y5, y6, ?_⟩
      have e5 : acc ++ (st0 es (x :: rem) seen).map (walkD es) = acc ++ [walkD es x] ++ (st0 es rem (seen ++ wl es x)).map (walkD es) := by rw [st0_out q]; simp
      rw [e5, ← ih]
      have z1 : acc.length < 16777216 := by simp at ha; omega
      have w0 : dIxP (walkD es x) (.int 0) = some (.lst ((wl es x).map D.int)) := by
        show atI _ 0 = _
        exact at0
      simp only [List.map_cons, itF, ap_gnm, Option.bind_some, List.set_cons_zero, List.set_cons_succ]
      simp only [b_piece_walks_1, ap_v, ap_c, ap_2, ap_A, ap_nil, ap_cons, ap_lst, ap_tup, ap_B, ap_call, ap_callN, ap_callO, ap_T, ap_isT, ap_not, ap_neg, ap_and, ap_or, ap_if, ap_ch, ap_seq, ap_snil, ap_sif, ap_ret, ap_retN, ap_asg, ap_exp, ap_tgt, ap_app, ap_rev, ap_set, ap_aug, ap_for, ap_forM, ap_rng1, ap_rng2, ap_mseq, ap_enum, ap_lc, ap_yes, ap_gnm, ap_gtp, ap_gnil, ap_gcons, ap_fM, ap_on, ap_oc, r_add, r_sub, r_mul, r_div, r_mod, r_pow, r_lt, r_le, r_gt, r_ge, r_eqI, r_eqS, r_neI, r_neS, r_ixL, r_ixT, r_ixR, r_ipL, r_ipT, r_len, r_lenT, r_lenR, r_abs, r_max, r_min, a_int, a_bl, a_str, a_non, t_bl, List.map_cons, List.map_nil, List.length_cons, List.length_nil, List.replicate, List.cons_append, List.nil_append, List.getElem?_cons_zero, List.getElem?_cons_succ, List.set_cons_zero, List.set_cons_succ, List.getElem?_nil, Nat.reduceSub, Nat.reduceAdd, Nat.reduceEqDiff, decide_true, decide_false, ap_mk, ap_mut, ap_swap, ap_putI, ap_ev2, ap_keys, ap_mD, ap_put, ap_get2, ap_disp, ap_dsN, ap_dsC, ap_srtD, ap_sl, ap_oS, ap_oN, r_catI, r_mkL, r_mkLT, r_mkT, ap_gtpL, i1', Bool.not_false, eg, z1, if_true, w0, sl]
noncomputable def sts (es : List (Int × Int)) : List Int := st0 es (irg 0 (2 * es.length)) []
theorem rngD_irg (n : Nat) : rngD 0 n = (irg 0 n).map D.int := by
  unfold rngD irg
  rw [List.map_map]
  rfl
theorem irg_flt {es : List (Int × Int)} (G : Good es) : ∀ x ∈ irg 0 (2 * es.length), x ∈ flt es := fun x hx => G.perm.mem_iff.mpr hx
theorem walks_ok {ls : List D} (h : OkL 0 ls 0) (hl : ls.length < 2000) : ∃ e, F_piece_walks [.lst ls] = some (.lst ((sts (endsF [] 0 ls)).map (walkD (endsF [] 0 ls))), e) := by
  have G := ends_good h
  have el := ends_le ls [] 0
  obtain ⟨e1, e2⟩ := mates_ok h hl
  obtain ⟨e3, e4⟩ := many_ok h hl
  generalize endsF [] 0 ls = es at *
  obtain ⟨y3, y4, y5, y6, e5⟩ := walks_loop G (by omega) (some (.lst ls)) (irg 0 (2 * es.length)) [] [] none none none (Ws.nil es) (irg_flt G) (by simp [irg_len]; omega)
  rw [List.nil_append, ← rngD_irg] at e5
  have e6 : itF (gNm 4) b_piece_walks_1 (rngD 0 (2 * es.length)) [some (.lst ls), some (mdP es), some (.lst []), some (.dic (.K []) []), none, none, none] = some (.nx [some (.lst ls), some (mdP es), some (.lst ((sts es).map (walkD es))), y3, y4, y5, y6]) := e5
  have lim : lim62 ((2 * es.length : Nat) : Int) = true := lim62_of (by omega) (by omega)
  refine ⟨[.lst ls], ?_⟩
  simp only [F_piece_walks, m_piece_walks, sg_piece_walks, ap_v, ap_c, ap_2, ap_A, ap_nil, ap_cons, ap_lst, ap_tup, ap_B, ap_call, ap_callN, ap_callO, ap_T, ap_isT, ap_not, ap_neg, ap_and, ap_or, ap_if, ap_ch, ap_seq, ap_snil, ap_sif, ap_ret, ap_retN, ap_asg, ap_exp, ap_tgt, ap_app, ap_rev, ap_set, ap_aug, ap_for, ap_forM, ap_rng1, ap_rng2, ap_mseq, ap_enum, ap_lc, ap_yes, ap_gnm, ap_gtp, ap_gnil, ap_gcons, ap_fM, ap_on, ap_oc, r_add, r_sub, r_mul, r_div, r_mod, r_pow, r_lt, r_le, r_gt, r_ge, r_eqI, r_eqS, r_neI, r_neS, r_ixL, r_ixT, r_ixR, r_ipL, r_ipT, r_len, r_lenT, r_lenR, r_abs, r_max, r_min, a_int, a_bl, a_str, a_non, t_bl, List.map_cons, List.map_nil, List.length_cons, List.length_nil, List.replicate, List.cons_append, List.nil_append, List.getElem?_cons_zero, List.getElem?_cons_succ, List.set_cons_zero, List.set_cons_succ, List.getElem?_nil, Nat.reduceSub, Nat.reduceAdd, Nat.reduceEqDiff, decide_true, decide_false, ap_mk, ap_mut, ap_swap, ap_putI, ap_ev2, ap_keys, ap_mD, ap_put, ap_get2, ap_disp, ap_dsN, ap_dsC, ap_srtD, ap_sl, ap_oS, ap_oN, r_catI, r_mkL, r_mkLT, r_mkT, ap_gtpL, e2, e4, lim, Int.toNat_natCast, e6, show (0 : Nat) ≤ 16777216 from by omega, if_true]
theorem sta_len {es : List (Int × Int)} : ∀ (rem seen : List Int), (st0 es rem seen).length ≤ rem.length
  | [], _ => Nat.le_refl _
  | x :: rem, seen => by
    by_cases q : x ∈ seen
    · rw [st0_in q]
      have := sta_len (es := es) rem seen
      simp
      omega
    · rw [st0_out q]
      have := sta_len (es := es) rem (seen ++ wl es x)
      simp
      omega
theorem ixN_of {n : Nat} {x : Int} (h0 : 0 ≤ x) (h1 : x < n) : ixN n x = some x.toNat := by
  obtain ⟨k, rfl⟩ := Int.eq_ofNat_of_zero_le h0
  exact ix_nn (by omega)
theorem wl_in {es : List (Int × Int)} (G : Good es) {s : Int} (h : s ∈ flt es) : ∀ x ∈ wl es s, x ∈ flt es := fun x hx => by
  obtain ⟨i, _, rfl | rfl⟩ := mem_gon.mp hx
  · exact hs_S G.mts h i
  · exact G.mts.mS _ (hs_S G.mts h i)
theorem sts_all {es : List (Int × Int)} (G : Good es) : ((sts es).flatMap (wl es)).Nodup ∧ (∀ x ∈ irg 0 (2 * es.length), x ∈ (sts es).flatMap (wl es)) ∧ (∀ x ∈ (sts es).flatMap (wl es), x ∈ flt es) ∧ ∀ s ∈ sts es, s ∈ flt es := by
  have := sta_all G.mts (L := flt es) (fun _ z => z) (irg 0 (2 * es.length)) [] (irg_flt G) List.nodup_nil (fun x h => by simp at h) (fun x h => by simp at h)
  simp only [List.nil_append] at this
  exact this
theorem sts_sum {es : List (Int × Int)} (G : Good es) : ((sts es).flatMap (wl es)).length = 2 * es.length := by
  obtain ⟨a, b, c, d⟩ := sts_all G
  have h1 := nodup_le _ _ a c
  have h2 := nodup_le _ _ (irg_nodup 0 (2 * es.length)) b
  rw [flt_len] at h1
  rw [irg_len] at h2
  omega
theorem asg_m2 {f : D → D → Option D} {i : Nat} {ma mb : M} {ρ ρ1 ρ2 : DE} {x y z : D} (h1 : ma ρ = some (x, ρ1)) (h2 : mb ρ1 = some (y, ρ2)) (h3 : f x y = some z) : sAsg i (m2 f ma mb) ρ = some (.nx (ρ2.set i (some z))) := by
  rw [ap_asg, ap_2, h1]
  simp only [h2, h3]
theorem fo_okl : ∀ {ls : List D} {m m' : Int}, fo m ls = some m' → OkL m ls m'
  | [], m, m', h => by cases h; rfl
  | d :: ls, m, m', h => by
    cases eb : beh m d with
    | none => simp [fo, eb] at h
    | some m1 =>
      have h' : fo m1 ls = some m' := by simpa [fo, eb] using h
      have ih := fo_okl h'
      unfold beh at eb
      split at eb
      · rename_i w k
        split at eb
        · rename_i q
          subst q
          split at eb
          · rename_i q
            cases eb
            exact ⟨k, .inl ⟨rfl, q.1, q.2.1, ih⟩⟩
          · cases eb
        · split at eb
          · rename_i q
            subst q
            split at eb
            · rename_i q
              cases eb
              exact ⟨k, .inr (.inl ⟨rfl, q.1, by omega, ih⟩)⟩
            · cases eb
          · split at eb
            · rename_i q
              subst q
              split at eb
              · rename_i q
                cases eb
                exact ⟨k, .inr (.inr ⟨rfl, q.1, by omega, ih⟩)⟩
              · cases eb
            · cases eb
      · cases eb
def setI (v : Int) (f : List Int) (x : Int) : List Int := f.set x.toNat v
theorem setI_len (v : Int) (f : List Int) (x : Int) : (setI v f x).length = f.length := by simp [setI]
theorem foldI_len (v : Int) : ∀ (g : List Int) (f : List Int), (g.foldl (setI v) f).length = f.length
  | [], _ => rfl
  | x :: g, f => by rw [List.foldl_cons, foldI_len v g, setI_len]
theorem pc_loopP (d0 a3 : Option D) (v : Int) : ∀ (g f : List Int) (x4 : Option D), (∀ x ∈ g, 0 ≤ x ∧ x < f.length) →
    ∃ y4, itF (gNm 4) b_pieces_0 (g.map D.int) [d0, some (.lst (f.map D.int)), some (.int v), a3, x4] = some (.nx [d0, some (.lst ((g.foldl (setI v) f).map D.int)), some (.int v), a3, y4])
  | [], f, x4, _ => ⟨x4, by simp [itF]⟩
  | x :: g, f, x4, h => by
    obtain ⟨h0, h1⟩ := h x (by simp)
    obtain ⟨y4, ih⟩ := pc_loopP d0 a3 v g (setI v f x) (some (.int x)) fun y hy => by rw [setI_len]; exact h y (by simp [hy])
    refine ⟨y4, ?_⟩
    rw [List.foldl_cons, ← ih]
    have i := ixN_of (n := (f.map D.int).length) h0 (by simpa using h1)
    have e : (f.map D.int).set x.toNat (.int v) = (setI v f x).map D.int := by simp [setI, List.map_set]
    simp only [List.map_cons, itF, ap_gnm, Option.bind_some, List.set_cons_zero, List.set_cons_succ]
    simp only [b_pieces_0, ap_v, ap_c, ap_2, ap_A, ap_nil, ap_cons, ap_lst, ap_tup, ap_B, ap_call, ap_callN, ap_callO, ap_T, ap_isT, ap_not, ap_neg, ap_and, ap_or, ap_if, ap_ch, ap_seq, ap_snil, ap_sif, ap_ret, ap_retN, ap_asg, ap_exp, ap_tgt, ap_app, ap_rev, ap_set, ap_aug, ap_for, ap_forM, ap_rng1, ap_rng2, ap_mseq, ap_enum, ap_lc, ap_yes, ap_gnm, ap_gtp, ap_gnil, ap_gcons, ap_fM, ap_on, ap_oc, r_add, r_sub, r_mul, r_div, r_mod, r_pow, r_lt, r_le, r_gt, r_ge, r_eqI, r_eqS, r_neI, r_neS, r_ixL, r_ixT, r_ixR, r_ipL, r_ipT, r_len, r_lenT, r_lenR, r_abs, r_max, r_min, a_int, a_bl, a_str, a_non, t_bl, List.map_cons, List.map_nil, List.length_cons, List.length_nil, List.replicate, List.cons_append, List.nil_append, List.getElem?_cons_zero, List.getElem?_cons_succ, List.set_cons_zero, List.set_cons_succ, List.getElem?_nil, Nat.reduceSub, Nat.reduceAdd, Nat.reduceEqDiff, decide_true, decide_false, ap_mk, ap_mut, ap_swap, ap_putI, ap_ev2, ap_keys, ap_mD, ap_put, ap_get2, ap_disp, ap_dsN, ap_dsC, ap_srtD, ap_sl, ap_oS, ap_oN, r_catI, r_mkL, r_mkLT, r_mkT, ap_gtpL, i, e]
noncomputable def plF (es : List (Int × Int)) : Nat → List Int → List Int → List Int
  | _, [], f => f
  | n, s :: ss, f => plF es (n + 1) ss ((wl es s).foldl (setI (n : Int)) f)
theorem plF_len (es : List (Int × Int)) : ∀ (ss : List Int) (n : Nat) (f : List Int), (plF es n ss f).length = f.length
  | [], _, _ => rfl
  | s :: ss, n, f => by
    show (plF es (n + 1) ss ((wl es s).foldl (setI (n : Int)) f)).length = _
    rw [plF_len es ss, foldI_len]
theorem piece_loopP {es : List (Int × Int)} (G : Good es) (d0 : Option D) : ∀ (ss : List Int) (n : Nat) (f : List Int) (x2 x3 x4 : Option D), (∀ s ∈ ss, s ∈ flt es) → f.length = 2 * es.length →
    ∃ y2 y3 y4, itF (gTp (gsCons (gNm 2) (gsCons (gNm 3) gsNil))) b_pieces_1 (en n (ss.map (walkD es))) [d0, some (.lst (f.map D.int)), x2, x3, x4] = some (.nx [d0, some (.lst ((plF es n ss f).map D.int)), y2, y3, y4])
  | [], n, f, x2, x3, x4, _, _ => ⟨x2, x3, x4, by simp [itF, en, plF]⟩
  | s :: ss, n, f, x2, x3, x4, h, hf => by
    have hs := h s (by simp)
    obtain ⟨z4, e1⟩ := pc_loopP d0 (some (walkD es s)) (n : Int) (wl es s) f x4 fun x hx => by
      have := (G.mem).mp (wl_in G hs x hx)
      omega
    obtain ⟨y2, y3, y4, ih⟩ := piece_loopP G d0 ss (n + 1) ((wl es s).foldl (setI (n : Int)) f) (some (.int (n : Nat))) (some (walkD es s)) z4 (fun x hx => h x (by simp [hx])) (by rw [foldI_len]; exact hf)
    refine ⟨y2, y3, y4, ?_⟩
    rw [show plF es n (s :: ss) f = plF es (n + 1) ss ((wl es s).foldl (setI (n : Int)) f) from rfl, ← ih]
    have w0 : dIxP (walkD es s) (.int 0) = some (.lst ((wl es s).map D.int)) := by
      show atI _ 0 = _
      exact at0
    rw [List.map_cons, show en n (walkD es s :: ss.map (walkD es)) = .tup [.int (n : Nat), walkD es s] :: en (n + 1) (ss.map (walkD es)) from rfl]
    simp only [itF, ap_gtp, ap_gcons, ap_gnil, ap_gnm, Option.bind_some, List.set_cons_zero, List.set_cons_succ]
    simp only [b_pieces_1, ap_v, ap_c, ap_2, ap_A, ap_nil, ap_cons, ap_lst, ap_tup, ap_B, ap_call, ap_callN, ap_callO, ap_T, ap_isT, ap_not, ap_neg, ap_and, ap_or, ap_if, ap_ch, ap_seq, ap_snil, ap_sif, ap_ret, ap_retN, ap_asg, ap_exp, ap_tgt, ap_app, ap_rev, ap_set, ap_aug, ap_for, ap_forM, ap_rng1, ap_rng2, ap_mseq, ap_enum, ap_lc, ap_yes, ap_gnm, ap_gtp, ap_gnil, ap_gcons, ap_fM, ap_on, ap_oc, r_add, r_sub, r_mul, r_div, r_mod, r_pow, r_lt, r_le, r_gt, r_ge, r_eqI, r_eqS, r_neI, r_neS, r_ixL, r_ixT, r_ixR, r_ipL, r_ipT, r_len, r_lenT, r_lenR, r_abs, r_max, r_min, a_int, a_bl, a_str, a_non, t_bl, List.map_cons, List.map_nil, List.length_cons, List.length_nil, List.replicate, List.cons_append, List.nil_append, List.getElem?_cons_zero, List.getElem?_cons_succ, List.set_cons_zero, List.set_cons_succ, List.getElem?_nil, Nat.reduceSub, Nat.reduceAdd, Nat.reduceEqDiff, decide_true, decide_false, ap_mk, ap_mut, ap_swap, ap_putI, ap_ev2, ap_keys, ap_mD, ap_put, ap_get2, ap_disp, ap_dsN, ap_dsC, ap_srtD, ap_sl, ap_oS, ap_oN, r_catI, r_mkL, r_mkLT, r_mkT, ap_gtpL, w0, e1]
noncomputable def pls (es : List (Int × Int)) : List Int := plF es 0 (sts es) (List.replicate (2 * es.length) 0)
theorem l0F (ρ : DE) : mLst (mCons (mC (.int 0)) mNil) ρ = some (.lst [.int 0], ρ) := by
  simp only [ap_lst, ap_cons, ap_nil, ap_c, List.length_cons, List.length_nil, show (0 + 1 : Nat) ≤ 16777216 from by omega, if_true]
def zs (n : Nat) : D := .lst ((List.replicate n (0 : Int)).map D.int)
theorem r_zs {n : Nat} (h : n ≤ 16777216) : dRep (.lst [.int 0]) (.int n) = some (zs n) := by
  rw [r_rep1 h]
  simp [zs]
theorem pieces_ok {ls : List D} (h : OkL 0 ls 0) (hl : ls.length < 2000) : ∃ e, F_pieces [.lst ls] = some (.lst ((pls (endsF [] 0 ls)).map D.int), e) := by
  obtain ⟨e1, e2⟩ := walks_ok h hl
  obtain ⟨e3, e4⟩ := many_ok h hl
  have el := ends_le ls [] 0
  have G := ends_good h
  generalize endsF [] 0 ls = es at *
  have r := r_zs (n := 2 * es.length) (by omega)
  obtain ⟨y2, y3, y4, e5⟩ := piece_loopP G (some (.lst ls)) (sts es) 0 (List.replicate (2 * es.length) 0) none none none (sts_all G).2.2.2 (by simp)
  have l2 : mCall F_thread_many (mCons (mV 0) mNil) [some (.lst ls), none, none, none, none] = some (.int ((2 * es.length : Nat) : Int), [some (.lst ls), none, none, none, none]) := by
    simp only [ap_call, ap_cons, ap_nil, ap_v, List.getElem?_cons_zero, e4]
  have s1 := asg_m2 (f := dRep) (i := 1) (ma := mLst (mCons (mC (.int 0)) mNil)) (mb := mCall F_thread_many (mCons (mV 0) mNil)) (l0F _) l2 r
  simp only [List.set_cons_zero, List.set_cons_succ] at s1
  have s2 : sFor (mEnum (mCons (mCallO F_piece_walks none (mCons (mV 0) mNil)) mNil)) (gTp (gsCons (gNm 2) (gsCons (gNm 3) gsNil))) b_pieces_1 [some (.lst ls), some (zs (2 * es.length)), none, none, none] = some (.nx [some (.lst ls), some (.lst ((pls es).map D.int)), y2, y3, y4]) := by
    have l3 : mCons (mCallO F_piece_walks none (mCons (mV 0) mNil)) mNil [some (.lst ls), some (zs (2 * es.length)), none, none, none] = some ([.lst ((sts es).map (walkD es))], [some (.lst ls), some (zs (2 * es.length)), none, none, none]) := by
      simp only [ap_callN, ap_cons, ap_nil, ap_v, List.getElem?_cons_zero, e2]
    rw [ap_for, ap_enum, l3]
    simp only [enum_en]
    exact e5
  have em : m_pieces [some (.lst ls), none, none, none, none] = some (.rt (.lst ((pls es).map D.int)) [some (.lst ls), some (.lst ((pls es).map D.int)), y2, y3, y4]) := by
    unfold m_pieces
    rw [ap_seq, s1]
    simp only []
    rw [ap_seq, s2]
    simp only []
    rw [ap_ret, ap_v]
    rfl
  exact ⟨[.lst ls], by simp only [F_pieces, sg_pieces, ap_v, ap_c, ap_2, ap_A, ap_nil, ap_cons, ap_lst, ap_tup, ap_B, ap_call, ap_callN, ap_callO, ap_T, ap_isT, ap_not, ap_neg, ap_and, ap_or, ap_if, ap_ch, ap_seq, ap_snil, ap_sif, ap_ret, ap_retN, ap_asg, ap_exp, ap_tgt, ap_app, ap_rev, ap_set, ap_aug, ap_for, ap_forM, ap_rng1, ap_rng2, ap_mseq, ap_enum, ap_lc, ap_yes, ap_gnm, ap_gtp, ap_gnil, ap_gcons, ap_fM, ap_on, ap_oc, r_add, r_sub, r_mul, r_div, r_mod, r_pow, r_lt, r_le, r_gt, r_ge, r_eqI, r_eqS, r_neI, r_neS, r_ixL, r_ixT, r_ixR, r_ipL, r_ipT, r_len, r_lenT, r_lenR, r_abs, r_max, r_min, a_int, a_bl, a_str, a_non, t_bl, List.map_cons, List.map_nil, List.length_cons, List.length_nil, List.replicate, List.cons_append, List.nil_append, List.getElem?_cons_zero, List.getElem?_cons_succ, List.set_cons_zero, List.set_cons_succ, List.getElem?_nil, Nat.reduceSub, Nat.reduceAdd, Nat.reduceEqDiff, decide_true, decide_false, ap_mk, ap_mut, ap_swap, ap_putI, ap_ev2, ap_keys, ap_mD, ap_put, ap_get2, ap_disp, ap_dsN, ap_dsC, ap_srtD, ap_sl, ap_oS, ap_oN, r_catI, r_mkL, r_mkLT, r_mkT, ap_gtpL, em]⟩
theorem born_cnt {ls : List D} (h : OkL 0 ls 0) : (((ls.map wd).countP fun x => decide (x = ("born" : Str)) : Nat) : Int) = ((endsF [] 0 ls).length : Int) := by
  have p := (ends_perm ls 0 0 [] h rfl).length_eq
  rw [flt_len] at p
  simp [irg_len] at p
  have e : ((ls.map wd).countP fun x => decide (x = ("born" : Str))) = bornN ls := by
    unfold bornN
    rw [List.countP_map]
    refine List.countP_congr fun d hd => ?_
    obtain ⟨w, k, rfl⟩ := h.shape d hd
    exact Iff.rfl
  rw [e]
  omega
theorem foldI_get (v : Int) : ∀ (g f : List Int) (i : Nat), i < f.length → (∀ x ∈ g, 0 ≤ x) → (g.foldl (setI v) f)[i]? = if (i : Int) ∈ g then some v else f[i]?
  | [], f, i, _, _ => by simp
  | x :: g, f, i, h, hg => by
    rw [List.foldl_cons, foldI_get v g (setI v f x) i (by rw [setI_len]; exact h) fun y hy => hg y (by simp [hy])]
    have hx := hg x (by simp)
    unfold setI
    rw [List.getElem?_set]
    by_cases q0 : (i : Int) ∈ g
    · rw [if_pos q0, if_pos (by simp [q0])]
    · rw [if_neg q0]
      by_cases q : x.toNat = i
      · have q2 : (i : Int) = x := by omega
        rw [if_pos q, if_pos (by omega), if_pos (by simp [q2])]
      · have q2 : ¬ (i : Int) = x := by omega
        rw [if_neg q, if_neg (by simp [q0, q2])]
theorem plF_out {es : List (Int × Int)} : ∀ (ss : List Int) (n : Nat) (f : List Int) (i : Nat), i < f.length → (∀ x ∈ ss.flatMap (wl es), 0 ≤ x) → (i : Int) ∉ ss.flatMap (wl es) → (plF es n ss f)[i]? = f[i]?
  | [], n, f, i, _, _, _ => rfl
  | s :: ss, n, f, i, h, h0, hn => by
    rw [List.flatMap_cons] at h0 hn
    have h1 : (i : Int) ∉ wl es s := fun z => hn (List.mem_append_left _ z)
    rw [show plF es n (s :: ss) f = plF es (n + 1) ss ((wl es s).foldl (setI (n : Int)) f) from rfl, plF_out ss (n + 1) _ i (by rw [foldI_len]; exact h) (fun x hx => h0 x (List.mem_append_right _ hx)) fun z => hn (List.mem_append_right _ z)]
    rw [foldI_get _ _ _ _ h fun x hx => h0 x (List.mem_append_left _ hx), if_neg h1]
theorem plF_get {es : List (Int × Int)} : ∀ (ss : List Int) (n : Nat) (f : List Int) (i j : Nat) (s : Int), i < f.length → (∀ x ∈ ss.flatMap (wl es), 0 ≤ x) → (ss.flatMap (wl es)).Nodup → ss[j]? = some s → (i : Int) ∈ wl es s → (plF es n ss f)[i]? = some ((n + j : Nat) : Int)
  | [], n, f, i, j, s, _, _, _, hj, _ => by simp at hj
  | s0 :: ss, n, f, i, j, s, h, h0, hn, hj, hi => by
    rw [List.flatMap_cons] at h0 hn
    have hn2 := List.nodup_append.mp hn
    rw [show plF es n (s0 :: ss) f = plF es (n + 1) ss ((wl es s0).foldl (setI (n : Int)) f) from rfl]
    match j, hj with
    | 0, hj =>
      cases hj
      rw [plF_out ss (n + 1) _ i (by rw [foldI_len]; exact h) (fun x hx => h0 x (List.mem_append_right _ hx)) fun z => hn2.2.2 _ hi _ z rfl]
      rw [foldI_get _ _ _ _ h fun x hx => h0 x (List.mem_append_left _ hx), if_pos hi]
      rfl
    | j + 1, hj =>
      have := plF_get ss (n + 1) ((wl es s0).foldl (setI (n : Int)) f) i j s (by rw [foldI_len]; exact h) (fun x hx => h0 x (List.mem_append_right _ hx)) hn2.2.1 hj hi
      rw [this, show n + 1 + j = n + (j + 1) by omega]
/-- the piece of a thread -/
noncomputable def pc (es : List (Int × Int)) (x : Int) : Int := ((pls es)[x.toNat]?).getD 0
theorem pc_of {es : List (Int × Int)} (G : Good es) {j : Nat} {s x : Int} (hj : (sts es)[j]? = some s) (hx : x ∈ wl es s) : (pls es)[x.toNat]? = some (j : Int) ∧ pc es x = j := by
  obtain ⟨a, b, c, d⟩ := sts_all G
  have hs : s ∈ sts es := List.mem_of_getElem? hj
  have hxf := G.mem.mp (wl_in G (d s hs) x hx)
  have e : (pls es)[x.toNat]? = some ((0 + j : Nat) : Int) := plF_get (sts es) 0 _ x.toNat j s (by simp; omega) (fun y hy => (G.mem.mp (c y hy)).1) a hj (by rw [Int.toNat_of_nonneg hxf.1]; exact hx)
  rw [Nat.zero_add] at e
  exact ⟨e, by unfold pc; rw [e]; rfl⟩
theorem in_walk {es : List (Int × Int)} (G : Good es) {x : Int} (hx : x ∈ flt es) : ∃ (j : Nat) (s : Int), (sts es)[j]? = some s ∧ x ∈ wl es s := by
  obtain ⟨a, b, c, d⟩ := sts_all G
  obtain ⟨s, hs, h⟩ := List.mem_flatMap.mp (b x (G.perm.mem_iff.mp hx))
  obtain ⟨j, hj, rfl⟩ := List.getElem_of_mem hs
  exact ⟨j, _, List.getElem?_eq_getElem hj, h⟩
theorem pc_mu {es : List (Int × Int)} (G : Good es) {x : Int} (hx : x ∈ flt es) : pc es (mu es x) = pc es x ∧ pc es (bm x) = pc es x := by
  obtain ⟨j, s, hj, h⟩ := in_walk G hx
  have hs := (sts_all G).2.2.2 s (List.mem_of_getElem? hj)
  have c := gon_clo G.mts hs (nn_per G hs) x h
  rw [(pc_of G hj h).2, (pc_of G hj c.1).2, (pc_of G hj c.2).2]
  exact ⟨rfl, rfl⟩
theorem pc_same {es : List (Int × Int)} (G : Good es) {x y : Int} (hx : x ∈ flt es) (h : pc es x = pc es y) (hy : y ∈ flt es) {j : Nat} {s : Int} (hj : (sts es)[j]? = some s) (hw : x ∈ wl es s) : y ∈ wl es s := by
  obtain ⟨k, t, hk, h2⟩ := in_walk G hy
  rw [(pc_of G hj hw).2, (pc_of G hk h2).2] at h
  have : j = k := by omega
  subst this
  rw [hj] at hk
  cases hk
  exact h2
theorem sta_min {es : List (Int × Int)} (G : Good es) : ∀ (k : Nat) (b : Int) (seen : List Int), 0 ≤ b → b + k = 2 * (es.length : Int) → Ws es seen → (∀ y, 0 ≤ y → y < b → y ∈ seen) →
    (st0 es (irg b k) seen).Pairwise (· < ·) ∧ ∀ s ∈ st0 es (irg b k) seen, b ≤ s ∧ ∀ x ∈ wl es s, s ≤ x
  | 0, b, seen, _, _, _, _ => by
    refine ⟨List.Pairwise.nil, fun s hs => ?_⟩
    simp [st0, sta, irg] at hs
  | k + 1, b, seen, h0, hb, W, hs => by
    rw [irg_succ]
    by_cases q : b ∈ seen
    · rw [st0_in q]
      obtain ⟨i1, i2⟩ := sta_min G k (b + 1) seen (by omega) (by omega) W fun y a c => by
        by_cases e : y = b
        · rw [e]; exact q
        · exact hs y a (by omega)
      exact ⟨i1, fun s h => ⟨by have := (i2 s h).1; omega, (i2 s h).2⟩⟩
    · rw [st0_out q]
      have hbf : b ∈ flt es := G.mem.mpr ⟨h0, by omega⟩
      have hbw : b ∈ wl es b := mem_gon.mpr ⟨0, (nn_per G hbf).1, .inl rfl⟩
      obtain ⟨i1, i2⟩ := sta_min G k (b + 1) (seen ++ wl es b) (by omega) (by omega) (W.next G hbf q) fun y a c => by
        by_cases e : y = b
        · rw [e]; exact List.mem_append_right _ hbw
        · exact List.mem_append_left _ (hs y a (by omega))
      refine ⟨List.pairwise_cons.mpr ⟨fun s h => by have := (i2 s h).1; omega, i1⟩, fun s h => ?_⟩
      rcases List.mem_cons.mp h with rfl | h
      · refine ⟨Int.le_refl _, fun x hx => ?_⟩
        have hn := gon_apart G.mts hbf W.clo q _ x hx
        have hx0 := (G.mem.mp (wl_in G hbf x hx)).1
        by_cases e : x < s
        · exact absurd (hs x hx0 e) hn
        · omega
      · exact ⟨by have := (i2 s h).1; omega, (i2 s h).2⟩
theorem sts_min {es : List (Int × Int)} (G : Good es) : (sts es).Pairwise (· < ·) ∧ ∀ s ∈ sts es, ∀ x ∈ wl es s, s ≤ x := by
  obtain ⟨a, b⟩ := sta_min G (2 * es.length) 0 [] (by omega) (by omega) (Ws.nil es) fun y h1 h2 => by omega
  exact ⟨a, fun s hs => (b s hs).2⟩
/-- labels -/
structure Lb (es es0 : List (Int × Int)) (L : Int → Int) : Prop where
  bmc : ∀ x ∈ flt es, L (bm x) = L x
  muc : ∀ p ∈ es0, L p.1 = L p.2
  lo : ∀ x ∈ flt es, 0 ≤ L x ∧ 2 * L x ≤ x ∧ L (2 * L x) = L x
  snd : ∀ x ∈ flt es, ∀ y ∈ flt es, L x = L y → pc es x = pc es y
def hi2 (a b : Int) : Int := if a ≤ b then b else a
def lo2 (a b : Int) : Int := if a ≤ b then a else b
def mgL (L : Int → Int) (p : Int × Int) : Int → Int := fun x => if L x = hi2 (L p.1) (L p.2) then lo2 (L p.1) (L p.2) else L x
theorem Lb.init {es : List (Int × Int)} (G : Good es) : Lb es [] fun x => x / 2 where
  bmc := fun x hx => by
    have := G.mem.mp hx
    show bm x / 2 = x / 2
    unfold bm
    split <;> omega
  muc := fun p hp => by simp at hp
  lo := fun x hx => by
    have := G.mem.mp hx
    show 0 ≤ x / 2 ∧ 2 * (x / 2) ≤ x ∧ 2 * (x / 2) / 2 = x / 2
    omega
  snd := fun x hx y hy h => by
    have h' : x / 2 = y / 2 := h
    have h1 := (G.mem.mp hx).1
    have h2 := (G.mem.mp hy).1
    by_cases q : x = y
    · rw [q]
    · have : y = bm x := by
        unfold bm
        split <;> omega
      rw [this]
      exact (pc_mu G hx).2.symm
theorem Lb.step {es es0 : List (Int × Int)} {L : Int → Int} (I : Lb es es0 L) {p : Int × Int} (h1 : p.1 ∈ flt es) (h2 : p.2 ∈ flt es) (hp : pc es p.1 = pc es p.2) : Lb es (es0 ++ [p]) (mgL L p) := by
  obtain ⟨u, l⟩ := p
  have hh : (hi2 (L u) (L l) = L u ∧ lo2 (L u) (L l) = L l ∧ L l ≤ L u) ∨ (hi2 (L u) (L l) = L l ∧ lo2 (L u) (L l) = L u ∧ L u ≤ L l) := by
    unfold hi2 lo2
    by_cases q : L u ≤ L l
    · exact .inr ⟨if_pos q, if_pos q, q⟩
    · exact .inl ⟨if_neg q, if_neg q, by omega⟩
  have ex : ∃ wh wo : Int, wh ∈ flt es ∧ wo ∈ flt es ∧ hi2 (L u) (L l) = L wh ∧ lo2 (L u) (L l) = L wo ∧ L wo ≤ L wh ∧ pc es wh = pc es wo := by
    rcases hh with ⟨a, b, c⟩ | ⟨a, b, c⟩
    · exact ⟨u, l, h1, h2, a, b, c, hp⟩
    · exact ⟨l, u, h2, h1, a, b, c, hp.symm⟩
  obtain ⟨wh, wo, m1, m2, e1, e2, e3, e4⟩ := ex
  have eq : ∀ x, mgL L (u, l) x = if L x = L wh then L wo else L x := fun x => by
    show (if L x = hi2 (L u) (L l) then lo2 (L u) (L l) else L x) = _
    rw [e1, e2]
  refine ⟨fun x hx => ?_, fun q hq => ?_, fun x hx => ?_, fun x hx y hy h => ?_⟩
  · rw [eq, eq, I.bmc x hx]
  · rcases List.mem_append.mp hq with hq | hq
    · rw [eq, eq, I.muc q hq]
    · rw [List.mem_singleton] at hq
      subst hq
      show mgL L (u, l) u = mgL L (u, l) l
      rw [eq, eq]
      rcases hh with ⟨a, b, c⟩ | ⟨a, b, c⟩
      · rw [if_pos (by rw [← e1, a])]
        by_cases z : L l = L wh
        · rw [if_pos z]
        · rw [if_neg z, ← e2, b]
      · rw [if_pos (show L l = L wh by rw [← e1, a])]
        by_cases z : L u = L wh
        · rw [if_pos z]
        · rw [if_neg z, ← e2, b]
  · have a := I.lo x hx
    have b := I.lo wo m2
    rw [eq x]
    by_cases z : L x = L wh
    · rw [if_pos z, eq]
      refine ⟨b.1, by omega, ?_⟩
      rw [b.2.2]
      by_cases z2 : L wo = L wh
      · rw [if_pos z2]
      · rw [if_neg z2]
    · rw [if_neg z, eq, a.2.2, if_neg z]
      exact ⟨a.1, a.2.1, rfl⟩
  · rw [eq, eq] at h
    by_cases z : L x = L wh
    · rw [if_pos z] at h
      by_cases z2 : L y = L wh
      · exact I.snd x hx y hy (z.trans z2.symm)
      · rw [if_neg z2] at h
        exact (I.snd x hx wh m1 z).trans (e4.trans (I.snd wo m2 y hy h))
    · rw [if_neg z] at h
      by_cases z2 : L y = L wh
      · rw [if_pos z2] at h
        exact (I.snd x hx wo m2 h).trans (e4.symm.trans (I.snd wh m1 y hy z2.symm))
      · rw [if_neg z2] at h
        exact I.snd x hx y hy h
theorem Lb.full {es : List (Int × Int)} {L : Int → Int} (G : Good es) (I : Lb es es L) : ∀ x ∈ flt es, L (mu es x) = L x := by
  have key : ∀ (es2 : List (Int × Int)), (∀ p ∈ es2, L p.1 = L p.2) → ∀ x, x ∈ flt es2 → L (mu es2 x) = L x := by
    intro es2
    induction es2 with
    | nil => intro _ x hx; simp [flt] at hx
    | cons p es2 ih =>
      intro hp x hx
      obtain ⟨u, l⟩ := p
      have h0 : L u = L l := hp (u, l) (by simp)
      by_cases q : x = u
      · have : mu ((u, l) :: es2) x = l := by simp [mu, mu2, q]
        rw [this, q, h0]
      · by_cases q2 : x = l
        · have ql : ¬ l = u := fun z => q (q2.trans z)
          have : mu ((u, l) :: es2) x = u := by simp [mu, mu2, q2, ql]
          rw [this, q2, h0]
        · have : mu ((u, l) :: es2) x = mu es2 x := by simp [mu, mu2, q, q2]
          rw [this]
          simp only [flt, List.mem_cons] at hx
          exact ih (fun p hp' => hp p (by simp [hp'])) x ((hx.resolve_left q).resolve_left q2)
  exact key es I.muc
theorem Lb.walk {es : List (Int × Int)} {L : Int → Int} (G : Good es) (I : Lb es es L) {s : Int} (hs : s ∈ flt es) : ∀ x ∈ wl es s, L x = L s := by
  have hk : ∀ k, L (hh es s k) = L s := by
    intro k
    induction k with
    | zero => rfl
    | succ k ih =>
      have h1 := hs_S G.mts hs k
      show L (bm (mu es (hh es s k))) = _
      rw [I.bmc _ (G.mts.mS _ h1), I.full G _ h1, ih]
  intro x hx
  obtain ⟨i, _, rfl | rfl⟩ := mem_gon.mp hx
  · exact hk i
  · rw [I.full G _ (hs_S G.mts hs i)]
    exact hk i
theorem Lb.start {es : List (Int × Int)} {L : Int → Int} (G : Good es) (I : Lb es es L) {j : Nat} {s : Int} (hj : (sts es)[j]? = some s) : s = 2 * L s := by
  have hm := List.mem_of_getElem? hj
  have hs := (sts_all G).2.2.2 s hm
  have a := I.lo s hs
  have hsr := G.mem.mp hs
  have h2 : 2 * L s ∈ flt es := G.mem.mpr ⟨by omega, by omega⟩
  have hw : s ∈ wl es s := mem_gon.mpr ⟨0, (nn_per G hs).1, .inl rfl⟩
  have p := I.snd s hs (2 * L s) h2 a.2.2.symm
  have := (sts_min G).2 s hm _ (pc_same G hs p h2 hj hw)
  omega
theorem Lb.order {es : List (Int × Int)} {L : Int → Int} (G : Good es) (I : Lb es es L) : srtU ((irg 0 (2 * es.length)).map L) = (sts es).map L := by
  refine (srtU_of ?_ fun k => ?_).symm
  · rw [List.pairwise_map]
    refine List.Pairwise.imp_of_mem ?_ (sts_min G).1
    intro a b ha hb hab
    obtain ⟨i, hi, rfl⟩ := List.getElem_of_mem ha
    obtain ⟨j, hj, rfl⟩ := List.getElem_of_mem hb
    have e1 := I.start G (List.getElem?_eq_getElem hi)
    have e2 := I.start G (List.getElem?_eq_getElem hj)
    omega
  · constructor
    · intro h
      obtain ⟨s, hs, rfl⟩ := List.mem_map.mp h
      exact List.mem_map.mpr ⟨s, G.perm.mem_iff.mp ((sts_all G).2.2.2 s hs), rfl⟩
    · intro h
      obtain ⟨x, hx, rfl⟩ := List.mem_map.mp h
      obtain ⟨j, s, hj, hw⟩ := in_walk G (G.perm.mem_iff.mpr hx)
      have hm := List.mem_of_getElem? hj
      exact List.mem_map.mpr ⟨s, hm, (I.walk G ((sts_all G).2.2.2 s hm) x hw).symm⟩
theorem idx_ok {xs : List Int} {j : Nat} {k : Int} (hn : xs.Nodup) (h : xs[j]? = some k) : dIdx (.lst (xs.map D.int)) (.int k) = some (.int (j : Nat)) := by
  have ha : ((xs.map D.int).all isA && isA (.int k)) = true := by
    rw [Bool.and_eq_true, List.all_eq_true]
    refine ⟨fun d hd => ?_, rfl⟩
    obtain ⟨y, _, rfl⟩ := List.mem_map.mp hd
    rfl
  unfold dIdx
  simp only []
  rw [if_pos ha]
  obtain ⟨hj, e⟩ := List.getElem?_eq_some_iff.mp h
  have hf : (((xs.map D.int).map av).findIdx? fun z => eqV z (av (.int k))) = some j := by
    rw [List.findIdx?_eq_some_iff_getElem]
    refine ⟨by simpa using hj, ?_, fun i hi => ?_⟩
    · simp only [List.getElem_map, e]
      show (k == k) = true
      simp
    · simp only [List.getElem_map]
      show ¬ (xs[i] == k) = true
      intro z
      have z2 : xs[i] = k := by simpa using z
      have := List.pairwise_iff_getElem.mp hn i j (by omega) hj hi
      exact this (z2.trans e.symm)
  rw [hf]
  rfl
theorem Lb.idx {es : List (Int × Int)} {L : Int → Int} (G : Good es) (I : Lb es es L) {x : Int} (hx : x ∈ flt es) : dIdx (.lst (((sts es).map L).map D.int)) (.int (L x)) = some (.int (pc es x)) := by
  obtain ⟨j, s, hj, hw⟩ := in_walk G hx
  have hm := List.mem_of_getElem? hj
  have e := I.walk G ((sts_all G).2.2.2 s hm) x hw
  have hnd : ((sts es).map L).Nodup := by
    rw [← I.order G]
    unfold srtU
    exact (List.mergeSort_perm _ _).nodup_iff.mpr (uqI_nodup _)
  rw [(pc_of G hj hw).2, idx_ok (j := j) hnd (by rw [List.getElem?_map, hj, e]; rfl)]
theorem pls_eq {es : List (Int × Int)} (G : Good es) : pls es = (irg 0 (2 * es.length)).map (pc es) := by
  have hl : (pls es).length = 2 * es.length := by unfold pls; rw [plF_len]; simp
  apply List.ext_getElem?
  intro i
  by_cases h : i < 2 * es.length
  · rw [List.getElem?_map]
    have e : (irg 0 (2 * es.length))[i]? = some (i : Int) := by
      unfold irg
      rw [List.getElem?_map, List.getElem?_range h]
      simp
    rw [e]
    show _ = some (pc es (i : Int))
    unfold pc
    rw [Int.toNat_natCast, List.getElem?_eq_getElem (by omega)]
    rfl
  · rw [List.getElem?_eq_none (by omega), List.getElem?_eq_none (by rw [List.length_map, irg_len]; omega)]
theorem ne_nil (xs : List Int) (hl : xs.length < 1000000) : dNe (.lst (xs.map D.int)) (.lst []) = some (.bl (!decide (xs = []))) := by
  have h1 : dep (.lst (xs.map D.int)) ≤ 60 := by
    have := dep_lst (k := 0) (ds := xs.map D.int) (fun d hd => by
      obtain ⟨x, _, rfl⟩ := List.mem_map.mp hd
      exact Nat.le_of_eq (dep_atom rfl)) (by omega)
    omega
  have h2 : dep (.lst []) ≤ 60 := by
    have := dep_lst (k := 0) (ds := []) (fun d hd => by simp at hd) (by omega)
    omega
  unfold dNe
  rw [if_pos (cmp_ok h1 h2)]
  congr 3
  have s1 : sd (.lst (xs.map D.int)) = true := sdL_all fun d hd => by
    obtain ⟨x, _, rfl⟩ := List.mem_map.mp hd
    rfl
  have i := deq_iff (.lst (xs.map D.int)) (.lst []) s1 rfl
  by_cases q : xs = []
  · subst q
    rw [decide_eq_true rfl]
    exact i.mpr rfl
  · rw [decide_eq_false q]
    cases z : deq (.lst (xs.map D.int)) (.lst []) with
    | false => rfl
    | true =>
      have := i.mp z
      simp at this
      exact absurd this q
theorem ints_of (xs : List Int) : intsOf (xs.map D.int) = some xs := by
  induction xs with
  | nil => rfl
  | cons x xs ih =>
    show (intsOf (xs.map D.int)).map _ = _
    rw [ih]
    rfl
theorem dep_nums (xs : List Int) : dep (.lst (xs.map D.int)) ≤ 60 := by
  have := dep_lst (k := 0) (ds := xs.map D.int) (fun d hd => by
    obtain ⟨x, _, rfl⟩ := List.mem_map.mp hd
    exact Nat.le_of_eq (dep_atom rfl)) (by omega)
  omega
theorem row_inZ {ls : List D} {m b : Int} {r : List Int} (h : OkL m ls 0) (hr : (r.length : Int) = m) {x : Int} (hx : x ∈ r) : x ∈ flt (endsF r b ls) :=
  (ends_perm ls m b r h hr).mem_iff.mpr (List.mem_append_left _ hx)
theorem ap_srtS {m : M} {ρ : DE} : mSrtS m ρ = (match m ρ with
  | some (.lst xs, ρ1) => (match intsOf xs with
    | some ns => if ns.length < 64 then some (.lst ((srtU ns).map .int), ρ1) else none
    | none => none)
  | _ => none) := rfl
def mx : List Int → Int
  | [] => 0
  | n :: ns => mxI n ns
theorem mx_in : ∀ {q : List Int}, q ≠ [] → mx q ∈ q ∧ ∀ y ∈ q, y ≤ mx q
  | [], h => absurd rfl h
  | n :: ns, _ => mxI_in ns n
theorem max_row (n : Int) (ns : List Int) : fMax1 [.lst ((n :: ns).map D.int)] = some (.int (mxI n ns)) := by
  show (match intsOf ((n :: ns).map D.int) with
    | some (n :: ns) => some (D.int (mxI n ns))
    | _ => none) = _
  rw [ints_of]
theorem has_top : ∀ (ls : List D) (m m' b : Int) (r : List Int), OkL m ls m' → (r.length : Int) = m → 0 < bornN ls → ∃ q ∈ rowsF r b ls, b + 2 * (bornN ls : Int) - 1 ∈ q
  | [], _, _, _, _, _, _, h => by simp [bornN] at h
  | d :: ls, m, m', b, r, h, hr, hn => by
    obtain ⟨w, k, mq, rfl, hk, hw, h2, hn2, hm2⟩ := letter_at h r hr b
    have e0 : rowsF r b (.tup [.str w, .int k] :: ls) = nx b r w k :: rowsF (nx b r w k) (bn b w) ls := rfl
    rw [e0]
    by_cases q : w = "born"
    · subst q
      have e1 : bornN (.tup [.str "born", .int k] :: ls) = bornN ls + 1 := by simp [bornN, wk2]
      have e3 : bn b "born" = b + 2 := by simp [bn]
      rw [e1]
      by_cases z : 0 < bornN ls
      · obtain ⟨t, ht, hx⟩ := has_top ls mq m' (bn b "born") (nx b r "born" k) h2 hn2 z
        rw [e3] at hx
        exact ⟨t, by simp [ht], by rw [show b + 2 * ((bornN ls + 1 : Nat) : Int) - 1 = b + 2 + 2 * (bornN ls : Int) - 1 by omega]; exact hx⟩
      · have z0 : bornN ls = 0 := by omega
        refine ⟨_, List.mem_cons_self, ?_⟩
        rw [z0, show b + 2 * ((0 + 1 : Nat) : Int) - 1 = b + 1 by omega]
        simp [nx]
    · have e1 : bornN (.tup [.str w, .int k] :: ls) = bornN ls := by
        have : ¬ (wk2 (.tup [.str w, .int (k : Nat)])).1 = ("born" : Str) := q
        simp [bornN, List.countP_cons, this]
      have e3 : bn b w = b := by simp [bn, q]
      rw [e1] at hn ⊢
      obtain ⟨t, ht, hx⟩ := has_top ls mq m' (bn b w) (nx b r w k) h2 hn2 hn
      rw [e3] at hx ht
      exact ⟨t, by rw [e3]; simp [ht], hx⟩
theorem rows_in : ∀ (ls : List D) (m b : Int) (r : List Int), OkL m ls 0 → (r.length : Int) = m → ∀ q ∈ r :: rowsF r b ls, ∀ x ∈ q, x ∈ flt (endsF r b ls)
  | [], m, b, r, h, hr, q, hq, x, hx => by
    simp [rowsF] at hq
    subst hq
    exact row_inZ h hr hx
  | d :: ls, m, b, r, h, hr, q, hq, x, hx => by
    rcases List.mem_cons.mp hq with rfl | hq
    · exact row_inZ h hr hx
    · obtain ⟨w, k, mq, rfl, hk, hw, h2, hn2, hm2⟩ := letter_at h r hr b
      have e2 : endsF r b (.tup [.str w, .int k] :: ls) = (if w = "end" then [((r[k]?).getD 0, (r[k + 1]?).getD 0)] else []) ++ endsF (nx b r w k) (bn b w) ls := rfl
      rw [e2, flt_app]
      exact List.mem_append_right _ (rows_in ls mq (bn b w) (nx b r w k) h2 hn2 q hq x hx)
theorem top_ok {ls : List D} (h : OkL 0 ls 0) : mxI 0 (((allR ls).filter fun q => decide (q ≠ [])).map fun q => 1 + mx q) = 2 * ((endsF [] 0 ls).length : Int) := by
  have G := ends_good h
  have p := (ends_perm ls 0 0 [] h rfl).length_eq
  rw [flt_len] at p
  simp [irg_len] at p
  have bn : bornN ls = (endsF [] 0 ls).length := by omega
  obtain ⟨h1, h2⟩ := mxI_in (((allR ls).filter fun q => decide (q ≠ [])).map fun q => 1 + mx q) 0
  generalize mxI 0 (((allR ls).filter fun q => decide (q ≠ [])).map fun q => 1 + mx q) = M at *
  have up : M ≤ 2 * ((endsF [] 0 ls).length : Int) := by
    rcases List.mem_cons.mp h1 with z | z
    · omega
    · obtain ⟨q, hq, rfl⟩ := List.mem_map.mp z
      obtain ⟨hq1, hq2⟩ := List.mem_filter.mp hq
      have hne : q ≠ [] := of_decide_eq_true hq2
      have := G.mem.mp (rows_in ls 0 0 [] h rfl q hq1 _ (mx_in hne).1)
      omega
  have dn : 2 * ((endsF [] 0 ls).length : Int) ≤ M := by
    by_cases z : 0 < bornN ls
    · obtain ⟨q, hq, hx⟩ := has_top ls 0 0 0 [] h rfl z
      have hne : q ≠ [] := fun e => by rw [e] at hx; simp at hx
      have := h2 (1 + mx q) (List.mem_cons_of_mem _ (List.mem_map.mpr ⟨q, List.mem_filter.mpr ⟨List.mem_cons_of_mem _ hq, decide_eq_true hne⟩, rfl⟩))
      have := (mx_in hne).2 _ hx
      omega
    · have := h2 0 (by simp)
      omega
  omega
def pR : D → Bool
  | .lst [] => false
  | .lst _ => true
  | _ => false
def fR : D → D
  | .lst xs => match fMax1 [.lst xs] with
    | some (.int m) => .int (1 + m)
    | _ => .non
  | d => d
theorem filt_rows : ∀ RR : List (List Int), ((RR.map row).filter pR).map fR = ((RR.filter fun q => decide (q ≠ [])).map fun q => 1 + mx q).map D.int
  | [] => rfl
  | [] :: RR => by
    have := filt_rows RR
    rw [List.map_cons, List.filter_cons, if_neg (show ¬ pR (row []) = true from Bool.false_ne_true), List.filter_cons, if_neg (by simp)]
    exact this
  | (n :: ns) :: RR => by
    have := filt_rows RR
    rw [List.map_cons, List.filter_cons, if_pos (show pR (row (n :: ns)) = true from rfl), List.filter_cons, if_pos (by simp), List.map_cons, List.map_cons, List.map_cons, this]
    congr 1
    show fR (.lst ((n :: ns).map D.int)) = .int (1 + mxI n ns)
    unfold fR
    simp only [max_row]
theorem at_lab {N : Nat} {L : Int → Int} {x : Int} (h0 : 0 ≤ x) (h1 : x < N) : atI (((irg 0 N).map L).map D.int) x = some (.int (L x)) := by
  obtain ⟨i, rfl⟩ := Int.eq_ofNat_of_zero_le h0
  rw [at_nn (by simp [irg_len]; omega), List.getElem?_map, List.getElem?_map]
  have e : (irg 0 N)[i]? = some (i : Int) := by
    unfold irg
    rw [List.getElem?_map, List.getElem?_range (by omega)]
    simp
  rw [e]
  rfl
theorem srt_two (a b : Int) : dMk .srt (.lst [.int a, .int b]) = some (.lst [.int (lo2 a b), .int (hi2 a b)]) := by
  have p : [a, b].Perm [lo2 a b, hi2 a b] := by
    unfold lo2 hi2
    by_cases q : a ≤ b
    · rw [if_pos q, if_pos q]
    · rw [if_neg q, if_neg q]
      exact List.Perm.swap b a []
  have s : [lo2 a b, hi2 a b].Pairwise (· ≤ ·) := by
    unfold lo2 hi2
    by_cases q : a ≤ b
    · rw [if_pos q, if_pos q]; simpa using q
    · rw [if_neg q, if_neg q]; simp; omega
  exact mk_srt p s (by simp)
def fM2 (h l : Int) : D → D
  | .int o => .int (if o = h then l else o)
  | d => d
theorem mu_pair : ∀ {es : List (Int × Int)} {p : Int × Int}, (flt es).Nodup → p ∈ es → mu es p.1 = p.2 ∧ p.1 ∈ flt es ∧ p.2 ∈ flt es
  | [], p, _, h => by simp at h
  | (u, l) :: es, p, hn, h => by
    simp only [flt, List.nodup_cons, List.mem_cons, not_or] at hn
    obtain ⟨⟨h1, h2⟩, h3, h4⟩ := hn
    rcases List.mem_cons.mp h with rfl | h
    · exact ⟨by simp [mu, mu2], by simp [flt], by simp [flt]⟩
    · obtain ⟨a, b, c⟩ := mu_pair h4 h
      have n1 : ¬ p.1 = u := fun z => h2 (z ▸ b)
      have n2 : ¬ p.1 = l := fun z => h3 (z ▸ b)
      have e : mu ((u, l) :: es) p.1 = mu es p.1 := by simp [mu, mu2, n1, n2]
      exact ⟨by rw [e, a], by simp [flt, b], by simp [flt, c]⟩
theorem lab_loop {es : List (Int × Int)} (G : Good es) (hes : es.length < 10000) (d0 a3 a6 a9 : Option D) (RR : List (List Int)) : ∀ (ls : List D) (m m' b : Int) (r : List Int) (n : Nat) (es0 : List (Int × Int)) (L : Int → Int) (x4 x5 x7 x8 : Option D), OkL m ls m' → (r.length : Int) = m → RR.drop n = r :: rowsF r b ls → es = es0 ++ endsF r b ls → Lb es es0 L →
    ∃ L2 y4 y5 y7 y8, Lb es es L2 ∧ itF (gTp (gsCons (gNm 4) (gsCons (gNm 5) gsNil))) b__law_pieces_0 (en n ls) [d0, some (.lst (RR.map row)), some (.lst (((irg 0 (2 * es.length)).map L).map D.int)), a3, x4, x5, a6, x7, x8, a9] = some (.nx [d0, some (.lst (RR.map row)), some (.lst (((irg 0 (2 * es.length)).map L2).map D.int)), a3, y4, y5, a6, y7, y8, a9])
  | [], m, m', b, r, n, es0, L, x4, x5, x7, x8, _, _, _, he, I => by
    have : es = es0 := by simpa [endsF] using he
    exact ⟨L, x4, x5, x7, x8, by rw [this] at I ⊢; exact I, rfl⟩
  | d :: ls, m, m', b, r, n, es0, L, x4, x5, x7, x8, h, hr, hR, he, I => by
    obtain ⟨w, k, mq, rfl, hk, hw, h2, hn2, hm2⟩ := letter_at h r hr b
    have e0 : endsF r b (.tup [.str w, .int k] :: ls) = (if w = "end" then [((r[k]?).getD 0, (r[k + 1]?).getD 0)] else []) ++ endsF (nx b r w k) (bn b w) ls := rfl
    have eR : RR[n]? = some r := by
      have := congrArg List.head? hR
      rw [List.head?_drop] at this
      exact this
    have hR2 : RR.drop (n + 1) = nx b r w k :: rowsF (nx b r w k) (bn b w) ls := by
      rw [← List.drop_drop, hR]
      rfl
    have ar := atI_row eR
    have t0 : atI [D.str w, .int k] 0 = some (.str w) := at0
    have t1 : atI [D.str w, .int k] 1 = some (.int k) := at1
    rw [show en n (.tup [.str w, .int k] :: ls) = .tup [.int (n : Nat), .tup [.str w, .int k]] :: en (n + 1) ls from rfl]
    simp only [itF, ap_gtp, ap_gcons, ap_gnil, ap_gnm, Option.bind_some, List.set_cons_zero, List.set_cons_succ]
    rw [e0] at he
    by_cases q : w = "end"
    · subst q
      have hk2 : k + 2 ≤ r.length := by
        rcases hw with z | ⟨_, z⟩
        · exact absurd z (by decide)
        · exact z
      rw [if_pos rfl] at he
      have b4 := at_row (r := r) (k := k) (by omega)
      have b5 := at_row (r := r) (k := k + 1) (by omega)
      have b5' : atI (r.map D.int) ((k : Int) + 1) = some (.int ((r[k + 1]?).getD 0)) := b5
      generalize (r[k]?).getD 0 = u at *
      generalize (r[k + 1]?).getD 0 = l at *
      obtain ⟨m1, m2', m3⟩ := mu_pair (p := (u, l)) G.nodup (by rw [he]; simp)
      have m1' : mu es u = l := m1
      have pcE : pc es u = pc es l := by rw [← m1']; exact (pc_mu G m2').1.symm
      have I2 := I.step (p := (u, l)) m2' m3 pcE
      obtain ⟨L2, y4, y5, y7, y8, IL, ih⟩ := lab_loop G hes d0 a3 a6 a9 RR ls mq m' (bn b "end") (nx b r "end" k) (n + 1) (es0 ++ [(u, l)]) (mgL L (u, l)) (some (.int (n : Nat))) (some (.tup [.str "end", .int k])) (some (.lst [.int (lo2 (L u) (L l)), .int (hi2 (L u) (L l))])) x8 h2 hn2 hR2 (by rw [he]; simp) I2
      refine ⟨L2, y4, y5, y7, y8, IL, ?_⟩
      rw [← ih]
      have ur := G.mem.mp m2'
      have lr := G.mem.mp m3
      have f1 := at_lab (N := 2 * es.length) (L := L) ur.1 (by omega)
      have f2 := at_lab (N := 2 * es.length) (L := L) lr.1 (by omega)
      have sr := srt_two (L u) (L l)
      let S : DE := [d0, some (.lst (RR.map row)), some (.lst (((irg 0 (2 * es.length)).map L).map D.int)), a3, some (.int (n : Nat)), some (.tup [.str "end", .int k]), a6, some (.lst [.int (lo2 (L u) (L l)), .int (hi2 (L u) (L l))]), x8, a9]
      obtain ⟨ρ', e1, _⟩ := cpL_map (vs := [8]) (mg := gNm 8) (mc := mYes) (me := m2 dIxP (mLst (mCons (mV 8) (mCons (m2 dIxP (mV 7) (mC (.int 0))) mNil))) (mB fInt (mCons (m2 dEq (mV 8) (m2 dIx (mV 7) (mC (.int 1)))) mNil))) (ρ := S) (fM2 (hi2 (L u) (L l)) (lo2 (L u) (L l))) (((irg 0 (2 * es.length)).map L).map D.int)
        (fun y hy => by
          obtain ⟨o, _, rfl⟩ := List.mem_map.mp hy
          have i0 : atI [D.int (lo2 (L u) (L l)), .int (hi2 (L u) (L l))] 0 = some (.int (lo2 (L u) (L l))) := at0
          have i1 : atI [D.int (lo2 (L u) (L l)), .int (hi2 (L u) (L l))] 1 = some (.int (hi2 (L u) (L l))) := at1
          have e3 : ∃ c : Int, fInt [.bl (decide (o = hi2 (L u) (L l)))] = some (.int c) ∧ atI [D.int o, .int (lo2 (L u) (L l))] c = some (.int (if o = hi2 (L u) (L l) then lo2 (L u) (L l) else o)) := by
            by_cases z : o = hi2 (L u) (L l)
            · rw [decide_eq_true z, if_pos z]; exact ⟨1, rfl, at1⟩
            · rw [decide_eq_false z, if_neg z]; exact ⟨0, rfl, at0⟩
          obtain ⟨cc, g1, g2⟩ := e3
          refine ⟨[d0, some (.lst (RR.map row)), some (.lst (((irg 0 (2 * es.length)).map L).map D.int)), a3, some (.int (n : Nat)), some (.tup [.str "end", .int k]), a6, some (.lst [.int (lo2 (L u) (L l)), .int (hi2 (L u) (L l))]), some (.int o), a9], rfl, rfl, [d0, some (.lst (RR.map row)), some (.lst (((irg 0 (2 * es.length)).map L).map D.int)), a3, some (.int (n : Nat)), some (.tup [.str "end", .int k]), a6, some (.lst [.int (lo2 (L u) (L l)), .int (hi2 (L u) (L l))]), some (.int o), a9], ?_, rfl⟩
          simp only [ap_v, ap_c, ap_2, ap_A, ap_nil, ap_cons, ap_lst, ap_tup, ap_B, ap_call, ap_callN, ap_callO, ap_T, ap_isT, ap_not, ap_neg, ap_and, ap_or, ap_if, ap_ch, ap_seq, ap_snil, ap_sif, ap_ret, ap_retN, ap_asg, ap_exp, ap_tgt, ap_app, ap_rev, ap_set, ap_aug, ap_for, ap_forM, ap_rng1, ap_rng2, ap_mseq, ap_enum, ap_lc, ap_yes, ap_gnm, ap_gtp, ap_gnil, ap_gcons, ap_fM, ap_on, ap_oc, r_add, r_sub, r_mul, r_div, r_mod, r_pow, r_lt, r_le, r_gt, r_ge, r_eqI, r_eqS, r_neI, r_neS, r_ixL, r_ixT, r_ixR, r_ipL, r_ipT, r_len, r_lenT, r_lenR, r_abs, r_max, r_min, a_int, a_bl, a_str, a_non, t_bl, List.map_cons, List.map_nil, List.length_cons, List.length_nil, List.replicate, List.cons_append, List.nil_append, List.getElem?_cons_zero, List.getElem?_cons_succ, List.set_cons_zero, List.set_cons_succ, List.getElem?_nil, Nat.reduceSub, Nat.reduceAdd, Nat.reduceEqDiff, decide_true, decide_false, ap_mk, ap_mut, ap_swap, ap_putI, ap_ev2, ap_keys, ap_mD, ap_put, ap_get2, ap_disp, ap_dsN, ap_dsC, ap_srtD, ap_sl, ap_oS, ap_oN, r_catI, r_mkL, r_mkLT, r_mkT, ap_gtpL, i0, i1, g1, g2, fM2, if_true, show (0 + 1 + 1 : Nat) ≤ 16777216 from by omega]) S rfl
      have e2 : (((irg 0 (2 * es.length)).map L).map D.int).map (fM2 (hi2 (L u) (L l)) (lo2 (L u) (L l))) = ((irg 0 (2 * es.length)).map (mgL L (u, l))).map D.int := by
        rw [List.map_map, List.map_map, List.map_map]
        rfl
      rw [e2] at e1
      have z1 : (((irg 0 (2 * es.length)).map (mgL L (u, l))).map D.int).length ≤ 16777216 := by simp [irg_len]; omega
      simp only [S] at e1
      have ra : atI (RR.map row) (n : Int) = some (.lst (r.map D.int)) := ar
      simp only [b__law_pieces_0, ap_v, ap_c, ap_2, ap_A, ap_nil, ap_cons, ap_lst, ap_tup, ap_B, ap_call, ap_callN, ap_callO, ap_T, ap_isT, ap_not, ap_neg, ap_and, ap_or, ap_if, ap_ch, ap_seq, ap_snil, ap_sif, ap_ret, ap_retN, ap_asg, ap_exp, ap_tgt, ap_app, ap_rev, ap_set, ap_aug, ap_for, ap_forM, ap_rng1, ap_rng2, ap_mseq, ap_enum, ap_lc, ap_yes, ap_gnm, ap_gtp, ap_gnil, ap_gcons, ap_fM, ap_on, ap_oc, r_add, r_sub, r_mul, r_div, r_mod, r_pow, r_lt, r_le, r_gt, r_ge, r_eqI, r_eqS, r_neI, r_neS, r_ixL, r_ixT, r_ixR, r_ipL, r_ipT, r_len, r_lenT, r_lenR, r_abs, r_max, r_min, a_int, a_bl, a_str, a_non, t_bl, List.map_cons, List.map_nil, List.length_cons, List.length_nil, List.replicate, List.cons_append, List.nil_append, List.getElem?_cons_zero, List.getElem?_cons_succ, List.set_cons_zero, List.set_cons_succ, List.getElem?_nil, Nat.reduceSub, Nat.reduceAdd, Nat.reduceEqDiff, decide_true, decide_false, ap_mk, ap_mut, ap_swap, ap_putI, ap_ev2, ap_keys, ap_mD, ap_put, ap_get2, ap_disp, ap_dsN, ap_dsC, ap_srtD, ap_sl, ap_oS, ap_oN, r_catI, r_mkL, r_mkLT, r_mkT, ap_gtpL, t0, t1, ra, b4, b5', f1, f2, sr, e1, z1, if_true, Bool.and_self, show (0 + 1 + 1 : Nat) ≤ 16777216 from by omega]
    · rw [if_neg q, List.nil_append] at he
      obtain ⟨L2, y4, y5, y7, y8, IL, ih⟩ := lab_loop G hes d0 a3 a6 a9 RR ls mq m' (bn b w) (nx b r w k) (n + 1) es0 L (some (.int (n : Nat))) (some (.tup [.str w, .int k])) x7 x8 h2 hn2 hR2 he I
      refine ⟨L2, y4, y5, y7, y8, IL, ?_⟩
      rw [← ih]
      simp only [b__law_pieces_0, ap_v, ap_c, ap_2, ap_A, ap_nil, ap_cons, ap_lst, ap_tup, ap_B, ap_call, ap_callN, ap_callO, ap_T, ap_isT, ap_not, ap_neg, ap_and, ap_or, ap_if, ap_ch, ap_seq, ap_snil, ap_sif, ap_ret, ap_retN, ap_asg, ap_exp, ap_tgt, ap_app, ap_rev, ap_set, ap_aug, ap_for, ap_forM, ap_rng1, ap_rng2, ap_mseq, ap_enum, ap_lc, ap_yes, ap_gnm, ap_gtp, ap_gnil, ap_gcons, ap_fM, ap_on, ap_oc, r_add, r_sub, r_mul, r_div, r_mod, r_pow, r_lt, r_le, r_gt, r_ge, r_eqI, r_eqS, r_neI, r_neS, r_ixL, r_ixT, r_ixR, r_ipL, r_ipT, r_len, r_lenT, r_lenR, r_abs, r_max, r_min, a_int, a_bl, a_str, a_non, t_bl, List.map_cons, List.map_nil, List.length_cons, List.length_nil, List.replicate, List.cons_append, List.nil_append, List.getElem?_cons_zero, List.getElem?_cons_succ, List.set_cons_zero, List.set_cons_succ, List.getElem?_nil, Nat.reduceSub, Nat.reduceAdd, Nat.reduceEqDiff, decide_true, decide_false, ap_mk, ap_mut, ap_swap, ap_putI, ap_ev2, ap_keys, ap_mD, ap_put, ap_get2, ap_disp, ap_dsN, ap_dsC, ap_srtD, ap_sl, ap_oS, ap_oN, r_catI, r_mkL, r_mkLT, r_mkT, ap_gtpL, t0, q]
theorem rng_ok (ns : List Int) (r : DE) : ∃ n : Nat, n ≤ 8 ∧ mRng1 (mCons (mB fMax2 (mCons (mC (.int 3)) (mCons (mB fMin2 (mCons (mB fLen (mCons (mV 0) mNil)) (mCons (mC (.int 8)) mNil))) mNil))) mNil) (some (.rol ns) :: r) = some (rngD 0 n, some (.rol ns) :: r) := by
  have key : ∀ j : Int, 0 ≤ j → j ≤ 8 → lim62 j = true := fun j h1 h2 => lim62_of (by omega) (by omega)
  let m : Int := if 8 < (ns.length : Int) then 8 else (ns.length : Int)
  have m1 : 0 ≤ m ∧ m ≤ 8 := by
    show 0 ≤ (if 8 < (ns.length : Int) then (8 : Int) else (ns.length : Int)) ∧ (if 8 < (ns.length : Int) then (8 : Int) else (ns.length : Int)) ≤ 8
    split <;> omega
  have e1 : fMin2 [.int (ns.length : Int), .int 8] = some (.int m) := rfl
  let n : Int := if m > 3 then m else 3
  have n1 : 0 ≤ n ∧ n ≤ 8 := by
    show 0 ≤ (if m > 3 then m else 3) ∧ (if m > 3 then m else 3) ≤ 8
    split <;> omega
  have e2 : fMax2 [.int 3, .int m] = some (.int n) := rfl
  have e3 := key n n1.1 n1.2
  refine ⟨n.toNat, by omega, ?_⟩
  simp only [ap_v, ap_c, ap_2, ap_A, ap_nil, ap_cons, ap_lst, ap_tup, ap_B, ap_call, ap_callN, ap_callO, ap_T, ap_isT, ap_not, ap_neg, ap_and, ap_or, ap_if, ap_ch, ap_seq, ap_snil, ap_sif, ap_ret, ap_retN, ap_asg, ap_exp, ap_tgt, ap_app, ap_rev, ap_set, ap_aug, ap_for, ap_forM, ap_rng1, ap_rng2, ap_mseq, ap_enum, ap_lc, ap_yes, ap_gnm, ap_gtp, ap_gnil, ap_gcons, ap_fM, ap_on, ap_oc, r_add, r_sub, r_mul, r_div, r_mod, r_pow, r_lt, r_le, r_gt, r_ge, r_eqI, r_eqS, r_neI, r_neS, r_ixL, r_ixT, r_ixR, r_ipL, r_ipT, r_len, r_lenT, r_lenR, r_abs, r_max, r_min, a_int, a_bl, a_str, a_non, t_bl, List.map_cons, List.map_nil, List.length_cons, List.length_nil, List.replicate, List.cons_append, List.nil_append, List.getElem?_cons_zero, List.getElem?_cons_succ, List.set_cons_zero, List.set_cons_succ, List.getElem?_nil, Nat.reduceSub, Nat.reduceAdd, Nat.reduceEqDiff, decide_true, decide_false, ap_mk, ap_mut, ap_swap, ap_putI, ap_ev2, ap_keys, ap_mD, ap_put, ap_get2, ap_disp, ap_dsN, ap_dsC, ap_srtD, ap_sl, ap_oS, ap_oN, r_catI, r_mkL, r_mkLT, r_mkT, ap_gtpL, e1, e2, e3]
theorem rngD_at {n i : Nat} {d : D} (ed : (rngD 0 n)[i]? = some d) : d = .int (i : Nat) := by
  have hi : i < n := by have := (List.getElem?_eq_some_iff.mp ed).1; simpa [rngD] using this
  unfold rngD at ed
  rw [List.getElem?_map, List.getElem?_range hi] at ed
  cases ed
  show D.int _ = D.int _
  rw [Int.zero_add]
theorem law_pieces_ok {ls : List D} (h : OkL 0 ls 0) (hl : ls.length < 2000) (h4 : (endsF [] 0 ls).length ≤ 4) : ∃ e, F__law_pieces [.lst ls] = some (.lst ((pls (endsF [] 0 ls)).map D.int), e) := by
  obtain ⟨e1, e2⟩ := rows_ok h hl
  have G := ends_good h
  have tp := top_ok h
  have fr := filt_rows (allR ls)
  have am := allR_many ls
  obtain ⟨L2, y4, y5, y7, y8, IL, lp⟩ := lab_loop G (by omega) (some (.lst ls)) none none none (allR ls) ls 0 0 0 [] 0 [] (fun x => x / 2) none none none none h rfl rfl (by simp) (Lb.init G)
  rw [← enum_en] at lp
  have pe := pls_eq G
  generalize endsF [] 0 ls = es at *
  generalize hMs : ((allR ls).filter fun q => decide (q ≠ [])).map (fun q => 1 + mx q) = Ms at *
  have ml : Ms.length ≤ ls.length + 1 := by
    rw [← hMs, List.length_map, ← am]
    exact List.length_filter_le ..
  generalize hRW : (allR ls).map row = RW at *
  let S : DE := [some (.lst ls), some (.lst RW), none, none, none, none, none, none, none, none]
  obtain ⟨ρ1, c1, _⟩ := cpL_filter (vs := [9]) (mg := gNm 9) (mc := m2 dNe (mV 9) (mLst mNil)) (me := m2 dAdd (mC (.int 1)) (mB fMax1 (mCons (mV 9) mNil))) (ρ := S) pR fR RW
    (fun d hd => by
      rw [← hRW] at hd
      obtain ⟨q, hq, rfl⟩ := List.mem_map.mp hd
      have ql := allR_len h hl q hq
      have n1 := ne_nil q (by omega)
      refine ⟨[some (.lst ls), some (.lst RW), none, none, none, none, none, none, none, some (row q)], rfl, rfl, ?_, fun hp => ⟨[some (.lst ls), some (.lst RW), none, none, none, none, none, none, none, some (row q)], ?_, rfl⟩⟩
      · have e : pR (row q) = !decide (q = []) := by cases q <;> rfl
        rw [e]
        have n1' : dNe (row q) (.lst []) = some (.bl (!decide (q = []))) := n1
        simp only [ap_v, ap_c, ap_2, ap_A, ap_nil, ap_cons, ap_lst, ap_tup, ap_B, ap_call, ap_callN, ap_callO, ap_T, ap_isT, ap_not, ap_neg, ap_and, ap_or, ap_if, ap_ch, ap_seq, ap_snil, ap_sif, ap_ret, ap_retN, ap_asg, ap_exp, ap_tgt, ap_app, ap_rev, ap_set, ap_aug, ap_for, ap_forM, ap_rng1, ap_rng2, ap_mseq, ap_enum, ap_lc, ap_yes, ap_gnm, ap_gtp, ap_gnil, ap_gcons, ap_fM, ap_on, ap_oc, r_add, r_sub, r_mul, r_div, r_mod, r_pow, r_lt, r_le, r_gt, r_ge, r_eqI, r_eqS, r_neI, r_neS, r_ixL, r_ixT, r_ixR, r_ipL, r_ipT, r_len, r_lenT, r_lenR, r_abs, r_max, r_min, a_int, a_bl, a_str, a_non, t_bl, List.map_cons, List.map_nil, List.length_cons, List.length_nil, List.replicate, List.cons_append, List.nil_append, List.getElem?_cons_zero, List.getElem?_cons_succ, List.set_cons_zero, List.set_cons_succ, List.getElem?_nil, Nat.reduceSub, Nat.reduceAdd, Nat.reduceEqDiff, decide_true, decide_false, ap_mk, ap_mut, ap_swap, ap_putI, ap_ev2, ap_keys, ap_mD, ap_put, ap_get2, ap_disp, ap_dsN, ap_dsC, ap_srtD, ap_sl, ap_oS, ap_oN, r_catI, r_mkL, r_mkLT, r_mkT, ap_gtpL, n1', show (0 : Nat) ≤ 16777216 from by omega, if_true]
      · cases q with
        | nil => cases hp
        | cons n ns =>
          have mr := max_row n ns
          have f : fR (row (n :: ns)) = .int (1 + mxI n ns) := by
            show fR (.lst ((n :: ns).map D.int)) = _
            unfold fR
            simp only [mr]
          rw [f]
          have mr' : fMax1 [row (n :: ns)] = some (.int (mxI n ns)) := mr
          simp only [ap_2, ap_c, ap_B, ap_cons, ap_nil, ap_v, List.getElem?_cons_zero, List.getElem?_cons_succ, mr', r_add]) S rfl
  rw [fr] at c1
  have zM : (Ms.map D.int).length ≤ 16777216 := by rw [List.length_map]; omega
  have ct := r_cat (xs := [.int 0]) (ys := Ms.map D.int) (by simp; omega)
  have e3 : [D.int 0] ++ Ms.map D.int = ((0 : Int) :: Ms).map D.int := rfl
  rw [e3] at ct
  have mr := max_row 0 Ms
  rw [tp] at mr
  have nn2 : (2 * (es.length : Int)) = ((2 * es.length : Nat) : Int) := by omega
  rw [nn2] at mr
  have lim : lim62 ((2 * es.length : Nat) : Int) = true := lim62_of (by omega) (by omega)
  have inner : mRng1 (mCons (mB fMax1 (mCons (m2 dCat (mLst (mCons (mC (.int 0)) mNil)) (mLc (true && (true && true)) [9] (mSeq (mV 1)) (gNm 9) (m2 dNe (mV 9) (mLst mNil)) (m2 dAdd (mC (.int 1)) (mB fMax1 (mCons (mV 9) mNil))))) mNil)) mNil) S = some (rngD 0 (2 * es.length), S) := by
    have q1 : mLc (true && (true && true)) [9] (mSeq (mV 1)) (gNm 9) (m2 dNe (mV 9) (mLst mNil)) (m2 dAdd (mC (.int 1)) (mB fMax1 (mCons (mV 9) mNil))) S = some (.lst (Ms.map D.int), S) := by
      rw [ap_lc, ap_mseq, ap_v]
      simp only [S, List.getElem?_cons_zero, List.getElem?_cons_succ] at c1 ⊢
      simp only [c1, zM, if_true, Bool.and_self]
    have q2 : m2 dCat (mLst (mCons (mC (.int 0)) mNil)) (mLc (true && (true && true)) [9] (mSeq (mV 1)) (gNm 9) (m2 dNe (mV 9) (mLst mNil)) (m2 dAdd (mC (.int 1)) (mB fMax1 (mCons (mV 9) mNil)))) S = some (.lst (((0 : Int) :: Ms).map D.int), S) := by
      rw [ap_2, l0F]
      simp only [q1, ct]
    rw [ap_rng1, ap_cons, ap_B, ap_cons, q2]
    simp only [ap_nil, mr, lim, Int.toNat_natCast]
  obtain ⟨ρ2, c2, _⟩ := cpL_map (vs := [6]) (mg := gNm 6) (mc := mYes) (me := m2 dDiv (mV 6) (mC (.int 2))) (ρ := S) (fun d => match d with | .int x => .int (x / 2) | d => d) (rngD 0 (2 * es.length))
    (fun d hd => by
      rw [rngD_irg] at hd
      obtain ⟨x, _, rfl⟩ := List.mem_map.mp hd
      refine ⟨[some (.lst ls), some (.lst RW), none, none, none, none, some (.int x), none, none, none], rfl, rfl, [some (.lst ls), some (.lst RW), none, none, none, none, some (.int x), none, none, none], ?_, rfl⟩
      simp only [ap_v, ap_c, ap_2, ap_A, ap_nil, ap_cons, ap_lst, ap_tup, ap_B, ap_call, ap_callN, ap_callO, ap_T, ap_isT, ap_not, ap_neg, ap_and, ap_or, ap_if, ap_ch, ap_seq, ap_snil, ap_sif, ap_ret, ap_retN, ap_asg, ap_exp, ap_tgt, ap_app, ap_rev, ap_set, ap_aug, ap_for, ap_forM, ap_rng1, ap_rng2, ap_mseq, ap_enum, ap_lc, ap_yes, ap_gnm, ap_gtp, ap_gnil, ap_gcons, ap_fM, ap_on, ap_oc, r_add, r_sub, r_mul, r_div, r_mod, r_pow, r_lt, r_le, r_gt, r_ge, r_eqI, r_eqS, r_neI, r_neS, r_ixL, r_ixT, r_ixR, r_ipL, r_ipT, r_len, r_lenT, r_lenR, r_abs, r_max, r_min, a_int, a_bl, a_str, a_non, t_bl, List.map_cons, List.map_nil, List.length_cons, List.length_nil, List.replicate, List.cons_append, List.nil_append, List.getElem?_cons_zero, List.getElem?_cons_succ, List.set_cons_zero, List.set_cons_succ, List.getElem?_nil, Nat.reduceSub, Nat.reduceAdd, Nat.reduceEqDiff, decide_true, decide_false, ap_mk, ap_mut, ap_swap, ap_putI, ap_ev2, ap_keys, ap_mD, ap_put, ap_get2, ap_disp, ap_dsN, ap_dsC, ap_srtD, ap_sl, ap_oS, ap_oN, r_catI, r_mkL, r_mkLT, r_mkT, ap_gtpL, show (0 : Int) < 2 from by omega, show (2 : Int) < 1073741824 from by omega]) S rfl
  have e4 : (rngD 0 (2 * es.length)).map (fun d => match d with | .int x => D.int (x / 2) | d => d) = ((irg 0 (2 * es.length)).map fun x => x / 2).map D.int := by
    rw [rngD_irg, List.map_map, List.map_map]
    rfl
  rw [e4] at c2
  have zf : (((irg 0 (2 * es.length)).map fun x => x / 2).map D.int).length ≤ 16777216 := by simp [irg_len]; omega
  have os : srtU ((irg 0 (2 * es.length)).map L2) = (sts es).map L2 := IL.order G
  have hN : ((irg 0 (2 * es.length)).map L2).length < 64 := by rw [List.length_map, irg_len]; omega
  let T : DE := [some (.lst ls), some (.lst RW), some (.lst (((irg 0 (2 * es.length)).map L2).map D.int)), some (.lst (((sts es).map L2).map D.int)), y4, y5, none, y7, y8, none]
  let fI : D → D := fun d => match d with
    | .int o => (dIdx (.lst (((sts es).map L2).map D.int)) (.int o)).getD .non
    | d => d
  obtain ⟨ρ3, c3, _⟩ := cpL_map (vs := [8]) (mg := gNm 8) (mc := mYes) (me := m2 dIdx (mV 3) (mV 8)) (ρ := T) fI (((irg 0 (2 * es.length)).map L2).map D.int)
    (fun d hd => by
      obtain ⟨o, ho, rfl⟩ := List.mem_map.mp hd
      obtain ⟨x, hx, rfl⟩ := List.mem_map.mp ho
      have ix := IL.idx G (G.perm.mem_iff.mpr hx)
      have f : fI (.int (L2 x)) = .int (pc es x) := by
        show (dIdx (.lst (((sts es).map L2).map D.int)) (.int (L2 x))).getD .non = _
        rw [ix]
        rfl
      rw [f]
      refine ⟨[some (.lst ls), some (.lst RW), some (.lst (((irg 0 (2 * es.length)).map L2).map D.int)), some (.lst (((sts es).map L2).map D.int)), y4, y5, none, y7, some (.int (L2 x)), none], rfl, rfl, [some (.lst ls), some (.lst RW), some (.lst (((irg 0 (2 * es.length)).map L2).map D.int)), some (.lst (((sts es).map L2).map D.int)), y4, y5, none, y7, some (.int (L2 x)), none], ?_, rfl⟩
      simp only [ap_2, ap_v, List.getElem?_cons_zero, List.getElem?_cons_succ, ix]) T rfl
  have e5 : (((irg 0 (2 * es.length)).map L2).map D.int).map fI = (pls es).map D.int := by
    rw [pe, List.map_map, List.map_map, List.map_map]
    refine List.map_congr_left fun x hx => ?_
    have ix := IL.idx G (G.perm.mem_iff.mpr hx)
    show (dIdx (.lst (((sts es).map L2).map D.int)) (.int (L2 x))).getD .non = _
    rw [ix]
    rfl
  rw [e5] at c3
  have zp : ((pls es).map D.int).length ≤ 16777216 := by rw [pe]; simp [irg_len]; omega
  have em : m__law_pieces [some (.lst ls), none, none, none, none, none, none, none, none, none] = some (.rt (.lst ((pls es).map D.int)) T) := by
    refine st_seq (ρ1 := S) (by simp only [ap_v, ap_c, ap_2, ap_A, ap_nil, ap_cons, ap_lst, ap_tup, ap_B, ap_call, ap_callN, ap_callO, ap_T, ap_isT, ap_not, ap_neg, ap_and, ap_or, ap_if, ap_ch, ap_seq, ap_snil, ap_sif, ap_ret, ap_retN, ap_asg, ap_exp, ap_tgt, ap_app, ap_rev, ap_set, ap_aug, ap_for, ap_forM, ap_rng1, ap_rng2, ap_mseq, ap_enum, ap_lc, ap_yes, ap_gnm, ap_gtp, ap_gnil, ap_gcons, ap_fM, ap_on, ap_oc, r_add, r_sub, r_mul, r_div, r_mod, r_pow, r_lt, r_le, r_gt, r_ge, r_eqI, r_eqS, r_neI, r_neS, r_ixL, r_ixT, r_ixR, r_ipL, r_ipT, r_len, r_lenT, r_lenR, r_abs, r_max, r_min, a_int, a_bl, a_str, a_non, t_bl, List.map_cons, List.map_nil, List.length_cons, List.length_nil, List.replicate, List.cons_append, List.nil_append, List.getElem?_cons_zero, List.getElem?_cons_succ, List.set_cons_zero, List.set_cons_succ, List.getElem?_nil, Nat.reduceSub, Nat.reduceAdd, Nat.reduceEqDiff, decide_true, decide_false, ap_mk, ap_mut, ap_swap, ap_putI, ap_ev2, ap_keys, ap_mD, ap_put, ap_get2, ap_disp, ap_dsN, ap_dsC, ap_srtD, ap_sl, ap_oS, ap_oN, r_catI, r_mkL, r_mkLT, r_mkT, ap_gtpL, e2]; rfl) ?_
    refine st_seq (ρ1 := [some (.lst ls), some (.lst RW), some (.lst (((irg 0 (2 * es.length)).map fun x => x / 2).map D.int)), none, none, none, none, none, none, none]) ?_ ?_
    · rw [ap_asg, ap_lc, inner]
      simp only [c2, zf, if_true, Bool.and_self]
      rfl
    refine st_seq (ρ1 := [some (.lst ls), some (.lst RW), some (.lst (((irg 0 (2 * es.length)).map L2).map D.int)), none, y4, y5, none, y7, y8, none]) (by rw [ap_for, ap_enum]; simp only [ap_v, ap_c, ap_2, ap_A, ap_nil, ap_cons, ap_lst, ap_tup, ap_B, ap_call, ap_callN, ap_callO, ap_T, ap_isT, ap_not, ap_neg, ap_and, ap_or, ap_if, ap_ch, ap_seq, ap_snil, ap_sif, ap_ret, ap_retN, ap_asg, ap_exp, ap_tgt, ap_app, ap_rev, ap_set, ap_aug, ap_for, ap_forM, ap_rng1, ap_rng2, ap_mseq, ap_enum, ap_lc, ap_yes, ap_gnm, ap_gtp, ap_gnil, ap_gcons, ap_fM, ap_on, ap_oc, r_add, r_sub, r_mul, r_div, r_mod, r_pow, r_lt, r_le, r_gt, r_ge, r_eqI, r_eqS, r_neI, r_neS, r_ixL, r_ixT, r_ixR, r_ipL, r_ipT, r_len, r_lenT, r_lenR, r_abs, r_max, r_min, a_int, a_bl, a_str, a_non, t_bl, List.map_cons, List.map_nil, List.length_cons, List.length_nil, List.replicate, List.cons_append, List.nil_append, List.getElem?_cons_zero, List.getElem?_cons_succ, List.set_cons_zero, List.set_cons_succ, List.getElem?_nil, Nat.reduceSub, Nat.reduceAdd, Nat.reduceEqDiff, decide_true, decide_false, ap_mk, ap_mut, ap_swap, ap_putI, ap_ev2, ap_keys, ap_mD, ap_put, ap_get2, ap_disp, ap_dsN, ap_dsC, ap_srtD, ap_sl, ap_oS, ap_oN, r_catI, r_mkL, r_mkLT, r_mkT, ap_gtpL]; exact lp) ?_
    refine st_seq (ρ1 := T) ?_ ?_
    · rw [ap_asg, ap_srtS, ap_v]
      simp only [List.getElem?_cons_zero, List.getElem?_cons_succ, ints_of, hN, if_true, os]
      rfl
    rw [ap_ret, ap_lc, ap_mseq, ap_v]
    simp only [T, List.getElem?_cons_zero, List.getElem?_cons_succ] at c3 ⊢
    simp only [c3, zp, if_true, Bool.and_self]
  exact ⟨[.lst ls], by simp only [F__law_pieces, sg__law_pieces, ap_v, ap_c, ap_2, ap_A, ap_nil, ap_cons, ap_lst, ap_tup, ap_B, ap_call, ap_callN, ap_callO, ap_T, ap_isT, ap_not, ap_neg, ap_and, ap_or, ap_if, ap_ch, ap_seq, ap_snil, ap_sif, ap_ret, ap_retN, ap_asg, ap_exp, ap_tgt, ap_app, ap_rev, ap_set, ap_aug, ap_for, ap_forM, ap_rng1, ap_rng2, ap_mseq, ap_enum, ap_lc, ap_yes, ap_gnm, ap_gtp, ap_gnil, ap_gcons, ap_fM, ap_on, ap_oc, r_add, r_sub, r_mul, r_div, r_mod, r_pow, r_lt, r_le, r_gt, r_ge, r_eqI, r_eqS, r_neI, r_neS, r_ixL, r_ixT, r_ixR, r_ipL, r_ipT, r_len, r_lenT, r_lenR, r_abs, r_max, r_min, a_int, a_bl, a_str, a_non, t_bl, List.map_cons, List.map_nil, List.length_cons, List.length_nil, List.replicate, List.cons_append, List.nil_append, List.getElem?_cons_zero, List.getElem?_cons_succ, List.set_cons_zero, List.set_cons_succ, List.getElem?_nil, Nat.reduceSub, Nat.reduceAdd, Nat.reduceEqDiff, decide_true, decide_false, ap_mk, ap_mut, ap_swap, ap_putI, ap_ev2, ap_keys, ap_mD, ap_put, ap_get2, ap_disp, ap_dsN, ap_dsC, ap_srtD, ap_sl, ap_oS, ap_oN, r_catI, r_mkL, r_mkLT, r_mkT, ap_gtpL, em, T]⟩
theorem right_ok {ls : List D} (h : OkL 0 ls 0) (hl : ls.length < 2000) (h4 : (endsF [] 0 ls).length ≤ 4) : F__law_right [.lst ls] = some (.bl true, [.lst ls]) := by
  obtain ⟨e1, e2⟩ := law_pieces_ok h hl h4
  obtain ⟨e3, e4⟩ := pieces_ok h hl
  have G := ends_good h
  have pe := pls_eq G
  have n2 : dNe (.lst ls) (.lst ls) = some (.bl false) := ne_same (dep_let h.shape)
  generalize endsF [] 0 ls = es at *
  have pl : (pls es).length ≤ 8 := by rw [pe, List.length_map, irg_len]; omega
  generalize pls es = ps at *
  have n1 : dNe (.lst (ps.map D.int)) (.lst (ps.map D.int)) = some (.bl false) := ne_same (dep_nums _)
  have ny := numbers_yes ps (by omega)
  have z : (ps.map D.int).length < 16777216 := by rw [List.length_map]; omega
  have lim : lim62 2 = true := by decide
  let Y : Option D := some (.lst (ps.map D.int ++ [D.int 0]).reverse)
  have st : ∀ (x : D) (e : Option D), b__law_right_0 [some (.lst ls), some (.lst (ps.map D.int)), some (.lst ls), some x, e] = some (.nx [some (.lst ls), some (.lst (ps.map D.int)), some (.lst ls), some x, Y]) := fun x e => by
    simp only [b__law_right_0, ap_v, ap_c, ap_2, ap_A, ap_nil, ap_cons, ap_lst, ap_tup, ap_B, ap_call, ap_callN, ap_callO, ap_T, ap_isT, ap_not, ap_neg, ap_and, ap_or, ap_if, ap_ch, ap_seq, ap_snil, ap_sif, ap_ret, ap_retN, ap_asg, ap_exp, ap_tgt, ap_app, ap_rev, ap_set, ap_aug, ap_for, ap_forM, ap_rng1, ap_rng2, ap_mseq, ap_enum, ap_lc, ap_yes, ap_gnm, ap_gtp, ap_gnil, ap_gcons, ap_fM, ap_on, ap_oc, r_add, r_sub, r_mul, r_div, r_mod, r_pow, r_lt, r_le, r_gt, r_ge, r_eqI, r_eqS, r_neI, r_neS, r_ixL, r_ixT, r_ixR, r_ipL, r_ipT, r_len, r_lenT, r_lenR, r_abs, r_max, r_min, a_int, a_bl, a_str, a_non, t_bl, List.map_cons, List.map_nil, List.length_cons, List.length_nil, List.replicate, List.cons_append, List.nil_append, List.getElem?_cons_zero, List.getElem?_cons_succ, List.set_cons_zero, List.set_cons_succ, List.getElem?_nil, Nat.reduceSub, Nat.reduceAdd, Nat.reduceEqDiff, decide_true, decide_false, ap_mk, ap_mut, ap_swap, ap_putI, ap_ev2, ap_keys, ap_mD, ap_put, ap_get2, ap_disp, ap_dsN, ap_dsC, ap_srtD, ap_sl, ap_oS, ap_oN, r_catI, r_mkL, r_mkLT, r_mkT, ap_gtpL, e4, n1, n2, ny, z, if_true, Bool.not_true, Y]
  have e9 : itF (gNm 3) b__law_right_0 (rngD 0 2) [some (.lst ls), some (.lst (ps.map D.int)), some (.lst ls), none, none] = some (.nx [some (.lst ls), some (.lst (ps.map D.int)), some (.lst ls), some (.int 1), Y]) := by
    show itF (gNm 3) b__law_right_0 [.int 0, .int 1] _ = _
    simp only [itF, ap_gnm, Option.bind_some, List.set_cons_zero, List.set_cons_succ, st]
  have em : m__law_right [some (.lst ls), none, none, none, none] = some (.rt (.bl true) [some (.lst ls), some (.lst (ps.map D.int)), some (.lst ls), some (.int 1), Y]) := by
    refine st_seq (ρ1 := [some (.lst ls), some (.lst (ps.map D.int)), none, none, none]) (by simp only [ap_v, ap_c, ap_2, ap_A, ap_nil, ap_cons, ap_lst, ap_tup, ap_B, ap_call, ap_callN, ap_callO, ap_T, ap_isT, ap_not, ap_neg, ap_and, ap_or, ap_if, ap_ch, ap_seq, ap_snil, ap_sif, ap_ret, ap_retN, ap_asg, ap_exp, ap_tgt, ap_app, ap_rev, ap_set, ap_aug, ap_for, ap_forM, ap_rng1, ap_rng2, ap_mseq, ap_enum, ap_lc, ap_yes, ap_gnm, ap_gtp, ap_gnil, ap_gcons, ap_fM, ap_on, ap_oc, r_add, r_sub, r_mul, r_div, r_mod, r_pow, r_lt, r_le, r_gt, r_ge, r_eqI, r_eqS, r_neI, r_neS, r_ixL, r_ixT, r_ixR, r_ipL, r_ipT, r_len, r_lenT, r_lenR, r_abs, r_max, r_min, a_int, a_bl, a_str, a_non, t_bl, List.map_cons, List.map_nil, List.length_cons, List.length_nil, List.replicate, List.cons_append, List.nil_append, List.getElem?_cons_zero, List.getElem?_cons_succ, List.set_cons_zero, List.set_cons_succ, List.getElem?_nil, Nat.reduceSub, Nat.reduceAdd, Nat.reduceEqDiff, decide_true, decide_false, ap_mk, ap_mut, ap_swap, ap_putI, ap_ev2, ap_keys, ap_mD, ap_put, ap_get2, ap_disp, ap_dsN, ap_dsC, ap_srtD, ap_sl, ap_oS, ap_oN, r_catI, r_mkL, r_mkLT, r_mkT, ap_gtpL, e2]) ?_
    refine st_seq (ρ1 := [some (.lst ls), some (.lst (ps.map D.int)), some (.lst ls), none, none]) (by simp only [ap_v, ap_c, ap_2, ap_A, ap_nil, ap_cons, ap_lst, ap_tup, ap_B, ap_call, ap_callN, ap_callO, ap_T, ap_isT, ap_not, ap_neg, ap_and, ap_or, ap_if, ap_ch, ap_seq, ap_snil, ap_sif, ap_ret, ap_retN, ap_asg, ap_exp, ap_tgt, ap_app, ap_rev, ap_set, ap_aug, ap_for, ap_forM, ap_rng1, ap_rng2, ap_mseq, ap_enum, ap_lc, ap_yes, ap_gnm, ap_gtp, ap_gnil, ap_gcons, ap_fM, ap_on, ap_oc, r_add, r_sub, r_mul, r_div, r_mod, r_pow, r_lt, r_le, r_gt, r_ge, r_eqI, r_eqS, r_neI, r_neS, r_ixL, r_ixT, r_ixR, r_ipL, r_ipT, r_len, r_lenT, r_lenR, r_abs, r_max, r_min, a_int, a_bl, a_str, a_non, t_bl, List.map_cons, List.map_nil, List.length_cons, List.length_nil, List.replicate, List.cons_append, List.nil_append, List.getElem?_cons_zero, List.getElem?_cons_succ, List.set_cons_zero, List.set_cons_succ, List.getElem?_nil, Nat.reduceSub, Nat.reduceAdd, Nat.reduceEqDiff, decide_true, decide_false, ap_mk, ap_mut, ap_swap, ap_putI, ap_ev2, ap_keys, ap_mD, ap_put, ap_get2, ap_disp, ap_dsN, ap_dsC, ap_srtD, ap_sl, ap_oS, ap_oN, r_catI, r_mkL, r_mkLT, r_mkT, ap_gtpL]) ?_
    refine st_seq (ρ1 := [some (.lst ls), some (.lst (ps.map D.int)), some (.lst ls), some (.int 1), Y]) (by simp only [ap_v, ap_c, ap_2, ap_A, ap_nil, ap_cons, ap_lst, ap_tup, ap_B, ap_call, ap_callN, ap_callO, ap_T, ap_isT, ap_not, ap_neg, ap_and, ap_or, ap_if, ap_ch, ap_seq, ap_snil, ap_sif, ap_ret, ap_retN, ap_asg, ap_exp, ap_tgt, ap_app, ap_rev, ap_set, ap_aug, ap_for, ap_forM, ap_rng1, ap_rng2, ap_mseq, ap_enum, ap_lc, ap_yes, ap_gnm, ap_gtp, ap_gnil, ap_gcons, ap_fM, ap_on, ap_oc, r_add, r_sub, r_mul, r_div, r_mod, r_pow, r_lt, r_le, r_gt, r_ge, r_eqI, r_eqS, r_neI, r_neS, r_ixL, r_ixT, r_ixR, r_ipL, r_ipT, r_len, r_lenT, r_lenR, r_abs, r_max, r_min, a_int, a_bl, a_str, a_non, t_bl, List.map_cons, List.map_nil, List.length_cons, List.length_nil, List.replicate, List.cons_append, List.nil_append, List.getElem?_cons_zero, List.getElem?_cons_succ, List.set_cons_zero, List.set_cons_succ, List.getElem?_nil, Nat.reduceSub, Nat.reduceAdd, Nat.reduceEqDiff, decide_true, decide_false, ap_mk, ap_mut, ap_swap, ap_putI, ap_ev2, ap_keys, ap_mD, ap_put, ap_get2, ap_disp, ap_dsN, ap_dsC, ap_srtD, ap_sl, ap_oS, ap_oN, r_catI, r_mkL, r_mkLT, r_mkT, ap_gtpL, lim, show (2 : Int).toNat = 2 from rfl, e9]) ?_
    simp only [ap_v, ap_c, ap_2, ap_A, ap_nil, ap_cons, ap_lst, ap_tup, ap_B, ap_call, ap_callN, ap_callO, ap_T, ap_isT, ap_not, ap_neg, ap_and, ap_or, ap_if, ap_ch, ap_seq, ap_snil, ap_sif, ap_ret, ap_retN, ap_asg, ap_exp, ap_tgt, ap_app, ap_rev, ap_set, ap_aug, ap_for, ap_forM, ap_rng1, ap_rng2, ap_mseq, ap_enum, ap_lc, ap_yes, ap_gnm, ap_gtp, ap_gnil, ap_gcons, ap_fM, ap_on, ap_oc, r_add, r_sub, r_mul, r_div, r_mod, r_pow, r_lt, r_le, r_gt, r_ge, r_eqI, r_eqS, r_neI, r_neS, r_ixL, r_ixT, r_ixR, r_ipL, r_ipT, r_len, r_lenT, r_lenR, r_abs, r_max, r_min, a_int, a_bl, a_str, a_non, t_bl, List.map_cons, List.map_nil, List.length_cons, List.length_nil, List.replicate, List.cons_append, List.nil_append, List.getElem?_cons_zero, List.getElem?_cons_succ, List.set_cons_zero, List.set_cons_succ, List.getElem?_nil, Nat.reduceSub, Nat.reduceAdd, Nat.reduceEqDiff, decide_true, decide_false, ap_mk, ap_mut, ap_swap, ap_putI, ap_ev2, ap_keys, ap_mD, ap_put, ap_get2, ap_disp, ap_dsN, ap_dsC, ap_srtD, ap_sl, ap_oS, ap_oN, r_catI, r_mkL, r_mkLT, r_mkT, ap_gtpL]
  simp only [F__law_right, sg__law_right, ap_v, ap_c, ap_2, ap_A, ap_nil, ap_cons, ap_lst, ap_tup, ap_B, ap_call, ap_callN, ap_callO, ap_T, ap_isT, ap_not, ap_neg, ap_and, ap_or, ap_if, ap_ch, ap_seq, ap_snil, ap_sif, ap_ret, ap_retN, ap_asg, ap_exp, ap_tgt, ap_app, ap_rev, ap_set, ap_aug, ap_for, ap_forM, ap_rng1, ap_rng2, ap_mseq, ap_enum, ap_lc, ap_yes, ap_gnm, ap_gtp, ap_gnil, ap_gcons, ap_fM, ap_on, ap_oc, r_add, r_sub, r_mul, r_div, r_mod, r_pow, r_lt, r_le, r_gt, r_ge, r_eqI, r_eqS, r_neI, r_neS, r_ixL, r_ixT, r_ixR, r_ipL, r_ipT, r_len, r_lenT, r_lenR, r_abs, r_max, r_min, a_int, a_bl, a_str, a_non, t_bl, List.map_cons, List.map_nil, List.length_cons, List.length_nil, List.replicate, List.cons_append, List.nil_append, List.getElem?_cons_zero, List.getElem?_cons_succ, List.set_cons_zero, List.set_cons_succ, List.getElem?_nil, Nat.reduceSub, Nat.reduceAdd, Nat.reduceEqDiff, decide_true, decide_false, ap_mk, ap_mut, ap_swap, ap_putI, ap_ev2, ap_keys, ap_mD, ap_put, ap_get2, ap_disp, ap_dsN, ap_dsC, ap_srtD, ap_sl, ap_oS, ap_oN, r_catI, r_mkL, r_mkLT, r_mkT, ap_gtpL, em]
def R1 (ns : List Int) (ρ : DE) : Prop := ∃ a, ρ = [some (.rol ns), a]
theorem law_step (ns : List Int) (i : Nat) (hi : i < 1000) : ∃ ρ2, b_law_0 [some (.rol ns), some (.int (i : Nat))] = some (.nx ρ2) ∧ R1 ns ρ2 := by
  obtain ⟨g, s, e1, s0, s1⟩ := bag_ok ns i hi
  obtain ⟨ls, bg, e2, hb, ⟨f0, f1, f2⟩, hl⟩ := any_ok (bg := .lst [.int g, .int s]) ⟨g, s, rfl, s0, s1⟩ 12 (by omega) (by omega)
  have ho := fo_okl f0
  have bc := born_cnt ho
  have b4 : (endsF [] 0 ls).length ≤ 4 := by
    unfold cw at f1
    omega
  have e3 := right_ok ho (by omega) b4
  exact ⟨[some (.rol ns), some (.int (i : Nat))], by simp only [b_law_0, ap_v, ap_c, ap_2, ap_A, ap_nil, ap_cons, ap_lst, ap_tup, ap_B, ap_call, ap_callN, ap_callO, ap_T, ap_isT, ap_not, ap_neg, ap_and, ap_or, ap_if, ap_ch, ap_seq, ap_snil, ap_sif, ap_ret, ap_retN, ap_asg, ap_exp, ap_tgt, ap_app, ap_rev, ap_set, ap_aug, ap_for, ap_forM, ap_rng1, ap_rng2, ap_mseq, ap_enum, ap_lc, ap_yes, ap_gnm, ap_gtp, ap_gnil, ap_gcons, ap_fM, ap_on, ap_oc, r_add, r_sub, r_mul, r_div, r_mod, r_pow, r_lt, r_le, r_gt, r_ge, r_eqI, r_eqS, r_neI, r_neS, r_ixL, r_ixT, r_ixR, r_ipL, r_ipT, r_len, r_lenT, r_lenR, r_abs, r_max, r_min, a_int, a_bl, a_str, a_non, t_bl, List.map_cons, List.map_nil, List.length_cons, List.length_nil, List.replicate, List.cons_append, List.nil_append, List.getElem?_cons_zero, List.getElem?_cons_succ, List.set_cons_zero, List.set_cons_succ, List.getElem?_nil, Nat.reduceSub, Nat.reduceAdd, Nat.reduceEqDiff, decide_true, decide_false, ap_mk, ap_mut, ap_swap, ap_putI, ap_ev2, ap_keys, ap_mD, ap_put, ap_get2, ap_disp, ap_dsN, ap_dsC, ap_srtD, ap_sl, ap_oS, ap_oN, r_catI, r_mkL, r_mkLT, r_mkT, ap_gtpL, e1, e2, e3, Bool.not_true], _, rfl⟩
theorem law_eq (ns : List Int) (h : ns.length ≤ 63) : ∃ e, F_law [.rol ns] = some (.bl true, [e]) := by
  obtain ⟨n, hn, er⟩ := rng_ok ns [none]
  obtain ⟨ρ', e1, a, rfl⟩ := itF_inv (mg := gNm 1) (mb := b_law_0) (fun _ => R1 ns) (rngD 0 n) 0 [some (.rol ns), none] (fun i d ed ρ hi => by
    obtain ⟨a, rfl⟩ := hi
    have hi : i < n := by have := (List.getElem?_eq_some_iff.mp ed).1; simpa [rngD] using this
    have hd := rngD_at ed
    subst hd
    obtain ⟨ρ2, s1, s2⟩ := law_step ns i (by omega)
    exact ⟨_, ρ2, rfl, s1, s2⟩) ⟨_, rfl⟩
  have e3 := right_ok (ls := []) rfl (by simp) (by simp [endsF])
  refine ⟨.rol ns, ?_⟩
  have em : m_law [some (.rol ns), none] = some (.rt (.bl true) [some (.rol ns), a]) := by
    unfold m_law
    rw [ap_seq, ap_for, er]
    simp only []
    rw [e1]
    simp only [ap_v, ap_c, ap_2, ap_A, ap_nil, ap_cons, ap_lst, ap_tup, ap_B, ap_call, ap_callN, ap_callO, ap_T, ap_isT, ap_not, ap_neg, ap_and, ap_or, ap_if, ap_ch, ap_seq, ap_snil, ap_sif, ap_ret, ap_retN, ap_asg, ap_exp, ap_tgt, ap_app, ap_rev, ap_set, ap_aug, ap_for, ap_forM, ap_rng1, ap_rng2, ap_mseq, ap_enum, ap_lc, ap_yes, ap_gnm, ap_gtp, ap_gnil, ap_gcons, ap_fM, ap_on, ap_oc, r_add, r_sub, r_mul, r_div, r_mod, r_pow, r_lt, r_le, r_gt, r_ge, r_eqI, r_eqS, r_neI, r_neS, r_ixL, r_ixT, r_ixR, r_ipL, r_ipT, r_len, r_lenT, r_lenR, r_abs, r_max, r_min, a_int, a_bl, a_str, a_non, t_bl, List.map_cons, List.map_nil, List.length_cons, List.length_nil, List.replicate, List.cons_append, List.nil_append, List.getElem?_cons_zero, List.getElem?_cons_succ, List.set_cons_zero, List.set_cons_succ, List.getElem?_nil, Nat.reduceSub, Nat.reduceAdd, Nat.reduceEqDiff, decide_true, decide_false, ap_mk, ap_mut, ap_swap, ap_putI, ap_ev2, ap_keys, ap_mD, ap_put, ap_get2, ap_disp, ap_dsN, ap_dsC, ap_srtD, ap_sl, ap_oS, ap_oN, r_catI, r_mkL, r_mkLT, r_mkT, ap_gtpL, e3, if_true, show (0 : Nat) ≤ 16777216 from by omega]
  simp only [F_law, sg_law, ap_v, ap_c, ap_2, ap_A, ap_nil, ap_cons, ap_lst, ap_tup, ap_B, ap_call, ap_callN, ap_callO, ap_T, ap_isT, ap_not, ap_neg, ap_and, ap_or, ap_if, ap_ch, ap_seq, ap_snil, ap_sif, ap_ret, ap_retN, ap_asg, ap_exp, ap_tgt, ap_app, ap_rev, ap_set, ap_aug, ap_for, ap_forM, ap_rng1, ap_rng2, ap_mseq, ap_enum, ap_lc, ap_yes, ap_gnm, ap_gtp, ap_gnil, ap_gcons, ap_fM, ap_on, ap_oc, r_add, r_sub, r_mul, r_div, r_mod, r_pow, r_lt, r_le, r_gt, r_ge, r_eqI, r_eqS, r_neI, r_neS, r_ixL, r_ixT, r_ixR, r_ipL, r_ipT, r_len, r_lenT, r_lenR, r_abs, r_max, r_min, a_int, a_bl, a_str, a_non, t_bl, List.map_cons, List.map_nil, List.length_cons, List.length_nil, List.replicate, List.cons_append, List.nil_append, List.getElem?_cons_zero, List.getElem?_cons_succ, List.set_cons_zero, List.set_cons_succ, List.getElem?_nil, Nat.reduceSub, Nat.reduceAdd, Nat.reduceEqDiff, decide_true, decide_false, ap_mk, ap_mut, ap_swap, ap_putI, ap_ev2, ap_keys, ap_mD, ap_put, ap_get2, ap_disp, ap_dsN, ap_dsC, ap_srtD, ap_sl, ap_oS, ap_oN, r_catI, r_mkL, r_mkLT, r_mkT, ap_gtpL, em]
end L_k05
namespace L_k05
open PySem PySem.Spec PyProof.Rows L2 VS
def d_numbers_of : He.DefD := ⟨("numbers_of", none), "numbers_of", "numbers_of", defArgs s_numbers_of, defBody s_numbers_of, defScope s_numbers_of, [], []⟩
def d_ends_of : He.DefD := ⟨("ends_of", none), "ends_of", "ends_of", defArgs s_ends_of, defBody s_ends_of, defScope s_ends_of, [], []⟩
def d_threads_behind : He.DefD := ⟨("threads_behind", none), "threads_behind", "threads_behind", defArgs s_threads_behind, defBody s_threads_behind, defScope s_threads_behind, [], []⟩
def d_threads : He.DefD := ⟨("threads", none), "threads", "threads", defArgs s_threads, defBody s_threads, defScope s_threads, [], []⟩
def d_thread_many : He.DefD := ⟨("thread_many", none), "thread_many", "thread_many", defArgs s_thread_many, defBody s_thread_many, defScope s_thread_many, [], []⟩
def d_end_pairs : He.DefD := ⟨("end_pairs", none), "end_pairs", "end_pairs", defArgs s_end_pairs, defBody s_end_pairs, defScope s_end_pairs, [], []⟩
def d_end_mates : He.DefD := ⟨("end_mates", none), "end_mates", "end_mates", defArgs s_end_mates, defBody s_end_mates, defScope s_end_mates, [], []⟩
def d_birth_mate : He.DefD := ⟨("birth_mate", none), "birth_mate", "birth_mate", defArgs s_birth_mate, defBody s_birth_mate, defScope s_birth_mate, [], []⟩
def d_gone_along : He.DefD := ⟨("gone_along", none), "gone_along", "gone_along", defArgs s_gone_along, defBody s_gone_along, defScope s_gone_along, [], []⟩
def d_piece_walks : He.DefD := ⟨("piece_walks", none), "piece_walks", "piece_walks", defArgs s_piece_walks, defBody s_piece_walks, defScope s_piece_walks, [], []⟩
def d_pieces : He.DefD := ⟨("pieces", none), "pieces", "pieces", defArgs s_pieces, defBody s_pieces, defScope s_pieces, [], []⟩
def d__law_bag : He.DefD := ⟨("_law_bag", none), "_law_bag", "_law_bag", defArgs s__law_bag, defBody s__law_bag, defScope s__law_bag, [], []⟩
def d__law_take : He.DefD := ⟨("_law_take", none), "_law_take", "_law_take", defArgs s__law_take, defBody s__law_take, defScope s__law_take, [], []⟩
def d__law_drawing : He.DefD := ⟨("_law_drawing", none), "_law_drawing", "_law_drawing", defArgs s__law_drawing, defBody s__law_drawing, defScope s__law_drawing, [], []⟩
def d__law_plat : He.DefD := ⟨("_law_plat", none), "_law_plat", "_law_plat", defArgs s__law_plat, defBody s__law_plat, defScope s__law_plat, [], []⟩
def d__law_any : He.DefD := ⟨("_law_any", none), "_law_any", "_law_any", defArgs s__law_any, defBody s__law_any, defScope s__law_any, [], []⟩
def d__law_rows : He.DefD := ⟨("_law_rows", none), "_law_rows", "_law_rows", defArgs s__law_rows, defBody s__law_rows, defScope s__law_rows, [], []⟩
def d__law_whole : He.DefD := ⟨("_law_whole", none), "_law_whole", "_law_whole", defArgs s__law_whole, defBody s__law_whole, defScope s__law_whole, [], []⟩
def d__law_numbers : He.DefD := ⟨("_law_numbers", none), "_law_numbers", "_law_numbers", defArgs s__law_numbers, defBody s__law_numbers, defScope s__law_numbers, [], []⟩
def d__law_pieces : He.DefD := ⟨("_law_pieces", none), "_law_pieces", "_law_pieces", defArgs s__law_pieces, defBody s__law_pieces, defScope s__law_pieces, [], []⟩
def d__law_right : He.DefD := ⟨("_law_right", none), "_law_right", "_law_right", defArgs s__law_right, defBody s__law_right, defScope s__law_right, [], []⟩
def d_law : He.DefD := ⟨("law", none), "law", "law", defArgs s_law, defBody s_law, defScope s_law, [], []⟩
def fn : List He.DefD := [d_numbers_of, d_ends_of, d_threads_behind, d_threads, d_thread_many, d_end_pairs, d_end_mates, d_birth_mate, d_gone_along, d_piece_walks, d_pieces, d__law_bag, d__law_take, d__law_drawing, d__law_plat, d__law_any, d__law_rows, d__law_whole, d__law_numbers, d__law_pieces, d__law_right, d_law]
def fa : List He.Fa := [.glo "numbers_of", .glo "ends_of", .glo "threads_behind", .glo "threads", .glo "thread_many", .glo "end_pairs", .glo "end_mates", .glo "birth_mate", .glo "gone_along", .glo "piece_walks", .glo "pieces", .glo "_law_bag", .glo "_law_take", .glo "_law_drawing", .glo "_law_plat", .glo "_law_any", .glo "_law_rows", .glo "_law_whole", .glo "_law_numbers", .glo "_law_pieces", .glo "_law_right", .glo "law", .free "abs", .free "all", .free "bool", .free "enumerate", .free "int", .free "isinstance", .free "len", .free "list", .free "max", .free "min", .free "range", .free "set", .free "sorted", .str "BORN" "born", .str "CROSS" "cross", .str "END" "end"]
abbrev R : PySem.W.OpenRow := PySem.W.OpenLaw.row PySem.Challenge.rw_bendfronts_k05_pieces
abbrev hk : PySem.W.Hook := He.hookD 4 fa fn
def ob (s : PySem.W.SharedT) : He.AlD := He.obsDG 4 fa fn (HandSHeadRun.getT s)
theorem ob_eq (s : PySem.W.SharedT) : ob s = hk.obs s.abs := He.obsDG_eq (HandSHeadRun.getT_eq s)
def loose0 : List PySem.Str := ["BORN", "CROSS", "END", "numbers_of", "ends_of", "threads_behind", "threads", "thread_many", "end_pairs", "end_mates", "birth_mate", "gone_along", "piece_walks", "pieces", "_law_bag", "_law_take"]
def loose1 : List PySem.Str := ["_law_drawing", "_law_plat", "_law_any", "_law_rows", "_law_whole", "_law_numbers", "_law_pieces", "_law_right"]
abbrev loose : List PySem.Str := loose0 ++ loose1
theorem run (w : World) : HandSHeadRun.RunEq R (PySem.W.view R.prog [27]) hk ob 1000 loose w := by
  intro os
  kernel_rfl
theorem facts {P : Program} {w : World} {K : PySem.W.Frag} {h : Heap} {mg : Str → Option Value} {f : Addr} (X : K.In h) (G : h.Ns mainGlobals mg) (hfa : mg ("law" : Str) = some (.ref f)) (c : He.SaysD fa fn K) :
    ∃ fd : FuncData, (∀ (s : Shared) (v : Value), BindsTo s fd ⟨[v], []⟩ [("_law_script", v)]) ∧ ∀ base : Heap, K.In base → base.Ns mainGlobals mg → FnOk P w K mg base CX0 8 f fd p_law (fnSp K sg_law F_law) := by
  have GS : Gs mg := ⟨He.free_ok X G (c.fact 22 (f := .free "abs") rfl), He.free_ok X G (c.fact 23 (f := .free "all") rfl), He.free_ok X G (c.fact 24 (f := .free "bool") rfl), He.free_ok X G (c.fact 25 (f := .free "enumerate") rfl), He.free_ok X G (c.fact 26 (f := .free "int") rfl), He.free_ok X G (c.fact 27 (f := .free "isinstance") rfl), He.free_ok X G (c.fact 28 (f := .free "len") rfl), He.free_ok X G (c.fact 29 (f := .free "list") rfl), He.free_ok X G (c.fact 30 (f := .free "max") rfl), He.free_ok X G (c.fact 31 (f := .free "min") rfl), He.free_ok X G (c.fact 32 (f := .free "range") rfl), He.free_ok X G (c.fact 33 (f := .free "set") rfl), He.free_ok X G (c.fact 34 (f := .free "sorted") rfl), He.str_ok X G (c.fact 35 (f := .str "BORN" "born") rfl), He.str_ok X G (c.fact 36 (f := .str "CROSS" "cross") rfl), He.str_ok X G (c.fact 37 (f := .str "END" "end") rfl)⟩
  obtain ⟨fd0, F0⟩ := c.def_ 0 (d := d_numbers_of) rfl
  obtain ⟨fd1, F1⟩ := c.def_ 1 (d := d_ends_of) rfl
  obtain ⟨fd2, F2⟩ := c.def_ 2 (d := d_threads_behind) rfl
  obtain ⟨fd3, F3⟩ := c.def_ 3 (d := d_threads) rfl
  obtain ⟨fd4, F4⟩ := c.def_ 4 (d := d_thread_many) rfl
  obtain ⟨fd5, F5⟩ := c.def_ 5 (d := d_end_pairs) rfl
  obtain ⟨fd6, F6⟩ := c.def_ 6 (d := d_end_mates) rfl
  obtain ⟨fd7, F7⟩ := c.def_ 7 (d := d_birth_mate) rfl
  obtain ⟨fd8, F8⟩ := c.def_ 8 (d := d_gone_along) rfl
  obtain ⟨fd9, F9⟩ := c.def_ 9 (d := d_piece_walks) rfl
  obtain ⟨fd10, F10⟩ := c.def_ 10 (d := d_pieces) rfl
  obtain ⟨fd11, F11⟩ := c.def_ 11 (d := d__law_bag) rfl
  obtain ⟨fd12, F12⟩ := c.def_ 12 (d := d__law_take) rfl
  obtain ⟨fd13, F13⟩ := c.def_ 13 (d := d__law_drawing) rfl
  obtain ⟨fd14, F14⟩ := c.def_ 14 (d := d__law_plat) rfl
  obtain ⟨fd15, F15⟩ := c.def_ 15 (d := d__law_any) rfl
  obtain ⟨fd16, F16⟩ := c.def_ 16 (d := d__law_rows) rfl
  obtain ⟨fd17, F17⟩ := c.def_ 17 (d := d__law_whole) rfl
  obtain ⟨fd18, F18⟩ := c.def_ 18 (d := d__law_numbers) rfl
  obtain ⟨fd19, F19⟩ := c.def_ 19 (d := d__law_pieces) rfl
  obtain ⟨fd20, F20⟩ := c.def_ 20 (d := d__law_right) rfl
  obtain ⟨fd21, F21⟩ := c.def_ 21 (d := d_law) rfl
  have e := hfa.symm.trans (He.glo_ok X G (c.fact 21 (f := .glo "law") rfl))
  cases e
  have b := FunD.bindsA (ps := ["_law_script"]) F21 fun _ _ _ _ _ _ us hl => match us, hl with | [_], _ => rfl
  refine ⟨fd21, fun s v => b s [v] rfl, fun base _ _ => ?_⟩
  have h_numbers_of := ok_numbers_of (P := P) (w := w) (base := base) GS  F0 (He.glo_ok X G (c.fact 0 (f := .glo "numbers_of") rfl))
  have h_ends_of := ok_ends_of (P := P) (w := w) (base := base) GS h_numbers_of F1 (He.glo_ok X G (c.fact 1 (f := .glo "ends_of") rfl))
  have h_threads_behind := ok_threads_behind (P := P) (w := w) (base := base) GS  F2 (He.glo_ok X G (c.fact 2 (f := .glo "threads_behind") rfl))
  have h_threads := ok_threads (P := P) (w := w) (base := base) GS h_threads_behind F3 (He.glo_ok X G (c.fact 3 (f := .glo "threads") rfl))
  have h_thread_many := ok_thread_many (P := P) (w := w) (base := base) GS h_ends_of F4 (He.glo_ok X G (c.fact 4 (f := .glo "thread_many") rfl))
  have h_end_pairs := ok_end_pairs (P := P) (w := w) (base := base) GS h_threads h_ends_of F5 (He.glo_ok X G (c.fact 5 (f := .glo "end_pairs") rfl))
  have h_end_mates := ok_end_mates (P := P) (w := w) (base := base) GS h_end_pairs F6 (He.glo_ok X G (c.fact 6 (f := .glo "end_mates") rfl))
  have h_birth_mate := ok_birth_mate (P := P) (w := w) (base := base) GS  F7 (He.glo_ok X G (c.fact 7 (f := .glo "birth_mate") rfl))
  have h_gone_along := ok_gone_along (P := P) (w := w) (base := base) GS h_birth_mate F8 (He.glo_ok X G (c.fact 8 (f := .glo "gone_along") rfl))
  have h_piece_walks := ok_piece_walks (P := P) (w := w) (base := base) GS h_end_mates h_thread_many h_gone_along F9 (He.glo_ok X G (c.fact 9 (f := .glo "piece_walks") rfl))
  have h_pieces := ok_pieces (P := P) (w := w) (base := base) GS h_thread_many h_piece_walks F10 (He.glo_ok X G (c.fact 10 (f := .glo "pieces") rfl))
  have h__law_bag := ok__law_bag (P := P) (w := w) (base := base) GS  F11 (He.glo_ok X G (c.fact 11 (f := .glo "_law_bag") rfl))
  have h__law_take := ok__law_take (P := P) (w := w) (base := base) GS  F12 (He.glo_ok X G (c.fact 12 (f := .glo "_law_take") rfl))
  have h__law_drawing := ok__law_drawing (P := P) (w := w) (base := base) GS h__law_take F13 (He.glo_ok X G (c.fact 13 (f := .glo "_law_drawing") rfl))
  have h__law_plat := ok__law_plat (P := P) (w := w) (base := base) GS h__law_take F14 (He.glo_ok X G (c.fact 14 (f := .glo "_law_plat") rfl))
  have h__law_any := ok__law_any (P := P) (w := w) (base := base) GS h__law_take h__law_plat h__law_drawing F15 (He.glo_ok X G (c.fact 15 (f := .glo "_law_any") rfl))
  have h__law_rows := ok__law_rows (P := P) (w := w) (base := base) GS  F16 (He.glo_ok X G (c.fact 16 (f := .glo "_law_rows") rfl))
  have h__law_whole := ok__law_whole (P := P) (w := w) (base := base) GS  F17 (He.glo_ok X G (c.fact 17 (f := .glo "_law_whole") rfl))
  have h__law_numbers := ok__law_numbers (P := P) (w := w) (base := base) GS h__law_whole F18 (He.glo_ok X G (c.fact 18 (f := .glo "_law_numbers") rfl))
  have h__law_pieces := ok__law_pieces (P := P) (w := w) (base := base) GS h__law_rows F19 (He.glo_ok X G (c.fact 19 (f := .glo "_law_pieces") rfl))
  have h__law_right := ok__law_right (P := P) (w := w) (base := base) GS h__law_pieces h_pieces h__law_numbers F20 (He.glo_ok X G (c.fact 20 (f := .glo "_law_right") rfl))
  exact ok_law GS h__law_bag h__law_any h__law_right F21
end L_k05
open PySem PySem.W PySem.Calls PyProof.Rows
theorem PySem.Challenge.cw_bendfronts_k05_pieces_holds : PySem.Challenge.rw_bendfronts_k05_pieces.Holds := by
  w_on; o_law
  refine HandSHeadRun.head_any (r := OpenLaw.row PySem.Challenge.rw_bendfronts_k05_pieces) (q := view (OpenLaw.row PySem.Challenge.rw_bendfronts_k05_pieces).prog [27]) (H := L_k05.hk) (ob := L_k05.ob) (M := 1000) (loose := L_k05.loose) (d := HandSHeadRun.topDef (OpenLaw.row PySem.Challenge.rw_bendfronts_k05_pieces).prog 27) (kwd := []) L_k05.ob_eq
    (by kernel_rfl) (fun s => by kernel_rfl) L_k05.run (by kernel_rfl) (by kernel_rfl) (by kernel_rfl) (by rfl) (by first | assumption | decide +kernel) (by decide +kernel) ⟨rfl, rfl, rfl, rfl, rfl, by decide +kernel⟩ ?hw ?hc
  case hw => w_witness2
  case hc =>
    refine L2.walk_ofE (l := PySem.Challenge.rw_bendfronts_k05_pieces) (n := 63) (k := 8) (x := "_law_script") (CX := L2.CX0) rfl (by decide) (by kernel_rfl) ⟨rfl, by decide, by decide⟩ ?F (fun _ _ _ _ z => z)
    intro w mg fa h Y G hmg0
    obtain ⟨K, KX, c⟩ := Y
    have hmg : mg ("law" : PySem.Str) = some (.ref fa) := by
      have e : (HandSHeadRun.topDef (OpenLaw.row PySem.Challenge.rw_bendfronts_k05_pieces).prog 27).name = ("law" : PySem.Str) := by kernel_rfl
      rw [← e]
      exact hmg0
    obtain ⟨fd, hb, hF⟩ := L_k05.facts (P := (PySem.Challenge.rw_bendfronts_k05_pieces).prog) (w := w) KX G hmg c
    exact ⟨K, fd, _, KX, hb, VS.law_sp rfl L_k05.law_eq, hF⟩
