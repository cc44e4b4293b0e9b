import PyProof.Rows.All
import Wide.All
import OpenK.AllK
import Wide.FinOn
import HandS.ForMost
import HandS.ForExc
import HandS.TryMany
import HandS.IsInst
import HandS.Deep
import HandS.TupAny
import HandS.TupLen
import HandS.Small
import HandS.Conv
import HandS.SortInts
import HandS.More
import HandS.Flow
import HandS.CallSlots
import HandS.NoneIn
import HandS.Zip
import HandS.SetFor
import HandS.WordsExc
import HandS.Defaults
import HandS.HeadHook2
import HandS.HeadEnd
import HandS.Head2
import PySem.Challenge.RW_hornbook_k56_allowed_values
import KE.KStateDown
set_option Elab.async false
set_option linter.all false
set_option maxRecDepth 100000
set_option maxHeartbeats 0
set_option autoImplicit false
/-! DsA: data, stores, what represents them, outcomes, the judgements. -/
namespace DS
open PySem L2

/-- data: what is never changed stands in it whole; a list, dict or instance of the run is a place of the store -/
inductive D where
  | non | bl (b : Bool) | int (i : Int) | str (x : Str) | ty (n : String)
  | tup (ds : List D) | rls (ds : List D) | loc (n : Nat)

/-- what stands at a place -/
inductive Ob where
  | lst (ds : List D)
  | dK (kvs : List (L2.Key × D))
  | dT (kvs : List (List L2.Key × D))
  | ins (c : Nat) (fs : List (Str × D))
  | lk (o : Ob)

abbrev Sto := List Ob
abbrev En := List (Option D)
abbrev Frag := PySem.W.Frag

section rep
variable (K : Frag) (cn : Nat → Addr)
/-- a tuple that stays -/
def TupS (H : Hp) (a : Addr) (xs : List V) : Prop := H a = some (.tup xs) ∨
    ∃ (o : Obj) (its : Array Value) (n : Nat), K.lookup a = some o ∧ o.cls = .type "tuple" ∧ o.data = .seq its n ∧ its.size ≤ sizeLine ∧ Vals xs its.toList
/-- a list that is never written -/
def LstS (H : Hp) (a : Addr) (xs : List V) : Prop := (∃ o, H a = some (.frz o (.lst xs))) ∨
    ∃ (o : Obj) (its : Array Value) (n : Nat), K.lookup a = some o ∧ o.cls = .type "list" ∧ o.dict = none ∧ o.data = .seq its n ∧ its.size ≤ sizeLine ∧ Vals xs its.toList
mutual
def RepV (φ : List Addr) (H : Hp) : D → V → Prop
  | .non, v => v = .non
  | .bl b, v => v = .bl b
  | .int i, v => v = .int i
  | .str x, v => v = .str x
  | .ty n, v => v = .ty n
  | .loc n, v => ∃ a, φ[n]? = some a ∧ v = .ref a
  | .tup ds, v => ∃ a xs, v = .ref a ∧ TupS K H a xs ∧ RepVs φ H ds xs
  | .rls ds, v => ∃ a xs, v = .ref a ∧ LstS K H a xs ∧ RepVs φ H ds xs
def RepVs (φ : List Addr) (H : Hp) : List D → List V → Prop
  | [], vs => vs = []
  | d :: ds, vs => ∃ x xs, vs = x :: xs ∧ RepV φ H d x ∧ RepVs φ H ds xs
end
def RepK {κ : Type} (φ : List Addr) (H : Hp) : List (κ × D) → List (κ × V) → Prop
  | [], vs => vs = []
  | (k, d) :: ds, vs => ∃ x xs, vs = (k, x) :: xs ∧ RepV K φ H d x ∧ RepK φ H ds xs
def RepU (φ : List Addr) (H : Hp) : Ob → HO → Prop
  | .lst ds, u => ∃ xs, u = .lst xs ∧ RepVs K φ H ds xs
  | .dK kvs, u => ∃ xs, u = .dK xs ∧ RepK K φ H kvs xs
  | .dT kvs, u => ∃ xs, u = .dT xs ∧ RepK K φ H kvs xs
  | .ins c fs, u => ∃ dx xs, u = .ins (cn c) dx xs ∧ RepK K φ H fs xs
  | .lk _, _ => False
def RepO (φ : List Addr) (H : Hp) (a : Addr) : Ob → Prop
  | .lk o => ∃ ob u, H a = some (.frz ob u) ∧ RepU K cn φ H o u
  | o => ∃ u, H a = some u ∧ RepU K cn φ H o u
structure RepS (φ : List Addr) (H : Hp) (S : Sto) : Prop where
  len : φ.length = S.length
  nd : φ.Nodup
  ob : ∀ (n : Nat) (o : Ob) (a : Addr), S[n]? = some o → φ[n]? = some a → RepO K cn φ H a o
def RepE (φ : List Addr) (H : Hp) (ρ : En) (σ : L2.St) : Prop :=
  ρ.length = σ.length ∧ ∀ (i : Nat) (d : D), ρ[i]? = some (some d) → ∃ v, σ[i]? = some (some v) ∧ RepV K φ H d v
end rep

/-- what never goes -/
structure Le (φ : List Addr) (H : Hp) (φ' : List Addr) (H' : Hp) : Prop where
  pre : ∃ t, φ' = φ ++ t
  tup : ∀ a xs, H a = some (.tup xs) → H' a = some (.tup xs)
  frl : ∀ a o u, H a = some (.frz o u) → H' a = some (.frz o u)
theorem Le.refl (φ : List Addr) (H : Hp) : Le φ H φ H := ⟨⟨[], by simp⟩, fun _ _ h => h, fun _ _ _ h => h⟩
theorem Le.trans {φ1 φ2 φ3 : List Addr} {H1 H2 H3 : Hp} (a : Le φ1 H1 φ2 H2) (b : Le φ2 H2 φ3 H3) : Le φ1 H1 φ3 H3 := by
  obtain ⟨t, e⟩ := a.pre
  obtain ⟨u, e2⟩ := b.pre
  exact ⟨⟨t ++ u, by rw [e2, e, List.append_assoc]⟩, fun x xs h => b.tup x xs (a.tup x xs h), fun x o xs h => b.frl x o xs (a.frl x o xs h)⟩
theorem Le.get {φ1 φ2 : List Addr} {H1 H2 : Hp} (a : Le φ1 H1 φ2 H2) {n : Nat} {x : Addr} (h : φ1[n]? = some x) : φ2[n]? = some x := by
  obtain ⟨t, e⟩ := a.pre
  rw [e, List.getElem?_append_left (List.getElem?_eq_some_iff.mp h).1]
  exact h

/-- .. but for locks -/
structure Lw (φ : List Addr) (H : Hp) (φ' : List Addr) (H' : Hp) : Prop where
  pre : ∃ t, φ' = φ ++ t
  tup : ∀ a xs, H a = some (.tup xs) → H' a = some (.tup xs)
  frl : ∀ a o xs, H a = some (.frz o (.lst xs)) → H' a = some (.frz o (.lst xs))
theorem Le.lw {φ1 φ2 : List Addr} {H1 H2 : Hp} (a : Le φ1 H1 φ2 H2) : Lw φ1 H1 φ2 H2 := ⟨a.pre, a.tup, fun x o xs h => a.frl x o _ h⟩
theorem Lw.get {φ1 φ2 : List Addr} {H1 H2 : Hp} (a : Lw φ1 H1 φ2 H2) {n : Nat} {x : Addr} (h : φ1[n]? = some x) : φ2[n]? = some x := by
  obtain ⟨t, e⟩ := a.pre
  rw [e, List.getElem?_append_left (List.getElem?_eq_some_iff.mp h).1]
  exact h

section mono
variable {K : Frag} {cn : Nat → Addr} {φ φ' : List Addr} {H H' : Hp}
theorem TupS.lw {a : Addr} {xs : List V} (l : Lw φ H φ' H') (h : TupS K H a xs) : TupS K H' a xs := by
  rcases h with h | h
  · exact .inl (l.tup _ _ h)
  · exact .inr h
theorem LstS.lw {a : Addr} {xs : List V} (l : Lw φ H φ' H') (h : LstS K H a xs) : LstS K H' a xs := by
  rcases h with ⟨o, h⟩ | h
  · exact .inl ⟨o, l.frl _ _ _ h⟩
  · exact .inr h
theorem TupS.sq {a : Addr} {xs : List V} (h : TupS K H a xs) : SqT K H a xs := by
  rcases h with h | h
  · exact .inl (.inl h)
  · exact .inr h
theorem LstS.sq {a : Addr} {xs : List V} (h : LstS K H a xs) : SqL K H a xs := by
  rcases h with ⟨o, h⟩ | h
  · exact .inl (.inr ⟨o, h⟩)
  · exact .inr h
mutual
theorem RepV.lw (l : Lw φ H φ' H') : ∀ {d : D} {v : V}, RepV K φ H d v → RepV K φ' H' d v
  | .non, _, h => h
  | .bl _, _, h => h
  | .int _, _, h => h
  | .str _, _, h => h
  | .ty _, _, h => h
  | .loc n, v, h => by
    unfold RepV at h ⊢
    obtain ⟨a, h1, h2⟩ := h
    exact ⟨a, l.get h1, h2⟩
  | .tup ds, v, h => by
    unfold RepV at h ⊢
    obtain ⟨a, xs, h1, h2, h3⟩ := h
    exact ⟨a, xs, h1, h2.lw l, RepVs.lw l h3⟩
  | .rls ds, v, h => by
    unfold RepV at h ⊢
    obtain ⟨a, xs, h1, h2, h3⟩ := h
    exact ⟨a, xs, h1, h2.lw l, RepVs.lw l h3⟩
theorem RepVs.lw (l : Lw φ H φ' H') : ∀ {ds : List D} {vs : List V}, RepVs K φ H ds vs → RepVs K φ' H' ds vs
  | [], vs, h => by unfold RepVs at h ⊢; exact h
  | d :: ds, vs, h => by
    unfold RepVs at h ⊢
    obtain ⟨x, xs, h1, h2, h3⟩ := h
    exact ⟨x, xs, h1, RepV.lw l h2, RepVs.lw l h3⟩
end
theorem RepK.lw {κ : Type} (l : Lw φ H φ' H') : ∀ {ds : List (κ × D)} {vs : List (κ × V)}, RepK K φ H ds vs → RepK K φ' H' ds vs
  | [], vs, h => by unfold RepK at h ⊢; exact h
  | (k, d) :: ds, vs, h => by
    unfold RepK at h ⊢
    obtain ⟨x, xs, h1, h2, h3⟩ := h
    exact ⟨x, xs, h1, RepV.lw l h2, RepK.lw l h3⟩
theorem RepU.lw (l : Lw φ H φ' H') {o : Ob} {u : HO} (h : RepU K cn φ H o u) : RepU K cn φ' H' o u := by
  cases o with
  | lst ds => obtain ⟨xs, e, r⟩ := h; exact ⟨xs, e, r.lw l⟩
  | dK ds => obtain ⟨xs, e, r⟩ := h; exact ⟨xs, e, r.lw l⟩
  | dT ds => obtain ⟨xs, e, r⟩ := h; exact ⟨xs, e, r.lw l⟩
  | ins c ds => obtain ⟨dx, xs, e, r⟩ := h; exact ⟨dx, xs, e, r.lw l⟩
  | lk o => exact h
theorem RepE.lw {ρ : En} {σ : L2.St} (l : Lw φ H φ' H') (h : RepE K φ H ρ σ) : RepE K φ' H' ρ σ :=
  ⟨h.1, fun i d e => let ⟨v, h1, h2⟩ := h.2 i d e; ⟨v, h1, h2.lw l⟩⟩
theorem TupS.le {a : Addr} {xs : List V} (l : Le φ H φ' H') (h : TupS K H a xs) : TupS K H' a xs := h.lw l.lw
theorem LstS.le {a : Addr} {xs : List V} (l : Le φ H φ' H') (h : LstS K H a xs) : LstS K H' a xs := h.lw l.lw
theorem RepV.le (l : Le φ H φ' H') {d : D} {v : V} (h : RepV K φ H d v) : RepV K φ' H' d v := h.lw l.lw
theorem RepVs.le (l : Le φ H φ' H') {d : List D} {v : List V} (h : RepVs K φ H d v) : RepVs K φ' H' d v := h.lw l.lw
theorem RepK.le {κ : Type} (l : Le φ H φ' H') {ds : List (κ × D)} {vs : List (κ × V)} (h : RepK K φ H ds vs) : RepK K φ' H' ds vs := h.lw l.lw
theorem RepU.le (l : Le φ H φ' H') {o : Ob} {u : HO} (h : RepU K cn φ H o u) : RepU K cn φ' H' o u := h.lw l.lw
theorem RepE.le {ρ : En} {σ : L2.St} (l : Le φ H φ' H') (h : RepE K φ H ρ σ) : RepE K φ' H' ρ σ := h.lw l.lw
theorem RepO.some {o : Ob} {a : Addr} (h : RepO K cn φ H a o) : ∃ u, H a = some u := by
  cases o with
  | lk o => obtain ⟨ob, u, e, _⟩ := h; exact ⟨_, e⟩
  | lst ds => obtain ⟨u, e, _⟩ := h; exact ⟨_, e⟩
  | dK ds => obtain ⟨u, e, _⟩ := h; exact ⟨_, e⟩
  | dT ds => obtain ⟨u, e, _⟩ := h; exact ⟨_, e⟩
  | ins c ds => obtain ⟨u, e, _⟩ := h; exact ⟨_, e⟩
/-- the object stays at its place, what it holds stays -/
theorem RepO.lw {o : Ob} {a : Addr} (l : Lw φ H φ' H') (e : H' a = H a) (h : RepO K cn φ H a o) : RepO K cn φ' H' a o := by
  cases o with
  | lk o => obtain ⟨ob, u, q, r⟩ := h; exact ⟨ob, u, e.trans q, r.lw l⟩
  | lst ds => obtain ⟨u, q, r⟩ := h; exact ⟨u, e.trans q, r.lw l⟩
  | dK ds => obtain ⟨u, q, r⟩ := h; exact ⟨u, e.trans q, r.lw l⟩
  | dT ds => obtain ⟨u, q, r⟩ := h; exact ⟨u, e.trans q, r.lw l⟩
  | ins c ds => obtain ⟨u, q, r⟩ := h; exact ⟨u, e.trans q, r.lw l⟩
theorem RepO.le {o : Ob} {a : Addr} (l : Le φ H φ' H') (e : H' a = H a) (h : RepO K cn φ H a o) : RepO K cn φ' H' a o := h.lw l.lw e
theorem RepS.has {S : Sto} (r : RepS K cn φ H S) {n : Nat} {o : Ob} (h : S[n]? = some o) : ∃ a, φ[n]? = some a ∧ RepO K cn φ H a o := by
  have hn := (List.getElem?_eq_some_iff.mp h).1
  have hl : n < φ.length := by rw [r.len]; exact hn
  exact ⟨φ[n], List.getElem?_eq_getElem hl, r.ob n o _ h (List.getElem?_eq_getElem hl)⟩
theorem RepS.ob' {S : Sto} (r : RepS K cn φ H S) {n : Nat} {a : Addr} (h : φ[n]? = some a) : ∃ o, S[n]? = some o ∧ RepO K cn φ H a o := by
  have hn := (List.getElem?_eq_some_iff.mp h).1
  have hl : n < S.length := by rw [← r.len]; exact hn
  exact ⟨S[n], List.getElem?_eq_getElem hl, r.ob n _ a (List.getElem?_eq_getElem hl) h⟩
/-- a free address is no place's -/
theorem RepS.ne {S : Sto} (r : RepS K cn φ H S) {p : Addr} (hp : H p = none) : p ∉ φ := fun hm => by
  obtain ⟨n, hn⟩ := List.getElem?_of_mem hm
  obtain ⟨o, _, ro⟩ := r.ob' hn
  obtain ⟨u, e⟩ := ro.some
  rw [hp] at e
  cases e
theorem Le.new {p : Addr} {u : HO} (hp : H p = none) : Le φ H (φ ++ [p]) (upd H p u) :=
  ⟨⟨[p], rfl⟩, fun a xs h => by rw [upd_ne (ne_of_none h hp)]; exact h, fun a o xs h => by rw [upd_ne (ne_of_none h hp)]; exact h⟩
/-- a thing that no place has (a tuple) -/
theorem Le.tupNew {p : Addr} {u : HO} (hp : H p = none) : Le φ H φ (upd H p u) :=
  ⟨⟨[], by simp⟩, fun a xs h => by rw [upd_ne (ne_of_none h hp)]; exact h, fun a o xs h => by rw [upd_ne (ne_of_none h hp)]; exact h⟩
theorem RepS.tupNew {S : Sto} {p : Addr} {u : HO} (r : RepS K cn φ H S) (hp : H p = none) : RepS K cn φ (upd H p u) S :=
  ⟨r.len, r.nd, fun n o a h1 h2 => (r.ob n o a h1 h2).le (Le.tupNew hp) (upd_ne fun e => r.ne hp (e ▸ List.mem_of_getElem? h2))⟩
/-- a new place -/
theorem RepS.new {S : Sto} {p : Addr} {u : HO} {o : Ob} (r : RepS K cn φ H S) (hp : H p = none) (ho : RepU K cn φ H o u) : RepS K cn (φ ++ [p]) (upd H p u) (S ++ [o]) := by
  have hnp := r.ne hp
  have l : Le φ H (φ ++ [p]) (upd H p u) := Le.new hp
  refine ⟨by simp [r.len], ?_, fun n o' a h1 h2 => ?_⟩
  · rw [List.nodup_append]
    refine ⟨r.nd, by simp, fun a ha b hb e => hnp ?_⟩
    have : b = p := by simpa using hb
    rw [← this, ← e]
    exact ha
  · by_cases hn : n < S.length
    · rw [List.getElem?_append_left hn] at h1
      rw [List.getElem?_append_left (by rw [r.len]; exact hn)] at h2
      exact (r.ob n o' a h1 h2).le l (upd_ne fun e => hnp (e ▸ List.mem_of_getElem? h2))
    · rw [List.getElem?_append_right (by omega)] at h1
      rw [List.getElem?_append_right (by rw [r.len]; omega), r.len] at h2
      have e0 : n - S.length = 0 := by
        have := (List.getElem?_eq_some_iff.mp h1).1
        simp at this
        omega
      rw [e0] at h1 h2
      have e1 : o = o' := by simpa using h1
      have e2 : p = a := by simpa using h2
      subst e1 e2
      have ru := ho.le l
      cases o with
      | lk o => exact ho.elim
      | lst ds => exact ⟨u, upd_same, ru⟩
      | dK ds => exact ⟨u, upd_same, ru⟩
      | dT ds => exact ⟨u, upd_same, ru⟩
      | ins c ds => exact ⟨u, upd_same, ru⟩
/-- no tuple, no list that stays -/
def Free (u : HO) : Prop := (∀ xs, u ≠ .tup xs) ∧ ∀ o u', u ≠ .frz o u'
theorem RepU.free {o : Ob} {u : HO} (h : RepU K cn φ H o u) : Free u := by
  cases o with
  | lst ds => obtain ⟨xs, e, r⟩ := h; subst e; exact ⟨fun _ z => (nomatch z), fun _ _ z => (nomatch z)⟩
  | dK ds => obtain ⟨xs, e, r⟩ := h; subst e; exact ⟨fun _ z => (nomatch z), fun _ _ z => (nomatch z)⟩
  | dT ds => obtain ⟨xs, e, r⟩ := h; subst e; exact ⟨fun _ z => (nomatch z), fun _ _ z => (nomatch z)⟩
  | ins c ds => obtain ⟨dx, xs, e, r⟩ := h; subst e; exact ⟨fun _ z => (nomatch z), fun _ _ z => (nomatch z)⟩
  | lk o => exact h.elim
/-- a place is written -/
theorem Le.put {a : Addr} {u u' : HO} (h : H a = some u) (f : Free u) : Le φ H φ (upd H a u') :=
  ⟨⟨[], by simp⟩, fun b xs e => by rw [upd_ne (fun z => by subst z; rw [h] at e; exact f.1 _ (Option.some.inj e))]; exact e,
    fun b o xs e => by rw [upd_ne (fun z => by subst z; rw [h] at e; exact f.2 _ _ (Option.some.inj e))]; exact e⟩
theorem RepS.put {S : Sto} {n : Nat} {a : Addr} {u u' : HO} {o' : Ob} (r : RepS K cn φ H S) (hn : φ[n]? = some a) (h : H a = some u) (f : Free u) (ho : RepO K cn φ (upd H a u') a o') : RepS K cn φ (upd H a u') (S.set n o') := by
  refine ⟨by simp [r.len], r.nd, fun m o b h1 h2 => ?_⟩
  by_cases hm : n = m
  · subst hm
    have hl : n < S.length := by rw [← r.len]; exact (List.getElem?_eq_some_iff.mp hn).1
    rw [List.getElem?_set_self hl] at h1
    cases h1
    rw [hn] at h2
    cases h2
    exact ho
  · rw [List.getElem?_set_ne hm] at h1
    refine (r.ob m o b h1 h2).le (Le.put h f) (upd_ne fun e => hm ?_)
    subst e
    obtain ⟨h3, e3⟩ := List.getElem?_eq_some_iff.mp hn
    obtain ⟨h4, e4⟩ := List.getElem?_eq_some_iff.mp h2
    exact (List.getElem_inj r.nd).mp (e3.trans e4.symm)
end mono

/-! ### lists of values -/
section
variable {K : Frag} {φ : List Addr} {H : Hp}
theorem RepVs.nil : RepVs K φ H [] [] := rfl
theorem RepVs.cons {d : D} {ds : List D} {v : V} {vs : List V} (h : RepV K φ H d v) (t : RepVs K φ H ds vs) : RepVs K φ H (d :: ds) (v :: vs) := ⟨v, vs, rfl, h, t⟩
theorem RepVs.length : ∀ {ds : List D} {vs : List V}, RepVs K φ H ds vs → vs.length = ds.length
  | [], vs, h => by unfold RepVs at h; rw [h]; rfl
  | d :: ds, vs, h => by
    unfold RepVs at h
    obtain ⟨x, xs, rfl, h2, h3⟩ := h
    simp [RepVs.length h3]
theorem RepVs.get : ∀ {ds : List D} {vs : List V} {i : Nat} {d : D}, RepVs K φ H ds vs → ds[i]? = some d → ∃ v, vs[i]? = some v ∧ RepV K φ H d v
  | [], _, _, _, _, e => by simp at e
  | d :: ds, vs, i, d', h, e => by
    unfold RepVs at h
    obtain ⟨x, xs, rfl, h2, h3⟩ := h
    cases i with
    | zero => simp at e; subst e; exact ⟨x, rfl, h2⟩
    | succ i =>
      obtain ⟨v, q1, q2⟩ := RepVs.get (i := i) h3 (by simpa using e)
      exact ⟨v, by simpa using q1, q2⟩
theorem RepVs.get' {ds : List D} {vs : List V} {i : Nat} {v : V} (h : RepVs K φ H ds vs) (e : vs[i]? = some v) : ∃ d, ds[i]? = some d ∧ RepV K φ H d v := by
  have hl := h.length
  have hi := (List.getElem?_eq_some_iff.mp e).1
  have hi2 : i < ds.length := by omega
  obtain ⟨w, q1, q2⟩ := h.get (List.getElem?_eq_getElem hi2)
  rw [e] at q1
  cases q1
  exact ⟨_, List.getElem?_eq_getElem hi2, q2⟩
theorem RepVs.append : ∀ {ds es : List D} {vs ws : List V}, RepVs K φ H ds vs → RepVs K φ H es ws → RepVs K φ H (ds ++ es) (vs ++ ws)
  | [], es, vs, ws, h, t => by unfold RepVs at h; rw [h]; exact t
  | d :: ds, es, vs, ws, h, t => by
    unfold RepVs at h
    obtain ⟨x, xs, rfl, h2, h3⟩ := h
    exact ⟨x, xs ++ ws, rfl, h2, RepVs.append h3 t⟩
theorem RepVs.take : ∀ {ds : List D} {vs : List V} (n : Nat), RepVs K φ H ds vs → RepVs K φ H (ds.take n) (vs.take n)
  | ds, vs, 0, h => rfl
  | [], vs, n + 1, h => by unfold RepVs at h; rw [h]; rfl
  | d :: ds, vs, n + 1, h => by
    unfold RepVs at h
    obtain ⟨x, xs, rfl, h2, h3⟩ := h
    exact ⟨x, xs.take n, rfl, h2, RepVs.take n h3⟩
theorem RepVs.drop : ∀ {ds : List D} {vs : List V} (n : Nat), RepVs K φ H ds vs → RepVs K φ H (ds.drop n) (vs.drop n)
  | ds, vs, 0, h => h
  | [], vs, n + 1, h => by unfold RepVs at h; rw [h]; rfl
  | d :: ds, vs, n + 1, h => by
    unfold RepVs at h
    obtain ⟨x, xs, rfl, h2, h3⟩ := h
    exact RepVs.drop n h3
theorem RepVs.set : ∀ {ds : List D} {vs : List V} {d : D} {v : V} (n : Nat), RepV K φ H d v → RepVs K φ H ds vs → RepVs K φ H (ds.set n d) (vs.set n v)
  | [], vs, d, v, n, _, h => by unfold RepVs at h; rw [h]; rfl
  | d :: ds, vs, d', v, 0, r, h => by
    unfold RepVs at h
    obtain ⟨x, xs, rfl, h2, h3⟩ := h
    exact ⟨v, xs, rfl, r, h3⟩
  | d :: ds, vs, d', v, n + 1, r, h => by
    unfold RepVs at h
    obtain ⟨x, xs, rfl, h2, h3⟩ := h
    exact ⟨x, xs.set n v, rfl, h2, RepVs.set n r h3⟩
theorem RepVs.erase : ∀ {ds : List D} {vs : List V} (n : Nat), RepVs K φ H ds vs → RepVs K φ H (ds.eraseIdx n) (vs.eraseIdx n)
  | [], vs, n, h => by unfold RepVs at h; rw [h]; rfl
  | d :: ds, vs, 0, h => by
    unfold RepVs at h
    obtain ⟨x, xs, rfl, h2, h3⟩ := h
    exact h3
  | d :: ds, vs, n + 1, h => by
    unfold RepVs at h
    obtain ⟨x, xs, rfl, h2, h3⟩ := h
    exact ⟨x, xs.eraseIdx n, rfl, h2, RepVs.erase n h3⟩
theorem RepVs.ints {ns : List Int} : ∀ {vs : List V}, RepVs K φ H (ns.map D.int) vs → vs = ns.map V.int := by
  induction ns with
  | nil => intro vs h; unfold RepVs at h; rw [List.map_nil] at h; exact h
  | cons n ns ih =>
    intro vs h
    rw [List.map_cons] at h
    unfold RepVs at h
    obtain ⟨x, xs, rfl, h2, h3⟩ := h
    unfold RepV at h2
    rw [h2, ih h3]
    rfl
theorem RepVs.of_ints : ∀ (ns : List Int), RepVs K φ H (ns.map D.int) (ns.map V.int)
  | [] => rfl
  | n :: ns => ⟨_, _, rfl, rfl, RepVs.of_ints ns⟩
end

/-! ### outcomes -/
inductive R (α : Type) where
  | ok (a : α) (S : Sto)
  | exc (c : Nat) (S : Sto)
  | no
def R.bind {α β : Type} (r : R α) (f : α → Sto → R β) : R β := match r with
  | .ok a S => f a S
  | .exc c S => .exc c S
  | .no => .no
@[simp] theorem R.bind_ok {α β : Type} (a : α) (S : Sto) (f : α → Sto → R β) : (R.ok a S).bind f = f a S := id rfl
@[simp] theorem R.bind_exc {α β : Type} (c : Nat) (S : Sto) (f : α → Sto → R β) : (R.exc c S : R α).bind f = .exc c S := rfl
@[simp] theorem R.bind_no {α β : Type} (f : α → Sto → R β) : (R.no : R α).bind f = .no := rfl
theorem R.bind_assoc {α β γ : Type} (r : R α) (f : α → Sto → R β) (g : β → Sto → R γ) : (r.bind f).bind g = r.bind fun a S => (f a S).bind g := by cases r <;> rfl

/-- what is wanted of an outcome, from φ, H on -/
def Run (K : Frag) (cn : Nat → Addr) {α : Type} (E : XK) (φ : List Addr) (H : Hp) (r : R α) (k : List Addr → Hp → Sto → α → Prop) : Prop := match r with
  | .ok a S => ∀ φ' H', Le φ H φ' H' → RepS K cn φ' H' S → k φ' H' S a
  | .exc c S => ∀ φ' H', Le φ H φ' H' → RepS K cn φ' H' S → E (.ref (cn c)) none H'
  | .no => False
section
variable {K : Frag} {cn : Nat → Addr} {α β : Type} {E : XK} {φ φ' : List Addr} {H H' : Hp} {r : R α} {k k' : List Addr → Hp → Sto → α → Prop}
theorem Run.le (l : Le φ H φ' H') (h : Run K cn E φ H r k) : Run K cn E φ' H' r k := by
  cases r with
  | ok a S => exact fun φ2 H2 l2 => h φ2 H2 (l.trans l2)
  | exc c S => exact fun φ2 H2 l2 => h φ2 H2 (l.trans l2)
  | no => exact h
theorem Run.imp (h : Run K cn E φ H r k) (hk : ∀ φ' H' S a, Le φ H φ' H' → RepS K cn φ' H' S → k φ' H' S a → k' φ' H' S a) : Run K cn E φ H r k' := by
  cases r with
  | ok a S => exact fun φ2 H2 l2 r2 => hk _ _ _ _ l2 r2 (h φ2 H2 l2 r2)
  | exc c S => exact h
  | no => exact h
theorem Run.bind {f : α → Sto → R β} {k : List Addr → Hp → Sto → β → Prop} (h : Run K cn E φ H (r.bind f) k) : Run K cn E φ H r fun φ' H' S a => Run K cn E φ' H' (f a S) k := by
  cases r with
  | ok a S => exact fun φ2 H2 l2 r2 => Run.le l2 h
  | exc c S => exact h
  | no => exact h
end

/-! ### the judgements -/
abbrev FE := En → Sto → R D
abbrev FT := En → Sto → R Bool
abbrev FA := En → Sto → R (List D)
section
variable (K : Frag) (cn : Nat → Addr) (W : WX)
def tD (f : FE) : TE := fun σ H Q => ∃ φ ρ S, RepE K φ H ρ σ ∧ RepS K cn φ H S ∧ Run K cn (fun c d H' => W c d σ H') φ H (f ρ S) fun φ' H' _ d => ∀ v, RepV K φ' H' d v → Q v H'
def tDT (f : FT) : TT := fun σ H Q => ∃ φ ρ S, RepE K φ H ρ σ ∧ RepS K cn φ H S ∧ Run K cn (fun c d H' => W c d σ H') φ H (f ρ S) fun _ H' _ b => Q b H'
def tDA (f : FA) : TA := fun σ H Q => ∃ φ ρ S, RepE K φ H ρ σ ∧ RepS K cn φ H S ∧ Run K cn (fun c d H' => W c d σ H') φ H (f ρ S) fun φ' H' _ ds => ∀ vs, RepVs K φ' H' ds vs → Q vs H'
end
theorem PE.imp {X : Cx} {e : Expr} {t t' : TE} (h : PE X e t) (k : ∀ σ H Q, t' σ H Q → t σ H Q) : PE X e t' := ⟨fun pins s σ H Q I q => h.run pins s σ H Q I (k σ H Q q)⟩
theorem PT.imp {X : Cx} {e : Expr} {t t' : TT} (h : PT X e t) (k : ∀ σ H Q, t' σ H Q → t σ H Q) : PT X e t' := ⟨fun pins s σ H Q I q => h.run pins s σ H Q I (k σ H Q q)⟩
theorem PW.imp {X : Cx} {e : Expr} {t t' : TT} (h : PW X e t) (k : ∀ σ H Q, t' σ H Q → t σ H Q) : PW X e t' := ⟨fun wh pins s σ H Q I q => h.run wh pins s σ H Q I (k σ H Q q)⟩
theorem PA.imp {X : Cx} {es : List Expr} {t t' : TA} (h : PA X es t) (k : ∀ σ H Q, t' σ H Q → t σ H Q) : PA X es t' := ⟨fun pos pins s σ H Q I q => h.run pos pins s σ H Q I (k σ H Q q)⟩
theorem PS.imp {X : Cx} {st : Stmt} {t t' : TS} (h : PS X st t) (k : ∀ D σ H, t' D σ H → t D σ H) : PS X st t' := ⟨fun pins s σ H D I q => h.run pins s σ H D I (k D σ H q)⟩
theorem PSs.imp {X : Cx} {st : List Stmt} {t t' : TS} (h : PSs X st t) (k : ∀ D σ H, t' D σ H → t D σ H) : PSs X st t' := ⟨fun pins s σ H D I q => h.run pins s σ H D I (k D σ H q)⟩
end DS

/-! DsB: operations on values, by data. -/
namespace DS
open PySem L2 PyProof.Rows

section run
variable {K : Frag} {cn : Nat → Addr} {α : Type} {E : XK} {φ : List Addr} {H : Hp} {S : Sto} {k : List Addr → Hp → Sto → α → Prop} {d : α}
theorem Run.okI (h : Run K cn E φ H (.ok d S) k) (r : RepS K cn φ H S) : k φ H S d := h φ H (Le.refl _ _) r
/-- a new tuple -/
theorem Run.okT (h : Run K cn E φ H (.ok d S) k) (r : RepS K cn φ H S) {p : Addr} {u : HO} (hp : H p = none) : k φ (upd H p u) S d := h φ _ (Le.tupNew hp) (r.tupNew hp)
theorem rep_tup {ds : List D} {xs : List V} {p : Addr} (hp : H p = none) (r : RepVs K φ H ds xs) : RepV K φ (upd H p (.tup xs)) (.tup ds) (.ref p) :=
  ⟨p, xs, rfl, .inl upd_same, r.le (Le.tupNew (φ := φ) hp)⟩
/-- a new place -/
theorem Run.okN {o : Ob} (h : Run K cn E φ H (.ok d (S ++ [o])) k) (r : RepS K cn φ H S) {p : Addr} {u : HO} (hp : H p = none) (ho : RepU K cn φ H o u) : k (φ ++ [p]) (upd H p u) (S ++ [o]) d :=
  h _ _ (Le.new hp) (r.new hp ho)
theorem rep_new {p : Addr} {u : HO} (r : RepS K cn φ H S) : RepV K (φ ++ [p]) (upd H p u) (.loc S.length) (.ref p) := ⟨p, by rw [← r.len]; simp, rfl⟩
/-- a place written -/
theorem Run.okP {o' : Ob} {n : Nat} {a : Addr} {u u' : HO} (h : Run K cn E φ H (.ok d (S.set n o')) k) (r : RepS K cn φ H S) (hn : φ[n]? = some a) (ha : H a = some u) (f : Free u) (ho : RepU K cn φ H o' u') : k φ (upd H a u') (S.set n o') d := by
  refine h _ _ (Le.put ha f) (r.put hn ha f ?_)
  have ru := ho.le (Le.put (φ := φ) (u' := u') ha f)
  cases o' with
  | lk o => exact ho.elim
  | lst ds => exact ⟨u', upd_same, ru⟩
  | dK ds => exact ⟨u', upd_same, ru⟩
  | dT ds => exact ⟨u', upd_same, ru⟩
  | ins c ds => exact ⟨u', upd_same, ru⟩
end run

section
variable {K : Frag} {cn : Nat → Addr} {φ : List Addr} {H : Hp} {S : Sto}
theorem rep_loc {n : Nat} {v : V} {o : Ob} (r : RepS K cn φ H S) (h : RepV K φ H (.loc n) v) (e : S[n]? = some o) : ∃ a, v = .ref a ∧ φ[n]? = some a ∧ RepO K cn φ H a o := by
  obtain ⟨a, h1, h2⟩ := h
  obtain ⟨b, h3, h4⟩ := r.has e
  rw [h1] at h3
  cases h3
  exact ⟨a, h2, h1, h4⟩
theorem rep_lst {n : Nat} {v : V} {ds : List D} (r : RepS K cn φ H S) (h : RepV K φ H (.loc n) v) (e : S[n]? = some (.lst ds)) : ∃ a xs, v = .ref a ∧ φ[n]? = some a ∧ H a = some (.lst xs) ∧ RepVs K φ H ds xs := by
  obtain ⟨a, h2, h1, u, h3, xs, rfl, h5⟩ := rep_loc r h e
  exact ⟨a, xs, h2, h1, h3, h5⟩
theorem free_lst {xs : List V} : Free (.lst xs) := ⟨fun _ z => (nomatch z), fun _ _ z => (nomatch z)⟩
end

/-! ### lists' and tuples' content -/
inductive Sq where | l | t
def seqOf (d : D) (S : Sto) : Option (List D) := match d with
  | .tup ds => some ds
  | .rls ds => some ds
  | .loc n => match S[n]? with
    | some (.lst ds) => some ds
    | _ => none
  | _ => none
section
variable {K : Frag} {cn : Nat → Addr} {φ : List Addr} {H : Hp} {S : Sto}
theorem rep_seq {d : D} {v : V} {ds : List D} (r : RepS K cn φ H S) (h : RepV K φ H d v) (e : seqOf d S = some ds) : ∃ a xs, v = .ref a ∧ (SqL K H a xs ∨ SqT K H a xs) ∧ RepVs K φ H ds xs := by
  unfold seqOf at e
  split at e
  · cases e
    obtain ⟨a, xs, h1, h2, h3⟩ := h
    exact ⟨a, xs, h1, .inr h2.sq, h3⟩
  · cases e
    obtain ⟨a, xs, h1, h2, h3⟩ := h
    exact ⟨a, xs, h1, .inl h2.sq, h3⟩
  · split at e
    · rename_i q
      cases e
      obtain ⟨a, xs, h1, h2, h3, h4⟩ := rep_lst r h q
      exact ⟨a, xs, h1, .inl (SqL.of h3), h4⟩
    · cases e
  · cases e
end

/-! ### implementations -/
def Imp2 (K : Frag) (cn : Nat → Addr) (r : R2) (g : D → D → Sto → R D) : Prop := ∀ (E : XK) (φ : List Addr) (H : Hp) (S : Sto) (d1 d2 : D) (v1 v2 : V) (Q : VK), RepS K cn φ H S → RepV K φ H d1 v1 → RepV K φ H d2 v2 →
  Run K cn E φ H (g d1 d2 S) (fun φ' H' _ d => ∀ v, RepV K φ' H' d v → Q v H') → r v1 v2 H Q
def Imp1 (K : Frag) (cn : Nat → Addr) (r : V → Hp → VK → Prop) (g : D → Sto → R D) : Prop := ∀ (E : XK) (φ : List Addr) (H : Hp) (S : Sto) (d1 : D) (v1 : V) (Q : VK), RepS K cn φ H S → RepV K φ H d1 v1 →
  Run K cn E φ H (g d1 S) (fun φ' H' _ d => ∀ v, RepV K φ' H' d v → Q v H') → r v1 H Q
def ImpN (K : Frag) (cn : Nat → Addr) (r : List V → Hp → VK → Prop) (g : List D → Sto → R D) : Prop := ∀ (E : XK) (φ : List Addr) (H : Hp) (S : Sto) (ds : List D) (vs : List V) (Q : VK), RepS K cn φ H S → RepVs K φ H ds vs →
  Run K cn E φ H (g ds S) (fun φ' H' _ d => ∀ v, RepV K φ' H' d v → Q v H') → r vs H Q
/-- a built-in's method: the receiver, the arguments -/
def ImpM (K : Frag) (cn : Nat → Addr) (r : V → List V → Hp → VK → Prop) (g : D → List D → Sto → R D) : Prop := ∀ (E : XK) (φ : List Addr) (H : Hp) (S : Sto) (d : D) (ds : List D) (v : V) (vs : List V) (Q : VK), RepS K cn φ H S → RepV K φ H d v → RepVs K φ H ds vs →
  Run K cn E φ H (g d ds S) (fun φ' H' _ d => ∀ v, RepV K φ' H' d v → Q v H') → r v vs H Q

open Classical in
noncomputable def gI (C : Int → Int → Prop) (f : Int → Int → D) : D → D → Sto → R D
  | .int i, .int j, S => if C i j then .ok (f i j) S else .no
  | _, _, _ => .no
section
variable {K : Frag} {cn : Nat → Addr}
theorem imp_rI {C : Int → Int → Prop} {f : Int → Int → D} {g : Int → Int → V} (h : ∀ φ H i j v, C i j → v = g i j → RepV K φ H (f i j) v) : Imp2 K cn (rI C g) (gI C f) := by
  intro E φ H S d1 d2 v1 v2 Q rs r1 r2 q
  unfold gI at q
  split at q
  · rename_i i j
    split at q
    · rename_i c
      exact ⟨i, j, r1, r2, c, q.okI rs _ (h φ H i j _ c rfl)⟩
    · exact q.elim
  · exact q.elim
theorem imp_rI0 {f : Int → Int → D} {g : Int → Int → V} (h : ∀ φ H i j v, v = g i j → RepV K φ H (f i j) v) : Imp2 K cn (rI0 g) (gI (fun _ _ => True) f) := by
  intro E φ H S d1 d2 v1 v2 Q rs r1 r2 q
  obtain ⟨i, j, h1, h2, _, h3⟩ := imp_rI (K := K) (cn := cn) (C := fun _ _ => True) (f := f) (g := g) (fun φ H i j v _ e => h φ H i j v e) E φ H S d1 d2 v1 v2 Q rs r1 r2 q
  exact ⟨i, j, h1, h2, h3⟩
end

/-! ### + -/
def rAddA (K : Frag) : R2 := fun x y H Q => rI0 (fun i j => .int (i + j)) x y H Q ∨ ((∃ i j, x = .str i ∧ y = .str j ∧ i.length + j.length ≤ sizeLine ∧ Q (.str (i ++ j)) H) ∨ (rCatA K x y H Q ∨ rCat x y H Q))
theorem op_addA {X : Cx} : OpR X (binaryOp .Add) (rAddA X.K) := op_add.or (op_add_str.or (op_catA.or op_cat))
def gAdd (a b : D) (S : Sto) : R D := match a, b with
  | .int i, .int j => .ok (.int (i + j)) S
  | .str a, .str b => if a.length + b.length ≤ sizeLine then .ok (.str (a ++ b)) S else .no
  | .tup a, .tup b => if a.length + b.length ≤ sizeLine then .ok (.tup (a ++ b)) S else .no
  | .loc a, .loc b => match S[a]?, S[b]? with
    | some (.lst xs), some (.lst ys) => if xs.length + ys.length ≤ sizeLine then .ok (.loc S.length) (S ++ [.lst (xs ++ ys)]) else .no
    | _, _ => .no
  | _, _ => .no
theorem imp_add {K : Frag} {cn : Nat → Addr} : Imp2 K cn (rAddA K) gAdd := by
  intro E φ H S d1 d2 v1 v2 Q rs r1 r2 q
  unfold gAdd at q
  split at q
  · exact .inl ⟨_, _, r1, r2, q.okI rs _ rfl⟩
  · split at q
    · rename_i hz
      exact .inr (.inl ⟨_, _, r1, r2, hz, q.okI rs _ rfl⟩)
    · exact q.elim
  · rename_i da db
    split at q
    · rename_i hz
      obtain ⟨a, xs, rfl, h2, h3⟩ := r1
      obtain ⟨b, ys, rfl, k2, k3⟩ := r2
      have l1 := h3.length
      have l2 := k3.length
      refine .inr (.inr (.inl ⟨a, b, xs, ys, rfl, rfl, h2.sq, k2.sq, by omega, fun e => ?_, fun _ e => ?_, fun _ _ p hp => ?_⟩))
      · subst e
        refine q.okI rs _ ?_
        have : da = [] := List.length_eq_zero_iff.mp l1.symm
        subst this
        exact ⟨b, ys, rfl, k2, k3⟩
      · subst e
        refine q.okI rs _ ?_
        have : db = [] := List.length_eq_zero_iff.mp l2.symm
        subst this
        rw [List.append_nil]
        exact ⟨a, xs, rfl, h2, h3⟩
      · exact q.okT rs hp _ (rep_tup hp (h3.append k3))
    · exact q.elim
  · split at q
    · rename_i e1 e2
      split at q
      · rename_i hz
        obtain ⟨a, xs, rfl, h1, h2, h3⟩ := rep_lst rs r1 e1
        obtain ⟨b, ys, rfl, k1, k2, k3⟩ := rep_lst rs r2 e2
        have l1 := h3.length
        have l2 := k3.length
        exact .inr (.inr (.inr ⟨a, b, xs, ys, rfl, rfl, h2, k2, by omega, fun p hp => q.okN rs hp ⟨_, rfl, h3.append k3⟩ _ (rep_new rs)⟩))
      · exact q.elim
    · exact q.elim
  · exact q.elim
noncomputable def gSub : D → D → Sto → R D := gI (fun _ _ => True) fun i j => .int (i - j)
theorem imp_sub {K : Frag} {cn : Nat → Addr} : Imp2 K cn (rI0 fun i j => .int (i - j)) gSub := imp_rI0 fun _ _ _ _ _ e => e
noncomputable def gMul : D → D → Sto → R D := gI CMul fun i j => .int (i * j)
theorem imp_mul {K : Frag} {cn : Nat → Addr} : Imp2 K cn (rI CMul fun i j => .int (i * j)) gMul := imp_rI fun _ _ _ _ _ _ e => e
noncomputable def gDiv : D → D → Sto → R D := gI CDiv fun i j => .int (i / j)
theorem imp_div {K : Frag} {cn : Nat → Addr} : Imp2 K cn (rI CDiv fun i j => .int (i / j)) gDiv := imp_rI fun _ _ _ _ _ _ e => e
noncomputable def gMod : D → D → Sto → R D := gI (fun _ j => 0 < j) fun i j => .int (i % j)
theorem imp_mod {K : Frag} {cn : Nat → Addr} : Imp2 K cn (rI (fun _ j => 0 < j) fun i j => .int (i % j)) gMod := imp_rI fun _ _ _ _ _ _ e => e
noncomputable def gLt : D → D → Sto → R D := gI (fun _ _ => True) fun i j => .bl (decide (i < j))
theorem imp_lt {K : Frag} {cn : Nat → Addr} : Imp2 K cn (rI0 fun i j => .bl (decide (i < j))) gLt := imp_rI0 fun _ _ _ _ _ e => e
noncomputable def gLe : D → D → Sto → R D := gI (fun _ _ => True) fun i j => .bl (decide (i ≤ j))
theorem imp_le {K : Frag} {cn : Nat → Addr} : Imp2 K cn (rI0 fun i j => .bl (decide (i ≤ j))) gLe := imp_rI0 fun _ _ _ _ _ e => e
noncomputable def gGt : D → D → Sto → R D := gI (fun _ _ => True) fun i j => .bl (decide (j < i))
theorem imp_gt {K : Frag} {cn : Nat → Addr} : Imp2 K cn (rI0 fun i j => .bl (decide (j < i))) gGt := imp_rI0 fun _ _ _ _ _ e => e
noncomputable def gGe : D → D → Sto → R D := gI (fun _ _ => True) fun i j => .bl (decide (j ≤ i))
theorem imp_ge {K : Frag} {cn : Nat → Addr} : Imp2 K cn (rI0 fun i j => .bl (decide (j ≤ i))) gGe := imp_rI0 fun _ _ _ _ _ e => e
def gNeg (d : D) (S : Sto) : R D := match d with
  | .int i => .ok (.int (-i)) S
  | _ => .no
theorem imp_neg {K : Frag} {cn : Nat → Addr} : Imp1 K cn (rU fun i => .int (-i)) gNeg := by
  intro E φ H S d1 v1 Q rs r1 q
  unfold gNeg at q
  split at q
  · exact ⟨_, r1, q.okI rs _ rfl⟩
  · exact q.elim

/-! ### == of data: by what they are as data of the model -/
def leafPy : D → Option PyData
  | .non => some .none
  | .bl b => some (.bool b)
  | .int i => some (.int i)
  | .str x => some (.str x)
  | _ => none
def mapO {α β : Type} (f : α → Option β) : List α → Option (List β)
  | [] => some []
  | d :: ds => match f d, mapO f ds with
    | some p, some ps => some (p :: ps)
    | _, _ => none
def toPy (S : Sto) : Nat → D → Option PyData
  | 0, d => leafPy d
  | n + 1, d => match d with
    | .tup ds => (mapO (toPy S n) ds).map .tuple
    | .rls ds => (mapO (toPy S n) ds).map .list
    | .loc m => match S[m]? with
      | some (.lst ds) => (mapO (toPy S n) ds).map .list
      | _ => none
    | d => leafPy d
section
variable {K : Frag} {cn : Nat → Addr} {φ : List Addr} {H : Hp} {S : Sto}
theorem rep_leaf {d : D} {v : V} {p : PyData} (h : RepV K φ H d v) (e : leafPy d = some p) : Dp K H v p := by
  unfold leafPy at e
  split at e
  · cases e; rw [show v = V.non from h]; exact .non
  · cases e; rename_i b; rw [show v = V.bl b from h]; exact .bl b
  · cases e; rename_i b; rw [show v = V.int b from h]; exact .int b
  · cases e; rename_i b; rw [show v = V.str b from h]; exact .str b
  · cases e
theorem rep_mapO {f : D → Option PyData} (hf : ∀ d v p, RepV K φ H d v → f d = some p → Dp K H v p) : ∀ {ds : List D} {vs : List V} {ps : List PyData}, RepVs K φ H ds vs → mapO f ds = some ps → DpAll K H vs ps
  | [], vs, ps, h, e => by
    unfold mapO at e
    cases e
    rw [show vs = [] from h]
    exact .nil
  | d :: ds, vs, ps, h, e => by
    unfold mapO at e
    split at e
    · rename_i p qs e1 e2
      cases e
      obtain ⟨x, xs, rfl, h2, h3⟩ := h
      exact .cons (hf d x p h2 e1) (rep_mapO hf h3 e2)
    · cases e
theorem rep_py (r : RepS K cn φ H S) : ∀ (n : Nat) (d : D) (v : V) (p : PyData), RepV K φ H d v → toPy S n d = some p → Dp K H v p
  | 0, d, v, p, h, e => rep_leaf h e
  | n + 1, d, v, p, h, e => by
    unfold toPy at e
    split at e
    · obtain ⟨ps, e1, e2⟩ := Option.map_eq_some_iff.mp e
      subst e2
      obtain ⟨a, xs, rfl, h2, h3⟩ := h
      exact .tup h2.sq (rep_mapO (rep_py r n) h3 e1)
    · obtain ⟨ps, e1, e2⟩ := Option.map_eq_some_iff.mp e
      subst e2
      obtain ⟨a, xs, rfl, h2, h3⟩ := h
      exact .lst h2.sq (rep_mapO (rep_py r n) h3 e1)
    · split at e
      · rename_i ds q
        obtain ⟨ps, e1, e2⟩ := Option.map_eq_some_iff.mp e
        subst e2
        obtain ⟨a, xs, rfl, h1, h2, h3⟩ := rep_lst r h q
        exact .lst (SqL.of h2) (rep_mapO (rep_py r n) h3 e1)
      · cases e
    · exact rep_leaf h e
end
/-- the depth that == goes down to here -/
abbrev eqDeep : Nat := 64
def gEq (a b : D) (S : Sto) : R D := match toPy S eqDeep a, toPy S eqDeep b with
  | some p, some q => if SeqAt.shaped p = true ∧ SeqAt.shaped q = true then .ok (.bl (PyData.eqv p q)) S else .no
  | _, _ => .no
def gNe (a b : D) (S : Sto) : R D := match toPy S eqDeep a, toPy S eqDeep b with
  | some p, some q => if SeqAt.shaped p = true ∧ SeqAt.shaped q = true then .ok (.bl (!PyData.eqv p q)) S else .no
  | _, _ => .no
theorem imp_eq {K : Frag} {cn : Nat → Addr} : Imp2 K cn (rEqD K) gEq := by
  intro E φ H S d1 d2 v1 v2 Q rs r1 r2 q
  unfold gEq at q
  split at q
  · rename_i p1 p2 e1 e2
    split at q
    · rename_i c
      exact ⟨p1, p2, rep_py rs _ _ _ _ r1 e1, rep_py rs _ _ _ _ r2 e2, c.1, c.2, q.okI rs _ rfl⟩
    · exact q.elim
  · exact q.elim
theorem imp_ne {K : Frag} {cn : Nat → Addr} : Imp2 K cn (rNeD K) gNe := by
  intro E φ H S d1 d2 v1 v2 Q rs r1 r2 q
  unfold gNe at q
  split at q
  · rename_i p1 p2 e1 e2
    split at q
    · rename_i c
      exact ⟨p1, p2, rep_py rs _ _ _ _ r1 e1, rep_py rs _ _ _ _ r2 e2, c.1, c.2, q.okI rs _ rfl⟩
    · exact q.elim
  · exact q.elim
/-! ### is None -/
def isNon : D → Bool
  | .non => true
  | _ => false
theorem rep_non {K : Frag} {φ : List Addr} {H : Hp} {d : D} {v : V} (r : RepV K φ H d v) : isNon d = decide (v = .non) := by
  cases d with
  | non => rw [show v = V.non from r]; rfl
  | bl b => rw [show v = V.bl b from r]; rfl
  | int b => rw [show v = V.int b from r]; rfl
  | str b => rw [show v = V.str b from r]; rfl
  | ty b => rw [show v = V.ty b from r]; rfl
  | tup b => obtain ⟨a, _, rfl, _⟩ := r; rfl
  | rls b => obtain ⟨a, _, rfl, _⟩ := r; rfl
  | loc b => obtain ⟨a, _, rfl⟩ := r; rfl
def gIsN (a b : D) (S : Sto) : R D := match b with
  | .non => .ok (.bl (isNon a)) S
  | _ => .no
def gNotN (a b : D) (S : Sto) : R D := match b with
  | .non => .ok (.bl (!isNon a)) S
  | _ => .no
theorem imp_isN {K : Frag} {cn : Nat → Addr} : Imp2 K cn (fun x y H Q => y = .non ∧ Q (.bl (decide (x = .non))) H) gIsN := by
  intro E φ H S d1 d2 v1 v2 Q rs r1 r2 q
  unfold gIsN at q
  split at q
  · exact ⟨r2, by rw [← rep_non r1]; exact q.okI rs _ rfl⟩
  · exact q.elim
theorem imp_notN {K : Frag} {cn : Nat → Addr} : Imp2 K cn (fun x y H Q => y = .non ∧ Q (.bl (!decide (x = .non))) H) gNotN := by
  intro E φ H S d1 d2 v1 v2 Q rs r1 r2 q
  unfold gNotN at q
  split at q
  · exact ⟨r2, by rw [← rep_non r1]; exact q.okI rs _ rfl⟩
  · exact q.elim

/-! ### dicts -/
def keyD : D → Option L2.Key
  | .int i => some (.inl i)
  | .str x => some (.inr x)
  | _ => none
def keysD : List D → Option (List L2.Key)
  | [] => some []
  | d :: ds => match keyD d, keysD ds with
    | some k, some ks => some (k :: ks)
    | _, _ => none
def Ob.un : Ob → Ob
  | .lk o => o
  | o => o
def getK {κ : Type} [DecidableEq κ] (kvs : List (κ × D)) (k : κ) : Option D := (kvs.find? fun kv => decide (kv.1 = k)).map (·.2)
def setK {κ : Type} [DecidableEq κ] (kvs : List (κ × D)) (k : κ) (v : D) : List (κ × D) :=
  if (kvs.any fun kv => decide (kv.1 = k)) = true then kvs.map (fun kv => if kv.1 = k then (kv.1, v) else kv) else kvs ++ [(k, v)]
def delK {κ : Type} [DecidableEq κ] (kvs : List (κ × D)) (k : κ) : List (κ × D) := kvs.filter fun kv => decide (kv.1 ≠ k)
section
variable {K : Frag} {cn : Nat → Addr} {φ : List Addr} {H : Hp} {S : Sto}
theorem rep_key {d : D} {v : V} {k : L2.Key} (r : RepV K φ H d v) (e : keyD d = some k) : v = kV k := by
  unfold keyD at e
  split at e
  · cases e; exact r
  · cases e; exact r
  · cases e
theorem rep_keys : ∀ {ds : List D} {vs : List V} {ks : List L2.Key}, RepVs K φ H ds vs → keysD ds = some ks → vs = ks.map kV
  | [], vs, ks, r, e => by
    unfold keysD at e
    cases e
    exact r
  | d :: ds, vs, ks, r, e => by
    unfold keysD at e
    split at e
    · rename_i k ks' e1 e2
      cases e
      obtain ⟨x, xs, rfl, h2, h3⟩ := r
      rw [rep_key h2 e1, rep_keys h3 e2]
      rfl
    · cases e
end
end DS

/-! DsC: subscripts, in, slices, stores, built-in functions and methods, by data. -/
namespace DS
open PySem L2 PyProof.Rows

/-! ### tables by keys -/
section
variable {K : Frag} {cn : Nat → Addr} {φ : List Addr} {H : Hp} {S : Sto} {κ : Type} [DecidableEq κ]
theorem RepK.length : ∀ {kvs : List (κ × D)} {xs : List (κ × V)}, RepK K φ H kvs xs → xs.length = kvs.length
  | [], xs, h => by unfold RepK at h; rw [h]; rfl
  | (k, d) :: kvs, xs, h => by
    unfold RepK at h
    obtain ⟨x, ys, rfl, h2, h3⟩ := h
    simp [RepK.length h3]
theorem RepK.keys : ∀ {kvs : List (κ × D)} {xs : List (κ × V)}, RepK K φ H kvs xs → xs.map (·.1) = kvs.map (·.1)
  | [], xs, h => by unfold RepK at h; rw [h]; rfl
  | (k, d) :: kvs, xs, h => by
    unfold RepK at h
    obtain ⟨x, ys, rfl, h2, h3⟩ := h
    simp [RepK.keys h3]
theorem getK_nil {k : κ} : getK ([] : List (κ × D)) k = none := rfl
theorem getK_pos {p : κ × D} {r : List (κ × D)} {k : κ} (e : p.1 = k) : getK (p :: r) k = some p.2 := by simp [getK, List.find?_cons, e]
theorem getK_neg {p : κ × D} {r : List (κ × D)} {k : κ} (e : ¬ p.1 = k) : getK (p :: r) k = getK r k := by simp [getK, List.find?_cons, e]
theorem RepK.get : ∀ {kvs : List (κ × D)} {xs : List (κ × V)} {k : κ} {d : D}, RepK K φ H kvs xs → getK kvs k = some d → ∃ v, valV xs k = some v ∧ RepV K φ H d v
  | [], xs, k, d, h, e => by rw [getK_nil] at e; cases e
  | (k', d') :: kvs, xs, k, d, h, e => by
    unfold RepK at h
    obtain ⟨x, ys, rfl, h2, h3⟩ := h
    by_cases hk : k' = k
    · rw [getK_pos hk] at e
      cases e
      exact ⟨x, valV_pos hk, h2⟩
    · rw [getK_neg hk] at e
      obtain ⟨v, e1, e2⟩ := RepK.get h3 e
      exact ⟨v, by rw [valV_neg hk]; exact e1, e2⟩
theorem RepK.getN : ∀ {kvs : List (κ × D)} {xs : List (κ × V)} {k : κ}, RepK K φ H kvs xs → (getK kvs k).isSome = (valV xs k).isSome
  | [], xs, k, h => by unfold RepK at h; rw [h]; rfl
  | (k', d') :: kvs, xs, k, h => by
    unfold RepK at h
    obtain ⟨x, ys, rfl, h2, h3⟩ := h
    by_cases hk : k' = k
    · rw [getK_pos hk, valV_pos hk]; rfl
    · rw [getK_neg hk, valV_neg hk]; exact RepK.getN h3
theorem RepK.append : ∀ {kvs lvs : List (κ × D)} {xs ys : List (κ × V)}, RepK K φ H kvs xs → RepK K φ H lvs ys → RepK K φ H (kvs ++ lvs) (xs ++ ys)
  | [], lvs, xs, ys, h, t => by unfold RepK at h; rw [h]; exact t
  | (k, d) :: kvs, lvs, xs, ys, h, t => by
    unfold RepK at h
    obtain ⟨x, zs, rfl, h2, h3⟩ := h
    exact ⟨x, zs ++ ys, rfl, h2, RepK.append h3 t⟩
theorem RepK.mapSet {k : κ} {d : D} {v : V} (r : RepV K φ H d v) : ∀ {kvs : List (κ × D)} {xs : List (κ × V)}, RepK K φ H kvs xs →
    RepK K φ H (kvs.map fun kv => if kv.1 = k then (kv.1, d) else kv) (xs.map fun kv => if kv.1 = k then (kv.1, v) else kv)
  | [], xs, h => by unfold RepK at h; rw [h]; rfl
  | (k', d') :: kvs, xs, h => by
    unfold RepK at h
    obtain ⟨x, ys, rfl, h2, h3⟩ := h
    have ih := RepK.mapSet (k := k) r h3
    by_cases hk : k' = k
    · simp only [List.map_cons, if_pos hk]
      exact ⟨v, _, rfl, r, ih⟩
    · simp only [List.map_cons, if_neg hk]
      exact ⟨x, _, rfl, h2, ih⟩
theorem RepK.any {k : κ} {kvs : List (κ × D)} {xs : List (κ × V)} (h : RepK K φ H kvs xs) : (xs.any fun kv => decide (kv.1 = k)) = (kvs.any fun kv => decide (kv.1 = k)) := by
  have e := h.keys
  have e1 : (xs.any fun kv => decide (kv.1 = k)) = (xs.map (·.1)).any fun j => decide (j = k) := by rw [List.any_map]; rfl
  have e2 : (kvs.any fun kv => decide (kv.1 = k)) = (kvs.map (·.1)).any fun j => decide (j = k) := by rw [List.any_map]; rfl
  rw [e1, e2, e]
theorem RepK.put {kvs : List (κ × D)} {xs : List (κ × V)} {k : κ} {d : D} {v : V} (h : RepK K φ H kvs xs) (r : RepV K φ H d v) : RepK K φ H (setK kvs k d) (putK xs k v) := by
  unfold setK putK
  rw [h.any]
  split
  · exact h.mapSet r
  · exact h.append ⟨v, [], rfl, r, rfl⟩
theorem RepK.drop {k : κ} : ∀ {kvs : List (κ × D)} {xs : List (κ × V)}, RepK K φ H kvs xs → RepK K φ H (delK kvs k) (dropK xs k)
  | [], xs, h => by unfold RepK at h; rw [h]; rfl
  | (k', d') :: kvs, xs, h => by
    unfold RepK at h
    obtain ⟨x, ys, rfl, h2, h3⟩ := h
    have ih := RepK.drop (k := k) h3
    unfold delK dropK at ih ⊢
    by_cases hk : k' = k
    · rw [List.filter_cons_of_neg (by simp [hk]), List.filter_cons_of_neg (by simp [hk])]
      exact ih
    · rw [List.filter_cons_of_pos (by simp [hk]), List.filter_cons_of_pos (by simp [hk])]
      exact ⟨x, _, rfl, h2, ih⟩
end
section
variable {K : Frag} {cn : Nat → Addr} {φ : List Addr} {H : Hp} {S : Sto}
theorem RepO.rd {o : Ob} {a : Addr} {kvs : List (L2.Key × D)} (h : RepO K cn φ H a o) (e : o.un = .dK kvs) : ∃ xs, Rd H a (.dK xs) ∧ RepK K φ H kvs xs := by
  cases o with
  | lk o =>
    obtain ⟨ob, u, h1, h2⟩ := h
    rw [show o = .dK kvs from e] at h2
    obtain ⟨xs, rfl, h3⟩ := h2
    exact ⟨xs, .inr ⟨ob, h1⟩, h3⟩
  | dK l =>
    obtain ⟨u, h1, xs, rfl, h3⟩ := h
    cases e
    exact ⟨xs, .inl h1, h3⟩
  | lst l => cases e
  | dT l => cases e
  | ins c l => cases e
end

/-! ### a[b] -/
def rIxD : R2 := fun x y H Q => ∃ a v, x = .ref a ∧ DGet H a y (some v) ∧ Q v H
theorem ix_dict {X : Cx} (hu : X.A.units + 1 < cLine) : IxR X rIxD := by
  intro value slice pins s σ H x y v u Q I rx ry h hs
  obtain ⟨a, z, rfl, g, q⟩ := h
  cases rx
  exact tail_any (dict_typeIs I g) PySem.F.slot_dict_getitem.lookup (d_getItem hu I g ry fun w' s3 I3 rw' => ⟨z, H, I3, rw', q⟩) hs
def rIxA (K : Frag) : R2 := fun x y H Q => rIxL K x y H Q ∨ (rIxT K x y H Q ∨ (rIxS x y H Q ∨ rIxD x y H Q))
theorem ix_any {X : Cx} (hu : X.A.units + 1 < cLine) : IxR X (rIxA X.K) := ix_list.or (ix_tup.or (ix_str.or (ix_dict hu)))
def dictAt (d : D) (S : Sto) : Option (List (L2.Key × D)) := match d with
  | .loc n => match (S[n]?).map Ob.un with
    | some (.dK kvs) => some kvs
    | _ => none
  | _ => none
def gIx (a b : D) (S : Sto) : R D := match seqOf a S with
  | some ds => match b with
    | .int i => match atI ds i with
      | some d => .ok d S
      | none => .no
    | _ => .no
  | none => match dictAt a S with
    | some kvs => match keyD b with
      | some k => match getK kvs k with
        | some d => .ok d S
        | none => .no
      | none => .no
    | none => match a, b with
      | .str z, .int i => if z.length ≤ sizeLine then (match atI z.cps.toList i with
        | some c => .ok (.str ⟨#[c]⟩) S
        | none => .no) else .no
      | _, _ => .no
section
variable {K : Frag} {cn : Nat → Addr} {φ : List Addr} {H : Hp} {S : Sto}
theorem rep_dict {d : D} {v : V} {kvs : List (L2.Key × D)} (r : RepS K cn φ H S) (h : RepV K φ H d v) (e : dictAt d S = some kvs) : ∃ n o a xs, d = .loc n ∧ S[n]? = some o ∧ o.un = .dK kvs ∧ v = .ref a ∧ φ[n]? = some a ∧ Rd H a (.dK xs) ∧ RepK K φ H kvs xs ∧ RepO K cn φ H a o := by
  unfold dictAt at e
  split at e
  · rename_i n
    split at e
    · rename_i q
      cases e
      obtain ⟨o, e1, e2⟩ := Option.map_eq_some_iff.mp q
      obtain ⟨a, h2, h1, h3⟩ := rep_loc r h e1
      obtain ⟨xs, h4, h5⟩ := h3.rd e2
      exact ⟨n, o, a, xs, rfl, e1, e2, h2, h1, h4, h5, h3⟩
    · cases e
  · cases e
theorem rep_at {ds : List D} {xs : List V} {i : Int} {d : D} (h : RepVs K φ H ds xs) (e : atI ds i = some d) : ∃ v, atI xs i = some v ∧ RepV K φ H d v := by
  unfold atI at e ⊢
  rw [h.length]
  cases q : ixN ds.length i with
  | none => rw [q] at e; cases e
  | some j =>
    rw [q] at e
    exact h.get e
theorem imp_ix : Imp2 K cn (rIxA K) gIx := by
  intro E φ H S d1 d2 v1 v2 Q rs r1 r2 q
  unfold gIx at q
  split at q
  · rename_i ds e1
    split at q
    · rename_i i
      split at q
      · rename_i d e2
        obtain ⟨a, xs, rfl, h2, h3⟩ := rep_seq rs r1 e1
        obtain ⟨v, e3, r3⟩ := rep_at h3 e2
        rcases h2 with h2 | h2
        · exact .inl ⟨a, xs, i, v, rfl, r2, h2, e3, q.okI rs _ r3⟩
        · exact .inr (.inl ⟨a, xs, i, v, rfl, r2, h2, e3, q.okI rs _ r3⟩)
      · exact q.elim
    · exact q.elim
  · split at q
    · rename_i kvs e1
      split at q
      · rename_i k e2
        split at q
        · rename_i d e3
          obtain ⟨n, o, a, xs, rfl, h1, h2, rfl, h4, h5, h6, h7⟩ := rep_dict rs r1 e1
          obtain ⟨v, h8, h9⟩ := h6.get e3
          exact .inr (.inr (.inr ⟨a, v, rfl, .inl ⟨xs, k, h5, rep_key r2 e2, h8.symm⟩, q.okI rs _ h9⟩))
        · exact q.elim
      · exact q.elim
    · split at q
      · split at q
        · rename_i hz
          split at q
          · rename_i c e
            exact .inr (.inr (.inl ⟨_, _, c, r1, r2, hz, e, q.okI rs _ rfl⟩))
          · exact q.elim
        · exact q.elim
      · exact q.elim
end

/-! ### in, not in -/
def rInP (K : Frag) (neg : Bool) : R2 := fun x y H Q => ∃ d ds, Dp K H x d ∧ Dp K H y (.tuple ds) ∧ SeqAt.shaped d = true ∧ SeqAt.shaped (.tuple ds) = true ∧ Q (.bl (if neg then !(ds.any fun z => PyData.eqv z d) else ds.any fun z => PyData.eqv z d)) H
theorem op_inP {X : Cx} (hu : X.A.units + 65 < cLine) : OpR X (compareOp .In) (rInP X.K false) := by
  intro pins s σ H x y v u Q I rx ry h
  obtain ⟨d, ds, hd, he, sd, se, q⟩ := h
  obtain ⟨as, r1⟩ := Dp.reads I d x v hd rx
  obtain ⟨bs, r2⟩ := Dp.reads I (.tuple ds) y u he ry
  exact SeqAt.in_tuple_reads r2 r1 (SeqAt.canLay_of_shaped se) (SeqAt.canLay_of_shaped sd) (room_in_shaped sd hu) ⟨.bl _, H, I, rfl, q⟩
theorem op_notInP {X : Cx} (hu : X.A.units + 65 < cLine) : OpR X (compareOp .NotIn) (rInP X.K true) := by
  intro pins s σ H x y v u Q I rx ry h
  obtain ⟨d, ds, hd, he, sd, se, q⟩ := h
  obtain ⟨as, r1⟩ := Dp.reads I d x v hd rx
  obtain ⟨bs, r2⟩ := Dp.reads I (.tuple ds) y u he ry
  exact SeqAt.notIn_tuple_reads r2 r1 (SeqAt.canLay_of_shaped se) (SeqAt.canLay_of_shaped sd) (room_in_shaped sd hu) ⟨.bl _, H, I, rfl, q⟩
def rDIn : R2 := fun y x H Q => ∃ a o, x = .ref a ∧ DGet H a y o ∧ Q (.bl o.isSome) H
def rDNotIn : R2 := fun y x H Q => ∃ a o, x = .ref a ∧ DGet H a y o ∧ Q (.bl (!o.isSome)) H
theorem op_dIn {X : Cx} (hu : X.A.units + 1 < cLine) : OpR X (compareOp .In) rDIn := by
  intro pins s σ H y x iv u Q I ry rx h
  obtain ⟨a, o, ex, g, q⟩ := h
  subst ex
  obtain rfl : u = Value.ref a := rx
  exact d_in hu I g ry fun s3 I3 => ⟨.bl o.isSome, H, I3, rfl, q⟩
theorem op_dNotIn {X : Cx} (hu : X.A.units + 1 < cLine) : OpR X (compareOp .NotIn) rDNotIn := by
  intro pins s σ H y x iv u Q I ry rx h
  obtain ⟨a, o, ex, g, q⟩ := h
  subst ex
  obtain rfl : u = Value.ref a := rx
  exact d_notIn hu I g ry fun s3 I3 => ⟨.bl (!o.isSome), H, I3, rfl, q⟩
def rInAll (K : Frag) : R2 := fun x y H Q => rInD K x y H Q ∨ (rInP K false x y H Q ∨ rDIn x y H Q)
def rNotInAll (K : Frag) : R2 := fun x y H Q => rNotInD K x y H Q ∨ (rInP K true x y H Q ∨ rDNotIn x y H Q)
theorem op_inAll {X : Cx} (hu : X.A.units + 65 < cLine) : OpR X (compareOp .In) (rInAll X.K) := (op_inD hu).or ((op_inP hu).or (op_dIn (by omega)))
theorem op_notInAll {X : Cx} (hu : X.A.units + 65 < cLine) : OpR X (compareOp .NotIn) (rNotInAll X.K) := (op_notInD hu).or ((op_notInP hu).or (op_dNotIn (by omega)))
def inB (x y : D) (S : Sto) : Option Bool := match toPy S eqDeep y with
  | some p => match toPy S eqDeep x with
    | some d => match p with
      | .list ds => if SeqAt.shaped d = true ∧ SeqAt.shaped (.list ds) = true then some (ds.any fun z => PyData.eqv z d) else none
      | .tuple ds => if SeqAt.shaped d = true ∧ SeqAt.shaped (.tuple ds) = true then some (ds.any fun z => PyData.eqv z d) else none
      | _ => none
    | none => none
  | none => match dictAt y S with
    | some kvs => (keyD x).map fun k => (getK kvs k).isSome
    | none => none
def gIn (x y : D) (S : Sto) : R D := match inB x y S with
  | some b => .ok (.bl b) S
  | none => .no
def gNotIn (x y : D) (S : Sto) : R D := match inB x y S with
  | some b => .ok (.bl (!b)) S
  | none => .no
section
variable {K : Frag} {cn : Nat → Addr} {φ : List Addr} {H : Hp} {S : Sto}
theorem rep_in {d1 d2 : D} {v1 v2 : V} {b : Bool} (rs : RepS K cn φ H S) (r1 : RepV K φ H d1 v1) (r2 : RepV K φ H d2 v2) (e : inB d1 d2 S = some b) :
    (∀ Q : VK, Q (.bl b) H → rInAll K v1 v2 H Q) ∧ ∀ Q : VK, Q (.bl (!b)) H → rNotInAll K v1 v2 H Q := by
  unfold inB at e
  split at e
  · rename_i p e1
    split at e
    · rename_i d e2
      split at e
      · rename_i ds
        split at e
        · rename_i c
          cases e
          exact ⟨fun Q q => .inl ⟨d, ds, rep_py rs _ _ _ _ r1 e2, rep_py rs _ _ _ _ r2 e1, c.1, c.2, q⟩, fun Q q => .inl ⟨d, ds, rep_py rs _ _ _ _ r1 e2, rep_py rs _ _ _ _ r2 e1, c.1, c.2, q⟩⟩
        · cases e
      · rename_i ds
        split at e
        · rename_i c
          cases e
          exact ⟨fun Q q => .inr (.inl ⟨d, ds, rep_py rs _ _ _ _ r1 e2, rep_py rs _ _ _ _ r2 e1, c.1, c.2, q⟩), fun Q q => .inr (.inl ⟨d, ds, rep_py rs _ _ _ _ r1 e2, rep_py rs _ _ _ _ r2 e1, c.1, c.2, q⟩)⟩
        · cases e
      · cases e
    · cases e
  · split at e
    · rename_i kvs e1
      obtain ⟨k, e2, e3⟩ := Option.map_eq_some_iff.mp e
      obtain ⟨n, o, a, xs, rfl, h1, h2, rfl, h4, h5, h6, h7⟩ := rep_dict rs r2 e1
      subst e3
      rw [h6.getN]
      have g : DGet H a v1 (valV xs k) := .inl ⟨xs, k, h5, rep_key r1 e2, rfl⟩
      exact ⟨fun Q q => .inr (.inr ⟨a, _, rfl, g, q⟩), fun Q q => .inr (.inr ⟨a, _, rfl, g, q⟩)⟩
    · cases e
theorem imp_in : Imp2 K cn (rInAll K) gIn := by
  intro E φ H S d1 d2 v1 v2 Q rs r1 r2 q
  unfold gIn at q
  split at q
  · rename_i b e
    exact (rep_in rs r1 r2 e).1 _ (q.okI rs _ rfl)
  · exact q.elim
theorem imp_notIn : Imp2 K cn (rNotInAll K) gNotIn := by
  intro E φ H S d1 d2 v1 v2 Q rs r1 r2 q
  unfold gNotIn at q
  split at q
  · rename_i b e
    exact (rep_in rs r1 r2 e).2 _ (q.okI rs _ rfl)
  · exact q.elim
end

/-! ### slices -/
def cutD (ds : List D) (lo hi : Option Int) : List D := (ds.drop (HT.sIx ds.length 0 lo)).take (HT.sIx ds.length ds.length hi - HT.sIx ds.length 0 lo)
def rSlAll (K : Frag) : V → Option Int → Option Int → Hp → VK → Prop := fun x lo hi H Q => rSlA K x lo hi H Q ∨ rSlL K x lo hi H Q
theorem sl_all {X : Cx} : SlR X (rSlAll X.K) := sl_tupA.or sl_list
def gSl (d : D) (lo hi : Option Int) (S : Sto) : R D := match d with
  | .tup ds => .ok (.tup (cutD ds lo hi)) S
  | .loc n => match S[n]? with
    | some (.lst ds) => .ok (.loc S.length) (S ++ [.lst (cutD ds lo hi)])
    | _ => .no
  | _ => .no
section
variable {K : Frag} {cn : Nat → Addr} {φ : List Addr} {H : Hp} {S : Sto}
theorem rep_cut {ds : List D} {xs : List V} (lo hi : Option Int) (r : RepVs K φ H ds xs) : RepVs K φ H (cutD ds lo hi) (cutV xs lo hi) := by
  unfold cutD cutV
  rw [r.length]
  exact (r.drop _).take _
theorem imp_sl (E : XK) {d : D} {v : V} {lo hi : Option Int} {Q : VK} (rs : RepS K cn φ H S) (r : RepV K φ H d v)
    (q : Run K cn E φ H (gSl d lo hi S) fun φ' H' _ d => ∀ v, RepV K φ' H' d v → Q v H') : rSlAll K v lo hi H Q := by
  unfold gSl at q
  split at q
  · rename_i ds
    obtain ⟨a, xs, rfl, h2, h3⟩ := r
    refine .inl ⟨a, xs, rfl, h2.sq, fun hw => ?_, fun _ p hp => ?_⟩
    · refine q.okI rs _ ⟨a, xs, rfl, h2, ?_⟩
      have e : cutV xs lo hi = xs := by
        unfold cutV
        rw [hw.1, hw.2, List.drop_zero, Nat.sub_zero, List.take_length]
      have := rep_cut lo hi h3
      rw [e] at this
      exact this
    · exact q.okT rs hp _ (rep_tup hp (rep_cut lo hi h3))
  · split at q
    · rename_i e
      obtain ⟨a, xs, rfl, h1, h2, h3⟩ := rep_lst rs r e
      exact .inr ⟨a, xs, rfl, SqL.of h2, fun p hp => q.okN rs hp ⟨_, rfl, rep_cut lo hi h3⟩ _ (rep_new rs)⟩
    · exact q.elim
  · exact q.elim
end

/-! ### o[i] = v -/
theorem PSet.or {X : Cx} {r r' : TSet} (h : PSet X r) (h' : PSet X r') : PSet X (fun o i v H Q => r o i v H Q ∨ r' o i v H Q) := by
  intro pins s σ H o i v ov iv u Q I ro ri rv q
  rcases q with q | q
  · exact h pins s σ H o i v ov iv u Q I ro ri rv q
  · exact h' pins s σ H o i v ov iv u Q I ro ri rv q
def rSetA : TSet := fun o i v H Q => rSetL o i v H Q ∨ rSetD o i v H Q
theorem set_all {X : Cx} (hu : X.A.units + 1 < cLine) : PSet X rSetA := PSet.or set_list (set_dict hu)
def gSet (o i v : D) (S : Sto) : R Unit := match o with
  | .loc n => match S[n]? with
    | some (.lst ds) => match i with
      | .int k => match ixN ds.length k with
        | some j => .ok () (S.set n (.lst (ds.set j v)))
        | none => .no
      | _ => .no
    | some (.dK kvs) => match keyD i with
      | some k => if kvs.length < sizeLine then .ok () (S.set n (.dK (setK kvs k v))) else .no
      | none => .no
    | _ => .no
  | _ => .no
section
variable {K : Frag} {cn : Nat → Addr} {φ : List Addr} {H : Hp} {S : Sto}
theorem rep_dK {n : Nat} {v : V} {kvs : List (L2.Key × D)} (r : RepS K cn φ H S) (h : RepV K φ H (.loc n) v) (e : S[n]? = some (.dK kvs)) : ∃ a xs, v = .ref a ∧ φ[n]? = some a ∧ H a = some (.dK xs) ∧ RepK K φ H kvs xs := by
  obtain ⟨a, h2, h1, u, h3, xs, rfl, h5⟩ := rep_loc r h e
  exact ⟨a, xs, h2, h1, h3, h5⟩
theorem free_dK {xs : List (L2.Key × V)} : Free (.dK xs) := ⟨fun _ z => (nomatch z), fun _ _ z => (nomatch z)⟩
theorem imp_set (E : XK) {o i d : D} {vo vi v : V} {Q : Hp → Prop} (rs : RepS K cn φ H S) (r1 : RepV K φ H o vo) (r2 : RepV K φ H i vi) (r3 : RepV K φ H d v)
    (q : Run K cn E φ H (gSet o i d S) fun φ' H' _ _ => Q H') : rSetA vo vi v H Q := by
  unfold gSet at q
  split at q
  · rename_i n
    split at q
    · rename_i ds e
      split at q
      · rename_i k
        split at q
        · rename_i j ej
          obtain ⟨a, xs, rfl, h1, h2, h3⟩ := rep_lst rs r1 e
          exact .inl ⟨a, xs, k, j, rfl, r2, h2, by rw [h3.length]; exact ej, q.okP rs h1 h2 free_lst ⟨_, rfl, h3.set j r3⟩⟩
        · exact q.elim
      · exact q.elim
    · rename_i kvs e
      split at q
      · rename_i k ek
        split at q
        · rename_i hz
          obtain ⟨a, xs, rfl, h1, h2, h3⟩ := rep_dK rs r1 e
          exact .inr ⟨a, _, rfl, .inl ⟨xs, k, h2, rep_key r2 ek, by rw [h3.length]; exact hz, rfl⟩, q.okP rs h1 h2 free_dK ⟨_, rfl, h3.put r3⟩⟩
        · exact q.elim
      · exact q.elim
    · exact q.elim
  · exact q.elim
end

/-! ### built-in functions -/
def rLenA (K : Frag) : List V → Hp → VK → Prop := fun xs H Q => (∃ p ys, xs = [.ref p] ∧ (SqL K H p ys ∨ SqT K H p ys) ∧ Q (.int ys.length) H) ∨ ((∃ z, xs = [.str z] ∧ z.length ≤ sizeLine ∧ Q (.int z.length) H) ∨ ∃ a kvs, xs = [V.ref a] ∧ H a = some (.dK kvs) ∧ Q (.int kvs.length) H)
theorem call_lenA {X : Cx} : CallR X (.builtin "len") (rLenA X.K) := call_len_seq.or (call_len_str.or call_lenD)
def gLen (ds : List D) (S : Sto) : R D := match ds with
  | [d] => match seqOf d S with
    | some xs => .ok (.int xs.length) S
    | none => match d with
      | .str z => if z.length ≤ sizeLine then .ok (.int z.length) S else .no
      | .loc n => match S[n]? with
        | some (.dK kvs) => .ok (.int kvs.length) S
        | _ => .no
      | _ => .no
  | _ => .no
section
variable {K : Frag} {cn : Nat → Addr}
theorem rep_one {φ : List Addr} {H : Hp} {d : D} {vs : List V} (h : RepVs K φ H [d] vs) : ∃ v, vs = [v] ∧ RepV K φ H d v := by
  obtain ⟨x, xs, rfl, h2, h3⟩ := h
  rw [show xs = [] from h3]
  exact ⟨x, rfl, h2⟩
theorem rep_two {φ : List Addr} {H : Hp} {d e : D} {vs : List V} (h : RepVs K φ H [d, e] vs) : ∃ v u, vs = [v, u] ∧ RepV K φ H d v ∧ RepV K φ H e u := by
  obtain ⟨x, xs, rfl, h2, h3⟩ := h
  obtain ⟨y, rfl, h4⟩ := rep_one h3
  exact ⟨x, y, rfl, h2, h4⟩
theorem imp_len : ImpN K cn (rLenA K) gLen := by
  intro E φ H S ds vs Q rs r q
  unfold gLen at q
  split at q
  · rename_i d
    obtain ⟨v, rfl, r1⟩ := rep_one r
    split at q
    · rename_i xs e
      obtain ⟨a, ys, rfl, h2, h3⟩ := rep_seq rs r1 e
      refine .inl ⟨a, ys, rfl, h2, ?_⟩
      rw [h3.length]
      exact q.okI rs _ rfl
    · split at q
      · split at q
        · rename_i hz
          rw [show v = V.str _ from r1]
          exact .inr (.inl ⟨_, rfl, hz, q.okI rs _ rfl⟩)
        · exact q.elim
      · split at q
        · rename_i e
          obtain ⟨a, xs, rfl, h1, h2, h3⟩ := rep_dK rs r1 e
          refine .inr (.inr ⟨a, xs, rfl, h2, ?_⟩)
          rw [h3.length]
          exact q.okI rs _ rfl
        · exact q.elim
      · exact q.elim
  · exact q.elim
def gAbs (ds : List D) (S : Sto) : R D := match ds with
  | [.int i] => .ok (.int (if i < 0 then -i else i)) S
  | _ => .no
theorem imp_abs : ImpN K cn (fun xs H Q => ∃ i, xs = [.int i] ∧ Q (.int (if i < 0 then -i else i)) H) gAbs := by
  intro E φ H S ds vs Q rs r q
  unfold gAbs at q
  split at q
  · obtain ⟨v, rfl, r1⟩ := rep_one r
    rw [show v = V.int _ from r1]
    exact ⟨_, rfl, q.okI rs _ rfl⟩
  · exact q.elim
def gInt (ds : List D) (S : Sto) : R D := match ds with
  | [.int i] => .ok (.int i) S
  | [.bl b] => .ok (.int (if b then 1 else 0)) S
  | _ => .no
theorem imp_int : ImpN K cn (fun xs H Q => (∃ i, xs = [.int i] ∧ Q (.int i) H) ∨ ∃ k, xs = [.bl k] ∧ Q (.int (if k then 1 else 0)) H) gInt := by
  intro E φ H S ds vs Q rs r q
  unfold gInt at q
  split at q
  · obtain ⟨v, rfl, r1⟩ := rep_one r
    rw [show v = V.int _ from r1]
    exact .inl ⟨_, rfl, q.okI rs _ rfl⟩
  · obtain ⟨v, rfl, r1⟩ := rep_one r
    rw [show v = V.bl _ from r1]
    exact .inr ⟨_, rfl, q.okI rs _ rfl⟩
  · exact q.elim
def intsOf : List D → Option (List Int)
  | [] => some []
  | .int i :: ds => (intsOf ds).map (i :: ·)
  | _ :: _ => none
theorem rep_ints {φ : List Addr} {H : Hp} : ∀ {ds : List D} {vs : List V} {ns : List Int}, RepVs K φ H ds vs → intsOf ds = some ns → vs = ns.map V.int
  | [], vs, ns, r, e => by
    cases e
    exact r
  | .int i :: ds, vs, ns, r, e => by
    obtain ⟨ms, e1, e2⟩ := Option.map_eq_some_iff.mp (show (intsOf ds).map (i :: ·) = some ns from e)
    obtain ⟨x, xs, rfl, h2, h3⟩ := r
    rw [← e2, rep_ints h3 e1, show x = V.int i from h2]
    rfl
  | .non :: ds, _, _, _, e => by cases e
  | .bl _ :: ds, _, _, _, e => by cases e
  | .str _ :: ds, _, _, _, e => by cases e
  | .ty _ :: ds, _, _, _, e => by cases e
  | .tup _ :: ds, _, _, _, e => by cases e
  | .rls _ :: ds, _, _, _, e => by cases e
  | .loc _ :: ds, _, _, _, e => by cases e
def blsOf : List D → Option (List Bool)
  | [] => some []
  | .bl i :: ds => (blsOf ds).map (i :: ·)
  | _ :: _ => none
theorem rep_bls {φ : List Addr} {H : Hp} : ∀ {ds : List D} {vs : List V} {ns : List Bool}, RepVs K φ H ds vs → blsOf ds = some ns → vs = ns.map V.bl
  | [], vs, ns, r, e => by
    cases e
    exact r
  | .bl i :: ds, vs, ns, r, e => by
    obtain ⟨ms, e1, e2⟩ := Option.map_eq_some_iff.mp (show (blsOf ds).map (i :: ·) = some ns from e)
    obtain ⟨x, xs, rfl, h2, h3⟩ := r
    rw [← e2, rep_bls h3 e1, show x = V.bl i from h2]
    rfl
  | .non :: ds, _, _, _, e => by cases e
  | .int _ :: ds, _, _, _, e => by cases e
  | .str _ :: ds, _, _, _, e => by cases e
  | .ty _ :: ds, _, _, _, e => by cases e
  | .tup _ :: ds, _, _, _, e => by cases e
  | .rls _ :: ds, _, _, _, e => by cases e
  | .loc _ :: ds, _, _, _, e => by cases e
/-- the content of a list -/
def lstOf (d : D) (S : Sto) : Option (List D) := match d with
  | .rls ds => some ds
  | .loc n => match S[n]? with
    | some (.lst ds) => some ds
    | _ => none
  | _ => none
theorem rep_lstOf {φ : List Addr} {H : Hp} {S : Sto} {d : D} {v : V} {ds : List D} (r : RepS K cn φ H S) (h : RepV K φ H d v) (e : lstOf d S = some ds) : ∃ a xs, v = .ref a ∧ SqL K H a xs ∧ RepVs K φ H ds xs := by
  unfold lstOf at e
  split at e
  · cases e
    obtain ⟨a, xs, h1, h2, h3⟩ := h
    exact ⟨a, xs, h1, h2.sq, h3⟩
  · split at e
    · rename_i q
      cases e
      obtain ⟨a, xs, h1, h2, h3, h4⟩ := rep_lst r h q
      exact ⟨a, xs, h1, SqL.of h3, h4⟩
    · cases e
  · cases e
def minI : Int → List Int → Int
  | m, [] => m
  | m, n :: ns => minI (if n < m then n else m) ns
def maxI : Int → List Int → Int
  | m, [] => m
  | m, n :: ns => maxI (if m < n then n else m) ns
theorem minI_mem : ∀ (ns : List Int) (m : Int), minI m ns = m ∨ minI m ns ∈ ns
  | [], m => .inl rfl
  | n :: ns, m => by
    unfold minI
    split
    · rcases minI_mem ns n with h | h
      · exact .inr (by rw [h]; exact List.mem_cons_self)
      · exact .inr (List.mem_cons_of_mem _ h)
    · rcases minI_mem ns m with h | h
      · exact .inl h
      · exact .inr (List.mem_cons_of_mem _ h)
theorem minI_le : ∀ (ns : List Int) (m : Int), minI m ns ≤ m ∧ ∀ y ∈ ns, minI m ns ≤ y
  | [], m => ⟨Int.le_refl _, fun _ h => nomatch h⟩
  | n :: ns, m => by
    unfold minI
    split
    · obtain ⟨h1, h2⟩ := minI_le ns n
      exact ⟨by omega, fun y hy => by rcases List.mem_cons.mp hy with e | e; (rw [e]; exact h1); exact h2 y e⟩
    · obtain ⟨h1, h2⟩ := minI_le ns m
      exact ⟨h1, fun y hy => by rcases List.mem_cons.mp hy with e | e; (rw [e]; omega); exact h2 y e⟩
theorem maxI_mem : ∀ (ns : List Int) (m : Int), maxI m ns = m ∨ maxI m ns ∈ ns
  | [], m => .inl rfl
  | n :: ns, m => by
    unfold maxI
    split
    · rcases maxI_mem ns n with h | h
      · exact .inr (by rw [h]; exact List.mem_cons_self)
      · exact .inr (List.mem_cons_of_mem _ h)
    · rcases maxI_mem ns m with h | h
      · exact .inl h
      · exact .inr (List.mem_cons_of_mem _ h)
theorem maxI_le : ∀ (ns : List Int) (m : Int), m ≤ maxI m ns ∧ ∀ y ∈ ns, y ≤ maxI m ns
  | [], m => ⟨Int.le_refl _, fun _ h => nomatch h⟩
  | n :: ns, m => by
    unfold maxI
    split
    · obtain ⟨h1, h2⟩ := maxI_le ns n
      exact ⟨by omega, fun y hy => by rcases List.mem_cons.mp hy with e | e; (rw [e]; exact h1); exact h2 y e⟩
    · obtain ⟨h1, h2⟩ := maxI_le ns m
      exact ⟨h1, fun y hy => by rcases List.mem_cons.mp hy with e | e; (rw [e]; omega); exact h2 y e⟩
def rMin2 : List V → Hp → VK → Prop := fun xs H Q => ∃ i j, xs = [.int i, .int j] ∧ Q (.int (if j < i then j else i)) H
def rMax2 : List V → Hp → VK → Prop := fun xs H Q => ∃ i j, xs = [.int i, .int j] ∧ Q (.int (if j > i then j else i)) H
def gMin (ds : List D) (S : Sto) : R D := match ds with
  | [.int i, .int j] => .ok (.int (if j < i then j else i)) S
  | [d] => match lstOf d S with
    | some xs => match intsOf xs with
      | some (n :: ns) => .ok (.int (minI n ns)) S
      | _ => .no
    | none => .no
  | _ => .no
def gMax (ds : List D) (S : Sto) : R D := match ds with
  | [.int i, .int j] => .ok (.int (if j > i then j else i)) S
  | [d] => match lstOf d S with
    | some xs => match intsOf xs with
      | some (n :: ns) => .ok (.int (maxI n ns)) S
      | _ => .no
    | none => .no
  | _ => .no
theorem imp_min : ImpN K cn (fun xs H Q => rMin2 xs H Q ∨ rMin K xs H Q) gMin := by
  intro E φ H S ds vs Q rs r q
  unfold gMin at q
  split at q
  · obtain ⟨v, u, rfl, r1, r2⟩ := rep_two r
    rw [show v = V.int _ from r1, show u = V.int _ from r2]
    exact .inl ⟨_, _, rfl, q.okI rs _ rfl⟩
  · split at q
    · rename_i xs e
      split at q
      · rename_i n ns e2
        obtain ⟨v, rfl, r1⟩ := rep_one r
        obtain ⟨a, ys, rfl, h2, h3⟩ := rep_lstOf rs r1 e
        have e3 := rep_ints h3 e2
        subst e3
        refine .inr ⟨a, n :: ns, rfl, h2, Nat.zero_lt_succ _, fun m hm hl => ?_⟩
        have hq : m = minI n ns := by
          have h4 := minI_le ns n
          have h5 : minI n ns ∈ n :: ns := by
            rcases minI_mem ns n with h | h
            · rw [h]; exact List.mem_cons_self
            · exact List.mem_cons_of_mem _ h
          have h6 := hl _ h5
          rcases List.mem_cons.mp hm with e | e
          · have := h4.1; omega
          · have := h4.2 m e; omega
        rw [hq]
        exact q.okI rs _ rfl
      · exact q.elim
    · exact q.elim
  · exact q.elim
theorem imp_max : ImpN K cn (fun xs H Q => rMax2 xs H Q ∨ rMax K xs H Q) gMax := by
  intro E φ H S ds vs Q rs r q
  unfold gMax at q
  split at q
  · obtain ⟨v, u, rfl, r1, r2⟩ := rep_two r
    rw [show v = V.int _ from r1, show u = V.int _ from r2]
    exact .inl ⟨_, _, rfl, q.okI rs _ rfl⟩
  · split at q
    · rename_i xs e
      split at q
      · rename_i n ns e2
        obtain ⟨v, rfl, r1⟩ := rep_one r
        obtain ⟨a, ys, rfl, h2, h3⟩ := rep_lstOf rs r1 e
        have e3 := rep_ints h3 e2
        subst e3
        refine .inr ⟨a, n :: ns, rfl, h2, Nat.zero_lt_succ _, fun m hm hl => ?_⟩
        have hq : m = maxI n ns := by
          have h4 := maxI_le ns n
          have h5 : maxI n ns ∈ n :: ns := by
            rcases maxI_mem ns n with h | h
            · rw [h]; exact List.mem_cons_self
            · exact List.mem_cons_of_mem _ h
          have h6 := hl _ h5
          rcases List.mem_cons.mp hm with e | e
          · have := h4.1; omega
          · have := h4.2 m e; omega
        rw [hq]
        exact q.okI rs _ rfl
      · exact q.elim
    · exact q.elim
  · exact q.elim
theorem call_minA {X : Cx} (hc : X.calm = true) : CallR X (.builtin "min") (fun xs H Q => rMin2 xs H Q ∨ rMin X.K xs H Q) := CallR.or (call_min2 hc) (cr_min hc)
theorem call_maxA {X : Cx} (hc : X.calm = true) : CallR X (.builtin "max") (fun xs H Q => rMax2 xs H Q ∨ rMax X.K xs H Q) := CallR.or (call_max2 hc) (cr_max hc)
def gAny (ds : List D) (S : Sto) : R D := match ds with
  | [d] => match lstOf d S with
    | some xs => match blsOf xs with
      | some bs => .ok (.bl (bs.any id)) S
      | _ => .no
    | none => .no
  | _ => .no
def gAll (ds : List D) (S : Sto) : R D := match ds with
  | [d] => match lstOf d S with
    | some xs => match blsOf xs with
      | some bs => .ok (.bl (bs.all id)) S
      | _ => .no
    | none => .no
  | _ => .no
theorem imp_any : ImpN K cn (rAny K) gAny := by
  intro E φ H S ds vs Q rs r q
  unfold gAny at q
  split at q
  · split at q
    · rename_i xs e
      split at q
      · rename_i bs e2
        obtain ⟨v, rfl, r1⟩ := rep_one r
        obtain ⟨a, ys, rfl, h2, h3⟩ := rep_lstOf rs r1 e
        have e3 := rep_bls h3 e2
        subst e3
        exact ⟨a, bs, rfl, h2, q.okI rs _ rfl⟩
      · exact q.elim
    · exact q.elim
  · exact q.elim
theorem imp_all : ImpN K cn (rAll K) gAll := by
  intro E φ H S ds vs Q rs r q
  unfold gAll at q
  split at q
  · split at q
    · rename_i xs e
      split at q
      · rename_i bs e2
        obtain ⟨v, rfl, r1⟩ := rep_one r
        obtain ⟨a, ys, rfl, h2, h3⟩ := rep_lstOf rs r1 e
        have e3 := rep_bls h3 e2
        subst e3
        exact ⟨a, bs, rfl, h2, q.okI rs _ rfl⟩
      · exact q.elim
    · exact q.elim
  · exact q.elim
def rListA (K : Frag) : List V → Hp → VK → Prop := fun xs H Q => (∃ p ys, xs = [.ref p] ∧ (SqL K H p ys ∨ SqT K H p ys) ∧ ∀ l, H l = none → Q (.ref l) (upd H l (.lst ys))) ∨
  ∃ (a : Addr) (kvs : List (L2.Key × V)), xs = [.ref a] ∧ Rd H a (.dK kvs) ∧ ∀ p, H p = none → Q (.ref p) (upd H p (.lst (kvs.map fun kv => kV kv.1)))
def kD : L2.Key → D
  | .inl i => .int i
  | .inr x => .str x
def gList (ds : List D) (S : Sto) : R D := match ds with
  | [d] => match seqOf d S with
    | some xs => .ok (.loc S.length) (S ++ [.lst xs])
    | none => match dictAt d S with
      | some kvs => .ok (.loc S.length) (S ++ [.lst (kvs.map fun kv => kD kv.1)])
      | none => .no
  | _ => .no
theorem rep_kD {φ : List Addr} {H : Hp} : ∀ (ks : List L2.Key), RepVs K φ H (ks.map kD) (ks.map kV)
  | [] => rfl
  | .inl i :: ks => ⟨_, _, rfl, rfl, rep_kD ks⟩
  | .inr i :: ks => ⟨_, _, rfl, rfl, rep_kD ks⟩
theorem rep_keysL {φ : List Addr} {H : Hp} {kvs : List (L2.Key × D)} {xs : List (L2.Key × V)} (h : RepK K φ H kvs xs) : RepVs K φ H (kvs.map fun kv => kD kv.1) (xs.map fun kv => kV kv.1) := by
  have e1 : (kvs.map fun kv => kD kv.1) = (kvs.map (·.1)).map kD := by rw [List.map_map]; rfl
  have e2 : (xs.map fun kv => kV kv.1) = (xs.map (·.1)).map kV := by rw [List.map_map]; rfl
  rw [e1, e2, h.keys]
  exact rep_kD _
theorem imp_list : ImpN K cn (rListA K) gList := by
  intro E φ H S ds vs Q rs r q
  unfold gList at q
  split at q
  · obtain ⟨v, rfl, r1⟩ := rep_one r
    split at q
    · rename_i xs e
      obtain ⟨a, ys, rfl, h2, h3⟩ := rep_seq rs r1 e
      exact .inl ⟨a, ys, rfl, h2, fun p hp => q.okN rs hp ⟨_, rfl, h3⟩ _ (rep_new rs)⟩
    · split at q
      · rename_i kvs e1
        obtain ⟨n, o, a, xs, rfl, h1, h2, rfl, h4, h5, h6, h7⟩ := rep_dict rs r1 e1
        exact .inr ⟨a, xs, rfl, h5, fun p hp => q.okN rs hp ⟨_, rfl, rep_keysL h6⟩ _ (rep_new rs)⟩
      · exact q.elim
  · exact q.elim
theorem call_listA {X : Cx} (hc : X.calm = true) : CallR X (.type "list") (rListA X.K) := CallR.or call_list_of (call_listD hc)
def gTuple (ds : List D) (S : Sto) : R D := match ds with
  | [d] => match seqOf d S with
    | some xs => .ok (.tup xs) S
    | none => .no
  | _ => .no
theorem imp_tuple : ImpN K cn (fun xs H Q => ∃ p ys, xs = [.ref p] ∧ ((SqL K H p ys ∧ ∀ l, H l = none → Q (.ref l) (upd H l (.tup ys))) ∨ (SqT K H p ys ∧ Q (.ref p) H))) gTuple := by
  intro E φ H S ds vs Q rs r q
  unfold gTuple at q
  split at q
  · obtain ⟨v, rfl, r1⟩ := rep_one r
    split at q
    · rename_i xs e
      unfold seqOf at e
      split at e
      · cases e
        obtain ⟨a, ys, rfl, h2, h3⟩ := r1
        exact ⟨a, ys, rfl, .inr ⟨h2.sq, q.okI rs _ ⟨a, ys, rfl, h2, h3⟩⟩⟩
      · cases e
        obtain ⟨a, ys, rfl, h2, h3⟩ := r1
        exact ⟨a, ys, rfl, .inl ⟨h2.sq, fun p hp => q.okT rs hp _ (rep_tup hp h3)⟩⟩
      · split at e
        · rename_i q2
          cases e
          obtain ⟨a, ys, rfl, h1, h2, h3⟩ := rep_lst rs r1 q2
          exact ⟨a, ys, rfl, .inl ⟨SqL.of h2, fun p hp => q.okT rs hp _ (rep_tup hp h3)⟩⟩
        · cases e
      · cases e
    · exact q.elim
  · exact q.elim
/-! sorted of ints -/
def insI (n : Int) : List Int → List Int
  | [] => [n]
  | m :: ms => if n ≤ m then n :: m :: ms else m :: insI n ms
def sortI : List Int → List Int
  | [] => []
  | n :: ns => insI n (sortI ns)
theorem insI_perm (n : Int) : ∀ ms : List Int, (insI n ms).Perm (n :: ms)
  | [] => List.Perm.refl _
  | m :: ms => by
    unfold insI
    split
    · exact List.Perm.refl _
    · exact ((insI_perm n ms).cons m).trans (List.Perm.swap n m ms)
theorem sortI_perm : ∀ ns : List Int, (sortI ns).Perm ns
  | [] => List.Perm.refl _
  | n :: ns => (insI_perm n _).trans ((sortI_perm ns).cons n)
theorem insI_mem {n x : Int} {ms : List Int} : x ∈ insI n ms ↔ x = n ∨ x ∈ ms := by
  rw [(insI_perm n ms).mem_iff, List.mem_cons]
theorem insI_sorted (n : Int) : ∀ ms : List Int, ms.Pairwise (· ≤ ·) → (insI n ms).Pairwise (· ≤ ·)
  | [], _ => by unfold insI; simp
  | m :: ms, h => by
    unfold insI
    rw [List.pairwise_cons] at h
    split
    · rename_i c
      rw [List.pairwise_cons]
      refine ⟨fun x hx => ?_, List.pairwise_cons.mpr h⟩
      rcases List.mem_cons.mp hx with e | e
      · rw [e]; exact c
      · have := h.1 x e; omega
    · rename_i c
      rw [List.pairwise_cons]
      refine ⟨fun x hx => ?_, insI_sorted n ms h.2⟩
      rcases insI_mem.mp hx with e | e
      · omega
      · exact h.1 x e
theorem sortI_sorted : ∀ ns : List Int, (sortI ns).Pairwise (· ≤ ·)
  | [] => List.Pairwise.nil
  | n :: ns => insI_sorted n _ (sortI_sorted ns)
theorem sortI_uniq {ns ms : List Int} (h1 : ms.Perm ns) (h2 : ms.Pairwise (· ≤ ·)) : ms = sortI ns :=
  List.Perm.eq_of_pairwise (fun a b _ _ x y => by omega) h2 (sortI_sorted ns) (h1.trans (sortI_perm ns).symm)
def intKeys : List (L2.Key × D) → Option (List Int)
  | [] => some []
  | (.inl i, _) :: ds => (intKeys ds).map (i :: ·)
  | _ :: _ => none
theorem intKeys_of : ∀ {kvs : List (L2.Key × D)} {ns : List Int}, intKeys kvs = some ns → kvs.map (·.1) = ns.map Sum.inl
  | [], ns, e => by cases e; rfl
  | (.inl i, d) :: ds, ns, e => by
    obtain ⟨ms, e1, e2⟩ := Option.map_eq_some_iff.mp (show (intKeys ds).map (i :: ·) = some ns from e)
    rw [← e2, List.map_cons, List.map_cons, intKeys_of e1]
  | (.inr i, d) :: ds, ns, e => by cases e
def rSortedA (K : Frag) : List V → Hp → VK → Prop := fun vs H Q => rSortedI K vs H Q ∨ ∃ (a : Addr) (kvs : List (L2.Key × V)) (ks : List Int), vs = [.ref a] ∧ Rd H a (.dK kvs) ∧ kvs.map (·.1) = ks.map Sum.inl ∧ ks.length < 64 ∧
    ∀ (ys : List Int) (p : Addr), ys.Perm ks → ys.Pairwise (· ≤ ·) → H p = none → Q (.ref p) (upd H p (.lst (ys.map V.int)))
theorem call_sortedA {X : Cx} (hc : X.calm = true) : CallR X (.builtin "sorted") (rSortedA X.K) := CallR.or cr_sortedI (call_sortedDI hc)
def gSorted (ds : List D) (S : Sto) : R D := match ds with
  | [d] => match lstOf d S with
    | some xs => match intsOf xs with
      | some ns => .ok (.loc S.length) (S ++ [.lst ((sortI ns).map .int)])
      | none => .no
    | none => match dictAt d S with
      | some kvs => match intKeys kvs with
        | some ns => if ns.length < 64 then .ok (.loc S.length) (S ++ [.lst ((sortI ns).map .int)]) else .no
        | none => .no
      | none => .no
  | _ => .no
theorem imp_sorted : ImpN K cn (rSortedA K) gSorted := by
  intro E φ H S ds vs Q rs r q
  unfold gSorted at q
  split at q
  · obtain ⟨v, rfl, r1⟩ := rep_one r
    split at q
    · rename_i xs e
      split at q
      · rename_i ns e2
        obtain ⟨a, ys, rfl, h2, h3⟩ := rep_lstOf rs r1 e
        have e3 := rep_ints h3 e2
        subst e3
        refine .inl ⟨a, ns, rfl, h2, fun ms p k1 k2 hp => ?_⟩
        rw [sortI_uniq k1 k2]
        exact q.okN rs hp ⟨_, rfl, RepVs.of_ints _⟩ _ (rep_new rs)
      · exact q.elim
    · split at q
      · rename_i kvs e1
        split at q
        · rename_i ns e2
          split at q
          · rename_i hz
            obtain ⟨n, o, a, xs, rfl, h1, h2, rfl, h4, h5, h6, h7⟩ := rep_dict rs r1 e1
            refine .inr ⟨a, xs, ns, rfl, h5, by rw [h6.keys, intKeys_of e2], hz, fun ms p k1 k2 hp => ?_⟩
            rw [sortI_uniq k1 k2]
            exact q.okN rs hp ⟨_, rfl, RepVs.of_ints _⟩ _ (rep_new rs)
          · exact q.elim
        · exact q.elim
      · exact q.elim
  · exact q.elim
/-! isinstance with a built-in class -/
def tyName (d : D) (S : Sto) : Option String := match d with
  | .non => some "NoneType"
  | .bl _ => some "bool"
  | .int _ => some "int"
  | .str _ => some "str"
  | .tup _ => some "tuple"
  | .rls _ => some "list"
  | .loc n => match S[n]? with
    | some (.lst _) => some "list"
    | some (.dK _) => some "dict"
    | some (.dT _) => some "dict"
    | _ => none
  | .ty _ => none
theorem rep_ty {φ : List Addr} {H : Hp} {S : Sto} {d : D} {v : V} {t : String} (rs : RepS K cn φ H S) (r : RepV K φ H d v) (e : tyName d S = some t) : TyX K H v (.type t) := by
  unfold tyName at e
  split at e
  · cases e; rw [show v = V.non from r]; exact .base .non
  · cases e; rename_i b; rw [show v = V.bl b from r]; exact .base (.bl b)
  · cases e; rename_i b; rw [show v = V.int b from r]; exact .base (.int b)
  · cases e; rename_i b; rw [show v = V.str b from r]; exact .base (.str b)
  · cases e
    obtain ⟨a, xs, rfl, h2, h3⟩ := r
    rcases h2 with h2 | ⟨o, its, n, h4, h5, _⟩
    · exact .base (.tup h2)
    · exact .kTuple h4 h5
  · cases e
    obtain ⟨a, xs, rfl, h2, h3⟩ := r
    rcases h2 with ⟨o, h2⟩ | ⟨o, its, n, h4, h5, _⟩
    · exact .base (.frz h2)
    · exact .kList h4 h5
  · split at e
    · rename_i q
      cases e
      obtain ⟨a, xs, rfl, h1, h2, h3⟩ := rep_lst rs r q
      exact .base (.lst h2)
    · rename_i q
      cases e
      obtain ⟨a, xs, rfl, h1, h2, h3⟩ := rep_dK rs r q
      exact .base (.dK h2)
    · rename_i q
      cases e
      obtain ⟨a, h2, h1, u, h3, xs, rfl, h5⟩ := rep_loc rs r q
      rw [h2]
      exact .base (.dT h3)
    · cases e
  · cases e
def gIsi (ds : List D) (S : Sto) : R D := match ds with
  | [d, .ty c] => match tyName d S with
    | some t => match kitB t c with
      | some b => .ok (.bl b) S
      | none => .no
    | none => .no
  | _ => .no
theorem imp_isi : ImpN K cn (rIsi K) gIsi := by
  intro E φ H S ds vs Q rs r q
  unfold gIsi at q
  split at q
  · rename_i d c
    obtain ⟨v, u, rfl, r1, r2⟩ := rep_two r
    rw [show u = V.ty c from r2]
    split at q
    · rename_i t e
      split at q
      · rename_i b e2
        exact ⟨v, .ty c, _, _, b, rfl, .ty c, rep_ty rs r1 e, kit_ty e2, q.okI rs _ rfl⟩
      · exact q.elim
    · exact q.elim
  · exact q.elim
end

/-! ### methods of lists -/
def gApp (o : D) (ds : List D) (S : Sto) : R D := match o, ds with
  | .loc n, [d] => match S[n]? with
    | some (.lst xs) => if xs.length < sizeLine then .ok .non (S.set n (.lst (xs ++ [d]))) else .no
    | _ => .no
  | _, _ => .no
def gExt (o : D) (ds : List D) (S : Sto) : R D := match o, ds with
  | .loc n, [.loc m] => match S[n]?, S[m]? with
    | some (.lst xs), some (.lst ys) => if xs.length + ys.length ≤ sizeLine then .ok .non (S.set n (.lst (xs ++ ys))) else .no
    | _, _ => .no
  | _, _ => .no
open Classical in
noncomputable def gPop (o : D) (ds : List D) (S : Sto) : R D := match o, ds with
  | .loc n, [] => match S[n]? with
    | some (.lst xs) => match xs[xs.length - 1]? with
      | some d => .ok d (S.set n (.lst xs.dropLast))
      | none => .no
    | _ => .no
  | .loc n, [.int i] => match S[n]? with
    | some (.lst xs) => if -(2 ^ 63) ≤ i ∧ i < 2 ^ 63 then (match seqIndex? i xs.length with
      | some k => match xs[k]? with
        | some d => .ok d (S.set n (.lst (xs.eraseIdx k)))
        | none => .no
      | none => .no) else .no
    | _ => .no
  | _, _ => .no
section
variable {K : Frag} {cn : Nat → Addr}
theorem imp_app : ImpM K cn rAppend gApp := by
  intro E φ H S d ds v vs Q rs r rr q
  unfold gApp at q
  split at q
  · split at q
    · rename_i e
      split at q
      · rename_i hz
        obtain ⟨u, rfl, r1⟩ := rep_one rr
        obtain ⟨a, xs, rfl, h1, h2, h3⟩ := rep_lst rs r e
        exact ⟨a, xs, u, rfl, rfl, h2, by rw [h3.length]; exact hz, q.okP rs h1 h2 free_lst ⟨_, rfl, h3.append ⟨_, _, rfl, r1, rfl⟩⟩ _ rfl⟩
      · exact q.elim
    · exact q.elim
  · exact q.elim
theorem imp_ext : ImpM K cn rExtend gExt := by
  intro E φ H S d ds v vs Q rs r rr q
  unfold gExt at q
  split at q
  · split at q
    · rename_i e e2
      split at q
      · rename_i hz
        obtain ⟨u, rfl, r1⟩ := rep_one rr
        obtain ⟨a, xs, rfl, h1, h2, h3⟩ := rep_lst rs r e
        obtain ⟨b, ys, rfl, k1, k2, k3⟩ := rep_lst rs r1 e2
        have l1 := h3.length
        have l2 := k3.length
        exact ⟨a, b, xs, ys, rfl, rfl, h2, k2, by omega, q.okP rs h1 h2 free_lst ⟨_, rfl, h3.append k3⟩ _ rfl⟩
      · exact q.elim
    · exact q.elim
  · exact q.elim
theorem RepVs.dropLast {φ : List Addr} {H : Hp} : ∀ {ds : List D} {vs : List V}, RepVs K φ H ds vs → RepVs K φ H ds.dropLast vs.dropLast := fun {ds vs} h => by
  rw [List.dropLast_eq_take, List.dropLast_eq_take, h.length]
  exact h.take _
def rPopA : V → List V → Hp → VK → Prop := fun x xs H Q => rPop x xs H Q ∨ rPopAt x xs H Q
theorem mt_popA {X : Cx} : MtR X "list.pop" rPopA := MtR.or mt_pop mt_popAt
theorem imp_pop : ImpM K cn rPopA gPop := by
  intro E φ H S d ds v vs Q rs r rr q
  unfold gPop at q
  split at q
  · split at q
    · rename_i e
      split at q
      · rename_i d' e2
        obtain ⟨a, xs, rfl, h1, h2, h3⟩ := rep_lst rs r e
        obtain ⟨y, e3, r3⟩ := h3.get e2
        have l1 := h3.length
        rw [show vs = [] from rr]
        refine .inl ⟨a, xs, y, rfl, rfl, h2, by rw [l1]; exact e3, q.okP rs h1 h2 free_lst ⟨_, rfl, h3.dropLast⟩ _ (r3.le (Le.put h2 free_lst))⟩
      · exact q.elim
    · exact q.elim
  · split at q
    · rename_i e
      split at q
      · rename_i hz
        split at q
        · rename_i k ek
          split at q
          · rename_i d' e2
            obtain ⟨u, rfl, r1⟩ := rep_one rr
            obtain ⟨a, xs, rfl, h1, h2, h3⟩ := rep_lst rs r e
            obtain ⟨y, e3, r3⟩ := h3.get e2
            have l1 := h3.length
            rw [show u = V.int _ from r1]
            exact .inr ⟨a, xs, _, k, y, rfl, rfl, h2, hz.1, hz.2, by rw [l1]; exact ek, e3, q.okP rs h1 h2 free_lst ⟨_, rfl, h3.erase k⟩ _ (r3.le (Le.put h2 free_lst))⟩
          · exact q.elim
        · exact q.elim
      · exact q.elim
    · exact q.elim
  · exact q.elim
/-- the first place of an equal one -/
def findP (d : PyData) : List PyData → Option Nat
  | [] => none
  | z :: zs => if PyData.eqv z d = true then some 0 else (findP d zs).map (· + 1)
theorem findP_some (d : PyData) : ∀ {ds : List PyData} {j : Nat}, findP d ds = some j → ∃ z, ds[j]? = some z ∧ PyData.eqv z d = true ∧ ∀ (m : Nat) (z' : PyData), m < j → ds[m]? = some z' → PyData.eqv z' d = false
  | [], j, h => by cases h
  | z :: zs, j, h => by
    unfold findP at h
    split at h
    · rename_i c
      cases h
      exact ⟨z, rfl, c, fun m _ hm => absurd hm (Nat.not_lt_zero _)⟩
    · rename_i c
      obtain ⟨i, e1, e2⟩ := Option.map_eq_some_iff.mp h
      subst e2
      obtain ⟨z2, k1, k2, k3⟩ := findP_some d e1
      refine ⟨z2, k1, k2, fun m z' hm e => ?_⟩
      cases m with
      | zero =>
        cases e
        simpa using c
      | succ m => exact k3 m z' (by omega) (by simpa using e)
def gIndex (o : D) (ds : List D) (S : Sto) : R D := match ds with
  | [d] => match toPy S eqDeep o, toPy S eqDeep d with
    | some (.list ps), some p => if SeqAt.shaped (.list ps) = true ∧ SeqAt.shaped p = true then (match findP p ps with
      | some j => .ok (.int (j : Nat)) S
      | none => .no) else .no
    | _, _ => .no
  | _ => .no
theorem imp_index : ImpM K cn (rIndexD K) gIndex := by
  intro E φ H S d ds v vs Q rs r rr q
  unfold gIndex at q
  split at q
  · split at q
    · rename_i ps p e1 e2
      split at q
      · rename_i c
        split at q
        · rename_i j ej
          obtain ⟨u, rfl, r1⟩ := rep_one rr
          have hd := rep_py rs _ _ _ _ r e1
          obtain ⟨z, k1, k2, k3⟩ := findP_some p ej
          cases hd with
          | lst hs ha => exact ⟨_, u, p, ps, j, z, rfl, rfl, .lst hs ha, rep_py rs _ _ _ _ r1 e2, c.1, c.2, k1, k2, k3, q.okI rs _ rfl⟩
        · exact q.elim
      · exact q.elim
    · exact q.elim
  · exact q.elim
end
end DS

/-! DsD: expressions, tests, arguments, calls, by data. -/
namespace DS
open PySem L2 PyProof.Rows

abbrev DE (X : Cx) (cn : Nat → Addr) (W : WX) (e : Expr) (f : FE) : Prop := PE X e (tD X.K cn W f)
abbrev DT (X : Cx) (cn : Nat → Addr) (W : WX) (e : Expr) (f : FT) : Prop := PT X e (tDT X.K cn W f)
abbrev DW (X : Cx) (cn : Nat → Addr) (W : WX) (e : Expr) (f : FT) : Prop := PW X e (tDT X.K cn W f)
structure DA (X : Cx) (cn : Nat → Addr) (W : WX) (es : List Expr) (f : FA) : Prop where
  pa : PA X es (tDA X.K cn W f)
  len : ∀ ρ S ds S', f ρ S = .ok ds S' → ds.length = es.length

def eVar (i : Nat) : FE := fun ρ S => match ρ[i]? with
  | some (some d) => .ok d S
  | _ => .no
def eC (d : D) : FE := fun _ S => .ok d S
def e1 (g : D → Sto → R D) (fa : FE) : FE := fun ρ S => (fa ρ S).bind g
def e2 (g : D → D → Sto → R D) (fa fb : FE) : FE := fun ρ S => (fa ρ S).bind fun x S1 => (fb ρ S1).bind fun y S2 => g x y S2
def eN (g : List D → Sto → R D) (fa : FA) : FE := fun ρ S => (fa ρ S).bind g
def bB (d : D) (S : Sto) : R Bool := match d with
  | .bl b => .ok b S
  | _ => .no
/-- a test that is a bool -/
def tBl (f : FE) : FT := fun ρ S => (f ρ S).bind bB
def eChain (g g' : D → D → Sto → R D) (fa fb fc : FE) : FE := fun ρ S => (fa ρ S).bind fun x S1 => (fb ρ S1).bind fun y S2 => (g x y S2).bind fun z S3 => (bB z S3).bind fun k S4 =>
  if k = true then (fc ρ S4).bind fun w S5 => g' y w S5 else .ok (.bl false) S4
def truB (d : D) (S : Sto) : Option Bool := match d with
  | .non => some false
  | .bl b => some b
  | .int i => some (i != 0)
  | .str z => if z.length ≤ sizeLine then some ((z.length : Int) != 0) else none
  | .tup ds => some (!ds.isEmpty)
  | .rls ds => some (!ds.isEmpty)
  | .loc n => match S[n]? with
    | some (.lst ds) => some (!ds.isEmpty)
    | some (.dK ds) => some (!ds.isEmpty)
    | _ => none
  | .ty _ => none
def bT (d : D) (S : Sto) : R Bool := match truB d S with
  | some b => .ok b S
  | none => .no
/-- a test by truth -/
def tTr (f : FE) : FT := fun ρ S => (f ρ S).bind bT
def tAndD (f g : FT) : FT := fun ρ S => (f ρ S).bind fun b S1 => if b = true then g ρ S1 else .ok false S1
def tOrD (f g : FT) : FT := fun ρ S => (f ρ S).bind fun b S1 => if b = true then .ok true S1 else g ρ S1
def tNotD (f : FT) : FT := fun ρ S => (f ρ S).bind fun b S1 => .ok (!b) S1
def eAnd (f g : FE) : FE := fun ρ S => (f ρ S).bind fun d S1 => (bT d S1).bind fun b S2 => if b = true then g ρ S2 else .ok d S2
def eOr (f g : FE) : FE := fun ρ S => (f ρ S).bind fun d S1 => (bT d S1).bind fun b S2 => if b = true then .ok d S2 else g ρ S2
def eNot (f : FE) : FE := fun ρ S => (f ρ S).bind fun d S1 => (bT d S1).bind fun b S2 => .ok (.bl (!b)) S2
def eIf (c : FT) (f g : FE) : FE := fun ρ S => (c ρ S).bind fun b S1 => if b = true then f ρ S1 else g ρ S1
def aNil : FA := fun _ S => .ok [] S
def aCons (f : FE) (g : FA) : FA := fun ρ S => (f ρ S).bind fun d S1 => (g ρ S1).bind fun ds S2 => .ok (d :: ds) S2
def eTup (f : FA) : FE := fun ρ S => (f ρ S).bind fun ds S1 => .ok (.tup ds) S1
def eLst (f : FA) : FE := fun ρ S => (f ρ S).bind fun ds S1 => .ok (.loc S1.length) (S1 ++ [.lst ds])
def eDct : FE := fun _ S => .ok (.loc S.length) (S ++ [.dK []])
/-- a method of a built-in list -/
def eM (g : D → List D → Sto → R D) (fo : FE) (fa : FA) : FE := fun ρ S => (fo ρ S).bind fun o S1 => if (lstOf o S1).isSome = true then (fa ρ S1).bind fun ds S2 => g o ds S2 else .no
abbrev FO := En → Sto → R (Option Int)
def oNone : FO := fun _ S => .ok none S
def oSome (f : FE) : FO := fun ρ S => (f ρ S).bind fun d S1 => match d with
  | .int i => .ok (some i) S1
  | _ => .no
def eSl (f : FE) (lo hi : FO) : FE := fun ρ S => (f ρ S).bind fun d S1 => (lo ρ S1).bind fun l S2 => (hi ρ S2).bind fun u S3 => gSl d l u S3
def gFld (c : Nat) (f : Str) (d : D) (S : Sto) : R D := match d with
  | .loc n => match S[n]? with
    | some (.ins c' fs) => if c' = c then (match getK fs f with
      | some d => .ok d S
      | none => .no) else .no
    | _ => .no
  | _ => .no

section
variable {X : Cx} {cn : Nat → Addr} {W : WX} {a b c : Expr} {fa fb fc : FE} {ta tb : FT} {pos : Pos}

theorem bB_run {K : Frag} {E : XK} {φ : List Addr} {H : Hp} {S : Sto} {d : D} {v : V} {k : List Addr → Hp → Sto → Bool → Prop} (q : Run K cn E φ H (bB d S) k) (rs : RepS K cn φ H S) (r : RepV K φ H d v) : ∃ b, v = .bl b ∧ d = .bl b ∧ k φ H S b := by
  unfold bB at q
  split at q
  · exact ⟨_, r, rfl, q.okI rs⟩
  · exact q.elim
theorem bT_run {K : Frag} {E : XK} {φ : List Addr} {H : Hp} {S : Sto} {d : D} {v : V} {k : List Addr → Hp → Sto → Bool → Prop} (q : Run K cn E φ H (bT d S) k) (rs : RepS K cn φ H S) (r : RepV K φ H d v) : ∃ b, TruV K v H b ∧ k φ H S b := by
  unfold bT at q
  split at q
  · rename_i b e
    refine ⟨b, ?_, q.okI rs⟩
    unfold truB at e
    split at e
    · cases e; rw [show v = V.non from r]; rfl
    · cases e; rw [show v = V.bl _ from r]; rfl
    · cases e; rw [show v = V.int _ from r]; rfl
    · split at e
      · rename_i z hz
        cases e
        rw [show v = V.str z from r]
        exact ⟨hz, rfl⟩
      · cases e
    · cases e
      obtain ⟨a, xs, rfl, h2, h3⟩ := r
      refine .inr (.inl ⟨xs, h2.sq, ?_⟩)
      have := h3.length
      rename_i ds
      cases ds <;> cases xs <;> simp_all
    · cases e
      obtain ⟨a, xs, rfl, h2, h3⟩ := r
      refine .inl ⟨xs, h2.sq, ?_⟩
      have := h3.length
      rename_i ds
      cases ds <;> cases xs <;> simp_all
    · split at e
      · rename_i ds q2
        cases e
        obtain ⟨a, xs, rfl, h1, h2, h3⟩ := rep_lst rs r q2
        refine .inl ⟨xs, SqL.of h2, ?_⟩
        have := h3.length
        cases ds <;> cases xs <;> simp_all
      · rename_i ds q2
        cases e
        obtain ⟨a, xs, rfl, h1, h2, h3⟩ := rep_dK rs r q2
        refine .inr (.inr ⟨xs, h2, ?_⟩)
        have := h3.length
        cases ds <;> cases xs <;> simp_all
      · cases e
    · cases e
  · exact q.elim

theorem de_var (i : Nat) {x : Str} (hN : X.N[i]? = some x := by rfl) (hv : Vis X.env.scope x := by first | exact Or.inl rfl | exact Or.inr (Or.inl rfl) | exact Or.inr (Or.inr rfl)) (hd : (x == ("__debug__" : Str)) = false := by decide)
    (hcd : (x == ("__classdict__" : Str)) = false := by decide) : DE X cn W (.Name x pos) (eVar i) :=
  PE.imp (pv i hN hv hd hcd) fun σ H Q ⟨φ, ρ, S, re, rs, q⟩ => by
    unfold eVar at q
    split at q
    · rename_i d e
      obtain ⟨v, h1, h2⟩ := re.2 i d e
      exact ⟨v, h1, q.okI rs v h2⟩
    · exact q.elim
theorem de_c {e : Expr} {d : D} {v : V} (h : PE X e (tC v)) (r : ∀ φ H, RepV X.K φ H d v) : DE X cn W e (eC d) := PE.imp h fun σ H Q ⟨φ, ρ, S, re, rs, q⟩ => q.okI rs v (r φ H)
theorem de_int {i : Int} {j pos} : DE X cn W (.Constant (.int i) j pos) (eC (.int i)) := de_c pe_int fun _ _ => rfl
theorem de_bl {i : Bool} {j pos} : DE X cn W (.Constant (.bool i) j pos) (eC (.bl i)) := de_c pe_bl fun _ _ => rfl
theorem de_non {j pos} : DE X cn W (.Constant .none j pos) (eC .non) := de_c pe_non fun _ _ => rfl
theorem de_str {i : Str} {j pos} : DE X cn W (.Constant (.str i) j pos) (eC (.str i)) := de_c pe_str fun _ _ => rfl
/-- a constant of the module -/
theorem de_glob {x : Str} {d : D} {v : V} {u : Value} (hg : Gl X x) (hm : X.mg x = some u) (r : RelV v u) (rd : ∀ φ H, RepV X.K φ H d v) (hd : (x == ("__debug__" : Str)) = false := by decide) : DE X cn W (.Name x pos) (eC d) := de_c (pe_glob hg hm r hd) rd
theorem de_ty {x : Str} {n : String} (hg : Gl X x) (hm : X.mg x = none) (hv : bootBuiltins x = some (.type n)) (hn : x ≠ "__name__" := by decide) (hd : (x == ("__debug__" : Str)) = false := by decide) : DE X cn W (.Name x pos) (eC (.ty n)) :=
  de_c (pe_bltn (v := .ty n) hg hm hv rfl hn hd) fun _ _ => rfl

theorem two {E : XK} {φ : List Addr} {H : Hp} {S : Sto} {ρ : En} {σ : L2.St} {g : D → D → Sto → R D} {k : List Addr → Hp → Sto → D → Prop} {R2' : V → V → Hp → Prop} (re : RepE X.K φ H ρ σ) (rs : RepS X.K cn φ H S)
    (q : Run X.K cn (fun c d H' => W c d σ H') φ H (e2 g fa fb ρ S) k)
    (h : ∀ φ2 H2 S2 x y v1 v2, Le φ H φ2 H2 → RepS X.K cn φ2 H2 S2 → RepV X.K φ2 H2 x v1 → RepV X.K φ2 H2 y v2 → Run X.K cn (fun c d H' => W c d σ H') φ2 H2 (g x y S2) k → R2' v1 v2 H2) :
    tD X.K cn W fa σ H fun v1 H1 => tD X.K cn W fb σ H1 fun v2 H2 => R2' v1 v2 H2 :=
  ⟨φ, ρ, S, re, rs, q.bind.imp fun φ1 H1 S1 x l1 rs1 q1 v1 r1 => ⟨φ1, ρ, S1, re.le l1, rs1, q1.bind.imp fun φ2 H2 S2 y l2 rs2 q2 v2 r2 => h φ2 H2 S2 x y v1 v2 (l1.trans l2) rs2 (r1.le l2) r2 q2⟩⟩
theorem de_op {op : Operator} {r : R2} {g : D → D → Sto → R D} (ho : OpR X (binaryOp op) r) (hi : Imp2 X.K cn r g) (ha : DE X cn W a fa) (hb : DE X cn W b fb) : DE X cn W (.BinOp a op b pos) (e2 g fa fb) :=
  PE.imp (pe_op ho ha hb) fun σ H Q ⟨φ, ρ, S, re, rs, q⟩ => two (E := fun c d H' => W c d σ H') re rs q fun φ2 H2 S2 x y v1 v2 l rs2 r1 r2 q2 => hi _ φ2 H2 S2 x y v1 v2 Q rs2 r1 r2 q2
theorem de_un {op : UnaryOp} {r : V → Hp → VK → Prop} {g : D → Sto → R D} (ho : UnR X (unaryOp op) r) (hi : Imp1 X.K cn r g) (ha : DE X cn W a fa) : DE X cn W (.UnaryOp op a pos) (e1 g fa) :=
  PE.imp (pe_un ho ha) fun σ H Q ⟨φ, ρ, S, re, rs, q⟩ => ⟨φ, ρ, S, re, rs, Run.imp (Run.bind q) fun φ1 H1 S1 x l1 rs1 q1 v1 r1 => hi _ φ1 H1 S1 x v1 Q rs1 r1 q1⟩
theorem de_cmp {op : CmpOp} {r : R2} {g : D → D → Sto → R D} (ho : OpR X (compareOp op) r) (hi : Imp2 X.K cn r g) (ha : DE X cn W a fa) (hb : DE X cn W b fb) (hm : behindInMarks op b = false) : DE X cn W (.Compare a [op] [b] pos) (e2 g fa fb) :=
  PE.imp (pe_cmpR ho ha hb hm) fun σ H Q ⟨φ, ρ, S, re, rs, q⟩ => two (E := fun c d H' => W c d σ H') re rs q fun φ2 H2 S2 x y v1 v2 l rs2 r1 r2 q2 => hi _ φ2 H2 S2 x y v1 v2 Q rs2 r1 r2 q2
theorem dt_cmp {op : CmpOp} {r : R2} {g : D → D → Sto → R D} (ho : OpR X (compareOp op) r) (hi : Imp2 X.K cn r g) (ha : DE X cn W a fa) (hb : DE X cn W b fb) (hm : behindInMarks op b = false) : DT X cn W (.Compare a [op] [b] pos) (tBl (e2 g fa fb)) :=
  PT.imp (pt_cmpR ho ha hb hm) fun σ H Q ⟨φ, ρ, S, re, rs, q⟩ => two (E := fun c d H' => W c d σ H') re rs q.bind fun φ2 H2 S2 x y v1 v2 l rs2 r1 r2 q2 =>
    hi _ φ2 H2 S2 x y v1 v2 _ rs2 r1 r2 (q2.imp fun φ3 H3 S3 d l3 rs3 q3 v r3 => let ⟨b, h1, _, h2⟩ := bB_run q3 rs3 r3; ⟨b, h1, h2⟩)
theorem chain {E : XK} {φ : List Addr} {H : Hp} {S : Sto} {ρ : En} {σ : L2.St} {r r' : R2} {g g' : D → D → Sto → R D} {Q : VK} (hi : Imp2 X.K cn r g) (hi' : Imp2 X.K cn r' g') (re : RepE X.K φ H ρ σ) (rs : RepS X.K cn φ H S)
    (q : Run X.K cn (fun c d H' => W c d σ H') φ H (eChain g g' fa fb fc ρ S) fun φ' H' _ d => ∀ v, RepV X.K φ' H' d v → Q v H') : tChain r r' (tD X.K cn W fa) (tD X.K cn W fb) (tD X.K cn W fc) σ H Q := by
  refine ⟨φ, ρ, S, re, rs, q.bind.imp fun φ1 H1 S1 x l1 rs1 q1 v1 r1 => ⟨φ1, ρ, S1, re.le l1, rs1, q1.bind.imp fun φ2 H2 S2 y l2 rs2 q2 v2 r2 => ?_⟩⟩
  refine hi _ φ2 H2 S2 x y v1 v2 _ rs2 (r1.le l2) r2 (q2.bind.imp fun φ3 H3 S3 z l3 rs3 q3 v3 r3 => ?_)
  obtain ⟨k, e, _, q4⟩ := bB_run q3.bind rs3 r3
  refine ⟨k, e, ?_⟩
  cases k with
  | true =>
    rw [if_pos rfl] at q4 ⊢
    refine ⟨φ3, ρ, S3, re.le ((l1.trans l2).trans l3), rs3, q4.bind.imp fun φ5 H5 S5 w l5 rs5 q5 v5 r5 => ?_⟩
    exact hi' _ φ5 H5 S5 y w v2 v5 Q rs5 (r2.le (l3.trans l5)) r5 q5
  | false =>
    rw [if_neg Bool.false_ne_true] at q4 ⊢
    exact q4.okI rs3 _ rfl
theorem de_chain {op op' : CmpOp} {r r' : R2} {g g' : D → D → Sto → R D} (ho : OpR X (compareOp op) r) (hi : Imp2 X.K cn r g) (ho' : OpR X (compareOp op') r') (hi' : Imp2 X.K cn r' g') (ha : DE X cn W a fa) (hb : DE X cn W b fb) (hc : DE X cn W c fc)
    (hm : lastMarks [op, op'] [b, c] = false := by with_unfolding_all rfl) : DE X cn W (.Compare a [op, op'] [b, c] pos) (eChain g g' fa fb fc) :=
  PE.imp (pe_chain ho ho' ha hb hc hm) fun σ H Q ⟨φ, ρ, S, re, rs, q⟩ => chain (E := fun c d H' => W c d σ H') hi hi' re rs q
theorem dt_chain {op op' : CmpOp} {r r' : R2} {g g' : D → D → Sto → R D} (ho : OpR X (compareOp op) r) (hi : Imp2 X.K cn r g) (ho' : OpR X (compareOp op') r') (hi' : Imp2 X.K cn r' g') (ha : DE X cn W a fa) (hb : DE X cn W b fb) (hc : DE X cn W c fc)
    (hm : lastMarks [op, op'] [b, c] = false := by with_unfolding_all rfl) : DT X cn W (.Compare a [op, op'] [b, c] pos) (tBl (eChain g g' fa fb fc)) :=
  PT.imp (pt_chain ho ho' ha hb hc hm) fun σ H Q ⟨φ, ρ, S, re, rs, q⟩ => chain (E := fun c d H' => W c d σ H') hi hi' re rs (q.bind.imp fun φ3 H3 S3 d l3 rs3 q3 v r3 => let ⟨b, h1, _, h2⟩ := bB_run q3 rs3 r3; ⟨b, h1, h2⟩)
/-- a value as a test, by its truth -/
theorem dt_tr (ha : DE X cn W a fa) (he : ∀ whole, isTrue a X.env whole = (do let v ← whole; standAt a.pos; holding [v] (truthy v)) := by intro _; rfl) : DT X cn W a (tTr fa) :=
  PT.imp (pt_truth ha he) fun σ H Q ⟨φ, ρ, S, re, rs, q⟩ => ⟨φ, ρ, S, re, rs, q.bind.imp fun φ1 H1 S1 x l1 rs1 q1 v1 r1 => bT_run q1 rs1 r1⟩
variable {rest : List Expr}
theorem dw_and1 (ha : DT X cn W a ta) : DW X cn W (.BoolOp .And [a] pos) ta := pw_and1 ha
theorem dw_or1 (ha : DT X cn W a ta) : DW X cn W (.BoolOp .Or [a] pos) ta := pw_or1 ha
theorem dw_and (ha : DT X cn W a ta) (hb : DW X cn W (.BoolOp .And (b :: rest) pos) tb) : DW X cn W (.BoolOp .And (a :: b :: rest) pos) (tAndD ta tb) :=
  PW.imp (pw_and ha hb) fun σ H Q ⟨φ, ρ, S, re, rs, q⟩ => ⟨φ, ρ, S, re, rs, q.bind.imp fun φ1 H1 S1 x l1 rs1 q1 => by
    cases x with
    | true =>
      rw [if_pos rfl] at q1 ⊢
      exact ⟨φ1, ρ, S1, re.le l1, rs1, q1⟩
    | false =>
      rw [if_neg Bool.false_ne_true] at q1 ⊢
      exact q1.okI rs1⟩
theorem dw_or (ha : DT X cn W a ta) (hb : DW X cn W (.BoolOp .Or (b :: rest) pos) tb) : DW X cn W (.BoolOp .Or (a :: b :: rest) pos) (tOrD ta tb) :=
  PW.imp (pw_or ha hb) fun σ H Q ⟨φ, ρ, S, re, rs, q⟩ => ⟨φ, ρ, S, re, rs, q.bind.imp fun φ1 H1 S1 x l1 rs1 q1 => by
    cases x with
    | true =>
      rw [if_pos rfl] at q1 ⊢
      exact q1.okI rs1
    | false =>
      rw [if_neg Bool.false_ne_true] at q1 ⊢
      exact ⟨φ1, ρ, S1, re.le l1, rs1, q1⟩⟩
theorem dt_not (ha : DT X cn W a ta) : DT X cn W (.UnaryOp .Not a pos) (tNotD ta) :=
  PT.imp (pt_not ha) fun σ H Q ⟨φ, ρ, S, re, rs, q⟩ => ⟨φ, ρ, S, re, rs, q.bind.imp fun φ1 H1 S1 x l1 rs1 q1 => q1.okI rs1⟩
theorem dt_w (h : DW X cn W a ta) : DT X cn W a ta := PW.pt h
theorem de_one {op} (h : DE X cn W a fa) : DE X cn W (.BoolOp op [a] pos) fa := pe_one h
theorem de_and (ha : DE X cn W a fa) (hb : DE X cn W (.BoolOp .And (b :: rest) pos) fb) : DE X cn W (.BoolOp .And (a :: b :: rest) pos) (eAnd fa fb) :=
  PE.imp (pe_andT ha hb) fun σ H Q ⟨φ, ρ, S, re, rs, q⟩ => ⟨φ, ρ, S, re, rs, q.bind.imp fun φ1 H1 S1 x l1 rs1 q1 v1 r1 => by
    obtain ⟨b, h1, h2⟩ := bT_run q1.bind rs1 r1
    refine ⟨b, h1, ?_⟩
    cases b with
    | true =>
      rw [if_pos rfl] at h2 ⊢
      exact ⟨φ1, ρ, S1, re.le l1, rs1, h2⟩
    | false =>
      rw [if_neg Bool.false_ne_true] at h2 ⊢
      exact h2.okI rs1 _ r1⟩
theorem de_or (ha : DE X cn W a fa) (hb : DE X cn W (.BoolOp .Or (b :: rest) pos) fb) : DE X cn W (.BoolOp .Or (a :: b :: rest) pos) (eOr fa fb) :=
  PE.imp (pe_orT ha hb) fun σ H Q ⟨φ, ρ, S, re, rs, q⟩ => ⟨φ, ρ, S, re, rs, q.bind.imp fun φ1 H1 S1 x l1 rs1 q1 v1 r1 => by
    obtain ⟨b, h1, h2⟩ := bT_run q1.bind rs1 r1
    refine ⟨b, h1, ?_⟩
    cases b with
    | true =>
      rw [if_pos rfl] at h2 ⊢
      exact h2.okI rs1 _ r1
    | false =>
      rw [if_neg Bool.false_ne_true] at h2 ⊢
      exact ⟨φ1, ρ, S1, re.le l1, rs1, h2⟩⟩
theorem de_not (ha : DE X cn W a fa) : DE X cn W (.UnaryOp .Not a pos) (eNot fa) :=
  PE.imp (pe_notT ha) fun σ H Q ⟨φ, ρ, S, re, rs, q⟩ => ⟨φ, ρ, S, re, rs, q.bind.imp fun φ1 H1 S1 x l1 rs1 q1 v1 r1 => by
    obtain ⟨b, h1, h2⟩ := bT_run q1.bind rs1 r1
    exact ⟨b, h1, h2.okI rs1 _ rfl⟩⟩
theorem de_if (hc : DT X cn W c ta) (ha : DE X cn W a fa) (hb : DE X cn W b fb) : DE X cn W (.IfExp c a b pos) (eIf ta fa fb) :=
  PE.imp (pe_ifExp hc ha hb) fun σ H Q ⟨φ, ρ, S, re, rs, q⟩ => ⟨φ, ρ, S, re, rs, q.bind.imp fun φ1 H1 S1 x l1 rs1 q1 => by
    cases x with
    | true =>
      rw [if_pos rfl] at q1 ⊢
      exact ⟨φ1, ρ, S1, re.le l1, rs1, q1⟩
    | false =>
      rw [if_neg Bool.false_ne_true] at q1 ⊢
      exact ⟨φ1, ρ, S1, re.le l1, rs1, q1⟩⟩

/-! ### arguments, displays -/
variable {e : Expr} {es : List Expr} {f : FE} {fs : FA}
theorem da_nil : DA X cn W [] aNil := ⟨PA.imp pa_nil fun σ H Q ⟨φ, ρ, S, re, rs, q⟩ => q.okI rs _ rfl, fun ρ S ds S' h => by cases h; rfl⟩
theorem da_cons (ha : DE X cn W e f) (hr : DA X cn W es fs) (hs : starEach (e :: es) X.env = (false, eval e X.env) :: starEach es X.env := by rfl) : DA X cn W (e :: es) (aCons f fs) :=
  ⟨PA.imp (pa_cons ha hr.pa hs) fun σ H Q ⟨φ, ρ, S, re, rs, q⟩ => ⟨φ, ρ, S, re, rs, q.bind.imp fun φ1 H1 S1 x l1 rs1 q1 v1 r1 => ⟨φ1, ρ, S1, re.le l1, rs1, q1.bind.imp fun φ2 H2 S2 ds l2 rs2 q2 vs rr =>
      q2.okI rs2 _ ⟨v1, vs, rfl, r1.le l2, rr⟩⟩⟩, fun ρ S ds S' h => by
    unfold aCons at h
    cases h1 : f ρ S with
    | ok d S1 =>
      rw [h1, R.bind_ok] at h
      cases h2 : fs ρ S1 with
      | ok ds' S2 =>
        rw [h2, R.bind_ok] at h
        cases h
        simp [hr.len _ _ _ _ h2]
      | exc c S2 => rw [h2] at h; cases h
      | no => rw [h2] at h; cases h
    | exc c S1 => rw [h1] at h; cases h
    | no => rw [h1] at h; cases h⟩
theorem DA.at {φ : List Addr} {H : Hp} {E : XK} {ρ : En} {S : Sto} {k : List Addr → Hp → Sto → List D → Prop} (h : DA X cn W es fs) (q : Run X.K cn E φ H (fs ρ S) k) : Run X.K cn E φ H (fs ρ S) fun φ' H' S' ds => ds.length = es.length ∧ k φ' H' S' ds := by
  cases h1 : fs ρ S with
  | ok d S1 =>
    rw [h1] at q
    exact fun φ' H' l r => ⟨h.len _ _ _ _ h1, q φ' H' l r⟩
  | exc c S1 => rw [h1] at q; exact q
  | no => rw [h1] at q; exact q
theorem de_tup {x1} (h : DA X cn W es fs) (hl : es.length ≤ 1000 := by decide) : DE X cn W (.Tuple es x1 pos) (eTup fs) :=
  PE.imp (pe_tup h.pa) fun σ H Q ⟨φ, ρ, S, re, rs, q⟩ => ⟨φ, ρ, S, re, rs, (h.at q.bind).imp fun φ1 H1 S1 ds l1 rs1 ⟨hz, q1⟩ vs rr =>
    ⟨by rw [rr.length, hz]; exact Nat.le_of_lt (small1000 hl), fun p hp => q1.okT rs1 hp _ (rep_tup hp rr)⟩⟩
theorem de_lst (h : DA X cn W es fs) (hl : es.length ≤ 1000 := by decide) : DE X cn W (.List es pos) (eLst fs) :=
  PE.imp (pe_lst h.pa) fun σ H Q ⟨φ, ρ, S, re, rs, q⟩ => ⟨φ, ρ, S, re, rs, (h.at q.bind).imp fun φ1 H1 S1 ds l1 rs1 ⟨hz, q1⟩ vs rr =>
    ⟨by rw [rr.length, hz]; exact Nat.le_of_lt (small1000 hl), fun p hp => q1.okN rs1 hp ⟨_, rfl, rr⟩ _ (rep_new rs1)⟩⟩
theorem de_dct : DE X cn W (.Dict [] [] pos) eDct :=
  PE.imp pe_dnewK fun σ H Q ⟨φ, ρ, S, re, rs, q⟩ p hp => q.okN rs hp ⟨_, rfl, rfl⟩ _ (rep_new rs)

/-! ### subscripts, slices, fields -/
theorem de_ix (hu : X.A.units + 1 < cLine) (ha : DE X cn W a fa) (hb : DE X cn W b fb) (hs : PlainIx b := by exact fun _ _ => rfl) : DE X cn W (.Subscript a b pos) (e2 gIx fa fb) :=
  PE.imp (pe_ix (ix_any hu) ha hb hs) fun σ H Q ⟨φ, ρ, S, re, rs, q⟩ => two (E := fun c d H' => W c d σ H') re rs q fun φ2 H2 S2 x y v1 v2 l rs2 r1 r2 q2 => imp_ix _ φ2 H2 S2 x y v1 v2 Q rs2 r1 r2 q2
def tDO (K : Frag) (cn : Nat → Addr) (W : WX) (f : FO) : TO := fun σ H Q => ∃ φ ρ S, RepE K φ H ρ σ ∧ RepS K cn φ H S ∧ Run K cn (fun c d H' => W c d σ H') φ H (f ρ S) fun _ H' _ o => Q o H'
abbrev DO (X : Cx) (cn : Nat → Addr) (W : WX) (e : Option Expr) (f : FO) : Prop := PO X e (tDO X.K cn W f)
theorem PO.imp {e : Option Expr} {t t' : TO} (h : PO X e t) (k : ∀ σ H Q, t' σ H Q → t σ H Q) : PO X e t' := ⟨fun pins s σ H Q I q => h.run pins s σ H Q I (k σ H Q q)⟩
theorem do_none : DO X cn W none oNone := PO.imp po_none fun σ H Q ⟨φ, ρ, S, re, rs, q⟩ => q.okI rs
theorem do_some (h : DE X cn W e f) : DO X cn W (some e) (oSome f) := PO.imp (po_some h) fun σ H Q ⟨φ, ρ, S, re, rs, q⟩ => ⟨φ, ρ, S, re, rs, q.bind.imp fun φ1 H1 S1 x l1 rs1 q1 v1 r1 => by
  cases x with
  | int i => exact ⟨i, r1, q1.okI rs1⟩
  | _ => exact q1.elim⟩
theorem de_sl {lo hi : Option Expr} {fl fh : FO} {p2 : Pos} (he : DE X cn W e f) (hl : DO X cn W lo fl) (hu : DO X cn W hi fh) : DE X cn W (.Subscript e (.Slice lo hi none p2) pos) (eSl f fl fh) :=
  PE.imp (pe_slice sl_all he hl hu) fun σ H Q ⟨φ, ρ, S, re, rs, q⟩ => ⟨φ, ρ, S, re, rs, q.bind.imp fun φ1 H1 S1 x l1 rs1 q1 v1 r1 => ⟨φ1, ρ, S1, re.le l1, rs1, q1.bind.imp fun φ2 H2 S2 l l2 rs2 q2 =>
    ⟨φ2, ρ, S2, re.le (l1.trans l2), rs2, q2.bind.imp fun φ3 H3 S3 u l3 rs3 q3 => imp_sl _ rs3 (r1.le (l2.trans l3)) q3⟩⟩⟩
theorem rep_ins {φ : List Addr} {H : Hp} {S : Sto} {n : Nat} {v : V} {c : Nat} {fs : List (Str × D)} (r : RepS X.K cn φ H S) (h : RepV X.K φ H (.loc n) v) (e : S[n]? = some (.ins c fs)) : ∃ a dx xs, v = .ref a ∧ φ[n]? = some a ∧ H a = some (.ins (cn c) dx xs) ∧ RepK X.K φ H fs xs := by
  obtain ⟨a, h2, h1, u, h3, dx, xs, rfl, h5⟩ := rep_loc r h e
  exact ⟨a, dx, xs, h2, h1, h3, h5⟩
theorem valV_lookup {κ : Type} [DecidableEq κ] [BEq κ] [LawfulBEq κ] (k : κ) : ∀ kvs : List (κ × V), valV kvs k = kvs.lookup k
  | [] => rfl
  | (k', v) :: r => by
    by_cases e : k' = k
    · rw [valV_pos e, List.lookup_cons]
      simp [e]
    · rw [valV_neg e, List.lookup_cons, valV_lookup k r]
      have : (k == k') = false := by simpa using fun z => e z.symm
      rw [this]
theorem de_fld {c : Nat} {nm : Str} (hc : Cls X.K (cn c)) (hn : NoAttr X.K (cn c) nm) (he : DE X cn W e f) (hb : attributeBase e nm X.env (eval e X.env) = eval e X.env := by rfl) : DE X cn W (.Attribute e nm pos) (e1 (gFld c nm) f) :=
  PE.imp (pe_fld he hb) fun σ H Q ⟨φ, ρ, S, re, rs, q⟩ => ⟨φ, ρ, S, re, rs, Run.imp (Run.bind q) fun φ1 H1 S1 x l1 rs1 q1 v1 r1 => by
    unfold gFld at q1
    split at q1
    · split at q1
      · rename_i c' fs e2
        split at q1
        · rename_i ec
          subst ec
          split at q1
          · rename_i d e3
            obtain ⟨a, dx, xs, rfl, h1, h2, h3⟩ := rep_ins rs1 r1 e2
            obtain ⟨w, h4, h5⟩ := h3.get e3
            exact ⟨a, _, dx, xs, w, rfl, h2, hc, hn, by rw [← valV_lookup]; exact h4, q1.okI rs1 _ h5⟩
          · exact q1.elim
        · exact q1.elim
      · exact q1.elim
    · exact q1.elim⟩

/-! ### calls -/
variable {x : Str} {p : Pos} {id T : String} {r : List V → Hp → VK → Prop} {g : List D → Sto → R D}
theorem de_callB (hc : CallR X (.builtin id) r) (hi : ImpN X.K cn r g) (hg : Gl X x) (hm : X.mg x = none) (hv : bootBuiltins x = some (.builtin id)) (ha : DA X cn W (e :: es) fs) (hn : x ≠ "__name__" := by decide) (hdb : (x == ("__debug__" : Str)) = false := by decide)
    (he : starEach (e :: es) X.env = (false, eval e X.env) :: starEach es X.env := by rfl) (hpl : (backTo pos (starEach es X.env)).any (·.1) = false := by rfl) : DE X cn W (.Call (.Name x p) (e :: es) [] pos) (eN g fs) :=
  PE.imp (pe_callB hc hg hm hv ha.pa hn hdb he hpl) fun σ H Q ⟨φ, ρ, S, re, rs, q⟩ => ⟨φ, ρ, S, re, rs, Run.imp (Run.bind q) fun φ1 H1 S1 x l1 rs1 q1 v1 r1 => hi _ φ1 H1 S1 x v1 Q rs1 r1 q1⟩
theorem de_callTy (hc : CallR X (.type T) r) (hi : ImpN X.K cn r g) (hg : Gl X x) (hm : X.mg x = none) (hv : bootBuiltins x = some (.type T)) (ha : DA X cn W (e :: es) fs) (hn : x ≠ "__name__" := by decide) (hdb : (x == ("__debug__" : Str)) = false := by decide)
    (he : starEach (e :: es) X.env = (false, eval e X.env) :: starEach es X.env := by rfl) (hpl : (backTo pos (starEach es X.env)).any (·.1) = false := by rfl) : DE X cn W (.Call (.Name x p) (e :: es) [] pos) (eN g fs) :=
  PE.imp (pe_callTy hc hg hm hv ha.pa hn hdb he hpl) fun σ H Q ⟨φ, ρ, S, re, rs, q⟩ => ⟨φ, ρ, S, re, rs, Run.imp (Run.bind q) fun φ1 H1 S1 x l1 rs1 q1 v1 r1 => hi _ φ1 H1 S1 x v1 Q rs1 r1 q1⟩
theorem tyV_list {φ : List Addr} {H : Hp} {S : Sto} {d : D} {v : V} (rs : RepS X.K cn φ H S) (r : RepV X.K φ H d v) (h : (lstOf d S).isSome = true) : tyV X.K "list" v H := by
  obtain ⟨ds, e⟩ := Option.isSome_iff_exists.mp h
  obtain ⟨a, xs, rfl, h2, h3⟩ := rep_lstOf rs r e
  exact .inl ⟨rfl, xs, h2⟩
theorem de_bm {o : Expr} {name : Str} {apos cpos : Pos} {fo : FE} {rm : V → List V → Hp → VK → Prop} {gm : D → List D → Sto → R D} (slot : Slot "list" name id) (hty : typeOf (.builtin id) = pure (.type "method_descriptor")) (hm : MtR X id rm) (hi : ImpM X.K cn rm gm)
    (ho : DE X cn W o fo) (ha : DA X cn W (e :: es) fs)
    (hbase : attributeBase o name X.env (eval o X.env) = eval o X.env := by rfl)
    (hfew : ((backTo cpos (starEach (e :: es) X.env)).all (fun x => !x.1) && (backToKw cpos (keywordEach [] X.env)).all (fun x => x.1.isSome)
      && decide ((e :: es).length + ([] : List Keyword).length + (if ([] : List Keyword).isEmpty then 0 else 1) < 30)) = true := by rfl)
    (hline : (apos.endLine == cpos.line) = true := by rfl) (hs : starEach (e :: es) X.env = (false, eval e X.env) :: starEach es X.env := by rfl) (hplain : (backTo cpos (starEach es X.env)).any (·.1) = false := by rfl) :
    DE X cn W (.Call (.Attribute o name apos) (e :: es) [] cpos) (eM gm fo fs) :=
  PE.imp (pe_bm PySem.F.plainAttrs_list slot hty hm ho ha.pa hbase hfew hline hs hplain) fun σ H Q ⟨φ, ρ, S, re, rs, q⟩ => ⟨φ, ρ, S, re, rs, q.bind.imp fun φ1 H1 S1 x l1 rs1 q1 v1 r1 => by
    split at q1
    · rename_i hl
      refine ⟨tyV_list rs1 r1 hl, φ1, ρ, S1, re.le l1, rs1, q1.bind.imp fun φ2 H2 S2 ds l2 rs2 q2 vs rr => ?_⟩
      exact hi _ φ2 H2 S2 x ds v1 vs Q rs2 (r1.le l2) rr q2
    · exact q1.elim⟩
theorem de_bm0 {o : Expr} {name : Str} {apos cpos : Pos} {fo : FE} {rm : V → List V → Hp → VK → Prop} {gm : D → List D → Sto → R D} (slot : Slot "list" name id) (hty : typeOf (.builtin id) = pure (.type "method_descriptor")) (hm : MtR X id rm) (hi : ImpM X.K cn rm gm)
    (ho : DE X cn W o fo) (hbase : attributeBase o name X.env (eval o X.env) = eval o X.env := by rfl) (hline : (apos.endLine == cpos.line) = true := by rfl) :
    DE X cn W (.Call (.Attribute o name apos) [] [] cpos) (eM gm fo aNil) :=
  PE.imp (pe_bm0 PySem.F.plainAttrs_list slot hty hm ho hbase hline) fun σ H Q ⟨φ, ρ, S, re, rs, q⟩ => ⟨φ, ρ, S, re, rs, q.bind.imp fun φ1 H1 S1 x l1 rs1 q1 v1 r1 => by
    split at q1
    · rename_i hl
      exact ⟨tyV_list rs1 r1 hl, hi _ φ1 H1 S1 x [] v1 [] Q rs1 r1 rfl q1⟩
    · exact q1.elim⟩
end
end DS

/-! DsE: statements, targets, loops, comprehensions, defs, by data. -/
namespace DS
open PySem L2 PyProof.Rows

inductive RS where
  | nx (ρ : En) (S : Sto) | ret (d : D) (S : Sto) | brk (ρ : En) (S : Sto) | cnt (ρ : En) (S : Sto) | exc (c : Nat) (ρ : En) (S : Sto) | no
abbrev FS := En → Sto → RS
def R.toS {α : Type} (r : R α) (ρ : En) (k : α → Sto → RS) : RS := match r with
  | .ok a S => k a S
  | .exc c S => .exc c ρ S
  | .no => .no
@[simp] theorem R.toS_ok {α : Type} (a : α) (S : Sto) (ρ : En) (k : α → Sto → RS) : (R.ok a S).toS ρ k = k a S := id rfl
@[simp] theorem R.toS_exc {α : Type} (c : Nat) (S : Sto) (ρ : En) (k : α → Sto → RS) : (R.exc c S).toS ρ k = .exc c ρ S := rfl
@[simp] theorem R.toS_no {α : Type} (ρ : En) (k : α → Sto → RS) : (R.no).toS ρ k = .no := rfl
/-- what a def hands back -/
def RS.out (r : RS) : R D := match r with
  | .nx _ S => .ok .non S
  | .ret d S => .ok d S
  | .exc c _ S => .exc c S
  | _ => .no

section
variable (K : Frag) (cn : Nat → Addr) (W : WX)
def RunS (φ : List Addr) (H : Hp) (r : RS) (D : Ends) : Prop := match r with
  | .nx ρ S => ∀ φ' H' σ', Le φ H φ' H' → RepS K cn φ' H' S → RepE K φ' H' ρ σ' → D.nx σ' H'
  | .brk ρ S => ∀ φ' H' σ', Le φ H φ' H' → RepS K cn φ' H' S → RepE K φ' H' ρ σ' → D.bk σ' H'
  | .cnt ρ S => ∀ φ' H' σ', Le φ H φ' H' → RepS K cn φ' H' S → RepE K φ' H' ρ σ' → D.ct σ' H'
  | .ret d S => ∀ φ' H' v, Le φ H φ' H' → RepS K cn φ' H' S → RepV K φ' H' d v → D.rt v H'
  | .exc c ρ S => ∀ φ' H' σ', Le φ H φ' H' → RepS K cn φ' H' S → RepE K φ' H' ρ σ' → W (.ref (cn c)) none σ' H'
  | .no => False
def tDS (f : FS) : TS := fun D σ H => ∃ φ ρ S, RepE K φ H ρ σ ∧ RepS K cn φ H S ∧ RunS K cn W φ H (f ρ S) D
end
section
variable {K : Frag} {cn : Nat → Addr} {W : WX} {φ φ' : List Addr} {H H' : Hp} {σ : L2.St} {ρ : En} {S : Sto} {Z : Ends} {r : RS}
theorem RunS.le (l : Le φ H φ' H') (h : RunS K cn W φ H r Z) : RunS K cn W φ' H' r Z := by
  cases r with
  | nx ρ S => exact fun a b c l2 => h a b c (l.trans l2)
  | brk ρ S => exact fun a b c l2 => h a b c (l.trans l2)
  | cnt ρ S => exact fun a b c l2 => h a b c (l.trans l2)
  | ret d S => exact fun a b c l2 => h a b c (l.trans l2)
  | exc c ρ S => exact fun a b c l2 => h a b c (l.trans l2)
  | no => exact h
theorem RunS.ofR {α : Type} {q : R α} {k : α → Sto → RS} (re : RepE K φ H ρ σ) (h : RunS K cn W φ H (q.toS ρ k) Z) : Run K cn (fun c d H' => W c d σ H') φ H q fun φ' H' S' a => RunS K cn W φ' H' (k a S') Z := by
  cases q with
  | ok a S => exact fun φ2 H2 l2 _ => RunS.le l2 h
  | exc c S => exact fun φ2 H2 l2 r2 => h φ2 H2 σ l2 r2 (re.le l2)
  | no => exact h
theorem RunS.nxI (h : RunS K cn W φ H (.nx ρ S) Z) (re : RepE K φ H ρ σ) (rs : RepS K cn φ H S) : Z.nx σ H := h φ H σ (Le.refl _ _) rs re
theorem RepE.set {d : D} {v : V} (i : Nat) (re : RepE K φ H ρ σ) (r : RepV K φ H d v) : RepE K φ H (ρ.set i (some d)) (σ.set i (some v)) := by
  refine ⟨by simp [re.1], fun j d' e => ?_⟩
  by_cases hj : i = j
  · subst hj
    have hl : i < ρ.length := by simpa using (List.getElem?_eq_some_iff.mp e).1
    rw [List.getElem?_set_self hl] at e
    cases e
    exact ⟨v, List.getElem?_set_self (by rw [← re.1]; exact hl), r⟩
  · rw [List.getElem?_set_ne hj] at e ⊢
    exact re.2 j d' e
end

/-! ### targets -/
abbrev FB := D → En → Sto → Option En
def Agr (vs : List Nat) (σ σ' : L2.St) : Prop := σ'.length = σ.length ∧ ∀ i, i ∉ vs → σ'[i]? = σ[i]?
def gD (K : Frag) (cn : Nat → Addr) (vs : List Nat) (b : FB) : TG := fun v σ H Q => ∃ φ d ρ ρ' S, RepV K φ H d v ∧ RepE K φ H ρ σ ∧ RepS K cn φ H S ∧ b d ρ S = some ρ' ∧ ∀ σ', RepE K φ H ρ' σ' → Agr vs σ σ' → Q σ' H
abbrev DG (X : Cx) (cn : Nat → Addr) (tg : Expr) (vs : List Nat) (b : FB) : Prop := PG X tg (gD X.K cn vs b)
theorem PG.imp {X : Cx} {tg : Expr} {t t' : TG} (h : PG X tg t) (k : ∀ v σ H Q, t' v σ H Q → t v σ H Q) : PG X tg t' := ⟨fun pins s σ H v u Q I r q => h.run pins s σ H v u Q I r (k v σ H Q q)⟩
theorem PG.or {X : Cx} {tg : Expr} {t t' : TG} (h : PG X tg t) (h' : PG X tg t') : PG X tg (fun v σ H Q => t v σ H Q ∨ t' v σ H Q) := ⟨fun pins s σ H v u Q I r q => by
  rcases q with q | q
  · exact h.run pins s σ H v u Q I r q
  · exact h'.run pins s σ H v u Q I r q⟩
def bName (i : Nat) : FB := fun d ρ _ => some (ρ.set i (some d))
def bNames : List Nat → List D → En → En
  | i :: is, d :: ds, ρ => bNames is ds (ρ.set i (some d))
  | _, _, ρ => ρ
def bTup (is : List Nat) : FB := fun d ρ S => match seqOf d S with
  | some ds => if ds.length = is.length then some (bNames is ds ρ) else none
  | none => none
def gNames : List Nat → TGs
  | [] => gNil
  | i :: is => gCons (gName i) (gNames is)
theorem names_run {K : Frag} {φ : List Addr} {H : Hp} : ∀ {is : List Nat} {ds : List D} {vs : List V} {σ : L2.St} {ρ : En} {Q : L2.St → Hp → Prop} (all : List Nat), (∀ i ∈ is, i ∈ all) → RepVs K φ H ds vs → ds.length = is.length → RepE K φ H ρ σ →
    (∀ σ', RepE K φ H (bNames is ds ρ) σ' → Agr all σ σ' → Q σ' H) → gNames is vs σ H Q
  | [], [], vs, σ, ρ, Q, all, _, rr, _, re, q => ⟨rr, q σ re ⟨rfl, fun _ _ => rfl⟩⟩
  | i :: is, d :: ds, vs, σ, ρ, Q, all, hs, rr, hl, re, q => by
    obtain ⟨x, xs, rfl, h2, h3⟩ := rr
    refine ⟨x, xs, rfl, names_run all (fun j hj => hs j (List.mem_cons_of_mem _ hj)) h3 (by simpa using hl) (re.set i h2) fun σ' re' ag => q σ' re' ⟨?_, fun j hj => ?_⟩⟩
    · rw [ag.1, List.length_set]
    · rw [ag.2 j hj, List.getElem?_set_ne (fun e => hj (by rw [← e]; exact hs i List.mem_cons_self))]
  | [], _ :: _, _, _, _, _, _, _, _, hl, _, _ => by simp at hl
  | _ :: _, [], _, _, _, _, _, _, _, hl, _, _ => by simp at hl
section
variable {X : Cx} {cn : Nat → Addr} {pos : Pos}
theorem dg_name (i : Nat) {x : Str} (hN : X.N.Nodup) (hi : X.N[i]? = some x := by rfl) (hx : Loc X.env.scope x := by first | exact Or.inl rfl | exact Or.inr rfl) (hf : X.fn x = true ∨ X.env.scope.names.lookup x = some .local := by first | exact .inl rfl | exact .inr rfl | assumption) : DG X cn (.Name x pos) [i] (bName i) :=
  PG.imp (pg_name hN hi hx hf) fun v σ H Q ⟨φ, d, ρ, ρ', S, r, re, rs, e, q⟩ => by
    cases e
    exact q _ (re.set i r) ⟨by simp, fun j hj => List.getElem?_set_ne (fun z => hj (by simp [z]))⟩
theorem dg_tup {es : List Expr} {k : Nat} {is : List Nat} (hc : X.calm = true) (h : PGs X es (gNames is))
    (hn : (assignEach es X.env).length = is.length := by rfl) (hst : (assignEach es X.env).findIdx? (·.1) = none := by rfl) : DG X cn (.Tuple es k pos) is (bTup is) :=
  PG.imp (PG.or (pg_tup (n := is.length) hc h hn hst) (pg_lst (n := is.length) hc h hn hst)) fun v σ H Q ⟨φ, d, ρ, ρ', S, r, re, rs, e, q⟩ => by
    unfold bTup at e
    split at e
    · rename_i ds e1
      split at e
      · rename_i hl
        cases e
        obtain ⟨a, xs, rfl, h2, h3⟩ := rep_seq rs r e1
        have hq := names_run (Q := Q) is (fun i hi => hi) h3 hl re q
        rcases h2 with h2 | h2
        · exact .inr ⟨a, xs, rfl, h2, by rw [h3.length, hl], hq⟩
        · exact .inl ⟨a, xs, rfl, h2, by rw [h3.length, hl], hq⟩
      · cases e
    · cases e
end

/-! ### statements -/
abbrev DS (X : Cx) (cn : Nat → Addr) (W : WX) (st : Stmt) (f : FS) : Prop := PS X st (tDS X.K cn W f)
abbrev DSs (X : Cx) (cn : Nat → Addr) (W : WX) (sts : List Stmt) (f : FS) : Prop := PSs X sts (tDS X.K cn W f)
def sNx : FS := fun ρ S => .nx ρ S
def sSeq (f g : FS) : FS := fun ρ S => match f ρ S with
  | .nx ρ' S' => g ρ' S'
  | r => r
def sBrk : FS := fun ρ S => .brk ρ S
def sCnt : FS := fun ρ S => .cnt ρ S
def sEx (f : FE) : FS := fun ρ S => (f ρ S).toS ρ fun _ S1 => .nx ρ S1
def sRet (f : FE) : FS := fun ρ S => (f ρ S).toS ρ fun d S1 => .ret d S1
def sRetN : FS := fun ρ S => .ret .non S
def sIf (c : FT) (f g : FS) : FS := fun ρ S => (c ρ S).toS ρ fun b S1 => if b = true then f ρ S1 else g ρ S1
def sAsg (f : FE) (b : FB) : FS := fun ρ S => (f ρ S).toS ρ fun d S1 => match b d ρ S1 with
  | some ρ1 => .nx ρ1 S1
  | none => .no
def sPar (i j : Nat) (f : FA) : FS := fun ρ S => (f ρ S).toS ρ fun ds S1 => match ds with
  | [d, e] => .nx ((ρ.set i (some d)).set j (some e)) S1
  | _ => .no
def sSet (fo fi fv : FE) : FS := fun ρ S => (fv ρ S).toS ρ fun d S1 => (fo ρ S1).toS ρ fun o S2 => (fi ρ S2).toS ρ fun i S3 => (gSet o i d S3).toS ρ fun _ S4 => .nx ρ S4
def sAug (i : Nat) (f : FE) (g : D → D → Sto → R D) : FS := fun ρ S => match ρ[i]? with
  | some (some x) => (f ρ S).toS ρ fun d S1 => (g x d S1).toS ρ fun z S2 => .nx (ρ.set i (some z)) S2
  | _ => .no
def sRaise (c : Nat) : FS := fun ρ S => .exc c ρ S
section
variable {X : Cx} {cn : Nat → Addr} {W : WX} {st : Stmt} {rest : List Stmt} {f g : FS} {e : Expr} {fe : FE} {pos : Pos}
theorem dss_nil : DSs X cn W [] sNx := PSs.imp pss_nil fun D σ H ⟨φ, ρ, S, re, rs, q⟩ => q.nxI re rs
theorem dss_one (h : DS X cn W st f) : DSs X cn W [st] f := pss_one h
theorem dss_cons (h1 : DS X cn W st f) (h2 : DSs X cn W rest g) : DSs X cn W (st :: rest) (sSeq f g) :=
  PSs.imp (pss_cons h1 h2) fun D σ H ⟨φ, ρ, S, re, rs, q⟩ => ⟨φ, ρ, S, re, rs, by
    unfold sSeq at q
    cases h : f ρ S with
    | nx ρ' S' =>
      rw [h] at q
      exact fun φ2 H2 σ2 l2 r2 e2 => ⟨φ2, ρ', S', e2, r2, q.le l2⟩
    | ret d S' => rw [h] at q; exact q
    | brk ρ' S' => rw [h] at q; exact q
    | cnt ρ' S' => rw [h] at q; exact q
    | exc c ρ' S' => rw [h] at q; exact q
    | no => rw [h] at q; exact q⟩
theorem ds_pass : DS X cn W (.Pass pos) sNx := PS.imp ps_pass fun D σ H ⟨φ, ρ, S, re, rs, q⟩ => q.nxI re rs
theorem ds_brk : DS X cn W (.Break pos) sBrk := PS.imp ps_break fun D σ H ⟨φ, ρ, S, re, rs, q⟩ => q φ H σ (Le.refl _ _) rs re
theorem ds_cnt : DS X cn W (.Continue pos) sCnt := PS.imp ps_continue fun D σ H ⟨φ, ρ, S, re, rs, q⟩ => q φ H σ (Le.refl _ _) rs re
theorem ds_expr (he : DE X cn W e fe) (hs : swapsWith e none pos.line X.env = pure false := by rfl) : DS X cn W (.Expr e pos) (sEx fe) :=
  PS.imp (ps_expr he hs) fun D σ H ⟨φ, ρ, S, re, rs, q⟩ => ⟨φ, ρ, S, re, rs, (RunS.ofR re q).imp fun φ1 H1 S1 d l1 rs1 q1 v r => q1.nxI (re.le l1) rs1⟩
theorem ds_ret (he : DE X cn W e fe) : DS X cn W (.Return (some e) pos) (sRet fe) :=
  PS.imp (ps_ret he) fun D σ H ⟨φ, ρ, S, re, rs, q⟩ => ⟨φ, ρ, S, re, rs, (RunS.ofR re q).imp fun φ1 H1 S1 d l1 rs1 q1 v r => q1 φ1 H1 v (Le.refl _ _) rs1 r⟩
theorem ds_retN : DS X cn W (.Return none pos) sRetN := PS.imp ps_retN fun D σ H ⟨φ, ρ, S, re, rs, q⟩ => q φ H _ (Le.refl _ _) rs rfl
theorem ds_if {c : Expr} {a b : List Stmt} {tc : FT} (hc : DT X cn W c tc) (ha : DSs X cn W a f) (hb : DSs X cn W b g) : DS X cn W (.If c a b pos) (sIf tc f g) :=
  PS.imp (ps_if hc ha hb) fun D σ H ⟨φ, ρ, S, re, rs, q⟩ => ⟨φ, ρ, S, re, rs, (RunS.ofR re q).imp fun φ1 H1 S1 d l1 rs1 q1 => by
    cases d with
    | true =>
      rw [if_pos rfl] at q1 ⊢
      exact ⟨φ1, ρ, S1, re.le l1, rs1, q1⟩
    | false =>
      rw [if_neg Bool.false_ne_true] at q1 ⊢
      exact ⟨φ1, ρ, S1, re.le l1, rs1, q1⟩⟩
theorem asg_run {φ : List Addr} {H : Hp} {ρ : En} {S : Sto} {σ : L2.St} {Z : Ends} {b : FB} {vs : List Nat} (re : RepE X.K φ H ρ σ) (rs : RepS X.K cn φ H S) (q : RunS X.K cn W φ H (sAsg fe b ρ S) Z) :
    tAsg (tD X.K cn W fe) (gD X.K cn vs b) Z σ H := ⟨φ, ρ, S, re, rs, (RunS.ofR re q).imp fun φ1 H1 S1 d l1 rs1 q1 v r => by
  split at q1
  · rename_i ρ1 e1
    exact ⟨φ1, d, ρ, ρ1, S1, r, re.le l1, rs1, e1, fun σ' re' _ => q1.nxI re' rs1⟩
  · exact q1.elim⟩
theorem ds_asg {tg : Expr} {vs : List Nat} {b : FB} (he : DE X cn W e fe) (hg : DG X cn tg vs b) (hs : swapsWithSole [tg] e pos.line X.env = pure false := by rfl) (hw : swappedStores [tg] e X.env = pure none := by rfl)
    (h1 : (assignEach [tg] X.env).map (·.2) = [assign tg X.env] := by rfl) : DS X cn W (.Assign [tg] e pos) (sAsg fe b) :=
  PS.imp (ps_asg he hg hs hw h1) fun D σ H ⟨φ, ρ, S, re, rs, q⟩ => asg_run re rs q
theorem ds_set {x : Str} {pos' : Pos} (i : Nat) (hN : X.N.Nodup) (he : DE X cn W e fe) (hi : X.N[i]? = some x := by rfl) (hx : Loc X.env.scope x := by first | exact Or.inl rfl | exact Or.inr rfl) (hs : swapsWith e (some (.Name x pos')) pos.line X.env = pure false := by rfl)
    (hf : X.fn x = true ∨ X.env.scope.names.lookup x = some .local := by first | exact .inl rfl | exact .inr rfl | assumption) : DS X cn W (.Assign [.Name x pos'] e pos) (sAsg fe (bName i)) :=
  PS.imp (ps_set (i := i) hN hi hx he hs hf) fun D σ H ⟨φ, ρ, S, re, rs, q⟩ => ⟨φ, ρ, S, re, rs, (RunS.ofR re q).imp fun φ1 H1 S1 d l1 rs1 q1 v r => q1.nxI ((re.le l1).set i r) rs1⟩
theorem ds_par {i j : Nat} {x y : Str} {a b : Expr} {fa : FA} {px py pt : Pos} {kt k2 pt2} (hc : X.calm = true) (hN : X.N.Nodup) (ha : DA X cn W [a, b] fa) (hij : i ≠ j) (hi : X.N[i]? = some x := by rfl) (hj : X.N[j]? = some y := by rfl)
    (hx : X.env.scope.names.lookup x = some .local := by rfl) (hy : X.env.scope.names.lookup y = some .local := by rfl)
    (hw : swappedStores [.Tuple [.Name x px, .Name y py] kt pt] (.Tuple [a, b] k2 pt2) X.env = pure (some [x, y]) := by rfl)
    (hs : swapsWithSole [.Tuple [.Name x px, .Name y py] kt pt] (.Tuple [a, b] k2 pt2) pos.line X.env = pure false := by rfl) :
    DS X cn W (.Assign [.Tuple [.Name x px, .Name y py] kt pt] (.Tuple [a, b] k2 pt2) pos) (sPar i j fa) :=
  PS.imp (ps_par hc hN hi hj hij hx hy ha.pa hw hs) fun D σ H ⟨φ, ρ, S, re, rs, q⟩ => ⟨φ, ρ, S, re, rs, (RunS.ofR re q).imp fun φ1 H1 S1 ds l1 rs1 q1 vs rr => by
    split at q1
    · obtain ⟨v, u, rfl, r1, r2⟩ := rep_two rr
      exact ⟨v, u, rfl, q1.nxI (((re.le l1).set i r1).set j r2) rs1⟩
    · exact q1.elim⟩
theorem ds_setItem {o i v : Expr} {fo fi fv : FE} {pos' : Pos} (hu : X.A.units + 1 < cLine) (ho : DE X cn W o fo) (hi : DE X cn W i fi) (hv : DE X cn W v fv) (hs : swapsWithSole [.Subscript o i pos'] v pos.line X.env = pure false := by rfl) (hw : swappedStores [.Subscript o i pos'] v X.env = pure none := by rfl)
    (h1 : (assignEach [.Subscript o i pos'] X.env).map (·.2) = [assign (.Subscript o i pos') X.env] := by rfl)
    (ha : ∀ w, assign (.Subscript o i pos') X.env w = (do
      let ov ← holding [w] (eval o X.env)
      let iv ← holding [w, ov] (eval i X.env)
      standAt pos'
      holding [w, ov, iv] (setItem ov iv w)
      release [w, ov, iv] []) := by intro _; rfl) : DS X cn W (.Assign [.Subscript o i pos'] v pos) (sSet fo fi fv) :=
  PS.imp (ps_asg hv (pg_sub ho hi (set_all hu) ha) hs hw h1) fun D σ H ⟨φ, ρ, S, re, rs, q⟩ => ⟨φ, ρ, S, re, rs, (RunS.ofR re q).imp fun φ1 H1 S1 d l1 rs1 q1 w r => ⟨φ1, ρ, S1, re.le l1, rs1, (RunS.ofR (re.le l1) q1).imp fun φ2 H2 S2 o l2 rs2 q2 vo ro =>
    ⟨φ2, ρ, S2, re.le (l1.trans l2), rs2, (RunS.ofR (re.le (l1.trans l2)) q2).imp fun φ3 H3 S3 i l3 rs3 q3 vi ri => imp_set (fun c d H' => W c d σ H') rs3 (ro.le l3) ri (r.le (l2.trans l3))
      ((RunS.ofR (re.le ((l1.trans l2).trans l3)) q3).imp fun φ4 H4 S4 _ l4 rs4 q4 => q4.nxI (re.le (((l1.trans l2).trans l3).trans l4)) rs4)⟩⟩⟩
theorem ds_aug {x : Str} {op : Operator} {pos' : Pos} {r : R2} {ge : D → D → Sto → R D} (i : Nat) (hN : X.N.Nodup) (ho : OpR X (inplaceOp op) r) (hi : Imp2 X.K cn r ge) (he : DE X cn W e fe) (hx1 : X.N[i]? = some x := by rfl) (hx : Loc X.env.scope x := by first | exact Or.inl rfl | exact Or.inr rfl)
    (hf : X.fn x = true ∨ X.env.scope.names.lookup x = some .local := by first | exact .inl rfl | exact .inr rfl | assumption) : DS X cn W (.AugAssign (.Name x pos') op e pos) (sAug i fe ge) :=
  PS.imp (ps_aug (ti := fun x y H Q => r x y H Q) hN hx1 hx he (fun pins s σ H x y v u Q I rx ry q => ho pins s σ H x y v u Q I rx ry q) hf) fun D σ H ⟨φ, ρ, S, re, rs, q⟩ => by
    unfold sAug at q
    split at q
    · rename_i x e1
      obtain ⟨v, h1, h2⟩ := re.2 i x e1
      refine ⟨v, h1, φ, ρ, S, re, rs, (RunS.ofR re q).imp fun φ1 H1 S1 d l1 rs1 q1 w rw' => ?_⟩
      exact hi _ φ1 H1 S1 x d v w _ rs1 (h2.le l1) rw' ((RunS.ofR (re.le l1) q1).imp fun φ2 H2 S2 z l2 rs2 q2 u ru => q2.nxI ((re.le (l1.trans l2)).set i ru) rs2)
    · exact q.elim
end

/-! ### what a loop walks -/
structure DIt where
  items : List D
  chk : Sto → Prop
abbrev FI := En → Sto → R DIt
/-- an iterator of the layer gives these items -/
def ItOk (K : Frag) (cn : Nat → Addr) (J : It) (t : DIt) (φ0 : List Addr) (H0 : Hp) : Prop := ∀ (i : Nat) (φ : List Addr) (H : Hp) (S : Sto), Le φ0 H0 φ H → RepS K cn φ H S → t.chk S →
  (∀ d, t.items[i]? = some d → J.go i H ∧ ∀ x H', J.yld i H x H' → Le φ H φ H' ∧ RepS K cn φ H' S ∧ RepV K φ H' d x) ∧ (t.items.length ≤ i → J.stop i H)
def tDI (K : Frag) (cn : Nat → Addr) (W : WX) (f : FI) : TI := fun σ H R => ∃ φ ρ S, RepE K φ H ρ σ ∧ RepS K cn φ H S ∧ Run K cn (fun c d H' => W c d σ H') φ H (f ρ S) fun φ' H' _ t => ∀ J, ItOk K cn J t φ' H' → R J H'
abbrev DI (X : Cx) (cn : Nat → Addr) (W : WX) (tg e : Expr) (f : FI) : Prop := PI X tg e (tDI X.K cn W f)
theorem PI.imp {X : Cx} {tg e : Expr} {t t' : TI} (h : PI X tg e t) (k : ∀ σ H R, t' σ H R → t σ H R) : PI X tg e t' := ⟨fun pins s σ H R I q => h.run pins s σ H R I (k σ H R q)⟩
theorem PI.or {X : Cx} {tg e : Expr} {t t' : TI} (h : PI X tg e t) (h' : PI X tg e t') : PI X tg e (fun σ H R => t σ H R ∨ t' σ H R) := ⟨fun pins s σ H R I q => by
  rcases q with q | q
  · exact h.run pins s σ H R I q
  · exact h'.run pins s σ H R I q⟩
def yes : Sto → Prop := fun _ => True
/-- a list or a tuple -/
def itOf (d : D) (S : Sto) : R DIt := match d with
  | .tup ds => .ok ⟨ds, yes⟩ S
  | .rls ds => .ok ⟨ds, yes⟩ S
  | .loc n => match S[n]? with
    | some (.lst ds) => .ok ⟨ds, fun S' => S'[n]? = some (.lst ds)⟩ S
    | _ => .no
  | _ => .no
def iSq (f : FE) : FI := fun ρ S => (f ρ S).bind itOf
def rngD (lo : Int) (n : Nat) : List D := (List.range n).map fun k => .int (lo + (k : Nat))
open Classical in
noncomputable def iR1 (f : FE) : FI := fun ρ S => (f ρ S).bind fun d S1 => match d with
  | .int j => if -(2 ^ 62) ≤ j ∧ j < 2 ^ 62 then .ok ⟨rngD 0 j.toNat, yes⟩ S1 else .no
  | _ => .no
open Classical in
noncomputable def iR2 (f g : FE) : FI := fun ρ S => (f ρ S).bind fun d S1 => (g ρ S1).bind fun e S2 => match d, e with
  | .int i, .int j => if -(2 ^ 62) ≤ i ∧ i < 2 ^ 62 ∧ -(2 ^ 62) ≤ j ∧ j < 2 ^ 62 then .ok ⟨rngD i (j - i).toNat, yes⟩ S2 else .no
  | _, _ => .no
/-- pairs of two tuples' or two lists' items -/
def zipD : List D → List D → List D
  | a :: as, b :: bs => .tup [a, b] :: zipD as bs
  | _, _ => []
def iZip (f g : FE) : FI := fun ρ S => (f ρ S).bind fun d S1 => (g ρ S1).bind fun e S2 => match d, e with
  | .tup as, .tup bs => .ok ⟨zipD as bs, yes⟩ S2
  | .loc n, .loc m => match S2[n]?, S2[m]? with
    | some (.lst as), some (.lst bs) => .ok ⟨zipD as bs, fun S' => S'[n]? = some (.lst as) ∧ S'[m]? = some (.lst bs)⟩ S2
    | _, _ => .no
  | _, _ => .no
section
variable {X : Cx} {cn : Nat → Addr} {W : WX} {tg : Expr} {f g : FE} {l : Expr} {pos : Pos}
theorem rngD_get {lo : Int} {n i : Nat} {d : D} (h : (rngD lo n)[i]? = some d) : i < n ∧ d = .int (lo + (i : Nat)) := by
  unfold rngD at h
  rw [List.getElem?_map] at h
  obtain ⟨k, h1, h2⟩ := Option.map_eq_some_iff.mp h
  obtain ⟨h3, h4⟩ := List.getElem?_eq_some_iff.mp h1
  rw [List.getElem_range] at h4
  rw [List.length_range] at h3
  subst h4
  exact ⟨h3, h2.symm⟩
theorem itOk_rng {φ : List Addr} {H : Hp} {lo : Int} {n : Nat} : ItOk X.K cn (Itr lo n) ⟨rngD lo n, yes⟩ φ H := fun i φ H S l rs c =>
  ⟨fun d e => let ⟨h1, h2⟩ := rngD_get e; ⟨h1, fun x H' y => by
    obtain ⟨rfl, rfl⟩ := y
    exact ⟨Le.refl _ _, rs, by rw [h2]; rfl⟩⟩, fun e => by
    unfold rngD at e
    rw [List.length_map, List.length_range] at e
    exact e⟩
theorem itOk_tup {φ0 : List Addr} {H0 : Hp} {a : Addr} {xs : List V} {ds : List D} (h : ∀ φ H, Le φ0 H0 φ H → SqT X.K H a xs) (r : RepVs X.K φ0 H0 ds xs) : ItOk X.K cn (Itt X.K a) ⟨ds, yes⟩ φ0 H0 := fun i φ H S l rs c =>
  ⟨fun d e => by
    obtain ⟨v, h1, h2⟩ := (r.le l).get e
    refine ⟨⟨xs, v, h φ H l, h1⟩, fun x H' y => ?_⟩
    obtain ⟨rfl, y⟩ := y
    have := y xs (h φ _ l)
    rw [h1] at this
    cases this
    exact ⟨Le.refl _ _, rs, h2⟩, fun e => ⟨xs, h φ H l, by rw [r.length]; exact e⟩⟩
theorem itOk_lst {φ0 : List Addr} {H0 : Hp} {a : Addr} {xs : List V} {ds : List D} (h : ∀ φ H, Le φ0 H0 φ H → SqL X.K H a xs) (r : RepVs X.K φ0 H0 ds xs) : ItOk X.K cn (Itl X.K a) ⟨ds, yes⟩ φ0 H0 := fun i φ H S l rs c =>
  ⟨fun d e => by
    obtain ⟨v, h1, h2⟩ := (r.le l).get e
    refine ⟨⟨xs, v, h φ H l, h1⟩, fun x H' y => ?_⟩
    obtain ⟨rfl, y⟩ := y
    have := y xs (h φ _ l)
    rw [h1] at this
    cases this
    exact ⟨Le.refl _ _, rs, h2⟩, fun e => ⟨xs, h φ H l, by rw [r.length]; exact e⟩⟩
theorem itOk_loc {φ0 : List Addr} {H0 : Hp} {a : Addr} {n : Nat} {ds : List D} (hn : φ0[n]? = some a) : ItOk X.K cn (Itl X.K a) ⟨ds, fun S' => S'[n]? = some (.lst ds)⟩ φ0 H0 := fun i φ H S l rs c => by
  obtain ⟨b, h1, h2⟩ := rs.has c
  rw [l.get hn] at h1
  cases h1
  obtain ⟨u, h3, xs, rfl, h5⟩ := h2
  refine ⟨fun d e => ?_, fun e => ⟨xs, SqL.of h3, by rw [h5.length]; exact e⟩⟩
  obtain ⟨v, k1, k2⟩ := h5.get e
  refine ⟨⟨xs, v, SqL.of h3, k1⟩, fun x H' y => ?_⟩
  obtain ⟨rfl, y⟩ := y
  have := y xs (SqL.of h3)
  rw [k1] at this
  cases this
  exact ⟨Le.refl _ _, rs, k2⟩
/-- a list or a tuple, by its value -/
def iSeqV (K : Frag) (tl : TE) : TI := fun σ H R => tl σ H fun x H1 => ∃ a, x = .ref a ∧ (((∃ xs, SqL K H1 a xs) ∧ R (Itl K a) H1) ∨ ((∃ xs, SqT K H1 a xs) ∧ R (Itt K a) H1))
theorem pi_seqV {tl : TE} (hl : PE X l tl) : PI X tg l (iSeqV X.K tl) := by
  refine ⟨fun pins s σ H R I h => ?_⟩
  refine thn (hl.run pins s σ H _ I h) fun v s1 ⟨x, H1, I1, r1, q1⟩ => ?_
  obtain ⟨a, e, q1⟩ := q1
  subst e
  cases r1
  rcases q1 with ⟨⟨xs, hq⟩, q⟩ | ⟨⟨xs, hq⟩, q⟩
  · obtain ⟨its, rv, p, hz⟩ := I1.list hq
    refine wpAny_pyIter_list p.isList ?_
    refine ⟨s1.heap.objs.size, [s1.heap.objs.size], _, _, H1, rfl, I1.kept (t' := s1.toks) fun b o e => Heap.get?_push_of_some _ e, turn_list a _, ⟨_, Heap.get?_push_size _ rfl, rfl, rfl⟩, fun b hb => ?_, q⟩
    have e : b = s1.heap.objs.size := by simpa using hb
    subst e
    exact I1.fpOk (Nat.le_refl _) (I1.hok.fresh (Nat.le_refl _))
  · obtain ⟨its, rv, p, hz⟩ := I1.tuple hq
    refine wpAny_pyIter_tuple (show s1.heap.IsTuple a its.toArray from p) ?_
    refine ⟨s1.heap.objs.size, [s1.heap.objs.size], _, _, H1, rfl, I1.kept (t' := s1.toks) fun b o e => Heap.get?_push_of_some _ e, turn_tuple a _, ⟨_, Heap.get?_push_size _ rfl, rfl, rfl⟩, fun b hb => ?_, q⟩
    have e : b = s1.heap.objs.size := by simpa using hb
    subst e
    exact I1.fpOk (Nat.le_refl _) (I1.hok.fresh (Nat.le_refl _))
theorem di_seq (hl : DE X cn W l f) : DI X cn W tg l (iSq f) :=
  PI.imp (pi_seqV hl) fun σ H R ⟨φ, ρ, S, re, rs, q⟩ => ⟨φ, ρ, S, re, rs, q.bind.imp fun φ1 H1 S1 x l1 rs1 q1 v r => by
    unfold itOf at q1
    split at q1
    · obtain ⟨a, xs, rfl, h2, h3⟩ := r
      exact ⟨a, rfl, .inr ⟨⟨xs, h2.sq⟩, q1.okI rs1 _ (itOk_tup (fun φ H l => (h2.le l).sq) h3)⟩⟩
    · obtain ⟨a, xs, rfl, h2, h3⟩ := r
      exact ⟨a, rfl, .inl ⟨⟨xs, h2.sq⟩, q1.okI rs1 _ (itOk_lst (fun φ H l => (h2.le l).sq) h3)⟩⟩
    · split at q1
      · rename_i ds e
        obtain ⟨a, xs, rfl, h1, h2, h3⟩ := rep_lst rs1 r e
        exact ⟨a, rfl, .inl ⟨⟨xs, SqL.of h2⟩, q1.okI rs1 _ (itOk_loc h1)⟩⟩
      · exact q1.elim
    · exact q1.elim⟩
theorem di_rng1 {a : Expr} {p : Pos} (hg : Gl X "range") (hm : X.mg "range" = none) (ha : DE X cn W a f) (hs : starEach [a] X.env = [(false, eval a X.env)] := by rfl) : DI X cn W tg (.Call (.Name "range" p) [a] [] pos) (iR1 f) :=
  PI.imp (pi_range1 hg hm (pa_cons ha pa_nil (by rw [hs]; rfl)) hs) fun σ H R ⟨φ, ρ, S, re, rs, q⟩ => ⟨φ, ρ, S, re, rs, q.bind.imp fun φ1 H1 S1 x l1 rs1 q1 v r => by
    split at q1
    · split at q1
      · rename_i hz
        exact ⟨_, by rw [show v = V.int _ from r], hz.1, hz.2, q1.okI rs1 _ itOk_rng⟩
      · exact q1.elim
    · exact q1.elim⟩
theorem di_rng2 {a b : Expr} {p : Pos} (hg : Gl X "range") (hm : X.mg "range" = none) (ha : DE X cn W a f) (hb : DE X cn W b g) (hs : starEach [a, b] X.env = [(false, eval a X.env), (false, eval b X.env)] := by rfl) (hs2 : starEach [b] X.env = [(false, eval b X.env)] := by rfl) :
    DI X cn W tg (.Call (.Name "range" p) [a, b] [] pos) (iR2 f g) :=
  PI.imp (pi_range2 hg hm (pa_cons ha (pa_cons hb pa_nil (by rw [hs2]; rfl)) (by rw [hs, hs2])) hs hs2) fun σ H R ⟨φ, ρ, S, re, rs, q⟩ => ⟨φ, ρ, S, re, rs, q.bind.imp fun φ1 H1 S1 x l1 rs1 q1 v r => ⟨φ1, ρ, S1, re.le l1, rs1, q1.bind.imp fun φ2 H2 S2 y l2 rs2 q2 u ru => by
    split at q2
    · split at q2
      · rename_i hz
        exact ⟨_, _, by rw [show v = V.int _ from r, show u = V.int _ from ru], hz, q2.okI rs2 _ itOk_rng⟩
      · exact q2.elim
    · exact q2.elim⟩⟩
theorem zipD_get : ∀ {as bs : List D} {i : Nat} {d : D}, (zipD as bs)[i]? = some d → ∃ a b, as[i]? = some a ∧ bs[i]? = some b ∧ d = .tup [a, b]
  | [], _, _, _, h => by unfold zipD at h; simp at h
  | _ :: _, [], _, _, h => by unfold zipD at h; simp at h
  | a :: as, b :: bs, 0, d, h => by
    unfold zipD at h
    simp at h
    exact ⟨a, b, rfl, rfl, h.symm⟩
  | a :: as, b :: bs, i + 1, d, h => by
    unfold zipD at h
    obtain ⟨x, y, h1, h2, h3⟩ := zipD_get (as := as) (bs := bs) (i := i) (by simpa using h)
    exact ⟨x, y, by simpa using h1, by simpa using h2, h3⟩
theorem zipD_len : ∀ {as bs : List D} {i : Nat}, (zipD as bs).length ≤ i → as.length ≤ i ∨ bs.length ≤ i
  | [], _, _, h => .inl (Nat.zero_le _)
  | _ :: _, [], _, h => .inr (Nat.zero_le _)
  | a :: as, b :: bs, 0, h => by unfold zipD at h; simp at h
  | a :: as, b :: bs, i + 1, h => by
    unfold zipD at h
    rcases zipD_len (as := as) (bs := bs) (i := i) (by simpa using h) with h | h
    · exact .inl (by simpa using h)
    · exact .inr (by simpa using h)
theorem rep_pair {φ : List Addr} {H : Hp} {T : Addr} {a b : D} {x y : V} (hT : H T = none) (ra : RepV X.K φ H a x) (rb : RepV X.K φ H b y) : RepV X.K φ (upd H T (.tup [x, y])) (.tup [a, b]) (.ref T) :=
  rep_tup hT ⟨x, [y], rfl, ra, ⟨y, [], rfl, rb, rfl⟩⟩
theorem di_zip {e e2 : Expr} {p tpos : Pos} {elts : List Expr} {kk : Nat} (hg : Gl X "zip") (hm : X.mg "zip" = none) (ha : DE X cn W e f) (hb : DE X cn W e2 g)
    (hs : starEach [e, e2] X.env = (false, eval e X.env) :: starEach [e2] X.env := by rfl) (hs2 : starEach [e2] X.env = (false, eval e2 X.env) :: starEach [] X.env := by rfl) (hpl : (backTo pos (starEach [e2] X.env)).any (·.1) = false := by rfl) :
    DI X cn W (.Tuple elts kk tpos) (.Call (.Name "zip" p) [e, e2] [] pos) (iZip f g) :=
  PI.imp (RZ.pi_zipA hg hm (pa_cons ha (pa_cons hb pa_nil hs2) hs) hs hpl) fun σ H R ⟨φ, ρ, S, re, rs, q⟩ => ⟨φ, ρ, S, re, rs, q.bind.imp fun φ1 H1 S1 x l1 rs1 q1 v r => ⟨φ1, ρ, S1, re.le l1, rs1, q1.bind.imp fun φ2 H2 S2 y l2 rs2 q2 u ru => by
    have r := r.le l2
    split at q2
    · rename_i as bs
      obtain ⟨a, xs, rfl, h2, h3⟩ := r
      obtain ⟨b, ys, rfl, k2, k3⟩ := ru
      refine ⟨a, b, xs, ys, rfl, .inr ⟨h2.sq, k2.sq, q2.okI rs2 _ ?_⟩⟩
      refine fun i φ H S l rs c => ⟨fun d e => ?_, fun e => ⟨xs, ys, (h2.le l).sq, (k2.le l).sq, ?_⟩⟩
      · obtain ⟨da, db, e1, e2, rfl⟩ := zipD_get e
        obtain ⟨x, ex, rx⟩ := (h3.le l).get e1
        obtain ⟨y, ey, ry⟩ := (k3.le l).get e2
        refine ⟨⟨xs, ys, x, y, (h2.le l).sq, (k2.le l).sq, ex, ey⟩, fun w H' hy => ?_⟩
        obtain ⟨T, x', y', rfl, hT, rfl, z1, z2⟩ := hy
        have z1 := z1 xs (h2.le l).sq
        have z2 := z2 ys (k2.le l).sq
        rw [ex] at z1
        rw [ey] at z2
        cases z1
        cases z2
        exact ⟨Le.tupNew hT, rs.tupNew hT, rep_pair hT rx ry⟩
      · rw [h3.length, k3.length]
        exact zipD_len e
    · split at q2
      · rename_i as bs en em
        obtain ⟨a, xs, rfl, h1, h2, h3⟩ := rep_lst rs2 r en
        obtain ⟨b, ys, rfl, k1, k2, k3⟩ := rep_lst rs2 ru em
        refine ⟨a, b, xs, ys, rfl, .inl ⟨SqL.of h2, SqL.of k2, q2.okI rs2 _ ?_⟩⟩
        refine fun i φ H S l rs c => ?_
        obtain ⟨a', g1, g2⟩ := rs.has c.1
        rw [l.get h1] at g1
        cases g1
        obtain ⟨ob, g3, xs', rfl, g5⟩ := g2
        obtain ⟨b', g1, g2⟩ := rs.has c.2
        rw [l.get k1] at g1
        cases g1
        obtain ⟨ob, f3, ys', rfl, f5⟩ := g2
        refine ⟨fun d e => ?_, fun e => ⟨xs', ys', SqL.of g3, SqL.of f3, ?_⟩⟩
        · obtain ⟨da, db, e1, e2, rfl⟩ := zipD_get e
          obtain ⟨x, ex, rx⟩ := g5.get e1
          obtain ⟨y, ey, ry⟩ := f5.get e2
          refine ⟨⟨xs', ys', x, y, SqL.of g3, SqL.of f3, ex, ey⟩, fun w H' hy => ?_⟩
          obtain ⟨T, x', y', rfl, hT, rfl, z1, z2⟩ := hy
          have z1 := z1 xs' (SqL.of g3)
          have z2 := z2 ys' (SqL.of f3)
          rw [ex] at z1
          rw [ey] at z2
          cases z1
          cases z2
          exact ⟨Le.tupNew hT, rs.tupNew hT, rep_pair hT rx ry⟩
        · rw [g5.length, f5.length]
          exact zipD_len e
      · exact q2.elim
    · exact q2.elim⟩⟩
end
end DS

/-! DsF: loops, comprehensions, by data. -/
namespace DS
open PySem L2 PyProof.Rows

open Classical in
noncomputable def forL (b : FB) (body : FS) (chk : Sto → Prop) : List D → En → Sto → RS
  | [], ρ, S => if chk S then .nx ρ S else .no
  | d :: ds, ρ, S => if chk S then (match b d ρ S with
      | none => .no
      | some ρ1 => match body ρ1 S with
        | .nx ρ' S' => forL b body chk ds ρ' S'
        | .cnt ρ' S' => forL b body chk ds ρ' S'
        | .brk ρ' S' => .nx ρ' S'
        | r => r) else .no
noncomputable def sFor (fi : FI) (b : FB) (body : FS) : FS := fun ρ S => (fi ρ S).toS ρ fun t S1 => forL b body t.chk t.items ρ S1
def whileN (c : FT) (body : FS) : Nat → En → Sto → RS
  | 0, _, _ => .no
  | n + 1, ρ, S => (c ρ S).toS ρ fun k S1 => if k = true then (match body ρ S1 with
      | .nx ρ' S' => whileN c body n ρ' S'
      | .cnt ρ' S' => whileN c body n ρ' S'
      | .brk ρ' S' => .nx ρ' S'
      | r => r) else .nx ρ S1
open Classical in
noncomputable def sWhile (c : FT) (body : FS) : FS := fun ρ S => if h : ∃ n, whileN c body n ρ S ≠ .no then whileN c body h.choose ρ S else .no

section
variable {K : Frag} {cn : Nat → Addr} {W : WX} {φ : List Addr} {H : Hp} {Z : Ends}
/-- behind a loop's body -/
theorem RunS.body {r : RS} {k : En → Sto → RS} {N : L2.St → Hp → Prop} (h : RunS K cn W φ H (match r with
      | .nx ρ' S' => k ρ' S'
      | .cnt ρ' S' => k ρ' S'
      | .brk ρ' S' => .nx ρ' S'
      | r => r) Z) (hN : ∀ φ' H' σ' ρ' S', Le φ H φ' H' → RepS K cn φ' H' S' → RepE K φ' H' ρ' σ' → RunS K cn W φ' H' (k ρ' S') Z → N σ' H') : RunS K cn W φ H r { Z with nx := N, ct := N, bk := Z.nx } := by
  cases r with
  | nx ρ S => exact fun φ2 H2 σ2 l2 r2 e2 => hN φ2 H2 σ2 ρ S l2 r2 e2 (RunS.le l2 h)
  | cnt ρ S => exact fun φ2 H2 σ2 l2 r2 e2 => hN φ2 H2 σ2 ρ S l2 r2 e2 (RunS.le l2 h)
  | brk ρ S => exact h
  | ret d S => exact h
  | exc c ρ S => exact h
  | no => exact h
end
theorem whileN_mono (c : FT) (body : FS) : ∀ (n : Nat) (ρ : En) (S : Sto), whileN c body n ρ S ≠ .no → whileN c body (n + 1) ρ S = whileN c body n ρ S
  | 0, ρ, S, h => absurd rfl h
  | n + 1, ρ, S, h => by
    rw [whileN, whileN]
    rw [whileN] at h
    cases hc : c ρ S with
    | exc e S1 => rfl
    | no => rfl
    | ok k S1 =>
      rw [hc] at h
      simp only [R.toS_ok] at h ⊢
      cases k with
      | false => rfl
      | true =>
        rw [if_pos rfl] at h
        rw [if_pos rfl, if_pos rfl]
        cases hb : body ρ S1 with
        | nx ρ' S' => rw [hb] at h; exact whileN_mono c body n ρ' S' h
        | cnt ρ' S' => rw [hb] at h; exact whileN_mono c body n ρ' S' h
        | brk ρ' S' => rfl
        | ret d S' => rfl
        | exc e ρ' S' => rfl
        | no => rfl
theorem whileN_add (c : FT) (body : FS) {n : Nat} {ρ : En} {S : Sto} (h : whileN c body n ρ S ≠ .no) : ∀ m, whileN c body (n + m) ρ S = whileN c body n ρ S
  | 0 => rfl
  | m + 1 => by
    have ih := whileN_add c body h m
    rw [show n + (m + 1) = (n + m) + 1 by omega, whileN_mono c body (n + m) ρ S (by rw [ih]; exact h), ih]
theorem sWhile_of {c : FT} {body : FS} {n : Nat} {ρ : En} {S : Sto} (h : whileN c body n ρ S ≠ .no) : sWhile c body ρ S = whileN c body n ρ S := by
  have hx : ∃ n, whileN c body n ρ S ≠ .no := ⟨n, h⟩
  unfold sWhile
  rw [dif_pos hx]
  have h1 := whileN_add c body hx.choose_spec n
  have h2 := whileN_add c body h hx.choose
  rw [← h1, ← h2, Nat.add_comm]

section
variable {X : Cx} {cn : Nat → Addr} {W : WX} {tg iter : Expr} {body : List Stmt} {fi : FI} {vs : List Nat} {b : FB} {fb : FS} {pos : Pos}
theorem ds_for (hp : PassesOwn (model X.prog X.w) X.A X.env X.xe) (hc : X.calm = true) (hi : DI X cn W tg iter fi) (hg : DG X cn tg vs b) (hb : DSs X cn W body fb)
    (hs : ∀ x, foldedSetIterable iter X.env x = pure x := by intro _; rfl) : DS X cn W (.For tg iter body [] pos) (sFor fi b fb) :=
  PS.imp (ps_for hp hc hi hg hb hs) fun Z σ H ⟨φ, ρ, S, re, rs, q⟩ => ⟨φ, ρ, S, re, rs, (RunS.ofR re q).imp fun φ1 H1 S1 t l1 rs1 q1 J hJ => by
    refine ⟨fun i m σ H => ∃ φ ρ S, m = t.items.length - i ∧ i ≤ t.items.length ∧ Le φ1 H1 φ H ∧ RepE X.K φ H ρ σ ∧ RepS X.K cn φ H S ∧ RunS X.K cn W φ H (forL b fb t.chk (t.items.drop i) ρ S) Z,
      ⟨t.items.length, φ1, ρ, S1, by simp, Nat.zero_le _, Le.refl _ _, re.le l1, rs1, q1⟩, ?_⟩
    rintro i m σ H ⟨φ, ρ, S, rfl, hi, l, re', rs', q'⟩
    by_cases hlt : i < t.items.length
    · rw [List.drop_eq_getElem_cons hlt, forL] at q'
      split at q'
      · rename_i hchk
        obtain ⟨hgo, hy⟩ := (hJ i φ H S l rs' hchk).1 _ (List.getElem?_eq_getElem hlt)
        refine .inr ⟨hgo, fun σ' H' => ∃ φ ρ S, Le φ1 H1 φ H' ∧ RepE X.K φ H' ρ σ' ∧ RepS X.K cn φ H' S ∧ RunS X.K cn W φ H' (forL b fb t.chk (t.items.drop (i + 1)) ρ S) Z,
          fun σ' H' ⟨φ, ρ, S, w⟩ => ⟨t.items.length - (i + 1), by omega, φ, ρ, S, rfl, hlt, w⟩, fun x H' y => ?_⟩
        obtain ⟨l2, rs2, r2⟩ := hy x H' y
        split at q'
        · exact q'.elim
        · rename_i ρ1 e1
          refine ⟨φ, _, ρ, ρ1, S, r2, re'.le l2, rs2, e1, fun σ' re2 _ => ⟨φ, ρ1, S, re2, rs2, ?_⟩⟩
          refine RunS.body (RunS.le l2 q') fun φ3 H3 σ3 ρ3 S3 l3 rs3 re3 q3 => ?_
          exact ⟨φ3, ρ3, S3, (l.trans l2).trans l3, re3, rs3, q3⟩
      · exact q'.elim
    · have e : i = t.items.length := by omega
      subst e
      rw [List.drop_length, forL] at q'
      split at q'
      · rename_i hchk
        exact .inl ⟨(hJ _ φ H S l rs' hchk).2 (Nat.le_refl _), q'.nxI re' rs'⟩
      · exact q'.elim⟩
theorem ds_while {c : Expr} {tc : FT} (hp : PassesOwn (model X.prog X.w) X.A X.env X.xe) (hc : DT X cn W c tc) (hb : DSs X cn W body fb) : DS X cn W (.While c body [] pos) (sWhile tc fb) :=
  PS.imp (ps_while hp hc hb) fun Z σ H ⟨φ, ρ, S, re, rs, q⟩ => by
    have hx : ∃ n, RunS X.K cn W φ H (whileN tc fb n ρ S) Z := by
      unfold sWhile at q
      split at q
      · rename_i h
        exact ⟨_, q⟩
      · exact q.elim
    obtain ⟨n0, q⟩ := hx
    refine ⟨fun n σ H => ∃ φ ρ S, RepE X.K φ H ρ σ ∧ RepS X.K cn φ H S ∧ RunS X.K cn W φ H (whileN tc fb n ρ S) Z, ⟨n0, φ, ρ, S, re, rs, q⟩, ?_⟩
    rintro n σ H ⟨φ, ρ, S, re, rs, q⟩
    cases n with
    | zero => exact q.elim
    | succ n =>
      rw [whileN] at q
      refine ⟨φ, ρ, S, re, rs, (RunS.ofR re q).imp fun φ1 H1 S1 k l1 rs1 q1 => ?_⟩
      cases k with
      | true =>
        rw [if_pos rfl] at q1 ⊢
        refine ⟨_, fun σ' H' w => ⟨n, Nat.lt_succ_self _, w⟩, φ1, ρ, S1, re.le l1, rs1, ?_⟩
        exact RunS.body q1 fun φ3 H3 σ3 ρ3 S3 l3 rs3 re3 q3 => ⟨φ3, ρ3, S3, re3, rs3, q3⟩
      | false =>
        rw [if_neg Bool.false_ne_true] at q1 ⊢
        exact q1.nxI (re.le l1) rs1
end

/-! ### list comprehensions -/
def R.nox {α : Type} (r : R α) : R α := match r with
  | .ok a S => .ok a S
  | _ => .no
@[simp] theorem R.nox_ok {α : Type} (a : α) (S : Sto) : (R.ok a S).nox = .ok a S := id rfl
def wipeD (ρ : En) : List Nat → En
  | [] => ρ
  | v :: vs => (wipeD ρ vs).set v none
open Classical in
/-- what one turn makes is put behind the list at place n -/
noncomputable def lcPut (n : Nat) (y : D) (S : Sto) : R Unit := match S[n]? with
  | some (.lst acc) => if acc.length < sizeLine then .ok () (S.set n (.lst (acc ++ [y]))) else .no
  | _ => .no
open Classical in
noncomputable def compL (b : FB) (ft : FT) (fe : FE) (chk : Sto → Prop) (n : Nat) (ρ : En) : List D → Sto → R D
  | [], S => if chk S then .ok (.loc n) S else .no
  | d :: ds, S => if chk S then (match b d ρ S with
      | none => .no
      | some ρ1 => (ft ρ1 S).nox.bind fun k S1 => if k = true then (fe ρ1 S1).nox.bind fun y S2 => (lcPut n y S2).bind fun _ S3 => compL b ft fe chk n ρ ds S3 else compL b ft fe chk n ρ ds S1) else .no
noncomputable def eLc (fi : FI) (b : FB) (ft : FT) (fe : FE) (vs : List Nat) : FE := fun ρ S => (fi ρ S).bind fun t S1 => compL b ft fe t.chk S1.length (wipeD ρ vs) t.items (S1 ++ [.lst []])
def tYesD : FT := fun _ S => .ok true S
section
variable {K : Frag} {cn : Nat → Addr} {φ : List Addr} {H : Hp} {S : Sto}
theorem Run.nox {α : Type} {E E' : XK} {r : R α} {k : List Addr → Hp → Sto → α → Prop} (h : Run K cn E φ H r.nox k) : Run K cn E' φ H r k := by
  cases r with
  | ok a S => exact h
  | exc c S => exact h.elim
  | no => exact h
theorem Run.wish {α : Type} {E : XK} {r : R α} {k : List Addr → Hp → Sto → α → Prop} (h : Run K cn E φ H r.nox k) : Run K cn (fun _ _ _ => False) φ H r k := h.nox
theorem RepE.wipe {ρ : En} {σ : L2.St} (re : RepE K φ H ρ σ) : ∀ vs : List Nat, RepE K φ H (wipeD ρ vs) (L2.wipe σ vs)
  | [] => re
  | v :: vs => by
    have ih := RepE.wipe re vs
    unfold wipeD L2.wipe
    refine ⟨by simp [ih.1], fun j d e => ?_⟩
    by_cases hj : v = j
    · subst hj
      have hl : v < (wipeD ρ vs).length := by simpa using (List.getElem?_eq_some_iff.mp e).1
      rw [List.getElem?_set_self hl] at e
      cases e
    · rw [List.getElem?_set_ne hj] at e ⊢
      exact ih.2 j d e
theorem wipe_get (σ : L2.St) {j : Nat} : ∀ vs : List Nat, (L2.wipe σ vs)[j]? = if j ∈ vs ∧ j < σ.length then some none else σ[j]?
  | [] => by simp [L2.wipe]
  | v :: vs => by
    have ih := wipe_get σ (j := j) vs
    have hl := L2.wipe_length σ vs
    unfold L2.wipe
    by_cases hj : v = j
    · subst hj
      by_cases h : v < σ.length
      · rw [List.getElem?_set_self (by rw [hl]; exact h), if_pos ⟨List.mem_cons_self, h⟩]
      · rw [List.getElem?_eq_none (by rw [List.length_set, hl]; omega), if_neg (by intro z; exact h z.2), List.getElem?_eq_none (by omega)]
    · rw [List.getElem?_set_ne hj, ih]
      have : (j ∈ v :: vs) ↔ j ∈ vs := by
        rw [List.mem_cons]
        exact ⟨fun z => z.elim (fun e => absurd e.symm hj) id, .inr⟩
      simp only [this]
theorem wipe_agr {vs ws : List Nat} {σ σ' : L2.St} (h : Agr ws (L2.wipe σ vs) σ') (hs : ∀ i ∈ ws, i ∈ vs) : L2.wipe σ' vs = L2.wipe σ vs := by
  have hl : σ'.length = σ.length := by rw [h.1, L2.wipe_length]
  apply List.ext_getElem?
  intro j
  rw [wipe_get, wipe_get, hl]
  by_cases hj : j ∈ vs ∧ j < σ.length
  · rw [if_pos hj, if_pos hj]
  · rw [if_neg hj, if_neg hj]
    by_cases hv : j ∈ vs
    · have hn : ¬ j < σ.length := fun z => hj ⟨hv, z⟩
      rw [List.getElem?_eq_none (by omega), List.getElem?_eq_none (by omega)]
    · rw [h.2 j (fun z => hv (hs j z)), wipe_get, if_neg (fun z => hv z.1)]
theorem lcPut_run {E : XK} {n : Nat} {a : Addr} {y : D} {v : V} {k : List Addr → Hp → Sto → Unit → Prop} (rs : RepS K cn φ H S) (hn : φ[n]? = some a) (r : RepV K φ H y v) (q : Run K cn E φ H (lcPut n y S) k) :
    ∃ acc, H a = some (.lst acc) ∧ acc.length < sizeLine ∧ ∃ S', k φ (upd H a (.lst (acc ++ [v]))) S' () ∧ Le φ H φ (upd H a (.lst (acc ++ [v]))) ∧ RepS K cn φ (upd H a (.lst (acc ++ [v]))) S' := by
  unfold lcPut at q
  split at q
  · rename_i acc e
    split at q
    · rename_i hz
      obtain ⟨b, h1, u, h2, xs, rfl, h3⟩ := rs.has e
      rw [hn] at h1
      cases h1
      have ru : RepU K cn φ H (.lst (acc ++ [y])) (.lst (xs ++ [v])) := ⟨_, rfl, h3.append ⟨v, [], rfl, r, rfl⟩⟩
      refine ⟨xs, h2, by rw [h3.length]; exact hz, _, q.okP rs hn h2 free_lst ru, Le.put h2 free_lst, rs.put hn h2 free_lst ?_⟩
      exact ⟨_, upd_same, ru.le (Le.put h2 free_lst)⟩
    · exact q.elim
  · exact q.elim
end
/-- the wish of a block that no exception leaves -/
abbrev W0 : WX := fun _ _ _ _ => False
section
variable {X : Cx} {cn : Nat → Addr} {W : WX} {elt tg iter : Expr} {ifs : List Expr} {scope : Scope} {own : List (Str × Nat)} {pos : Pos} {fi : FI} {b : FB} {ft : FT} {fe : FE} {ws : List Nat}
abbrev DTs (X : Cx) (cn : Nat → Addr) (W : WX) (ifs : List Expr) (f : FT) : Prop := PTs X ifs (tDT X.K cn W f)
theorem PTs.imp {ifs : List Expr} {t t' : TT} (h : PTs X ifs t) (k : ∀ σ H Q, t' σ H Q → t σ H Q) : PTs X ifs t' := ⟨fun pins s σ H Q I q => h.run pins s σ H Q I (k σ H Q q)⟩
theorem dts_nil : DTs X cn W [] tYesD := PTs.imp pts_nil fun σ H Q ⟨φ, ρ, S, re, rs, q⟩ => q.okI rs
theorem dts_one {c : Expr} (h : DT X cn W c ft) : DTs X cn W [c] ft := pts_one h
theorem lc_run {σ : L2.St} {H : Hp} {Q : VK} {φ : List Addr} {ρ : En} {S : Sto} (hs : ∀ i ∈ ws, i ∈ own.map (·.2)) (re : RepE X.K φ H ρ σ) (rs : RepS X.K cn φ H S)
    (q : Run X.K cn (fun c d H' => W c d σ H') φ H (eLc fi b ft fe (own.map (·.2)) ρ S) fun φ' H' _ d => ∀ v, RepV X.K φ' H' d v → Q v H') :
    tLc (tDI X.K cn W fi) (gD X.K cn ws b) (tDT X.K cn W0 ft) (tD X.K cn W0 fe) (own.map (·.2)) σ H Q := by
  refine ⟨φ, ρ, S, re, rs, q.bind.imp fun φ1 H1 S1 t l1 rs1 q1 J hJ D hD => ?_⟩
  have l2 : Le φ1 H1 (φ1 ++ [D]) (upd H1 D (.lst [])) := Le.new hD
  have rs2 : RepS X.K cn (φ1 ++ [D]) (upd H1 D (.lst [])) (S1 ++ [.lst []]) := rs1.new hD ⟨_, rfl, rfl⟩
  have hDn : (φ1 ++ [D])[S1.length]? = some D := by rw [← rs1.len]; simp
  refine ⟨fun i m H => ∃ φ S, m = t.items.length - i ∧ i ≤ t.items.length ∧ Le (φ1 ++ [D]) (upd H1 D (.lst [])) φ H ∧ RepS X.K cn φ H S ∧
      Run X.K cn (fun c d H' => W c d σ H') φ H (compL b ft fe t.chk S1.length (wipeD ρ (own.map (·.2))) (t.items.drop i) S) (fun φ' H' _ d => ∀ v, RepV X.K φ' H' d v → Q v H'),
    ⟨t.items.length, φ1 ++ [D], S1 ++ [.lst []], by simp, Nat.zero_le _, Le.refl _ _, rs2, by rw [List.drop_zero]; exact q1.le l2⟩, ?_⟩
  rintro i m H ⟨φ, S, rfl, hi, l, rs', q'⟩
  have lA := (l1.trans l2).trans l
  by_cases hlt : i < t.items.length
  · rw [List.drop_eq_getElem_cons hlt, compL] at q'
    split at q'
    · rename_i hchk
      obtain ⟨hgo, hy⟩ := (hJ i φ H S (l2.trans l) rs' hchk).1 _ (List.getElem?_eq_getElem hlt)
      refine .inr ⟨hgo, fun H' => ∃ φ S, Le (φ1 ++ [D]) (upd H1 D (.lst [])) φ H' ∧ RepS X.K cn φ H' S ∧
          Run X.K cn (fun c d H' => W c d σ H') φ H' (compL b ft fe t.chk S1.length (wipeD ρ (own.map (·.2))) (t.items.drop (i + 1)) S) (fun φ' H' _ d => ∀ v, RepV X.K φ' H' d v → Q v H'),
        fun H' ⟨φ, S, w⟩ => ⟨t.items.length - (i + 1), by omega, φ, S, rfl, hlt, w⟩, fun x H' y => ?_⟩
      obtain ⟨l3, rs3, r3⟩ := hy x H' y
      split at q'
      · exact q'.elim
      · rename_i ρ1 e1
        refine ⟨φ, _, wipeD ρ (own.map (·.2)), ρ1, S, r3, ((re.wipe _).le lA).le l3, rs3, e1, fun σ' re2 ag => ⟨wipe_agr ag hs, φ, ρ1, S, re2, rs3, ?_⟩⟩
        refine ((q'.le l3).bind).wish.imp fun φ4 H4 S4 k l4 rs4 q4 => ?_
        cases k with
        | true =>
          rw [if_pos rfl] at q4 ⊢
          refine ⟨φ4, ρ1, S4, re2.le l4, rs4, q4.bind.wish.imp fun φ5 H5 S5 y l5 rs5 q5 v r5 => ?_⟩
          have hD5 := (((l.trans l3).trans l4).trans l5).get hDn
          obtain ⟨acc, h1, h2, S6, q6, l6, rs6⟩ := lcPut_run rs5 hD5 r5 q5.bind
          exact ⟨acc, h1, h2, φ5, S6, (((l.trans l3).trans l4).trans l5).trans l6, rs6, q6⟩
        | false =>
          rw [if_neg Bool.false_ne_true] at q4 ⊢
          exact ⟨φ4, S4, (l.trans l3).trans l4, rs4, q4⟩
    · exact q'.elim
  · have e : i = t.items.length := by omega
    subst e
    rw [List.drop_length, compL] at q'
    split at q'
    · rename_i hchk
      exact .inl ⟨(hJ _ φ H S (l2.trans l) rs' hchk).2 (Nat.le_refl _), q'.okI rs' _ ⟨D, l.get hDn, rfl⟩⟩
    · exact q'.elim
theorem de_lc (hc : X.calm = true) (hN : X.N.Nodup) (hi : DI X cn W tg iter fi) (ok : BlkOk X.N X.env.scope scope own)
    (hg : ∀ (s : Shared) (H : Hp) (C : Addr) (cl : List (Str × Addr)) (fp : List Addr), DG (X.blk s H scope (compEnvC scope cl C X.env) fp) cn tg ws b)
    (ht : ∀ (s : Shared) (H : Hp) (C : Addr) (cl : List (Str × Addr)) (fp : List Addr), DTs (X.blk s H scope (compEnvC scope cl C X.env) fp) cn W0 ifs ft)
    (he : ∀ (s : Shared) (H : Hp) (C : Addr) (cl : List (Str × Addr)) (fp : List Addr), DE (X.blk s H scope (compEnvC scope cl C X.env) fp) cn W0 elt fe)
    (hws : ∀ i ∈ ws, i ∈ own.map (·.2) := by decide) (hs : ∀ x, foldedSetIterable iter X.env x = pure x := by intro _; rfl) :
    DE X cn W (.ListComp elt [⟨tg, iter, ifs, 0⟩] scope pos) (eLc fi b ft fe (own.map (·.2))) :=
  PE.imp (pe_lc hc hN hi ok hg ht he hs) fun σ H Q ⟨φ, ρ, S, re, rs, q⟩ => lc_run hws re rs q
theorem ds_setLc {i : Nat} {y : Str} {py spos : Pos} (hc : X.calm = true) (hN : X.N.Nodup) (hi : DI X cn W tg iter fi) (ok : BlkOk X.N X.env.scope scope own)
    (hg : ∀ (s : Shared) (H : Hp) (C : Addr) (cl : List (Str × Addr)) (fp : List Addr), DG (X.blk s H scope (compEnvC scope cl C X.env) fp) cn tg ws b)
    (ht : ∀ (s : Shared) (H : Hp) (C : Addr) (cl : List (Str × Addr)) (fp : List Addr), DTs (X.blk s H scope (compEnvC scope cl C X.env) fp) cn W0 ifs ft)
    (he : ∀ (s : Shared) (H : Hp) (C : Addr) (cl : List (Str × Addr)) (fp : List Addr), DE (X.blk s H scope (compEnvC scope cl C X.env) fp) cn W0 elt fe)
    (hsw : swapsWith (.ListComp elt [⟨tg, iter, ifs, 0⟩] scope pos) (some (.Name y py)) spos.line X.env = pure true)
    (hy : X.N[i]? = some y := by rfl) (hyl : X.env.scope.names.lookup y = some .local := by rfl)
    (hws : ∀ i ∈ ws, i ∈ own.map (·.2) := by decide) (hs : ∀ x, foldedSetIterable iter X.env x = pure x := by intro _; rfl) :
    DS X cn W (.Assign [.Name y py] (.ListComp elt [⟨tg, iter, ifs, 0⟩] scope pos) spos) (sAsg (eLc fi b ft fe (own.map (·.2))) (bName i)) :=
  PS.imp (ps_setLc (i := i) hc hN hy hyl hsw hi ok hg ht he hs) fun Z σ H ⟨φ, ρ, S, re, rs, q⟩ => lc_run hws re rs ((RunS.ofR re q).imp fun φ1 H1 S1 d l1 rs1 q1 v r => q1.nxI ((re.le l1).set i r) rs1)
end
end DS

/-! DsG: defs, calls, methods, instances, errors, by data. -/
namespace DS
open PySem L2 PyProof.Rows

/-! ### defs -/
def spF (K : Frag) (cn : Nat → Addr) (n : Nat) (g : List D → Sto → R D) : Sp := fun vs H Q E => ∃ φ S ds, RepS K cn φ H S ∧ RepVs K φ H ds vs ∧ ds.length = n ∧ Run K cn E φ H (g ds S) fun φ' H' _ d => ∀ v, RepV K φ' H' d v → Q v H'
def startD (N : Nat) (ds : List D) : En := ds.map some ++ List.replicate (N - ds.length) none
/-- a def by its body: N its names in all -/
def runF (N : Nat) (body : FS) (ds : List D) (S : Sto) : R D := (body (startD N ds) S).out
/-- what a place of the program gives -/
structure Good (X : Cx) (W : WX) (k : Nat) : Prop where
  calm : X.calm = true
  nd : X.N.Nodup
  tk : Takes X W
  own : PassesOwn (model X.prog X.w) X.A X.env X.xe
  room : Room k X.A
section
variable {X : Cx} {W : WX} {k : Nat}
theorem Good.hu (G : Good X W k) : X.A.units + 65 < cLine := by have := G.room.un; omega
theorem Good.h1 (G : Good X W k) : X.A.units + 1 < cLine := by have := G.room.un; omega
theorem Good.h64 (G : Good X W k) : X.A.units + 64 < cLine := by have := G.room.un; omega
theorem Good.mono {j : Nat} (G : Good X W k) (h : j ≤ k) : Good X W j := ⟨G.calm, G.nd, G.tk, G.own, G.room.mono h⟩
theorem Good.blk (G : Good X W k) {s : Shared} {H : Hp} {scope : Scope} {cenv : PySem.Env} {fp : List Addr} : Good (X.blk s H scope cenv fp) W0 k := ⟨G.calm, G.nd, takes0, PassesOwn.never, G.room⟩
end
section
variable {P : Program} {w : World} {K : Frag} {mg : Str → Option Value} {base : Heap} {cn : Nat → Addr}
theorem startD_rep {φ : List Addr} {H : Hp} {N : List Str} {ds : List D} {vs : List V} (r : RepVs K φ H ds vs) : RepE K φ H (startD N.length ds) (L2.start N vs) := by
  unfold startD L2.start
  rw [r.length]
  refine ⟨by simp [r.length], fun i d e => ?_⟩
  by_cases hi : i < ds.length
  · rw [List.getElem?_append_left (by simpa using hi), List.getElem?_map] at e
    obtain ⟨d', e1, e2⟩ := Option.map_eq_some_iff.mp e
    cases e2
    obtain ⟨v, h1, h2⟩ := r.get e1
    exact ⟨v, by rw [List.getElem?_append_left (by simpa [r.length] using hi), List.getElem?_map, h1]; rfl, h2⟩
  · rw [List.getElem?_append_right (by simpa using Nat.le_of_not_lt hi), List.getElem?_replicate] at e
    split at e <;> cases e
theorem fn_ok {x qual : Str} {st : Stmt} {f : Addr} {fd : FuncData} {N ps : List Str} {k n : Nat} {body : FS} (F : Fun K x qual st f fd) (S : FnScope N ps (defScope st)) (hn : ps.length = n) {m : Nat} (hm : N.length = m)
    (hb : ∀ (cdv : Value) (A : Around) (outer : List PySem.Env) (s : Shared) (H : Hp) (E : XK), Good (cxOf (L2.CX P w) P w K mg base N qual (defScope st) f cdv A outer s H E) (fun cls d _ H => E cls d H) k →
      DSs (cxOf (L2.CX P w) P w K mg base N qual (defScope st) f cdv A outer s H E) cn (fun cls d _ H => E cls d H) (defBody st) body) :
    FnOk P w K mg base (L2.CX P w) (k + 1) f fd ps (spF K cn n (runF m body)) := by
  subst hn hm
  refine F.okX S (fun vs H Q E ⟨φ, S, ds, rs, r, hl, q⟩ => by rw [r.length, hl]) fun cdv A outer s H vs Q E hr ⟨φ, S', ds, rs, r, hl, q⟩ => ?_
  have G : Good (cxOf (L2.CX P w) P w K mg base N qual (defScope st) f cdv A outer s H E) (fun cls d _ H => E cls d H) k := ⟨rfl, S.nd, takes_of rfl rfl rfl rfl, passes_of rfl, hr⟩
  refine ⟨_, hb cdv A outer s H E G, φ, startD N.length ds, S', startD_rep r, rs, ?_⟩
  unfold runF at q
  cases h : body (startD N.length ds) S' with
  | nx ρ S2 => rw [h] at q; exact fun φ2 H2 σ2 l2 r2 e2 => q φ2 H2 l2 r2 _ rfl
  | ret d S2 => rw [h] at q; exact fun φ2 H2 v l2 r2 rv => q φ2 H2 l2 r2 v rv
  | exc c ρ S2 => rw [h] at q; exact fun φ2 H2 σ2 l2 r2 e2 => q φ2 H2 l2 r2
  | brk ρ S2 => rw [h] at q; exact q.elim
  | cnt ρ S2 => rw [h] at q; exact q.elim
  | no => rw [h] at q; exact q.elim
/-- another function that does the same -/
theorem fn_eq {f : Addr} {fd : FuncData} {ps : List Str} {k n : Nat} {g g' : List D → Sto → R D} (F : FnOk P w K mg base (L2.CX P w) k f fd ps (spF K cn n g)) (h : ∀ ds S, ds.length = n → g' ds S = g ds S ∨ g' ds S = .no) : FnOk P w K mg base (L2.CX P w) k f fd ps (spF K cn n g') :=
  F.imp fun vs H Q E ⟨φ, S, ds, rs, r, hl, q⟩ => ⟨φ, S, ds, rs, r, hl, by
    rcases h ds S hl with e | e
    · rw [e] at q; exact q
    · rw [e] at q; exact q.elim⟩
/-- never called -/
theorem fn_no {f : Addr} {fd : FuncData} {ps : List Str} {k n : Nat} (hn : ps.length = n) : FnOk P w K mg base (L2.CX P w) k f fd ps (spF K cn n fun _ _ => .no) :=
  ⟨fun vs H Q E ⟨φ, S, ds, rs, r, hl, q⟩ => q.elim, fun A outer s H args us vs Q E _ _ _ _ ⟨φ, S, ds, rs, r, hl, q⟩ => q.elim⟩
end

/-! ### calls -/
def eCall (g : List D → Sto → R D) (dds : List D) (fa : FA) : FE := fun ρ S => (fa ρ S).bind fun ds S1 => g (ds ++ dds) S1
def insOk (c : Nat) (m : Str) (o : D) (S : Sto) : Bool := match o with
  | .loc n => match S[n]? with
    | some (.ins c' fs) => decide (c' = c) && (getK fs m).isNone
    | _ => false
  | _ => false
def eMeth (c : Nat) (m : Str) (g : List D → Sto → R D) (dds : List D) (fo : FE) (fa : FA) : FE := fun ρ S => (fo ρ S).bind fun o S1 => if insOk c m o S1 = true then (fa ρ S1).bind fun ds S2 => g (o :: (ds ++ dds)) S2 else .no
def eMake (c : Nat) (g : List D → Sto → R D) (dds : List D) (fa : FA) : FE := fun ρ S => (fa ρ S).bind fun ds S1 => (g (.loc S1.length :: (ds ++ dds)) (S1 ++ [.ins c []])).nox.bind fun r S2 => match r with
  | .non => .ok (.loc S1.length) S2
  | _ => .no
section
variable {X : Cx} {cn : Nat → Addr} {W : WX} {k : Nat} {x m : Str} {p pos apos : Pos} {e o : Expr} {es : List Expr} {fa : FA} {fo : FE} {f : Addr} {fd : FuncData} {ps : List Str} {g : List D → Sto → R D} {dds : List D} {dvs : List V} {ds : List Value} {n : Nat}
/-- the defaults that fill up, as data -/
def RepC (K : Frag) (dds : List D) (dvs : List V) : Prop := ∀ φ H, RepVs K φ H dds dvs
theorem repC_nil {K : Frag} : RepC K [] [] := fun _ _ => rfl
theorem de_call (G : Good X W k) (F : FnOk X.prog X.w X.K X.mg X.base (L2.CX X.prog X.w) k f fd ps (spF X.K cn n g)) (hg : Gl X x) (hm : X.mg x = some (.ref f)) (hk : PySem.W.keepIn X.K (.ref f) = true) (hb : Binds X.K fd ps ds) (hd : Vals dvs ds) (hc : RepC X.K dds dvs)
    (ha : DA X cn W (e :: es) fa) (hl : (e :: es).length + dds.length = n := by rfl) (hdb : (x == ("__debug__" : Str)) = false := by decide) (he : starEach (e :: es) X.env = (false, eval e X.env) :: starEach es X.env := by rfl) (hpl : (backTo pos (starEach es X.env)).any (·.1) = false := by rfl) :
    DE X cn W (.Call (.Name x p) (e :: es) [] pos) (eCall g dds fa) :=
  PE.imp (pe_callSD (E := WE W) F G.room hg hm hk hb hd (fun σ => passAt G.tk σ) ha.pa hdb he hpl) fun σ H Q ⟨φ, ρ, S, re, rs, q⟩ => ⟨φ, ρ, S, re, rs, (ha.at q.bind).imp fun φ1 H1 S1 as l1 rs1 ⟨hz, q1⟩ vs rr =>
    ⟨φ1, S1, as ++ dds, rs1, rr.append (hc φ1 H1), by rw [List.length_append, hz]; exact hl, q1⟩⟩
/-! a method, what it may raise wished for at the caller's slots -/
def tMethX (C : Addr) (m : Str) (sp : Sp) (dvs : List V) (E : L2.St → XK) (ta : TE) (t : TA) : TE := fun σ H Q => ta σ H fun x H1 => ∃ a dx fs, x = .ref a ∧ H1 a = some (.ins C dx fs) ∧ fs.lookup m = none ∧
  t σ H1 fun vs H2 => sp (x :: (vs ++ dvs)) H2 Q (E σ)
variable {C : Addr} {CX : CXT} {sp : Sp} {E : L2.St → XK} {ta : TE} {t : TA}
theorem pe_methX {pl : Sem Bool} (he : PE X o ta) (c : Cls X.K C) (hm : Meth X.K C m f) (F : FnOk X.prog X.w X.K X.mg X.base CX k f fd ps sp) (hr : Room k X.A) (hb : Binds X.K fd ps ds) (hd : Vals dvs ds) (hx : ∀ σ, PassesAt CX X σ (E σ)) (ha : PA X (e :: es) t)
    (hst : starEach (e :: es) X.env = (false, eval e X.env) :: starEach es X.env) (hpl : (backTo pos (starEach es X.env)).any (·.1) = false)
    (ht : eval (.Call (.Attribute o m apos) (e :: es) [] pos) X.env = (do
      let ov ← eval o X.env
      standAt apos.atName
      let (f, first) ← holding [ov] (getMethod ov m pl)
      callWith pos f first (backTo pos (starEach (e :: es) X.env)) (backToKw pos (keywordEach [] X.env)))) :
    PE X (.Call (.Attribute o m apos) (e :: es) [] pos) (tMethX C m sp dvs E ta t) := by
  refine ⟨fun pins s σ H Q I h => ?_⟩
  refine PySem.W.methodCall_KW (pl := pl) (thn (he.run pins s σ H _ I h) fun u s1 ⟨x, H1, I1, rx, a, dx, fs, ex, ea, l, q⟩ => ?_) ht
  subst ex
  obtain rfl : u = Value.ref a := rx
  refine getmeth_ok I1 ea c hm l ?_
  refine PySem.W.callWith_K (first := [.ref a]) (h₀ := X.base) I.ok.mod.kin hm.kp (thn (ha.run pos pins s1 σ H1 _ I1 q) fun us s2 ⟨vs, H2, I2, r, q2⟩ => ⟨I2.kIn, ?_⟩) hst hpl
  exact run_fnSD (us := .ref a :: us) (vs := .ref a :: vs) F hr hb hd (hx σ) I2 (.cons rfl r) q2
theorem pe_methX0 {pl : Sem Bool} (he : PE X o ta) (c : Cls X.K C) (hm : Meth X.K C m f) (F : FnOk X.prog X.w X.K X.mg X.base CX k f fd ps sp) (hr : Room k X.A) (hb : Binds X.K fd ps ds) (hd : Vals dvs ds) (hx : ∀ σ, PassesAt CX X σ (E σ))
    (ht : eval (.Call (.Attribute o m apos) [] [] pos) X.env = (do
      let ov ← eval o X.env
      standAt apos.atName
      let (f, first) ← holding [ov] (getMethod ov m pl)
      callWith pos f first (backTo pos (starEach [] X.env)) (backToKw pos (keywordEach [] X.env)))) :
    PE X (.Call (.Attribute o m apos) [] [] pos) (tMethX C m sp dvs E ta tNil) := by
  refine ⟨fun pins s σ H Q I h => ?_⟩
  refine PySem.W.methodCall_KW (pl := pl) (thn (he.run pins s σ H _ I h) fun u s1 ⟨x, H1, I1, rx, a, dx, fs, ex, ea, l, q⟩ => ?_) ht
  subst ex
  obtain rfl : u = Value.ref a := rx
  refine getmeth_ok I1 ea c hm l ?_
  exact PySem.W.callWith_K0 (first := [.ref a]) I1.kIn hm.kp (run_fnSD (us := [.ref a]) (vs := [.ref a]) F hr hb hd (hx σ) I1 (.cons rfl .nil) q)
theorem insOk_rep {c : Nat} {φ : List Addr} {H : Hp} {S : Sto} {d : D} {v : V} (rs : RepS X.K cn φ H S) (r : RepV X.K φ H d v) (h : insOk c m d S = true) : ∃ a dx fs, v = .ref a ∧ H a = some (.ins (cn c) dx fs) ∧ fs.lookup m = none := by
  unfold insOk at h
  split at h
  · split at h
    · rename_i c' fs e
      rw [Bool.and_eq_true, decide_eq_true_eq] at h
      obtain ⟨rfl, h⟩ := h
      obtain ⟨a, dx, xs, rfl, h1, h2, h3⟩ := rep_ins rs r e
      refine ⟨a, dx, xs, rfl, h2, ?_⟩
      rw [← valV_lookup]
      have := h3.getN (k := m)
      cases hv : valV xs m with
      | none => rfl
      | some y =>
        rw [hv] at this
        rw [Option.isNone_iff_eq_none] at h
        rw [h] at this
        cases this
    · cases h
  · cases h
theorem de_meth {c : Nat} {pl : Sem Bool} (G : Good X W k) (hc : Cls X.K (cn c)) (hm : Meth X.K (cn c) m f) (F : FnOk X.prog X.w X.K X.mg X.base (L2.CX X.prog X.w) k f fd ps (spF X.K cn n g)) (hb : Binds X.K fd ps ds) (hd : Vals dvs ds) (hcd : RepC X.K dds dvs) (ho : DE X cn W o fo)
    (ha : DA X cn W (e :: es) fa) (hl : (e :: es).length + 1 + dds.length = n := by rfl)
    (hst : starEach (e :: es) X.env = (false, eval e X.env) :: starEach es X.env := by rfl) (hpl : (backTo pos (starEach es X.env)).any (·.1) = false := by rfl)
    (ht : eval (.Call (.Attribute o m apos) (e :: es) [] pos) X.env = (do
      let ov ← eval o X.env
      standAt apos.atName
      let (f, first) ← holding [ov] (getMethod ov m pl)
      callWith pos f first (backTo pos (starEach (e :: es) X.env)) (backToKw pos (keywordEach [] X.env))) := by rfl) :
    DE X cn W (.Call (.Attribute o m apos) (e :: es) [] pos) (eMeth c m g dds fo fa) :=
  PE.imp (pe_methX (E := WE W) ho hc hm F G.room hb hd (fun σ => passAt G.tk σ) ha.pa hst hpl ht) fun σ H Q ⟨φ, ρ, S, re, rs, q⟩ => ⟨φ, ρ, S, re, rs, q.bind.imp fun φ1 H1 S1 d l1 rs1 q1 v r => by
    split at q1
    · rename_i hi
      obtain ⟨a, dx, fs, rfl, h2, h3⟩ := insOk_rep rs1 r hi
      refine ⟨a, dx, fs, rfl, h2, h3, φ1, ρ, S1, re.le l1, rs1, (ha.at q1.bind).imp fun φ2 H2 S2 as l2 rs2 ⟨hz, q2⟩ vs rr => ?_⟩
      exact ⟨φ2, S2, d :: (as ++ dds), rs2, (r.le l2 |> fun r => ⟨_, _, rfl, r, rr.append (hcd φ2 H2)⟩), by rw [List.length_cons, List.length_append, hz]; omega, q2⟩
    · exact q1.elim⟩
theorem de_meth0 {c : Nat} {pl : Sem Bool} (G : Good X W k) (hc : Cls X.K (cn c)) (hm : Meth X.K (cn c) m f) (F : FnOk X.prog X.w X.K X.mg X.base (L2.CX X.prog X.w) k f fd ps (spF X.K cn n g)) (hb : Binds X.K fd ps ds) (hd : Vals dvs ds) (hcd : RepC X.K dds dvs) (ho : DE X cn W o fo)
    (hl : 1 + dds.length = n := by rfl)
    (ht : eval (.Call (.Attribute o m apos) [] [] pos) X.env = (do
      let ov ← eval o X.env
      standAt apos.atName
      let (f, first) ← holding [ov] (getMethod ov m pl)
      callWith pos f first (backTo pos (starEach [] X.env)) (backToKw pos (keywordEach [] X.env))) := by rfl) :
    DE X cn W (.Call (.Attribute o m apos) [] [] pos) (eMeth c m g dds fo aNil) :=
  PE.imp (pe_methX0 (E := WE W) ho hc hm F G.room hb hd (fun σ => passAt G.tk σ) ht) fun σ H Q ⟨φ, ρ, S, re, rs, q⟩ => ⟨φ, ρ, S, re, rs, q.bind.imp fun φ1 H1 S1 d l1 rs1 q1 v r => by
    split at q1
    · rename_i hi
      obtain ⟨a, dx, fs, rfl, h2, h3⟩ := insOk_rep rs1 r hi
      exact ⟨a, dx, fs, rfl, h2, h3, φ1, S1, d :: dds, rs1, ⟨_, _, rfl, r, hcd φ1 H1⟩, by rw [List.length_cons]; omega, q1⟩
    · exact q1.elim⟩
theorem make_run {c : Nat} {φ : List Addr} {H : Hp} {S : Sto} {as : List D} {vs : List V} {Q : VK} {E' : XK} (rs : RepS X.K cn φ H S) (rr : RepVs X.K φ H as vs) (hcd : RepC X.K dds dvs) (hz : as.length + 1 + dds.length = n)
    (q : Run X.K cn E' φ H ((g (.loc S.length :: (as ++ dds)) (S ++ [.ins c []])).nox.bind fun r S2 => match r with
      | .non => .ok (.loc S.length) S2
      | _ => .no) fun φ' H' _ d => ∀ v, RepV X.K φ' H' d v → Q v H') (y dx : Addr) (hy : H y = none) (hdx : H dx = none) (ne : dx ≠ y) :
    spF X.K cn n g (.ref y :: (vs ++ dvs)) (upd (upd H dx (.own y)) y (.ins (cn c) dx [])) (fun v H2 => v = .non ∧ Q (.ref y) H2) E0 := by
  have l1 : Le φ H φ (upd H dx (.own y)) := Le.tupNew hdx
  have rs1 : RepS X.K cn φ (upd H dx (.own y)) S := rs.tupNew hdx
  have hy1 : upd H dx (.own y) y = none := by rw [upd_ne (Ne.symm ne)]; exact hy
  have l2 : Le φ (upd H dx (.own y)) (φ ++ [y]) (upd (upd H dx (.own y)) y (.ins (cn c) dx [])) := Le.new hy1
  have rs2 : RepS X.K cn (φ ++ [y]) (upd (upd H dx (.own y)) y (.ins (cn c) dx [])) (S ++ [.ins c []]) := rs1.new hy1 ⟨dx, [], rfl, rfl⟩
  have rl : RepV X.K (φ ++ [y]) (upd (upd H dx (.own y)) y (.ins (cn c) dx [])) (.loc S.length) (.ref y) := rep_new rs1
  refine ⟨_, _, .loc S.length :: (as ++ dds), rs2, ⟨_, _, rfl, rl, ((rr.le (l1.trans l2)).append (hcd _ _))⟩, by rw [List.length_cons, List.length_append]; omega, ?_⟩
  refine Run.imp ((Run.bind (q.le (l1.trans l2))).nox (E' := E0)) fun φ3 H3 S3 d l3 rs3 q3 v rv => ?_
  cases d with
  | non => exact ⟨rv, q3.okI rs3 _ (rl.le l3)⟩
  | _ => exact q3.elim
theorem de_make {c : Nat} (G : Good X W (k + 1)) (M : Mk X.K (cn c) f) (F : FnOk X.prog X.w X.K X.mg X.base (L2.CX X.prog X.w) k f fd ps (spF X.K cn n g)) (hg : Gl X x) (hm : X.mg x = some (.ref (cn c))) (hb : Binds X.K fd ps ds) (hd : Vals dvs ds) (hcd : RepC X.K dds dvs)
    (ha : DA X cn W (e :: es) fa) (hl : (e :: es).length + 1 + dds.length = n := by rfl) (hdb : (x == ("__debug__" : Str)) = false := by decide) (he : starEach (e :: es) X.env = (false, eval e X.env) :: starEach es X.env := by rfl) (hpl : (backTo pos (starEach es X.env)).any (·.1) = false := by rfl) :
    DE X cn W (.Call (.Name x p) (e :: es) [] pos) (eMake c g dds fa) :=
  PE.imp (pe_make (E := E0) M F G.room hg hm hb hd passL ha.pa hdb he hpl) fun σ H Q ⟨φ, ρ, S, re, rs, q⟩ => ⟨φ, ρ, S, re, rs, (ha.at q.bind).imp fun φ1 H1 S1 as l1 rs1 ⟨hz, q1⟩ vs rr y dx hy hdx ne =>
    make_run rs1 rr hcd (by rw [hz]; exact hl) q1 y dx hy hdx ne⟩
theorem de_make0 {c : Nat} (G : Good X W (k + 1)) (M : Mk X.K (cn c) f) (F : FnOk X.prog X.w X.K X.mg X.base (L2.CX X.prog X.w) k f fd ps (spF X.K cn n g)) (hg : Gl X x) (hm : X.mg x = some (.ref (cn c))) (hb : Binds X.K fd ps ds) (hd : Vals dvs ds) (hcd : RepC X.K dds dvs)
    (hl : 1 + dds.length = n := by rfl) (hdb : (x == ("__debug__" : Str)) = false := by decide) : DE X cn W (.Call (.Name x p) [] [] pos) (eMake c g dds aNil) :=
  PE.imp (pe_make0 (E := E0) M F G.room hg hm hb hd passL hdb) fun σ H Q ⟨φ, ρ, S, re, rs, q⟩ y dx hy hdx ne => make_run (as := []) rs rfl hcd (by rw [List.length_nil]; omega) q y dx hy hdx ne

/-! ### fields stored -/
def putD (f : Str) (v : D) : List (Str × D) → List (Str × D)
  | [] => [(f, v)]
  | (g, x) :: r => if g = f then (g, v) :: r else (g, x) :: putD f v r
def gPut (c : Nat) (nm : Str) (o d : D) (S : Sto) : R Unit := match o with
  | .loc n => match S[n]? with
    | some (.ins c' fs) => if c' = c ∧ fs.length < 1000 then .ok () (S.set n (.ins c (putD nm d fs))) else .no
    | _ => .no
  | _ => .no
def sFldD (c : Nat) (nm : Str) (fo fv : FE) : FS := fun ρ S => (fv ρ S).toS ρ fun d S1 => (fo ρ S1).toS ρ fun o S2 => (gPut c nm o d S2).toS ρ fun _ S3 => .nx ρ S3
theorem putD_rep {φ : List Addr} {H : Hp} {d : D} {v : V} (nm : Str) (r : RepV X.K φ H d v) : ∀ {fs : List (Str × D)} {xs : List (Str × V)}, RepK X.K φ H fs xs → RepK X.K φ H (putD nm d fs) (putF nm v xs)
  | [], xs, h => by
    unfold RepK at h
    subst h
    exact ⟨v, [], rfl, r, rfl⟩
  | (k', d') :: fs, xs, h => by
    unfold RepK at h
    obtain ⟨x, ys, rfl, h2, h3⟩ := h
    unfold putD putF
    by_cases hk : k' = nm
    · rw [if_pos hk, if_pos hk]
      exact ⟨v, ys, rfl, r, h3⟩
    · rw [if_neg hk, if_neg hk]
      exact ⟨x, _, rfl, h2, putD_rep nm r h3⟩
theorem free_ins {C dx : Addr} {fs : List (Str × V)} : Free (.ins C dx fs) := ⟨fun _ z => (nomatch z), fun _ _ z => (nomatch z)⟩
theorem gPut_run {c : Nat} {nm : Str} {φ : List Addr} {H : Hp} {S : Sto} {o d : D} {vo v : V} {E' : XK} {k' : List Addr → Hp → Sto → Unit → Prop} (rs : RepS X.K cn φ H S) (ro : RepV X.K φ H o vo) (r : RepV X.K φ H d v) (q : Run X.K cn E' φ H (gPut c nm o d S) k') :
    ∃ a dx fs, vo = .ref a ∧ H a = some (.ins (cn c) dx fs) ∧ fs.length < 1000 ∧ ∃ S', k' φ (upd H a (.ins (cn c) dx (putF nm v fs))) S' () ∧ Le φ H φ (upd H a (.ins (cn c) dx (putF nm v fs))) ∧ RepS X.K cn φ (upd H a (.ins (cn c) dx (putF nm v fs))) S' := by
  unfold gPut at q
  split at q
  · split at q
    · rename_i c' fs e
      split at q
      · rename_i hc
        obtain ⟨rfl, hz⟩ := hc
        obtain ⟨a, dx, xs, rfl, h1, h2, h3⟩ := rep_ins rs ro e
        have ru : RepU X.K cn φ H (.ins c' (putD nm d fs)) (.ins (cn c') dx (putF nm v xs)) := ⟨dx, _, rfl, putD_rep nm r h3⟩
        exact ⟨a, dx, xs, rfl, h2, by rw [h3.length]; exact hz, _, q.okP rs h1 h2 free_ins ru, Le.put h2 free_ins, rs.put h1 h2 free_ins ⟨_, upd_same, ru.le (Le.put h2 free_ins)⟩⟩
      · exact q.elim
    · exact q.elim
  · exact q.elim
theorem ds_fld {c : Nat} {nm : Str} {v : Expr} {fv : FE} {pos' : Pos} (hc : Cls X.K (cn c)) (hn : NoAttr X.K (cn c) nm) (ho : DE X cn W o fo) (hv : DE X cn W v fv) (hs : swapsWith v (some (.Attribute o nm pos')) pos.line X.env = pure false := by rfl) :
    DS X cn W (.Assign [.Attribute o nm pos'] v pos) (sFldD c nm fo fv) :=
  PS.imp (ps_fld ho hv hs) fun Z σ H ⟨φ, ρ, S, re, rs, q⟩ => ⟨φ, ρ, S, re, rs, (RunS.ofR re q).imp fun φ1 H1 S1 d l1 rs1 q1 w r => ⟨φ1, ρ, S1, re.le l1, rs1, (RunS.ofR (re.le l1) q1).imp fun φ2 H2 S2 o l2 rs2 q2 vo ro => by
    obtain ⟨a, dx, fs, h1, h2, h3, S3, q3, l3, rs3⟩ := gPut_run rs2 ro (r.le l2) (RunS.ofR (re.le (l1.trans l2)) q2)
    exact ⟨a, _, dx, fs, h1, h2, hc, hn, h3, q3.nxI (re.le ((l1.trans l2).trans l3)) rs3⟩⟩⟩
def sFldAugD (c : Nat) (nm : Str) (fo fv : FE) (g : D → D → Sto → R D) : FS := fun ρ S => (fo ρ S).toS ρ fun o S1 => (gFld c nm o S1).toS ρ fun x S2 => (fv ρ S2).toS ρ fun d S3 => (g x d S3).toS ρ fun z S4 => (gPut c nm o z S4).toS ρ fun _ S5 => .nx ρ S5
theorem gFld_run {c : Nat} {nm : Str} {φ : List Addr} {H : Hp} {S : Sto} {d : D} {v : V} {E' : XK} {k' : List Addr → Hp → Sto → D → Prop} (rs : RepS X.K cn φ H S) (r : RepV X.K φ H d v) (q : Run X.K cn E' φ H (gFld c nm d S) k') :
    ∃ a dx xs w d', v = .ref a ∧ H a = some (.ins (cn c) dx xs) ∧ xs.lookup nm = some w ∧ RepV X.K φ H d' w ∧ k' φ H S d' := by
  unfold gFld at q
  split at q
  · split at q
    · rename_i c' fs e2
      split at q
      · rename_i ec
        subst ec
        split at q
        · rename_i d' e3
          obtain ⟨a, dx, xs, rfl, h1, h2, h3⟩ := rep_ins rs r e2
          obtain ⟨w, h4, h5⟩ := h3.get e3
          exact ⟨a, dx, xs, w, d', rfl, h2, by rw [← valV_lookup]; exact h4, h5, q.okI rs⟩
        · exact q.elim
      · exact q.elim
    · exact q.elim
  · exact q.elim
theorem ds_fldAug {c : Nat} {nm : Str} {v : Expr} {fv : FE} {op : Operator} {rd : V → V → Hp → VK → Prop} {ge : D → D → Sto → R D} {tpos : Pos} (hc : Cls X.K (cn c)) (hn : NoAttr X.K (cn c) nm) (ho : DE X cn W o fo) (hv : DE X cn W v fv) (hop : InOp X op rd) (hi : Imp2 X.K cn rd ge) :
    DS X cn W (.AugAssign (.Attribute o nm tpos) op v pos) (sFldAugD c nm fo fv ge) :=
  PS.imp (ps_fldaug ho hv hop) fun Z σ H ⟨φ, ρ, S, re, rs, q⟩ => ⟨φ, ρ, S, re, rs, (RunS.ofR re q).imp fun φ1 H1 S1 o l1 rs1 q1 vo ro => by
    obtain ⟨a, dx, xs, w, d', h1, h2, h3, h4, q2⟩ := gFld_run rs1 ro (RunS.ofR (re.le l1) q1)
    refine ⟨a, _, dx, xs, w, h1, h2, hc, hn, h3, φ1, ρ, S1, re.le l1, rs1, (RunS.ofR (re.le l1) q2).imp fun φ3 H3 S3 d l3 rs3 q3 vd rd' => ?_⟩
    refine hi _ φ3 H3 S3 d' d w vd _ rs3 (h4.le l3) rd' ((RunS.ofR (re.le (l1.trans l3)) q3).imp fun φ4 H4 S4 z l4 rs4 q4 vz rz => ?_)
    obtain ⟨a', dx', fs', k1, k2, k3, S5, q5, l5, rs5⟩ := gPut_run rs4 (ro.le (l3.trans l4)) rz (RunS.ofR (re.le ((l1.trans l3).trans l4)) q4)
    rw [h1] at k1
    cases k1
    exact ⟨dx', fs', k2, k3, q5.nxI (re.le (((l1.trans l3).trans l4).trans l5)) rs5⟩⟩

/-! ### raise -/
theorem ds_raise {c : Nat} (G : Good X W k) (he : PMk X e (fun _ H Q => Q (.ref (cn c)) none H)) : DS X cn W (.Raise (some e) none pos) (sRaise c) :=
  PS.imp (ps_raise G.calm G.tk he) fun Z σ H ⟨φ, ρ, S, re, rs, q⟩ => q φ H σ (Le.refl _ _) rs re

/-! ### list(range(..)), len(set(t)) -/
open Classical in
noncomputable def gRgL (a b : Int) (S : Sto) : R D := if RgOk a b then .ok (.loc S.length) (S ++ [.lst (rngD a (b - a).toNat)]) else .no
noncomputable def eRgL1 (f : FE) : FE := fun ρ S => (f ρ S).bind fun d S1 => match d with
  | .int j => gRgL 0 j S1
  | _ => .no
noncomputable def eRgL2 (f g : FE) : FE := fun ρ S => (f ρ S).bind fun d S1 => (g ρ S1).bind fun e S2 => match d, e with
  | .int i, .int j => gRgL i j S2
  | _, _ => .no
theorem rgV_rep {φ : List Addr} {H : Hp} (a b : Int) : RepVs X.K φ H (rngD a (b - a).toNat) (rgV a b) := by
  have e1 : rngD a (b - a).toNat = ((List.range (b - a).toNat).map fun i => a + ((i : Nat) : Int)).map D.int := by unfold rngD; rw [List.map_map]; rfl
  have e2 : rgV a b = ((List.range (b - a).toNat).map fun i => a + ((i : Nat) : Int)).map V.int := by unfold rgV; rw [List.map_map]; rfl
  rw [e1, e2]
  exact RepVs.of_ints _
theorem gRgL_run {φ : List Addr} {H : Hp} {S : Sto} {a b : Int} {Q : VK} {E' : XK} (rs : RepS X.K cn φ H S) (q : Run X.K cn E' φ H (gRgL a b S) fun φ' H' _ d => ∀ v, RepV X.K φ' H' d v → Q v H') :
    RgOk a b ∧ ∀ p, H p = none → Q (.ref p) (upd H p (.lst (rgV a b))) := by
  unfold gRgL at q
  split at q
  · rename_i hz
    exact ⟨hz, fun p hp => q.okN rs hp ⟨_, rfl, rgV_rep a b⟩ _ (rep_new rs)⟩
  · exact q.elim
theorem de_rgL1 {a : Expr} {fa : FE} {p2 rpos : Pos} (G : Good X W k) (hg : Gl X "list") (hm : X.mg "list" = none) (hg2 : Gl X "range") (hm2 : X.mg "range" = none) (ha : DE X cn W a fa) (na : starEach [a] X.env = (false, eval a X.env) :: starEach [] X.env := by rfl)
    (nb : starEach [Expr.Call (.Name "range" p2) [a] [] rpos] X.env = (false, eval (.Call (.Name "range" p2) [a] [] rpos) X.env) :: starEach [] X.env := by rfl) :
    DE X cn W (.Call (.Name "list" p) [.Call (.Name "range" p2) [a] [] rpos] [] pos) (eRgL1 fa) :=
  PE.imp (pe_listRg G.calm hg hm (prg_1 hg2 hm2 ha na) nb) fun σ H Q ⟨φ, ρ, S, re, rs, q⟩ => ⟨φ, ρ, S, re, rs, q.bind.imp fun φ1 H1 S1 d l1 rs1 q1 v r => by
    cases d with
    | int j => exact ⟨j, r, gRgL_run rs1 q1⟩
    | _ => exact q1.elim⟩
theorem de_rgL2 {a b : Expr} {fa fb : FE} {p2 rpos : Pos} (G : Good X W k) (hg : Gl X "list") (hm : X.mg "list" = none) (hg2 : Gl X "range") (hm2 : X.mg "range" = none) (ha : DE X cn W a fa) (hb : DE X cn W b fb) (na : starEach [a, b] X.env = (false, eval a X.env) :: starEach [b] X.env := by rfl) (na2 : starEach [b] X.env = (false, eval b X.env) :: starEach [] X.env := by rfl)
    (hp2 : (backTo rpos (starEach [b] X.env)).any (·.1) = false := by rfl) (nb : starEach [Expr.Call (.Name "range" p2) [a, b] [] rpos] X.env = (false, eval (.Call (.Name "range" p2) [a, b] [] rpos) X.env) :: starEach [] X.env := by rfl) :
    DE X cn W (.Call (.Name "list" p) [.Call (.Name "range" p2) [a, b] [] rpos] [] pos) (eRgL2 fa fb) :=
  PE.imp (pe_listRg G.calm hg hm (prg_2 hg2 hm2 ha hb na na2 hp2) nb) fun σ H Q ⟨φ, ρ, S, re, rs, q⟩ => ⟨φ, ρ, S, re, rs, q.bind.imp fun φ1 H1 S1 d l1 rs1 q1 v r => ⟨φ1, ρ, S1, re.le l1, rs1, q1.bind.imp fun φ2 H2 S2 e l2 rs2 q2 u ru => by
    split at q2
    · exact ⟨_, _, r, ru, gRgL_run rs2 q2⟩
    · exact q2.elim⟩⟩
end
end DS

/-! DsH: walks over dicts, comprehensions of two clauses, len(set(t)), by data. -/
namespace DS
open PySem L2 PyProof.Rows

section
variable {K : Frag} {cn : Nat → Addr} {W : WX} {b : FB} {fb : FS} {vs : List Nat}
/-- a loop over what an iterator gives, from any end -/
theorem for_core {Z : Ends} {φ1 : List Addr} {H1 : Hp} {σ1 : L2.St} {ρ1 : En} {S1 : Sto} {t : DIt} {J : It} (hJ : ItOk K cn J t φ1 H1) (re1 : RepE K φ1 H1 ρ1 σ1) (rs1 : RepS K cn φ1 H1 S1) (q1 : RunS K cn W φ1 H1 (forL b fb t.chk t.items ρ1 S1) Z) :
    ∃ W' : Nat → Nat → L2.St → Hp → Prop, (∃ m, W' 0 m σ1 H1) ∧ ∀ i m σ H, W' i m σ H →
      (J.stop i H ∧ Z.nx σ H) ∨ (J.go i H ∧ ∃ N : L2.St → Hp → Prop, (∀ σ' H', N σ' H' → ∃ m', m' < m ∧ W' (i + 1) m' σ' H') ∧ ∀ x H', J.yld i H x H' → gD K cn vs b x σ H' fun σ2 H2 => tDS K cn W fb { Z with nx := N, ct := N, bk := Z.nx } σ2 H2) := by
  refine ⟨fun i m σ H => ∃ φ ρ S, m = t.items.length - i ∧ i ≤ t.items.length ∧ Le φ1 H1 φ H ∧ RepE K φ H ρ σ ∧ RepS K cn φ H S ∧ RunS K cn W φ H (forL b fb t.chk (t.items.drop i) ρ S) Z,
    ⟨t.items.length, φ1, ρ1, S1, by simp, Nat.zero_le _, Le.refl _ _, re1, rs1, by rw [List.drop_zero]; exact q1⟩, ?_⟩
  rintro i m σ H ⟨φ, ρ, S, rfl, hi, l, re', rs', q'⟩
  by_cases hlt : i < t.items.length
  · rw [List.drop_eq_getElem_cons hlt, forL] at q'
    split at q'
    · rename_i hchk
      obtain ⟨hgo, hy⟩ := (hJ i φ H S l rs' hchk).1 _ (List.getElem?_eq_getElem hlt)
      refine .inr ⟨hgo, fun σ' H' => ∃ φ ρ S, Le φ1 H1 φ H' ∧ RepE K φ H' ρ σ' ∧ RepS K cn φ H' S ∧ RunS K cn W φ H' (forL b fb t.chk (t.items.drop (i + 1)) ρ S) Z,
        fun σ' H' ⟨φ, ρ, S, w⟩ => ⟨t.items.length - (i + 1), by omega, φ, ρ, S, rfl, hlt, w⟩, fun x H' y => ?_⟩
      obtain ⟨l2, rs2, r2⟩ := hy x H' y
      split at q'
      · exact q'.elim
      · rename_i ρ1 e1
        refine ⟨φ, _, ρ, ρ1, S, r2, re'.le l2, rs2, e1, fun σ' re2 _ => ⟨φ, ρ1, S, re2, rs2, ?_⟩⟩
        refine RunS.body (RunS.le l2 q') fun φ3 H3 σ3 ρ3 S3 l3 rs3 re3 q3 => ?_
        exact ⟨φ3, ρ3, S3, (l.trans l2).trans l3, re3, rs3, q3⟩
    · exact q'.elim
  · have e : i = t.items.length := by omega
    subst e
    rw [List.drop_length, forL] at q'
    split at q'
    · rename_i hchk
      exact .inl ⟨(hJ _ φ H S l rs' hchk).2 (Nat.le_refl _), q'.nxI re' rs'⟩
    · exact q'.elim
end

/-! ### for k in d -/
def unlk (n : Nat) (o : Ob) : RS → RS
  | .nx ρ S => .nx ρ (S.set n o)
  | .brk ρ S => .brk ρ (S.set n o)
  | .cnt ρ S => .cnt ρ (S.set n o)
  | .ret d S => .ret d (S.set n o)
  | .exc _ _ _ => .no
  | .no => .no
noncomputable def sForK (fo : FE) (b : FB) (body : FS) : FS := fun ρ S => match fo ρ S with
  | .ok (.loc n) _ => match S[n]? with
    | some (.dK kvs) => match fo ρ (S.set n (.lk (.dK kvs))) with
      | .ok (.loc m) S1 => if m = n then unlk n (.dK kvs) (forL b body (fun S' => S'[n]? = some (.lk (.dK kvs))) (kvs.map fun kv => kD kv.1) ρ S1) else .no
      | _ => .no
    | _ => .no
  | _ => .no
section
variable {K : Frag} {cn : Nat → Addr} {W : WX} {φ φ2 : List Addr} {H H2 : Hp} {S : Sto} {Z : Ends} {a : Addr} {n : Nat} {od : Obj} {xs : List (L2.Key × V)} {kvs : List (L2.Key × D)}
/-- back from the lock -/
theorem unl_lw (h : H2 a = some (.frz od (.dK xs))) : Lw φ2 H2 φ2 (upd H2 a (.dK xs)) :=
  ⟨⟨[], by simp⟩, fun b ys e => by rw [upd_ne (fun z => by subst z; rw [h] at e; cases e)]; exact e, fun b o ys e => by rw [upd_ne (fun z => by subst z; rw [h] at e; cases e)]; exact e⟩
theorem unl_le (l : Le φ H φ2 H2) (h0 : H a = some (.dK xs)) : Le φ H φ2 (upd H2 a (.dK xs)) :=
  ⟨l.pre, fun b ys e => by rw [upd_ne (fun z => by subst z; rw [h0] at e; cases e)]; exact l.tup _ _ e, fun b o ys e => by rw [upd_ne (fun z => by subst z; rw [h0] at e; cases e)]; exact l.frl _ _ _ e⟩
theorem unl_rs (r : RepS K cn φ2 H2 S) (hn : φ2[n]? = some a) (h : H2 a = some (.frz od (.dK xs))) (k : RepK K φ2 H2 kvs xs) : RepS K cn φ2 (upd H2 a (.dK xs)) (S.set n (.dK kvs)) := by
  have lw : Lw φ2 H2 φ2 (upd H2 a (.dK xs)) := unl_lw h
  refine ⟨by simp [r.len], r.nd, fun m o b h1 h2 => ?_⟩
  by_cases hm : n = m
  · subst hm
    have hl : n < S.length := by rw [← r.len]; exact (List.getElem?_eq_some_iff.mp hn).1
    rw [List.getElem?_set_self hl] at h1
    cases h1
    rw [hn] at h2
    cases h2
    exact ⟨_, upd_same, xs, rfl, k.lw lw⟩
  · rw [List.getElem?_set_ne hm] at h1
    refine (r.ob m o b h1 h2).lw lw (upd_ne fun e => hm ?_)
    subst e
    obtain ⟨h3, e3⟩ := List.getElem?_eq_some_iff.mp hn
    obtain ⟨h4, e4⟩ := List.getElem?_eq_some_iff.mp h2
    exact (List.getElem_inj r.nd).mp (e3.trans e4.symm)
theorem unlk_run {r : RS} (l : Le φ H φ2 H2) (h0 : H a = some (.dK xs)) (hn : φ2[n]? = some a) (h2 : H2 a = some (.frz od (.dK xs))) (k : RepK K φ2 H2 kvs xs) (q : RunS K cn W φ H (unlk n (.dK kvs) r) Z) :
    RunS K cn W φ2 H2 r ⟨fun σ' H' => H' a = some (.frz od (.dK xs)) ∧ Z.nx σ' (upd H' a (.dK xs)), fun v H' => H' a = some (.frz od (.dK xs)) ∧ Z.rt v (upd H' a (.dK xs)),
      fun σ' H' => H' a = some (.frz od (.dK xs)) ∧ Z.bk σ' (upd H' a (.dK xs)), fun σ' H' => H' a = some (.frz od (.dK xs)) ∧ Z.ct σ' (upd H' a (.dK xs))⟩ := by
  cases r with
  | nx ρ S => exact fun φ3 H3 σ3 l3 r3 e3 => ⟨l3.frl _ _ _ h2, q φ3 _ σ3 (unl_le (l.trans l3) h0) (unl_rs r3 (l3.get hn) (l3.frl _ _ _ h2) (k.le l3)) (e3.lw (unl_lw (l3.frl _ _ _ h2)))⟩
  | brk ρ S => exact fun φ3 H3 σ3 l3 r3 e3 => ⟨l3.frl _ _ _ h2, q φ3 _ σ3 (unl_le (l.trans l3) h0) (unl_rs r3 (l3.get hn) (l3.frl _ _ _ h2) (k.le l3)) (e3.lw (unl_lw (l3.frl _ _ _ h2)))⟩
  | cnt ρ S => exact fun φ3 H3 σ3 l3 r3 e3 => ⟨l3.frl _ _ _ h2, q φ3 _ σ3 (unl_le (l.trans l3) h0) (unl_rs r3 (l3.get hn) (l3.frl _ _ _ h2) (k.le l3)) (e3.lw (unl_lw (l3.frl _ _ _ h2)))⟩
  | ret d S => exact fun φ3 H3 v l3 r3 e3 => ⟨l3.frl _ _ _ h2, q φ3 _ v (unl_le (l.trans l3) h0) (unl_rs r3 (l3.get hn) (l3.frl _ _ _ h2) (k.le l3)) (e3.lw (unl_lw (l3.frl _ _ _ h2)))⟩
  | exc c ρ S => exact q.elim
  | no => exact q.elim
theorem itOk_key (h : H2 a = some (.frz od (.dK xs))) (k : RepK K φ2 H2 kvs xs) (chk : Sto → Prop) : ItOk K cn (Itk a od xs) ⟨kvs.map fun kv => kD kv.1, chk⟩ φ2 H2 := fun i φ H S l rs c => by
  have hk := rep_keysL (φ := φ) (H := H) (k.le l)
  have hl := k.length
  refine ⟨fun d e => ⟨⟨l.frl _ _ _ h, ?_⟩, fun x H' y => ?_⟩, fun e => ⟨l.frl _ _ _ h, ?_⟩⟩
  · have := (List.getElem?_eq_some_iff.mp e).1
    rw [List.length_map] at this
    omega
  · obtain ⟨rfl, key, v, e1, e2⟩ := y
    obtain ⟨w, h1, h2⟩ := hk.get e
    rw [List.getElem?_map, e1] at h1
    cases h1
    subst e2
    exact ⟨Le.refl _ _, rs, h2⟩
  · have e' : (kvs.map fun kv => kD kv.1).length ≤ i := e
    rw [List.length_map] at e'
    omega
end
section
variable {X : Cx} {cn : Nat → Addr} {W : WX} {tg iter : Expr} {body : List Stmt} {fo : FE} {vs : List Nat} {b : FB} {fb : FS} {pos : Pos}
theorem ds_forK (hp : PassesOwn (model X.prog X.w) X.A X.env X.xe) (hc : X.calm = true) (hi : DE X cn W iter fo) (hg : DG X cn tg vs b) (hb : DSs X cn W body fb)
    (hs : ∀ x, foldedSetIterable iter X.env x = pure x := by intro _; rfl) : DS X cn W (.For tg iter body [] pos) (sForK fo b fb) :=
  PS.imp (ps_lock (ps_for hp hc (pi_keys hi) hg hb hs)) fun Z σ H ⟨φ, ρ, S, re, rs, q⟩ => by
    unfold sForK at q
    split at q
    · rename_i n S0 e0
      split at q
      · rename_i kvs ek
        split at q
        · rename_i m S1 e1
          split at q
          · rename_i em
            subst em
            obtain ⟨a, hn, u, h0, xs, rfl, hk⟩ := rs.has ek
            refine ⟨a, .dK xs, h0, trivial, fun od => ?_⟩
            have l1 : Le φ H φ (upd H a (.frz od (.dK xs))) := Le.put h0 free_dK
            have rs1 : RepS X.K cn φ (upd H a (.frz od (.dK xs))) (S.set m (.lk (.dK kvs))) := rs.put hn h0 free_dK ⟨od, _, upd_same, xs, rfl, hk.le l1⟩
            refine ⟨φ, ρ, _, re.le l1, rs1, ?_⟩
            rw [e1]
            intro φ2 H2 l2 rs2 v r
            obtain ⟨a', h1, rfl⟩ := r
            rw [(l1.trans l2).get hn] at h1
            cases h1
            have h2 : H2 a = some (.frz od (.dK xs)) := l2.frl _ _ _ upd_same
            refine ⟨a, od, rfl, .inl ⟨xs, h2, ?_⟩⟩
            exact for_core (t := ⟨kvs.map fun kv => kD kv.1, fun S' => S'[m]? = some (.lk (.dK kvs))⟩) (itOk_key h2 (hk.le (l1.trans l2)) _) (re.le (l1.trans l2)) rs2 (unlk_run (l1.trans l2) h0 ((l1.trans l2).get hn) h2 (hk.le (l1.trans l2)) q)
          · exact q.elim
        · exact q.elim
      · exact q.elim
    · exact q.elim
end

/-! ### [elt for .. for ..] -/
open Classical in
noncomputable def compIn (b : FB) (ft : FT) (fe : FE) (chk : Sto → Prop) (n : Nat) (ρ : En) : List D → Sto → R Unit
  | [], S => if chk S then .ok () S else .no
  | d :: ds, S => if chk S then (match b d ρ S with
      | none => .no
      | some ρ1 => (ft ρ1 S).nox.bind fun k S1 => if k = true then (fe ρ1 S1).nox.bind fun y S2 => (lcPut n y S2).bind fun _ S3 => compIn b ft fe chk n ρ ds S3 else compIn b ft fe chk n ρ ds S1) else .no
open Classical in
noncomputable def compOut (b : FB) (ft : FT) (fi1 : FI) (b1 : FB) (ft1 : FT) (fe : FE) (vs1 : List Nat) (chk : Sto → Prop) (n : Nat) (ρ : En) : List D → Sto → R D
  | [], S => if chk S then .ok (.loc n) S else .no
  | d :: ds, S => if chk S then (match b d ρ S with
      | none => .no
      | some ρ1 => (ft ρ1 S).nox.bind fun k S1 => if k = true then (fi1 ρ1 S1).nox.bind fun t S2 => (compIn b1 ft1 fe t.chk n (wipeD ρ1 vs1) t.items S2).bind fun _ S3 => compOut b ft fi1 b1 ft1 fe vs1 chk n ρ ds S3 else compOut b ft fi1 b1 ft1 fe vs1 chk n ρ ds S1) else .no
noncomputable def eLc2 (fi : FI) (b : FB) (ft : FT) (fi1 : FI) (b1 : FB) (ft1 : FT) (fe : FE) (vs vs1 : List Nat) : FE := fun ρ S => (fi ρ S).bind fun t S1 => compOut b ft fi1 b1 ft1 fe vs1 t.chk S1.length (wipeD ρ vs) t.items (S1 ++ [.lst []])
section
variable {X : Cx} {cn : Nat → Addr} {W : WX} {elt tg iter tg1 iter1 : Expr} {ifs ifs1 : List Expr} {scope : Scope} {own : List (Str × Nat)} {pos : Pos} {fi fi1 : FI} {b b1 : FB} {ft ft1 : FT} {fe : FE} {ws ws1 vs1 : List Nat}
theorem lc2_run {σ : L2.St} {H : Hp} {Q : VK} {φ : List Addr} {ρ : En} {S : Sto} (hws : ∀ i ∈ ws, i ∈ own.map (·.2)) (hws1 : ∀ i ∈ ws1, i ∈ vs1) (re : RepE X.K φ H ρ σ) (rs : RepS X.K cn φ H S)
    (q : Run X.K cn (fun c d H' => W c d σ H') φ H (eLc2 fi b ft fi1 b1 ft1 fe (own.map (·.2)) vs1 ρ S) fun φ' H' _ d => ∀ v, RepV X.K φ' H' d v → Q v H') :
    tLc2 (tDI X.K cn W fi) (gD X.K cn ws b) (tDT X.K cn W0 ft) (tDI X.K cn W0 fi1) (gD X.K cn ws1 b1) (tDT X.K cn W0 ft1) (tD X.K cn W0 fe) (own.map (·.2)) vs1 σ H Q := by
  refine ⟨φ, ρ, S, re, rs, q.bind.imp fun φ1 H1 S1 t l1 rs1 q1 J hJ D hD => ?_⟩
  have l2 : Le φ1 H1 (φ1 ++ [D]) (upd H1 D (.lst [])) := Le.new hD
  have rs2 : RepS X.K cn (φ1 ++ [D]) (upd H1 D (.lst [])) (S1 ++ [.lst []]) := rs1.new hD ⟨_, rfl, rfl⟩
  have hDn : (φ1 ++ [D])[S1.length]? = some D := by rw [← rs1.len]; simp
  refine ⟨fun i m H => ∃ φ S, m = t.items.length - i ∧ i ≤ t.items.length ∧ Le (φ1 ++ [D]) (upd H1 D (.lst [])) φ H ∧ RepS X.K cn φ H S ∧
      Run X.K cn (fun c d H' => W c d σ H') φ H (compOut b ft fi1 b1 ft1 fe vs1 t.chk S1.length (wipeD ρ (own.map (·.2))) (t.items.drop i) S) (fun φ' H' _ d => ∀ v, RepV X.K φ' H' d v → Q v H'),
    ⟨t.items.length, φ1 ++ [D], S1 ++ [.lst []], by simp, Nat.zero_le _, Le.refl _ _, rs2, by rw [List.drop_zero]; exact q1.le l2⟩, ?_⟩
  rintro i m H ⟨φ, S, rfl, hi, l, rs', q'⟩
  have lA := (l1.trans l2).trans l
  by_cases hlt : i < t.items.length
  · rw [List.drop_eq_getElem_cons hlt, compOut] at q'
    split at q'
    · rename_i hchk
      obtain ⟨hgo, hy⟩ := (hJ i φ H S (l2.trans l) rs' hchk).1 _ (List.getElem?_eq_getElem hlt)
      refine .inr ⟨hgo, fun H' => ∃ φ S, Le (φ1 ++ [D]) (upd H1 D (.lst [])) φ H' ∧ RepS X.K cn φ H' S ∧
          Run X.K cn (fun c d H' => W c d σ H') φ H' (compOut b ft fi1 b1 ft1 fe vs1 t.chk S1.length (wipeD ρ (own.map (·.2))) (t.items.drop (i + 1)) S) (fun φ' H' _ d => ∀ v, RepV X.K φ' H' d v → Q v H'),
        fun H' ⟨φ, S, w⟩ => ⟨t.items.length - (i + 1), by omega, φ, S, rfl, hlt, w⟩, fun x H' y => ?_⟩
      obtain ⟨l3, rs3, r3⟩ := hy x H' y
      split at q'
      · exact q'.elim
      · rename_i ρ1 e1
        refine ⟨φ, _, wipeD ρ (own.map (·.2)), ρ1, S, r3, ((re.wipe _).le lA).le l3, rs3, e1, fun σ' re2 ag => ⟨wipe_agr ag hws, φ, ρ1, S, re2, rs3, ?_⟩⟩
        refine ((q'.le l3).bind).wish.imp fun φ4 H4 S4 k l4 rs4 q4 => ?_
        cases k with
        | true =>
          rw [if_pos rfl] at q4 ⊢
          refine ⟨φ4, ρ1, S4, re2.le l4, rs4, q4.bind.wish.imp fun φ5 H5 S5 t1 l5 rs5 q5 J1 hJ1 => ?_⟩
          have lB := (((l.trans l3).trans l4).trans l5)
          -- the inner loop
          refine ⟨fun j m H => ∃ φ S, m = t1.items.length - j ∧ j ≤ t1.items.length ∧ Le φ5 H5 φ H ∧ RepS X.K cn φ H S ∧
              Run X.K cn (fun c d H' => W c d σ H') φ H (compIn b1 ft1 fe t1.chk S1.length (wipeD ρ1 vs1) (t1.items.drop j) S) (fun φ' H' S' _ =>
                Run X.K cn (fun c d H' => W c d σ H') φ' H' (compOut b ft fi1 b1 ft1 fe vs1 t.chk S1.length (wipeD ρ (own.map (·.2))) (t.items.drop (i + 1)) S') (fun φ' H' _ d => ∀ v, RepV X.K φ' H' d v → Q v H')),
            ⟨t1.items.length, φ5, S5, by simp, Nat.zero_le _, Le.refl _ _, rs5, by rw [List.drop_zero]; exact q5.bind⟩, ?_⟩
          rintro j m H ⟨φ, S, rfl, hj, lj, rsj, qj⟩
          by_cases hjt : j < t1.items.length
          · rw [List.drop_eq_getElem_cons hjt, compIn] at qj
            split at qj
            · rename_i hchk1
              obtain ⟨hgo1, hy1⟩ := (hJ1 j φ H S lj rsj hchk1).1 _ (List.getElem?_eq_getElem hjt)
              refine .inr ⟨hgo1, fun H' => ∃ φ S, Le φ5 H5 φ H' ∧ RepS X.K cn φ H' S ∧
                  Run X.K cn (fun c d H' => W c d σ H') φ H' (compIn b1 ft1 fe t1.chk S1.length (wipeD ρ1 vs1) (t1.items.drop (j + 1)) S) (fun φ' H' S' _ =>
                    Run X.K cn (fun c d H' => W c d σ H') φ' H' (compOut b ft fi1 b1 ft1 fe vs1 t.chk S1.length (wipeD ρ (own.map (·.2))) (t.items.drop (i + 1)) S') (fun φ' H' _ d => ∀ v, RepV X.K φ' H' d v → Q v H')),
                fun H' ⟨φ, S, w⟩ => ⟨t1.items.length - (j + 1), by omega, φ, S, rfl, hjt, w⟩, fun x1 H' y1 => ?_⟩
              obtain ⟨l6, rs6, r6⟩ := hy1 x1 H' y1
              split at qj
              · exact qj.elim
              · rename_i ρ2 e2
                refine ⟨φ, _, wipeD ρ1 vs1, ρ2, S, r6, ((((re2.wipe vs1).le l4).le l5).le lj).le l6, rs6, e2, fun σ3 re3 ag3 => ⟨wipe_agr ag3 hws1, φ, ρ2, S, re3, rs6, ?_⟩⟩
                refine ((qj.le l6).bind).wish.imp fun φ7 H7 S7 k7 l7 rs7 q7 => ?_
                cases k7 with
                | true =>
                  rw [if_pos rfl] at q7 ⊢
                  refine ⟨φ7, ρ2, S7, re3.le l7, rs7, q7.bind.wish.imp fun φ8 H8 S8 y8 l8 rs8 q8 v8 r8 => ?_⟩
                  have hD8 := ((((lB.trans lj).trans l6).trans l7).trans l8).get hDn
                  obtain ⟨acc, h1, h2, S9, q9, l9, rs9⟩ := lcPut_run rs8 hD8 r8 q8.bind
                  exact ⟨acc, h1, h2, φ8, S9, (((lj.trans l6).trans l7).trans l8).trans l9, rs9, q9⟩
                | false =>
                  rw [if_neg Bool.false_ne_true] at q7 ⊢
                  exact ⟨φ7, S7, (lj.trans l6).trans l7, rs7, q7⟩
            · exact qj.elim
          · have e : j = t1.items.length := by omega
            subst e
            rw [List.drop_length, compIn] at qj
            split at qj
            · rename_i hchk1
              exact .inl ⟨(hJ1 _ φ H S lj rsj hchk1).2 (Nat.le_refl _), φ, S, lB.trans lj, rsj, qj.okI rsj⟩
            · exact qj.elim
        | false =>
          rw [if_neg Bool.false_ne_true] at q4 ⊢
          exact ⟨φ4, S4, (l.trans l3).trans l4, rs4, q4⟩
    · exact q'.elim
  · have e : i = t.items.length := by omega
    subst e
    rw [List.drop_length, compOut] at q'
    split at q'
    · rename_i hchk
      exact .inl ⟨(hJ _ φ H S (l2.trans l) rs' hchk).2 (Nat.le_refl _), q'.okI rs' _ ⟨D, l.get hDn, rfl⟩⟩
    · exact q'.elim
theorem de_lc2 (hc : X.calm = true) (hN : X.N.Nodup) (hi : DI X cn W tg iter fi) (ok : BlkOk X.N X.env.scope scope own) (hv : ∀ i ∈ vs1, i ∈ own.map (·.2))
    (hg : ∀ (s : Shared) (H : Hp) (C : Addr) (cl : List (Str × Addr)) (fp : List Addr), DG (X.blk s H scope (compEnvC scope cl C X.env) fp) cn tg ws b)
    (ht : ∀ (s : Shared) (H : Hp) (C : Addr) (cl : List (Str × Addr)) (fp : List Addr), DTs (X.blk s H scope (compEnvC scope cl C X.env) fp) cn W0 ifs ft)
    (hi1 : ∀ (s : Shared) (H : Hp) (C : Addr) (cl : List (Str × Addr)) (fp : List Addr), DI (X.blk s H scope (compEnvC scope cl C X.env) fp) cn W0 tg1 iter1 fi1)
    (hg1 : ∀ (s : Shared) (H : Hp) (C : Addr) (cl : List (Str × Addr)) (fp : List Addr), DG (X.blk s H scope (compEnvC scope cl C X.env) fp) cn tg1 ws1 b1)
    (ht1 : ∀ (s : Shared) (H : Hp) (C : Addr) (cl : List (Str × Addr)) (fp : List Addr), DTs (X.blk s H scope (compEnvC scope cl C X.env) fp) cn W0 ifs1 ft1)
    (he : ∀ (s : Shared) (H : Hp) (C : Addr) (cl : List (Str × Addr)) (fp : List Addr), DE (X.blk s H scope (compEnvC scope cl C X.env) fp) cn W0 elt fe)
    (hws : ∀ i ∈ ws, i ∈ own.map (·.2) := by decide) (hws1 : ∀ i ∈ ws1, i ∈ vs1 := by decide) (hs : ∀ x, foldedSetIterable iter X.env x = pure x := by intro _; rfl) (hs1 : ∀ env x, foldedSetIterable iter1 env x = pure x := by intro _ _; rfl) :
    DE X cn W (.ListComp elt [⟨tg, iter, ifs, 0⟩, ⟨tg1, iter1, ifs1, 0⟩] scope pos) (eLc2 fi b ft fi1 b1 ft1 fe (own.map (·.2)) vs1) :=
PE.imp (pe_lc2 (wi := tDI X.K cn W fi) (g := gD X.K cn ws b) (tt := tDT X.K cn W0 ft) (wi1 := tDI X.K cn W0 fi1) (g1 := gD X.K cn ws1 b1) (tt1 := tDT X.K cn W0 ft1) (te := tD X.K cn W0 fe) hc hN hi ok hv hg ht hi1 hg1 ht1 he hs hs1) fun σ H Q ⟨φ, ρ, S, re, rs, q⟩ => lc2_run hws hws1 re rs q
theorem ds_setLc2 {i : Nat} {y : Str} {py spos : Pos} (hc : X.calm = true) (hN : X.N.Nodup) (hi : DI X cn W tg iter fi) (ok : BlkOk X.N X.env.scope scope own) (hv : ∀ i ∈ vs1, i ∈ own.map (·.2))
    (hg : ∀ (s : Shared) (H : Hp) (C : Addr) (cl : List (Str × Addr)) (fp : List Addr), DG (X.blk s H scope (compEnvC scope cl C X.env) fp) cn tg ws b)
    (ht : ∀ (s : Shared) (H : Hp) (C : Addr) (cl : List (Str × Addr)) (fp : List Addr), DTs (X.blk s H scope (compEnvC scope cl C X.env) fp) cn W0 ifs ft)
    (hi1 : ∀ (s : Shared) (H : Hp) (C : Addr) (cl : List (Str × Addr)) (fp : List Addr), DI (X.blk s H scope (compEnvC scope cl C X.env) fp) cn W0 tg1 iter1 fi1)
    (hg1 : ∀ (s : Shared) (H : Hp) (C : Addr) (cl : List (Str × Addr)) (fp : List Addr), DG (X.blk s H scope (compEnvC scope cl C X.env) fp) cn tg1 ws1 b1)
    (ht1 : ∀ (s : Shared) (H : Hp) (C : Addr) (cl : List (Str × Addr)) (fp : List Addr), DTs (X.blk s H scope (compEnvC scope cl C X.env) fp) cn W0 ifs1 ft1)
    (he : ∀ (s : Shared) (H : Hp) (C : Addr) (cl : List (Str × Addr)) (fp : List Addr), DE (X.blk s H scope (compEnvC scope cl C X.env) fp) cn W0 elt fe)
    (hsw : swapsWith (.ListComp elt [⟨tg, iter, ifs, 0⟩, ⟨tg1, iter1, ifs1, 0⟩] scope pos) (some (.Name y py)) spos.line X.env = pure true) (hy : X.N[i]? = some y := by rfl) (hyl : X.env.scope.names.lookup y = some .local := by rfl)
    (hws : ∀ i ∈ ws, i ∈ own.map (·.2) := by decide) (hws1 : ∀ i ∈ ws1, i ∈ vs1 := by decide) (hs : ∀ x, foldedSetIterable iter X.env x = pure x := by intro _; rfl) (hs1 : ∀ env x, foldedSetIterable iter1 env x = pure x := by intro _ _; rfl) :
    DS X cn W (.Assign [.Name y py] (.ListComp elt [⟨tg, iter, ifs, 0⟩, ⟨tg1, iter1, ifs1, 0⟩] scope pos) spos) (sAsg (eLc2 fi b ft fi1 b1 ft1 fe (own.map (·.2)) vs1) (bName i)) :=
  PS.imp (ps_setLc2 (i := i) (wi := tDI X.K cn W fi) (g := gD X.K cn ws b) (tt := tDT X.K cn W0 ft) (wi1 := tDI X.K cn W0 fi1) (g1 := gD X.K cn ws1 b1) (tt1 := tDT X.K cn W0 ft1) (te := tD X.K cn W0 fe) hc hN hy hyl hsw hi ok hv hg ht hi1 hg1 ht1 he hs hs1) fun Z σ H ⟨φ, ρ, S, re, rs, q⟩ => lc2_run hws hws1 re rs ((RunS.ofR re q).imp fun φ1 H1 S1 d l1 rs1 q1 v r => q1.nxI ((re.le l1).set i r) rs1)
end

/-! ### len(set(t)) of a tuple of ints -/
def dedupI : List Int → List Int
  | [] => []
  | n :: ns => if n ∈ ns then dedupI ns else n :: dedupI ns
theorem dedupI_mem {x : Int} : ∀ {ns : List Int}, x ∈ dedupI ns ↔ x ∈ ns
  | [] => Iff.rfl
  | n :: ns => by
    unfold dedupI
    split
    · rename_i h
      rw [dedupI_mem, List.mem_cons]
      exact ⟨.inr, fun e => e.elim (fun e => e ▸ h) id⟩
    · rw [List.mem_cons, List.mem_cons, dedupI_mem]
theorem dedupI_nodup : ∀ ns : List Int, (dedupI ns).Nodup
  | [] => List.nodup_nil
  | n :: ns => by
    unfold dedupI
    split
    · exact dedupI_nodup ns
    · rename_i h
      exact List.nodup_cons.mpr ⟨fun e => h (dedupI_mem.mp e), dedupI_nodup ns⟩
theorem dedupI_le : ∀ ns : List Int, (dedupI ns).length ≤ ns.length
  | [] => Nat.le_refl _
  | n :: ns => by
    unfold dedupI
    have := dedupI_le ns
    split
    · simp; omega
    · simp; omega
theorem dedupI_eq : ∀ ns : List Int, (dedupI ns).length = ns.length ↔ ns.Nodup
  | [] => by simp [dedupI]
  | n :: ns => by
    unfold dedupI
    have h1 := dedupI_le ns
    have ih := dedupI_eq ns
    split
    · rename_i h
      constructor
      · intro e
        simp at e
        omega
      · intro e
        exact absurd h (List.nodup_cons.mp e).1
    · rename_i h
      rw [List.nodup_cons]
      simp only [List.length_cons, Nat.add_right_cancel_iff, ih]
      exact ⟨fun e => ⟨h, e⟩, fun e => e.2⟩
theorem nodup_len_le : ∀ {xs ys : List Int}, xs.Nodup → (∀ x ∈ xs, x ∈ ys) → xs.length ≤ ys.length
  | [], _, _, _ => Nat.zero_le _
  | x :: xs, ys, h, hs => by
    rw [List.nodup_cons] at h
    have hx := hs x List.mem_cons_self
    have ih := nodup_len_le (xs := xs) (ys := ys.erase x) h.2 fun y hy => by
      have hne : y ≠ x := fun e => h.1 (e ▸ hy)
      exact (List.mem_erase_of_ne hne).mpr (hs y (List.mem_cons_of_mem _ hy))
    rw [List.length_erase_of_mem hx] at ih
    have : 0 < ys.length := List.length_pos_of_mem hx
    simp
    omega
def tLenSetT (K : Frag) (ta : TE) : TE := fun σ H Q => ta σ H fun x H1 => ∃ (l : Addr) (ns : List Int), x = .ref l ∧ SqT K H1 l (ns.map V.int) ∧ ns.length ≤ 4000 ∧ Q (.int ((dedupI ns).length : Nat)) H1
theorem pe_lenSetT {X : Cx} {a : Expr} {ta : TE} {p p2 q pos : Pos} (hg : Gl X "len") (hm : X.mg "len" = none) (hg2 : Gl X "set") (hm2 : X.mg "set" = none) (ha : PE X a ta) (hc : X.calm = true)
    (na : starEach [a] X.env = (false, eval a X.env) :: starEach [] X.env := by rfl) : PE X (.Call (.Name "len" p) [.Call (.Name "set" p2) [a] [] q] [] pos) (tLenSetT X.K ta) := by
  refine ⟨fun pins s σ H Q I h => ?_⟩
  refine Call_ (ld_blt I hg hm boot_len ?_)
  refine PyProof.Rows.callWith_builtin1 (PyProof.Rows.args_cons ?_ rfl) rfl rfl
  refine Call_ (ld_blt I hg2 hm2 boot_set ?_)
  refine PyProof.Rows.callWith_type1 (PyProof.Rows.args_cons (thn (ha.run pins s σ H _ I h) fun v s1 ⟨x, H1, I1, r1, q1⟩ => PyProof.Rows.args_nil ?_) na) na rfl
  obtain ⟨l, ns, rfl, hq, hl, q1⟩ := q1
  cases r1
  obtain ⟨its, r, pl, hz⟩ := I1.tuple hq
  refine call_set_tupI ns (I1.ok.hd hc) (show s1.heap.IsTuple l its.toArray from pl) (by simpa using RZ.intsAre_vals r) (by unfold scanBound; omega) fun h' tk c hS hcl hk => ?_
  refine PyProof.Rows.args_nil ?_
  obtain ⟨o, es, ep, t, ho, hex, hd, hge, hnd, hmem, hsz, hf, hn, _⟩ := hS
  have ec : c = (dedupI ns).length := by
    have h1 : (es.toList.map L2.keyOf).length = es.size := by rw [List.length_map, Array.length_toList]
    have h2 := nodup_len_le hnd (ys := dedupI ns) fun k hk2 => dedupI_mem.mpr (of_decide_eq_true ((hmem k).mpr hk2))
    have h3 := nodup_len_le (dedupI_nodup ns) (ys := es.toList.map L2.keyOf) fun k hk2 => (hmem k).mp (decide_eq_true (dedupI_mem.mp hk2))
    omega
  have I2 : Inv X pins σ H1 { s1 with heap := h', toks := tk } := I1.kept fun b o e => hk b o e
  have hdl := dedupI_le ns
  exact call_len_set ho hex hd hf (by rw [hn]; omega) ⟨.int (dedupI ns).length, H1, I2.tok _, ⟨_, by rw [hn, ec]⟩, q1⟩
def eLenSet (f : FE) : FE := fun ρ S => (f ρ S).bind fun d S1 => match d with
  | .tup ds => match intsOf ds with
    | some ns => if ns.length ≤ 4000 then .ok (.int ((dedupI ns).length : Nat)) S1 else .no
    | none => .no
  | _ => .no
theorem de_lenSet {X : Cx} {cn : Nat → Addr} {W : WX} {a : Expr} {fa : FE} {p p2 q pos : Pos} (hc : X.calm = true) (hg : Gl X "len") (hm : X.mg "len" = none) (hg2 : Gl X "set") (hm2 : X.mg "set" = none) (ha : DE X cn W a fa)
    (na : starEach [a] X.env = (false, eval a X.env) :: starEach [] X.env := by rfl) : DE X cn W (.Call (.Name "len" p) [.Call (.Name "set" p2) [a] [] q] [] pos) (eLenSet fa) :=
  PE.imp (pe_lenSetT hg hm hg2 hm2 ha hc na) fun σ H Q ⟨φ, ρ, S, re, rs, q⟩ => ⟨φ, ρ, S, re, rs, q.bind.imp fun φ1 H1 S1 d l1 rs1 q1 v r => by
    split at q1
    · split at q1
      · rename_i ns e
        split at q1
        · rename_i hz
          obtain ⟨l, xs, rfl, h2, h3⟩ := r
          have e3 := rep_ints h3 e
          subst e3
          exact ⟨l, ns, rfl, h2.sq, hz, q1.okI rs1 _ rfl⟩
        · exact q1.elim
      · exact q1.elim
    · exact q1.elim⟩
end DS

/-! DsI: defs and the law's end over a head by facts. -/
namespace DS
open PySem L2 PyProof.Rows

section
theorem bt_abs : bootBuiltins "abs" = some (.builtin "abs") := by decide +kernel
theorem bt_isinstance : bootBuiltins "isinstance" = some (.builtin "isinstance") := by decide +kernel
theorem bt_min : bootBuiltins "min" = some (.builtin "min") := by decide +kernel
theorem bt_max : bootBuiltins "max" = some (.builtin "max") := by decide +kernel
theorem bt_any : bootBuiltins "any" = some (.builtin "any") := by decide +kernel
theorem bt_all : bootBuiltins "all" = some (.builtin "all") := by decide +kernel
theorem bt_sorted : bootBuiltins "sorted" = some (.builtin "sorted") := by decide +kernel
theorem bt_sum : bootBuiltins "sum" = some (.builtin "sum") := by decide +kernel
theorem bt_repr : bootBuiltins "repr" = some (.builtin "repr") := by decide +kernel
theorem bt_int : bootBuiltins "int" = some (.type "int") := by decide +kernel
theorem bt_bool : bootBuiltins "bool" = some (.type "bool") := by decide +kernel
theorem bt_str : bootBuiltins "str" = some (.type "str") := by decide +kernel
theorem bt_list : bootBuiltins "list" = some (.type "list") := by decide +kernel
theorem bt_tuple : bootBuiltins "tuple" = some (.type "tuple") := by decide +kernel
theorem bt_dict : bootBuiltins "dict" = some (.type "dict") := by decide +kernel
theorem bt_len : bootBuiltins "len" = some (.builtin "len") := by decide +kernel
end
noncomputable def gIAdd : D → D → Sto → R D := gI (fun _ _ => True) fun i j => .int (i + j)
theorem imp_iadd {K : Frag} {cn : Nat → Addr} : Imp2 K cn (rI0 fun i j => .int (i + j)) gIAdd := imp_rI0 fun _ _ _ _ _ e => e
structure Fok (P : Program) (w : World) (K : Frag) (mg : Str → Option Value) (base : Heap) (cn : Nat → Addr) (k : Nat) (f : Addr) (ps : List Str) (n : Nat) (dds : List D) (g : List D → Sto → R D) : Prop where
  ex : ∃ fd ds dvs, FnOk P w K mg base (L2.CX P w) k f fd ps (spF K cn n g) ∧ Binds K fd ps ds ∧ Vals dvs ds ∧ RepC K dds dvs ∧ (dds = [] → ∀ (s : Shared) (us : List Value), us.length = ps.length → BindsTo s fd ⟨us, []⟩ (ps.zip us)) ∧ ∃ oc od osl, K.lookup f = some ⟨oc, od, .func fd, osl⟩
  kp : PySem.W.keepIn K (.ref f) = true
section
variable {P : Program} {w : World} {K : Frag} {mg : Str → Option Value} {base : Heap} {cn : Nat → Addr}
theorem _root_.L2.FunD.lk {x qual : Str} {params : Arguments} {bd : List Stmt} {scope : Scope} {dvs : List V} {kws : List (Str × V)} {f : Addr} {fd : FuncData} (F : FunD K x qual params bd scope dvs kws f fd) : ∃ oc od osl, K.lookup f = some ⟨oc, od, .func fd, osl⟩ := by
  obtain ⟨oc, od, dV, kV, doc, pm, an, cdv, ct, osl, _, lk, _⟩ := F.ex
  exact ⟨oc, od, osl, lk⟩
theorem fn_okD {x qual : Str} {params : Arguments} {bd : List Stmt} {scope : Scope} {dvs : List V} {kws : List (Str × V)} {f : Addr} {fd : FuncData} {N ps : List Str} {k n : Nat} {body : FS} (F : FunD K x qual params bd scope dvs kws f fd) (S : FnScope N ps scope) (hn : ps.length = n) {m : Nat} (hm : N.length = m)
    (hb : ∀ (cdv : Value) (A : Around) (outer : List PySem.Env) (s : Shared) (H : Hp) (E : XK), Good (cxOf (L2.CX P w) P w K mg base N qual scope f cdv A outer s H E) (fun cls d _ H => E cls d H) k →
      DSs (cxOf (L2.CX P w) P w K mg base N qual scope f cdv A outer s H E) cn (fun cls d _ H => E cls d H) bd body) :
    FnOk P w K mg base (L2.CX P w) (k + 1) f fd ps (spF K cn n (runF m body)) := by
  subst hn hm
  refine F.ok S (fun vs H Q E ⟨φ, S, ds, rs, r, hl, q⟩ => by rw [r.length, hl]) fun cdv A outer s H vs Q E hr ⟨φ, S', ds, rs, r, hl, q⟩ => ?_
  have G : Good (cxOf (L2.CX P w) P w K mg base N qual scope f cdv A outer s H E) (fun cls d _ H => E cls d H) k := ⟨rfl, S.nd, takes_of rfl rfl rfl rfl, passes_of rfl, hr⟩
  refine ⟨_, hb cdv A outer s H E G, φ, startD N.length ds, S', startD_rep r, rs, ?_⟩
  unfold runF at q
  cases h : body (startD N.length ds) S' with
  | nx ρ S2 => rw [h] at q; exact fun φ2 H2 σ2 l2 r2 e2 => q φ2 H2 l2 r2 _ rfl
  | ret d S2 => rw [h] at q; exact fun φ2 H2 v l2 r2 rv => q φ2 H2 l2 r2 v rv
  | exc c ρ S2 => rw [h] at q; exact fun φ2 H2 σ2 l2 r2 e2 => q φ2 H2 l2 r2
  | brk ρ S2 => rw [h] at q; exact q.elim
  | cnt ρ S2 => rw [h] at q; exact q.elim
  | no => rw [h] at q; exact q.elim
theorem fok {x qual : Str} {params : Arguments} {bd : List Stmt} {scope : Scope} {f : Addr} {N ps : List Str} {k n : Nat} {body : FS} (F : ∃ fd, FunD K x qual params bd scope [] [] f fd) (S : FnScope N ps scope) (hn : ps.length = n) {m : Nat} (hm : N.length = m)
    (hbind : ∀ (kV doc pm : Value) (an : Option Addr) (cdv ct : Value) (us : List Value), us.length = ps.length → bindArgs (PySem.W.fnOf x qual params bd scope .none kV doc pm an cdv ct) ⟨us, []⟩ = pure (ps.zip us))
    (hb : ∀ (cdv : Value) (A : Around) (outer : List PySem.Env) (s : Shared) (H : Hp) (E : XK), Good (cxOf (L2.CX P w) P w K mg base N qual scope f cdv A outer s H E) (fun cls d _ H => E cls d H) k →
      DSs (cxOf (L2.CX P w) P w K mg base N qual scope f cdv A outer s H E) cn (fun cls d _ H => E cls d H) bd body) :
    Fok P w K mg base cn (k + 1) f ps n [] (runF m body) := by
  obtain ⟨fd, F⟩ := F
  exact ⟨⟨fd, [], [], fn_okD F S hn hm hb, FunD.bindsN F hbind, .nil, repC_nil, fun _ => FunD.bindsA F hbind, F.lk⟩, F.kp⟩
theorem fok_no {x qual : Str} {params : Arguments} {bd : List Stmt} {scope : Scope} {f : Addr} {ps : List Str} {k n : Nat} (F : ∃ fd, FunD K x qual params bd scope [] [] f fd) (hn : ps.length = n)
    (hbind : ∀ (kV doc pm : Value) (an : Option Addr) (cdv ct : Value) (us : List Value), us.length = ps.length → bindArgs (PySem.W.fnOf x qual params bd scope .none kV doc pm an cdv ct) ⟨us, []⟩ = pure (ps.zip us)) :
    Fok P w K mg base cn k f ps n [] fun _ _ => .no := by
  obtain ⟨fd, F⟩ := F
  exact ⟨⟨fd, [], [], fn_no hn, FunD.bindsN F hbind, .nil, repC_nil, fun _ => FunD.bindsA F hbind, F.lk⟩, F.kp⟩
theorem Fok.mono {j k : Nat} {f : Addr} {ps : List Str} {n : Nat} {dds : List D} {g : List D → Sto → R D} (F : Fok P w K mg base cn j f ps n dds g) (h : j ≤ k) : Fok P w K mg base cn k f ps n dds g := by
  obtain ⟨⟨fd, ds, dvs, F, b, r, c, z⟩, kp⟩ := F
  exact ⟨⟨fd, ds, dvs, F.mono h, b, r, c, z⟩, kp⟩
end
section
variable {X : Cx} {cn : Nat → Addr} {W : WX} {k j : Nat} {x m : Str} {p pos apos : Pos} {e o : Expr} {es : List Expr} {fa : FA} {fo : FE} {f : Addr} {ps : List Str} {g : List D → Sto → R D} {dds : List D} {n : Nat}
theorem de_callF (G : Good X W k) (F : Fok X.prog X.w X.K X.mg X.base cn j f ps n dds g) (hj : j ≤ k) (hg : Gl X x) (hm : X.mg x = some (.ref f))
    (ha : DA X cn W (e :: es) fa) (hl : (e :: es).length + dds.length = n := by rfl) (hdb : (x == ("__debug__" : Str)) = false := by decide) (he : starEach (e :: es) X.env = (false, eval e X.env) :: starEach es X.env := by rfl) (hpl : (backTo pos (starEach es X.env)).any (·.1) = false := by rfl) :
    DE X cn W (.Call (.Name x p) (e :: es) [] pos) (eCall g dds fa) := by
  obtain ⟨⟨fd, ds, dvs, F, b, r, c, z⟩, kp⟩ := F
  exact de_call (G.mono hj) F hg hm kp b r c ha hl hdb he hpl
theorem de_methF {c : Nat} {pl : Sem Bool} (G : Good X W k) (F : Fok X.prog X.w X.K X.mg X.base cn j f ps n dds g) (hj : j ≤ k) (hc : Cls X.K (cn c)) (hm : Meth X.K (cn c) m f) (ho : DE X cn W o fo)
    (ha : DA X cn W (e :: es) fa) (hl : (e :: es).length + 1 + dds.length = n := by rfl)
    (hst : starEach (e :: es) X.env = (false, eval e X.env) :: starEach es X.env := by rfl) (hpl : (backTo pos (starEach es X.env)).any (·.1) = false := by rfl)
    (ht : eval (.Call (.Attribute o m apos) (e :: es) [] pos) X.env = (do
      let ov ← eval o X.env
      standAt apos.atName
      let (f, first) ← holding [ov] (getMethod ov m pl)
      callWith pos f first (backTo pos (starEach (e :: es) X.env)) (backToKw pos (keywordEach [] X.env))) := by rfl) :
    DE X cn W (.Call (.Attribute o m apos) (e :: es) [] pos) (eMeth c m g dds fo fa) := by
  obtain ⟨⟨fd, ds, dvs, F, b, r, cc, z⟩, kp⟩ := F
  exact de_meth (G.mono hj) hc hm F b r cc ho ha hl hst hpl ht
theorem de_methF0 {c : Nat} {pl : Sem Bool} (G : Good X W k) (F : Fok X.prog X.w X.K X.mg X.base cn j f ps n dds g) (hj : j ≤ k) (hc : Cls X.K (cn c)) (hm : Meth X.K (cn c) m f) (ho : DE X cn W o fo) (hl : 1 + dds.length = n := by rfl)
    (ht : eval (.Call (.Attribute o m apos) [] [] pos) X.env = (do
      let ov ← eval o X.env
      standAt apos.atName
      let (f, first) ← holding [ov] (getMethod ov m pl)
      callWith pos f first (backTo pos (starEach [] X.env)) (backToKw pos (keywordEach [] X.env))) := by rfl) :
    DE X cn W (.Call (.Attribute o m apos) [] [] pos) (eMeth c m g dds fo aNil) := by
  obtain ⟨⟨fd, ds, dvs, F, b, r, cc, z⟩, kp⟩ := F
  exact de_meth0 (G.mono hj) hc hm F b r cc ho hl ht
theorem de_makeF {c : Nat} (G : Good X W k) (F : Fok X.prog X.w X.K X.mg X.base cn j f ps n dds g) (hj : j + 1 ≤ k) (M : Mk X.K (cn c) f) (hg : Gl X x) (hm : X.mg x = some (.ref (cn c)))
    (ha : DA X cn W (e :: es) fa) (hl : (e :: es).length + 1 + dds.length = n := by rfl) (hdb : (x == ("__debug__" : Str)) = false := by decide) (he : starEach (e :: es) X.env = (false, eval e X.env) :: starEach es X.env := by rfl) (hpl : (backTo pos (starEach es X.env)).any (·.1) = false := by rfl) :
    DE X cn W (.Call (.Name x p) (e :: es) [] pos) (eMake c g dds fa) := by
  obtain ⟨⟨fd, ds, dvs, F, b, r, cc, z⟩, kp⟩ := F
  exact de_make (G.mono hj) M F hg hm b r cc ha hl hdb he hpl
theorem de_makeF0 {c : Nat} (G : Good X W k) (F : Fok X.prog X.w X.K X.mg X.base cn j f ps n dds g) (hj : j + 1 ≤ k) (M : Mk X.K (cn c) f) (hg : Gl X x) (hm : X.mg x = some (.ref (cn c))) (hl : 1 + dds.length = n := by rfl) (hdb : (x == ("__debug__" : Str)) = false := by decide) :
    DE X cn W (.Call (.Name x p) [] [] pos) (eMake c g dds aNil) := by
  obtain ⟨⟨fd, ds, dvs, F, b, r, cc, z⟩, kp⟩ := F
  exact de_make0 (G.mono hj) M F hg hm b r cc hl hdb
theorem de_gint {i : Int} (hg : Gl X x) (hm : ∃ t, X.mg x = some (.int i t)) (hd : (x == ("__debug__" : Str)) = false := by decide) : DE X cn W (.Name x pos) (eC (.int i)) := by
  obtain ⟨t, hm⟩ := hm
  exact de_glob hg hm (v := .int i) (He.relB_ok (by simp [He.relB])) (fun _ _ => rfl) hd
theorem de_gstr {i : Str} (hg : Gl X x) (hm : ∃ t, X.mg x = some (.str i t)) (hd : (x == ("__debug__" : Str)) = false := by decide) : DE X cn W (.Name x pos) (eC (.str i)) := by
  obtain ⟨t, hm⟩ := hm
  exact de_glob hg hm (v := .str i) (He.relB_ok (by simp [He.relB])) (fun _ _ => rfl) hd
theorem ds_raiseF {c : Nat} {msg : Str} {jj : Nat} {p2 : Pos} (G : Good X W k) (h : PySem.W.excIn X.K (cn c) He.veBase "ValueError.__new__" = true ∧ PySem.W.keepIn X.K (.ref (cn c)) = true ∧ PySem.W.subIn X.K (.ref (cn c)) (.type "BaseException") = some true ∧ PySem.W.typeIn X.K (.ref (cn c)) = some (.type "type"))
    (hg : Gl X x) (hm : X.mg x = some (.ref (cn c))) (hdb : (x == ("__debug__" : Str)) = false := by decide) : DS X cn W (.Raise (some (.Call (.Name x p) [.Constant (.str msg) jj p2] [] apos)) none pos) (sRaise c) :=
  ds_raise G (L2.pmk_own PySem.F.excBase_ValueError h.1 hm h.2.1 (raises_own h.2.2.1 h.2.2.2) hg hdb)
end
/-- what the names of the top stand for -/
structure Nv (fa : List He.Fa) (fn : List He.DefD) (K : Frag) (mg : Str → Option Value) : Prop where
  ex : ∃ h : Heap, K.In h ∧ h.Ns mainGlobals mg
  c : He.SaysD fa fn K
section
variable {fa : List He.Fa} {fn : List He.DefD} {K : Frag} {mg : Str → Option Value}
theorem Nv.glo (V : Nv fa fn K mg) (i : Nat) {x : Str} (h : fa[i]? = some (.glo x) := by rfl) : mg x = some (.ref (He.ga K x)) := let ⟨_, X, G⟩ := V.ex; He.glo_ok X G (V.c.fact i h)
theorem Nv.free (V : Nv fa fn K mg) (i : Nat) {x : Str} (h : fa[i]? = some (.free x) := by rfl) : mg x = none := let ⟨_, X, G⟩ := V.ex; He.free_ok X G (V.c.fact i h)
theorem Nv.int (V : Nv fa fn K mg) (i : Nat) {x : Str} {z : Int} (h : fa[i]? = some (.int x z) := by rfl) : ∃ t, mg x = some (.int z t) := let ⟨_, X, G⟩ := V.ex; He.int_ok X G (V.c.fact i h)
theorem Nv.str (V : Nv fa fn K mg) (i : Nat) {x z : Str} (h : fa[i]? = some (.str x z) := by rfl) : ∃ t, mg x = some (.str z t) := let ⟨_, X, G⟩ := V.ex; He.str_ok X G (V.c.fact i h)
end
/-- the end -/
theorem walk_d {l : PySem.W.OpenLaw} {q : Program} {loose : List Str} {XP : (Str → Option Value) → Heap → Prop} {d : DefRec} {fa : List He.Fa} {fn : List He.DefD} {hops k : Nat} {x : Str} {g : List D → Sto → R D} {cnK : Frag → Nat → Addr}
    (hn : l.most = some 63) (hdf : d.params.defaults = []) (hr : Room k callerA) (hname : d.name = x) (i : Nat) (hg : fa[i]? = some (.glo x))
    (F : ∀ (w : World) (K : Frag) (mg : Str → Option Value) (base : Heap), Nv fa fn K mg → Fok l.prog w K mg base (cnK K) k (He.ga K x) ["script"] 1 [] g)
    (L : ∀ ns : List Int, ns.length ≤ 63 → ∃ S', g [.rls (ns.map D.int)] [] = .ok (.bl true) S') :
    PySem.W.WalkO q loose XP (He.hookD hops fa fn).says l.row.toRowW d [] (fun f vs => PySem.call f vs) := by
  refine Att.attach_call hn hdf fun w s₀ s₁ mg mb fad o pm cd doc a vs ns G Y ho hd hcd hmg hobj hints hlen hgens => ?_
  obtain ⟨K, KX, c⟩ := Y
  have V : Nv fa fn K mg := ⟨⟨_, KX, G.T.g⟩, c⟩
  have ha : fad = He.ga K x := by
    have z := V.glo i hg
    rw [hname] at hmg
    rw [z] at hmg
    cases hmg
    rfl
  subst ha
  obtain ⟨⟨fd, ds, dvs, F1, b1, r1, c1, z1, oc, od, osl, lk⟩, kp⟩ := F w K mg s₁.heap V
  refine law_call KX G.T.g G.T.b G.T.builtins G.T.nolimit hgens hobj hints (Nat.le_trans hlen (by decide)) hr (sp := spF K (cnK K) 1 g) (fd := fd) (CX := L2.CX l.prog w) (fun base kin ns => ?_) (fun s u => z1 rfl s [u] rfl) (fun H hO hS => ?_) fun H e s' z => ?_
  · obtain ⟨⟨fd', ds', dvs', F2, _, _, _, _, _, _, _, lk2⟩, _⟩ := F w K mg base V
    rw [lk] at lk2
    cases lk2
    exact F2
  · obtain ⟨S', eS⟩ := L ns hlen
    refine ⟨[], [], [.rls (ns.map .int)], ?_, ?_, rfl, ?_⟩
    · exact ⟨rfl, List.nodup_nil, fun n o a h => by cases h⟩
    · refine ⟨_, _, rfl, ⟨a, _, rfl, ?_, RepVs.of_ints ns⟩, rfl⟩
      rcases hS with hS | hS
      · rcases hS with z | ⟨o', z⟩
        · rcases hO a with e | ⟨o, xs, e⟩ <;> (rw [z] at e; cases e)
        · exact .inl ⟨o', z⟩
      · exact .inr hS
    · rw [eS]
      intro φ' H' l' r' v rv
      exact rv
  · obtain ⟨_, _, _, _, _, _, _, _, _, _, _, _, zz⟩ := z
    exact zz.elim
end DS

/-! DsJ: how to reason about the meanings (no program in sight). -/
namespace DS
open PySem L2

/-! ### what a run gives -/
def Ev {α : Type} (r : R α) (P : α → Sto → Prop) : Prop := match r with
  | .ok a S => P a S
  | _ => False
def WS (r : RS) (Q : RS → Prop) : Prop := Q r
def seqK (g : FS) (Q : RS → Prop) : RS → Prop := fun r => match r with
  | .nx ρ S => WS (g ρ S) Q
  | r => WS r Q
def Rt (P : D → Sto → Prop) : RS → Prop := fun r => Ev r.out P
def bodyK (I : En → Sto → Prop) (Q : RS → Prop) : RS → Prop := fun r => match r with
  | .nx ρ S => I ρ S
  | .cnt ρ S => I ρ S
  | .brk ρ S => WS (.nx ρ S) Q
  | r => WS r Q
section
variable {α β : Type} {r : R α} {f : α → Sto → R β} {P : α → Sto → Prop} {Q' : β → Sto → Prop} {Q : RS → Prop} {ρ : En} {S : Sto} {g : FS} {I : En → Sto → Prop}
@[simp] theorem ev_ok {a : α} : Ev (.ok a S) P ↔ P a S := Iff.rfl
@[simp] theorem ev_no : ¬ Ev (.no : R α) P := id
@[simp] theorem ev_exc {c : Nat} : ¬ Ev (.exc c S : R α) P := id
theorem Ev.imp {P' : α → Sto → Prop} (h : Ev r P) (k : ∀ a S, P a S → P' a S) : Ev r P' := by cases r <;> first | exact k _ _ h | exact h
theorem Ev.ok (h : Ev r P) : ∃ a S, r = .ok a S ∧ P a S := by cases r <;> first | exact ⟨_, _, rfl, h⟩ | exact h.elim
theorem Ev.of {a : α} (e : r = .ok a S) (h : P a S) : Ev r P := by rw [e]; exact h
theorem Ev.bind (h : Ev r P) (k : ∀ a S, P a S → Ev (f a S) Q') : Ev (r.bind f) Q' := by cases r <;> first | exact k _ _ h | exact h.elim
theorem Ev.nbind (h : Ev r P) (k : ∀ a S, P a S → Ev (f a S) Q') : Ev (r.nox.bind f) Q' := by cases r <;> first | exact k _ _ h | exact h.elim
theorem Ev.nox (h : Ev r P) : Ev r.nox P := by cases r <;> first | exact h | exact h.elim
theorem Ev.ws {k : α → Sto → RS} (h : Ev r P) (q : ∀ a S, P a S → WS (k a S) Q) : WS (r.toS ρ k) Q := by cases r <;> first | exact q _ _ h | exact h.elim
theorem ev_ite {c : Prop} [Decidable c] {a b : R α} : Ev (if c then a else b) P ↔ if c then Ev a P else Ev b P := by split <;> rfl
theorem ws_ite {c : Prop} [Decidable c] {a b : RS} : WS (if c then a else b) Q ↔ if c then WS a Q else WS b Q := by split <;> rfl
@[simp] theorem toS_bind {k : β → Sto → RS} : (r.bind f).toS ρ k = r.toS ρ fun a S => (f a S).toS ρ k := by cases r <;> rfl
@[simp] theorem nox_bind : (r.bind f).nox = r.nox.bind fun a S => (f a S).nox := by cases r <;> rfl
@[simp] theorem nox_nox : r.nox.nox = r.nox := by cases r <;> rfl
@[simp] theorem ws_seq {f g : FS} : WS (sSeq f g ρ S) Q ↔ WS (f ρ S) (seqK g Q) := by
  unfold sSeq seqK WS
  cases f ρ S <;> rfl
@[simp] theorem ws_nx : WS (.nx ρ S) (seqK g Q) ↔ WS (g ρ S) Q := Iff.rfl
@[simp] theorem ws_ret {d : D} : WS (.ret d S) (seqK g Q) ↔ WS (.ret d S) Q := Iff.rfl
@[simp] theorem ws_brk : WS (.brk ρ S) (seqK g Q) ↔ WS (.brk ρ S) Q := Iff.rfl
@[simp] theorem ws_cnt : WS (.cnt ρ S) (seqK g Q) ↔ WS (.cnt ρ S) Q := Iff.rfl
@[simp] theorem ws_exc {c : Nat} : WS (.exc c ρ S) (seqK g Q) ↔ WS (.exc c ρ S) Q := Iff.rfl
@[simp] theorem rt_nx {P : D → Sto → Prop} : WS (.nx ρ S) (Rt P) ↔ P .non S := Iff.rfl
@[simp] theorem rt_ret {P : D → Sto → Prop} {d : D} : WS (.ret d S) (Rt P) ↔ P d S := Iff.rfl
@[simp] theorem bk_nx : WS (.nx ρ S) (bodyK I Q) ↔ I ρ S := Iff.rfl
@[simp] theorem bk_cnt : WS (.cnt ρ S) (bodyK I Q) ↔ I ρ S := Iff.rfl
@[simp] theorem bk_brk : WS (.brk ρ S) (bodyK I Q) ↔ WS (.nx ρ S) Q := Iff.rfl
@[simp] theorem bk_ret {d : D} : WS (.ret d S) (bodyK I Q) ↔ WS (.ret d S) Q := Iff.rfl
theorem ev_run {n : Nat} {body : FS} {ds : List D} {P : D → Sto → Prop} : Ev (runF n body ds S) P ↔ WS (body (startD n ds) S) (Rt P) := Iff.rfl
end

/-! ### the parts, unfolded -/
section
variable {ρ : En} {S : Sto} {fa fb fc fe : FE} {ft fu : FT} {as : FA} {g g' : D → D → Sto → R D} {h : D → Sto → R D} {gn : List D → Sto → R D} {a b d : D} {f1 f2 : FS} {bd : FB}
@[simp] theorem j_eVar {i : Nat} : eVar i ρ S = match ρ[i]? with
  | some (some d) => .ok d S
  | _ => .no := rfl
@[simp] theorem j_eC : eC d ρ S = .ok d S := rfl
@[simp] theorem j_e1 : e1 h fa ρ S = (fa ρ S).bind h := rfl
@[simp] theorem j_e2 : e2 g fa fb ρ S = (fa ρ S).bind fun x S1 => (fb ρ S1).bind fun y S2 => g x y S2 := rfl
@[simp] theorem j_eN : eN gn as ρ S = (as ρ S).bind gn := rfl
@[simp] theorem j_bB {b : Bool} : bB (.bl b) S = .ok b S := rfl
@[simp] theorem j_tBl : tBl fa ρ S = (fa ρ S).bind bB := rfl
@[simp] theorem j_eChain : eChain g g' fa fb fc ρ S = (fa ρ S).bind fun x S1 => (fb ρ S1).bind fun y S2 => (g x y S2).bind fun z S3 => (bB z S3).bind fun k S4 =>
  if k = true then (fc ρ S4).bind fun w S5 => g' y w S5 else .ok (.bl false) S4 := rfl
@[simp] theorem j_tTr : tTr fa ρ S = (fa ρ S).bind bT := rfl
@[simp] theorem j_tAnd : tAndD ft fu ρ S = (ft ρ S).bind fun b S1 => if b = true then fu ρ S1 else .ok false S1 := rfl
@[simp] theorem j_tOr : tOrD ft fu ρ S = (ft ρ S).bind fun b S1 => if b = true then .ok true S1 else fu ρ S1 := rfl
@[simp] theorem j_tNot : tNotD ft ρ S = (ft ρ S).bind fun b S1 => .ok (!b) S1 := rfl
@[simp] theorem j_eAnd : eAnd fa fb ρ S = (fa ρ S).bind fun d S1 => (bT d S1).bind fun b S2 => if b = true then fb ρ S2 else .ok d S2 := rfl
@[simp] theorem j_eOr : eOr fa fb ρ S = (fa ρ S).bind fun d S1 => (bT d S1).bind fun b S2 => if b = true then .ok d S2 else fb ρ S2 := rfl
@[simp] theorem j_eNot : eNot fa ρ S = (fa ρ S).bind fun d S1 => (bT d S1).bind fun b S2 => .ok (.bl (!b)) S2 := rfl
@[simp] theorem j_eIf : eIf ft fa fb ρ S = (ft ρ S).bind fun b S1 => if b = true then fa ρ S1 else fb ρ S1 := rfl
@[simp] theorem j_aNil : aNil ρ S = .ok [] S := rfl
@[simp] theorem j_aCons : aCons fa as ρ S = (fa ρ S).bind fun d S1 => (as ρ S1).bind fun ds S2 => .ok (d :: ds) S2 := rfl
@[simp] theorem j_eTup : eTup as ρ S = (as ρ S).bind fun ds S1 => .ok (.tup ds) S1 := rfl
@[simp] theorem j_eLst : eLst as ρ S = (as ρ S).bind fun ds S1 => .ok (.loc S1.length) (S1 ++ [.lst ds]) := rfl
@[simp] theorem j_eDct : eDct ρ S = .ok (.loc S.length) (S ++ [.dK []]) := rfl
@[simp] theorem j_eM {gm : D → List D → Sto → R D} : eM gm fa as ρ S = (fa ρ S).bind fun o S1 => if (lstOf o S1).isSome = true then (as ρ S1).bind fun ds S2 => gm o ds S2 else .no := rfl
@[simp] theorem j_oNone : oNone ρ S = .ok none S := rfl
@[simp] theorem j_oSome : oSome fa ρ S = (fa ρ S).bind fun d S1 => match d with
  | .int i => .ok (some i) S1
  | _ => .no := rfl
@[simp] theorem j_eSl {lo hi : FO} : eSl fa lo hi ρ S = (fa ρ S).bind fun d S1 => (lo ρ S1).bind fun l S2 => (hi ρ S2).bind fun u S3 => gSl d l u S3 := rfl
@[simp] theorem j_eCall {dds : List D} : eCall gn dds as ρ S = (as ρ S).bind fun ds S1 => gn (ds ++ dds) S1 := rfl
@[simp] theorem j_eMeth {c : Nat} {m : Str} {dds : List D} : eMeth c m gn dds fa as ρ S = (fa ρ S).bind fun o S1 => if insOk c m o S1 = true then (as ρ S1).bind fun ds S2 => gn (o :: (ds ++ dds)) S2 else .no := rfl
@[simp] theorem j_eMake {c : Nat} {dds : List D} : eMake c gn dds as ρ S = (as ρ S).bind fun ds S1 => (gn (.loc S1.length :: (ds ++ dds)) (S1 ++ [.ins c []])).nox.bind fun r S2 => match r with
  | .non => .ok (.loc S1.length) S2
  | _ => .no := rfl
@[simp] theorem j_sNx : sNx ρ S = .nx ρ S := rfl
@[simp] theorem j_sBrk : sBrk ρ S = .brk ρ S := rfl
@[simp] theorem j_sCnt : sCnt ρ S = .cnt ρ S := rfl
@[simp] theorem j_sEx : sEx fa ρ S = (fa ρ S).toS ρ fun _ S1 => .nx ρ S1 := rfl
@[simp] theorem j_sRet : sRet fa ρ S = (fa ρ S).toS ρ fun d S1 => .ret d S1 := rfl
@[simp] theorem j_sRetN : sRetN ρ S = .ret .non S := rfl
@[simp] theorem j_sIf : sIf ft f1 f2 ρ S = (ft ρ S).toS ρ fun b S1 => if b = true then f1 ρ S1 else f2 ρ S1 := rfl
@[simp] theorem j_sAsg : sAsg fa bd ρ S = (fa ρ S).toS ρ fun d S1 => match bd d ρ S1 with
  | some ρ1 => .nx ρ1 S1
  | none => .no := rfl
@[simp] theorem j_sPar {i j : Nat} : sPar i j as ρ S = (as ρ S).toS ρ fun ds S1 => match ds with
  | [d, e] => .nx ((ρ.set i (some d)).set j (some e)) S1
  | _ => .no := rfl
@[simp] theorem j_sSet : sSet fa fb fc ρ S = (fc ρ S).toS ρ fun d S1 => (fa ρ S1).toS ρ fun o S2 => (fb ρ S2).toS ρ fun i S3 => (gSet o i d S3).toS ρ fun _ S4 => .nx ρ S4 := rfl
@[simp] theorem j_sAug {i : Nat} : sAug i fa g ρ S = match ρ[i]? with
  | some (some x) => (fa ρ S).toS ρ fun d S1 => (g x d S1).toS ρ fun z S2 => .nx (ρ.set i (some z)) S2
  | _ => .no := rfl
@[simp] theorem j_sRaise {c : Nat} : sRaise c ρ S = .exc c ρ S := rfl
@[simp] theorem j_sFor {fi : FI} : sFor fi bd f1 ρ S = (fi ρ S).toS ρ fun t S1 => forL bd f1 t.chk t.items ρ S1 := rfl
@[simp] theorem j_iSq : iSq fa ρ S = (fa ρ S).bind itOf := rfl
@[simp] theorem j_itTup {ds : List D} : itOf (.tup ds) S = .ok ⟨ds, yes⟩ S := rfl
@[simp] theorem j_itRls {ds : List D} : itOf (.rls ds) S = .ok ⟨ds, yes⟩ S := rfl
@[simp] theorem j_iZip : iZip fa fb ρ S = (fa ρ S).bind fun d S1 => (fb ρ S1).bind fun e S2 => match d, e with
  | .tup as, .tup bs => .ok ⟨zipD as bs, yes⟩ S2
  | .loc n, .loc m => match S2[n]?, S2[m]? with
    | some (.lst as), some (.lst bs) => .ok ⟨zipD as bs, fun S' => S'[n]? = some (.lst as) ∧ S'[m]? = some (.lst bs)⟩ S2
    | _, _ => .no
  | _, _ => .no := rfl
@[simp] theorem j_bName {i : Nat} : bName i d ρ S = some (ρ.set i (some d)) := rfl
@[simp] theorem j_bNames0 {ds : List D} : bNames [] ds ρ = ρ := by cases ds <;> rfl
@[simp] theorem j_bNames1 {i : Nat} {is : List Nat} {ds : List D} : bNames (i :: is) (d :: ds) ρ = bNames is ds (ρ.set i (some d)) := rfl
@[simp] theorem j_bTup {is : List Nat} : bTup is d ρ S = match seqOf d S with
  | some ds => if ds.length = is.length then some (bNames is ds ρ) else none
  | none => none := rfl
@[simp] theorem j_seqTup {ds : List D} : seqOf (.tup ds) S = some ds := rfl
@[simp] theorem j_seqRls {ds : List D} : seqOf (.rls ds) S = some ds := rfl
@[simp] theorem j_seqInt {i : Int} : seqOf (.int i) S = none := rfl
@[simp] theorem j_seqStr {i : Str} : seqOf (.str i) S = none := rfl
@[simp] theorem j_tYes : tYesD ρ S = .ok true S := rfl
@[simp] theorem j_eLc {fi : FI} {vs : List Nat} : eLc fi bd ft fe vs ρ S = (fi ρ S).bind fun t S1 => compL bd ft fe t.chk S1.length (wipeD ρ vs) t.items (S1 ++ [.lst []]) := rfl
@[simp] theorem j_wipe0 : wipeD ρ [] = ρ := rfl
@[simp] theorem j_wipe1 {v : Nat} {vs : List Nat} : wipeD ρ (v :: vs) = (wipeD ρ vs).set v none := rfl
@[simp] theorem j_start {N : Nat} {ds : List D} : startD N ds = ds.map some ++ List.replicate (N - ds.length) none := rfl
/-! truth -/
@[simp] theorem j_bT_bl {b : Bool} : bT (.bl b) S = .ok b S := rfl
@[simp] theorem j_bT_tup {ds : List D} : bT (.tup ds) S = .ok (!ds.isEmpty) S := rfl
/-! operators -/
@[simp] theorem j_sub {i j : Int} : gSub (.int i) (.int j) S = .ok (.int (i - j)) S := by simp [gSub, gI]
@[simp] theorem j_iadd {i j : Int} : gIAdd (.int i) (.int j) S = .ok (.int (i + j)) S := by simp [gIAdd, gI]
@[simp] theorem j_add {i j : Int} : gAdd (.int i) (.int j) S = .ok (.int (i + j)) S := rfl
@[simp] theorem j_neg {i : Int} : gNeg (.int i) S = .ok (.int (-i)) S := rfl
@[simp] theorem j_lt {i j : Int} : gLt (.int i) (.int j) S = .ok (.bl (decide (i < j))) S := by simp [gLt, gI]
@[simp] theorem j_le {i j : Int} : gLe (.int i) (.int j) S = .ok (.bl (decide (i ≤ j))) S := by simp [gLe, gI]
@[simp] theorem j_gt {i j : Int} : gGt (.int i) (.int j) S = .ok (.bl (decide (j < i))) S := by simp [gGt, gI]
@[simp] theorem j_ge {i j : Int} : gGe (.int i) (.int j) S = .ok (.bl (decide (j ≤ i))) S := by simp [gGe, gI]
theorem j_mul {i j : Int} (h : CMul i j) : gMul (.int i) (.int j) S = .ok (.int (i * j)) S := by simp [gMul, gI, h]
theorem j_div {i j : Int} (h : CDiv i j) : gDiv (.int i) (.int j) S = .ok (.int (i / j)) S := by simp [gDiv, gI, h]
theorem j_mod {i j : Int} (h : 0 < j) : gMod (.int i) (.int j) S = .ok (.int (i % j)) S := by simp [gMod, gI, h]
/-! == of leaves -/
theorem py_int {n : Nat} {i : Int} : toPy S n (.int i) = some (.int i) := by cases n <;> rfl
theorem py_bl {n : Nat} {i : Bool} : toPy S n (.bl i) = some (.bool i) := by cases n <;> rfl
theorem py_str {n : Nat} {i : Str} : toPy S n (.str i) = some (.str i) := by cases n <;> rfl
theorem shaped_int {i : Int} : SeqAt.shaped (.int i) = true := by
  unfold SeqAt.shaped PyData.canLay0 PyData.depth
  rfl
theorem shaped_bl {i : Bool} : SeqAt.shaped (.bool i) = true := by
  unfold SeqAt.shaped PyData.canLay0 PyData.depth
  rfl
@[simp] theorem j_eq_int {i j : Int} : gEq (.int i) (.int j) S = .ok (.bl (decide (i = j))) S := by
  unfold gEq
  simp only [py_int, shaped_int, PyData.eqv]
  rfl
@[simp] theorem j_ne_int {i j : Int} : gNe (.int i) (.int j) S = .ok (.bl (!decide (i = j))) S := by
  unfold gNe
  simp only [py_int, shaped_int, PyData.eqv]
  rfl
@[simp] theorem j_eq_bl {i j : Bool} : gEq (.bl i) (.bl j) S = .ok (.bl (i == j)) S := by
  unfold gEq
  simp only [py_bl, shaped_bl, PyData.eqv]
  rfl
@[simp] theorem j_ne_bl {i j : Bool} : gNe (.bl i) (.bl j) S = .ok (.bl (!(i == j))) S := by
  unfold gNe
  simp only [py_bl, shaped_bl, PyData.eqv]
  rfl
/-! calls -/
@[simp] theorem j_int1 {i : Int} : gInt [.int i] S = .ok (.int i) S := rfl
@[simp] theorem j_intb {i : Bool} : gInt [.bl i] S = .ok (.int (if i then 1 else 0)) S := rfl
@[simp] theorem j_abs {i : Int} : gAbs [.int i] S = .ok (.int (if i < 0 then -i else i)) S := rfl
@[simp] theorem j_lenT {ds : List D} : gLen [.tup ds] S = .ok (.int ds.length) S := rfl
@[simp] theorem j_lenR {ds : List D} : gLen [.rls ds] S = .ok (.int ds.length) S := rfl
@[simp] theorem j_min2 {i j : Int} : gMin [.int i, .int j] S = .ok (.int (if j < i then j else i)) S := rfl
@[simp] theorem j_max2 {i j : Int} : gMax [.int i, .int j] S = .ok (.int (if j > i then j else i)) S := rfl
@[simp] theorem j_tupT {ds : List D} : gTuple [.tup ds] S = .ok (.tup ds) S := rfl
@[simp] theorem j_lstT {ds : List D} : gList [.tup ds] S = .ok (.loc S.length) (S ++ [.lst ds]) := rfl
@[simp] theorem j_lstR {ds : List D} : gList [.rls ds] S = .ok (.loc S.length) (S ++ [.lst ds]) := rfl
@[simp] theorem isi_ii {i : Int} : gIsi [.int i, .ty "int"] S = .ok (.bl true) S := by simp only [gIsi, tyName]; rfl
@[simp] theorem isi_ib {i : Int} : gIsi [.int i, .ty "bool"] S = .ok (.bl false) S := by simp only [gIsi, tyName]; rfl
@[simp] theorem isi_bb {i : Bool} : gIsi [.bl i, .ty "bool"] S = .ok (.bl true) S := by simp only [gIsi, tyName]; rfl
@[simp] theorem isi_tt {i : List D} : gIsi [.tup i, .ty "tuple"] S = .ok (.bl true) S := by simp only [gIsi, tyName]; rfl
@[simp] theorem out_ret : (RS.ret d S).out = .ok d S := rfl
@[simp] theorem out_nx : (RS.nx ρ S).out = .ok .non S := rfl
/-! store -/
variable {n : Nat} {ds : List D}
theorem seq_loc (h : S[n]? = some (.lst ds)) : seqOf (.loc n) S = some ds := by simp only [seqOf, h]
theorem lst_loc (h : S[n]? = some (.lst ds)) : lstOf (.loc n) S = some ds := by simp only [lstOf, h]
theorem it_loc (h : S[n]? = some (.lst ds)) : itOf (.loc n) S = .ok ⟨ds, fun S' => S'[n]? = some (.lst ds)⟩ S := by simp only [itOf, h]
theorem len_loc (h : S[n]? = some (.lst ds)) : gLen [.loc n] S = .ok (.int ds.length) S := by simp only [gLen, seq_loc h]
theorem tup_loc (h : S[n]? = some (.lst ds)) : gTuple [.loc n] S = .ok (.tup ds) S := by simp only [gTuple, seq_loc h]
theorem lis_loc (h : S[n]? = some (.lst ds)) : gList [.loc n] S = .ok (.loc S.length) (S ++ [.lst ds]) := by simp only [gList, seq_loc h]
theorem bT_loc (h : S[n]? = some (.lst ds)) : bT (.loc n) S = .ok (!ds.isEmpty) S := by simp only [bT, truB, h]
theorem app_loc (h : S[n]? = some (.lst ds)) (hz : ds.length < sizeLine) : gApp (.loc n) [d] S = .ok .non (S.set n (.lst (ds ++ [d]))) := by simp [gApp, h, hz]
@[simp] theorem get_end {o : Ob} : (S ++ [o])[S.length]? = some o := by simp
end

/-! ### indices -/
section
variable {S : Sto} {ds : List D} {d : D}
theorem ixN_nat {n k : Nat} (h : k < n) : ixN n (k : Int) = some k := by
  unfold ixN
  rw [if_pos (by omega), if_pos (by omega), Int.toNat_natCast]
theorem ixN_last {n : Nat} (h : 0 < n) : ixN n (-1) = some (n - 1) := by
  unfold ixN
  rw [if_neg (by omega), if_pos (by omega)]
  congr 1
  omega
theorem ixN_of {n : Nat} {i : Int} (h0 : 0 ≤ i) (h : i < n) : ixN n i = some i.toNat := by
  unfold ixN
  rw [if_pos h0, if_pos h]
theorem ix_seq {a : D} {i : Int} (h : seqOf a S = some ds) (e : atI ds i = some d) : gIx a (.int i) S = .ok d S := by
  unfold gIx
  rw [h]
  simp only [e]
theorem atI_nat {k : Nat} (h : ds[k]? = some d) : atI ds (k : Int) = some d := by
  have hk := (List.getElem?_eq_some_iff.mp h).1
  unfold atI
  rw [ixN_nat hk]
  exact h
theorem atI_of {i : Int} (h0 : 0 ≤ i) (h : ds[i.toNat]? = some d) : atI ds i = some d := by
  have := atI_nat h
  rwa [Int.toNat_of_nonneg h0] at this
theorem atI_last (h : ds.getLast? = some d) : atI ds (-1) = some d := by
  cases ds with
  | nil => cases h
  | cons x xs =>
    unfold atI
    rw [ixN_last (by simp)]
    rw [List.getLast?_eq_getElem?] at h
    exact h
@[simp] theorem ix_t0 {ds : List D} : gIx (.tup (d :: ds)) (.int 0) S = .ok d S := ix_seq rfl (atI_nat (k := 0) rfl)
@[simp] theorem ix_t1 {x : D} {ds : List D} : gIx (.tup (x :: d :: ds)) (.int 1) S = .ok d S := ix_seq rfl (atI_nat (k := 1) rfl)
@[simp] theorem ix_t2 {x y : D} {ds : List D} : gIx (.tup (x :: y :: d :: ds)) (.int 2) S = .ok d S := ix_seq rfl (atI_nat (k := 2) rfl)
@[simp] theorem ix_t3 {x y z : D} {ds : List D} : gIx (.tup (x :: y :: z :: d :: ds)) (.int 3) S = .ok d S := ix_seq rfl (atI_nat (k := 3) rfl)
end

/-! ### frames -/
/-- what lay in S lies in S', but for the places M -/
def Fx (M : Nat → Prop) (S S' : Sto) : Prop := S.length ≤ S'.length ∧ ∀ n, n < S.length → ¬ M n → S'[n]? = S[n]?
section
variable {M M' : Nat → Prop} {S S1 S2 S' : Sto} {n : Nat} {o o' : Ob}
theorem Fx.refl : Fx M S S := ⟨Nat.le_refl _, fun _ _ _ => rfl⟩
theorem Fx.trans (h1 : Fx M S S1) (h2 : Fx M S1 S2) : Fx M S S2 := ⟨Nat.le_trans h1.1 h2.1, fun n hn hm => (h2.2 n (Nat.lt_of_lt_of_le hn h1.1) hm).trans (h1.2 n hn hm)⟩
theorem Fx.mono (h : Fx M S S') (k : ∀ n, M n → n < S.length → M' n) : Fx M' S S' := ⟨h.1, fun n hn hm => h.2 n hn fun z => hm (k n z hn)⟩
theorem Fx.get (h : Fx M S S') (hm : ¬ M n) (e : S[n]? = some o) : S'[n]? = some o := (h.2 n (List.getElem?_eq_some_iff.mp e).1 hm).trans e
theorem Fx.push (h : Fx M S S') : Fx M S (S' ++ [o]) := ⟨by rw [List.length_append]; exact Nat.le_trans h.1 (Nat.le_add_right _ _), fun n hn hm => by rw [List.getElem?_append_left (Nat.lt_of_lt_of_le hn h.1)]; exact h.2 n hn hm⟩
theorem Fx.set (h : Fx M S S') (k : n < S.length → M n) : Fx M S (S'.set n o) := by
  refine ⟨by rw [List.length_set]; exact h.1, fun m hn hm => ?_⟩
  have : n ≠ m := by
    intro z
    subst z
    exact hm (k hn)
  rw [List.getElem?_set_ne this]
  exact h.2 m hn hm
theorem Fx.one : Fx M S (S ++ [o]) := Fx.refl.push
end
abbrev Pu : Nat → Prop := fun _ => False
abbrev At (s : Nat) : Nat → Prop := fun n => n = s

/-! ### loops -/
@[simp] theorem sq_nx {f g : FS} {ρ ρ1 : En} {S S1 : Sto} (h : f ρ S = .nx ρ1 S1) : sSeq f g ρ S = g ρ1 S1 := by unfold sSeq; rw [h]
@[simp] theorem sq_ret {f g : FS} {ρ : En} {S S1 : Sto} {d : D} (h : f ρ S = .ret d S1) : sSeq f g ρ S = .ret d S1 := by unfold sSeq; rw [h]
section
variable {b : FB} {body : FS} {chk : Sto → Prop} {Q : RS → Prop} {ρ : En} {S : Sto}
theorem ws_for (I : List D → En → Sto → Prop) : ∀ {ds : List D} {ρ : En} {S : Sto}, I ds ρ S → (∀ d ds ρ S, I (d :: ds) ρ S → chk S ∧ ∃ ρ1, b d ρ S = some ρ1 ∧ WS (body ρ1 S) (bodyK (I ds) Q)) → (∀ ρ S, I [] ρ S → chk S ∧ WS (.nx ρ S) Q) →
    WS (forL b body chk ds ρ S) Q
  | [], ρ, S, h0, hs, he => by
    obtain ⟨h1, h2⟩ := he ρ S h0
    rw [forL, if_pos h1]
    exact h2
  | d :: ds, ρ, S, h0, hs, he => by
    obtain ⟨h1, ρ1, h2, h3⟩ := hs d ds ρ S h0
    rw [forL, if_pos h1, h2]
    show WS (match body ρ1 S with
        | .nx ρ' S' => forL b body chk ds ρ' S'
        | .cnt ρ' S' => forL b body chk ds ρ' S'
        | .brk ρ' S' => .nx ρ' S'
        | r => r) Q
    cases h : body ρ1 S with
    | nx ρ' S' => rw [h] at h3; exact ws_for I h3 hs he
    | cnt ρ' S' => rw [h] at h3; exact ws_for I h3 hs he
    | brk ρ' S' => rw [h] at h3; exact h3
    | ret d S' => rw [h] at h3; exact h3
    | exc c ρ' S' => rw [h] at h3; exact h3
    | no => rw [h] at h3; exact h3
/-- over coded items -/
theorem ws_forE {α : Type} {enc : α → D} (I : List α → En → Sto → Prop) {xs : List α} (h0 : I xs ρ S) (hs : ∀ x xs ρ S, I (x :: xs) ρ S → chk S ∧ ∃ ρ1, b (enc x) ρ S = some ρ1 ∧ WS (body ρ1 S) (bodyK (I xs) Q)) (he : ∀ ρ S, I [] ρ S → chk S ∧ WS (.nx ρ S) Q) :
    WS (forL b body chk (xs.map enc) ρ S) Q := by
  refine ws_for (fun ds ρ S => ∃ xs, ds = xs.map enc ∧ I xs ρ S) ⟨xs, rfl, h0⟩ (fun d ds ρ S ⟨ys, e, h⟩ => ?_) fun ρ S ⟨ys, e, h⟩ => ?_
  · cases ys with
    | nil => cases e
    | cons y ys =>
      cases e
      obtain ⟨h1, ρ1, h2, h3⟩ := hs y ys ρ S h
      refine ⟨h1, ρ1, h2, ?_⟩
      unfold WS bodyK at h3 ⊢
      split at h3
      · exact ⟨ys, rfl, h3⟩
      · exact ⟨ys, rfl, h3⟩
      · exact h3
      · exact h3
  · cases ys with
    | nil => exact he ρ S h
    | cons y ys => cases e
variable {ft : FT} {fe : FE} {n : Nat}
theorem ev_comp {P : D → Sto → Prop} (I : List D → List D → Sto → Prop) : ∀ {ds acc : List D} {S : Sto}, S[n]? = some (.lst acc) → I ds acc S →
    (∀ d ds acc S, I (d :: ds) acc S → S[n]? = some (.lst acc) → chk S ∧ ∃ ρ1, b d ρ S = some ρ1 ∧ Ev (ft ρ1 S) fun k S1 => if k = true then Ev (fe ρ1 S1) fun y S2 => S2[n]? = some (.lst acc) ∧ acc.length < sizeLine ∧ I ds (acc ++ [y]) (S2.set n (.lst (acc ++ [y])))
      else S1[n]? = some (.lst acc) ∧ I ds acc S1) →
    (∀ acc S, I [] acc S → S[n]? = some (.lst acc) → chk S ∧ P (.loc n) S) → Ev (compL b ft fe chk n ρ ds S) P
  | [], acc, S, h0, hi, hs, he => by
    obtain ⟨h1, h2⟩ := he acc S hi h0
    rw [compL, if_pos h1]
    exact h2
  | d :: ds, acc, S, h0, hi, hs, he => by
    obtain ⟨h1, ρ1, h2, h3⟩ := hs d ds acc S hi h0
    rw [compL, if_pos h1, h2]
    refine h3.nbind fun k S1 h4 => ?_
    cases k with
    | true =>
      rw [if_pos rfl] at h4 ⊢
      refine h4.nbind fun y S2 ⟨h5, h6, h7⟩ => ?_
      have hl : n < S2.length := (List.getElem?_eq_some_iff.mp h5).1
      unfold lcPut
      rw [h5]
      simp only [if_pos h6, R.bind_ok]
      exact ev_comp I (by rw [List.getElem?_set_self hl]) h7 hs he
    | false =>
      rw [if_neg Bool.false_ne_true] at h4 ⊢
      exact ev_comp I h4.1 h4.2 hs he
/-- a comprehension of known items, filter and values, that leaves the store but for M -/
theorem ev_compG {α : Type} {enc : α → D} {P : D → Sto → Prop} (M : Nat → Prop) (p : α → Bool) (g : α → D) {xs : List α} (hchk : ∀ S', Fx M S S' → chk S') (hM : ¬ M S.length) (hz : xs.length < sizeLine)
    (hs : ∀ x ∈ xs, ∀ S', Fx M S S' → ∃ ρ1, b (enc x) ρ S' = some ρ1 ∧ Ev (ft ρ1 S') fun k S1 => k = p x ∧ Fx M S' S1 ∧ (p x = true → Ev (fe ρ1 S1) fun y S2 => y = g x ∧ Fx M S1 S2))
    (he : ∀ S', Fx M S S' → S'[S.length]? = some (.lst ((xs.filter p).map g)) → P (.loc S.length) S') :
    Ev (compL b ft fe chk S.length ρ (xs.map enc) (S ++ [.lst []])) P := by
  refine ev_comp (fun ds acc S' => ∃ dn rs, xs = dn ++ rs ∧ ds = rs.map enc ∧ acc = (dn.filter p).map g ∧ Fx M S S') get_end ⟨[], xs, rfl, rfl, rfl, Fx.one⟩ (fun d ds acc S' ⟨dn, rs, e1, e2, e3, hf⟩ h0 => ?_) fun acc S' ⟨dn, rs, e1, e2, e3, hf⟩ h0 => ?_
  · cases rs with
    | nil => cases e2
    | cons x rs =>
      cases e2
      refine ⟨hchk S' hf, ?_⟩
      obtain ⟨ρ1, h1, h2⟩ := hs x (by rw [e1]; simp) S' hf
      refine ⟨ρ1, h1, h2.imp fun k S1 ⟨h3, h4, h5⟩ => ?_⟩
      subst h3
      have hl : acc.length ≤ dn.length := by rw [e3, List.length_map]; exact List.length_filter_le _ _
      have hl2 : dn.length < xs.length := by rw [e1]; simp
      cases hp : p x with
      | true =>
        rw [if_pos rfl]
        refine (h5 hp).imp fun y S2 ⟨h6, h7⟩ => ⟨h7.get hM (h4.get hM h0), by omega, dn ++ [x], rs, by rw [e1]; simp, rfl, ?_, ((hf.trans h4).trans h7).set fun z => absurd z (Nat.lt_irrefl _)⟩
        rw [e3, h6]
        simp [hp]
      | false =>
        rw [if_neg Bool.false_ne_true]
        refine ⟨h4.get hM h0, dn ++ [x], rs, by rw [e1]; simp, rfl, ?_, hf.trans h4⟩
        rw [e3]
        simp [hp]
  · have : rs = [] := by cases rs with
      | nil => rfl
      | cons => cases e2
    subst this
    refine ⟨hchk S' hf, he S' hf ?_⟩
    rw [h0, e3, e1, List.append_nil]
/-- .. no filter -/
theorem ev_compM {α : Type} {enc : α → D} {P : D → Sto → Prop} (M : Nat → Prop) (g : α → D) {xs : List α} (hchk : ∀ S', Fx M S S' → chk S') (hM : ¬ M S.length) (hz : xs.length < sizeLine)
    (hs : ∀ x ∈ xs, ∀ S', Fx M S S' → ∃ ρ1, b (enc x) ρ S' = some ρ1 ∧ Ev (fe ρ1 S') fun y S2 => y = g x ∧ Fx M S' S2)
    (he : ∀ S', Fx M S S' → S'[S.length]? = some (.lst (xs.map g)) → P (.loc S.length) S') :
    Ev (compL b tYesD fe chk S.length ρ (xs.map enc) (S ++ [.lst []])) P :=
  ev_compG M (fun _ => true) g hchk hM hz (fun x hx S' hf => by
    obtain ⟨ρ1, h1, h2⟩ := hs x hx S' hf
    exact ⟨ρ1, h1, rfl, Fx.refl, fun _ => h2⟩) fun S' hf h => he S' hf (by rw [h, List.filter_eq_self.mpr fun _ _ => rfl])
end

/-! ### the same, with the rest kept shut -/
structure BK (I : En → Sto → Prop) (Q K : RS → Prop) : Prop where
  nx : ∀ ρ S, I ρ S → WS (.nx ρ S) K
  cnt : ∀ ρ S, I ρ S → WS (.cnt ρ S) K
  brk : ∀ ρ S, WS (.nx ρ S) Q → WS (.brk ρ S) K
  ret : ∀ d S, WS (.ret d S) Q → WS (.ret d S) K
section
variable {b : FB} {body : FS} {chk : Sto → Prop} {Q : RS → Prop} {ρ ρ' : En} {S : Sto} {ds : List D} {k : D → Sto → RS} {kk : D → Sto → R D}
theorem bk_self {I : En → Sto → Prop} : BK I Q (bodyK I Q) := ⟨fun _ _ h => h, fun _ _ h => h, fun _ _ h => h, fun _ _ h => h⟩
theorem ws_forK {α : Type} {enc : α → D} (I : List α → En → Sto → Prop) {xs : List α} (h0 : I xs ρ S) (hs : ∀ x xs ρ S, I (x :: xs) ρ S → chk S ∧ ∃ ρ1, b (enc x) ρ S = some ρ1 ∧ ∀ K, BK (I xs) Q K → WS (body ρ1 S) K) (he : ∀ ρ S, I [] ρ S → chk S ∧ WS (.nx ρ S) Q) :
    WS (forL b body chk (xs.map enc) ρ S) Q :=
  ws_forE I h0 (fun x xs ρ S h => by
    obtain ⟨h1, ρ1, h2, h3⟩ := hs x xs ρ S h
    exact ⟨h1, ρ1, h2, h3 _ bk_self⟩) he
theorem ev_runK {n : Nat} {P : D → Sto → Prop} (h : ∀ K, (∀ d S, P d S → WS (.ret d S) K) → (∀ ρ S, P .non S → WS (.nx ρ S) K) → WS (body (startD n ds) S) K) : Ev (runF n body ds S) P :=
  h (Rt P) (fun _ _ h => h) fun _ _ h => h
variable {fe : FE} {ft : FT}
theorem ws_compM {α : Type} {enc : α → D} (M : Nat → Prop) (g : α → D) {xs : List α} (hchk : ∀ S', Fx M S S' → chk S') (hM : ¬ M S.length) (hz : xs.length < sizeLine)
    (hs : ∀ x ∈ xs, ∀ S', Fx M S S' → ∃ ρ1, b (enc x) ρ S' = some ρ1 ∧ Ev (fe ρ1 S') fun y S2 => y = g x ∧ Fx M S' S2)
    (he : ∀ S', Fx M S S' → S'[S.length]? = some (.lst (xs.map g)) → WS (k (.loc S.length) S') Q) :
    WS ((compL b tYesD fe chk S.length ρ (xs.map enc) (S ++ [.lst []])).toS ρ' k) Q :=
  Ev.ws (ev_compM M g hchk hM hz hs (P := fun r S' => r = .loc S.length ∧ Fx M S S' ∧ S'[S.length]? = some (.lst (xs.map g))) fun S' h1 h2 => ⟨rfl, h1, h2⟩) fun a S' ⟨h1, h2, h3⟩ => by
    subst h1
    exact he S' h2 h3
theorem eb_compM {α : Type} {enc : α → D} {P : D → Sto → Prop} (M : Nat → Prop) (g : α → D) {xs : List α} (hchk : ∀ S', Fx M S S' → chk S') (hM : ¬ M S.length) (hz : xs.length < sizeLine)
    (hs : ∀ x ∈ xs, ∀ S', Fx M S S' → ∃ ρ1, b (enc x) ρ S' = some ρ1 ∧ Ev (fe ρ1 S') fun y S2 => y = g x ∧ Fx M S' S2)
    (he : ∀ S', Fx M S S' → S'[S.length]? = some (.lst (xs.map g)) → Ev (kk (.loc S.length) S') P) :
    Ev ((compL b tYesD fe chk S.length ρ (xs.map enc) (S ++ [.lst []])).bind kk) P :=
  Ev.bind (ev_compM M g hchk hM hz hs (P := fun r S' => r = .loc S.length ∧ Fx M S S' ∧ S'[S.length]? = some (.lst (xs.map g))) fun S' h1 h2 => ⟨rfl, h1, h2⟩) fun a S' ⟨h1, h2, h3⟩ => by
    subst h1
    exact he S' h2 h3
theorem ws_compG {α : Type} {enc : α → D} (M : Nat → Prop) (p : α → Bool) (g : α → D) {xs : List α} (hchk : ∀ S', Fx M S S' → chk S') (hM : ¬ M S.length) (hz : xs.length < sizeLine)
    (hs : ∀ x ∈ xs, ∀ S', Fx M S S' → ∃ ρ1, b (enc x) ρ S' = some ρ1 ∧ Ev (ft ρ1 S') fun k S1 => k = p x ∧ Fx M S' S1 ∧ (p x = true → Ev (fe ρ1 S1) fun y S2 => y = g x ∧ Fx M S1 S2))
    (he : ∀ S', Fx M S S' → S'[S.length]? = some (.lst ((xs.filter p).map g)) → WS (k (.loc S.length) S') Q) :
    WS ((compL b ft fe chk S.length ρ (xs.map enc) (S ++ [.lst []])).toS ρ' k) Q :=
  Ev.ws (ev_compG M p g hchk hM hz hs (P := fun r S' => r = .loc S.length ∧ Fx M S S' ∧ S'[S.length]? = some (.lst ((xs.filter p).map g))) fun S' h1 h2 => ⟨rfl, h1, h2⟩) fun a S' ⟨h1, h2, h3⟩ => by
    subst h1
    exact he S' h2 h3
@[simp] theorem fx_refl {M : Nat → Prop} : Fx M S S := Fx.refl
@[simp] theorem yes_t : yes S := trivial
end

/-! ### for k in dict -/
def unQ (n : Nat) (o : Ob) (Q : RS → Prop) : RS → Prop := fun r => match r with
  | .nx ρ S => WS (.nx ρ (S.set n o)) Q
  | .brk ρ S => WS (.brk ρ (S.set n o)) Q
  | .cnt ρ S => WS (.cnt ρ (S.set n o)) Q
  | .ret d S => WS (.ret d (S.set n o)) Q
  | _ => False
@[simp] theorem un_nx {n : Nat} {o : Ob} {Q : RS → Prop} {ρ : En} {S : Sto} : WS (.nx ρ S) (unQ n o Q) ↔ WS (.nx ρ (S.set n o)) Q := Iff.rfl
theorem ws_unlk {n : Nat} {o : Ob} {r : RS} {Q : RS → Prop} (h : WS r (unQ n o Q)) : WS (unlk n o r) Q := by
  cases r <;> first | exact h | exact h.elim
theorem ws_forDict {n : Nat} {kvs : List (L2.Key × D)} {fo : FE} {b : FB} {body : FS} {ρ : En} {S : Sto} {Q : RS → Prop} (h1 : fo ρ S = .ok (.loc n) S) (h2 : S[n]? = some (.dK kvs)) (h3 : fo ρ (S.set n (.lk (.dK kvs))) = .ok (.loc n) (S.set n (.lk (.dK kvs))))
    (h : WS (forL b body (fun S' => S'[n]? = some (.lk (.dK kvs))) (kvs.map fun kv => kD kv.1) ρ (S.set n (.lk (.dK kvs)))) (unQ n (.dK kvs) Q)) : WS (sForK fo b body ρ S) Q := by
  unfold sForK
  rw [h1]
  simp only [h2, h3, if_pos]
  exact ws_unlk h
theorem range_split {n x : Nat} {dn rem : List Nat} (h : List.range n = dn ++ x :: rem) : x = dn.length ∧ x < n := by
  have e : (List.range n)[dn.length]? = some x := by rw [h]; simp
  have hl := (List.getElem?_eq_some_iff.mp e).1
  rw [List.getElem?_range (by simpa using hl)] at e
  have : dn.length = x := Option.some.inj e
  rw [List.length_range] at hl
  omega

theorem ws_mid {f g : FS} {ρ : En} {S : Sto} {Q : RS → Prop} (Mid : En → Sto → Prop) (h : ∀ K, (∀ ρ1 S1, Mid ρ1 S1 → WS (.nx ρ1 S1) K) → WS (f ρ S) K) (k : ∀ ρ1 S1, Mid ρ1 S1 → WS (g ρ1 S1) Q) : WS (f ρ S) (seqK g Q) :=
  h _ fun ρ1 S1 m => k ρ1 S1 m
theorem ws_midR {g : FS} {r : RS} {Q : RS → Prop} (Mid : En → Sto → Prop) (h : ∀ K, (∀ ρ1 S1, Mid ρ1 S1 → WS (.nx ρ1 S1) K) → WS r K) (k : ∀ ρ1 S1, Mid ρ1 S1 → WS (g ρ1 S1) Q) : WS r (seqK g Q) :=
  h _ fun ρ1 S1 m => k ρ1 S1 m
/-! ### encoded lists -/
section
variable {S : Sto} {n m : Nat} {ds xs ys : List D} {ns : List Int} {bs : List Bool}
theorem ints_map : ∀ ns : List Int, intsOf (ns.map D.int) = some ns
  | [] => rfl
  | n :: ns => by rw [List.map_cons, intsOf, ints_map ns]; rfl
theorem bls_map : ∀ ns : List Bool, blsOf (ns.map D.bl) = some ns
  | [] => rfl
  | n :: ns => by rw [List.map_cons, blsOf, bls_map ns]; rfl
theorem all_loc (h : S[n]? = some (.lst (bs.map .bl))) : gAll [.loc n] S = .ok (.bl (bs.all id)) S := by simp only [gAll, lst_loc h, bls_map]
theorem any_loc (h : S[n]? = some (.lst (bs.map .bl))) : gAny [.loc n] S = .ok (.bl (bs.any id)) S := by simp only [gAny, lst_loc h, bls_map]
theorem min_loc {k : Int} (h : S[n]? = some (.lst ((k :: ns).map .int))) : gMin [.loc n] S = .ok (.int (minI k ns)) S := by simp only [gMin, lst_loc h, ints_map]
theorem max_loc {k : Int} (h : S[n]? = some (.lst ((k :: ns).map .int))) : gMax [.loc n] S = .ok (.int (maxI k ns)) S := by simp only [gMax, lst_loc h, ints_map]
theorem sort_loc (h : S[n]? = some (.lst (ns.map .int))) : gSorted [.loc n] S = .ok (.loc S.length) (S ++ [.lst ((sortI ns).map .int)]) := by simp only [gSorted, lst_loc h, ints_map]
theorem ext_loc (h1 : S[n]? = some (.lst xs)) (h2 : S[m]? = some (.lst ys)) (hz : xs.length + ys.length ≤ sizeLine) : gExt (.loc n) [.loc m] S = .ok .non (S.set n (.lst (xs ++ ys))) := by simp [gExt, h1, h2, hz]
@[simp] theorem j_rgL2 {f g : FE} {ρ : En} : eRgL2 f g ρ S = (f ρ S).bind fun d S1 => (g ρ S1).bind fun e S2 => match d, e with
  | .int i, .int j => gRgL i j S2
  | _, _ => .no := rfl
theorem rgL {a b : Int} (h : RgOk a b) : gRgL a b S = .ok (.loc S.length) (S ++ [.lst (rngD a (b - a).toNat)]) := by unfold gRgL; rw [if_pos h]
theorem zip_map {α β : Type} {f : α → D} {g : β → D} : ∀ (as : List α) (bs : List β), zipD (as.map f) (bs.map g) = (as.zip bs).map fun p => .tup [f p.1, g p.2]
  | [], _ => rfl
  | _ :: _, [] => rfl
  | a :: as, b :: bs => by
    rw [List.map_cons, List.map_cons, zipD, zip_map as bs]
    rfl
theorem cut1 : cutD ds (some 1) none = ds.drop 1 := by
  unfold cutD
  have e : HT.sIx ds.length 0 (some 1) = min 1 ds.length := HT.sIx_nat _ _ 1
  rw [e]
  show (ds.drop (min 1 ds.length)).take (ds.length - min 1 ds.length) = ds.drop 1
  cases ds with
  | nil => rfl
  | cons a l => simp
@[simp] theorem sl1 : gSl (.tup ds) (some 1) none S = .ok (.tup (ds.drop 1)) S := by simp only [gSl, cut1]
open Classical in
noncomputable def rg1 (d : D) (S : Sto) : R DIt := match d with
  | .int j => if -(2 ^ 62) ≤ j ∧ j < 2 ^ 62 then .ok ⟨rngD 0 j.toNat, yes⟩ S else .no
  | _ => .no
open Classical in
noncomputable def rg2 (d e : D) (S : Sto) : R DIt := match d, e with
  | .int i, .int j => if -(2 ^ 62) ≤ i ∧ i < 2 ^ 62 ∧ -(2 ^ 62) ≤ j ∧ j < 2 ^ 62 then .ok ⟨rngD i (j - i).toNat, yes⟩ S else .no
  | _, _ => .no
@[simp] theorem j_iR1 {f : FE} {ρ : En} : iR1 f ρ S = (f ρ S).bind rg1 := id rfl
@[simp] theorem j_iR2 {f g : FE} {ρ : En} : iR2 f g ρ S = (f ρ S).bind fun d S1 => (g ρ S1).bind fun e S2 => rg2 d e S2 := id rfl
theorem rngD0 {n : Nat} : rngD 0 n = (List.range n).map fun k => D.int ((k : Nat) : Int) := by
  unfold rngD
  refine List.map_congr_left fun k _ => ?_
  rw [Int.zero_add]
theorem rg1_of {j : Int} (h0 : -1000000 ≤ j) (h : j ≤ 1000000) : rg1 (.int j) S = .ok ⟨(List.range j.toNat).map fun k => D.int ((k : Nat) : Int), yes⟩ S := by
  unfold rg1
  rw [← rngD0]
  simp only
  exact if_pos ⟨by omega, by omega⟩
theorem rg2_of {i j : Int} (h0 : -1000000 ≤ i) (h : i ≤ 1000000) (h2 : -1000000 ≤ j) (h3 : j ≤ 1000000) : rg2 (.int i) (.int j) S = .ok ⟨rngD i (j - i).toNat, yes⟩ S := by
  unfold rg2
  simp only
  exact if_pos ⟨by omega, by omega, by omega, by omega⟩
/-! dicts -/
section
variable {kvs : List (L2.Key × D)} {v : Int} {d : D}
theorem key_int : keyD (.int v) = some (.inl v) := rfl
theorem notIn_dict (h : S[n]? = some (.dK kvs)) : gNotIn (.int v) (.loc n) S = .ok (.bl (!(getK kvs (.inl v)).isSome)) S := by
  simp [gNotIn, inB, toPy, dictAt, h, Ob.un, keyD]
theorem in_dict (h : S[n]? = some (.dK kvs)) : gIn (.int v) (.loc n) S = .ok (.bl (getK kvs (.inl v)).isSome) S := by
  simp [gIn, inB, toPy, dictAt, h, Ob.un, keyD]
theorem ix_dict' (h : (S[n]?).map Ob.un = some (.dK kvs)) (hs : seqOf (.loc n) S = none) (e : getK kvs (.inl v) = some d) : gIx (.loc n) (.int v) S = .ok d S := by
  simp [gIx, hs, dictAt, h, keyD, e]
theorem ix_dK (h : S[n]? = some (.dK kvs)) (e : getK kvs (.inl v) = some d) : gIx (.loc n) (.int v) S = .ok d S := ix_dict' (by simp [h, Ob.un]) (by simp [seqOf, h]) e
theorem set_dK (h : S[n]? = some (.dK kvs)) (hz : kvs.length < sizeLine) : gSet (.loc n) (.int v) d S = .ok () (S.set n (.dK (setK kvs (.inl v) d))) := by
  simp [gSet, h, keyD, hz]
theorem set_lst {ds : List D} {k : Nat} (h : S[n]? = some (.lst ds)) (hk : k < ds.length) : gSet (.loc n) (.int (k : Nat)) d S = .ok () (S.set n (.lst (ds.set k d))) := by
  have e : ixN ds.length (k : Int) = some k := by
    unfold ixN
    rw [if_pos (by omega), if_pos (by omega), Int.toNat_natCast]
  simp [gSet, h, e]
theorem fld1 {f : Str} {c : Nat} {fs : List (Str × D)} (h : S[n]? = some (.ins c fs)) (e : getK fs f = some d) : gFld c f (.loc n) S = .ok d S := by
  simp [gFld, h, e]
theorem put1 {f : Str} {c : Nat} {fs : List (Str × D)} (h : S[n]? = some (.ins c fs)) (hz : fs.length < 1000) : gPut c f (.loc n) d S = .ok () (S.set n (.ins c (putD f d fs))) := by
  simp [gPut, h, hz]
theorem ins1 {f : Str} {c : Nat} {fs : List (Str × D)} (h : S[n]? = some (.ins c fs)) (e : getK fs f = none) : insOk c f (.loc n) S = true := by
  simp [insOk, h, e]
@[simp] theorem j_fldD {c : Nat} {nm : Str} {fo fv : FE} {ρ : En} : sFldD c nm fo fv ρ S = (fv ρ S).toS ρ fun d S1 => (fo ρ S1).toS ρ fun o S2 => (gPut c nm o d S2).toS ρ fun _ S3 => .nx ρ S3 := rfl
end
@[simp] theorem chk_yes : (DIt.mk ds yes).chk = yes := rfl
end
end DS

/-! FdM: finite domains, sums, matchings: the plain mathematics (no program in sight). -/
namespace Fd
open PySem L2 DS

/-! ### domains -/
abbrev Dom := List (Int × Int)
def rng (a b : Int) : List Int := (List.range (b + 1 - a).toNat).map fun k => a + (k : Nat)
theorem mem_rng {a b v : Int} : v ∈ rng a b ↔ a ≤ v ∧ v ≤ b := by
  unfold rng
  rw [List.mem_map]
  constructor
  · rintro ⟨k, hk, rfl⟩
    rw [List.mem_range] at hk
    omega
  · rintro ⟨h1, h2⟩
    exact ⟨(v - a).toNat, List.mem_range.mpr (by omega), by omega⟩
theorem len_rng {a b : Int} : (rng a b).length = (b + 1 - a).toNat := by simp [rng]
def vals (d : Dom) : List Int := d.flatMap fun p => rng p.1 p.2
theorem mem_vals {d : Dom} {v : Int} : v ∈ vals d ↔ ∃ p ∈ d, p.1 ≤ v ∧ v ≤ p.2 := by
  unfold vals
  rw [List.mem_flatMap]
  exact ⟨fun ⟨p, h, k⟩ => ⟨p, h, mem_rng.mp k⟩, fun ⟨p, h, k⟩ => ⟨p, h, mem_rng.mpr k⟩⟩
/-- a domain as the library wants it -/
structure WD (d : Dom) : Prop where
  rg : ∀ p ∈ d, -50 ≤ p.1 ∧ p.1 ≤ p.2 ∧ p.2 ≤ 50
  gap : d.Pairwise fun a b => a.2 + 1 < b.1
theorem WD.nil : WD [] := ⟨fun _ h => (nomatch h), List.Pairwise.nil⟩
theorem WD.tail {p : Int × Int} {d : Dom} (h : WD (p :: d)) : WD d := ⟨fun q hq => h.rg q (List.mem_cons_of_mem _ hq), (List.pairwise_cons.mp h.gap).2⟩
theorem WD.snoc {d : Dom} {p : Int × Int} (h : WD d) (h1 : -50 ≤ p.1 ∧ p.1 ≤ p.2 ∧ p.2 ≤ 50) (h2 : ∀ q ∈ d, q.2 + 1 < p.1) : WD (d ++ [p]) := by
  refine ⟨fun q hq => ?_, ?_⟩
  · rcases List.mem_append.mp hq with hq | hq
    · exact h.rg q hq
    · rw [List.mem_singleton] at hq
      subst hq
      exact h1
  · rw [List.pairwise_append]
    refine ⟨h.gap, List.pairwise_singleton _ _, fun a ha b hb => ?_⟩
    rw [List.mem_singleton] at hb
    subst hb
    exact h2 a ha
theorem WD.init {d : Dom} {p : Int × Int} (h : WD (d ++ [p])) : WD d ∧ (-50 ≤ p.1 ∧ p.1 ≤ p.2 ∧ p.2 ≤ 50) ∧ ∀ q ∈ d, q.2 + 1 < p.1 := by
  have h2 := List.pairwise_append.mp h.gap
  exact ⟨⟨fun q hq => h.rg q (List.mem_append_left _ hq), h2.1⟩, h.rg p (by simp), fun q hq => h2.2.2 q hq p (by simp)⟩
theorem WD.small {d : Dom} (h : WD d) : d.length ≤ 101 := by
  -- the lower ends are distinct ints from -50 to 50
  have nd : (d.map (·.1)).Nodup := by
    unfold List.Nodup
    rw [List.pairwise_map]
    refine (List.Pairwise.and_mem.mp h.gap).imp fun {a b} ⟨ha, hb, hg⟩ => ?_
    have := (h.rg a ha).2.1
    omega
  have hs : ∀ x ∈ d.map (·.1), x ∈ rng (-50) 50 := fun x hx => by
    obtain ⟨p, hp, rfl⟩ := List.mem_map.mp hx
    have := h.rg p hp
    exact mem_rng.mpr ⟨by omega, by omega⟩
  have := nodup_len_le nd hs
  rw [List.length_map, len_rng] at this
  omega
theorem WD.vlen {d : Dom} (h : WD d) : (vals d).length ≤ 101 := by
  have nd : (vals d).Nodup := by
    unfold vals
    have : ∀ {d : Dom}, WD d → (d.flatMap fun p => rng p.1 p.2).Nodup := by
      intro d
      induction d with
      | nil => intro _; exact List.nodup_nil
      | cons p d ih =>
        intro h
        rw [List.flatMap_cons, List.nodup_append]
        refine ⟨?_, ih h.tail, fun a ha b hb e => ?_⟩
        · unfold rng List.Nodup
          rw [List.pairwise_map]
          exact List.nodup_range.imp fun {a b} hne z => hne (by omega)
        · subst e
          obtain ⟨q, hq, h2⟩ := mem_vals.mp (show a ∈ vals d from hb)
          have h1 := mem_rng.mp ha
          have := (List.pairwise_cons.mp h.gap).1 q hq
          omega
    exact this h
  have hs : ∀ x ∈ vals d, x ∈ rng (-50) 50 := fun x hx => by
    obtain ⟨p, hp, h2⟩ := mem_vals.mp hx
    have := h.rg p hp
    exact mem_rng.mpr ⟨by omega, by omega⟩
  have := nodup_len_le nd hs
  rw [len_rng] at this
  omega
theorem WD.vrg {d : Dom} (h : WD d) {v : Int} (hv : v ∈ vals d) : -50 ≤ v ∧ v ≤ 50 := by
  obtain ⟨p, hp, h2⟩ := mem_vals.mp hv
  have := h.rg p hp
  omega
/-! the ends -/
def lo (d : Dom) : Int := (d.headD (0, 0)).1
def hi (d : Dom) : Int := (d.getLastD (0, 0)).2
theorem rng_head {a b : Int} (h : a ≤ b) : (rng a b).head? = some a := by
  unfold rng
  obtain ⟨k, e⟩ : ∃ k, (b + 1 - a).toNat = k + 1 := ⟨(b - a).toNat, by omega⟩
  rw [e, List.range_succ_eq_map]
  simp
theorem rng_last {a b : Int} (h : a ≤ b) : (rng a b).getLast? = some b := by
  unfold rng
  obtain ⟨k, e⟩ : ∃ k, (b + 1 - a).toNat = k + 1 := ⟨(b - a).toNat, by omega⟩
  rw [e, List.range_succ]
  simp
  omega
theorem vals_nil {d : Dom} (h : WD d) : vals d = [] ↔ d = [] := by
  constructor
  · intro e
    cases d with
    | nil => rfl
    | cons p d =>
      have : p.1 ∈ vals (p :: d) := mem_vals.mpr ⟨p, List.mem_cons_self, Int.le_refl _, (h.rg p List.mem_cons_self).2.1⟩
      rw [e] at this
      cases this
  · intro e
    subst e
    rfl
theorem vals_head {d : Dom} (h : WD d) (hn : d ≠ []) : (vals d).head? = some (lo d) := by
  cases d with
  | nil => exact absurd rfl hn
  | cons p d =>
    have := rng_head (h.rg p List.mem_cons_self).2.1
    show (rng p.1 p.2 ++ vals d).head? = some p.1
    rw [List.head?_append, this]
    rfl
theorem vals_last {d : Dom} (h : WD d) (hn : d ≠ []) : (vals d).getLast? = some (hi d) := by
  obtain ⟨i, p, rfl⟩ : ∃ i p, d = i ++ [p] := ⟨d.dropLast, d.getLast hn, (List.dropLast_concat_getLast hn).symm⟩
  have := rng_last (h.rg p (by simp)).2.1
  unfold vals hi
  rw [List.flatMap_append, List.getLast?_append]
  simp [this]
theorem vals_ge {d : Dom} (h : WD d) {v : Int} (hv : v ∈ vals d) : lo d ≤ v := by
  cases d with
  | nil => cases hv
  | cons p d =>
    obtain ⟨q, hq, h2⟩ := mem_vals.mp hv
    show p.1 ≤ v
    rcases List.mem_cons.mp hq with e | hq
    · subst e; exact h2.1
    · have := (List.pairwise_cons.mp h.gap).1 q hq
      have := (h.rg p List.mem_cons_self).2.1
      omega
theorem vals_le {d : Dom} (h : WD d) {v : Int} (hv : v ∈ vals d) : v ≤ hi d := by
  have hn : d ≠ [] := by
    intro e
    subst e
    cases hv
  obtain ⟨i, p, rfl⟩ : ∃ i p, d = i ++ [p] := ⟨d.dropLast, d.getLast hn, (List.dropLast_concat_getLast hn).symm⟩
  obtain ⟨q, hq, h2⟩ := mem_vals.mp hv
  obtain ⟨h3, h4, h5⟩ := h.init
  have e : hi (i ++ [p]) = p.2 := by unfold hi; simp
  rw [e]
  rcases List.mem_append.mp hq with hq | hq
  · have := h5 q hq
    have := h4.2.1
    omega
  · rw [List.mem_singleton] at hq
    subst hq
    exact h2.2
theorem minI_le : ∀ (ns : List Int) (m x : Int), (x = m ∨ x ∈ ns) → minI m ns ≤ x
  | [], m, x, h => by
    rcases h with h | h
    · subst h; exact Int.le_refl _
    · cases h
  | n :: ns, m, x, h => by
    unfold minI
    have key : ∀ y, (y = (if n < m then n else m) ∨ y ∈ ns) → minI (if n < m then n else m) ns ≤ y := fun y hy => minI_le ns _ y hy
    have h0 := key _ (.inl rfl)
    rcases h with h | h
    · subst h
      split at h0 <;> (try split) <;> omega
    · rcases List.mem_cons.mp h with h | h
      · subst h
        split at h0 <;> (try split) <;> omega
      · exact key x (.inr h)
theorem maxI_ge : ∀ (ns : List Int) (m x : Int), (x = m ∨ x ∈ ns) → x ≤ maxI m ns
  | [], m, x, h => by
    rcases h with h | h
    · subst h; exact Int.le_refl _
    · cases h
  | n :: ns, m, x, h => by
    unfold maxI
    have key : ∀ y, (y = (if m < n then n else m) ∨ y ∈ ns) → y ≤ maxI (if m < n then n else m) ns := fun y hy => maxI_ge ns _ y hy
    have h0 := key _ (.inl rfl)
    rcases h with h | h
    · subst h
      split at h0 <;> (try split) <;> omega
    · rcases List.mem_cons.mp h with h | h
      · subst h
        split at h0 <;> (try split) <;> omega
      · exact key x (.inr h)
theorem minI_mem' (ns : List Int) (m : Int) : minI m ns ∈ m :: ns := by
  rcases minI_mem ns m with h | h
  · rw [h]; exact List.mem_cons_self
  · exact List.mem_cons_of_mem _ h
theorem maxI_mem' (ns : List Int) (m : Int) : maxI m ns ∈ m :: ns := by
  rcases maxI_mem ns m with h | h
  · rw [h]; exact List.mem_cons_self
  · exact List.mem_cons_of_mem _ h
theorem vals_min {d : Dom} (h : WD d) {n : Int} {ns : List Int} (e : vals d = n :: ns) : minI n ns = lo d := by
  have hn : d ≠ [] := by intro z; rw [z] at e; cases e
  have h1 := minI_mem' ns n
  rw [← e] at h1
  have h2 := vals_ge h h1
  have h3 : lo d ∈ vals d := List.mem_of_mem_head? (vals_head h hn)
  rw [e] at h3
  have := minI_le ns n _ (List.mem_cons.mp h3)
  omega
theorem vals_max {d : Dom} (h : WD d) {n : Int} {ns : List Int} (e : vals d = n :: ns) : maxI n ns = hi d := by
  have hn : d ≠ [] := by intro z; rw [z] at e; cases e
  have h1 := maxI_mem' ns n
  rw [← e] at h1
  have h2 := vals_le h h1
  have h3 : hi d ∈ vals d := List.mem_of_getLast? (vals_last h hn)
  rw [e] at h3
  have := maxI_ge ns n _ (List.mem_cons.mp h3)
  omega

theorem rngD_rng {a b : Int} : rngD a (b + 1 - a).toNat = (rng a b).map .int := by
  unfold rngD rng
  rw [List.map_map]
  rfl
def dP (p : Int × Int) : D := .tup [.int p.1, .int p.2]
def dDom (d : Dom) : D := .tup (d.map dP)
theorem WD.pre {d e : Dom} (h : WD (d ++ e)) : WD d := ⟨fun q hq => h.rg q (List.mem_append_left _ hq), (List.pairwise_append.mp h.gap).1⟩
theorem vals_app (d e : Dom) : vals (d ++ e) = vals d ++ vals e := by unfold vals; rw [List.flatMap_append]
theorem vals_one (p : Int × Int) : vals [p] = rng p.1 p.2 := by unfold vals; simp
theorem gap_zip : ∀ {d : Dom}, d.Pairwise (fun a b => a.2 + 1 < b.1) → ∀ q ∈ d.zip d.tail, q.1.2 + 1 < q.2.1
  | [], _, q, hq => by cases hq
  | [a], _, q, hq => by cases hq
  | a :: b :: d, h, q, hq => by
    have hc : q ∈ (a, b) :: (b :: d).zip (b :: d).tail := hq
    rcases List.mem_cons.mp hc with e | hq
    · subst e
      exact (List.pairwise_cons.mp h).1 b List.mem_cons_self
    · exact gap_zip (List.pairwise_cons.mp h).2 q hq

/-! ### sums -/
def imin (i j : Int) : Int := if j < i then j else i
def imax (i j : Int) : Int := if j > i then j else i
theorem imin_neg (a b : Int) : imin (-a) (-b) = -imax a b := by
  unfold imin imax
  split <;> split <;> omega
def lsum (E : Int → Int × Int) : Int → List (Int × Int) → Int
  | t, [] => t
  | t, p :: r => lsum E (t + imin (p.1 * (E p.2).1) (p.1 * (E p.2).2)) r
def gsum (E : Int → Int × Int) : Int → List (Int × Int) → Int
  | t, [] => t
  | t, p :: r => gsum E (t + imax (p.1 * (E p.2).1) (p.1 * (E p.2).2)) r
theorem gsum_neg (E : Int → Int × Int) : ∀ (r : List (Int × Int)) (t : Int), -lsum E t (r.map fun p => (-p.1, p.2)) = gsum E (-t) r
  | [], t => rfl
  | p :: r, t => by
    rw [List.map_cons, lsum, gsum, gsum_neg E r]
    congr 1
    simp only [Int.neg_mul, imin_neg]
    omega

/-! ### systems of distinct representatives -/
/-- every one of own has a value of its row, no two the same -/
def Sdr (own : List Int) (R : Int → List Int) : Prop := ∃ g : Int → Int, (∀ x ∈ own, g x ∈ R x) ∧ ∀ x ∈ own, ∀ y ∈ own, g x = g y → x = y
theorem sdr_fix {own : List Int} {R : Int → List Int} {a v : Int} (ha : a ∈ own) :
    Sdr own (fun x => if x = a then [v] else R x) ↔ Sdr (own.filter fun x => decide (x ≠ a)) (fun x => (R x).filter fun y => decide (y ≠ v)) := by
  constructor
  · rintro ⟨g, h1, h2⟩
    have ga : g a = v := by simpa using h1 a ha
    refine ⟨g, fun x hx => ?_, fun x hx y hy => h2 x (List.mem_filter.mp hx).1 y (List.mem_filter.mp hy).1⟩
    rw [List.mem_filter, decide_eq_true_eq] at hx
    rw [List.mem_filter, decide_eq_true_eq]
    have := h1 x hx.1
    simp only [if_neg hx.2] at this
    exact ⟨this, fun e => hx.2 (h2 x hx.1 a ha (e.trans ga.symm))⟩
  · rintro ⟨g, h1, h2⟩
    have key : ∀ x ∈ own, x ≠ a → g x ∈ R x ∧ g x ≠ v := fun x hx hne => by
      have := h1 x (List.mem_filter.mpr ⟨hx, decide_eq_true hne⟩)
      rw [List.mem_filter, decide_eq_true_eq] at this
      exact this
    refine ⟨fun x => if x = a then v else g x, fun x hx => ?_, fun x hx y hy => ?_⟩
    · by_cases e : x = a
      · simp [e]
      · simp only [if_neg e]
        exact (key x hx e).1
    · by_cases e1 : x = a <;> by_cases e2 : y = a
      · intro _; rw [e1, e2]
      · simp only [if_pos e1, if_neg e2]
        intro z
        exact absurd z.symm (key y hy e2).2
      · simp only [if_neg e1, if_pos e2]
        intro z
        exact absurd z (key x hx e1).2
      · simp only [if_neg e1, if_neg e2]
        exact h2 x (List.mem_filter.mpr ⟨hx, decide_eq_true e1⟩) y (List.mem_filter.mpr ⟨hy, decide_eq_true e2⟩)
/-- .. of rows by place -/
def SdrL (rows : List (List Int)) : Prop := ∃ f : Nat → Int, (∀ (i : Nat) r, rows[i]? = some r → f i ∈ r) ∧ ∀ i j, i < rows.length → j < rows.length → f i = f j → i = j
theorem sdrL_map {own : List Int} (nd : own.Nodup) (R : Int → List Int) : SdrL (own.map R) ↔ Sdr own R := by
  constructor
  · rintro ⟨f, h1, h2⟩
    refine ⟨fun x => f (own.idxOf x), fun x hx => ?_, fun x hx y hy e => ?_⟩
    · have hl := List.idxOf_lt_length_of_mem hx
      exact h1 _ _ (by rw [List.getElem?_map, List.getElem?_eq_getElem hl, List.getElem_idxOf]; rfl)
    · have hl := List.idxOf_lt_length_of_mem hx
      have hm := List.idxOf_lt_length_of_mem hy
      have := h2 _ _ (by rw [List.length_map]; exact hl) (by rw [List.length_map]; exact hm) e
      rw [← List.getElem_idxOf hl, ← List.getElem_idxOf hm]
      simp only [this]
  · rintro ⟨g, h1, h2⟩
    refine ⟨fun i => g ((own[i]?).getD 0), fun i r e => ?_, fun i j hi hj e => ?_⟩
    · rw [List.getElem?_map] at e
      obtain ⟨x, e1, e2⟩ := Option.map_eq_some_iff.mp e
      subst e2
      show g ((own[i]?).getD 0) ∈ R x
      rw [e1]
      exact h1 x (List.mem_of_getElem? e1)
    · rw [List.length_map] at hi hj
      have e : g ((own[i]?).getD 0) = g ((own[j]?).getD 0) := e
      rw [List.getElem?_eq_getElem hi, List.getElem?_eq_getElem hj] at e
      have := h2 _ (List.getElem_mem hi) _ (List.getElem_mem hj) e
      exact (List.getElem_inj nd).mp this

/-! ### backtracking -/
/-- a choice of the rows, avoiding used -/
def Ch (used : List Int) : List (List Int) → Prop
  | [] => True
  | r :: rs => ∃ v ∈ r, v ∉ used ∧ Ch (used ++ [v]) rs
theorem ch_iff : ∀ (rows : List (List Int)) (used : List Int), Ch used rows ↔ ∃ f : Nat → Int, (∀ (i : Nat) r, rows[i]? = some r → f i ∈ r ∧ f i ∉ used) ∧ ∀ i j, i < rows.length → j < rows.length → f i = f j → i = j
  | [], used => ⟨fun _ => ⟨fun _ => 0, ⟨fun i r e => (nomatch e), fun i j hi => absurd hi (Nat.not_lt_zero _)⟩⟩, fun _ => trivial⟩
  | r :: rs, used => by
    unfold Ch
    constructor
    · rintro ⟨v, hv, hu, hc⟩
      obtain ⟨f, h1, h2⟩ := (ch_iff rs _).mp hc
      have key : ∀ i, i < rs.length → f i ≠ v := fun i hi e => (h1 i _ (List.getElem?_eq_getElem hi)).2 (by rw [e]; simp)
      refine ⟨fun i => match i with | 0 => v | i + 1 => f i, fun i q e => ?_, fun i j hi hj e => ?_⟩
      · cases i with
        | zero => cases e; exact ⟨hv, hu⟩
        | succ i =>
          have := h1 i q e
          exact ⟨this.1, fun z => this.2 (List.mem_append_left _ z)⟩
      · cases i with
        | zero => cases j with
          | zero => rfl
          | succ j => exact absurd e.symm (key j (by simpa using hj))
        | succ i => cases j with
          | zero => exact absurd e (key i (by simpa using hi))
          | succ j => exact congrArg Nat.succ (h2 i j (by simpa using hi) (by simpa using hj) e)
    · rintro ⟨f, h1, h2⟩
      refine ⟨f 0, (h1 0 r rfl).1, (h1 0 r rfl).2, (ch_iff rs _).mpr ⟨fun i => f (i + 1), fun i q e => ⟨(h1 (i + 1) q e).1, fun z => ?_⟩, fun i j hi hj e => ?_⟩⟩
      · rcases List.mem_append.mp z with z | z
        · exact (h1 (i + 1) q e).2 z
        · rw [List.mem_singleton] at z
          have hi := (List.getElem?_eq_some_iff.mp e).1
          have := h2 (i + 1) 0 (by simpa using hi) (by simp) z
          cases this
      · have := h2 (i + 1) (j + 1) (by simpa using hi) (by simpa using hj) e
        omega
theorem ch_sdr (rows : List (List Int)) : Ch [] rows ↔ SdrL rows := by
  rw [ch_iff]
  exact ⟨fun ⟨f, h1, h2⟩ => ⟨f, fun i r e => (h1 i r e).1, h2⟩, fun ⟨f, h1, h2⟩ => ⟨f, fun i r e => ⟨h1 i r e, by simp⟩, h2⟩⟩

/-! ### matchings -/
/-- values and the places that own them -/
abbrev Ow := List (Int × Nat)
structure OwOk (rows : List (List Int)) (ow : Ow) : Prop where
  nd : (ow.map (·.1)).Nodup
  row : ∀ p ∈ ow, ∃ r, rows[p.2]? = some r ∧ p.1 ∈ r
theorem ow_uniq {ow : Ow} (h : (ow.map (·.1)).Nodup) {v : Int} {x y : Nat} (h1 : (v, x) ∈ ow) (h2 : (v, y) ∈ ow) : x = y := by
  induction ow with
  | nil => cases h1
  | cons p ow ih =>
    rw [List.map_cons, List.nodup_cons] at h
    rcases List.mem_cons.mp h1 with e1 | k1 <;> rcases List.mem_cons.mp h2 with e2 | k2
    · rw [← e1] at e2
      exact (Prod.mk.inj e2).2.symm
    · refine absurd (List.mem_map.mpr ⟨(v, y), k2, ?_⟩ : p.1 ∈ ow.map (·.1)) h.1
      rw [← e1]
    · refine absurd (List.mem_map.mpr ⟨(v, x), k1, ?_⟩ : p.1 ∈ ow.map (·.1)) h.1
      rw [← e2]
    · exact ih h.2 k1 k2
/-- all places own: there are representatives -/
theorem sdr_of_ow {rows : List (List Int)} {ow : Ow} (h : OwOk rows ow) (hp : (ow.map (·.2)).Perm (List.range rows.length)) : SdrL rows := by
  have ex : ∀ i, i < rows.length → ∃ v, (v, i) ∈ ow := fun i hi => by
    have := hp.mem_iff.mpr (List.mem_range.mpr hi)
    obtain ⟨p, h1, h2⟩ := List.mem_map.mp this
    exact ⟨p.1, by rw [← h2]; exact h1⟩
  refine ⟨fun i => if hi : i < rows.length then (ex i hi).choose else 0, fun i r e => ?_, fun i j hi hj e => ?_⟩
  · have hi := (List.getElem?_eq_some_iff.mp e).1
    simp only [dif_pos hi]
    obtain ⟨r', e', hm⟩ := h.row _ (ex i hi).choose_spec
    rw [e] at e'
    cases e'
    exact hm
  · simp only [dif_pos hi, dif_pos hj] at e
    have h1 := (ex i hi).choose_spec
    have h2 := (ex j hj).choose_spec
    rw [e] at h1
    exact ow_uniq h.nd h1 h2
/-- a closed set with a place that owns nothing: there are none -/
theorem no_sdr {rows : List (List Int)} {ow : Ow} {met : List Nat} {k : Nat} (h : OwOk rows ow) (hp : (ow.map (·.2)).Perm (List.range k)) (hk : k ∈ met) (nd : met.Nodup) (hm : ∀ x ∈ met, x < rows.length)
    (cl : ∀ x ∈ met, ∀ r, rows[x]? = some r → ∀ v ∈ r, ∃ y ∈ met, (v, y) ∈ ow) : ¬ SdrL rows := by
  rintro ⟨f, h1, h2⟩
  -- the representatives of met are values owned by met
  have hs : ∀ v ∈ met.map f, v ∈ (ow.filter fun p => decide (p.2 ∈ met)).map (·.1) := fun v hv => by
    obtain ⟨x, hx, rfl⟩ := List.mem_map.mp hv
    have e := List.getElem?_eq_getElem (hm x hx)
    obtain ⟨y, hy, hz⟩ := cl x hx _ e (f x) (h1 x _ e)
    exact List.mem_map.mpr ⟨(f x, y), List.mem_filter.mpr ⟨hz, decide_eq_true hy⟩, rfl⟩
  have hn : (met.map f).Nodup := by
    unfold List.Nodup
    rw [List.pairwise_map]
    exact (List.Pairwise.and_mem.mp nd).imp fun {a b} ⟨ha, hb, hne⟩ z => hne (h2 a b (hm a ha) (hm b hb) z)
  have l1 := nodup_len_le hn hs
  -- they are fewer than met
  have e2 : ((ow.filter fun p => decide (p.2 ∈ met)).map (·.2)) = (ow.map (·.2)).filter fun x => decide (x ∈ met) := by
    rw [List.filter_map]
    rfl
  have l2 : ((ow.map (·.2)).filter fun x => decide (x ∈ met)).length = ((List.range k).filter fun x => decide (x ∈ met)).length := (hp.filter _).length_eq
  have l3 : ((List.range k).filter fun x => decide (x ∈ met)).length + 1 ≤ met.length := by
    have nd2 : (k :: (List.range k).filter fun x => decide (x ∈ met)).Nodup := by
      rw [List.nodup_cons]
      exact ⟨fun z => by have := List.mem_range.mp (List.mem_filter.mp z).1; omega, List.nodup_range.filter _⟩
    have hsub : ∀ x ∈ k :: (List.range k).filter fun x => decide (x ∈ met), x ∈ met := fun x hx => by
      rcases List.mem_cons.mp hx with e | hx
      · subst e; exact hk
      · exact of_decide_eq_true (List.mem_filter.mp hx).2
    have := List.Nodup.length_le_of_subset nd2 hsub
    simpa using this
  rw [List.length_map, List.length_map] at l1
  have l4 : (ow.filter fun p => decide (p.2 ∈ met)).length = ((List.range k).filter fun x => decide (x ∈ met)).length := by
    rw [← l2, ← e2, List.length_map]
  omega

/-! ### owners and met as dicts -/
def kvO (ow : Ow) : List (L2.Key × D) := ow.map fun p => (.inl p.1, .int (p.2 : Nat))
def kvM (met : List Nat) : List (L2.Key × D) := met.map fun x => (.inl ((x : Nat) : Int), .bl true)
theorem getO_some : ∀ {ow : Ow} {v : Int} {d : D}, getK (kvO ow) (.inl v) = some d → ∃ y : Nat, d = .int y ∧ (v, y) ∈ ow
  | [], v, d, h => by cases h
  | p :: ow, v, d, h => by
    by_cases e : p.1 = v
    · have : getK (kvO (p :: ow)) (.inl v) = some (.int (p.2 : Nat)) := by simp [kvO, getK, e]
      rw [this] at h
      cases h
      exact ⟨p.2, rfl, by rw [← e]; exact List.mem_cons_self⟩
    · have : getK (kvO (p :: ow)) (.inl v) = getK (kvO ow) (.inl v) := by simp [kvO, getK, e]
      rw [this] at h
      obtain ⟨y, h1, h2⟩ := getO_some h
      exact ⟨y, h1, List.mem_cons_of_mem _ h2⟩
theorem getO_none : ∀ {ow : Ow} {v : Int}, getK (kvO ow) (.inl v) = none → v ∉ ow.map (·.1)
  | [], v, h => by simp
  | p :: ow, v, h => by
    by_cases e : p.1 = v
    · have : getK (kvO (p :: ow)) (.inl v) = some (.int (p.2 : Nat)) := by simp [kvO, getK, e]
      rw [this] at h
      cases h
    · have : getK (kvO (p :: ow)) (.inl v) = getK (kvO ow) (.inl v) := by simp [kvO, getK, e]
      rw [this] at h
      have := getO_none h
      rw [List.map_cons, List.mem_cons]
      exact fun z => z.elim (fun z => e z.symm) this
theorem getO_mem {ow : Ow} (nd : (ow.map (·.1)).Nodup) {v : Int} {y : Nat} (h : (v, y) ∈ ow) : getK (kvO ow) (.inl v) = some (.int (y : Nat)) := by
  cases e : getK (kvO ow) (.inl v) with
  | none => exact absurd (List.mem_map.mpr ⟨(v, y), h, rfl⟩) (getO_none e)
  | some d =>
    obtain ⟨z, rfl, hz⟩ := getO_some e
    rw [ow_uniq nd h hz]
theorem getM_iff : ∀ {met : List Nat} {x : Nat}, (getK (kvM met) (.inl (x : Int))).isSome = decide (x ∈ met)
  | [], x => by simp [kvM, getK]
  | y :: met, x => by
    by_cases e : y = x
    · subst e
      simp [kvM, getK]
    · have e' : ¬ ((y : Int) = (x : Int)) := by omega
      have h1 : getK (kvM (y :: met)) (.inl (x : Int)) = getK (kvM met) (.inl (x : Int)) := by
        unfold kvM getK
        rw [List.map_cons, List.find?_cons_of_neg (by simpa using e')]
      rw [h1, getM_iff]
      have : x ≠ y := fun z => e z.symm
      simp [this]
theorem any_none {kvs : List (L2.Key × D)} {k : L2.Key} (h : getK kvs k = none) : (kvs.any fun kv => decide (kv.1 = k)) = false := by
  rw [List.any_eq_false]
  intro kv hkv
  unfold getK at h
  rw [Option.map_eq_none_iff, List.find?_eq_none] at h
  exact h kv hkv
theorem any_some {kvs : List (L2.Key × D)} {k : L2.Key} {d : D} (h : getK kvs k = some d) : (kvs.any fun kv => decide (kv.1 = k)) = true := by
  unfold getK at h
  obtain ⟨kv, h1, h2⟩ := Option.map_eq_some_iff.mp h
  rw [List.any_eq_true]
  exact ⟨kv, List.mem_of_find?_eq_some h1, by simpa using List.find?_some h1⟩
theorem setM_new {met : List Nat} {x : Nat} (h : x ∉ met) : setK (kvM met) (.inl (x : Int)) (.bl true) = kvM (met ++ [x]) := by
  have : getK (kvM met) (.inl (x : Int)) = none := by
    have := getM_iff (met := met) (x := x)
    simpa [h] using this
  unfold setK
  rw [any_none this]
  simp [kvM]
theorem setO_new {ow : Ow} {v : Int} {u : Nat} (h : getK (kvO ow) (.inl v) = none) : setK (kvO ow) (.inl v) (.int (u : Nat)) = kvO (ow ++ [(v, u)]) := by
  unfold setK
  rw [any_none h]
  simp [kvO]
theorem setO_old {A B : Ow} {v : Int} {y u : Nat} (nd : ((A ++ (v, y) :: B).map (·.1)).Nodup) : setK (kvO (A ++ (v, y) :: B)) (.inl v) (.int (u : Nat)) = kvO (A ++ (v, u) :: B) := by
  have hg := getO_mem nd (v := v) (y := y) (by simp)
  unfold setK
  rw [if_pos (any_some hg)]
  rw [List.map_append, List.map_cons, List.nodup_append] at nd
  obtain ⟨n1, n2, n3⟩ := nd
  rw [List.nodup_cons] at n2
  have hA : ∀ p ∈ A, p.1 ≠ v := fun p hp => n3 _ (List.mem_map.mpr ⟨p, hp, rfl⟩) _ List.mem_cons_self
  have hB : ∀ p ∈ B, p.1 ≠ v := fun p hp e => n2.1 (List.mem_map.mpr ⟨p, hp, e⟩)
  unfold kvO
  rw [List.map_append, List.map_cons, List.map_append, List.map_cons, List.map_append, List.map_cons]
  congr 1
  · rw [List.map_map]
    refine List.map_congr_left fun p hp => ?_
    simp [hA p hp]
  · congr 1
    · simp
    · rw [List.map_map]
      refine List.map_congr_left fun p hp => ?_
      simp [hB p hp]
theorem ow_small {rows : List (List Int)} {ow : Ow} (h : OwOk rows ow) (hv : ∀ r ∈ rows, ∀ v ∈ r, -50 ≤ v ∧ v ≤ 50) : ow.length ≤ 101 := by
  have := nodup_len_le h.nd (ys := rng (-50) 50) fun x hx => by
    obtain ⟨p, hp, rfl⟩ := List.mem_map.mp hx
    obtain ⟨r, h1, h2⟩ := h.row p hp
    exact mem_rng.mpr (hv r (List.mem_of_getElem? h1) _ h2)
  rw [List.length_map, len_rng] at this
  omega
/-! rows in the store -/
def Rows (S : Sto) : List Nat → List (List Int) → Prop
  | [], [] => True
  | n :: ns, r :: rs => S[n]? = some (.lst (r.map .int)) ∧ Rows S ns rs
  | _, _ => False
theorem Rows.get {S : Sto} : ∀ {rl : List Nat} {rows : List (List Int)} {i : Nat} {r : List Int}, Rows S rl rows → rows[i]? = some r → ∃ n, rl[i]? = some n ∧ S[n]? = some (.lst (r.map .int))
  | [], [], i, r, h, e => by cases e
  | n :: ns, q :: rs, 0, r, h, e => by cases e; exact ⟨n, rfl, h.1⟩
  | n :: ns, q :: rs, i + 1, r, h, e => Rows.get (rl := ns) h.2 e
  | [], _ :: _, _, _, h, _ => h.elim
  | _ :: _, [], _, _, h, _ => h.elim
theorem Rows.len {S : Sto} : ∀ {rl : List Nat} {rows : List (List Int)}, Rows S rl rows → rl.length = rows.length
  | [], [], _ => rfl
  | n :: ns, q :: rs, h => congrArg Nat.succ (Rows.len (rl := ns) h.2)
  | [], _ :: _, h => h.elim
  | _ :: _, [], h => h.elim
theorem Rows.imp {S S' : Sto} (k : ∀ (n : Nat) (ds : List D), S[n]? = some (Ob.lst ds) → S'[n]? = some (Ob.lst ds)) : ∀ {rl : List Nat} {rows : List (List Int)}, Rows S rl rows → Rows S' rl rows
  | [], [], _ => trivial
  | n :: ns, q :: rs, h => ⟨k _ _ h.1, Rows.imp k (rl := ns) h.2⟩
  | [], _ :: _, h => h.elim
  | _ :: _, [], h => h.elim
theorem Rows.snoc {S : Sto} {n : Nat} {r : List Int} (e : S[n]? = some (.lst (r.map .int))) : ∀ {rl : List Nat} {rows : List (List Int)}, Rows S rl rows → Rows S (rl ++ [n]) (rows ++ [r])
  | [], [], _ => ⟨e, trivial⟩
  | _ :: ns, q :: rs, h => ⟨h.1, Rows.snoc e (rl := ns) h.2⟩
  | [], _ :: _, h => h.elim
  | _ :: _, [], h => h.elim
theorem Rows.set {S : Sto} {n : Nat} {o : Ob} : ∀ {rl : List Nat} {rows : List (List Int)}, Rows S rl rows → (∀ x ∈ rl, x ≠ n) → Rows (S.set n o) rl rows
  | [], [], _, _ => trivial
  | _ :: ns, q :: rs, h, k => ⟨by rw [List.getElem?_set_ne (Ne.symm (k _ List.mem_cons_self))]; exact h.1, Rows.set (rl := ns) h.2 fun x hx => k x (List.mem_cons_of_mem _ hx)⟩
  | [], _ :: _, h, _ => h.elim
  | _ :: _, [], h, _ => h.elim
theorem Rows.fx {S S' : Sto} {rl : List Nat} {rows : List (List Int)} (h : Rows S rl rows) (f : Fx Pu S S') : Rows S' rl rows := h.imp fun n ds e => f.get id e
/-- a comprehension whose items are lists of ints -/
theorem ws_compR {b : FB} {chk : Sto → Prop} {Q : RS → Prop} {ρ ρ' : En} {S : Sto} {k : D → Sto → RS} {ft : FT} {fe : FE} {α : Type} {enc : α → D} (p : α → Bool) (r : α → List Int) {xs : List α} (hchk : ∀ S', Fx Pu S S' → chk S') (hz : xs.length < sizeLine)
    (hs : ∀ x ∈ xs, ∀ S', Fx Pu S S' → S.length < S'.length → ∃ ρ1, b (enc x) ρ S' = some ρ1 ∧ Ev (ft ρ1 S') fun k S1 => k = p x ∧ Fx Pu S' S1 ∧ (p x = true → Ev (fe ρ1 S1) fun y S2 => ∃ n, y = .loc n ∧ n ≠ S.length ∧ S2[n]? = some (.lst ((r x).map .int)) ∧ Fx Pu S1 S2))
    (he : ∀ S' rl, Fx Pu S S' → S'[S.length]? = some (.lst (rl.map .loc)) → Rows S' rl ((xs.filter p).map r) → WS (k (.loc S.length) S') Q) :
    WS ((compL b ft fe chk S.length ρ (xs.map enc) (S ++ [.lst []])).toS ρ' k) Q := by
  refine Ev.ws (ev_comp (P := fun d S' => d = .loc S.length ∧ ∃ rl, Fx Pu S S' ∧ S'[S.length]? = some (.lst (rl.map .loc)) ∧ Rows S' rl ((xs.filter p).map r))
    (fun ds acc S' => ∃ dn rs rl, xs = dn ++ rs ∧ ds = rs.map enc ∧ acc = rl.map .loc ∧ Rows S' rl ((dn.filter p).map r) ∧ (∀ x ∈ rl, x ≠ S.length) ∧ Fx Pu S S') get_end ⟨[], xs, [], rfl, rfl, rfl, trivial, (fun x hx => nomatch hx), Fx.one⟩ ?_ ?_) fun a S' ⟨h1, rl, h2, h3, h4⟩ => by
      subst h1
      exact he S' rl h2 h3 h4
  · rintro d ds acc S' ⟨dn, rs, rl, e1, e2, e3, hr, hne, hf⟩ h0
    cases rs with
    | nil => cases e2
    | cons x rs =>
      cases e2
      have hl : S.length < S'.length := (List.getElem?_eq_some_iff.mp h0).1
      obtain ⟨ρ1, h1, h2⟩ := hs x (by rw [e1]; simp) S' hf hl
      refine ⟨hchk S' hf, ρ1, h1, h2.imp fun k S1 ⟨h3, h4, h5⟩ => ?_⟩
      subst h3
      have hl1 : acc.length ≤ dn.length := by rw [e3, List.length_map, hr.len, List.length_map]; exact List.length_filter_le _ _
      have hl2 : dn.length < xs.length := by rw [e1]; simp
      cases hp : p x with
      | true =>
        rw [if_pos rfl]
        refine (h5 hp).imp fun y S2 ⟨n, h6, h7, h8, h9⟩ => ⟨h9.get id (h4.get id h0), by omega, dn ++ [x], rs, rl ++ [n], by rw [e1]; simp, rfl, by rw [e3, h6]; simp, ?_, fun z hz => ?_, ((hf.trans h4).trans h9).set fun z => absurd z (Nat.lt_irrefl _)⟩
        · have e : ((dn ++ [x]).filter p).map r = (dn.filter p).map r ++ [r x] := by simp [hp]
          rw [e]
          refine Rows.snoc ?_ (Rows.set ((hr.fx h4).fx h9) hne)
          rw [List.getElem?_set_ne (Ne.symm h7)]
          exact h8
        · rcases List.mem_append.mp hz with hz | hz
          · exact hne z hz
          · rw [List.mem_singleton] at hz
            rw [hz]
            exact h7
      | false =>
        rw [if_neg Bool.false_ne_true]
        refine ⟨h4.get id h0, dn ++ [x], rs, rl, by rw [e1]; simp, rfl, e3, ?_, hne, hf.trans h4⟩
        have e : ((dn ++ [x]).filter p).map r = (dn.filter p).map r := by simp [hp]
        rw [e]
        exact hr.fx h4
  · rintro acc S' ⟨dn, rs, rl, e1, e2, e3, hr, hne, hf⟩ h0
    have : rs = [] := by cases rs with
      | nil => rfl
      | cons => cases e2
    subst this
    rw [List.append_nil] at e1
    subst e1
    exact ⟨hchk S' hf, rfl, rl, hf, by rw [h0, e3], hr⟩

/-! ### words -/
theorem sh_str {a : Str} (h : PyData.strOk a = true) : SeqAt.shaped (.str a) = true := by
  unfold SeqAt.shaped PyData.canLay0 PyData.depth
  rw [h]
  rfl
section
variable {S : Sto}
theorem eq_str {a b : Str} (ha : PyData.strOk a = true) (hb : PyData.strOk b = true) : gEq (.str a) (.str b) S = .ok (.bl (a == b)) S := by
  unfold gEq
  simp only [py_str, sh_str ha, sh_str hb, PyData.eqv]
  rfl
theorem ne_str {a b : Str} (ha : PyData.strOk a = true) (hb : PyData.strOk b = true) : gNe (.str a) (.str b) S = .ok (.bl (!(a == b))) S := by
  unfold gNe
  simp only [py_str, sh_str ha, sh_str hb, PyData.eqv]
  rfl
theorem ok_le : PyData.strOk "le" = true := by decide +kernel
theorem ok_eq : PyData.strOk "eq" = true := by decide +kernel
theorem ok_ne : PyData.strOk "ne" = true := by decide +kernel
theorem ok_times : PyData.strOk "times" = true := by decide +kernel
theorem ok_distinct : PyData.strOk "distinct" = true := by decide +kernel
@[simp] theorem q_le_le : gEq (.str "le") (.str "le") S = .ok (.bl true) S := by
  rw [eq_str ok_le ok_le, show (("le" : Str) == "le") = true by decide +kernel]
@[simp] theorem n_le_le : gNe (.str "le") (.str "le") S = .ok (.bl false) S := by
  rw [ne_str ok_le ok_le, show (("le" : Str) == "le") = true by decide +kernel]
  rfl
@[simp] theorem q_le_eq : gEq (.str "le") (.str "eq") S = .ok (.bl false) S := by
  rw [eq_str ok_le ok_eq, show (("le" : Str) == "eq") = false by decide +kernel]
@[simp] theorem n_le_eq : gNe (.str "le") (.str "eq") S = .ok (.bl true) S := by
  rw [ne_str ok_le ok_eq, show (("le" : Str) == "eq") = false by decide +kernel]
  rfl
@[simp] theorem q_le_ne : gEq (.str "le") (.str "ne") S = .ok (.bl false) S := by
  rw [eq_str ok_le ok_ne, show (("le" : Str) == "ne") = false by decide +kernel]
@[simp] theorem n_le_ne : gNe (.str "le") (.str "ne") S = .ok (.bl true) S := by
  rw [ne_str ok_le ok_ne, show (("le" : Str) == "ne") = false by decide +kernel]
  rfl
@[simp] theorem q_le_times : gEq (.str "le") (.str "times") S = .ok (.bl false) S := by
  rw [eq_str ok_le ok_times, show (("le" : Str) == "times") = false by decide +kernel]
@[simp] theorem n_le_times : gNe (.str "le") (.str "times") S = .ok (.bl true) S := by
  rw [ne_str ok_le ok_times, show (("le" : Str) == "times") = false by decide +kernel]
  rfl
@[simp] theorem q_le_distinct : gEq (.str "le") (.str "distinct") S = .ok (.bl false) S := by
  rw [eq_str ok_le ok_distinct, show (("le" : Str) == "distinct") = false by decide +kernel]
@[simp] theorem n_le_distinct : gNe (.str "le") (.str "distinct") S = .ok (.bl true) S := by
  rw [ne_str ok_le ok_distinct, show (("le" : Str) == "distinct") = false by decide +kernel]
  rfl
@[simp] theorem q_eq_le : gEq (.str "eq") (.str "le") S = .ok (.bl false) S := by
  rw [eq_str ok_eq ok_le, show (("eq" : Str) == "le") = false by decide +kernel]
@[simp] theorem n_eq_le : gNe (.str "eq") (.str "le") S = .ok (.bl true) S := by
  rw [ne_str ok_eq ok_le, show (("eq" : Str) == "le") = false by decide +kernel]
  rfl
@[simp] theorem q_eq_eq : gEq (.str "eq") (.str "eq") S = .ok (.bl true) S := by
  rw [eq_str ok_eq ok_eq, show (("eq" : Str) == "eq") = true by decide +kernel]
@[simp] theorem n_eq_eq : gNe (.str "eq") (.str "eq") S = .ok (.bl false) S := by
  rw [ne_str ok_eq ok_eq, show (("eq" : Str) == "eq") = true by decide +kernel]
  rfl
@[simp] theorem q_eq_ne : gEq (.str "eq") (.str "ne") S = .ok (.bl false) S := by
  rw [eq_str ok_eq ok_ne, show (("eq" : Str) == "ne") = false by decide +kernel]
@[simp] theorem n_eq_ne : gNe (.str "eq") (.str "ne") S = .ok (.bl true) S := by
  rw [ne_str ok_eq ok_ne, show (("eq" : Str) == "ne") = false by decide +kernel]
  rfl
@[simp] theorem q_eq_times : gEq (.str "eq") (.str "times") S = .ok (.bl false) S := by
  rw [eq_str ok_eq ok_times, show (("eq" : Str) == "times") = false by decide +kernel]
@[simp] theorem n_eq_times : gNe (.str "eq") (.str "times") S = .ok (.bl true) S := by
  rw [ne_str ok_eq ok_times, show (("eq" : Str) == "times") = false by decide +kernel]
  rfl
@[simp] theorem q_eq_distinct : gEq (.str "eq") (.str "distinct") S = .ok (.bl false) S := by
  rw [eq_str ok_eq ok_distinct, show (("eq" : Str) == "distinct") = false by decide +kernel]
@[simp] theorem n_eq_distinct : gNe (.str "eq") (.str "distinct") S = .ok (.bl true) S := by
  rw [ne_str ok_eq ok_distinct, show (("eq" : Str) == "distinct") = false by decide +kernel]
  rfl
@[simp] theorem q_ne_le : gEq (.str "ne") (.str "le") S = .ok (.bl false) S := by
  rw [eq_str ok_ne ok_le, show (("ne" : Str) == "le") = false by decide +kernel]
@[simp] theorem n_ne_le : gNe (.str "ne") (.str "le") S = .ok (.bl true) S := by
  rw [ne_str ok_ne ok_le, show (("ne" : Str) == "le") = false by decide +kernel]
  rfl
@[simp] theorem q_ne_eq : gEq (.str "ne") (.str "eq") S = .ok (.bl false) S := by
  rw [eq_str ok_ne ok_eq, show (("ne" : Str) == "eq") = false by decide +kernel]
@[simp] theorem n_ne_eq : gNe (.str "ne") (.str "eq") S = .ok (.bl true) S := by
  rw [ne_str ok_ne ok_eq, show (("ne" : Str) == "eq") = false by decide +kernel]
  rfl
@[simp] theorem q_ne_ne : gEq (.str "ne") (.str "ne") S = .ok (.bl true) S := by
  rw [eq_str ok_ne ok_ne, show (("ne" : Str) == "ne") = true by decide +kernel]
@[simp] theorem n_ne_ne : gNe (.str "ne") (.str "ne") S = .ok (.bl false) S := by
  rw [ne_str ok_ne ok_ne, show (("ne" : Str) == "ne") = true by decide +kernel]
  rfl
@[simp] theorem q_ne_times : gEq (.str "ne") (.str "times") S = .ok (.bl false) S := by
  rw [eq_str ok_ne ok_times, show (("ne" : Str) == "times") = false by decide +kernel]
@[simp] theorem n_ne_times : gNe (.str "ne") (.str "times") S = .ok (.bl true) S := by
  rw [ne_str ok_ne ok_times, show (("ne" : Str) == "times") = false by decide +kernel]
  rfl
@[simp] theorem q_ne_distinct : gEq (.str "ne") (.str "distinct") S = .ok (.bl false) S := by
  rw [eq_str ok_ne ok_distinct, show (("ne" : Str) == "distinct") = false by decide +kernel]
@[simp] theorem n_ne_distinct : gNe (.str "ne") (.str "distinct") S = .ok (.bl true) S := by
  rw [ne_str ok_ne ok_distinct, show (("ne" : Str) == "distinct") = false by decide +kernel]
  rfl
@[simp] theorem q_times_le : gEq (.str "times") (.str "le") S = .ok (.bl false) S := by
  rw [eq_str ok_times ok_le, show (("times" : Str) == "le") = false by decide +kernel]
@[simp] theorem n_times_le : gNe (.str "times") (.str "le") S = .ok (.bl true) S := by
  rw [ne_str ok_times ok_le, show (("times" : Str) == "le") = false by decide +kernel]
  rfl
@[simp] theorem q_times_eq : gEq (.str "times") (.str "eq") S = .ok (.bl false) S := by
  rw [eq_str ok_times ok_eq, show (("times" : Str) == "eq") = false by decide +kernel]
@[simp] theorem n_times_eq : gNe (.str "times") (.str "eq") S = .ok (.bl true) S := by
  rw [ne_str ok_times ok_eq, show (("times" : Str) == "eq") = false by decide +kernel]
  rfl
@[simp] theorem q_times_ne : gEq (.str "times") (.str "ne") S = .ok (.bl false) S := by
  rw [eq_str ok_times ok_ne, show (("times" : Str) == "ne") = false by decide +kernel]
@[simp] theorem n_times_ne : gNe (.str "times") (.str "ne") S = .ok (.bl true) S := by
  rw [ne_str ok_times ok_ne, show (("times" : Str) == "ne") = false by decide +kernel]
  rfl
@[simp] theorem q_times_times : gEq (.str "times") (.str "times") S = .ok (.bl true) S := by
  rw [eq_str ok_times ok_times, show (("times" : Str) == "times") = true by decide +kernel]
@[simp] theorem n_times_times : gNe (.str "times") (.str "times") S = .ok (.bl false) S := by
  rw [ne_str ok_times ok_times, show (("times" : Str) == "times") = true by decide +kernel]
  rfl
@[simp] theorem q_times_distinct : gEq (.str "times") (.str "distinct") S = .ok (.bl false) S := by
  rw [eq_str ok_times ok_distinct, show (("times" : Str) == "distinct") = false by decide +kernel]
@[simp] theorem n_times_distinct : gNe (.str "times") (.str "distinct") S = .ok (.bl true) S := by
  rw [ne_str ok_times ok_distinct, show (("times" : Str) == "distinct") = false by decide +kernel]
  rfl
@[simp] theorem q_distinct_le : gEq (.str "distinct") (.str "le") S = .ok (.bl false) S := by
  rw [eq_str ok_distinct ok_le, show (("distinct" : Str) == "le") = false by decide +kernel]
@[simp] theorem n_distinct_le : gNe (.str "distinct") (.str "le") S = .ok (.bl true) S := by
  rw [ne_str ok_distinct ok_le, show (("distinct" : Str) == "le") = false by decide +kernel]
  rfl
@[simp] theorem q_distinct_eq : gEq (.str "distinct") (.str "eq") S = .ok (.bl false) S := by
  rw [eq_str ok_distinct ok_eq, show (("distinct" : Str) == "eq") = false by decide +kernel]
@[simp] theorem n_distinct_eq : gNe (.str "distinct") (.str "eq") S = .ok (.bl true) S := by
  rw [ne_str ok_distinct ok_eq, show (("distinct" : Str) == "eq") = false by decide +kernel]
  rfl
@[simp] theorem q_distinct_ne : gEq (.str "distinct") (.str "ne") S = .ok (.bl false) S := by
  rw [eq_str ok_distinct ok_ne, show (("distinct" : Str) == "ne") = false by decide +kernel]
@[simp] theorem n_distinct_ne : gNe (.str "distinct") (.str "ne") S = .ok (.bl true) S := by
  rw [ne_str ok_distinct ok_ne, show (("distinct" : Str) == "ne") = false by decide +kernel]
  rfl
@[simp] theorem q_distinct_times : gEq (.str "distinct") (.str "times") S = .ok (.bl false) S := by
  rw [eq_str ok_distinct ok_times, show (("distinct" : Str) == "times") = false by decide +kernel]
@[simp] theorem n_distinct_times : gNe (.str "distinct") (.str "times") S = .ok (.bl true) S := by
  rw [ne_str ok_distinct ok_times, show (("distinct" : Str) == "times") = false by decide +kernel]
  rfl
@[simp] theorem q_distinct_distinct : gEq (.str "distinct") (.str "distinct") S = .ok (.bl true) S := by
  rw [eq_str ok_distinct ok_distinct, show (("distinct" : Str) == "distinct") = true by decide +kernel]
@[simp] theorem n_distinct_distinct : gNe (.str "distinct") (.str "distinct") S = .ok (.bl false) S := by
  rw [ne_str ok_distinct ok_distinct, show (("distinct" : Str) == "distinct") = true by decide +kernel]
  rfl
theorem sh_3 : SeqAt.shaped (.tuple [.str "le", .str "eq", .str "ne"]) = true := by
  unfold SeqAt.shaped
  simp only [PyData.canLay0, PyData.canLayAll0, PyData.depth, PyData.depthAll, ok_le, ok_eq, ok_ne]
  decide
theorem in_3 {a : Str} (ha : PyData.strOk a = true) : gIn (.str a) (.tup [.str "le", .str "eq", .str "ne"]) S = .ok (.bl (("le" == a) || (("eq" == a) || ("ne" == a)))) S := by
  have e : toPy S eqDeep (.tup [.str "le", .str "eq", .str "ne"]) = some (.tuple [.str "le", .str "eq", .str "ne"]) := by
    simp [toPy, mapO, leafPy]
  unfold gIn inB
  simp [e, py_str, sh_str ha, sh_3, PyData.eqv]
@[simp] theorem i_le : gIn (.str "le") (.tup [.str "le", .str "eq", .str "ne"]) S = .ok (.bl true) S := by
  rw [in_3 ok_le, show ((("le" : Str) == "le") || ((("eq" : Str) == "le") || (("ne" : Str) == "le"))) = true by decide +kernel]
@[simp] theorem i_eq : gIn (.str "eq") (.tup [.str "le", .str "eq", .str "ne"]) S = .ok (.bl true) S := by
  rw [in_3 ok_eq, show ((("le" : Str) == "eq") || ((("eq" : Str) == "eq") || (("ne" : Str) == "eq"))) = true by decide +kernel]
@[simp] theorem i_ne : gIn (.str "ne") (.tup [.str "le", .str "eq", .str "ne"]) S = .ok (.bl true) S := by
  rw [in_3 ok_ne, show ((("le" : Str) == "ne") || ((("eq" : Str) == "ne") || (("ne" : Str) == "ne"))) = true by decide +kernel]
@[simp] theorem i_times : gIn (.str "times") (.tup [.str "le", .str "eq", .str "ne"]) S = .ok (.bl false) S := by
  rw [in_3 ok_times, show ((("le" : Str) == "times") || ((("eq" : Str) == "times") || (("ne" : Str) == "times"))) = false by decide +kernel]
@[simp] theorem i_distinct : gIn (.str "distinct") (.tup [.str "le", .str "eq", .str "ne"]) S = .ok (.bl false) S := by
  rw [in_3 ok_distinct, show ((("le" : Str) == "distinct") || ((("eq" : Str) == "distinct") || (("ne" : Str) == "distinct"))) = false by decide +kernel]
end

/-! ### constraints -/
inductive W3 where
  | le | eq | ne
def W3.s : W3 → Str
  | .le => "le"
  | .eq => "eq"
  | .ne => "ne"
inductive Cst where
  | sum (w : W3) (sums : List (Int × Int)) (b : Int) | times (x y z : Int) | dist (vs : List Int)
def dCon : Cst → D
  | .sum w sums b => .tup [.str w.s, .tup (sums.map dP), .int b]
  | .times x y z => .tup [.str "times", .int x, .int y, .int z]
  | .dist vs => .tup [.str "distinct", .tup (vs.map .int)]
def Cst.own : Cst → List Int
  | .sum _ sums _ => sums.map (·.2)
  | .times x y z => [x, y, z]
  | .dist vs => vs
def WC (many : Int) : Cst → Prop
  | .sum _ sums b => sums.length ≤ 6 ∧ (∀ p ∈ sums, p.1 ≠ 0 ∧ -20 ≤ p.1 ∧ p.1 ≤ 20 ∧ 0 ≤ p.2 ∧ p.2 < many) ∧ (sums.map (·.2)).Nodup ∧ -10000 ≤ b ∧ b ≤ 10000
  | .times x y z => (0 ≤ x ∧ x < many) ∧ (0 ≤ y ∧ y < many) ∧ 0 ≤ z ∧ z < many
  | .dist vs => 1 ≤ vs.length ∧ vs.length ≤ 12 ∧ vs.Nodup ∧ ∀ v ∈ vs, 0 ≤ v ∧ v < many
theorem WC.own {many : Int} {c : Cst} (h : WC many c) : ∀ v ∈ c.own, 0 ≤ v ∧ v < many := by
  cases c with
  | sum w sums b =>
    intro v hv
    obtain ⟨p, hp, rfl⟩ := List.mem_map.mp hv
    exact (h.2.1 p hp).2.2.2
  | times x y z =>
    intro v hv
    have hv : v ∈ [x, y, z] := hv
    simp at hv
    rcases hv with rfl | rfl | rfl
    · exact h.1
    · exact h.2.1
    · exact h.2.2
  | dist vs => exact h.2.2.2
theorem WC.own_len {many : Int} {c : Cst} (h : WC many c) : c.own.length ≤ 12 := by
  cases c with
  | sum w sums b => have := h.1; show (sums.map _).length ≤ 12; rw [List.length_map]; omega
  | times x y z => show 3 ≤ 12; decide
  | dist vs => exact h.2.1
/-! the ends, read -/
def hd (d : Dom) : Int × Int := d.headD (0, 0)
def ls (d : Dom) : Int × Int := d.getLastD (0, 0)
section
variable {S : Sto} {d : Dom}
theorem ix_hd (h : d ≠ []) : gIx (dDom d) (.int 0) S = .ok (dP (hd d)) S := by
  cases d with
  | nil => exact absurd rfl h
  | cons p d => exact DS.ix_seq rfl (DS.atI_nat (k := 0) rfl)
theorem ix_ls (h : d ≠ []) : gIx (dDom d) (.int (-1)) S = .ok (dP (ls d)) S := by
  obtain ⟨i, p, rfl⟩ : ∃ i p, d = i ++ [p] := ⟨d.dropLast, d.getLast h, (List.dropLast_concat_getLast h).symm⟩
  refine DS.ix_seq (ds := (i ++ [p]).map dP) rfl (atI_last ?_)
  unfold ls
  simp
@[simp] theorem ix_p0 {p : Int × Int} : gIx (dP p) (.int 0) S = .ok (.int p.1) S := ix_t0
@[simp] theorem ix_p1 {p : Int × Int} : gIx (dP p) (.int 1) S = .ok (.int p.2) S := ix_t1
theorem hd_1 : (hd d).1 = lo d := rfl
theorem ls_2 : (ls d).2 = hi d := rfl
@[simp] theorem seq_p {p : Int × Int} : seqOf (dP p) S = some [.int p.1, .int p.2] := rfl
theorem Ev.eq {α : Type} {r : R α} {a : α} {S : Sto} (h : Ev r fun x S' => x = a ∧ S' = S) : r = .ok a S := by
  obtain ⟨x, S', e, rfl, rfl⟩ := h.ok
  exact e
end
def dm (doms : List Dom) (o : Int) : Dom := doms.getD o.toNat []
theorem dm_get {doms : List Dom} {o : Int} (h0 : 0 ≤ o) (h : o < doms.length) : doms[o.toNat]? = some (dm doms o) := by
  have hl : o.toNat < doms.length := by omega
  unfold dm
  rw [List.getD_eq_getElem?_getD, List.getElem?_eq_getElem hl]
  rfl
theorem dm_mem {doms : List Dom} {o : Int} (h0 : 0 ≤ o) (h : o < doms.length) : dm doms o ∈ doms := List.mem_of_getElem? (dm_get h0 h)
theorem ix_dm {S : Sto} {n : Nat} {doms : List Dom} {o : Int} (e : S[n]? = some (.lst (doms.map dDom))) (h0 : 0 ≤ o) (h : o < doms.length) : gIx (.loc n) (.int o) S = .ok (dDom (dm doms o)) S :=
  DS.ix_seq (seq_loc e) (DS.atI_of h0 (by rw [List.getElem?_map, dm_get h0 h]; rfl))
theorem cmul_small {i j : Int} (h1 : -100000 ≤ i) (h2 : i ≤ 100000) : CMul i j := .inl ⟨by omega, by omega⟩
theorem lo_rg {d : Dom} (h : WD d) (hn : d ≠ []) : -50 ≤ lo d ∧ lo d ≤ 50 := by
  have := vals_head h hn
  exact h.vrg (List.mem_of_mem_head? this)
theorem hi_rg {d : Dom} (h : WD d) (hn : d ≠ []) : -50 ≤ hi d ∧ hi d ≤ 50 := by
  have := vals_last h hn
  exact h.vrg (List.mem_of_getLast? this)

/-! ### lists of ints, read -/
section
variable {S : Sto} {n : Nat} {ns : List Int} {v : Int}
theorem mapO_ints {k : Nat} : ∀ ns : List Int, mapO (toPy S k) (ns.map D.int) = some (ns.map PyData.int)
  | [] => rfl
  | m :: ns => by
    rw [List.map_cons, mapO, py_int, mapO_ints ns]
    rfl
theorem py_ints (h : S[n]? = some (.lst (ns.map .int))) : toPy S eqDeep (.loc n) = some (.list (ns.map .int)) := by
  show toPy S (63 + 1) (.loc n) = _
  unfold toPy
  simp only [h, mapO_ints]
  rfl
theorem lay_ints : ∀ ns : List Int, PyData.canLayAll0 (ns.map .int) = true ∧ PyData.depthAll (ns.map .int) = 0
  | [] => ⟨rfl, rfl⟩
  | m :: ns => by
    rw [List.map_cons]
    unfold PyData.canLayAll0 PyData.depthAll
    rw [(lay_ints ns).1, (lay_ints ns).2]
    unfold PyData.canLay0 PyData.depth
    exact ⟨rfl, rfl⟩
theorem shaped_ints : SeqAt.shaped (.list (ns.map .int)) = true := by
  unfold SeqAt.shaped PyData.canLay0 PyData.depth
  rw [(lay_ints ns).1, (lay_ints ns).2]
  rfl
theorem any_ints : ∀ ns : List Int, ((ns.map PyData.int).any fun z => PyData.eqv z (.int v)) = decide (v ∈ ns)
  | [] => by simp
  | m :: ns => by
    rw [List.map_cons, List.any_cons, any_ints ns]
    have e : PyData.eqv (.int m) (.int v) = decide (m = v) := by
      unfold PyData.eqv
      rfl
    rw [e]
    by_cases h : m = v
    · simp [h]
    · have h2 : v ≠ m := fun z => h z.symm
      simp [h, h2]
theorem inB_ints (h : S[n]? = some (.lst (ns.map .int))) : inB (.int v) (.loc n) S = some (decide (v ∈ ns)) := by
  unfold inB
  simp only [py_ints h, py_int, shaped_int, shaped_ints, any_ints]
  rfl
theorem in_ints (h : S[n]? = some (.lst (ns.map .int))) : gIn (.int v) (.loc n) S = .ok (.bl (decide (v ∈ ns))) S := by simp only [gIn, inB_ints h]
theorem notIn_ints (h : S[n]? = some (.lst (ns.map .int))) : gNotIn (.int v) (.loc n) S = .ok (.bl (!decide (v ∈ ns))) S := by simp only [gNotIn, inB_ints h]
theorem findP_ints : ∀ ns : List Int, v ∈ ns → findP (.int v) (ns.map .int) = some (ns.idxOf v)
  | [], h => by cases h
  | m :: ns, h => by
    rw [List.map_cons, findP]
    have e : PyData.eqv (.int m) (.int v) = decide (m = v) := by
      unfold PyData.eqv
      rfl
    rw [e]
    by_cases hm : m = v
    · subst hm
      simp
    · have h2 : v ∈ ns := (List.mem_cons.mp h).elim (fun z => absurd z.symm hm) id
      have e3 : (m :: ns).idxOf v = ns.idxOf v + 1 := by
        rw [List.idxOf_cons]
        have hb : (m == v) = false := by simpa using hm
        rw [hb]
        rfl
      rw [if_neg (by simp [hm]), findP_ints ns h2, e3]
      rfl
theorem index_ints (h : S[n]? = some (.lst (ns.map .int))) (hv : v ∈ ns) : gIndex (.loc n) [.int v] S = .ok (.int ((ns.idxOf v : Nat) : Int)) S := by
  simp only [gIndex, py_ints h, py_int, shaped_int, shaped_ints, findP_ints ns hv]
  rfl
end

/-! ### what a constraint allows -/
def Ep (doms : List Dom) (var value : Int) : Int → Int × Int := fun o => if o = var then (value, value) else (lo (dm doms o), hi (dm doms o))
def AS (doms : List Dom) (w : W3) (sums : List (Int × Int)) (b var value : Int) : Prop := match w with
  | .le => lsum (Ep doms var value) 0 sums ≤ b
  | .eq => lsum (Ep doms var value) 0 sums ≤ b ∧ b ≤ gsum (Ep doms var value) 0 sums
  | .ne => (∃ p ∈ sums, p.2 ≠ var ∧ lo (dm doms p.2) ≠ hi (dm doms p.2)) ∨ lsum (Ep doms var value) 0 sums ≠ b
def pr4 (a b c d : Int) : List Int := [a * c, a * d, b * c, b * d]
def mn4 (doms : List Dom) (x y : Int) : Int := minI (lo (dm doms x) * lo (dm doms y)) [lo (dm doms x) * hi (dm doms y), hi (dm doms x) * lo (dm doms y), hi (dm doms x) * hi (dm doms y)]
def mx4 (doms : List Dom) (x y : Int) : Int := maxI (lo (dm doms x) * lo (dm doms y)) [lo (dm doms x) * hi (dm doms y), hi (dm doms x) * lo (dm doms y), hi (dm doms x) * hi (dm doms y)]
def AF (doms : List Dom) (y z value : Int) : Prop := ∃ o ∈ rng (lo (dm doms y)) (hi (dm doms y)), lo (dm doms z) ≤ value * o ∧ value * o ≤ hi (dm doms z)
def AT (doms : List Dom) (x y z var value : Int) : Prop := (var = z → mn4 doms x y ≤ value ∧ value ≤ mx4 doms x y) ∧ (var = x → AF doms y z value) ∧ (var = y → AF doms x z value)
def AD (doms : List Dom) (vs : List Int) (var value : Int) : Prop := value ∈ vals (dm doms var) ∧ Sdr vs (fun x => if x = var then [value] else vals (dm doms x))
def AC (doms : List Dom) (var value : Int) : Cst → Prop
  | .sum w sums b => AS doms w sums b var value
  | .times x y z => AT doms x y z var value
  | .dist vs => AD doms vs var value
def AA (doms : List Dom) (c : Cst) (var value : Int) : Prop := var ∈ c.own → (∀ o ∈ c.own, dm doms o ≠ []) ∧ AC doms var value c
/-- the answer b says whether A -/
def Says (A : Prop) (d : D) : Prop := ∃ b : Bool, d = .bl b ∧ (b = true ↔ A)
theorem map_set_idx {own : List Int} (nd : own.Nodup) {α : Type} (f : Int → α) (a : α) {v : Int} (hv : v ∈ own) : (own.map f).set (own.idxOf v) a = own.map fun x => if x = v then a else f x := by
  refine List.ext_getElem (by simp) fun i h1 h2 => ?_
  have hi : i < own.length := by simpa using h2
  rw [List.getElem_set, List.getElem_map, List.getElem_map]
  by_cases e : own.idxOf v = i
  · have : own[i] = v := by
      subst e
      exact List.getElem_idxOf _
    rw [if_pos e, if_pos this]
  · have : own[i] ≠ v := by
      intro z
      refine e ?_
      rw [← z]
      exact (List.getElem_inj nd).mp (List.getElem_idxOf (List.idxOf_lt_length_of_mem (List.getElem_mem hi)))
    rw [if_neg e, if_neg this]

/-! ### the law's lists -/
section
variable {S : Sto} {n : Nat}
theorem Rows.ix {rl : List Nat} {doms : List Dom} {o : Int} (h : S[n]? = some (.lst (rl.map .loc))) (r : Rows S rl (doms.map vals)) (h0 : 0 ≤ o) (h1 : o < doms.length) : ∃ q, gIx (.loc n) (.int o) S = .ok (.loc q) S ∧ S[q]? = some (.lst ((vals (dm doms o)).map .int)) := by
  obtain ⟨q, e1, e2⟩ := r.get (i := o.toNat) (by rw [List.getElem?_map, dm_get h0 h1]; rfl)
  exact ⟨q, DS.ix_seq (seq_loc h) (DS.atI_of h0 (by rw [List.getElem?_map, e1]; rfl)), e2⟩
theorem ix_rl {rl : List Nat} {o : Int} {q : Nat} (h : S[n]? = some (.lst (rl.map .loc))) (e : rl[o.toNat]? = some q) (h0 : 0 ≤ o) : gIx (.loc n) (.int o) S = .ok (.loc q) S :=
  DS.ix_seq (seq_loc h) (DS.atI_of h0 (by rw [List.getElem?_map, e]; rfl))
theorem ix_l0 {a : D} {l : List D} (h : S[n]? = some (.lst (a :: l))) : gIx (.loc n) (.int 0) S = .ok a S := DS.ix_seq (seq_loc h) (DS.atI_nat (k := 0) rfl)
theorem ix_l1 {a b : D} {l : List D} (h : S[n]? = some (.lst (a :: b :: l))) : gIx (.loc n) (.int 1) S = .ok b S := DS.ix_seq (seq_loc h) (DS.atI_nat (k := 1) rfl)
theorem ix_first {d : Dom} (h : S[n]? = some (.lst ((vals d).map .int))) (hw : WD d) (hn : d ≠ []) : gIx (.loc n) (.int 0) S = .ok (.int (lo d)) S := by
  refine DS.ix_seq (seq_loc h) (DS.atI_nat (k := 0) ?_)
  have := vals_head hw hn
  rw [List.head?_eq_getElem?] at this
  rw [List.getElem?_map, this]
  rfl
theorem ix_final {d : Dom} (h : S[n]? = some (.lst ((vals d).map .int))) (hw : WD d) (hn : d ≠ []) : gIx (.loc n) (.int (((vals d).length : Nat) - 1)) S = .ok (.int (hi d)) S := by
  have h1 := vals_last hw hn
  have hl : 0 < (vals d).length := by
    cases e : vals d with
    | nil => rw [e] at h1; cases h1
    | cons => simp
  rw [List.getLast?_eq_getElem?] at h1
  have e : (((vals d).length : Nat) : Int) - 1 = (((vals d).length - 1 : Nat) : Int) := by omega
  rw [e]
  refine DS.ix_seq (seq_loc h) (DS.atI_nat ?_)
  rw [List.getElem?_map, h1]
  rfl
theorem min_vals {d : Dom} (h : S[n]? = some (.lst ((vals d).map .int))) (hw : WD d) (hn : d ≠ []) : gMin [.loc n] S = .ok (.int (lo d)) S := by
  cases e : vals d with
  | nil => exact absurd ((vals_nil hw).mp e) hn
  | cons k ns =>
    rw [e] at h
    rw [min_loc h, vals_min hw e]
theorem max_vals {d : Dom} (h : S[n]? = some (.lst ((vals d).map .int))) (hw : WD d) (hn : d ≠ []) : gMax [.loc n] S = .ok (.int (hi d)) S := by
  cases e : vals d with
  | nil => exact absurd ((vals_nil hw).mp e) hn
  | cons k ns =>
    rw [e] at h
    rw [max_loc h, vals_max hw e]
theorem add_loc {m : Nat} {xs ys : List D} (h1 : S[n]? = some (.lst xs)) (h2 : S[m]? = some (.lst ys)) (hz : xs.length + ys.length ≤ sizeLine) : gAdd (.loc n) (.loc m) S = .ok (.loc S.length) (S ++ [.lst (xs ++ ys)]) := by
  simp [gAdd, h1, h2, hz]
theorem rows_zip : ∀ {rl : List Nat} {rows : List (List Int)}, Rows S rl rows → rl.map D.loc = (rl.zip rows).map (fun p => D.loc p.1) ∧ (∀ p ∈ rl.zip rows, S[p.1]? = some (.lst (p.2.map .int))) ∧ (rl.zip rows).map (·.2) = rows
  | [], [], _ => ⟨rfl, (fun p hp => nomatch hp), rfl⟩
  | n :: ns, r :: rs, h => by
    obtain ⟨h1, h2, h3⟩ := rows_zip (rl := ns) (rows := rs) h.2
    refine ⟨?_, fun p hp => ?_, ?_⟩
    · rw [List.map_cons, h1]; rfl
    · rcases List.mem_cons.mp hp with e | hp
      · subst e; exact h.1
      · exact h2 p hp
    · exact congrArg (r :: ·) h3
  | [], _ :: _, h => h.elim
  | _ :: _, [], h => h.elim
end
end Fd

/-! FdS: the laws' drawn stream. -/
namespace Fd
open PySem L2 DS
structure StAt (S : Sto) (s c : Nat) (ns : List Int) (a b m : Int) : Prop where
  st : S[s]? = some (.lst [.loc c, .int a, .int b, .int m])
  sc : S[c]? = some (.lst (ns.map .int))
  ne : c ≠ s
  a0 : 0 ≤ a
  b0 : 0 ≤ b
  m0 : 0 ≤ m
  m1 : m < 2147483647
def StOk (s c : Nat) (ns : List Int) (S : Sto) : Prop := ∃ a b m, StAt S s c ns a b m
section
variable {S S' : Sto} {s c : Nat} {ns : List Int} {a b m : Int} {x y z w d : D} {n : Nat}
theorem ix4_1 (h : S[n]? = some (.lst [x, y, z, w])) : gIx (.loc n) (.int 1) S = .ok y S := DS.ix_seq (seq_loc h) (DS.atI_nat (k := 1) rfl)
theorem ix4_2 (h : S[n]? = some (.lst [x, y, z, w])) : gIx (.loc n) (.int 2) S = .ok z S := DS.ix_seq (seq_loc h) (DS.atI_nat (k := 2) rfl)
theorem ix4_3 (h : S[n]? = some (.lst [x, y, z, w])) : gIx (.loc n) (.int 3) S = .ok w S := DS.ix_seq (seq_loc h) (DS.atI_nat (k := 3) rfl)
theorem set4_1 (h : S[n]? = some (.lst [x, y, z, w])) : gSet (.loc n) (.int 1) d S = .ok () (S.set n (.lst [x, d, z, w])) := DS.set_lst (k := 1) h (show _ < 4 by decide)
theorem set4_2 (h : S[n]? = some (.lst [x, y, z, w])) : gSet (.loc n) (.int 2) d S = .ok () (S.set n (.lst [x, y, d, w])) := DS.set_lst (k := 2) h (show _ < 4 by decide)
theorem set4_3 (h : S[n]? = some (.lst [x, y, z, w])) : gSet (.loc n) (.int 3) d S = .ok () (S.set n (.lst [x, y, z, d])) := DS.set_lst (k := 3) h (show _ < 4 by decide)
theorem StAt.set {a' b' m' : Int} (h : StAt S s c ns a b m) (h1 : 0 ≤ a') (h2 : 0 ≤ b') (h3 : 0 ≤ m') (h4 : m' < 2147483647) : StAt (S.set s (.lst [.loc c, .int a', .int b', .int m'])) s c ns a' b' m' :=
  ⟨by rw [List.getElem?_set_self (List.getElem?_eq_some_iff.mp h.st).1], by rw [List.getElem?_set_ne (Ne.symm h.ne)]; exact h.sc, h.ne, h1, h2, h3, h4⟩
theorem StAt.fx {M : Nat → Prop} (h : StAt S s c ns a b m) (f : Fx M S S') (h1 : ¬ M s) (h2 : ¬ M c) : StAt S' s c ns a b m := ⟨f.get h1 h.st, f.get h2 h.sc, h.ne, h.a0, h.b0, h.m0, h.m1⟩
theorem StOk.fx {M : Nat → Prop} (h : StOk s c ns S) (f : Fx M S S') (h1 : ¬ M s) (h2 : ¬ M c) : StOk s c ns S' := by
  obtain ⟨a, b, m, h⟩ := h
  exact ⟨a, b, m, h.fx f h1 h2⟩
theorem StOk.pu (h : StOk s c ns S) (f : Fx Pu S S') : StOk s c ns S' := h.fx f id id
theorem StOk.set {o : Ob} (h : StOk s c ns S) (h1 : s ≠ n) (h2 : c ≠ n) : StOk s c ns (S.set n o) := by
  obtain ⟨a, b, m, h⟩ := h
  exact ⟨a, b, m, ⟨by rw [List.getElem?_set_ne (Ne.symm h1)]; exact h.st, by rw [List.getElem?_set_ne (Ne.symm h2)]; exact h.sc, h.ne, h.a0, h.b0, h.m0, h.m1⟩⟩
theorem StOk.lt (h : StOk s c ns S) : s < S.length ∧ c < S.length := by
  obtain ⟨a, b, m, h⟩ := h
  exact ⟨(List.getElem?_eq_some_iff.mp h.st).1, (List.getElem?_eq_some_iff.mp h.sc).1⟩
end
/-- a comprehension whose items draw -/
theorem ws_compS {s c : Nat} {ns : List Int} {b : FB} {chk : Sto → Prop} {Q : RS → Prop} {ρ ρ' : En} {S : Sto} {k : D → Sto → RS} {fe : FE} {items : List D} (Pd : D → Prop) (h : StOk s c ns S) (hchk : ∀ S', Fx (At s) S S' → chk S') (hz : items.length < sizeLine)
    (hs : ∀ d ∈ items, ∀ S', StOk s c ns S' → Fx (At s) S S' → ∃ ρ1, b d ρ S' = some ρ1 ∧ Ev (fe ρ1 S') fun y S2 => Pd y ∧ StOk s c ns S2 ∧ Fx (At s) S' S2)
    (he : ∀ S' ys, StOk s c ns S' → Fx (At s) S S' → S'[S.length]? = some (.lst ys) → ys.length = items.length → (∀ y ∈ ys, Pd y) → WS (k (.loc S.length) S') Q) :
    WS ((compL b tYesD fe chk S.length ρ items (S ++ [.lst []])).toS ρ' k) Q := by
  have hl := h.lt
  refine Ev.ws (ev_comp (P := fun d S' => d = .loc S.length ∧ ∃ ys, StOk s c ns S' ∧ Fx (At s) S S' ∧ S'[S.length]? = some (.lst ys) ∧ ys.length = items.length ∧ ∀ y ∈ ys, Pd y)
    (fun ds acc S' => ∃ dn, items = dn ++ ds ∧ acc.length = dn.length ∧ (∀ y ∈ acc, Pd y) ∧ StOk s c ns S' ∧ Fx (At s) S S') get_end ⟨[], rfl, rfl, (fun y hy => nomatch hy), h.pu Fx.one, Fx.one⟩ ?_ ?_) fun a S' ⟨h1, ys, h2, h3, h4, h5, h6⟩ => by
      subst h1
      exact he S' ys h2 h3 h4 h5 h6
  · rintro d ds acc S' ⟨dn, e1, e2, e3, e4, e5⟩ hacc
    obtain ⟨ρ1, k1, k2⟩ := hs d (by rw [e1]; simp) S' e4 e5
    refine ⟨hchk S' e5, ρ1, k1, ?_⟩
    show Ev (R.ok true S') _
    simp only [ev_ok, if_pos]
    refine k2.imp fun y S2 ⟨q1, q2, q3⟩ => ?_
    have hd : dn.length < items.length := by rw [e1]; simp
    refine ⟨q3.get (show S.length ≠ s by omega) hacc, by omega, dn ++ [d], by rw [e1]; simp, by simp [e2], fun z hz => ?_, q2.set (by omega) (by omega), (e5.trans q3).set fun z => absurd z (Nat.lt_irrefl _)⟩
    rcases List.mem_append.mp hz with hz | hz
    · exact e3 z hz
    · rw [List.mem_singleton] at hz; subst hz; exact q1
  · rintro acc S' ⟨dn, e1, e2, e3, e4, e5⟩ hacc
    rw [List.append_nil] at e1
    subst e1
    exact ⟨hchk S' e5, rfl, acc, e4, e5, hacc, e2, e3⟩
theorem StOk.ne_ints {s c : Nat} {ns : List Int} {S : Sto} (h : StOk s c ns S) {n : Nat} {l : List Int} (e : S[n]? = some (.lst (l.map .int))) : n ≠ s := fun z => by
  subst z
  obtain ⟨a, b, m, hst⟩ := h
  rw [hst.st] at e
  cases l with
  | nil => cases e
  | cons x l => cases e
theorem Rows.at_ {s c : Nat} {ns : List Int} {S S' : Sto} (h : StOk s c ns S) (f : Fx (At s) S S') : ∀ {rl : List Nat} {rows : List (List Int)}, Rows S rl rows → Rows S' rl rows
  | [], [], _ => trivial
  | n :: ns, q :: rs, r => ⟨f.get (h.ne_ints r.1) r.1, Rows.at_ h f (rl := ns) r.2⟩
  | [], _ :: _, h => h.elim
  | _ :: _, [], h => h.elim
/-! lists of domains, compared -/
def pyP (p : Int × Int) : PyData := .tuple [.int p.1, .int p.2]
def pyDom (d : Dom) : PyData := .tuple (d.map pyP)
section
variable {S : Sto} {n m : Nat} {doms : List Dom}
theorem mapO_map {α : Type} {f : D → Option PyData} {g : α → D} {p : α → PyData} (h : ∀ a, f (g a) = some (p a)) : ∀ as : List α, mapO f (as.map g) = some (as.map p)
  | [] => rfl
  | a :: as => by
    rw [List.map_cons, mapO, h a, mapO_map h as]
    rfl
theorem py_p {k : Nat} (p : Int × Int) : toPy S (k + 1) (dP p) = some (pyP p) := by
  unfold toPy dP
  simp only [mapO, py_int]
  rfl
theorem py_dom {k : Nat} (d : Dom) : toPy S (k + 2) (dDom d) = some (pyDom d) := by
  unfold toPy dDom
  simp only [mapO_map (fun p => py_p (S := S) (k := k) p)]
  rfl
theorem py_doms (h : S[n]? = some (.lst (doms.map dDom))) : toPy S eqDeep (.loc n) = some (.list (doms.map pyDom)) := by
  show toPy S (61 + 2 + 1) (.loc n) = _
  unfold toPy
  simp only [h, mapO_map (fun d => py_dom (S := S) (k := 61) d)]
  rfl
theorem lay_p (p : Int × Int) : (pyP p).canLay0 = true ∧ (pyP p).depth = 1 := by
  unfold pyP
  simp [PyData.canLay0, PyData.canLayAll0, PyData.depth, PyData.depthAll]
theorem lay_ps : ∀ d : Dom, PyData.canLayAll0 (d.map pyP) = true ∧ PyData.depthAll (d.map pyP) ≤ 1
  | [] => ⟨rfl, by simp [PyData.depthAll]⟩
  | p :: d => by
    rw [List.map_cons]
    unfold PyData.canLayAll0 PyData.depthAll
    rw [(lay_p p).1, (lay_p p).2, (lay_ps d).1]
    have := (lay_ps d).2
    exact ⟨rfl, by omega⟩
theorem lay_doms : ∀ doms : List Dom, PyData.canLayAll0 (doms.map pyDom) = true ∧ PyData.depthAll (doms.map pyDom) ≤ 2
  | [] => ⟨rfl, by simp [PyData.depthAll]⟩
  | d :: doms => by
    rw [List.map_cons]
    unfold PyData.canLayAll0 PyData.depthAll
    have h1 := lay_doms doms
    have h2 := lay_ps d
    have e1 : (pyDom d).canLay0 = true := by unfold pyDom PyData.canLay0; exact h2.1
    have e2 : (pyDom d).depth ≤ 2 := by unfold pyDom PyData.depth; omega
    rw [e1, h1.1]
    exact ⟨rfl, by omega⟩
theorem lay_list : (PyData.list (doms.map pyDom)).canLay0 = true := by unfold PyData.canLay0; exact (lay_doms doms).1
theorem shaped_doms : SeqAt.shaped (.list (doms.map pyDom)) = true := by
  unfold SeqAt.shaped
  rw [lay_list]
  unfold PyData.depth
  have := (lay_doms doms).2
  simp
  omega
theorem ne_doms (h1 : S[n]? = some (.lst (doms.map dDom))) (h2 : S[m]? = some (.lst (doms.map dDom))) : gNe (.loc n) (.loc m) S = .ok (.bl false) S := by
  unfold gNe
  simp only [py_doms h1, py_doms h2, shaped_doms, and_self, if_true]
  rw [SeqAt.eqv_refl _ lay_list]
  rfl
end
end Fd

/-! K56S: printed by gen.py: the meanings of the defs -/
namespace K56
open PySem L2 DS PyProof.Rows
def top (i : Nat) : Stmt := PySem.Challenge.pw_hornbook_k56_allowed_values.main.body.getD i (.Pass ⟨0, 0, 0, 0⟩)
abbrev st_is_value : Stmt := top 5
theorem sc_is_value : FnScope ["value"] ["value"] (defScope st_is_value) := ⟨rfl, rfl, rfl, by decide +kernel, rfl, by decide +kernel, by decide +kernel⟩
noncomputable def f_is_value_body : FS := sRet (eAnd (eN gIsi (aCons (eVar 0) (aCons (eC (.ty "int")) (aNil)))) (eAnd (eNot (eN gIsi (aCons (eVar 0) (aCons (eC (.ty "bool")) (aNil))))) (eChain gLe gLe (e1 gNeg (eC (.int (50)))) (eVar 0) (eC (.int (50))))))
noncomputable def f_is_value : List D → Sto → R D := runF 1 f_is_value_body
def d_is_value : He.DefD := ⟨("is_value", none), "is_value", "is_value", defArgs st_is_value, defBody st_is_value, defScope st_is_value, [], []⟩
abbrev st_values : Stmt := top 6
theorem sc_values : FnScope ["given", "found", "low", "high"] ["given"] (defScope st_values) := ⟨rfl, rfl, rfl, by decide +kernel, rfl, by decide +kernel, by decide +kernel⟩
noncomputable def values_b1 : FS := sEx (eM gExt (eVar 1) (aCons (eRgL2 (eVar 2) (e2 gAdd (eVar 3) (eC (.int 1)))) (aNil)))
noncomputable def f_values_body : FS := sSeq (sAsg (eLst (aNil)) (bName 1)) (sSeq (sFor (iSq (eVar 0)) (bTup [2, 3]) values_b1) (sRet (eVar 1)))
noncomputable def f_values : List D → Sto → R D := runF 4 f_values_body
def d_values : He.DefD := ⟨("values", none), "values", "values", defArgs st_values, defBody st_values, defScope st_values, [], []⟩
abbrev st_is_interval : Stmt := top 7
theorem sc_is_interval : FnScope ["value"] ["value"] (defScope st_is_interval) := ⟨rfl, rfl, rfl, by decide +kernel, rfl, by decide +kernel, by decide +kernel⟩
noncomputable def f_is_interval_body : FS := sSeq (sIf (tOrD (tNotD (tTr (eN gIsi (aCons (eVar 0) (aCons (eC (.ty "tuple")) (aNil)))))) (tBl (e2 gNe (eN gLen (aCons (eVar 0) (aNil))) (eC (.int 2))))) (sRet (eC (.bl false))) (sNx)) (sRet (eAnd (eCall f_is_value [] (aCons (e2 gIx (eVar 0) (eC (.int 0))) (aNil))) (eAnd (eCall f_is_value [] (aCons (e2 gIx (eVar 0) (eC (.int 1))) (aNil))) (e2 gLe (e2 gIx (eVar 0) (eC (.int 0))) (e2 gIx (eVar 0) (eC (.int 1)))))))
noncomputable def f_is_interval : List D → Sto → R D := runF 1 f_is_interval_body
def d_is_interval : He.DefD := ⟨("is_interval", none), "is_interval", "is_interval", defArgs st_is_interval, defBody st_is_interval, defScope st_is_interval, [], []⟩
abbrev st_is_domain : Stmt := top 8
theorem sc_is_domain : FnScope ["value", "row", "a", "b"] ["value"] (defScope st_is_domain) := ⟨rfl, rfl, rfl, by decide +kernel, rfl, by decide +kernel, by decide +kernel⟩
noncomputable def is_domain_b1 : FS := sIf (tNotD (tTr (eCall f_is_interval [] (aCons (eVar 1) (aNil))))) (sRet (eC (.bl false))) (sNx)
noncomputable def is_domain_e1 : FE := e2 gLt (e2 gAdd (e2 gIx (eVar 2) (eC (.int 1))) (eC (.int 1))) (e2 gIx (eVar 3) (eC (.int 0)))
noncomputable def f_is_domain_body : FS := sSeq (sIf (tNotD (tTr (eN gIsi (aCons (eVar 0) (aCons (eC (.ty "tuple")) (aNil)))))) (sRet (eC (.bl false))) (sNx)) (sSeq (sFor (iSq (eVar 0)) (bName 1) is_domain_b1) (sRet (eN gAll (aCons (eLc (iZip (eVar 0) (eSl (eVar 0) (oSome (eC (.int 1))) (oNone))) (bTup [2, 3]) (tYesD) (is_domain_e1) [2, 3]) (aNil)))))
noncomputable def f_is_domain : List D → Sto → R D := runF 4 f_is_domain_body
def d_is_domain : He.DefD := ⟨("is_domain", none), "is_domain", "is_domain", defArgs st_is_domain, defBody st_is_domain, defScope st_is_domain, [], []⟩
abbrev st_Matchingu_initu : Stmt := inClass (top 10) 0
theorem sc_Matchingu_initu : FnScope ["self", "given", "row"] ["self", "given"] (defScope st_Matchingu_initu) := ⟨rfl, rfl, rfl, by decide +kernel, rfl, by decide +kernel, by decide +kernel⟩
noncomputable def Matchingu_initu_e1 : FE := eCall f_values [] (aCons (eVar 2) (aNil))
noncomputable def f_Matchingu_initu_body : FS := sSeq (sFldD 2 "rows" (eVar 0) (eLc (iSq (eVar 1)) (bName 2) (tYesD) (Matchingu_initu_e1) [2])) (sFldD 2 "owners" (eVar 0) (eDct))
noncomputable def f_Matchingu_initu : List D → Sto → R D := runF 3 f_Matchingu_initu_body
def d_Matchingu_initu : He.DefD := ⟨("Matching", some "__init__"), "__init__", "Matching.__init__", defArgs st_Matchingu_initu, defBody st_Matchingu_initu, defScope st_Matchingu_initu, [], []⟩
abbrev st_Matching_place : Stmt := inClass (top 10) 1
theorem sc_Matching_place : FnScope ["self", "variable", "met", "value", "owner"] ["self", "variable", "met"] (defScope st_Matching_place) := ⟨rfl, rfl, rfl, by decide +kernel, rfl, by decide +kernel, by decide +kernel⟩
noncomputable def Matching_place_b1 (rc : List D → Sto → R D) : FS := sIf (tBl (e2 gNotIn (eVar 3) (e1 (gFld 2 "owners") (eVar 0)))) (sSeq (sSet (e1 (gFld 2 "owners") (eVar 0)) (eVar 3) (eVar 1)) (sRet (eC (.bl true)))) (sNx)
noncomputable def Matching_place_b2 (rc : List D → Sto → R D) : FS := sSeq (sAsg (e2 gIx (e1 (gFld 2 "owners") (eVar 0)) (eVar 3)) (bName 4)) (sIf (tAndD (tBl (e2 gNotIn (eVar 4) (eVar 2))) (tTr (eMeth 2 "place" rc [] (eVar 0) (aCons (eVar 4) (aCons (eVar 2) (aNil)))))) (sSeq (sSet (e1 (gFld 2 "owners") (eVar 0)) (eVar 3) (eVar 1)) (sRet (eC (.bl true)))) (sNx))
noncomputable def f_Matching_place_body (rc : List D → Sto → R D) : FS := sSeq (sSet (eVar 2) (eVar 1) (eC (.bl true))) (sSeq (sFor (iSq (e2 gIx (e1 (gFld 2 "rows") (eVar 0)) (eVar 1))) (bName 3) (Matching_place_b1 rc)) (sSeq (sFor (iSq (e2 gIx (e1 (gFld 2 "rows") (eVar 0)) (eVar 1))) (bName 3) (Matching_place_b2 rc)) (sRet (eC (.bl false)))))
noncomputable def f_Matching_place : Nat → List D → Sto → R D
  | 0 => fun _ _ => .no
  | n + 1 => runF 5 (f_Matching_place_body (f_Matching_place n))
def d_Matching_place : He.DefD := ⟨("Matching", some "place"), "place", "Matching.place", defArgs st_Matching_place, defBody st_Matching_place, defScope st_Matching_place, [], []⟩
abbrev st_Matching_chosen : Stmt := inClass (top 10) 2
theorem sc_Matching_chosen : FnScope ["self", "found", "value", "_"] ["self"] (defScope st_Matching_chosen) := ⟨rfl, rfl, rfl, by decide +kernel, rfl, by decide +kernel, by decide +kernel⟩
noncomputable def Matching_chosen_e1 : FE := eC (.int 0)
noncomputable def Matching_chosen_b1 : FS := sSet (eVar 1) (e2 gIx (e1 (gFld 2 "owners") (eVar 0)) (eVar 2)) (eVar 2)
noncomputable def f_Matching_chosen_body : FS := sSeq (sAsg (eLc (iSq (e1 (gFld 2 "rows") (eVar 0))) (bName 3) (tYesD) (Matching_chosen_e1) [3]) (bName 1)) (sSeq (sForK (e1 (gFld 2 "owners") (eVar 0)) (bName 2) Matching_chosen_b1) (sRet (eVar 1)))
noncomputable def f_Matching_chosen : List D → Sto → R D := runF 4 f_Matching_chosen_body
def d_Matching_chosen : He.DefD := ⟨("Matching", some "chosen"), "chosen", "Matching.chosen", defArgs st_Matching_chosen, defBody st_Matching_chosen, defScope st_Matching_chosen, [], []⟩
abbrev st_distinct_values : Stmt := top 11
theorem sc_distinct_values : FnScope ["given", "matching", "variable", "met"] ["given"] (defScope st_distinct_values) := ⟨rfl, rfl, rfl, by decide +kernel, rfl, by decide +kernel, by decide +kernel⟩
noncomputable def distinct_values_b1 : FS := sSeq (sAsg (eDct) (bName 3)) (sIf (tNotD (tTr (eMeth 2 "place" (f_Matching_place 20) [] (eVar 1) (aCons (eVar 2) (aCons (eVar 3) (aNil)))))) (sRet (eTup (aCons (eC .non) (aCons (eN gSorted (aCons (eVar 3) (aNil))) (aNil))))) (sNx))
noncomputable def f_distinct_values_body : FS := sSeq (sAsg (eMake 2 f_Matchingu_initu [] (aCons (eVar 0) (aNil))) (bName 1)) (sSeq (sFor (iR1 (eN gLen (aCons (eVar 0) (aNil)))) (bName 2) distinct_values_b1) (sRet (eTup (aCons (eMeth 2 "chosen" f_Matching_chosen [] (eVar 1) (aNil)) (aCons (eC .non) (aNil))))))
noncomputable def f_distinct_values : List D → Sto → R D := runF 4 f_distinct_values_body
def d_distinct_values : He.DefD := ⟨("distinct_values", none), "distinct_values", "distinct_values", defArgs st_distinct_values, defBody st_distinct_values, defScope st_distinct_values, [], []⟩
abbrev st_is_integer_to : Stmt := top 17
theorem sc_is_integer_to : FnScope ["value", "bound"] ["value", "bound"] (defScope st_is_integer_to) := ⟨rfl, rfl, rfl, by decide +kernel, rfl, by decide +kernel, by decide +kernel⟩
noncomputable def f_is_integer_to_body : FS := sRet (eAnd (eN gIsi (aCons (eVar 0) (aCons (eC (.ty "int")) (aNil)))) (eAnd (eNot (eN gIsi (aCons (eVar 0) (aCons (eC (.ty "bool")) (aNil))))) (eChain gLe gLe (e1 gNeg (eVar 1)) (eVar 0) (eVar 1))))
noncomputable def f_is_integer_to : List D → Sto → R D := runF 2 f_is_integer_to_body
def d_is_integer_to : He.DefD := ⟨("is_integer_to", none), "is_integer_to", "is_integer_to", defArgs st_is_integer_to, defBody st_is_integer_to, defScope st_is_integer_to, [], []⟩
abbrev st_are_variables : Stmt := top 18
theorem sc_are_variables : FnScope ["value", "many", "row"] ["value", "many"] (defScope st_are_variables) := ⟨rfl, rfl, rfl, by decide +kernel, rfl, by decide +kernel, by decide +kernel⟩
noncomputable def are_variables_b1 : FS := sIf (tOrD (tNotD (tTr (eCall f_is_integer_to [] (aCons (eVar 2) (aCons (eVar 1) (aNil)))))) (tNotD (tBl (eChain gLe gLt (eC (.int 0)) (eVar 2) (eVar 1))))) (sRet (eC (.bl false))) (sNx)
noncomputable def f_are_variables_body : FS := sSeq (sIf (tNotD (tTr (eN gIsi (aCons (eVar 0) (aCons (eC (.ty "tuple")) (aNil)))))) (sRet (eC (.bl false))) (sNx)) (sSeq (sFor (iSq (eVar 0)) (bName 2) are_variables_b1) (sRet (e2 gEq (eLenSet (eVar 0)) (eN gLen (aCons (eVar 0) (aNil))))))
noncomputable def f_are_variables : List D → Sto → R D := runF 3 f_are_variables_body
def d_are_variables : He.DefD := ⟨("are_variables", none), "are_variables", "are_variables", defArgs st_are_variables, defBody st_are_variables, defScope st_are_variables, [], []⟩
abbrev st_are_sums : Stmt := top 19
theorem sc_are_sums : FnScope ["value", "many", "row"] ["value", "many"] (defScope st_are_sums) := ⟨rfl, rfl, rfl, by decide +kernel, rfl, by decide +kernel, by decide +kernel⟩
noncomputable def are_sums_b1 : FS := sIf (tOrD (tNotD (tTr (eN gIsi (aCons (eVar 2) (aCons (eC (.ty "tuple")) (aNil)))))) (tOrD (tBl (e2 gNe (eN gLen (aCons (eVar 2) (aNil))) (eC (.int 2)))) (tOrD (tNotD (tTr (eCall f_is_integer_to [] (aCons (e2 gIx (eVar 2) (eC (.int 0))) (aCons (eC (.int (20))) (aNil)))))) (tBl (e2 gEq (e2 gIx (eVar 2) (eC (.int 0))) (eC (.int 0))))))) (sRet (eC (.bl false))) (sNx)
noncomputable def are_sums_e1 : FE := e2 gIx (eVar 2) (eC (.int 1))
noncomputable def f_are_sums_body : FS := sSeq (sIf (tOrD (tNotD (tTr (eN gIsi (aCons (eVar 0) (aCons (eC (.ty "tuple")) (aNil)))))) (tBl (e2 gGt (eN gLen (aCons (eVar 0) (aNil))) (eC (.int (6)))))) (sRet (eC (.bl false))) (sNx)) (sSeq (sFor (iSq (eVar 0)) (bName 2) are_sums_b1) (sRet (eCall f_are_variables [] (aCons (eN gTuple (aCons (eLc (iSq (eVar 0)) (bName 2) (tYesD) (are_sums_e1) [2]) (aNil))) (aCons (eVar 1) (aNil))))))
noncomputable def f_are_sums : List D → Sto → R D := runF 3 f_are_sums_body
def d_are_sums : He.DefD := ⟨("are_sums", none), "are_sums", "are_sums", defArgs st_are_sums, defBody st_are_sums, defScope st_are_sums, [], []⟩
abbrev st_is_constraint : Stmt := top 20
theorem sc_is_constraint : FnScope ["value", "many", "row"] ["value", "many"] (defScope st_is_constraint) := ⟨rfl, rfl, rfl, by decide +kernel, rfl, by decide +kernel, by decide +kernel⟩
noncomputable def is_constraint_e1 : FE := eCall f_are_variables [] (aCons (eTup (aCons (eVar 2) (aNil))) (aCons (eVar 1) (aNil)))
noncomputable def f_is_constraint_body : FS := sSeq (sIf (tOrD (tNotD (tTr (eN gIsi (aCons (eVar 0) (aCons (eC (.ty "tuple")) (aNil)))))) (tBl (e2 gLt (eN gLen (aCons (eVar 0) (aNil))) (eC (.int 2))))) (sRet (eC (.bl false))) (sNx)) (sSeq (sIf (tBl (e2 gIn (e2 gIx (eVar 0) (eC (.int 0))) (eTup (aCons (eC (.str "le")) (aCons (eC (.str "eq")) (aCons (eC (.str "ne")) (aNil))))))) (sRet (eAnd (e2 gEq (eN gLen (aCons (eVar 0) (aNil))) (eC (.int 3))) (eAnd (eCall f_are_sums [] (aCons (e2 gIx (eVar 0) (eC (.int 1))) (aCons (eVar 1) (aNil)))) (eCall f_is_integer_to [] (aCons (e2 gIx (eVar 0) (eC (.int 2))) (aCons (eC (.int (10000))) (aNil))))))) (sNx)) (sSeq (sIf (tBl (e2 gEq (e2 gIx (eVar 0) (eC (.int 0))) (eC (.str "times")))) (sRet (eAnd (e2 gEq (eN gLen (aCons (eVar 0) (aNil))) (eC (.int 4))) (eN gAll (aCons (eLc (iSq (eSl (eVar 0) (oSome (eC (.int 1))) (oNone))) (bName 2) (tYesD) (is_constraint_e1) [2]) (aNil))))) (sNx)) (sSeq (sIf (tOrD (tBl (e2 gNe (e2 gIx (eVar 0) (eC (.int 0))) (eC (.str "distinct")))) (tBl (e2 gNe (eN gLen (aCons (eVar 0) (aNil))) (eC (.int 2))))) (sRet (eC (.bl false))) (sNx)) (sRet (eAnd (eCall f_are_variables [] (aCons (e2 gIx (eVar 0) (eC (.int 1))) (aCons (eVar 1) (aNil)))) (eChain gLe gLe (eC (.int 1)) (eN gLen (aCons (e2 gIx (eVar 0) (eC (.int 1))) (aNil))) (eC (.int (12)))))))))
noncomputable def f_is_constraint : List D → Sto → R D := runF 3 f_is_constraint_body
def d_is_constraint : He.DefD := ⟨("is_constraint", none), "is_constraint", "is_constraint", defArgs st_is_constraint, defBody st_is_constraint, defScope st_is_constraint, [], []⟩
abbrev st_check_problem : Stmt := top 21
theorem sc_check_problem : FnScope ["domains", "constraints", "row"] ["domains", "constraints"] (defScope st_check_problem) := ⟨rfl, rfl, rfl, by decide +kernel, rfl, by decide +kernel, by decide +kernel⟩
noncomputable def check_problem_e1 : FE := eCall f_is_domain [] (aCons (eVar 2) (aNil))
noncomputable def check_problem_e2 : FE := eCall f_is_constraint [] (aCons (eVar 2) (aCons (eN gLen (aCons (eVar 0) (aNil))) (aNil)))
noncomputable def f_check_problem_body : FS := sSeq (sIf (tOrD (tBl (e2 gGt (eN gLen (aCons (eVar 0) (aNil))) (eC (.int (12))))) (tNotD (tTr (eN gAll (aCons (eLc (iSq (eVar 0)) (bName 2) (tYesD) (check_problem_e1) [2]) (aNil)))))) (sRaise 1) (sNx)) (sIf (tNotD (tTr (eN gAll (aCons (eLc (iSq (eVar 1)) (bName 2) (tYesD) (check_problem_e2) [2]) (aNil))))) (sRaise 1) (sNx))
noncomputable def f_check_problem : List D → Sto → R D := runF 3 f_check_problem_body
def d_check_problem : He.DefD := ⟨("check_problem", none), "check_problem", "check_problem", defArgs st_check_problem, defBody st_check_problem, defScope st_check_problem, [], []⟩
abbrev st_variables_of : Stmt := top 22
theorem sc_variables_of : FnScope ["constraint", "row"] ["constraint"] (defScope st_variables_of) := ⟨rfl, rfl, rfl, by decide +kernel, rfl, by decide +kernel, by decide +kernel⟩
noncomputable def variables_of_e1 : FE := e2 gIx (eVar 1) (eC (.int 1))
noncomputable def f_variables_of_body : FS := sSeq (sIf (tBl (e2 gEq (e2 gIx (eVar 0) (eC (.int 0))) (eC (.str "times")))) (sRet (eN gList (aCons (eSl (eVar 0) (oSome (eC (.int 1))) (oNone)) (aNil)))) (sNx)) (sSeq (sIf (tBl (e2 gEq (e2 gIx (eVar 0) (eC (.int 0))) (eC (.str "distinct")))) (sRet (eN gList (aCons (e2 gIx (eVar 0) (eC (.int 1))) (aNil)))) (sNx)) (sRet (eLc (iSq (e2 gIx (eVar 0) (eC (.int 1)))) (bName 1) (tYesD) (variables_of_e1) [1])))
noncomputable def f_variables_of : List D → Sto → R D := runF 2 f_variables_of_body
def d_variables_of : He.DefD := ⟨("variables_of", none), "variables_of", "variables_of", defArgs st_variables_of, defBody st_variables_of, defScope st_variables_of, [], []⟩
abbrev st_least_sum : Stmt := top 23
theorem sc_least_sum : FnScope ["domains", "sums", "variable", "value", "total", "factor", "other", "low", "high"] ["domains", "sums", "variable", "value"] (defScope st_least_sum) := ⟨rfl, rfl, rfl, by decide +kernel, rfl, by decide +kernel, by decide +kernel⟩
noncomputable def least_sum_b1 : FS := sSeq (sPar 7 8 (aCons (e2 gIx (e2 gIx (e2 gIx (eVar 0) (eVar 6)) (eC (.int 0))) (eC (.int 0))) (aCons (e2 gIx (e2 gIx (e2 gIx (eVar 0) (eVar 6)) (e1 gNeg (eC (.int 1)))) (eC (.int 1))) (aNil)))) (sSeq (sIf (tBl (e2 gEq (eVar 6) (eVar 2))) (sPar 7 8 (aCons (eVar 3) (aCons (eVar 3) (aNil)))) (sNx)) (sAug 4 (eN gMin (aCons (e2 gMul (eVar 5) (eVar 7)) (aCons (e2 gMul (eVar 5) (eVar 8)) (aNil)))) gIAdd))
noncomputable def f_least_sum_body : FS := sSeq (sAsg (eC (.int 0)) (bName 4)) (sSeq (sFor (iSq (eVar 1)) (bTup [5, 6]) least_sum_b1) (sRet (eVar 4)))
noncomputable def f_least_sum : List D → Sto → R D := runF 9 f_least_sum_body
def d_least_sum : He.DefD := ⟨("least_sum", none), "least_sum", "least_sum", defArgs st_least_sum, defBody st_least_sum, defScope st_least_sum, [], []⟩
abbrev st_greatest_sum : Stmt := top 24
theorem sc_greatest_sum : FnScope ["domains", "sums", "variable", "value", "factor", "other"] ["domains", "sums", "variable", "value"] (defScope st_greatest_sum) := ⟨rfl, rfl, rfl, by decide +kernel, rfl, by decide +kernel, by decide +kernel⟩
noncomputable def greatest_sum_e1 : FE := eTup (aCons (e1 gNeg (eVar 4)) (aCons (eVar 5) (aNil)))
noncomputable def f_greatest_sum_body : FS := sRet (e1 gNeg (eCall f_least_sum [] (aCons (eVar 0) (aCons (eLc (iSq (eVar 1)) (bTup [4, 5]) (tYesD) (greatest_sum_e1) [4, 5]) (aCons (eVar 2) (aCons (eVar 3) (aNil)))))))
noncomputable def f_greatest_sum : List D → Sto → R D := runF 6 f_greatest_sum_body
def d_greatest_sum : He.DefD := ⟨("greatest_sum", none), "greatest_sum", "greatest_sum", defArgs st_greatest_sum, defBody st_greatest_sum, defScope st_greatest_sum, [], []⟩
abbrev st_allows_sum : Stmt := top 25
theorem sc_allows_sum : FnScope ["domains", "constraint", "variable", "value", "word", "sums", "bound", "low", "high", "factor", "other"] ["domains", "constraint", "variable", "value"] (defScope st_allows_sum) := ⟨rfl, rfl, rfl, by decide +kernel, rfl, by decide +kernel, by decide +kernel⟩
noncomputable def allows_sum_b1 : FS := sIf (tAndD (tBl (e2 gNe (eVar 10) (eVar 2))) (tBl (e2 gNe (e2 gIx (e2 gIx (e2 gIx (eVar 0) (eVar 10)) (eC (.int 0))) (eC (.int 0))) (e2 gIx (e2 gIx (e2 gIx (eVar 0) (eVar 10)) (e1 gNeg (eC (.int 1)))) (eC (.int 1)))))) (sRet (eC (.bl true))) (sNx)
noncomputable def f_allows_sum_body : FS := sSeq (sAsg (eVar 1) (bTup [4, 5, 6])) (sSeq (sAsg (eCall f_least_sum [] (aCons (eVar 0) (aCons (eVar 5) (aCons (eVar 2) (aCons (eVar 3) (aNil)))))) (bName 7)) (sSeq (sAsg (eCall f_greatest_sum [] (aCons (eVar 0) (aCons (eVar 5) (aCons (eVar 2) (aCons (eVar 3) (aNil)))))) (bName 8)) (sSeq (sIf (tBl (e2 gEq (eVar 4) (eC (.str "le")))) (sRet (e2 gLe (eVar 7) (eVar 6))) (sNx)) (sSeq (sIf (tBl (e2 gEq (eVar 4) (eC (.str "eq")))) (sRet (eChain gLe gLe (eVar 7) (eVar 6) (eVar 8))) (sNx)) (sSeq (sFor (iSq (eVar 5)) (bTup [9, 10]) allows_sum_b1) (sRet (e2 gNe (eVar 7) (eVar 6))))))))
noncomputable def f_allows_sum : List D → Sto → R D := runF 11 f_allows_sum_body
def d_allows_sum : He.DefD := ⟨("allows_sum", none), "allows_sum", "allows_sum", defArgs st_allows_sum, defBody st_allows_sum, defScope st_allows_sum, [], []⟩
abbrev st_allows_factor : Stmt := top 26
theorem sc_allows_factor : FnScope ["first", "last", "product", "value", "low", "high", "other"] ["first", "last", "product", "value"] (defScope st_allows_factor) := ⟨rfl, rfl, rfl, by decide +kernel, rfl, by decide +kernel, by decide +kernel⟩
noncomputable def allows_factor_e1 : FE := eChain gLe gLe (eVar 4) (e2 gMul (eVar 3) (eVar 6)) (eVar 5)
noncomputable def f_allows_factor_body : FS := sSeq (sAsg (eTup (aCons (e2 gIx (e2 gIx (eVar 2) (eC (.int 0))) (eC (.int 0))) (aCons (e2 gIx (e2 gIx (eVar 2) (e1 gNeg (eC (.int 1)))) (eC (.int 1))) (aNil)))) (bTup [4, 5])) (sRet (eN gAny (aCons (eLc (iR2 (eVar 0) (e2 gAdd (eVar 1) (eC (.int 1)))) (bName 6) (tYesD) (allows_factor_e1) [6]) (aNil))))
noncomputable def f_allows_factor : List D → Sto → R D := runF 7 f_allows_factor_body
def d_allows_factor : He.DefD := ⟨("allows_factor", none), "allows_factor", "allows_factor", defArgs st_allows_factor, defBody st_allows_factor, defScope st_allows_factor, [], []⟩
abbrev st_ends_of : Stmt := top 28
theorem sc_ends_of : FnScope ["given"] ["given"] (defScope st_ends_of) := ⟨rfl, rfl, rfl, by decide +kernel, rfl, by decide +kernel, by decide +kernel⟩
noncomputable def f_ends_of_body : FS := sRet (eTup (aCons (e2 gIx (e2 gIx (eVar 0) (eC (.int 0))) (eC (.int 0))) (aCons (e2 gIx (e2 gIx (eVar 0) (e1 gNeg (eC (.int 1)))) (eC (.int 1))) (aNil))))
noncomputable def f_ends_of : List D → Sto → R D := runF 1 f_ends_of_body
def d_ends_of : He.DefD := ⟨("ends_of", none), "ends_of", "ends_of", defArgs st_ends_of, defBody st_ends_of, defScope st_ends_of, [], []⟩
abbrev st_allows_times : Stmt := top 27
theorem sc_allows_times : FnScope ["domains", "constraint", "variable", "value", "x", "y", "z", "right", "ends", "low", "high", "a", "b"] ["domains", "constraint", "variable", "value"] (defScope st_allows_times) := ⟨rfl, rfl, rfl, by decide +kernel, rfl, by decide +kernel, by decide +kernel⟩
noncomputable def allows_times_e1 : FE := e2 gMul (eVar 11) (eVar 12)
noncomputable def f_allows_times_body : FS := sSeq (sAsg (eSl (eVar 1) (oSome (eC (.int 1))) (oNone)) (bTup [4, 5, 6])) (sSeq (sAsg (eC (.bl true)) (bName 7)) (sSeq (sIf (tBl (e2 gEq (eVar 2) (eVar 6))) (sSeq (sAsg (eLc2 (iSq (eCall f_ends_of [] (aCons (e2 gIx (eVar 0) (eVar 4)) (aNil)))) (bName 11) (tYesD) (iSq (eCall f_ends_of [] (aCons (e2 gIx (eVar 0) (eVar 5)) (aNil)))) (bName 12) (tYesD) (allows_times_e1) [11, 12] [12]) (bName 8)) (sAsg (eChain gLe gLe (eN gMin (aCons (eVar 8) (aNil))) (eVar 3) (eN gMax (aCons (eVar 8) (aNil)))) (bName 7))) (sNx)) (sSeq (sIf (tBl (e2 gEq (eVar 2) (eVar 4))) (sSeq (sAsg (eCall f_ends_of [] (aCons (e2 gIx (eVar 0) (eVar 5)) (aNil))) (bTup [9, 10])) (sAsg (eAnd (eVar 7) (eCall f_allows_factor [] (aCons (eVar 9) (aCons (eVar 10) (aCons (e2 gIx (eVar 0) (eVar 6)) (aCons (eVar 3) (aNil))))))) (bName 7))) (sNx)) (sSeq (sIf (tBl (e2 gEq (eVar 2) (eVar 5))) (sSeq (sAsg (eCall f_ends_of [] (aCons (e2 gIx (eVar 0) (eVar 4)) (aNil))) (bTup [9, 10])) (sAsg (eAnd (eVar 7) (eCall f_allows_factor [] (aCons (eVar 9) (aCons (eVar 10) (aCons (e2 gIx (eVar 0) (eVar 6)) (aCons (eVar 3) (aNil))))))) (bName 7))) (sNx)) (sRet (eVar 7))))))
noncomputable def f_allows_times : List D → Sto → R D := runF 13 f_allows_times_body
def d_allows_times : He.DefD := ⟨("allows_times", none), "allows_times", "allows_times", defArgs st_allows_times, defBody st_allows_times, defScope st_allows_times, [], []⟩
abbrev st_allowed : Stmt := top 29
theorem sc_allowed : FnScope ["domains", "constraint", "variable", "value", "own", "other", "rows"] ["domains", "constraint", "variable", "value"] (defScope st_allowed) := ⟨rfl, rfl, rfl, by decide +kernel, rfl, by decide +kernel, by decide +kernel⟩
noncomputable def allowed_b1 : FS := sIf (tNotD (tTr (e2 gIx (eVar 0) (eVar 5)))) (sRet (eC (.bl false))) (sNx)
noncomputable def allowed_e1 : FE := e2 gIx (eVar 0) (eVar 5)
noncomputable def f_allowed_body : FS := sSeq (sAsg (eCall f_variables_of [] (aCons (eVar 1) (aNil))) (bName 4)) (sSeq (sIf (tBl (e2 gNotIn (eVar 2) (eVar 4))) (sRet (eC (.bl true))) (sNx)) (sSeq (sFor (iSq (eVar 4)) (bName 5) allowed_b1) (sSeq (sIf (tBl (e2 gEq (e2 gIx (eVar 1) (eC (.int 0))) (eC (.str "times")))) (sRet (eCall f_allows_times [] (aCons (eVar 0) (aCons (eVar 1) (aCons (eVar 2) (aCons (eVar 3) (aNil))))))) (sNx)) (sSeq (sIf (tBl (e2 gEq (e2 gIx (eVar 1) (eC (.int 0))) (eC (.str "distinct")))) (sSeq (sAsg (eLc (iSq (eVar 4)) (bName 5) (tYesD) (allowed_e1) [5]) (bName 6)) (sSeq (sSet (eVar 6) (eM gIndex (eVar 4) (aCons (eVar 2) (aNil))) (eTup (aCons (eTup (aCons (eVar 3) (aCons (eVar 3) (aNil)))) (aNil)))) (sRet (eAnd (e2 gIn (eVar 3) (eCall f_values [] (aCons (e2 gIx (eVar 0) (eVar 2)) (aNil)))) (e2 gNotN (e2 gIx (eCall f_distinct_values [] (aCons (eVar 6) (aNil))) (eC (.int 0))) (eC .non)))))) (sNx)) (sRet (eCall f_allows_sum [] (aCons (eVar 0) (aCons (eVar 1) (aCons (eVar 2) (aCons (eVar 3) (aNil)))))))))))
noncomputable def f_allowed : List D → Sto → R D := runF 7 f_allowed_body
def d_allowed : He.DefD := ⟨("allowed", none), "allowed", "allowed", defArgs st_allowed, defBody st_allowed, defScope st_allowed, [], []⟩
abbrev st_allows : Stmt := top 30
theorem sc_allows : FnScope ["domains", "constraint", "variable", "value"] ["domains", "constraint", "variable", "value"] (defScope st_allows) := ⟨rfl, rfl, rfl, by decide +kernel, rfl, by decide +kernel, by decide +kernel⟩
noncomputable def f_allows_body : FS := sSeq (sEx (eCall f_check_problem [] (aCons (eVar 0) (aCons (eLst (aCons (eVar 1) (aNil))) (aNil))))) (sRet (eCall f_allowed [] (aCons (eVar 0) (aCons (eVar 1) (aCons (eVar 2) (aCons (eVar 3) (aNil)))))))
noncomputable def f_allows : List D → Sto → R D := runF 4 f_allows_body
def d_allows : He.DefD := ⟨("allows", none), "allows", "allows", defArgs st_allows, defBody st_allows, defScope st_allows, [], []⟩
abbrev st__law_stream : Stmt := top 32
theorem sc__law_stream : FnScope ["script", "mixed", "cell"] ["script"] (defScope st__law_stream) := ⟨rfl, rfl, rfl, by decide +kernel, rfl, by decide +kernel, by decide +kernel⟩
noncomputable def _law_stream_b1 : FS := sAsg (e2 gMod (eN gInt (aCons (e2 gAdd (e2 gAdd (e2 gMul (eVar 1) (eC (.int 48271))) (e2 gMod (eN gInt (aCons (eVar 2) (aNil))) (eC (.int 65521)))) (eC (.int 1))) (aNil))) (eC (.int 2147483647))) (bName 1)
noncomputable def f__law_stream_body : FS := sSeq (sAsg (eC (.int 17)) (bName 1)) (sSeq (sFor (iSq (eVar 0)) (bName 2) _law_stream_b1) (sRet (eLst (aCons (eN gList (aCons (eVar 0) (aNil))) (aCons (eC (.int 0)) (aCons (eC (.int 0)) (aCons (eVar 1) (aNil))))))))
noncomputable def f__law_stream : List D → Sto → R D := runF 3 f__law_stream_body
def d__law_stream : He.DefD := ⟨("_law_stream", none), "_law_stream", "_law_stream", defArgs st__law_stream, defBody st__law_stream, defScope st__law_stream, [], []⟩
abbrev st__law_draw : Stmt := top 33
theorem sc__law_draw : FnScope ["stream", "many", "value"] ["stream", "many"] (defScope st__law_draw) := ⟨rfl, rfl, rfl, by decide +kernel, rfl, by decide +kernel, by decide +kernel⟩
noncomputable def f__law_draw_body : FS := sSeq (sIf (tAndD (tBl (e2 gEq (e2 gIx (eVar 0) (eC (.int 1))) (eC (.int 0)))) (tBl (e2 gLt (e2 gIx (eVar 0) (eC (.int 2))) (eN gLen (aCons (e2 gIx (eVar 0) (eC (.int 0))) (aNil)))))) (sSeq (sSet (eVar 0) (eC (.int 1)) (eN gAbs (aCons (eN gInt (aCons (e2 gIx (e2 gIx (eVar 0) (eC (.int 0))) (e2 gIx (eVar 0) (eC (.int 2)))) (aNil))) (aNil)))) (sSet (eVar 0) (eC (.int 2)) (e2 gAdd (e2 gIx (eVar 0) (eC (.int 2))) (eC (.int 1))))) (sNx)) (sSeq (sIf (tBl (e2 gEq (e2 gIx (eVar 0) (eC (.int 1))) (eC (.int 0)))) (sSeq (sSet (eVar 0) (eC (.int 3)) (e2 gMod (eN gInt (aCons (e2 gAdd (e2 gMul (e2 gIx (eVar 0) (eC (.int 3))) (eC (.int 48271))) (eC (.int 11))) (aNil))) (eC (.int 2147483647)))) (sRet (e2 gMod (eN gInt (aCons (e2 gDiv (e2 gIx (eVar 0) (eC (.int 3))) (eC (.int 97))) (aNil))) (eVar 1)))) (sNx)) (sSeq (sAsg (e2 gMod (eN gInt (aCons (e2 gIx (eVar 0) (eC (.int 1))) (aNil))) (eVar 1)) (bName 2)) (sSeq (sSet (eVar 0) (eC (.int 1)) (e2 gDiv (e2 gIx (eVar 0) (eC (.int 1))) (eVar 1))) (sRet (eVar 2)))))
noncomputable def f__law_draw : List D → Sto → R D := runF 3 f__law_draw_body
def d__law_draw : He.DefD := ⟨("_law_draw", none), "_law_draw", "_law_draw", defArgs st__law_draw, defBody st__law_draw, defScope st__law_draw, [], []⟩
abbrev st__law_domain : Stmt := top 34
theorem sc__law_domain : FnScope ["given", "found", "value"] ["given"] (defScope st__law_domain) := ⟨rfl, rfl, rfl, by decide +kernel, rfl, by decide +kernel, by decide +kernel⟩
noncomputable def _law_domain_b1 : FS := sIf (tAndD (tBl (e2 gGt (eN gLen (aCons (eVar 1) (aNil))) (eC (.int 0)))) (tBl (e2 gLe (eVar 2) (e2 gAdd (e2 gIx (e2 gIx (eVar 1) (e2 gSub (eN gLen (aCons (eVar 1) (aNil))) (eC (.int 1)))) (eC (.int 1))) (eC (.int 1)))))) (sSet (eVar 1) (e2 gSub (eN gLen (aCons (eVar 1) (aNil))) (eC (.int 1))) (eTup (aCons (e2 gIx (e2 gIx (eVar 1) (e2 gSub (eN gLen (aCons (eVar 1) (aNil))) (eC (.int 1)))) (eC (.int 0))) (aCons (eVar 2) (aNil))))) (sEx (eM gApp (eVar 1) (aCons (eTup (aCons (eVar 2) (aCons (eVar 2) (aNil)))) (aNil))))
noncomputable def f__law_domain_body : FS := sSeq (sAsg (eLst (aNil)) (bName 1)) (sSeq (sFor (iSq (eN gSorted (aCons (eVar 0) (aNil)))) (bName 2) _law_domain_b1) (sRet (eN gTuple (aCons (eVar 1) (aNil)))))
noncomputable def f__law_domain : List D → Sto → R D := runF 3 f__law_domain_body
def d__law_domain : He.DefD := ⟨("_law_domain", none), "_law_domain", "_law_domain", defArgs st__law_domain, defBody st__law_domain, defScope st__law_domain, [], []⟩
abbrev st__law_values : Stmt := top 35
theorem sc__law_values : FnScope ["given", "found", "pair", "value"] ["given"] (defScope st__law_values) := ⟨rfl, rfl, rfl, by decide +kernel, rfl, by decide +kernel, by decide +kernel⟩
noncomputable def _law_values_e1 : FE := eVar 3
noncomputable def _law_values_b1 : FS := sEx (eM gExt (eVar 1) (aCons (eLc (iR2 (e2 gIx (eVar 2) (eC (.int 0))) (e2 gAdd (e2 gIx (eVar 2) (eC (.int 1))) (eC (.int 1)))) (bName 3) (tYesD) (_law_values_e1) [3]) (aNil)))
noncomputable def f__law_values_body : FS := sSeq (sAsg (eLst (aNil)) (bName 1)) (sSeq (sFor (iSq (eVar 0)) (bName 2) _law_values_b1) (sRet (eVar 1)))
noncomputable def f__law_values : List D → Sto → R D := runF 4 f__law_values_body
def d__law_values : He.DefD := ⟨("_law_values", none), "_law_values", "_law_values", defArgs st__law_values, defBody st__law_values, defScope st__law_values, [], []⟩
abbrev st__law_small_domain : Stmt := top 36
theorem sc__law_small_domain : FnScope ["stream", "widest", "low", "step", "values_v", "k", "value"] ["stream", "widest"] (defScope st__law_small_domain) := ⟨rfl, rfl, rfl, by decide +kernel, rfl, by decide +kernel, by decide +kernel⟩
noncomputable def _law_small_domain_e1 : FE := eN gMin (aCons (eC (.int 50)) (aCons (e2 gAdd (eVar 2) (e2 gMul (eVar 3) (eVar 5))) (aNil)))
noncomputable def _law_small_domain_t1 : FT := tBl (e2 gGt (eCall f__law_draw [] (aCons (eVar 0) (aCons (eC (.int 3)) (aNil)))) (eC (.int 0)))
noncomputable def _law_small_domain_e2 : FE := eVar 6
noncomputable def f__law_small_domain_body : FS := sSeq (sAsg (e2 gSub (eCall f__law_draw [] (aCons (eVar 0) (aCons (eC (.int 7)) (aNil)))) (eC (.int 3))) (bName 2)) (sSeq (sAsg (eC (.int 1)) (bName 3)) (sSeq (sIf (tBl (e2 gEq (eCall f__law_draw [] (aCons (eVar 0) (aCons (eC (.int 8)) (aNil)))) (eC (.int 0)))) (sSeq (sAsg (e2 gSub (eCall f__law_draw [] (aCons (eVar 0) (aCons (eC (.int 80)) (aNil)))) (eC (.int 50))) (bName 2)) (sAsg (e2 gAdd (eC (.int 1)) (eCall f__law_draw [] (aCons (eVar 0) (aCons (eC (.int 4)) (aNil))))) (bName 3))) (sNx)) (sSeq (sAsg (eLc (iR1 (e2 gAdd (eC (.int 1)) (eCall f__law_draw [] (aCons (eVar 0) (aCons (eVar 1) (aNil)))))) (bName 5) (tYesD) (_law_small_domain_e1) [5]) (bName 4)) (sSeq (sIf (tBl (e2 gEq (eCall f__law_draw [] (aCons (eVar 0) (aCons (eC (.int 3)) (aNil)))) (eC (.int 0)))) (sAsg (eLc (iSq (eVar 4)) (bName 6) (_law_small_domain_t1) (_law_small_domain_e2) [6]) (bName 4)) (sNx)) (sRet (eCall f__law_domain [] (aCons (eVar 4) (aNil))))))))
noncomputable def f__law_small_domain : List D → Sto → R D := runF 7 f__law_small_domain_body
def d__law_small_domain : He.DefD := ⟨("_law_small_domain", none), "_law_small_domain", "_law_small_domain", defArgs st__law_small_domain, defBody st__law_small_domain, defScope st__law_small_domain, [], []⟩
abbrev st__law_some_variables : Stmt := top 37
theorem sc__law_some_variables : FnScope ["stream", "many", "count", "rows", "found", "k"] ["stream", "many", "count"] (defScope st__law_some_variables) := ⟨rfl, rfl, rfl, by decide +kernel, rfl, by decide +kernel, by decide +kernel⟩
noncomputable def _law_some_variables_e1 : FE := eVar 5
noncomputable def _law_some_variables_b1 : FS := sIf (tBl (e2 gGt (eN gLen (aCons (eVar 3) (aNil))) (eC (.int 0)))) (sEx (eM gApp (eVar 4) (aCons (eM gPop (eVar 3) (aCons (eCall f__law_draw [] (aCons (eVar 0) (aCons (eN gLen (aCons (eVar 3) (aNil))) (aNil)))) (aNil))) (aNil)))) (sNx)
noncomputable def f__law_some_variables_body : FS := sSeq (sAsg (eLc (iR1 (eVar 1)) (bName 5) (tYesD) (_law_some_variables_e1) [5]) (bName 3)) (sSeq (sAsg (eLst (aNil)) (bName 4)) (sSeq (sFor (iR1 (eVar 2)) (bName 5) _law_some_variables_b1) (sRet (eN gTuple (aCons (eVar 4) (aNil))))))
noncomputable def f__law_some_variables : List D → Sto → R D := runF 6 f__law_some_variables_body
def d__law_some_variables : He.DefD := ⟨("_law_some_variables", none), "_law_some_variables", "_law_some_variables", defArgs st__law_some_variables, defBody st__law_some_variables, defScope st__law_some_variables, [], []⟩
abbrev st__law_constraint : Stmt := top 38
theorem sc__law_constraint : FnScope ["stream", "many", "pick", "own", "factors", "bound", "sums", "variable"] ["stream", "many"] (defScope st__law_constraint) := ⟨rfl, rfl, rfl, by decide +kernel, rfl, by decide +kernel, by decide +kernel⟩
noncomputable def _law_constraint_e1 : FE := eTup (aCons (e2 gIx (eVar 4) (eCall f__law_draw [] (aCons (eVar 0) (aCons (eC (.int 6)) (aNil))))) (aCons (eVar 7) (aNil)))
noncomputable def f__law_constraint_body : FS := sSeq (sAsg (eCall f__law_draw [] (aCons (eVar 0) (aCons (eC (.int 8)) (aNil)))) (bName 2)) (sSeq (sIf (tBl (e2 gLt (eVar 2) (eC (.int 5)))) (sSeq (sAsg (eCall f__law_some_variables [] (aCons (eVar 0) (aCons (eVar 1) (aCons (eCall f__law_draw [] (aCons (eVar 0) (aCons (e2 gIx (eLst (aCons (eC (.int 4)) (aCons (eC (.int 4)) (aCons (eC (.int 4)) (aCons (eC (.int 7)) (aNil)))))) (eCall f__law_draw [] (aCons (eVar 0) (aCons (eC (.int 4)) (aNil))))) (aNil)))) (aNil))))) (bName 3)) (sSeq (sAsg (eLst (aCons (eC (.int 1)) (aCons (e1 gNeg (eC (.int 1))) (aCons (eC (.int 2)) (aCons (e1 gNeg (eC (.int 3))) (aCons (eC (.int 1)) (aCons (e1 gNeg (eC (.int 1))) (aNil)))))))) (bName 4)) (sSeq (sAsg (e2 gIx (eLst (aCons (e2 gSub (eCall f__law_draw [] (aCons (eVar 0) (aCons (eC (.int 13)) (aNil)))) (eC (.int 6))) (aCons (e2 gSub (eCall f__law_draw [] (aCons (eVar 0) (aCons (eC (.int 81)) (aNil)))) (eC (.int 40))) (aNil)))) (eN gInt (aCons (e2 gEq (eCall f__law_draw [] (aCons (eVar 0) (aCons (eC (.int 4)) (aNil)))) (eC (.int 0))) (aNil)))) (bName 5)) (sSeq (sIf (tBl (e2 gEq (eCall f__law_draw [] (aCons (eVar 0) (aCons (eC (.int 6)) (aNil)))) (eC (.int 0)))) (sAsg (eLst (aCons (eC (.int 3)) (aCons (e1 gNeg (eC (.int 2))) (aCons (eC (.int 5)) (aCons (e1 gNeg (eC (.int 5))) (aCons (eC (.int 11)) (aCons (e1 gNeg (eC (.int 17))) (aNil)))))))) (bName 4)) (sNx)) (sSeq (sIf (tBl (e2 gEq (eCall f__law_draw [] (aCons (eVar 0) (aCons (eC (.int 8)) (aNil)))) (eC (.int 0)))) (sSeq (sAsg (eLst (aCons (eC (.int 20)) (aCons (e1 gNeg (eC (.int 20))) (aCons (eC (.int 7)) (aCons (e1 gNeg (eC (.int 13))) (aCons (eC (.int 19)) (aCons (eC (.int 1)) (aNil)))))))) (bName 4)) (sAsg (e2 gSub (eCall f__law_draw [] (aCons (eVar 0) (aCons (eC (.int 20001)) (aNil)))) (eC (.int 10000))) (bName 5))) (sNx)) (sSeq (sAsg (eN gTuple (aCons (eLc (iSq (eVar 3)) (bName 7) (tYesD) (_law_constraint_e1) [7]) (aNil))) (bName 6)) (sRet (eTup (aCons (e2 gIx (eLst (aCons (eC (.str "le")) (aCons (eC (.str "eq")) (aCons (eC (.str "ne")) (aCons (eC (.str "eq")) (aCons (eC (.str "ne")) (aNil))))))) (eVar 2)) (aCons (eVar 6) (aCons (eVar 5) (aNil)))))))))))) (sNx)) (sSeq (sIf (tBl (e2 gEq (eVar 2) (eC (.int 5)))) (sRet (eTup (aCons (eC (.str "times")) (aCons (eCall f__law_draw [] (aCons (eVar 0) (aCons (eVar 1) (aNil)))) (aCons (eCall f__law_draw [] (aCons (eVar 0) (aCons (eVar 1) (aNil)))) (aCons (eCall f__law_draw [] (aCons (eVar 0) (aCons (eVar 1) (aNil)))) (aNil))))))) (sNx)) (sRet (eTup (aCons (eC (.str "distinct")) (aCons (eCall f__law_some_variables [] (aCons (eVar 0) (aCons (eVar 1) (aCons (e2 gAdd (eC (.int 1)) (eCall f__law_draw [] (aCons (eVar 0) (aCons (eVar 1) (aNil))))) (aNil))))) (aNil)))))))
noncomputable def f__law_constraint : List D → Sto → R D := runF 8 f__law_constraint_body
def d__law_constraint : He.DefD := ⟨("_law_constraint", none), "_law_constraint", "_law_constraint", defArgs st__law_constraint, defBody st__law_constraint, defScope st__law_constraint, [], []⟩
abbrev st__law_problem : Stmt := top 39
theorem sc__law_problem : FnScope ["stream", "most", "widest", "many", "pick", "domains", "k"] ["stream", "most", "widest"] (defScope st__law_problem) := ⟨rfl, rfl, rfl, by decide +kernel, rfl, by decide +kernel, by decide +kernel⟩
noncomputable def _law_problem_e1 : FE := eCall f__law_small_domain [] (aCons (eVar 0) (aCons (eVar 2) (aNil)))
noncomputable def _law_problem_e2 : FE := eCall f__law_constraint [] (aCons (eVar 0) (aCons (eVar 3) (aNil)))
noncomputable def f__law_problem_body : FS := sSeq (sAsg (e2 gAdd (eC (.int 1)) (eCall f__law_draw [] (aCons (eVar 0) (aCons (eVar 1) (aNil))))) (bName 3)) (sSeq (sAsg (eCall f__law_draw [] (aCons (eVar 0) (aCons (eC (.int 8)) (aNil)))) (bName 4)) (sSeq (sIf (tBl (e2 gEq (eVar 4) (eC (.int 0)))) (sSeq (sAsg (e2 gAdd (eC (.int 5)) (eCall f__law_draw [] (aCons (eVar 0) (aCons (eC (.int 4)) (aNil))))) (bName 3)) (sAsg (eC (.int 2)) (bName 2))) (sNx)) (sSeq (sIf (tBl (e2 gEq (eVar 4) (eC (.int 1)))) (sSeq (sAsg (e2 gAdd (eC (.int 1)) (eCall f__law_draw [] (aCons (eVar 0) (aCons (eC (.int 2)) (aNil))))) (bName 3)) (sAsg (e2 gIx (eLst (aCons (eC (.int 12)) (aCons (eC (.int 25)) (aCons (eC (.int 40)) (aCons (eC (.int 101)) (aNil)))))) (eCall f__law_draw [] (aCons (eVar 0) (aCons (eC (.int 4)) (aNil))))) (bName 2))) (sNx)) (sSeq (sAsg (eLc (iR1 (eVar 3)) (bName 6) (tYesD) (_law_problem_e1) [6]) (bName 5)) (sRet (eLst (aCons (eVar 5) (aCons (eLc (iR1 (eCall f__law_draw [] (aCons (eVar 0) (aCons (e2 gIx (eLst (aCons (eC (.int 5)) (aCons (eC (.int 5)) (aCons (eC (.int 8)) (aNil))))) (eCall f__law_draw [] (aCons (eVar 0) (aCons (eC (.int 3)) (aNil))))) (aNil))))) (bName 6) (tYesD) (_law_problem_e2) [6]) (aNil)))))))))
noncomputable def f__law_problem : List D → Sto → R D := runF 7 f__law_problem_body
def d__law_problem : He.DefD := ⟨("_law_problem", none), "_law_problem", "_law_problem", defArgs st__law_problem, defBody st__law_problem, defScope st__law_problem, [], []⟩
abbrev st__law_own : Stmt := top 40
theorem sc__law_own : FnScope ["constraint", "pair"] ["constraint"] (defScope st__law_own) := ⟨rfl, rfl, rfl, by decide +kernel, rfl, by decide +kernel, by decide +kernel⟩
noncomputable def _law_own_e1 : FE := e2 gIx (eVar 1) (eC (.int 1))
noncomputable def f__law_own_body : FS := sSeq (sIf (tBl (e2 gEq (e2 gIx (eVar 0) (eC (.int 0))) (eC (.str "times")))) (sRet (eLst (aCons (e2 gIx (eVar 0) (eC (.int 1))) (aCons (e2 gIx (eVar 0) (eC (.int 2))) (aCons (e2 gIx (eVar 0) (eC (.int 3))) (aNil)))))) (sNx)) (sSeq (sIf (tBl (e2 gEq (e2 gIx (eVar 0) (eC (.int 0))) (eC (.str "distinct")))) (sRet (eN gList (aCons (e2 gIx (eVar 0) (eC (.int 1))) (aNil)))) (sNx)) (sRet (eLc (iSq (e2 gIx (eVar 0) (eC (.int 1)))) (bName 1) (tYesD) (_law_own_e1) [1])))
noncomputable def f__law_own : List D → Sto → R D := runF 2 f__law_own_body
def d__law_own : He.DefD := ⟨("_law_own", none), "_law_own", "_law_own", defArgs st__law_own, defBody st__law_own, defScope st__law_own, [], []⟩
abbrev st__law_choice : Stmt := top 41
theorem sc__law_choice : FnScope ["rows", "used", "at", "value"] ["rows", "used", "at"] (defScope st__law_choice) := ⟨rfl, rfl, rfl, by decide +kernel, rfl, by decide +kernel, by decide +kernel⟩
noncomputable def _law_choice_b1 (rc : List D → Sto → R D) : FS := sIf (tAndD (tBl (e2 gNotIn (eVar 3) (eVar 1))) (tTr (eCall rc [] (aCons (eVar 0) (aCons (e2 gAdd (eVar 1) (eLst (aCons (eVar 3) (aNil)))) (aCons (e2 gAdd (eVar 2) (eC (.int 1))) (aNil))))))) (sRet (eC (.bl true))) (sNx)
noncomputable def f__law_choice_body (rc : List D → Sto → R D) : FS := sSeq (sIf (tBl (e2 gEq (eVar 2) (eN gLen (aCons (eVar 0) (aNil))))) (sRet (eC (.bl true))) (sNx)) (sSeq (sFor (iSq (e2 gIx (eVar 0) (eVar 2))) (bName 3) (_law_choice_b1 rc)) (sRet (eC (.bl false))))
noncomputable def f__law_choice : Nat → List D → Sto → R D
  | 0 => fun _ _ => .no
  | n + 1 => runF 4 (f__law_choice_body (f__law_choice n))
def d__law_choice : He.DefD := ⟨("_law_choice", none), "_law_choice", "_law_choice", defArgs st__law_choice, defBody st__law_choice, defScope st__law_choice, [], []⟩
abbrev st__law_ends : Stmt := top 42
theorem sc__law_ends : FnScope ["values_v", "variable", "at", "value"] ["values_v", "variable", "at", "value"] (defScope st__law_ends) := ⟨rfl, rfl, rfl, by decide +kernel, rfl, by decide +kernel, by decide +kernel⟩
noncomputable def f__law_ends_body : FS := sSeq (sIf (tBl (e2 gEq (eVar 1) (eVar 2))) (sRet (eLst (aCons (eVar 3) (aCons (eVar 3) (aNil))))) (sNx)) (sRet (eLst (aCons (eN gMin (aCons (e2 gIx (eVar 0) (eVar 1)) (aNil))) (aCons (eN gMax (aCons (e2 gIx (eVar 0) (eVar 1)) (aNil))) (aNil)))))
noncomputable def f__law_ends : List D → Sto → R D := runF 4 f__law_ends_body
def d__law_ends : He.DefD := ⟨("_law_ends", none), "_law_ends", "_law_ends", defArgs st__law_ends, defBody st__law_ends, defScope st__law_ends, [], []⟩
abbrev st__law_allows_sum : Stmt := top 43
theorem sc__law_allows_sum : FnScope ["values_v", "constraint", "at", "value", "least", "most", "fixed", "pair", "ends"] ["values_v", "constraint", "at", "value"] (defScope st__law_allows_sum) := ⟨rfl, rfl, rfl, by decide +kernel, rfl, by decide +kernel, by decide +kernel⟩
noncomputable def _law_allows_sum_b1 : FS := sSeq (sAsg (eCall f__law_ends [] (aCons (eVar 0) (aCons (e2 gIx (eVar 7) (eC (.int 1))) (aCons (eVar 2) (aCons (eVar 3) (aNil)))))) (bName 8)) (sSeq (sAsg (eAnd (eVar 6) (e2 gEq (e2 gIx (eVar 8) (eC (.int 0))) (e2 gIx (eVar 8) (eC (.int 1))))) (bName 6)) (sSeq (sAsg (e2 gAdd (eVar 4) (eN gMin (aCons (e2 gMul (e2 gIx (eVar 7) (eC (.int 0))) (e2 gIx (eVar 8) (eC (.int 0)))) (aCons (e2 gMul (e2 gIx (eVar 7) (eC (.int 0))) (e2 gIx (eVar 8) (eC (.int 1)))) (aNil))))) (bName 4)) (sAsg (e2 gAdd (eVar 5) (eN gMax (aCons (e2 gMul (e2 gIx (eVar 7) (eC (.int 0))) (e2 gIx (eVar 8) (eC (.int 0)))) (aCons (e2 gMul (e2 gIx (eVar 7) (eC (.int 0))) (e2 gIx (eVar 8) (eC (.int 1)))) (aNil))))) (bName 5))))
noncomputable def f__law_allows_sum_body : FS := sSeq (sAsg (eC (.int 0)) (bName 4)) (sSeq (sAsg (eC (.int 0)) (bName 5)) (sSeq (sAsg (eC (.bl true)) (bName 6)) (sSeq (sFor (iSq (e2 gIx (eVar 1) (eC (.int 1)))) (bName 7) _law_allows_sum_b1) (sSeq (sIf (tBl (e2 gEq (e2 gIx (eVar 1) (eC (.int 0))) (eC (.str "le")))) (sRet (e2 gLe (eVar 4) (e2 gIx (eVar 1) (eC (.int 2))))) (sNx)) (sSeq (sIf (tBl (e2 gEq (e2 gIx (eVar 1) (eC (.int 0))) (eC (.str "eq")))) (sRet (eChain gLe gLe (eVar 4) (e2 gIx (eVar 1) (eC (.int 2))) (eVar 5))) (sNx)) (sRet (eOr (eNot (eVar 6)) (e2 gNe (eVar 4) (e2 gIx (eVar 1) (eC (.int 2)))))))))))
noncomputable def f__law_allows_sum : List D → Sto → R D := runF 9 f__law_allows_sum_body
def d__law_allows_sum : He.DefD := ⟨("_law_allows_sum", none), "_law_allows_sum", "_law_allows_sum", defArgs st__law_allows_sum, defBody st__law_allows_sum, defScope st__law_allows_sum, [], []⟩
abbrev st__law_allows : Stmt := top 44
theorem sc__law_allows : FnScope ["values_v", "constraint", "at", "value", "own", "rows", "x", "y", "z", "right", "products", "pair", "between", "variable", "row", "other", "w"] ["values_v", "constraint", "at", "value"] (defScope st__law_allows) := ⟨rfl, rfl, rfl, by decide +kernel, rfl, by decide +kernel, by decide +kernel⟩
noncomputable def _law_allows_t1 : FT := tBl (e2 gEq (eN gLen (aCons (e2 gIx (eVar 0) (eVar 13)) (aNil))) (eC (.int 0)))
noncomputable def _law_allows_e1 : FE := eVar 13
noncomputable def _law_allows_t2 : FT := tBl (e2 gNe (eVar 13) (eVar 2))
noncomputable def _law_allows_e2 : FE := e2 gIx (eVar 0) (eVar 13)
noncomputable def _law_allows_t3 : FT := tBl (e2 gNe (eVar 15) (eVar 3))
noncomputable def _law_allows_e3 : FE := eVar 15
noncomputable def _law_allows_e4 : FE := eLc (iSq (eVar 14)) (bName 15) (_law_allows_t3) (_law_allows_e3) [15]
noncomputable def _law_allows_t4 : FT := tBl (eChain gLe gLe (eN gMin (aCons (eVar 8) (aNil))) (e2 gMul (eVar 3) (eVar 16)) (eN gMax (aCons (eVar 8) (aNil))))
noncomputable def _law_allows_e5 : FE := eVar 16
noncomputable def _law_allows_b1 : FS := sIf (tBl (e2 gEq (eVar 2) (e2 gIx (eVar 11) (eC (.int 0))))) (sSeq (sAsg (eLc (iR2 (eN gMin (aCons (e2 gIx (eVar 11) (eC (.int 1))) (aNil))) (e2 gAdd (eN gMax (aCons (e2 gIx (eVar 11) (eC (.int 1))) (aNil))) (eC (.int 1)))) (bName 16) (_law_allows_t4) (_law_allows_e5) [16]) (bName 12)) (sAsg (eAnd (eVar 9) (e2 gGt (eN gLen (aCons (eVar 12) (aNil))) (eC (.int 0)))) (bName 9))) (sNx)
noncomputable def f__law_allows_body : FS := sSeq (sAsg (eCall f__law_own [] (aCons (eVar 1) (aNil))) (bName 4)) (sSeq (sIf (tBl (e2 gNotIn (eVar 2) (eVar 4))) (sRet (eC (.bl true))) (sNx)) (sSeq (sIf (tBl (e2 gGt (eN gLen (aCons (eLc (iSq (eVar 4)) (bName 13) (_law_allows_t1) (_law_allows_e1) [13]) (aNil))) (eC (.int 0)))) (sRet (eC (.bl false))) (sNx)) (sSeq (sIf (tBl (e2 gEq (e2 gIx (eVar 1) (eC (.int 0))) (eC (.str "distinct")))) (sSeq (sIf (tBl (e2 gNotIn (eVar 3) (e2 gIx (eVar 0) (eVar 2)))) (sRet (eC (.bl false))) (sNx)) (sSeq (sAsg (eLc (iSq (eVar 4)) (bName 13) (_law_allows_t2) (_law_allows_e2) [13]) (bName 5)) (sRet (eCall (f__law_choice 20) [] (aCons (eLc (iSq (eVar 5)) (bName 14) (tYesD) (_law_allows_e4) [14]) (aCons (eLst (aNil)) (aCons (eC (.int 0)) (aNil)))))))) (sNx)) (sSeq (sIf (tBl (e2 gNe (e2 gIx (eVar 1) (eC (.int 0))) (eC (.str "times")))) (sRet (eCall f__law_allows_sum [] (aCons (eVar 0) (aCons (eVar 1) (aCons (eVar 2) (aCons (eVar 3) (aNil))))))) (sNx)) (sSeq (sAsg (e2 gIx (eVar 0) (e2 gIx (eVar 1) (eC (.int 1)))) (bName 6)) (sSeq (sAsg (e2 gIx (eVar 0) (e2 gIx (eVar 1) (eC (.int 2)))) (bName 7)) (sSeq (sAsg (e2 gIx (eVar 0) (e2 gIx (eVar 1) (eC (.int 3)))) (bName 8)) (sSeq (sAsg (eC (.bl true)) (bName 9)) (sSeq (sIf (tBl (e2 gEq (eVar 2) (e2 gIx (eVar 1) (eC (.int 3))))) (sSeq (sAsg (eLst (aCons (e2 gMul (e2 gIx (eVar 6) (eC (.int 0))) (e2 gIx (eVar 7) (eC (.int 0)))) (aCons (e2 gMul (e2 gIx (eVar 6) (eC (.int 0))) (e2 gIx (eVar 7) (e2 gSub (eN gLen (aCons (eVar 7) (aNil))) (eC (.int 1))))) (aCons (e2 gMul (e2 gIx (eVar 6) (e2 gSub (eN gLen (aCons (eVar 6) (aNil))) (eC (.int 1)))) (e2 gIx (eVar 7) (eC (.int 0)))) (aCons (e2 gMul (e2 gIx (eVar 6) (e2 gSub (eN gLen (aCons (eVar 6) (aNil))) (eC (.int 1)))) (e2 gIx (eVar 7) (e2 gSub (eN gLen (aCons (eVar 7) (aNil))) (eC (.int 1))))) (aNil)))))) (bName 10)) (sAsg (eChain gLe gLe (eN gMin (aCons (eVar 10) (aNil))) (eVar 3) (eN gMax (aCons (eVar 10) (aNil)))) (bName 9))) (sNx)) (sSeq (sFor (iSq (eTup (aCons (eTup (aCons (e2 gIx (eVar 1) (eC (.int 1))) (aCons (eVar 7) (aNil)))) (aCons (eTup (aCons (e2 gIx (eVar 1) (eC (.int 2))) (aCons (eVar 6) (aNil)))) (aNil))))) (bName 11) _law_allows_b1) (sRet (eVar 9))))))))))))
noncomputable def f__law_allows : List D → Sto → R D := runF 17 f__law_allows_body
def d__law_allows : He.DefD := ⟨("_law_allows", none), "_law_allows", "_law_allows", defArgs st__law_allows, defBody st__law_allows, defScope st__law_allows, [], []⟩
abbrev st_law : Stmt := top 45
theorem sc_law : FnScope ["script", "stream", "problem", "domains", "turn", "constraint", "lists", "variable", "value", "given", "actual"] ["script"] (defScope st_law) := ⟨rfl, rfl, rfl, by decide +kernel, rfl, by decide +kernel, by decide +kernel⟩
noncomputable def law_e1 : FE := eCall f__law_values [] (aCons (eVar 9) (aNil))
noncomputable def law_b1 : FS := sSeq (sAsg (eCall f__law_constraint [] (aCons (eVar 1) (aCons (eN gLen (aCons (eVar 3) (aNil))) (aNil)))) (bName 5)) (sSeq (sAsg (eLc (iSq (eVar 3)) (bName 9) (tYesD) (law_e1) [9]) (bName 6)) (sSeq (sAsg (eCall f__law_draw [] (aCons (eVar 1) (aCons (eN gLen (aCons (eVar 3) (aNil))) (aNil)))) (bName 7)) (sSeq (sIf (tBl (e2 gEq (eN gLen (aCons (e2 gIx (eVar 6) (eVar 7)) (aNil))) (eC (.int 0)))) (sCnt) (sNx)) (sSeq (sAsg (e2 gIx (e2 gIx (eVar 6) (eVar 7)) (eCall f__law_draw [] (aCons (eVar 1) (aCons (eN gLen (aCons (e2 gIx (eVar 6) (eVar 7)) (aNil))) (aNil))))) (bName 8)) (sSeq (sAsg (eN gList (aCons (eVar 3) (aNil))) (bName 9)) (sSeq (sAsg (eCall f_allows [] (aCons (eVar 9) (aCons (eVar 5) (aCons (eVar 7) (aCons (eVar 8) (aNil)))))) (bName 10)) (sIf (tOrD (tNotD (tTr (eN gIsi (aCons (eVar 10) (aCons (eC (.ty "bool")) (aNil)))))) (tOrD (tBl (e2 gNe (eVar 10) (eCall f__law_allows [] (aCons (eVar 6) (aCons (eVar 5) (aCons (eVar 7) (aCons (eVar 8) (aNil)))))))) (tBl (e2 gNe (eVar 9) (eVar 3))))) (sRet (eC (.bl false))) (sNx))))))))
noncomputable def f_law_body : FS := sSeq (sAsg (eCall f__law_stream [] (aCons (eVar 0) (aNil))) (bName 1)) (sSeq (sAsg (eCall f__law_problem [] (aCons (eVar 1) (aCons (eC (.int 5)) (aCons (eC (.int 5)) (aNil))))) (bName 2)) (sSeq (sAsg (e2 gIx (eVar 2) (eC (.int 0))) (bName 3)) (sSeq (sFor (iR1 (eC (.int 3))) (bName 4) law_b1) (sRet (eC (.bl true))))))
noncomputable def f_law : List D → Sto → R D := runF 11 f_law_body
def d_law : He.DefD := ⟨("law", none), "law", "law", defArgs st_law, defBody st_law, defScope st_law, [], []⟩
def fn : List He.DefD := [d_is_value, d_values, d_is_interval, d_is_domain, d_Matchingu_initu, d_Matching_place, d_Matching_chosen, d_distinct_values, d_is_integer_to, d_are_variables, d_are_sums, d_is_constraint, d_check_problem, d_variables_of, d_least_sum, d_greatest_sum, d_allows_sum, d_allows_factor, d_ends_of, d_allows_times, d_allowed, d_allows, d__law_stream, d__law_draw, d__law_domain, d__law_values, d__law_small_domain, d__law_some_variables, d__law_constraint, d__law_problem, d__law_own, d__law_choice, d__law_ends, d__law_allows_sum, d__law_allows, d_law]
def fa : List He.Fa := [.free "int", .free "isinstance", .free "bool", .int "MOST_VALUE" (50), .free "list", .free "range", .free "tuple", .free "len", .glo "is_value", .glo "is_interval", .free "zip", .free "all", .glo "values", .cls "Matching", .noat "Matching" "rows", .noat "Matching" "owners", .meth "Matching" "place", .mkr "Matching", .glo "Matching", .free "sorted", .meth "Matching" "chosen", .glo "is_integer_to", .free "set", .int "MOST_SUMMANDS" (6), .int "MOST_FACTOR" (20), .glo "are_variables", .glo "are_sums", .int "MOST_BOUND" (10000), .int "MOST_VARIABLES" (12), .glo "is_domain", .exc "BadProblem", .glo "BadProblem", .glo "is_constraint", .free "min", .glo "least_sum", .glo "greatest_sum", .free "any", .glo "ends_of", .free "max", .glo "allows_factor", .glo "variables_of", .glo "allows_times", .glo "distinct_values", .glo "allows_sum", .glo "check_problem", .glo "allowed", .free "abs", .glo "_law_draw", .glo "_law_domain", .glo "_law_some_variables", .glo "_law_small_domain", .glo "_law_constraint", .glo "_law_choice", .glo "_law_ends", .glo "_law_own", .glo "_law_allows_sum", .glo "_law_stream", .glo "_law_problem", .glo "_law_values", .glo "allows", .glo "_law_allows", .glo "law"]
abbrev cn (K : PySem.W.Frag) : Nat → Addr
  | 0 => He.ga K "HornbookError"
  | 1 => He.ga K "BadProblem"
  | 2 => He.ga K "Matching"
  | _ => 0
end K56

namespace K56
open PySem L2 DS Fd
theorem s_is_value (i : Int) (S : Sto) : f_is_value [.int i] S = .ok (.bl (decide (-50 ≤ i) && decide (i ≤ 50))) S := by
  unfold f_is_value runF f_is_value_body
  by_cases h1 : -50 ≤ i <;> simp [h1]
theorem s_is_integer_to (i b : Int) (S : Sto) : f_is_integer_to [.int i, .int b] S = .ok (.bl (decide (-b ≤ i) && decide (i ≤ b))) S := by
  unfold f_is_integer_to runF f_is_integer_to_body
  by_cases h1 : -b ≤ i <;> simp [h1]
theorem s_is_interval (p : Int × Int) (h : -50 ≤ p.1 ∧ p.1 ≤ p.2 ∧ p.2 ≤ 50) (S : Sto) : f_is_interval [dP p] S = .ok (.bl true) S := by
  unfold f_is_interval runF f_is_interval_body dP
  have h1 : p.1 ≤ 50 := by omega
  have h2 : -50 ≤ p.2 := by omega
  simp [s_is_value, h.1, h.2.1, h.2.2, h1, h2, sSeq]
theorem s_is_domain {d : Dom} (h : WD d) (S : Sto) : Ev (f_is_domain [dDom d] S) fun r S' => r = .bl true ∧ Fx Pu S S' := by
  unfold f_is_domain f_is_domain_body dDom
  refine ev_runK fun K hr _ => ?_
  simp
  refine ws_forK (fun rem ρ S' => S' = S ∧ (∃ x, ρ = [some (.tup (d.map dP)), x, none, none]) ∧ ∀ p ∈ rem, p ∈ d) ⟨rfl, ⟨_, rfl⟩, fun _ h => h⟩ ?_ ?_
  · rintro p rem ρ S' ⟨rfl, ⟨x, rfl⟩, hm⟩
    refine ⟨trivial, _, rfl, fun K2 B => ?_⟩
    unfold is_domain_b1
    simp [s_is_interval p (h.rg p (hm p List.mem_cons_self))]
    exact B.nx _ _ ⟨rfl, ⟨_, rfl⟩, fun q hq => hm q (List.mem_cons_of_mem _ hq)⟩
  · rintro ρ S' ⟨rfl, ⟨x, rfl⟩, -⟩
    refine ⟨trivial, ?_⟩
    simp
    rw [← List.map_tail, zip_map]
    refine ws_compM (enc := fun p : (Int × Int) × (Int × Int) => .tup [dP p.1, dP p.2]) Pu (fun q => .bl (decide (q.1.2 + 1 < q.2.1))) (fun _ _ => trivial) id ?_ ?_ ?_
    · have := h.small
      simp [sizeLine]
      omega
    · rintro ⟨p, q⟩ hq S2 hf
      refine ⟨_, rfl, ?_⟩
      unfold is_domain_e1
      simp [dP]
    · intro S2 hf he
      have e : ((d.zip d.tail).map fun q => D.bl (decide (q.1.2 + 1 < q.2.1))) = (((d.zip d.tail).map fun q => decide (q.1.2 + 1 < q.2.1)).map .bl) := by simp
      rw [e] at he
      simp only [R.bind_ok, R.toS_ok, all_loc he]
      refine hr _ _ ⟨?_, hf⟩
      congr 1
      rw [List.all_eq_true]
      intro z hz
      obtain ⟨q, hq, rfl⟩ := List.mem_map.mp hz
      exact decide_eq_true (gap_zip h.gap q hq)
theorem s_values {d : Dom} (h : WD d) (S : Sto) : Ev (f_values [dDom d] S) fun r S' => r = .loc S.length ∧ S'[S.length]? = some (.lst ((vals d).map .int)) ∧ Fx Pu S S' := by
  unfold f_values f_values_body dDom
  refine ev_runK fun K hr _ => ?_
  simp
  refine ws_forK (fun rem ρ S' => ∃ dn x y, d = dn ++ rem ∧ ρ = [some (.tup (d.map dP)), some (.loc S.length), x, y] ∧ S'[S.length]? = some (.lst ((vals dn).map .int)) ∧ Fx Pu S S') ⟨[], none, none, rfl, rfl, by simp [vals], Fx.one⟩ ?_ ?_
  · rintro p rem ρ S' ⟨dn, x, y, rfl, rfl, e, hf⟩
    refine ⟨trivial, _, rfl, fun K2 B => ?_⟩
    have hp := h.rg p (by simp)
    unfold values_b1
    simp [lst_loc e, dP]
    rw [rgL ⟨by omega, by omega, by omega, by omega, by omega⟩, rngD_rng]
    have h1 := h.pre.vlen
    have hl : S.length < S'.length := (List.getElem?_eq_some_iff.mp e).1
    have e1 : (S' ++ [Ob.lst ((rng p.1 p.2).map D.int)])[S.length]? = some (.lst ((vals dn).map .int)) := by rw [List.getElem?_append_left hl]; exact e
    simp
    rw [ext_loc e1 get_end (by simp [len_rng, sizeLine]; omega)]
    refine B.nx _ _ ⟨dn ++ [p], some (.int p.1), some (.int p.2), by simp, by simp [dP], ?_, ?_⟩
    · rw [vals_app, vals_one]
      rw [List.getElem?_set_self (by simp; omega), List.map_append]
    · exact hf.push.set fun z => absurd z (Nat.lt_irrefl _)
  · rintro ρ S' ⟨dn, x, y, e0, rfl, e, hf⟩
    rw [List.append_nil] at e0
    subst e0
    refine ⟨trivial, ?_⟩
    simp
    exact hr _ _ ⟨rfl, e, hf⟩
end K56

namespace K56
open PySem L2 DS Fd
structure Mt (S : Sto) (m rn w : Nat) (rl : List Nat) (rows : List (List Int)) : Prop where
  ob : S[m]? = some (.ins 2 [("rows", .loc rn), ("owners", .loc w)])
  rw : S[rn]? = some (.lst (rl.map D.loc))
  rs : Rows S rl rows
def isDK : Ob → Bool
  | .dK _ => true
  | .lk _ => true
  | _ => false
theorem Mt.imp {S S' : Sto} {m rn w : Nat} {rl : List Nat} {rows : List (List Int)} (h : Mt S m rn w rl rows) (k : ∀ (n : Nat) (o : Ob), S[n]? = some o → isDK o = false → S'[n]? = some o) : Mt S' m rn w rl rows :=
  ⟨k _ _ h.ob rfl, k _ _ h.rw rfl, h.rs.imp fun n ds e => k n _ e rfl⟩
/-- a dict at place n changed -/
theorem keep_set {S : Sto} {n : Nat} {o o' : Ob} (e : S[n]? = some o) (hd : isDK o = true) : ∀ (n' : Nat) (q : Ob), S[n']? = some q → isDK q = false → (S.set n o')[n']? = some q := fun n' q h h2 => by
  have : n ≠ n' := by
    intro z
    subst z
    rw [e] at h
    cases h
    rw [hd] at h2
    cases h2
  rw [List.getElem?_set_ne this]
  exact h
theorem keep_fx {M : Nat → Prop} {S S' : Sto} (h : Fx M S S') (hM : ∀ n, M n → ∃ o, S[n]? = some o ∧ isDK o = true) : ∀ (n' : Nat) (q : Ob), S[n']? = some q → isDK q = false → S'[n']? = some q := fun n' q e h2 =>
  h.get (fun z => by
    obtain ⟨o, e1, e2⟩ := hM n' z
    rw [e] at e1
    cases e1
    rw [h2] at e2
    cases e2) e
theorem fields_ne : (("rows" : Str) = "owners") = False := by simp only [eq_iff_iff, iff_false]; decide +kernel
theorem get_rows {a b : D} : getK [(("rows" : Str), a), ("owners", b)] "rows" = some a := rfl
theorem get_owners {a b : D} : getK [(("rows" : Str), a), ("owners", b)] "owners" = some b := by
  unfold getK
  rw [List.find?_cons_of_neg (by simp [fields_ne])]
  rfl
theorem get_place {a b : D} : getK [(("rows" : Str), a), ("owners", b)] "place" = none := by
  unfold getK
  have h1 : ¬ (("rows" : Str) = "place") := by decide +kernel
  have h2 : ¬ (("owners" : Str) = "place") := by decide +kernel
  rw [List.find?_cons_of_neg (by simpa using h1), List.find?_cons_of_neg (by simpa using h2)]
  rfl
theorem get_chosen {a b : D} : getK [(("rows" : Str), a), ("owners", b)] "chosen" = none := by
  unfold getK
  have h1 : ¬ (("rows" : Str) = "chosen") := by decide +kernel
  have h2 : ¬ (("owners" : Str) = "chosen") := by decide +kernel
  rw [List.find?_cons_of_neg (by simpa using h1), List.find?_cons_of_neg (by simpa using h2)]
  rfl
theorem Mt.fr {S : Sto} {m rn w : Nat} {rl : List Nat} {rows : List (List Int)} (h : Mt S m rn w rl rows) : gFld 2 "rows" (.loc m) S = .ok (.loc rn) S := fld1 h.ob get_rows
theorem Mt.fo {S : Sto} {m rn w : Nat} {rl : List Nat} {rows : List (List Int)} (h : Mt S m rn w rl rows) : gFld 2 "owners" (.loc m) S = .ok (.loc w) S := fld1 h.ob get_owners
theorem Mt.ix {S : Sto} {m rn w : Nat} {rl : List Nat} {rows : List (List Int)} (h : Mt S m rn w rl rows) {u : Nat} {r : List Int} (e : rows[u]? = some r) : ∃ q, gIx (.loc rn) (.int (u : Nat)) S = .ok (.loc q) S ∧ S[q]? = some (.lst (r.map .int)) := by
  obtain ⟨q, e1, e2⟩ := h.rs.get e
  exact ⟨q, DS.ix_seq (seq_loc h.rw) (DS.atI_nat (by rw [List.getElem?_map, e1]; rfl)), e2⟩
/-- what place leaves -/
structure Pl (rows : List (List Int)) (S : Sto) (w e u : Nat) (ow : Ow) (met : List Nat) (b : Bool) (S' : Sto) : Prop where
  fx : Fx (fun n => n = w ∨ n = e) S S'
  ex : ∃ ow' met', S'[w]? = some (.dK (kvO ow')) ∧ S'[e]? = some (.dK (kvM met')) ∧ OwOk rows ow' ∧ met'.Nodup ∧ (∀ x ∈ met', x < rows.length) ∧ (∀ x ∈ u :: met, x ∈ met') ∧
    (b = true → (ow'.map (·.2)).Perm (u :: ow.map (·.2)) ∧ ∀ p ∈ ow, p.2 ∈ u :: met → p ∈ ow') ∧
    (b = false → ow' = ow ∧ ∀ x ∈ met', x ∉ met → ∀ r, rows[x]? = some r → ∀ v ∈ r, ∃ y ∈ met', (v, y) ∈ ow)
theorem met_len {met : List Nat} {n : Nat} (nd : met.Nodup) (h : ∀ x ∈ met, x < n) : met.length ≤ n := by
  have := List.Nodup.length_le_of_subset nd (l₂ := List.range n) fun x hx => List.mem_range.mpr (h x hx)
  simpa using this
theorem s_place {rows : List (List Int)} {m rn w e : Nat} {rl : List Nat} (hv : ∀ r ∈ rows, ∀ v ∈ r, -50 ≤ v ∧ v ≤ 50) (hn : rows.length ≤ 12) (hwe : w ≠ e) : ∀ (k u : Nat) (met : List Nat) (ow : Ow) (S : Sto),
    Mt S m rn w rl rows → S[w]? = some (.dK (kvO ow)) → S[e]? = some (.dK (kvM met)) → OwOk rows ow → met.Nodup → (∀ x ∈ met, x < rows.length) → u < rows.length → u ∉ met → rows.length ≤ met.length + k →
    Ev (f_Matching_place k [.loc m, .int (u : Nat), .loc e] S) fun d S' => ∃ b, d = .bl b ∧ Pl rows S w e u ow met b S'
  | 0, u, met, ow, S, hM, h1, h2, h3, h4, h5, h6, h7, h8 => by
    have := met_len (met := u :: met) (n := rows.length) (List.nodup_cons.mpr ⟨h7, h4⟩) fun x hx => (List.mem_cons.mp hx).elim (fun z => z ▸ h6) (h5 x)
    simp at this
    omega
  | k + 1, u, met, ow, S, hM, h1, h2, h3, h4, h5, h6, h7, h8 => by
    have nd1 : (met ++ [u]).Nodup := by
      rw [List.nodup_append]
      exact ⟨h4, by simp, fun a ha b hb z => h7 (by rw [List.mem_singleton] at hb; rw [← hb, ← z]; exact ha)⟩
    have lt1 : ∀ x ∈ met ++ [u], x < rows.length := fun x hx => (List.mem_append.mp hx).elim (h5 x) fun z => by rw [List.mem_singleton] at z; rw [z]; exact h6
    have hm12 := met_len nd1 lt1
    obtain ⟨row, hrow⟩ : ∃ r, rows[u]? = some r := ⟨_, List.getElem?_eq_getElem h6⟩
    have hol := ow_small h3 hv
    show Ev (runF 5 (f_Matching_place_body (f_Matching_place k)) _ S) _
    unfold f_Matching_place_body
    refine ev_runK fun K hr _ => ?_
    simp
    rw [set_dK h2 (by simp [kvM, sizeLine]; simp at hm12; omega), setM_new h7]
    -- the store behind met[variable] = True
    have hS1 : ∃ S1, S1 = S.set e (.dK (kvM (met ++ [u]))) := ⟨_, rfl⟩
    obtain ⟨S1, eS1⟩ := hS1
    rw [← eS1]
    have M1 : Mt S1 m rn w rl rows := hM.imp (by rw [eS1]; exact keep_set h2 rfl)
    have w1 : S1[w]? = some (.dK (kvO ow)) := by rw [eS1, List.getElem?_set_ne (Ne.symm hwe)]; exact h1
    have e1 : S1[e]? = some (.dK (kvM (met ++ [u]))) := by rw [eS1, List.getElem?_set_self (List.getElem?_eq_some_iff.mp h2).1]
    have f1 : Fx (fun n => n = w ∨ n = e) S S1 := by rw [eS1]; exact Fx.refl.set fun _ => .inr rfl
    clear eS1
    obtain ⟨q, hq1, hq2⟩ := M1.ix hrow
    simp [M1.fr, hq1, it_loc hq2]
    -- for value in self.rows[variable]: a free one
    refine ws_forK (fun rem ρ S' => S' = S1 ∧ (∃ x, ρ = [some (.loc m), some (.int (u : Nat)), some (.loc e), x, none]) ∧ ∃ dn, row = dn ++ rem ∧ ∀ v ∈ dn, ∃ y, (v, y) ∈ ow) ⟨rfl, ⟨_, rfl⟩, [], rfl, by simp⟩ ?_ ?_
    · rintro v rem ρ S' ⟨rfl, ⟨x, rfl⟩, dn, rfl, hdn⟩
      refine ⟨hq2, _, rfl, fun K2 B => ?_⟩
      unfold Matching_place_b1
      simp [M1.fo, notIn_dict w1]
      cases hg : getK (kvO ow) (.inl v) with
      | none =>
        simp [M1.fo, set_dK w1 (show (kvO ow).length < sizeLine by simp [kvO, sizeLine]; omega), setO_new hg]
        refine B.ret _ _ (hr _ _ ⟨true, rfl, f1.set fun _ => .inl rfl, ow ++ [(v, u)], met ++ [u], ?_, ?_, ?_, nd1, lt1, fun x hx => ?_, fun _ => ⟨?_, fun p hp _ => List.mem_append_left _ hp⟩, fun z => nomatch z⟩)
        · rw [List.getElem?_set_self (List.getElem?_eq_some_iff.mp w1).1]
        · rw [List.getElem?_set_ne hwe]; exact e1
        · refine ⟨?_, fun p hp => ?_⟩
          · rw [List.map_append, List.nodup_append]
            refine ⟨h3.nd, by simp, fun a ha b hb z => getO_none hg ?_⟩
            simp at hb
            rw [← hb, ← z]
            exact ha
          · rcases List.mem_append.mp hp with hp | hp
            · exact h3.row p hp
            · rw [List.mem_singleton] at hp
              subst hp
              exact ⟨_, hrow, by simp⟩
        · rcases List.mem_cons.mp hx with z | z
          · simp [z]
          · simp [z]
        · rw [List.map_append]
          exact List.perm_append_comm
      | some d =>
        simp
        obtain ⟨y, -, hy⟩ := getO_some hg
        exact B.nx _ _ ⟨rfl, ⟨_, rfl⟩, dn ++ [v], by simp, fun z hz => (List.mem_append.mp hz).elim (hdn z) fun hz => by rw [List.mem_singleton] at hz; subst hz; exact ⟨y, hy⟩⟩
    · rintro ρ S' ⟨rfl, ⟨x, rfl⟩, dn, hdn0, hdn⟩
      rw [List.append_nil] at hdn0
      subst hdn0
      refine ⟨hq2, ?_⟩
      simp [M1.fr, hq1, it_loc hq2]
      -- for value in self.rows[variable]: one that can be freed
      refine ws_forK (fun rem ρ S' => (∃ x y, ρ = [some (.loc m), some (.int (u : Nat)), some (.loc e), x, y]) ∧ Fx (fun n => n = w ∨ n = e) S S' ∧ Mt S' m rn w rl rows ∧ S'[q]? = some (.lst (row.map .int)) ∧ S'[w]? = some (.dK (kvO ow)) ∧
          ∃ met1, S'[e]? = some (.dK (kvM met1)) ∧ met1.Nodup ∧ (∀ x ∈ met1, x < rows.length) ∧ (∀ x ∈ u :: met, x ∈ met1) ∧ met.length + 1 ≤ met1.length ∧ (∀ x ∈ met1, x ∉ u :: met → ∀ r, rows[x]? = some r → ∀ v ∈ r, ∃ y ∈ met1, (v, y) ∈ ow) ∧
          ∃ dn, row = dn ++ rem ∧ ∀ v ∈ dn, ∃ y ∈ met1, (v, y) ∈ ow)
        ⟨⟨_, _, rfl⟩, f1, M1, hq2, w1, met ++ [u], e1, nd1, lt1, fun x hx => (List.mem_cons.mp hx).elim (fun z => by simp [z]) fun z => by simp [z], by simp, fun x hx hx2 => absurd ((List.mem_append.mp hx).elim (fun z => List.mem_cons_of_mem _ z) fun z => by rw [List.mem_singleton] at z; simp [z]) hx2, [], rfl, by simp⟩ ?_ ?_
      · rintro v rem ρ S2 ⟨⟨x, x2, rfl⟩, f2, M2, q2, w2, met1, e2, g1, g2, g3, g4, g5, dn, hdr, g6⟩
        refine ⟨q2, _, rfl, fun K2 B => ?_⟩
        have hvr : v ∈ row := by rw [hdr]; simp
        obtain ⟨y, hy⟩ := hdn v hvr
        have hgy := getO_mem h3.nd hy
        obtain ⟨ry, hry, hvy⟩ := h3.row _ hy
        have hyl : y < rows.length := (List.getElem?_eq_some_iff.mp hry).1
        unfold Matching_place_b2
        simp [M2.fo, ix_dK w2 hgy, notIn_dict e2, getM_iff]
        by_cases hm : y ∈ met1
        · simp [hm]
          exact B.nx _ _ ⟨⟨_, _, rfl⟩, f2, M2, q2, w2, met1, e2, g1, g2, g3, g4, g5, dn ++ [v], by simp [hdr], fun z hz => (List.mem_append.mp hz).elim (g6 z) fun hz => by rw [List.mem_singleton] at hz; subst hz; exact ⟨y, hm, hy⟩⟩
        · simp [hm, ins1 M2.ob get_place]
          refine (s_place hv hn hwe k y met1 ow S2 M2 w2 e2 h3 g1 g2 hyl hm (by omega)).ws fun d S3 ⟨b, hd, P⟩ => ?_
          subst hd
          obtain ⟨f3, ow', met', w3, e3, o3, n3, l3, s3, t3, u3⟩ := P
          have kf := keep_fx f3 (fun n z => z.elim (fun z => ⟨_, z ▸ w2, rfl⟩) fun z => ⟨_, z ▸ e2, rfl⟩)
          have M3 : Mt S3 m rn w rl rows := M2.imp kf
          cases b with
          | true =>
            obtain ⟨tp, tk⟩ := t3 rfl
            have hyo := tk _ hy List.mem_cons_self
            obtain ⟨A, B2, hAB⟩ := List.append_of_mem hyo
            subst hAB
            have hol' := ow_small o3 hv
            simp [M3.fo, set_dK w3 (show (kvO (A ++ (v, y) :: B2)).length < sizeLine by unfold kvO; rw [List.length_map]; simp only [sizeLine]; omega), setO_old o3.nd]
            refine B.ret _ _ (hr _ _ ⟨true, rfl, (f2.trans f3).set fun _ => .inl rfl, A ++ (v, u) :: B2, met', ?_, ?_, ?_, n3, l3, fun x hx => s3 x (List.mem_cons_of_mem _ (g3 x hx)), fun _ => ⟨?_, fun p hp hpu => ?_⟩, fun z => nomatch z⟩)
            · rw [List.getElem?_set_self (List.getElem?_eq_some_iff.mp w3).1]
            · rw [List.getElem?_set_ne hwe]; exact e3
            · refine ⟨by have := o3.nd; simpa using this, fun p hp => ?_⟩
              rcases List.mem_append.mp hp with hp | hp
              · exact o3.row p (List.mem_append_left _ hp)
              · rcases List.mem_cons.mp hp with z | hp
                · subst z; exact ⟨row, hrow, hvr⟩
                · exact o3.row p (List.mem_append_right _ (List.mem_cons_of_mem _ hp))
            · have h9 : ((A ++ (v, y) :: B2).map (·.2)).Perm (y :: (A ++ B2).map (·.2)) := by
                rw [List.map_append, List.map_cons, List.map_append]
                exact List.perm_middle
              have h10 := (h9.symm.trans tp).cons_inv
              have h11 : ((A ++ (v, u) :: B2).map (·.2)).Perm (u :: (A ++ B2).map (·.2)) := by
                rw [List.map_append, List.map_cons, List.map_append]
                exact List.perm_middle
              exact h11.trans (h10.cons u)
            · have hp3 := tk p hp (List.mem_cons_of_mem _ (g3 _ hpu))
              rcases List.mem_append.mp hp3 with z | z
              · exact List.mem_append_left _ z
              · rcases List.mem_cons.mp z with z | z
                · subst z
                  exact absurd (g3 _ hpu) hm
                · exact List.mem_append_right _ (List.mem_cons_of_mem _ z)
          | false =>
            obtain ⟨ue, uc⟩ := u3 rfl
            subst ue
            simp
            refine B.nx _ _ ⟨⟨_, _, rfl⟩, f2.trans f3, M3, kf _ _ q2 rfl, w3, met', e3, n3, l3, fun x hx => s3 x (List.mem_cons_of_mem _ (g3 x hx)), ?_, fun x hx hxu r hr' z hz => ?_, dn ++ [v], by simp [hdr], fun z hz => ?_⟩
            · have := List.Nodup.length_le_of_subset g1 fun x hx => s3 x (List.mem_cons_of_mem _ hx)
              omega
            · by_cases hx1 : x ∈ met1
              · obtain ⟨y', k1, k2⟩ := g5 x hx1 hxu r hr' z hz
                exact ⟨y', s3 y' (List.mem_cons_of_mem _ k1), k2⟩
              · exact uc x hx hx1 r hr' z hz
            · rcases List.mem_append.mp hz with hz | hz
              · obtain ⟨y', k1, k2⟩ := g6 z hz
                exact ⟨y', s3 y' (List.mem_cons_of_mem _ k1), k2⟩
              · rw [List.mem_singleton] at hz
                subst hz
                exact ⟨y, s3 y List.mem_cons_self, hy⟩
      · rintro ρ S2 ⟨⟨x, x2, rfl⟩, f2, M2, q2, w2, met1, e2, g1, g2, g3, g4, g5, dn, hdr, g6⟩
        rw [List.append_nil] at hdr
        subst hdr
        refine ⟨q2, ?_⟩
        simp
        refine hr _ _ ⟨false, rfl, f2, ow, met1, w2, e2, h3, g1, g2, g3, (fun z => nomatch z), fun _ => ⟨rfl, fun x hx hxm r hr' z hz => ?_⟩⟩
        by_cases hxu : x = u
        · subst hxu
          rw [hrow] at hr'
          cases hr'
          exact g6 z hz
        · exact g5 x hx (fun h => (List.mem_cons.mp h).elim hxu hxm) r hr' z hz
end K56

namespace K56
open PySem L2 DS Fd
theorem putD_nil {f : Str} {d : D} : putD f d [] = [(f, d)] := rfl
theorem putD_two {a b : D} : putD "owners" b [(("rows" : Str), a)] = [(("rows" : Str), a), ("owners", b)] := by
  unfold putD
  rw [if_neg (by simp [fields_ne])]
  rfl
theorem s_init {m gn : Nat} {ds : List Dom} {S : Sto} (hw : ∀ d ∈ ds, WD d) (hz : ds.length ≤ 100) (hm : S[m]? = some (.ins 2 [])) (hg : S[gn]? = some (.lst (ds.map dDom))) :
    Ev (f_Matchingu_initu [.loc m, .loc gn] S) fun d S' => d = .non ∧ Fx (At m) S S' ∧ ∃ rn w rl, S.length ≤ w ∧ Mt S' m rn w rl (ds.map vals) ∧ S'[w]? = some (.dK (kvO [])) := by
  unfold f_Matchingu_initu f_Matchingu_initu_body
  refine ev_runK fun K _ hr => ?_
  simp [it_loc hg]
  refine ws_compR (fun _ => true) vals (fun S' f => f.get id hg) (by simp [sizeLine]; omega) ?_ ?_
  · intro d hd S' f hl
    refine ⟨_, rfl, ?_⟩
    simp
    unfold Matchingu_initu_e1
    simp
    exact (s_values (hw d hd) S').imp fun y S2 ⟨h1, h2, h3⟩ => ⟨_, h1, by omega, h2, h3⟩
  · intro S' rl f h1 h2
    have hm' := f.get id hm
    rw [List.filter_eq_self.mpr fun _ _ => rfl] at h2
    simp [put1 hm', putD_nil]
    have hml : m < S.length := (List.getElem?_eq_some_iff.mp hm).1
    have hml' : m < S'.length := Nat.lt_of_lt_of_le hml f.1
    have hm2 : (S'.set m (.ins 2 [("rows", .loc S.length)]) ++ [Ob.dK []])[m]? = some (.ins 2 [("rows", .loc S.length)]) := by
      rw [List.getElem?_append_left (by rw [List.length_set]; exact hml'), List.getElem?_set_self hml']
    rw [put1 hm2 (show 1 < 1000 by decide), putD_two]
    simp
    have hne : m ≠ S.length := by omega
    refine hr _ _ ⟨rfl, Fx.set (M := At m) (Fx.push (Fx.set (M := At m) (f.mono fun _ z _ => z.elim) fun _ => rfl)) fun _ => rfl, S.length, S'.length, rl, f.1, ⟨?_, ?_, ?_⟩, ?_⟩
    · rw [List.getElem?_set_self (by simp; omega)]
    · rw [List.getElem?_set_ne hne, List.getElem?_append_left (by rw [List.length_set]; exact (List.getElem?_eq_some_iff.mp h1).1), List.getElem?_set_ne hne]
      exact h1
    · refine (h2.imp fun n q e => ?_)
      have hn : n < S'.length := (List.getElem?_eq_some_iff.mp e).1
      have hmn : m ≠ n := by
        intro z
        subst z
        rw [hm'] at e
        cases e
      rw [List.getElem?_set_ne hmn, List.getElem?_append_left (by rw [List.length_set]; exact hn), List.getElem?_set_ne hmn]
      exact e
    · rw [List.getElem?_set_ne (by omega)]
      have e : (S'.set m (.ins 2 [("rows", .loc S.length)])).length = S'.length := List.length_set
      rw [← e]
      exact get_end
theorem s_chosen {m rn w : Nat} {rl : List Nat} {rows : List (List Int)} {ow : Ow} {S : Sto} (hM : Mt S m rn w rl rows) (h1 : S[w]? = some (.dK (kvO ow))) (h2 : OwOk rows ow) (hz : rows.length ≤ 100) :
    Ev (f_Matching_chosen [.loc m] S) fun d S' => (∃ n, d = .loc n) ∧ Fx (At w) S S' := by
  unfold f_Matching_chosen f_Matching_chosen_body
  refine ev_runK fun K hr _ => ?_
  simp [hM.fr, it_loc hM.rw]
  refine ws_compM (enc := D.loc) Pu (fun _ => .int 0) (fun S' f => f.get id hM.rw) id (by rw [hM.rs.len]; simp [sizeLine]; omega) ?_ ?_
  · intro x hx S' f
    refine ⟨_, rfl, ?_⟩
    unfold Matching_chosen_e1
    simp
  · intro S' f hf
    simp
    have M1 : Mt S' m rn w rl rows := hM.imp fun n o e _ => f.get id e
    have w1 := f.get id h1
    have hwl : w < S'.length := (List.getElem?_eq_some_iff.mp w1).1
    have kp := keep_set (o' := .lk (.dK (kvO ow))) w1 rfl
    refine ws_forDict (n := w) (kvs := kvO ow) (by simp [M1.fo]) w1 (by simp [(M1.imp kp).fo]) ?_
    have e : (kvO ow).map (fun kv => kD kv.1) = (ow.map (·.1)).map D.int := by
      unfold kvO
      rw [List.map_map, List.map_map]
      rfl
    rw [e]
    have hsl : S.length < S'.length := (List.getElem?_eq_some_iff.mp hf).1
    have hws : w ≠ S.length := by
      intro z
      subst z
      rw [w1] at hf
      cases hf
    refine ws_forK (fun rem ρ S2 => (∃ x, ρ = [some (.loc m), some (.loc S.length), x, none]) ∧ S2[w]? = some (.lk (.dK (kvO ow))) ∧ Mt S2 m rn w rl rows ∧ (∃ l : List D, S2[S.length]? = some (.lst l) ∧ l.length = rows.length) ∧ Fx (At w) S S2 ∧ ∀ v ∈ rem, v ∈ ow.map (·.1))
      ⟨⟨_, rfl⟩, by rw [List.getElem?_set_self hwl], M1.imp kp, ⟨_, by rw [List.getElem?_set_ne hws]; exact hf, by rw [List.length_map, hM.rs.len]⟩, Fx.set (M := At w) (f.mono fun _ z _ => z.elim) fun _ => rfl, fun v hv => hv⟩ ?_ ?_
    · rintro v rem ρ S2 ⟨⟨x, rfl⟩, w2, M2, ⟨l, l1, l2⟩, f2, hv⟩
      refine ⟨w2, _, rfl, fun K2 B => ?_⟩
      obtain ⟨p, hp, hpv⟩ := List.mem_map.mp (hv v List.mem_cons_self)
      have hgy : getK (kvO ow) (.inl v) = some (.int (p.2 : Nat)) := getO_mem h2.nd (by rw [← hpv]; exact hp)
      obtain ⟨r, hr1, hr2⟩ := h2.row p hp
      have hpl := (List.getElem?_eq_some_iff.mp hr1).1
      unfold Matching_chosen_b1
      simp [M2.fo]
      rw [DS.ix_dict' (by simp [w2, Ob.un]) (by simp [seqOf, w2]) hgy]
      simp
      rw [DS.set_lst l1 (by omega)]
      refine B.nx _ _ ⟨⟨_, rfl⟩, by rw [List.getElem?_set_ne (Ne.symm hws)]; exact w2, ?_, ⟨_, by rw [List.getElem?_set_self (List.getElem?_eq_some_iff.mp l1).1], by rw [List.length_set]; exact l2⟩, f2.set fun z => absurd z (Nat.lt_irrefl _), fun v hv2 => hv v (List.mem_cons_of_mem _ hv2)⟩
      have hlt : ∀ (n : Nat) (o : Ob), S[n]? = some o → n ≠ S.length := fun n o e => Nat.ne_of_lt (List.getElem?_eq_some_iff.mp e).1
      refine ⟨?_, ?_, ?_⟩
      · rw [List.getElem?_set_ne (Ne.symm (hlt _ _ hM.ob))]; exact M2.ob
      · rw [List.getElem?_set_ne (Ne.symm (hlt _ _ hM.rw))]; exact M2.rw
      · refine M2.rs.set fun x hx => ?_
        obtain ⟨i, hi⟩ := List.getElem?_of_mem hx
        have hi2 : i < rows.length := by rw [← hM.rs.len]; exact (List.getElem?_eq_some_iff.mp hi).1
        obtain ⟨n, e1, e2⟩ := hM.rs.get (List.getElem?_eq_getElem hi2)
        rw [hi] at e1
        cases e1
        exact hlt _ _ e2
    · rintro ρ S2 ⟨⟨x, rfl⟩, w2, M2, ⟨l, l1, l2⟩, f2, -⟩
      refine ⟨w2, ?_⟩
      simp
      exact hr _ _ ⟨⟨_, rfl⟩, f2.set fun _ => rfl⟩
theorem keysM (met : List Nat) : intKeys (kvM met) = some (met.map fun x => ((x : Nat) : Int)) := by
  induction met with
  | nil => rfl
  | cons x met ih =>
    show (intKeys (kvM met)).map ((x : Int) :: ·) = _
    rw [ih]
    rfl
theorem s_distinct {gn : Nat} {ds : List Dom} {S : Sto} (hw : ∀ d ∈ ds, WD d) (hz : ds.length ≤ 12) (hg : S[gn]? = some (.lst (ds.map dDom))) :
    Ev (f_distinct_values [.loc gn] S) fun d S' => Fx Pu S S' ∧ ∃ x y, d = .tup [x, y] ∧ (isNon x = true ↔ ¬ SdrL (ds.map vals)) := by
  unfold f_distinct_values f_distinct_values_body
  refine ev_runK fun K hr _ => ?_
  simp
  have hg0 : (S ++ [Ob.ins 2 []])[gn]? = some (.lst (ds.map dDom)) := (Fx.one (M := Pu)).get id hg
  have hv : ∀ r ∈ ds.map vals, ∀ v ∈ r, -50 ≤ v ∧ v ≤ 50 := fun r hr v hv => by
    obtain ⟨d, hd, rfl⟩ := List.mem_map.mp hr
    exact (hw d hd).vrg hv
  refine ((s_init hw (by omega) get_end hg0).nox).ws fun d S1 ⟨hd, f1, rn, w, rl, hwl, M1, w1⟩ => ?_
  subst hd
  have F1 : Fx Pu S S1 := ((Fx.one (M := At S.length)).trans f1).mono fun n z hn => absurd hn (by rw [show n = S.length from z]; exact Nat.lt_irrefl _)
  have g1 := F1.get id hg
  have hwS : S.length < w := by simp at hwl; omega
  simp only [R.toS_ok, R.bind_ok, toS_bind, ws_nx, j_bName, ws_seq, j_sFor, j_iR1, j_eN, j_aCons, j_eVar, j_aNil]
  simp
  rw [len_loc g1]
  simp only [R.toS_ok, List.length_map]
  rw [rg1_of (by omega) (by omega)]
  simp only [R.toS_ok, Int.toNat_natCast]
  have rl12 : (ds.map vals).length = ds.length := List.length_map _
  refine ws_forK (enc := fun k : Nat => D.int (k : Int)) (fun rem ρ S' => (∃ dn, List.range ds.length = dn ++ rem ∧ (∃ x y, ρ = [some (.loc gn), some (.loc S.length), x, y]) ∧ Mt S' S.length rn w rl (ds.map vals) ∧ Fx Pu S S' ∧ ∃ ow, S'[w]? = some (.dK (kvO ow)) ∧ OwOk (ds.map vals) ow ∧ (ow.map (·.2)).Perm (List.range dn.length)))
    ⟨[], rfl, ⟨_, _, rfl⟩, M1, F1, [], w1, ⟨List.nodup_nil, fun p hp => nomatch hp⟩, List.Perm.refl _⟩ ?_ ?_
  · rintro u rem ρ S2 ⟨dn, hsp, ⟨x, y, rfl⟩, M2, F2, ow, w2, o2, p2⟩
    refine ⟨trivial, _, rfl, fun K2 B => ?_⟩
    obtain ⟨hu, hul⟩ := range_split hsp
    have wl2 := (List.getElem?_eq_some_iff.mp w2).1
    have M3 : Mt (S2 ++ [Ob.dK []]) S.length rn w rl (ds.map vals) := M2.imp fun n o e _ => (Fx.one (M := Pu)).get id e
    have w3 : (S2 ++ [Ob.dK []])[w]? = some (.dK (kvO ow)) := (Fx.one (M := Pu)).get id w2
    unfold distinct_values_b1
    simp [ins1 M3.ob get_place]
    refine (s_place (e := S2.length) hv (by omega) (Nat.ne_of_lt wl2) 20 u [] ow _ M3 w3 (by rw [get_end]; rfl) o2 List.nodup_nil (fun x hx => nomatch hx) (by rw [rl12]; exact hul) (by simp) (by simp; omega)).ws fun d S3 ⟨b, hd, f3, ow', met', w4, e4, o4, n4, l4, s4, t4, u4⟩ => ?_
    subst hd
    have F3 : Fx Pu S S3 := (((F2.push (o := .dK [])).mono fun n z _ => z.elim).trans f3 : Fx (fun n => n = w ∨ n = S2.length) S S3).mono fun n z hn => by
      have := F2.1
      rcases z with z | z <;> omega
    have kf := keep_fx f3 fun n z => z.elim (fun z => ⟨_, z ▸ w3, rfl⟩) fun z => ⟨_, z ▸ get_end, rfl⟩
    have M4 := M3.imp kf
    cases b with
    | true =>
      simp
      refine B.nx _ _ ⟨dn ++ [u], by rw [hsp]; simp, ⟨_, _, rfl⟩, M4, F3, ow', w4, o4, ?_⟩
      have h1 := (t4 rfl).1
      rw [List.length_append, List.length_singleton, List.range_succ, ← hu]
      exact h1.trans ((p2.cons u).trans (by rw [← hu]; exact (List.perm_append_singleton _ _).symm))
    | false =>
      obtain ⟨ue, uc⟩ := u4 rfl
      subst ue
      have hm12 := met_len n4 l4
      have hd : dictAt (.loc S2.length) S3 = some (kvM met') := by simp [dictAt, e4, Ob.un]
      have hl : lstOf (.loc S2.length) S3 = none := by simp [lstOf, e4]
      have hso : gSorted [.loc S2.length] S3 = .ok (.loc S3.length) (S3 ++ [.lst ((sortI (met'.map fun x => ((x : Nat) : Int))).map .int)]) := by
        simp only [gSorted, hl, hd, keysM]
        rw [if_pos (by rw [List.length_map]; omega)]
      simp [hso]
      refine B.ret _ _ (hr _ _ ⟨F3.push, _, _, rfl, ?_⟩)
      refine ⟨fun _ => ?_, fun _ => rfl⟩
      have hum : u ∈ met' := s4 u (by simp)
      rw [hu] at hum
      exact no_sdr o4 p2 hum n4 l4 fun x hx r hr v hv2 => uc x hx (by simp) r hr v hv2
  · rintro ρ S2 ⟨dn, hsp, ⟨x, y, rfl⟩, M2, F2, ow, w2, o2, p2⟩
    refine ⟨trivial, ?_⟩
    rw [List.append_nil] at hsp
    subst hsp
    simp [ins1 M2.ob get_chosen]
    refine (s_chosen M2 w2 o2 (by omega)).ws fun d S3 ⟨⟨n, hn⟩, f3⟩ => ?_
    subst hn
    refine hr _ _ ⟨((F2.mono fun n z _ => z.elim).trans f3 : Fx (At w) S S3).mono fun n z hn => ?_, _, _, rfl, ?_⟩
    · have : n = w := z
      omega
    · refine ⟨fun z => (nomatch z), fun z => absurd (sdr_of_ow o2 ?_) z⟩
      rw [List.length_range] at p2
      rw [rl12]
      exact p2
end K56

namespace K56
open PySem L2 DS Fd
theorem s_are_variables {vs : List Int} {many : Int} {S : Sto} (h : ∀ v ∈ vs, 0 ≤ v ∧ v < many) (hn : vs.Nodup) (hz : vs.length ≤ 100) : f_are_variables [.tup (vs.map .int), .int many] S = .ok (.bl true) S := by
  refine Fd.Ev.eq ?_
  unfold f_are_variables f_are_variables_body
  refine ev_runK fun K hr _ => ?_
  simp
  refine ws_forK (fun rem ρ S' => S' = S ∧ (∃ x, ρ = [some (.tup (vs.map .int)), some (.int many), x]) ∧ ∀ v ∈ rem, v ∈ vs) ⟨rfl, ⟨_, rfl⟩, fun _ h => h⟩ ?_ ?_
  · rintro v rem ρ S' ⟨rfl, ⟨x, rfl⟩, hm⟩
    refine ⟨trivial, _, rfl, fun K2 B => ?_⟩
    have := h v (hm v List.mem_cons_self)
    have h1 : -many ≤ v := by omega
    have h2 : v ≤ many := by omega
    unfold are_variables_b1
    simp [s_is_integer_to, this, h1, h2]
    exact B.nx _ _ ⟨rfl, ⟨_, rfl⟩, fun q hq => hm q (List.mem_cons_of_mem _ hq)⟩
  · rintro ρ S' ⟨rfl, ⟨x, rfl⟩, -⟩
    refine ⟨trivial, ?_⟩
    have e : (dedupI vs).length = vs.length := (dedupI_eq vs).mpr hn
    simp [eLenSet, ints_map, e]
    rw [if_pos (by omega)]
    simp
    exact hr _ _ ⟨rfl, rfl⟩
theorem s_are_sums {sums : List (Int × Int)} {many : Int} {S : Sto} (h0 : sums.length ≤ 6) (h : ∀ p ∈ sums, p.1 ≠ 0 ∧ -20 ≤ p.1 ∧ p.1 ≤ 20 ∧ 0 ≤ p.2 ∧ p.2 < many) (hn : (sums.map (·.2)).Nodup) :
    Ev (f_are_sums [.tup (sums.map dP), .int many] S) fun d S' => d = .bl true ∧ Fx Pu S S' := by
  unfold f_are_sums f_are_sums_body
  refine ev_runK fun K hr _ => ?_
  have hz : ¬ (6 : Int) < sums.length := by omega
  simp [hz]
  refine ws_forK (fun rem ρ S' => S' = S ∧ (∃ x, ρ = [some (.tup (sums.map dP)), some (.int many), x]) ∧ ∀ v ∈ rem, v ∈ sums) ⟨rfl, ⟨_, rfl⟩, fun _ h => h⟩ ?_ ?_
  · rintro p rem ρ S' ⟨rfl, ⟨x, rfl⟩, hm⟩
    refine ⟨trivial, _, rfl, fun K2 B => ?_⟩
    obtain ⟨k1, k2, k3, k4, k5⟩ := h p (hm p List.mem_cons_self)
    unfold are_sums_b1 dP
    simp [s_is_integer_to, k1, k2, k3]
    exact B.nx _ _ ⟨rfl, ⟨_, rfl⟩, fun q hq => hm q (List.mem_cons_of_mem _ hq)⟩
  · rintro ρ S' ⟨rfl, ⟨x, rfl⟩, -⟩
    refine ⟨trivial, ?_⟩
    simp
    refine ws_compM (enc := dP) Pu (fun p => .int p.2) (fun _ _ => trivial) id (by simp [sizeLine]; omega) ?_ ?_
    · intro p hp S2 f
      refine ⟨_, rfl, ?_⟩
      unfold are_sums_e1
      simp
    · intro S2 f e
      have e' : S2[S'.length]? = some (.lst ((sums.map (·.2)).map .int)) := by rw [e, List.map_map]; rfl
      simp [tup_loc e']
      rw [← List.map_map, s_are_variables (vs := sums.map (·.2)) (fun v hv => by
        obtain ⟨p, hp, rfl⟩ := List.mem_map.mp hv
        exact (h p hp).2.2.2) hn (by rw [List.length_map]; omega)]
      exact hr _ _ ⟨rfl, f⟩
theorem s_is_constraint {c : Cst} {many : Int} {S : Sto} (h : WC many c) : Ev (f_is_constraint [dCon c, .int many] S) fun d S' => d = .bl true ∧ Fx Pu S S' := by
  unfold f_is_constraint f_is_constraint_body
  refine ev_runK fun K hr _ => ?_
  cases c with
  | sum w sums b =>
    obtain ⟨h1, h2, h3, h4, h5⟩ := h
    unfold dCon
    cases w <;>
    · simp [W3.s]
      refine (s_are_sums h1 h2 h3).ws fun d S' ⟨hd, f⟩ => ?_
      subst hd
      simp [s_is_integer_to, h4, h5]
      exact hr _ _ ⟨rfl, f⟩
  | times x y z =>
    obtain ⟨h1, h2, h3⟩ := h
    unfold dCon
    simp
    refine ws_compM (enc := D.int) (xs := [x, y, z]) Pu (fun p => .bl true) (fun _ _ => trivial) id (by simp [sizeLine]) ?_ ?_
    · intro p hp S2 f
      refine ⟨_, rfl, ?_⟩
      unfold is_constraint_e1
      simp
      rw [show [D.int p] = [p].map D.int from rfl, s_are_variables (vs := [p]) (fun v hv => by
        rw [List.mem_singleton] at hv
        subst hv
        simp at hp
        rcases hp with rfl | rfl | rfl
        · exact h1
        · exact h2
        · exact h3) (by simp) (by simp)]
      simp
    · intro S2 f e
      have e' : S2[S.length]? = some (.lst ([true, true, true].map .bl)) := e
      rw [all_loc e']
      exact hr _ _ ⟨rfl, f⟩
  | dist vs =>
    obtain ⟨h1, h2, h3, h4⟩ := h
    unfold dCon
    have k1 : (1 : Int) ≤ vs.length := by omega
    have k2 : (vs.length : Int) ≤ 12 := by omega
    simp
    rw [s_are_variables h4 h3 (by omega)]
    simp [k1, k2]
    exact hr _ _ ⟨rfl, Fx.refl⟩
end K56

namespace K56
open PySem L2 DS Fd
theorem s_check {doms : List Dom} {c : Cst} {n m : Nat} {S : Sto} (hd : S[n]? = some (.lst (doms.map dDom))) (hc : S[m]? = some (.lst [dCon c])) (hw : ∀ d ∈ doms, WD d) (hl : doms.length ≤ 12) (h : WC doms.length c) :
    Ev (f_check_problem [.loc n, .loc m] S) fun d S' => Fx Pu S S' := by
  unfold f_check_problem f_check_problem_body
  refine ev_runK fun K _ hr => ?_
  have hz : ¬ (12 : Int) < doms.length := by omega
  simp [len_loc hd, hz, it_loc hd]
  refine ws_compM (enc := dDom) Pu (fun p => .bl true) (fun _ f => f.get id hd) id (by simp [sizeLine]; omega) ?_ ?_
  · intro d hd2 S2 f
    refine ⟨_, rfl, ?_⟩
    unfold check_problem_e1
    simp
    exact s_is_domain (hw d hd2) S2
  · intro S2 f e
    have e' : S2[S.length]? = some (.lst ((doms.map fun _ => true).map .bl)) := by rw [e, List.map_map]; rfl
    have hd2 := f.get id hd
    have hc2 := f.get id hc
    rw [all_loc e']
    simp [it_loc hc2]
    refine ws_compM (enc := dCon) (xs := [c]) Pu (fun p => .bl true) (fun _ f => f.get id hc2) id (by simp [sizeLine]) ?_ ?_
    · intro c' hc' S3 f3
      rw [List.mem_singleton] at hc'
      subst hc'
      refine ⟨_, rfl, ?_⟩
      unfold check_problem_e2
      simp [len_loc (f3.get id hd2)]
      exact s_is_constraint h
    · intro S3 f3 e3
      have e3' : S3[S2.length]? = some (.lst ([true].map .bl)) := e3
      rw [all_loc e3']
      exact hr _ _ (f.trans f3)
theorem s_vars {c : Cst} {many : Int} (h : WC many c) (S : Sto) : Ev (f_variables_of [dCon c] S) fun d S' => ∃ n, d = .loc n ∧ S'[n]? = some (.lst (c.own.map .int)) ∧ Fx Pu S S' := by
  unfold f_variables_of f_variables_of_body
  refine ev_runK fun K hr _ => ?_
  cases c with
  | sum w sums b =>
    have hz := h.1
    unfold dCon
    cases w <;>
    · simp [W3.s]
      refine ws_compM (enc := dP) Pu (fun p => .int p.2) (fun _ _ => trivial) id (by simp [sizeLine]; omega) ?_ ?_
      · intro p hp S2 f
        refine ⟨_, rfl, ?_⟩
        unfold variables_of_e1
        simp
      · intro S2 f e
        exact hr _ _ ⟨_, rfl, by rw [e]; simp [Cst.own], f⟩
  | times x y z =>
    unfold dCon
    simp
    exact hr _ _ ⟨_, rfl, get_end, Fx.one⟩
  | dist vs =>
    unfold dCon
    simp
    exact hr _ _ ⟨_, rfl, get_end, Fx.one⟩
/-- what the sums' walks lean on -/
structure SumOk (doms : List Dom) (sums : List (Int × Int)) : Prop where
  f : ∀ p ∈ sums, -20 ≤ p.1 ∧ p.1 ≤ 20
  v : ∀ p ∈ sums, 0 ≤ p.2 ∧ p.2 < doms.length
  n : ∀ p ∈ sums, dm doms p.2 ≠ []
theorem s_least {doms : List Dom} {sums : List (Int × Int)} {var value : Int} {n : Nat} {sd : D} {chk : Sto → Prop} {S : Sto} (hd : S[n]? = some (.lst (doms.map dDom))) (hs : itOf sd S = .ok ⟨sums.map dP, chk⟩ S) (hc : chk S) (hw : ∀ d ∈ doms, WD d) (h : SumOk doms sums) :
    f_least_sum [.loc n, sd, .int var, .int value] S = .ok (.int (lsum (Ep doms var value) 0 sums)) S := by
  refine Fd.Ev.eq ?_
  unfold f_least_sum f_least_sum_body
  refine ev_runK fun K hr _ => ?_
  simp [hs]
  refine ws_forK (fun rem ρ S' => S' = S ∧ (∃ t a b c d, ρ = [some (.loc n), some sd, some (.int var), some (.int value), some (.int t), a, b, c, d] ∧ lsum (Ep doms var value) t rem = lsum (Ep doms var value) 0 sums) ∧ ∀ p ∈ rem, p ∈ sums) ⟨rfl, ⟨_, _, _, _, _, rfl, rfl⟩, fun _ h => h⟩ ?_ ?_
  · rintro p rem ρ S' ⟨rfl, ⟨t, a, b, c, d, rfl, ht⟩, hm⟩
    refine ⟨hc, _, rfl, fun K2 B => ?_⟩
    have hp := hm p List.mem_cons_self
    have hv := h.v p hp
    have hn := h.n p hp
    have hf := h.f p hp
    unfold least_sum_b1
    simp [ix_dm hd hv.1 hv.2, ix_hd hn, ix_ls hn]
    by_cases e : p.2 = var
    · simp [e]
      rw [j_mul (cmul_small (by omega) (by omega)), R.toS_ok, j_mul (cmul_small (by omega) (by omega))]
      simp
      refine B.nx _ _ ⟨rfl, ⟨_, _, _, _, _, rfl, ?_⟩, fun q hq => hm q (List.mem_cons_of_mem _ hq)⟩
      rw [← ht]
      show _ = lsum _ _ rem
      congr 1
      simp [Ep, e, imin]
    · simp [e]
      rw [j_mul (cmul_small (by omega) (by omega)), R.toS_ok, j_mul (cmul_small (by omega) (by omega))]
      simp
      refine B.nx _ _ ⟨rfl, ⟨_, _, _, _, _, rfl, ?_⟩, fun q hq => hm q (List.mem_cons_of_mem _ hq)⟩
      rw [← ht]
      show _ = lsum _ _ rem
      congr 1
      simp [Ep, e, imin, hd_1, ls_2]
      rfl
  · rintro ρ S' ⟨rfl, ⟨t, a, b, c, d, rfl, ht⟩, -⟩
    refine ⟨hc, ?_⟩
    simp
    exact hr _ _ ⟨by rw [← ht]; rfl, rfl⟩
theorem s_greatest {doms : List Dom} {sums : List (Int × Int)} {var value : Int} {n : Nat} {S : Sto} (hd : S[n]? = some (.lst (doms.map dDom))) (hw : ∀ d ∈ doms, WD d) (h : SumOk doms sums) (hz : sums.length ≤ 100) :
    Ev (f_greatest_sum [.loc n, .tup (sums.map dP), .int var, .int value] S) fun d S' => d = .int (gsum (Ep doms var value) 0 sums) ∧ Fx Pu S S' := by
  unfold f_greatest_sum f_greatest_sum_body
  refine ev_runK fun K hr _ => ?_
  simp
  refine ws_compM (enc := dP) Pu (fun p => dP (-p.1, p.2)) (fun _ _ => trivial) id (by simp [sizeLine]; omega) ?_ ?_
  · intro p hp S2 f
    refine ⟨_, rfl, ?_⟩
    unfold greatest_sum_e1
    simp [dP]
  · intro S2 f e
    have e' : S2[S.length]? = some (.lst ((sums.map fun p => (-p.1, p.2)).map dP)) := by rw [e, List.map_map]; rfl
    have h' : SumOk doms (sums.map fun p => (-p.1, p.2)) := by
      refine ⟨fun q hq => ?_, fun q hq => ?_, fun q hq => ?_⟩ <;> obtain ⟨p, hp, rfl⟩ := List.mem_map.mp hq
      · have := h.f p hp
        exact ⟨by show -20 ≤ -p.1; omega, by show -p.1 ≤ 20; omega⟩
      · exact h.v p hp
      · exact h.n p hp
    rw [s_least (f.get id hd) (it_loc e') e' hw h']
    simp
    rw [gsum_neg]
    exact hr _ _ ⟨rfl, f⟩
theorem s_allows_sum {doms : List Dom} {w : W3} {sums : List (Int × Int)} {b var value : Int} {n : Nat} {S : Sto} (hd : S[n]? = some (.lst (doms.map dDom))) (hw : ∀ d ∈ doms, WD d) (h : SumOk doms sums) (hz : sums.length ≤ 100) :
    Ev (f_allows_sum [.loc n, dCon (.sum w sums b), .int var, .int value] S) fun d S' => Says (AS doms w sums b var value) d ∧ Fx Pu S S' := by
  unfold f_allows_sum f_allows_sum_body dCon
  refine ev_runK fun K hr _ => ?_
  simp [s_least hd (j_itTup (ds := sums.map dP)) trivial hw h]
  refine (s_greatest hd hw h hz).ws fun d S' ⟨hg, f⟩ => ?_
  subst hg
  have hd' := f.get id hd
  cases w with
  | le =>
    simp [W3.s]
    exact hr _ _ ⟨⟨_, rfl, by simp [AS]⟩, f⟩
  | eq =>
    simp [W3.s]
    by_cases e : lsum (Ep doms var value) 0 sums ≤ b
    · simp [e]
      exact hr _ _ ⟨⟨_, rfl, by simp [AS, e]⟩, f⟩
    · simp [e]
      exact hr _ _ ⟨⟨_, rfl, by simp [AS, e]⟩, f⟩
  | ne =>
    simp [W3.s]
    refine ws_forK (fun rem ρ S2 => S2 = S' ∧ (∃ a b', ρ = [some (.loc n), some (.tup [.str "ne", .tup (sums.map dP), .int b]), some (.int var), some (.int value), some (.str "ne"), some (.tup (sums.map dP)), some (.int b), some (.int (lsum (Ep doms var value) 0 sums)), some (.int (gsum (Ep doms var value) 0 sums)), a, b']) ∧
      (∃ dn, sums = dn ++ rem ∧ ∀ p ∈ dn, ¬ (p.2 ≠ var ∧ lo (dm doms p.2) ≠ hi (dm doms p.2)))) ⟨rfl, ⟨_, _, rfl⟩, [], rfl, by simp⟩ ?_ ?_
    · rintro p rem ρ S2 ⟨rfl, ⟨a, b', rfl⟩, dn, hs, hdn⟩
      refine ⟨trivial, _, rfl, fun K2 B => ?_⟩
      have hp : p ∈ sums := by rw [hs]; simp
      have hv := h.v p hp
      have hn := h.n p hp
      unfold allows_sum_b1
      by_cases e1 : p.2 = var
      · simp [e1]
        exact B.nx _ _ ⟨rfl, ⟨_, _, rfl⟩, dn ++ [p], by simp [hs], fun q hq => (List.mem_append.mp hq).elim (hdn q) fun hq => by rw [List.mem_singleton] at hq; subst hq; exact fun z => z.1 e1⟩
      · simp [e1, ix_dm hd' hv.1 hv.2, ix_hd hn, ix_ls hn, hd_1, ls_2]
        by_cases e2 : lo (dm doms p.2) = hi (dm doms p.2)
        · simp [e2]
          exact B.nx _ _ ⟨rfl, ⟨_, _, rfl⟩, dn ++ [p], by simp [hs], fun q hq => (List.mem_append.mp hq).elim (hdn q) fun hq => by rw [List.mem_singleton] at hq; subst hq; exact fun z => z.2 e2⟩
        · simp [e2]
          exact B.ret _ _ (hr _ _ ⟨⟨_, rfl, by simp only [true_iff]; exact .inl ⟨p, hp, e1, e2⟩⟩, f⟩)
    · rintro ρ S2 ⟨rfl, ⟨a, b', rfl⟩, dn, hs, hdn⟩
      refine ⟨trivial, ?_⟩
      rw [List.append_nil] at hs
      subst hs
      simp
      refine hr _ _ ⟨⟨_, rfl, ?_⟩, f⟩
      simp only [AS, Bool.not_eq_true', decide_eq_false_iff_not]
      exact ⟨.inr, fun z => z.elim (fun ⟨p, hp, k⟩ => absurd k (hdn p hp)) id⟩
end K56

namespace K56
open PySem L2 DS Fd
theorem s_ends {d : Dom} (h : d ≠ []) (S : Sto) : f_ends_of [dDom d] S = .ok (.tup [.int (lo d), .int (hi d)]) S := by
  refine Fd.Ev.eq ?_
  unfold f_ends_of f_ends_of_body
  refine ev_runK fun K hr _ => ?_
  simp [ix_hd h, ix_ls h, hd_1, ls_2]
  exact hr _ _ ⟨rfl, rfl⟩
theorem s_factor {a b : Int} {d : Dom} {value : Int} (h : d ≠ []) (ha : -50 ≤ a) (ha2 : a ≤ 50) (hb : -50 ≤ b) (hb2 : b ≤ 50) (hv : -50 ≤ value) (hv2 : value ≤ 50) (S : Sto) :
    Ev (f_allows_factor [.int a, .int b, dDom d, .int value] S) fun r S' => Says (∃ o ∈ rng a b, lo d ≤ value * o ∧ value * o ≤ hi d) r ∧ Fx Pu S S' := by
  unfold f_allows_factor f_allows_factor_body
  refine ev_runK fun K hr _ => ?_
  simp [ix_hd h, ix_ls h, hd_1, ls_2]
  rw [rg2_of (by omega) (by omega) (by omega) (by omega), rngD_rng]
  simp only [R.toS_ok]
  refine ws_compM (enc := D.int) Pu (fun o => .bl (decide (lo d ≤ value * o) && decide (value * o ≤ hi d))) (fun _ _ => trivial) id (by rw [len_rng]; simp [sizeLine]; omega) ?_ ?_
  · intro o ho S2 f
    refine ⟨_, rfl, ?_⟩
    have ho := mem_rng.mp ho
    unfold allows_factor_e1
    simp
    rw [j_mul (cmul_small (by omega) (by omega))]
    by_cases e : lo d ≤ value * o
    · simp [e]
    · simp [e]
  · intro S2 f e
    have e' : S2[S.length]? = some (.lst (((rng a b).map fun o => decide (lo d ≤ value * o) && decide (value * o ≤ hi d)).map .bl)) := by rw [e, List.map_map]; rfl
    rw [any_loc e']
    refine hr _ _ ⟨⟨_, rfl, ?_⟩, f⟩
    rw [List.any_eq_true]
    constructor
    · rintro ⟨x, hx, hb⟩
      obtain ⟨o, ho, rfl⟩ := List.mem_map.mp hx
      simp at hb
      exact ⟨o, ho, hb⟩
    · rintro ⟨o, ho, hb⟩
      exact ⟨_, List.mem_map.mpr ⟨o, ho, rfl⟩, by simp [hb]⟩
@[simp] theorem set_end {o o' : Ob} : ∀ {S : Sto}, (S ++ [o]).set S.length o' = S ++ [o']
  | [] => rfl
  | a :: S => congrArg (a :: ·) (set_end (S := S))
theorem rg_dm {doms : List Dom} (hw : ∀ d ∈ doms, WD d) {o : Int} (h0 : 0 ≤ o) (h1 : o < doms.length) (hn : dm doms o ≠ []) : (-50 ≤ lo (dm doms o) ∧ lo (dm doms o) ≤ 50) ∧ -50 ≤ hi (dm doms o) ∧ hi (dm doms o) ≤ 50 :=
  ⟨lo_rg (hw _ (dm_mem h0 h1)) hn, hi_rg (hw _ (dm_mem h0 h1)) hn⟩
theorem s_allows_times {doms : List Dom} {x y z var value : Int} {n : Nat} {S : Sto} (hd : S[n]? = some (.lst (doms.map dDom))) (hw : ∀ d ∈ doms, WD d) (h : WC doms.length (.times x y z)) (hne : ∀ o ∈ (Cst.times x y z).own, dm doms o ≠ []) (hv : -50 ≤ value) (hv2 : value ≤ 50) :
    Ev (f_allows_times [.loc n, dCon (.times x y z), .int var, .int value] S) fun d S' => Says (AT doms x y z var value) d ∧ Fx Pu S S' := by
  obtain ⟨⟨x0, x1⟩, ⟨y0, y1⟩, z0, z1⟩ := h
  have nx : dm doms x ≠ [] := hne x (by simp [Cst.own])
  have ny : dm doms y ≠ [] := hne y (by simp [Cst.own])
  have nz : dm doms z ≠ [] := hne z (by simp [Cst.own])
  have rx := rg_dm hw x0 x1 nx
  have ry := rg_dm hw y0 y1 ny
  unfold f_allows_times f_allows_times_body dCon
  refine ev_runK fun K hr _ => ?_
  simp only [ws_seq, j_sAsg, j_eSl, j_eVar, j_oSome, j_oNone, j_eC, R.bind_ok, R.toS_ok, j_start, List.map_cons, List.map_nil, sl1, toS_bind]
  simp [-j_sIf]
  -- variable == z
  refine ws_mid (fun ρ1 S1 => ∃ (b : Bool) (e8 : Option D), ρ1 = [some (.loc n), some (.tup [.str "times", .int x, .int y, .int z]), some (.int var), some (.int value), some (.int x), some (.int y), some (.int z), some (.bl b), e8, none, none, none, none] ∧ Fx Pu S S1 ∧
    (b = true ↔ (var = z → mn4 doms x y ≤ value ∧ value ≤ mx4 doms x y))) (fun K1 hK => ?_) ?_
  · by_cases e : var = z
    · subst e
      have hy : ∀ o, gIx (.loc n) (.int y) (S ++ [o]) = .ok (dDom (dm doms y)) (S ++ [o]) := fun o => ix_dm ((Fx.one (M := Pu)).get id hd) y0 y1
      have m1 : ∀ S, gMul (.int (lo (dm doms x))) (.int (lo (dm doms y))) S = .ok (.int (lo (dm doms x) * lo (dm doms y))) S := fun S => j_mul (cmul_small (by omega) (by omega))
      have m2 : ∀ S, gMul (.int (lo (dm doms x))) (.int (hi (dm doms y))) S = .ok (.int (lo (dm doms x) * hi (dm doms y))) S := fun S => j_mul (cmul_small (by omega) (by omega))
      have m3 : ∀ S, gMul (.int (hi (dm doms x))) (.int (lo (dm doms y))) S = .ok (.int (hi (dm doms x) * lo (dm doms y))) S := fun S => j_mul (cmul_small (by omega) (by omega))
      have m4 : ∀ S, gMul (.int (hi (dm doms x))) (.int (hi (dm doms y))) S = .ok (.int (hi (dm doms x) * hi (dm doms y))) S := fun S => j_mul (cmul_small (by omega) (by omega))
      have hL : eLc2 (iSq (eCall f_ends_of [] (aCons (e2 gIx (eVar 0) (eVar 4)) (aNil)))) (bName 11) (tYesD) (iSq (eCall f_ends_of [] (aCons (e2 gIx (eVar 0) (eVar 5)) (aNil)))) (bName 12) (tYesD) (allows_times_e1) [11, 12] [12]
          [some (.loc n), some (.tup [.str "times", .int x, .int y, .int var]), some (.int var), some (.int value), some (.int x), some (.int y), some (.int var), some (.bl true), none, none, none, none, none] S =
          .ok (.loc S.length) (S ++ [.lst ([lo (dm doms x) * lo (dm doms y), lo (dm doms x) * hi (dm doms y), hi (dm doms x) * lo (dm doms y), hi (dm doms x) * hi (dm doms y)].map .int)]) := by
        unfold eLc2
        simp [ix_dm hd x0 x1, s_ends nx]
        simp [compOut, compIn, hy, s_ends ny, allows_times_e1, m1, m2, m3, m4, lcPut, sizeLine]
      have hl : (S ++ [Ob.lst ([lo (dm doms x) * lo (dm doms y), lo (dm doms x) * hi (dm doms y), hi (dm doms x) * lo (dm doms y), hi (dm doms x) * hi (dm doms y)].map .int)])[S.length]? = some (.lst ((lo (dm doms x) * lo (dm doms y) :: [lo (dm doms x) * hi (dm doms y), hi (dm doms x) * lo (dm doms y), hi (dm doms x) * hi (dm doms y)]).map .int)) := get_end
      have hmin : gMin [.loc S.length] (S ++ [Ob.lst ([lo (dm doms x) * lo (dm doms y), lo (dm doms x) * hi (dm doms y), hi (dm doms x) * lo (dm doms y), hi (dm doms x) * hi (dm doms y)].map .int)]) = .ok (.int (mn4 doms x y)) _ := min_loc hl
      have hmax : gMax [.loc S.length] (S ++ [Ob.lst ([lo (dm doms x) * lo (dm doms y), lo (dm doms x) * hi (dm doms y), hi (dm doms x) * lo (dm doms y), hi (dm doms x) * hi (dm doms y)].map .int)]) = .ok (.int (mx4 doms x y)) _ := max_loc hl
      simp only [j_sIf, j_tBl, j_e2, j_eVar, R.bind_ok, List.getElem?_cons_succ, List.getElem?_cons_zero, j_eq_int, decide_true, j_bB, R.toS_ok, if_pos, toS_bind, ws_seq, j_sAsg]
      simp only [hL, R.toS_ok, j_bName, ws_nx]
      simp only [j_sAsg, j_bName, j_eChain, j_eN, j_aCons, j_aNil, j_eVar, R.bind_ok, toS_bind, List.set, List.getElem?_cons_succ, List.getElem?_cons_zero, hmin, hmax, R.toS_ok, j_le, j_bB]
      by_cases e1 : mn4 doms x y ≤ value
      · simp only [e1, decide_true, if_pos, R.toS_ok, toS_bind, R.bind_ok, hmax, j_le]
        refine hK _ _ ⟨decide (value ≤ mx4 doms x y), _, rfl, Fx.one, ?_⟩
        rw [decide_eq_true_iff]
        exact ⟨fun h _ => ⟨e1, h⟩, fun h => (h rfl).2⟩
      · simp only [e1, decide_false, Bool.false_eq_true, if_false, R.toS_ok]
        refine hK _ _ ⟨false, _, rfl, Fx.one, ?_⟩
        simp only [Bool.false_eq_true, false_iff]
        exact fun h => e1 (h trivial).1
    · simp [e]
      exact hK _ _ ⟨true, _, rfl, Fx.refl, by simp [e]⟩
  · rintro ρ1 S1 ⟨b1, e8, rfl, f1, h1⟩
    have hd1 := f1.get id hd
    simp [-j_sIf]
    -- variable == x
    refine ws_mid (fun ρ1 S1 => ∃ (b : Bool) (e8 e9 e10 : Option D), ρ1 = [some (.loc n), some (.tup [.str "times", .int x, .int y, .int z]), some (.int var), some (.int value), some (.int x), some (.int y), some (.int z), some (.bl b), e8, e9, e10, none, none] ∧ Fx Pu S S1 ∧
      (b = true ↔ ((var = z → mn4 doms x y ≤ value ∧ value ≤ mx4 doms x y) ∧ (var = x → AF doms y z value)))) (fun K1 hK => ?_) ?_
    · by_cases e : var = x
      · subst e
        simp [ix_dm hd1 y0 y1, s_ends ny, ix_dm hd1 z0 z1]
        cases b1 with
        | false =>
          simp
          refine hK _ _ ⟨false, _, _, _, rfl, f1, ?_⟩
          rw [← h1]
          simp
        | true =>
          simp [ix_dm hd1 z0 z1]
          refine (s_factor nz ry.1.1 ry.1.2 ry.2.1 ry.2.2 hv hv2 S1).ws fun r S2 ⟨⟨b, hb, hs⟩, f2⟩ => ?_
          subst hb
          refine hK _ _ ⟨b, _, _, _, rfl, f1.trans f2, ?_⟩
          rw [hs, ← h1]
          simp only [true_and]
          exact ⟨fun h _ => h, fun h => h trivial⟩
      · simp [e]
        exact hK _ _ ⟨b1, _, _, _, rfl, f1, by rw [h1]; simp [e]⟩
    · rintro ρ1 S1 ⟨b1, e8, e9, e10, rfl, f1, h1⟩
      have hd1 := f1.get id hd
      simp [-j_sIf]
      refine ws_mid (fun ρ1 S1 => ∃ (b : Bool) (e8 e9 e10 : Option D), ρ1 = [some (.loc n), some (.tup [.str "times", .int x, .int y, .int z]), some (.int var), some (.int value), some (.int x), some (.int y), some (.int z), some (.bl b), e8, e9, e10, none, none] ∧ Fx Pu S S1 ∧
        (b = true ↔ AT doms x y z var value)) (fun K1 hK => ?_) ?_
      · by_cases e : var = y
        · subst e
          simp [ix_dm hd1 x0 x1, s_ends nx, ix_dm hd1 z0 z1]
          cases b1 with
          | false =>
            simp
            refine hK _ _ ⟨false, _, _, _, rfl, f1, ?_⟩
            simp only [Bool.false_eq_true, false_iff] at h1 ⊢
            exact fun h => h1 ⟨h.1, h.2.1⟩
          | true =>
            simp [ix_dm hd1 z0 z1]
            refine (s_factor nz rx.1.1 rx.1.2 rx.2.1 rx.2.2 hv hv2 S1).ws fun r S2 ⟨⟨b, hb, hs⟩, f2⟩ => ?_
            subst hb
            refine hK _ _ ⟨b, _, _, _, rfl, f1.trans f2, ?_⟩
            rw [hs]
            have := h1.mp rfl
            exact ⟨fun h => ⟨this.1, this.2, fun _ => h⟩, fun h => h.2.2 rfl⟩
        · simp [e]
          refine hK _ _ ⟨b1, _, _, _, rfl, f1, ?_⟩
          rw [h1]
          exact ⟨fun h => ⟨h.1, h.2, fun z => absurd z e⟩, fun h => ⟨h.1, h.2.1⟩⟩
      · rintro ρ1 S1 ⟨b1, e8, e9, e10, rfl, f1, h1⟩
        simp
        exact hr _ _ ⟨⟨b1, rfl, h1⟩, f1⟩
end K56
namespace K56
open PySem L2 DS Fd
theorem vals_pt (v : Int) : vals [(v, v)] = [v] := by
  rw [vals_one]
  unfold rng
  have : (v + 1 - v).toNat = 1 := by omega
  rw [this]
  simp
theorem bT_dom {d : Dom} {S : Sto} : bT (dDom d) S = .ok (decide (d ≠ [])) S := by
  unfold dDom
  rw [j_bT_tup]
  cases d <;> simp
theorem s_allowed {doms : List Dom} {c : Cst} {var value : Int} {n : Nat} {S : Sto} (hd : S[n]? = some (.lst (doms.map dDom))) (hw : ∀ d ∈ doms, WD d) (h : WC doms.length c) (v0 : 0 ≤ var) (v1 : var < doms.length) (hv : -50 ≤ value) (hv2 : value ≤ 50) :
    Ev (f_allowed [.loc n, dCon c, .int var, .int value] S) fun d S' => Says (AA doms c var value) d ∧ Fx Pu S S' := by
  unfold f_allowed f_allowed_body
  refine ev_runK fun K hr _ => ?_
  simp
  refine (s_vars h S).ws fun d S1 ⟨m, hm, e1, f1⟩ => ?_
  subst hm
  have hd1 := f1.get id hd
  simp [notIn_ints e1]
  by_cases hin : var ∈ c.own
  case neg =>
    simp [hin]
    exact hr _ _ ⟨⟨true, rfl, by simp [AA, hin]⟩, f1⟩
  simp [hin, it_loc e1]
  refine ws_forK (fun rem ρ S2 => S2 = S1 ∧ (∃ x, ρ = [some (.loc n), some (dCon c), some (.int var), some (.int value), some (.loc m), x, none]) ∧ ∃ dn, c.own = dn ++ rem ∧ ∀ o ∈ dn, dm doms o ≠ []) ⟨rfl, ⟨_, rfl⟩, [], rfl, by simp⟩ ?_ ?_
  · rintro o rem ρ S2 ⟨rfl, ⟨x, rfl⟩, dn, hs, hdn⟩
    refine ⟨e1, _, rfl, fun K2 B => ?_⟩
    have ho : o ∈ c.own := by rw [hs]; simp
    have hb := h.own o ho
    unfold allowed_b1
    simp [ix_dm hd1 hb.1 hb.2, bT_dom]
    by_cases e : dm doms o = []
    · simp [e]
      exact B.ret _ _ (hr _ _ ⟨⟨false, rfl, by simp only [Bool.false_eq_true, false_iff]; exact fun a => (a hin).1 o ho e⟩, f1⟩)
    · simp [e]
      exact B.nx _ _ ⟨rfl, ⟨_, rfl⟩, dn ++ [o], by simp [hs], fun q hq => (List.mem_append.mp hq).elim (hdn q) fun hq => by rw [List.mem_singleton] at hq; subst hq; exact e⟩
  · rintro ρ S2 ⟨rfl, ⟨x, rfl⟩, dn, hs, hne⟩
    rw [List.append_nil] at hs
    subst hs
    refine ⟨e1, ?_⟩
    have fin : ∀ {d : D}, Says (AC doms var value c) d → Says (AA doms c var value) d := fun ⟨b, hb, hs⟩ => ⟨b, hb, hs.trans ⟨fun a _ => ⟨hne, a⟩, fun a => (a hin).2⟩⟩
    cases c with
    | sum w sums b =>
      obtain ⟨h1, h2, h3, h4, h5⟩ := h
      have ok : SumOk doms sums := ⟨fun p hp => ⟨(h2 p hp).2.1, (h2 p hp).2.2.1⟩, fun p hp => (h2 p hp).2.2.2, fun p hp => hne _ (List.mem_map.mpr ⟨p, hp, rfl⟩)⟩
      have e0 : ∀ S, gIx (dCon (.sum w sums b)) (.int 0) S = .ok (.str w.s) S := fun S => ix_t0
      have q1 : ∀ S, gEq (.str w.s) (.str "times") S = .ok (.bl false) S := fun S => by cases w <;> simp [W3.s]
      have q2 : ∀ S, gEq (.str w.s) (.str "distinct") S = .ok (.bl false) S := fun S => by cases w <;> simp [W3.s]
      simp [e0, q1, q2]
      exact (s_allows_sum hd1 hw ok (by omega)).ws fun d S3 ⟨hs, f3⟩ => hr _ _ ⟨fin hs, f1.trans f3⟩
    | times x y z =>
      have e0 : ∀ S, gIx (dCon (.times x y z)) (.int 0) S = .ok (.str "times") S := fun S => ix_t0
      simp [e0]
      exact (s_allows_times hd1 hw h hne hv hv2).ws fun d S3 ⟨hs, f3⟩ => hr _ _ ⟨fin hs, f1.trans f3⟩
    | dist vs =>
      obtain ⟨h1, h2, h3, h4⟩ := h
      have e0 : ∀ S, gIx (dCon (.dist vs)) (.int 0) S = .ok (.str "distinct") S := fun S => ix_t0
      simp [e0, it_loc e1]
      refine ws_compM (enc := D.int) Pu (fun o => dDom (dm doms o)) (fun _ f => f.get id e1) id (by simp [sizeLine, Cst.own]; omega) ?_ ?_
      · intro o ho S3 f3
        refine ⟨_, rfl, ?_⟩
        have hb := h4 o ho
        unfold allowed_e1
        simp [ix_dm (f3.get id hd1) hb.1 hb.2]
      · intro S3 f3 e3
        have e13 := f3.get id e1
        have hd3 := f3.get id hd1
        have hl : S2.length < S3.length := (List.getElem?_eq_some_iff.mp e3).1
        simp [lst_loc e13, index_ints e13 hin]
        have hidx := List.idxOf_lt_length_of_mem hin
        rw [DS.set_lst e3 (by rw [List.length_map]; exact hidx)]
        have e4 : ((Cst.dist vs).own.map fun o => dDom (dm doms o)).set ((Cst.dist vs).own.idxOf var) (.tup [.tup [.int value, .int value]]) = (vs.map fun o => if o = var then [(value, value)] else dm doms o).map dDom := by
          rw [map_set_idx (own := (Cst.dist vs).own) h3 _ _ hin, List.map_map]
          refine List.map_congr_left fun o _ => ?_
          show (if o = var then _ else _) = dDom (if o = var then _ else _)
          split <;> rfl
        rw [e4]
        obtain ⟨S4, eS4⟩ : ∃ S4, S4 = S3.set S2.length (.lst ((vs.map fun o => if o = var then [(value, value)] else dm doms o).map dDom)) := ⟨_, rfl⟩
        rw [← eS4]
        have e44 : S4[S2.length]? = some (.lst ((vs.map fun o => if o = var then [(value, value)] else dm doms o).map dDom)) := by rw [eS4, List.getElem?_set_self hl]
        have f4 : Fx Pu S S4 := by rw [eS4]; exact (f1.trans f3).set fun z => absurd z (by have := f1.1; omega)
        have hd4 := f4.get id hd
        have hwv := hw _ (dm_mem v0 v1)
        simp [ix_dm hd4 v0 v1]
        refine (s_values hwv S4).ws fun d S5 ⟨hd5, e5, f5⟩ => ?_
        subst hd5
        simp [in_ints e5]
        by_cases hmem : value ∈ vals (dm doms var)
        · simp [hmem]
          have hw2 : ∀ d ∈ (vs.map fun o => if o = var then [(value, value)] else dm doms o), WD d := fun d hd => by
            obtain ⟨o, ho, rfl⟩ := List.mem_map.mp hd
            by_cases e : o = var
            · simp only [if_pos e]
              exact ⟨fun p hp => by rw [List.mem_singleton] at hp; subst hp; exact ⟨hv, Int.le_refl _, hv2⟩, List.pairwise_singleton _ _⟩
            · simp only [if_neg e]
              exact hw _ (dm_mem (h4 o ho).1 (h4 o ho).2)
          refine (s_distinct hw2 (by rw [List.length_map]; exact h2) (f5.get id e44)).ws fun d S6 ⟨f6, x, y, hx, hs⟩ => ?_
          subst hx
          simp [gNotN]
          refine hr _ _ ⟨fin ⟨_, rfl, ?_⟩, (f4.trans f5).trans f6⟩
          have e6 : (vs.map fun o => if o = var then [(value, value)] else dm doms o).map vals = vs.map fun o => if o = var then [value] else vals (dm doms o) := by
            rw [List.map_map]
            refine List.map_congr_left fun o _ => ?_
            show vals (if o = var then _ else _) = _
            split
            · exact vals_pt value
            · rfl
          rw [e6, sdrL_map h3] at hs
          show (!DS.isNon x) = true ↔ AD doms vs var value
          unfold AD
          rw [Bool.not_eq_true', ← Bool.not_eq_true, hs]
          exact ⟨fun z => ⟨hmem, Classical.not_not.mp z⟩, fun z k => k z.2⟩
        · simp [hmem]
          refine hr _ _ ⟨fin ⟨false, rfl, ?_⟩, f4.trans f5⟩
          simp only [Bool.false_eq_true, false_iff]
          exact fun z => hmem z.1
theorem s_allows {doms : List Dom} {c : Cst} {var value : Int} {n : Nat} {S : Sto} (hd : S[n]? = some (.lst (doms.map dDom))) (hw : ∀ d ∈ doms, WD d) (hz : doms.length ≤ 12) (h : WC doms.length c) (v0 : 0 ≤ var) (v1 : var < doms.length) (hv : -50 ≤ value) (hv2 : value ≤ 50) :
    Ev (f_allows [.loc n, dCon c, .int var, .int value] S) fun d S' => Says (AA doms c var value) d ∧ Fx Pu S S' := by
  unfold f_allows f_allows_body
  refine ev_runK fun K hr _ => ?_
  simp
  refine (s_check ((Fx.one (M := Pu)).get id hd) get_end hw hz h).ws fun d S1 f1 => ?_
  have f2 : Fx Pu S S1 := (Fx.one (M := Pu)).trans f1
  refine (s_allowed (f2.get id hd) hw h v0 v1 hv hv2).ws fun d S2 ⟨hs, f3⟩ => hr _ _ ⟨hs, f2.trans f3⟩
end K56

namespace K56
open PySem L2 DS Fd
theorem s_law_own {c : Cst} {many : Int} (h : WC many c) (S : Sto) : Ev (f__law_own [dCon c] S) fun d S' => ∃ n, d = .loc n ∧ S'[n]? = some (.lst (c.own.map .int)) ∧ Fx Pu S S' := by
  unfold f__law_own f__law_own_body
  refine ev_runK fun K hr _ => ?_
  cases c with
  | sum w sums b =>
    have hz := h.1
    unfold dCon
    cases w <;>
    · simp [W3.s]
      refine ws_compM (enc := dP) Pu (fun p => .int p.2) (fun _ _ => trivial) id (by simp [sizeLine]; omega) ?_ ?_
      · intro p hp S2 f
        refine ⟨_, rfl, ?_⟩
        unfold _law_own_e1
        simp
      · intro S2 f e
        exact hr _ _ ⟨_, rfl, by rw [e]; simp [Cst.own], f⟩
  | times x y z =>
    unfold dCon
    simp
    exact hr _ _ ⟨_, rfl, get_end, Fx.one⟩
  | dist vs =>
    unfold dCon
    simp
    exact hr _ _ ⟨_, rfl, get_end, Fx.one⟩
theorem s_choice {rows : List (List Int)} (hn : rows.length ≤ 12) : ∀ (m k r u : Nat) (rl : List Nat) (used : List Int) (S : Sto), S[r]? = some (.lst (rl.map .loc)) → Rows S rl rows → S[u]? = some (.lst (used.map .int)) → used.length ≤ k → k ≤ rows.length → rows.length + 1 ≤ m + k →
    Ev (f__law_choice m [.loc r, .loc u, .int (k : Nat)] S) fun d S' => Says (Ch used (rows.drop k)) d ∧ Fx Pu S S'
  | 0, k, r, u, rl, used, S, h1, h2, h3, h4, h5, h6 => by omega
  | m + 1, k, r, u, rl, used, S, h1, h2, h3, h4, h5, h6 => by
    show Ev (runF 4 (f__law_choice_body (f__law_choice m)) _ S) _
    unfold f__law_choice_body
    refine ev_runK fun K hr _ => ?_
    have hlen := h2.len
    simp [len_loc h1]
    by_cases e : k = rows.length
    · have e' : ((k : Nat) : Int) = (rl.length : Nat) := by omega
      simp [e']
      refine hr _ _ ⟨⟨true, rfl, ?_⟩, Fx.refl⟩
      rw [e, List.drop_length]
      simp [Ch]
    · have e' : ¬ ((k : Nat) : Int) = (rl.length : Nat) := by omega
      have hk : k < rows.length := by omega
      obtain ⟨q, q1, q2⟩ := h2.get (List.getElem?_eq_getElem hk)
      have hq : gIx (.loc r) (.int (k : Nat)) S = .ok (.loc q) S := DS.ix_seq (seq_loc h1) (DS.atI_nat (by rw [List.getElem?_map, q1]; rfl))
      simp [e', hq, it_loc q2]
      rw [List.drop_eq_getElem_cons hk] at hr
      refine ws_forK (fun rem ρ S' => (∃ x, ρ = [some (.loc r), some (.loc u), some (.int (k : Nat)), x]) ∧ Fx Pu S S' ∧ ∃ dn, rows[k] = dn ++ rem ∧ ∀ v ∈ dn, ¬ (v ∉ used ∧ Ch (used ++ [v]) (rows.drop (k + 1)))) ⟨⟨_, rfl⟩, Fx.refl, [], rfl, by simp⟩ ?_ ?_
      · rintro v rem ρ S' ⟨⟨x, rfl⟩, f, dn, hs, hdn⟩
        refine ⟨f.get id q2, _, rfl, fun K2 B => ?_⟩
        have hv : v ∈ rows[k] := by rw [hs]; simp
        have next : ∀ z, z ∈ dn ++ [v] → (¬ (v ∉ used ∧ Ch (used ++ [v]) (rows.drop (k + 1)))) → ¬ (z ∉ used ∧ Ch (used ++ [z]) (rows.drop (k + 1))) := fun z hz hn => (List.mem_append.mp hz).elim (hdn z) fun hz => by rw [List.mem_singleton] at hz; subst hz; exact hn
        have u1 := f.get id h3
        unfold _law_choice_b1
        simp [notIn_ints u1]
        by_cases hu : v ∈ used
        · simp [hu]
          exact B.nx _ _ ⟨⟨_, rfl⟩, f, dn ++ [v], by simp [hs], fun z hz => next z hz fun a => a.1 hu⟩
        · simp [hu]
          have u2 : (S' ++ [Ob.lst [.int v]])[u]? = some (.lst (used.map .int)) := (Fx.one (M := Pu)).get id u1
          rw [add_loc u2 get_end (by simp [sizeLine]; omega)]
          simp
          have f2 : Fx Pu S (S' ++ [Ob.lst [.int v]] ++ [Ob.lst (used.map D.int ++ [.int v])]) := f.push.push
          have u3 : (S' ++ [Ob.lst [.int v]] ++ [Ob.lst (used.map D.int ++ [.int v])])[S'.length + 1]? = some (.lst ((used ++ [v]).map .int)) := by
            have : S'.length + 1 = (S' ++ [Ob.lst [.int v]]).length := by simp
            rw [this, get_end]
            simp
          have := s_choice hn m (k + 1) r (S'.length + 1) rl (used ++ [v]) _ (f2.get id h1) (h2.fx f2) u3 (by simp; omega) (by omega) (by omega)
          simp at this
          refine this.ws fun d S3 ⟨⟨b, hb, hbs⟩, f3⟩ => ?_
          subst hb
          have f4 : Fx Pu S S3 := Fx.trans (S1 := S' ++ [Ob.lst [.int v]] ++ [Ob.lst (used.map D.int ++ [.int v])]) f2 (by simpa using f3)
          cases b with
          | true =>
            simp
            exact B.ret _ _ (hr _ _ ⟨⟨true, rfl, by simp only [true_iff]; exact ⟨v, hv, hu, hbs.mp rfl⟩⟩, f4⟩)
          | false =>
            simp
            exact B.nx _ _ ⟨⟨_, rfl⟩, f4, dn ++ [v], by simp [hs], fun z hz => next z hz fun a => by have := hbs.mpr a.2; cases this⟩
      · rintro ρ S' ⟨⟨x, rfl⟩, f, dn, hs, hdn⟩
        refine ⟨f.get id q2, ?_⟩
        rw [List.append_nil] at hs
        simp
        refine hr _ _ ⟨⟨false, rfl, ?_⟩, f⟩
        simp only [Bool.false_eq_true, false_iff]
        rintro ⟨v, hv, hu, hc⟩
        rw [hs] at hv
        exact hdn v hv ⟨hu, hc⟩
theorem s_law_ends {doms : List Dom} {rl : List Nat} {n : Nat} {o at_ value : Int} {S : Sto} (h1 : S[n]? = some (.lst (rl.map .loc))) (h2 : Rows S rl (doms.map vals)) (hw : ∀ d ∈ doms, WD d) (o0 : 0 ≤ o) (o1 : o < doms.length) (hn : dm doms o ≠ []) :
    f__law_ends [.loc n, .int o, .int at_, .int value] S = .ok (.loc S.length) (S ++ [.lst [.int (Ep doms at_ value o).1, .int (Ep doms at_ value o).2]]) := by
  have key : Ev (f__law_ends [.loc n, .int o, .int at_, .int value] S) fun d S' => d = .loc S.length ∧ S' = S ++ [.lst [.int (Ep doms at_ value o).1, .int (Ep doms at_ value o).2]] := by
    unfold f__law_ends f__law_ends_body
    refine ev_runK fun K hr _ => ?_
    simp
    by_cases e : o = at_
    · simp [e]
      exact hr _ _ ⟨rfl, by simp [Ep, e]⟩
    · obtain ⟨q, q1, q2⟩ := h2.ix h1 o0 o1
      have hwd := hw _ (dm_mem o0 o1)
      simp [e, q1, min_vals q2 hwd hn, max_vals q2 hwd hn]
      exact hr _ _ ⟨rfl, by simp [Ep, e]⟩
  obtain ⟨d, S', e, rfl, rfl⟩ := key.ok
  exact e
theorem s_law_allows_sum {doms : List Dom} {rl : List Nat} {w : W3} {sums : List (Int × Int)} {b var value : Int} {n : Nat} {S : Sto} (h1 : S[n]? = some (.lst (rl.map .loc))) (h2 : Rows S rl (doms.map vals)) (hw : ∀ d ∈ doms, WD d) (h : SumOk doms sums) :
    Ev (f__law_allows_sum [.loc n, dCon (.sum w sums b), .int var, .int value] S) fun d S' => Says (AS doms w sums b var value) d ∧ Fx Pu S S' := by
  unfold f__law_allows_sum f__law_allows_sum_body
  refine ev_runK fun K hr _ => ?_
  have e0 : ∀ S, gIx (dCon (.sum w sums b)) (.int 0) S = .ok (.str w.s) S := fun S => ix_t0
  have e1 : ∀ S, gIx (dCon (.sum w sums b)) (.int 1) S = .ok (.tup (sums.map dP)) S := fun S => ix_t1
  have e2 : ∀ S, gIx (dCon (.sum w sums b)) (.int 2) S = .ok (.int b) S := fun S => ix_t2
  simp [e1]
  refine ws_forK (fun rem ρ S' => Fx Pu S S' ∧ ∃ (t1 t2 : Int) (fx : Bool) (x y : Option D), ρ = [some (.loc n), some (dCon (.sum w sums b)), some (.int var), some (.int value), some (.int t1), some (.int t2), some (.bl fx), x, y] ∧
      lsum (Ep doms var value) t1 rem = lsum (Ep doms var value) 0 sums ∧ gsum (Ep doms var value) t2 rem = gsum (Ep doms var value) 0 sums ∧ ∃ dn, sums = dn ++ rem ∧ (fx = true ↔ ∀ p ∈ dn, (Ep doms var value p.2).1 = (Ep doms var value p.2).2))
    ⟨Fx.refl, _, _, _, _, _, rfl, rfl, rfl, [], rfl, by simp⟩ ?_ ?_
  · rintro p rem ρ S' ⟨f, t1, t2, fx, x, y, rfl, l1, l2, dn, hs, hfx⟩
    refine ⟨trivial, _, rfl, fun K2 B => ?_⟩
    have hp : p ∈ sums := by rw [hs]; simp
    have hv := h.v p hp
    have hf := h.f p hp
    unfold _law_allows_sum_b1
    have hs' : (S' ++ [Ob.lst [.int (Ep doms var value p.2).1, .int (Ep doms var value p.2).2]])[S'.length]? = some (.lst [.int (Ep doms var value p.2).1, .int (Ep doms var value p.2).2]) := get_end
    have i0 := ix_l0 hs'
    have i1 := ix_l1 hs'
    have m1 : ∀ S, gMul (.int p.1) (.int (Ep doms var value p.2).1) S = .ok (.int (p.1 * (Ep doms var value p.2).1)) S := fun S => j_mul (cmul_small (by omega) (by omega))
    have m2 : ∀ S, gMul (.int p.1) (.int (Ep doms var value p.2).2) S = .ok (.int (p.1 * (Ep doms var value p.2).2)) S := fun S => j_mul (cmul_small (by omega) (by omega))
    simp [s_law_ends (f.get id h1) (h2.fx f) hw hv.1 hv.2 (h.n p hp), i0, i1, m1, m2]
    have fin : ∀ (fx2 : Bool), (fx2 = true ↔ fx = true ∧ (Ep doms var value p.2).1 = (Ep doms var value p.2).2) →
        WS (.nx [some (.loc n), some (dCon (.sum w sums b)), some (.int var), some (.int value), some (.int (t1 + (if p.1 * (Ep doms var value p.2).2 < p.1 * (Ep doms var value p.2).1 then p.1 * (Ep doms var value p.2).2 else p.1 * (Ep doms var value p.2).1))),
          some (.int (t2 + (if p.1 * (Ep doms var value p.2).1 < p.1 * (Ep doms var value p.2).2 then p.1 * (Ep doms var value p.2).2 else p.1 * (Ep doms var value p.2).1))), some (.bl fx2), some (dP p), some (.loc S'.length)] (S' ++ [Ob.lst [.int (Ep doms var value p.2).1, .int (Ep doms var value p.2).2]])) K2 := fun fx2 hx => by
      refine B.nx _ _ ⟨f.push, _, _, _, _, _, rfl, ?_, ?_, dn ++ [p], by simp [hs], ?_⟩
      · rw [← l1]; rfl
      · rw [← l2]; rfl
      · rw [hx, hfx]
        constructor
        · rintro ⟨a, a2⟩ q hq
          rcases List.mem_append.mp hq with hq | hq
          · exact a q hq
          · rw [List.mem_singleton] at hq
            subst hq
            exact a2
        · exact fun a => ⟨fun q hq => a q (List.mem_append_left _ hq), a p (by simp)⟩
    cases fx with
    | true =>
      simp [i0, i1, m1, m2]
      exact fin _ (by simp)
    | false =>
      simp [i0, i1, m1, m2]
      exact fin false (by simp)
  · rintro ρ S' ⟨f, t1, t2, fx, x, y, rfl, l1, l2, dn, hs, hfx⟩
    refine ⟨trivial, ?_⟩
    rw [List.append_nil] at hs
    subst hs
    have l1' : t1 = lsum (Ep doms var value) 0 sums := l1
    have l2' : t2 = gsum (Ep doms var value) 0 sums := l2
    simp [e0, e2]
    cases w with
    | le =>
      simp [W3.s]
      exact hr _ _ ⟨⟨decide (t1 ≤ b), rfl, by rw [l1']; simp [AS]⟩, f⟩
    | eq =>
      simp [W3.s, e0, e2]
      by_cases e : t1 ≤ b
      · simp [e, e2]
        exact hr _ _ ⟨⟨decide (b ≤ t2), rfl, by rw [l1'] at e; rw [l2']; simp [AS, e]⟩, f⟩
      · simp [e]
        exact hr _ _ ⟨⟨false, rfl, by rw [l1'] at e; simp [AS, e]⟩, f⟩
    | ne =>
      simp [W3.s, e0, e2]
      have key : (∃ p ∈ sums, p.2 ≠ var ∧ lo (dm doms p.2) ≠ hi (dm doms p.2)) ↔ fx = false := by
        rw [← Bool.not_eq_true, hfx]
        constructor
        · rintro ⟨p, hp, a, b⟩ c
          have := c p hp
          simp [Ep, a] at this
          exact b this
        · intro c
          refine Classical.byContradiction fun d => c fun p hp => ?_
          by_cases e : p.2 = var
          · simp [Ep, e]
          · simp [Ep, e]
            exact Classical.byContradiction fun z => d ⟨p, hp, e, z⟩
      cases fx with
      | false =>
        simp
        exact hr _ _ ⟨⟨true, rfl, by simp only [true_iff]; exact .inl (key.mpr rfl)⟩, f⟩
      | true =>
        simp [e2]
        refine hr _ _ ⟨⟨!decide (t1 = b), rfl, ?_⟩, f⟩
        rw [l1', Bool.not_eq_true', decide_eq_false_iff_not]
        exact ⟨.inr, fun z => z.elim (fun z => by have := key.mp z; cases this) id⟩
end K56

namespace K56
open PySem L2 DS Fd
theorem s_law_allows {doms : List Dom} {rl : List Nat} {c : Cst} {var value : Int} {n : Nat} {S : Sto} (h1 : S[n]? = some (.lst (rl.map .loc))) (h2 : Rows S rl (doms.map vals)) (hw : ∀ d ∈ doms, WD d) (h : WC doms.length c) (v0 : 0 ≤ var) (v1 : var < doms.length) (hv : -50 ≤ value) (hv2 : value ≤ 50) :
    Ev (f__law_allows [.loc n, dCon c, .int var, .int value] S) fun d S' => Says (AA doms c var value) d ∧ Fx Pu S S' := by
  unfold f__law_allows f__law_allows_body
  refine ev_runK fun K hr _ => ?_
  simp
  refine (s_law_own h S).ws fun d S1 ⟨m, hm, e1, f1⟩ => ?_
  subst hm
  have hl1 := f1.get id h1
  have hl2 := h2.fx f1
  simp [notIn_ints e1]
  by_cases hin : var ∈ c.own
  case neg =>
    simp [hin]
    exact hr _ _ ⟨⟨true, rfl, by simp [AA, hin]⟩, f1⟩
  simp [hin, it_loc e1]
  have holen := h.own_len
  refine ws_compG (enc := D.int) Pu (fun o => decide (vals (dm doms o) = [])) D.int (fun _ f => f.get id e1) id (by simp [sizeLine]; omega) ?_ ?_
  · intro o ho S2 f2
    refine ⟨_, rfl, ?_⟩
    have hb := h.own o ho
    obtain ⟨q, q1, q2⟩ := (hl2.fx f2).ix (f2.get id hl1) hb.1 hb.2
    unfold _law_allows_t1 _law_allows_e1
    simp [q1, len_loc q2]
  · intro S2 f2 e2
    have F2 := f1.trans f2
    have hl1 := f2.get id hl1
    have hl2 := hl2.fx f2
    have e12 := f2.get id e1
    have e2' : S2[S1.length]? = some (.lst ((c.own.filter fun o => decide (vals (dm doms o) = [])).map .int)) := e2
    simp [len_loc e2']
    by_cases hne : ∀ o ∈ c.own, dm doms o ≠ []
    case neg =>
      have hex : ∃ o ∈ c.own, dm doms o = [] := Classical.byContradiction fun z => hne fun o ho e => z ⟨o, ho, e⟩
      obtain ⟨o, ho, he⟩ := hex
      have hpos : ∃ x ∈ c.own, vals (dm doms x) = [] := ⟨o, ho, by rw [he]; rfl⟩
      simp [hpos]
      exact hr _ _ ⟨⟨false, rfl, by simp only [Bool.false_eq_true, false_iff]; exact fun a => (a hin).1 o ho he⟩, F2⟩
    have hpos : ¬ ∃ x ∈ c.own, vals (dm doms x) = [] := fun ⟨x, hx, e⟩ => hne x hx ((vals_nil (hw _ (dm_mem (h.own x hx).1 (h.own x hx).2))).mp e)
    simp [hpos]
    have fin : ∀ {d : D}, Says (AC doms var value c) d → Says (AA doms c var value) d := fun ⟨b, hb, hs⟩ => ⟨b, hb, hs.trans ⟨fun a _ => ⟨hne, a⟩, fun a => (a hin).2⟩⟩
    cases c with
    | sum w sums b =>
      obtain ⟨k1, k2, k3, k4, k5⟩ := h
      have ok : SumOk doms sums := ⟨fun p hp => ⟨(k2 p hp).2.1, (k2 p hp).2.2.1⟩, fun p hp => (k2 p hp).2.2.2, fun p hp => hne _ (List.mem_map.mpr ⟨p, hp, rfl⟩)⟩
      have e0 : ∀ S, gIx (dCon (.sum w sums b)) (.int 0) S = .ok (.str w.s) S := fun S => ix_t0
      have q1 : ∀ S, gNe (.str w.s) (.str "times") S = .ok (.bl true) S := fun S => by cases w <;> simp [W3.s]
      have q2 : ∀ S, gEq (.str w.s) (.str "distinct") S = .ok (.bl false) S := fun S => by cases w <;> simp [W3.s]
      simp [e0, q1, q2]
      exact (s_law_allows_sum hl1 hl2 hw ok).ws fun d S3 ⟨hs, f3⟩ => hr _ _ ⟨fin hs, F2.trans f3⟩
    | times x y z =>
      obtain ⟨⟨x0, x1⟩, ⟨y0, y1⟩, z0, z1⟩ := h
      have nx : dm doms x ≠ [] := hne x (by simp [Cst.own])
      have ny : dm doms y ≠ [] := hne y (by simp [Cst.own])
      have nz : dm doms z ≠ [] := hne z (by simp [Cst.own])
      have wx := hw _ (dm_mem x0 x1)
      have wy := hw _ (dm_mem y0 y1)
      have wz := hw _ (dm_mem z0 z1)
      have rx := rg_dm hw x0 x1 nx
      have ry := rg_dm hw y0 y1 ny
      have e0 : ∀ S, gIx (dCon (.times x y z)) (.int 0) S = .ok (.str "times") S := fun S => ix_t0
      have e1 : ∀ S, gIx (dCon (.times x y z)) (.int 1) S = .ok (.int x) S := fun S => ix_t1
      have e2 : ∀ S, gIx (dCon (.times x y z)) (.int 2) S = .ok (.int y) S := fun S => ix_t2
      have e3 : ∀ S, gIx (dCon (.times x y z)) (.int 3) S = .ok (.int z) S := fun S => ix_t3
      obtain ⟨qx, qx1, qx2⟩ := hl2.ix hl1 x0 x1
      obtain ⟨qy, qy1, qy2⟩ := hl2.ix hl1 y0 y1
      obtain ⟨qz, qz1, qz2⟩ := hl2.ix hl1 z0 z1
      simp [e0, e1, e2, e3, qx1, qy1, qz1]
      refine ws_midR (fun ρ1 S3 => ∃ (b : Bool) (e10 : Option D), ρ1 = [some (.loc n), some (dCon (.times x y z)), some (.int var), some (.int value), some (.loc m), none, some (.loc qx), some (.loc qy), some (.loc qz), some (.bl b), e10, none, none, none, none, none, none] ∧ Fx Pu S2 S3 ∧
        (b = true ↔ (var = z → mn4 doms x y ≤ value ∧ value ≤ mx4 doms x y))) (fun K1 hK => ?_) ?_
      · by_cases e : var = z
        · have m1 : ∀ S, gMul (.int (lo (dm doms x))) (.int (lo (dm doms y))) S = .ok (.int (lo (dm doms x) * lo (dm doms y))) S := fun S => j_mul (cmul_small (by omega) (by omega))
          have m2 : ∀ S, gMul (.int (lo (dm doms x))) (.int (hi (dm doms y))) S = .ok (.int (lo (dm doms x) * hi (dm doms y))) S := fun S => j_mul (cmul_small (by omega) (by omega))
          have m3 : ∀ S, gMul (.int (hi (dm doms x))) (.int (lo (dm doms y))) S = .ok (.int (hi (dm doms x) * lo (dm doms y))) S := fun S => j_mul (cmul_small (by omega) (by omega))
          have m4 : ∀ S, gMul (.int (hi (dm doms x))) (.int (hi (dm doms y))) S = .ok (.int (hi (dm doms x) * hi (dm doms y))) S := fun S => j_mul (cmul_small (by omega) (by omega))
          have hl : (S2 ++ [Ob.lst ([lo (dm doms x) * lo (dm doms y), lo (dm doms x) * hi (dm doms y), hi (dm doms x) * lo (dm doms y), hi (dm doms x) * hi (dm doms y)].map .int)])[S2.length]? = some (.lst ((lo (dm doms x) * lo (dm doms y) :: [lo (dm doms x) * hi (dm doms y), hi (dm doms x) * lo (dm doms y), hi (dm doms x) * hi (dm doms y)]).map .int)) := get_end
          have hmin : gMin [.loc S2.length] (S2 ++ [Ob.lst ([lo (dm doms x) * lo (dm doms y), lo (dm doms x) * hi (dm doms y), hi (dm doms x) * lo (dm doms y), hi (dm doms x) * hi (dm doms y)].map .int)]) = .ok (.int (mn4 doms x y)) _ := min_loc hl
          have hmax : gMax [.loc S2.length] (S2 ++ [Ob.lst ([lo (dm doms x) * lo (dm doms y), lo (dm doms x) * hi (dm doms y), hi (dm doms x) * lo (dm doms y), hi (dm doms x) * hi (dm doms y)].map .int)]) = .ok (.int (mx4 doms x y)) _ := max_loc hl
          have a1 := ix_first qx2 wx nx
          have a2 := ix_first qy2 wy ny
          have a3 := ix_final qx2 wx nx
          have a4 := ix_final qy2 wy ny
          have l3 := len_loc qx2
          have l4 := len_loc qy2
          rw [List.length_map] at l3 l4
          simp only [List.map_cons, List.map_nil] at hmin hmax
          simp [e3, e, a1, a2, a3, a4, l3, l4, m1, m2, m3, m4, hmin, hmax]
          by_cases e5 : mn4 doms x y ≤ value
          · simp [e5, hmax]
            refine hK _ _ ⟨decide (value ≤ mx4 doms x y), some (.loc S2.length), by rw [e], Fx.one, ?_⟩
            rw [decide_eq_true_iff]
            exact ⟨fun h _ => ⟨e5, h⟩, fun h => (h e).2⟩
          · simp [e5]
            refine hK _ _ ⟨false, some (.loc S2.length), by rw [e], Fx.one, ?_⟩
            simp only [Bool.false_eq_true, false_iff]
            exact fun h => e5 (h e).1
        · simp [e3, e]
          exact hK _ _ ⟨true, none, rfl, Fx.refl, by simp [e]⟩
      · rintro ρ1 S3 ⟨b1, e10, rfl, f3, hb1⟩
        simp [e1, e2]
        have qz3 := f3.get id qz2
        refine ws_forK (enc := fun t : Int × Nat × Int => D.tup [.int t.1, .loc t.2.1]) (xs := [(x, qy, y), (y, qx, x)]) (fun rem ρ S' => ∃ (dn : List (Int × Nat × Int)) (b : Bool) (e11 e12 e16 : Option D), [(x, qy, y), (y, qx, x)] = dn ++ rem ∧
            ρ = [some (.loc n), some (dCon (.times x y z)), some (.int var), some (.int value), some (.loc m), none, some (.loc qx), some (.loc qy), some (.loc qz), some (.bl b), e10, e11, e12, none, none, none, e16] ∧ Fx Pu S2 S' ∧
            (b = true ↔ ((var = z → mn4 doms x y ≤ value ∧ value ≤ mx4 doms x y) ∧ ∀ t ∈ dn, var = t.1 → AF doms t.2.2 z value)))
          ⟨[], b1, _, _, _, rfl, rfl, f3, by rw [hb1]; simp⟩ ?_ ?_
        · rintro t rem ρ S4 ⟨dn, b, e11, e12, e16, hts, rfl, f4, hb⟩
          refine ⟨trivial, _, rfl, fun K2 B => ?_⟩
          have ht : t = (x, qy, y) ∨ t = (y, qx, x) := by
            have : t ∈ [(x, qy, y), (y, qx, x)] := by rw [hts]; simp
            simpa using this
          -- the list that the pair holds
          have hq : S4[t.2.1]? = some (.lst ((vals (dm doms t.2.2)).map .int)) ∧ WD (dm doms t.2.2) ∧ dm doms t.2.2 ≠ [] ∧ (-50 ≤ lo (dm doms t.2.2) ∧ lo (dm doms t.2.2) ≤ 50) ∧ -50 ≤ hi (dm doms t.2.2) ∧ hi (dm doms t.2.2) ≤ 50 := by
            rcases ht with rfl | rfl
            · exact ⟨f4.get id qy2, wy, ny, ry⟩
            · exact ⟨f4.get id qx2, wx, nx, rx⟩
          obtain ⟨q1, q2, q3, q4, q5⟩ := hq
          have qz4 := f4.get id qz2
          have next : ∀ (b' : Bool) (e11 e12 e16 : Option D) (S5 : Sto), Fx Pu S2 S5 → (b' = true ↔ b = true ∧ (var = t.1 → AF doms t.2.2 z value)) →
              WS (.nx [some (.loc n), some (dCon (.times x y z)), some (.int var), some (.int value), some (.loc m), none, some (.loc qx), some (.loc qy), some (.loc qz), some (.bl b'), e10, e11, e12, none, none, none, e16] S5) K2 := fun b' e11 e12 e16 S5 f5 hb' => by
            refine B.nx _ _ ⟨dn ++ [t], b', _, _, _, by rw [hts]; simp, rfl, f5, ?_⟩
            rw [hb', hb]
            constructor
            · rintro ⟨⟨a1, a2⟩, a3⟩
              refine ⟨a1, fun s hs => ?_⟩
              rcases List.mem_append.mp hs with hs | hs
              · exact a2 s hs
              · rw [List.mem_singleton] at hs
                subst hs
                exact a3
            · exact fun ⟨a1, a2⟩ => ⟨⟨a1, fun s hs => a2 s (List.mem_append_left _ hs)⟩, a2 t (by simp)⟩
          unfold _law_allows_b1
          by_cases e : var = t.1
          · simp [e, min_vals q1 q2 q3, max_vals q1 q2 q3]
            rw [rg2_of (by omega) (by omega) (by omega) (by omega), rngD_rng]
            simp only [R.toS_ok]
            refine ws_compG (enc := D.int) Pu (fun o => decide (lo (dm doms z) ≤ value * o) && decide (value * o ≤ hi (dm doms z))) D.int (fun _ _ => trivial) id (by rw [len_rng]; simp [sizeLine]; omega) ?_ ?_
            · intro o ho S5 f5
              refine ⟨_, rfl, ?_⟩
              have ho := mem_rng.mp ho
              have qz5 := f5.get id qz4
              unfold _law_allows_t4 _law_allows_e5
              simp [min_vals qz5 wz nz]
              rw [j_mul (cmul_small (by omega) (by omega))]
              by_cases e5 : lo (dm doms z) ≤ value * o
              · simp [e5, max_vals qz5 wz nz]
              · simp [e5]
            · intro S5 f5 e5
              have e5' : S5[S4.length]? = some (.lst (((rng (lo (dm doms t.2.2)) (hi (dm doms t.2.2))).filter fun o => decide (lo (dm doms z) ≤ value * o) && decide (value * o ≤ hi (dm doms z))).map .int)) := e5
              have l5 := len_loc e5'
              rw [List.length_map] at l5
              have hAF : (0 < (((rng (lo (dm doms t.2.2)) (hi (dm doms t.2.2))).filter fun o => decide (lo (dm doms z) ≤ value * o) && decide (value * o ≤ hi (dm doms z))).length : Int)) ↔ AF doms t.2.2 z value := by
                have : (0 < (((rng (lo (dm doms t.2.2)) (hi (dm doms t.2.2))).filter fun o => decide (lo (dm doms z) ≤ value * o) && decide (value * o ≤ hi (dm doms z))).length : Int)) ↔ 0 < ((rng (lo (dm doms t.2.2)) (hi (dm doms t.2.2))).filter fun o => decide (lo (dm doms z) ≤ value * o) && decide (value * o ≤ hi (dm doms z))).length := by omega
                rw [this, List.length_pos_iff_exists_mem]
                unfold AF
                constructor
                · rintro ⟨o, ho⟩
                  rw [List.mem_filter, Bool.and_eq_true, decide_eq_true_eq, decide_eq_true_eq] at ho
                  exact ⟨o, ho.1, ho.2⟩
                · rintro ⟨o, ho, hb⟩
                  exact ⟨o, List.mem_filter.mpr ⟨ho, by rw [Bool.and_eq_true, decide_eq_true_eq, decide_eq_true_eq]; exact hb⟩⟩
              cases b with
              | false =>
                simp
                rw [← e]
                exact next false _ _ _ _ (f4.trans f5) (by simp)
              | true =>
                simp only [j_sAsg, j_bName, R.toS_ok, ws_nx, j_eAnd, j_eVar, List.set, List.getElem?_cons_succ, List.getElem?_cons_zero, R.bind_ok, j_bT_bl, if_pos, toS_bind, j_e2, j_eN, j_aCons, j_aNil, j_eC, l5, j_gt]
                rw [← e]
                refine next _ _ _ _ _ (f4.trans f5) ?_
                rw [decide_eq_true_iff, hAF]
                exact ⟨fun a => ⟨rfl, fun _ => a⟩, fun a => a.2 e⟩
          · simp [e]
            exact next b _ _ _ _ f4 (by simp [e])
        · rintro ρ S4 ⟨dn, b, e11, e12, e16, hts, rfl, f4, hb⟩
          refine ⟨trivial, ?_⟩
          rw [List.append_nil] at hts
          simp
          refine hr _ _ ⟨fin ⟨b, rfl, ?_⟩, F2.trans f4⟩
          rw [hb, ← hts]
          show _ ↔ AT doms x y z var value
          unfold AT
          simp
    | dist vs =>
      obtain ⟨k1, k2, k3, k4⟩ := h
      have e0 : ∀ S, gIx (dCon (.dist vs)) (.int 0) S = .ok (.str "distinct") S := fun S => ix_t0
      obtain ⟨qv, qv1, qv2⟩ := hl2.ix hl1 v0 v1
      simp [e0, qv1, notIn_ints qv2]
      by_cases hmem : value ∈ vals (dm doms var)
      case neg =>
        simp [hmem]
        exact hr _ _ ⟨fin ⟨false, rfl, by simp only [Bool.false_eq_true, false_iff]; exact fun z => hmem z.1⟩, F2⟩
      simp [hmem, it_loc e12]
      refine ws_compR (enc := D.int) (xs := (Cst.dist vs).own) (fun o => decide (o ≠ var)) (fun o => vals (dm doms o)) (fun _ f => f.get id e12) (by simp [sizeLine]; omega) ?_ ?_
      · intro o ho S3 f3 _
        refine ⟨_, rfl, ?_⟩
        have hb := k4 o ho
        obtain ⟨q, z1, z2⟩ := hl2.get (i := o.toNat) (by rw [List.getElem?_map, dm_get hb.1 hb.2]; rfl)
        have q1 := ix_rl (f3.get id hl1) z1 hb.1
        have q2 := f3.get id z2
        have hql : q < S2.length := (List.getElem?_eq_some_iff.mp z2).1
        unfold _law_allows_t2 _law_allows_e2
        simp [q1]
        exact fun _ => ⟨by omega, q2⟩
      · intro S3 rl2 f3 e3 r3
        simp [it_loc e3]
        obtain ⟨z1, z2, z3⟩ := rows_zip r3
        rw [z1]
        have hzl : (rl2.zip (((Cst.dist vs).own.filter fun o => decide (o ≠ var)).map fun o => vals (dm doms o))).length ≤ 12 := by
          have h1 := congrArg List.length z3
          rw [List.length_map, List.length_map] at h1
          rw [h1]
          exact Nat.le_trans (List.length_filter_le _ _) holen
        refine ws_compR (enc := fun p : Nat × List Int => D.loc p.1) (fun _ => true) (fun p => p.2.filter fun o => decide (o ≠ value)) (fun S' f => by rw [← z1]; exact f.get id e3) (by simp only [sizeLine]; omega) ?_ ?_
        · rintro ⟨q, row⟩ hp S4 f4 hl4
          refine ⟨_, rfl, ?_⟩
          have hq := f4.get id (z2 _ hp)
          have hrow : row.length ≤ 101 := by
            have : row ∈ (((Cst.dist vs).own.filter fun o => decide (o ≠ var)).map fun o => vals (dm doms o)) := by
              rw [← z3]
              exact List.mem_map.mpr ⟨_, hp, rfl⟩
            obtain ⟨o, ho, rfl⟩ := List.mem_map.mp this
            have ho := (List.mem_filter.mp ho).1
            exact (hw _ (dm_mem (k4 o ho).1 (k4 o ho).2)).vlen
          simp
          unfold _law_allows_e4
          simp [it_loc hq]
          refine ev_compG (enc := D.int) Pu (fun o => decide (o ≠ value)) D.int (fun S' f => f.get id hq) id (by simp only [sizeLine]; omega) ?_ ?_
          · intro o ho S5 f5
            refine ⟨_, rfl, ?_⟩
            unfold _law_allows_t3 _law_allows_e3
            simp
          · intro S5 f5 e5
            exact ⟨_, rfl, by omega, by simpa using e5, f5⟩
        · intro S4 rl3 f4 e4 r4
          have e44 : (S4 ++ [Ob.lst []])[S3.length]? = some (.lst (rl3.map .loc)) := (Fx.one (M := Pu)).get id e4
          have r44 := r4.fx (Fx.one (M := Pu) (o := .lst []))
          have hrows : ((rl2.zip (((Cst.dist vs).own.filter fun o => decide (o ≠ var)).map fun o => vals (dm doms o))).filter fun _ => true).map (fun p => p.2.filter fun o => decide (o ≠ value)) = ((Cst.dist vs).own.filter fun o => decide (o ≠ var)).map fun o => (vals (dm doms o)).filter fun o => decide (o ≠ value) := by
            rw [List.filter_eq_self.mpr fun _ _ => rfl]
            have h1 := congrArg (List.map fun r : List Int => r.filter fun o => decide (o ≠ value)) z3
            rw [List.map_map, List.map_map] at h1
            exact h1
          rw [hrows] at r44
          refine (s_choice (rows := ((Cst.dist vs).own.filter fun o => decide (o ≠ var)).map fun o => (vals (dm doms o)).filter fun o => decide (o ≠ value)) (by rw [List.length_map]; exact Nat.le_trans (List.length_filter_le _ _) holen) 20 0 S3.length S4.length rl3 [] _ e44 r44 get_end (by simp) (by simp) (by
            have : (((Cst.dist vs).own.filter fun o => decide (o ≠ var)).map fun o => (vals (dm doms o)).filter fun o => decide (o ≠ value)).length ≤ 12 := by rw [List.length_map]; exact Nat.le_trans (List.length_filter_le _ _) holen
            omega)).ws fun d S5 ⟨⟨b, hb, hs⟩, f5⟩ => ?_
          subst hb
          refine hr _ _ ⟨fin ⟨b, rfl, ?_⟩, ((F2.trans f3).trans f4).trans (Fx.one.trans f5)⟩
          rw [hs, List.drop_zero, ch_sdr, sdrL_map (own := (Cst.dist vs).own.filter fun o => decide (o ≠ var)) (List.Pairwise.filter _ (show (Cst.dist vs).own.Nodup from k3)), ← sdr_fix (own := (Cst.dist vs).own) hin]
          exact ⟨fun a => ⟨hmem, a⟩, fun a => a.2⟩
end K56

namespace K56
open PySem L2 DS Fd
theorem s_stream (ns : List Int) : Ev (f__law_stream [.rls (ns.map .int)] []) fun d S' => d = .loc 1 ∧ StOk 1 0 ns S' ∧ S'.length = 2 := by
  unfold f__law_stream f__law_stream_body
  refine ev_runK fun K hr _ => ?_
  simp
  refine ws_forK (fun rem ρ S' => S' = [] ∧ ∃ (m : Int) (x : Option D), ρ = [some (.rls (ns.map .int)), some (.int m), x] ∧ 0 ≤ m ∧ m < 2147483647) ⟨rfl, 17, _, rfl, by omega, by omega⟩ ?_ ?_
  · rintro v rem ρ S' ⟨rfl, m, x, rfl, m0, m1⟩
    refine ⟨trivial, _, rfl, fun K2 B => ?_⟩
    unfold _law_stream_b1
    simp
    rw [j_mul (.inr ⟨by omega, by omega⟩)]
    simp
    rw [j_mod (by omega)]
    simp
    rw [j_mod (by omega)]
    simp
    exact B.nx _ _ ⟨rfl, _, _, rfl, Int.emod_nonneg _ (by omega), Int.emod_lt_of_pos _ (by omega)⟩
  · rintro ρ S' ⟨rfl, m, x, rfl, m0, m1⟩
    refine ⟨trivial, ?_⟩
    simp
    exact hr _ _ ⟨rfl, ⟨0, 0, m, rfl, rfl, by decide, by decide, by decide, m0, m1⟩, rfl⟩
theorem s_draw {s c : Nat} {ns : List Int} {S : Sto} {many : Int} (h : StOk s c ns S) (h1 : 1 ≤ many) (h2 : many < 1073741824) :
    Ev (f__law_draw [.loc s, .int many] S) fun d S' => (∃ v, d = .int v ∧ 0 ≤ v ∧ v < many) ∧ StOk s c ns S' ∧ Fx (At s) S S' := by
  obtain ⟨a, b, m, h⟩ := h
  unfold f__law_draw f__law_draw_body
  refine ev_runK fun K hr _ => ?_
  simp [ix4_1 h.st, ix4_2 h.st, ix_l0 h.st]
  refine ws_midR (fun ρ1 S1 => ρ1 = [some (.loc s), some (.int many), none] ∧ (∃ a b, StAt S1 s c ns a b m) ∧ Fx (At s) S S1) (fun K1 hK => ?_) ?_
  · have e0 := ix_l0 h.st
    have e1 := ix4_1 h.st
    have e2 := ix4_2 h.st
    by_cases ha : a = 0
    · simp [ha, e0, e2, len_loc h.sc]
      by_cases hb : b < (ns.length : Int)
      · have hbn : b.toNat < ns.length := by have := h.b0; omega
        have e3 : gIx (.loc c) (.int b) S = .ok (.int (ns[b.toNat])) S := DS.ix_seq (seq_loc h.sc) (DS.atI_of h.b0 (by rw [List.getElem?_map, List.getElem?_eq_getElem hbn]; rfl))
        have e4 := set4_1 (d := .int (if ns[b.toNat] < 0 then -ns[b.toNat] else ns[b.toNat])) h.st
        have hp : 0 ≤ (if ns[b.toNat] < 0 then -ns[b.toNat] else ns[b.toNat]) := by split <;> omega
        have h4 := h.set (a' := if ns[b.toNat] < 0 then -ns[b.toNat] else ns[b.toNat]) (b' := b) (m' := m) hp h.b0 h.m0 h.m1
        have e5 := set4_2 (d := .int (b + 1)) h4.st
        simp [hb, e0, e2, e3, e4, ix4_2 h4.st, e5]
        exact hK _ _ ⟨rfl, ⟨_, _, by simpa using h4.set hp (b' := b + 1) (by have := h.b0; omega) h.m0 h.m1⟩, (Fx.refl.set fun _ => rfl)⟩
      · simp [hb]
        exact hK _ _ ⟨rfl, ⟨a, b, h⟩, Fx.refl⟩
    · simp [ha]
      exact hK _ _ ⟨rfl, ⟨a, b, h⟩, Fx.refl⟩
  · rintro ρ1 S1 ⟨rfl, ⟨a, b, h⟩, f⟩
    have e1 := ix4_1 h.st
    have e3 := ix4_3 h.st
    simp [e1]
    by_cases ha : a = 0
    · subst ha
      have hd0 := Int.emod_nonneg (m * 48271 + 11) (b := 2147483647) (by omega)
      have hd1 := Int.emod_lt_of_pos (m * 48271 + 11) (b := 2147483647) (by omega)
      have h4 := h.set (a' := 0) (b' := b) (m' := (m * 48271 + 11) % 2147483647) h.a0 h.b0 hd0 hd1
      have e4 := set4_3 (d := .int ((m * 48271 + 11) % 2147483647)) h.st
      have m1 : gMul (.int m) (.int 48271) S1 = .ok (.int (m * 48271)) S1 := j_mul (.inr ⟨by omega, by omega⟩)
      have m2 : ∀ x S, gMod (.int x) (.int 2147483647) S = .ok (.int (x % 2147483647)) S := fun x S => j_mod (by omega)
      have m3 : ∀ x S, gDiv (.int x) (.int 97) S = .ok (.int (x / 97)) S := fun x S => j_div ⟨by omega, by omega⟩
      have m4 : ∀ x S, gMod (.int x) (.int many) S = .ok (.int (x % many)) S := fun x S => j_mod (by omega)
      simp [e3, m1, m2, e4, ix4_3 h4.st, m3, m4]
      refine hr _ _ ⟨⟨_, rfl, Int.emod_nonneg _ (by omega), Int.emod_lt_of_pos _ (by omega)⟩, ⟨0, b, _, h4⟩, f.set fun _ => rfl⟩
    · have m4 : ∀ x S, gMod (.int x) (.int many) S = .ok (.int (x % many)) S := fun x S => j_mod (by omega)
      have m5 : ∀ x S, gDiv (.int x) (.int many) S = .ok (.int (x / many)) S := fun x S => j_div ⟨by omega, by omega⟩
      have e4 := set4_1 (d := .int (a / many)) h.st
      simp [ha, e1, m4, m5, e4]
      refine hr _ _ ⟨⟨_, rfl, Int.emod_nonneg _ (by omega), Int.emod_lt_of_pos _ (by omega)⟩, ⟨_, b, m, h.set (Int.ediv_nonneg h.a0 (by omega)) h.b0 h.m0 h.m1⟩, f.set fun _ => rfl⟩
theorem s_law_values {d : Dom} (h : WD d) (S : Sto) : Ev (f__law_values [dDom d] S) fun r S' => r = .loc S.length ∧ S'[S.length]? = some (.lst ((vals d).map .int)) ∧ Fx Pu S S' := by
  unfold f__law_values f__law_values_body dDom
  refine ev_runK fun K hr _ => ?_
  simp
  refine ws_forK (fun rem ρ S' => ∃ dn x, d = dn ++ rem ∧ ρ = [some (.tup (d.map dP)), some (.loc S.length), x, none] ∧ S'[S.length]? = some (.lst ((vals dn).map .int)) ∧ Fx Pu S S') ⟨[], none, rfl, rfl, by simp [vals], Fx.one⟩ ?_ ?_
  · rintro p rem ρ S' ⟨dn, x, rfl, rfl, e, hf⟩
    refine ⟨trivial, _, rfl, fun K2 B => ?_⟩
    have hp := h.rg p (by simp)
    unfold _law_values_b1
    simp [lst_loc e]
    rw [rg2_of (by omega) (by omega) (by omega) (by omega), rngD_rng]
    simp only [R.toS_ok]
    refine ws_compM (enc := D.int) Pu D.int (fun _ _ => trivial) id (by rw [len_rng]; simp only [sizeLine]; omega) ?_ ?_
    · intro o ho S5 f5
      refine ⟨_, rfl, ?_⟩
      unfold _law_values_e1
      simp
    · intro S5 f5 e5
      have h1 := h.pre.vlen
      have hl : S.length < S'.length := (List.getElem?_eq_some_iff.mp e).1
      have e6 := f5.get id e
      have hl6 : S.length < S5.length := (List.getElem?_eq_some_iff.mp e6).1
      rw [ext_loc e6 e5 (by simp [len_rng, sizeLine]; omega)]
      refine B.nx _ _ ⟨dn ++ [p], some (dP p), by simp, by simp, ?_, ?_⟩
      · rw [vals_app, vals_one]
        rw [List.getElem?_set_self hl6, List.map_append]
      · exact (hf.trans f5).set fun z => absurd z (Nat.lt_irrefl _)
  · rintro ρ S' ⟨dn, x, e0, rfl, e, hf⟩
    rw [List.append_nil] at e0
    subst e0
    refine ⟨trivial, ?_⟩
    simp
    exact hr _ _ ⟨rfl, e, hf⟩
end K56

namespace K56
open PySem L2 DS Fd
theorem ix_end {S : Sto} {n : Nat} {i : Dom} {p : Int × Int} (h : S[n]? = some (.lst ((i ++ [p]).map dP))) : gIx (.loc n) (.int (((i ++ [p]).length : Nat) - 1)) S = .ok (dP p) S := by
  have e : (((i ++ [p]).length : Nat) : Int) - 1 = ((i.length : Nat) : Int) := by simp
  rw [e]
  exact DS.ix_seq (seq_loc h) (DS.atI_nat (by simp))
theorem s_law_domain {n : Nat} {ns : List Int} {S : Sto} (h : S[n]? = some (.lst (ns.map .int))) (hr0 : ∀ v ∈ ns, -50 ≤ v ∧ v ≤ 50) :
    Ev (f__law_domain [.loc n] S) fun r S' => (∃ d, r = dDom d ∧ WD d) ∧ Fx Pu S S' := by
  unfold f__law_domain f__law_domain_body
  refine ev_runK fun K hr _ => ?_
  have h' : (S ++ [Ob.lst []])[n]? = some (.lst (ns.map .int)) := (Fx.one (M := Pu)).get id h
  simp [sort_loc h']
  have e1 : (S ++ [Ob.lst []] ++ [Ob.lst ((sortI ns).map .int)])[S.length + 1]? = some (.lst ((sortI ns).map .int)) := by
    have : S.length + 1 = (S ++ [Ob.lst []]).length := by simp
    rw [this]
    exact get_end
  have e0 : (S ++ [Ob.lst []] ++ [Ob.lst ((sortI ns).map .int)])[S.length]? = some (.lst []) := (Fx.one (M := Pu)).get id get_end
  have e1' : (S ++ [Ob.lst [], Ob.lst ((sortI ns).map .int)])[S.length + 1]? = some (.lst ((sortI ns).map .int)) := by simpa using e1
  have e0' : (S ++ [Ob.lst [], Ob.lst ((sortI ns).map .int)])[S.length]? = some (.lst []) := by simpa using e0
  have f0 : Fx Pu S (S ++ [Ob.lst [], Ob.lst ((sortI ns).map .int)]) := by
    have := (Fx.one (M := Pu) (S := S) (o := .lst [])).push (o := .lst ((sortI ns).map .int))
    simpa using this
  simp [it_loc e1']
  refine ws_forK (fun rem ρ S' => ∃ (x : Option D) (d : Dom), ρ = [some (.loc n), some (.loc S.length), x] ∧ S'[S.length]? = some (.lst (d.map dP)) ∧ S'[S.length + 1]? = some (.lst ((sortI ns).map .int)) ∧ WD d ∧ (∀ p ∈ d, ∀ v ∈ rem, p.2 ≤ v) ∧ rem.Pairwise (· ≤ ·) ∧ (∀ v ∈ rem, -50 ≤ v ∧ v ≤ 50) ∧ Fx Pu S S')
    ⟨none, [], rfl, e0', e1', WD.nil, (fun p hp => nomatch hp), sortI_sorted ns, fun v hv => hr0 v ((sortI_perm ns).mem_iff.mp hv), f0⟩ ?_ ?_
  · rintro v rem ρ S' ⟨x, d, rfl, g0, g1, wd, hle, hs, hrg, f⟩
    refine ⟨g1, _, rfl, fun K2 B => ?_⟩
    have hv := hrg v List.mem_cons_self
    have hs' := List.pairwise_cons.mp hs
    have hl0 : S.length < S'.length := (List.getElem?_eq_some_iff.mp g0).1
    have hdl := wd.small
    -- what the turn leaves
    have next : ∀ d' : Dom, WD d' → (∀ p ∈ d', p.2 ≤ v) → WS (.nx [some (.loc n), some (.loc S.length), some (.int v)] (S'.set S.length (.lst (d'.map dP)))) K2 := fun d' w' h' => by
      refine B.nx _ _ ⟨_, d', rfl, by rw [List.getElem?_set_self hl0], by rw [List.getElem?_set_ne (by omega)]; exact g1, w', fun p hp u hu => Int.le_trans (h' p hp) (hs'.1 u hu), hs'.2, fun u hu => hrg u (List.mem_cons_of_mem _ hu), f.set fun z => absurd z (Nat.lt_irrefl _)⟩
    have app : (∀ p ∈ d, p.2 + 1 < v) → WS (.nx [some (.loc n), some (.loc S.length), some (.int v)] (S'.set S.length (.lst (d.map dP ++ [.tup [.int v, .int v]])))) K2 := fun hg => by
      have := next (d ++ [(v, v)]) (wd.snoc ⟨hv.1, Int.le_refl _, hv.2⟩ hg) fun p hp => by
        rcases List.mem_append.mp hp with hp | hp
        · have := hg p hp; omega
        · rw [List.mem_singleton] at hp; subst hp; exact Int.le_refl _
      simpa [dP] using this
    have hlen := len_loc g0
    rw [List.length_map] at hlen
    have happ := app_loc (d := .tup [.int v, .int v]) g0 (by rw [List.length_map]; simp only [sizeLine]; omega)
    unfold _law_domain_b1
    by_cases hdn : d = []
    · subst hdn
      simp [hlen, lst_loc g0, happ]
      exact app (by simp)
    · obtain ⟨i, p, rfl⟩ : ∃ i p, d = i ++ [p] := ⟨d.dropLast, d.getLast hdn, (List.dropLast_concat_getLast hdn).symm⟩
      have hi : (0 : Int) < ((i ++ [p]).length : Nat) := by simp only [List.length_append, List.length_singleton]; omega
      have hx := ix_end g0
      obtain ⟨w1, w2, w3⟩ := wd.init
      have hpv := hle p (by simp) v List.mem_cons_self
      by_cases e : v ≤ p.2 + 1
      · skip
        have e2 : (((i ++ [p]).length : Nat) : Int) - 1 = ((i.length : Nat) : Int) := by simp
        have hsl := DS.set_lst (d := .tup [.int p.1, .int v]) (k := i.length) g0 (by simp)
        rw [← e2] at hsl
        simp only [j_sIf, j_tAnd, j_tBl, j_e2, j_eN, j_aCons, j_aNil, j_eVar, List.set, List.getElem?_cons_succ, List.getElem?_cons_zero, R.bind_ok, hlen, j_eC, j_gt, hi, decide_true, j_bB, if_pos, j_sub, hx, ix_p1, j_add, j_le, e, toS_bind, R.toS_ok, j_sSet, j_eTup, ix_p0, hsl]
        have := next (i ++ [(p.1, v)]) (w1.snoc ⟨w2.1, by have := w2.2.1; show p.1 ≤ v; omega, hv.2⟩ w3) fun q hq => by
          rcases List.mem_append.mp hq with hq | hq
          · exact hle q (by simp [hq]) v List.mem_cons_self
          · rw [List.mem_singleton] at hq; subst hq; exact Int.le_refl _
        have e3 : (List.map dP (i ++ [p])).set i.length (.tup [.int p.1, .int v]) = (i ++ [(p.1, v)]).map dP := by
          simp [dP]
        rw [e3]
        exact this
      · simp only [j_sIf, j_tAnd, j_tBl, j_e2, j_eN, j_aCons, j_aNil, j_eVar, List.set, List.getElem?_cons_succ, List.getElem?_cons_zero, R.bind_ok, hlen, j_eC, j_gt, hi, decide_true, j_bB, if_pos, j_sub, hx, ix_p1, j_add, j_le, e, decide_false, Bool.false_eq_true, if_false, toS_bind, R.toS_ok, j_sEx, j_eM, lst_loc g0, Option.isSome_some, j_eTup, happ]
        refine app fun q hq => ?_
        rcases List.mem_append.mp hq with hq | hq
        · have := w3 q hq
          have := w2.2.1
          omega
        · rw [List.mem_singleton] at hq; subst hq; omega
  · rintro ρ S' ⟨x, d, rfl, g0, g1, wd, -, -, -, f⟩
    refine ⟨g1, ?_⟩
    simp [tup_loc g0]
    exact hr _ _ ⟨⟨d, rfl, wd⟩, f⟩
end K56

namespace K56
open PySem L2 DS Fd
theorem perm_erase : ∀ (l : List Int) (i : Nat) (h : i < l.length), l.Perm (l[i] :: l.eraseIdx i)
  | [], i, h => absurd h (Nat.not_lt_zero _)
  | a :: l, 0, h => List.Perm.refl _
  | a :: l, i + 1, h => ((perm_erase l i (by simpa using h)).cons a).trans (List.Perm.swap _ _ _)
theorem map_erase {α β : Type} (f : α → β) : ∀ (l : List α) (i : Nat), (l.map f).eraseIdx i = (l.eraseIdx i).map f
  | [], i => rfl
  | a :: l, 0 => rfl
  | a :: l, i + 1 => congrArg (f a :: ·) (map_erase f l i)
section
variable {s c : Nat} {ns : List Int} {S : Sto}
theorem s_small {widest : Int} (h : StOk s c ns S) (w0 : 1 ≤ widest) (w1 : widest ≤ 101) :
    Ev (f__law_small_domain [.loc s, .int widest] S) fun r S' => (∃ d, r = dDom d ∧ WD d) ∧ StOk s c ns S' ∧ Fx (At s) S S' := by
  unfold f__law_small_domain f__law_small_domain_body
  refine ev_runK fun K hr _ => ?_
  simp
  refine (s_draw h (by omega) (by omega)).ws fun d S1 ⟨⟨v1, hd, a1, a2⟩, h1, f1⟩ => ?_
  subst hd
  simp
  refine (s_draw h1 (by omega) (by omega)).ws fun d S2 ⟨⟨v2, hd, b1, b2⟩, h2, f2⟩ => ?_
  subst hd
  simp
  refine ws_midR (fun ρ1 S3 => ∃ low step : Int, ρ1 = [some (.loc s), some (.int widest), some (.int low), some (.int step), none, none, none] ∧ -50 ≤ low ∧ low ≤ 30 ∧ 1 ≤ step ∧ step ≤ 4 ∧ StOk s c ns S3 ∧ Fx (At s) S S3) (fun K1 hK => ?_) ?_
  · by_cases e : v2 = 0
    · simp [e]
      refine (s_draw h2 (by omega) (by omega)).ws fun d S3 ⟨⟨v3, hd, c1, c2⟩, h3, f3⟩ => ?_
      subst hd
      simp
      refine (s_draw h3 (by omega) (by omega)).ws fun d S4 ⟨⟨v4, hd, d1, d2⟩, h4, f4⟩ => ?_
      subst hd
      simp
      exact hK _ _ ⟨v3 - 50, 1 + v4, rfl, by omega, by omega, by omega, by omega, h4, ((f1.trans f2).trans f3).trans f4⟩
    · simp [e]
      exact hK _ _ ⟨v1 - 3, 1, rfl, by omega, by omega, by omega, by omega, h2, f1.trans f2⟩
  · rintro ρ1 S3 ⟨low, step, rfl, l0, l1, t0, t1, h3, f3⟩
    simp
    refine (s_draw h3 (by omega) (by omega)).ws fun d S4 ⟨⟨v4, hd, d1, d2⟩, h4, f4⟩ => ?_
    subst hd
    simp
    rw [rg1_of (by omega) (by omega)]
    simp only [R.toS_ok]
    have F4 := f3.trans f4
    refine ws_compM (enc := fun k : Nat => D.int (k : Nat)) Pu (fun k => .int (if low + step * (k : Nat) < 50 then low + step * (k : Nat) else 50)) (fun _ _ => trivial) id (by rw [List.length_range]; simp only [sizeLine]; omega) ?_ ?_
    · intro k hk S5 f5
      refine ⟨_, rfl, ?_⟩
      unfold _law_small_domain_e1
      simp
      rw [j_mul (cmul_small (by omega) (by omega))]
      simp
    · intro S5 f5 e5
      simp
      have h5 := h4.pu f5
      have e5' : S5[S4.length]? = some (.lst (((List.range (1 + v4).toNat).map fun k : Nat => if low + step * (k : Nat) < 50 then low + step * (k : Nat) else 50).map .int)) := by rw [e5, List.map_map]; rfl
      have hrg : ∀ v ∈ ((List.range (1 + v4).toNat).map fun k : Nat => if low + step * (k : Nat) < 50 then low + step * (k : Nat) else 50), -50 ≤ v ∧ v ≤ 50 := fun v hv => by
        obtain ⟨k, hk, rfl⟩ := List.mem_map.mp hv
        have : 0 ≤ step * (k : Int) := Int.mul_nonneg (by omega) (by omega)
        split <;> omega
      have hlen : ((List.range (1 + v4).toNat).map fun k : Nat => if low + step * (k : Nat) < 50 then low + step * (k : Nat) else 50).length ≤ 101 := by rw [List.length_map, List.length_range]; omega
      generalize ((List.range (1 + v4).toNat).map fun k : Nat => if low + step * (k : Nat) < 50 then low + step * (k : Nat) else 50) = old at e5' hrg hlen
      have hs4 := h4.lt
      have F5 : Fx (At s) S S5 := F4.trans (f5.mono fun _ z _ => z.elim)
      refine (s_draw h5 (by omega) (by omega)).ws fun d S6 ⟨⟨v6, hd, g1, g2⟩, h6, f6⟩ => ?_
      subst hd
      have e6 := f6.get (show S4.length ≠ s by omega) e5'
      have F6 := F5.trans f6
      simp
      refine ws_midR (fun ρ1 S7 => ∃ (vl : Nat) (ms : List Int) (x : Option D), ρ1 = [some (.loc s), some (.int widest), some (.int low), some (.int step), some (.loc vl), none, x] ∧ S7[vl]? = some (.lst (ms.map .int)) ∧ (∀ v ∈ ms, -50 ≤ v ∧ v ≤ 50) ∧ StOk s c ns S7 ∧ Fx (At s) S S7) (fun K1 hK => ?_) ?_
      · by_cases e : v6 = 0
        · simp [e, it_loc e6]
          refine Ev.ws (ev_comp (P := fun d S7 => d = .loc S6.length ∧ ∃ ms : List Int, S7[S6.length]? = some (.lst (ms.map .int)) ∧ (∀ v ∈ ms, -50 ≤ v ∧ v ≤ 50) ∧ StOk s c ns S7 ∧ Fx (At s) S S7)
            (fun ds acc S7 => ∃ rem ms : List Int, ds = rem.map .int ∧ acc = ms.map .int ∧ (∀ v ∈ rem, v ∈ old) ∧ (∀ v ∈ ms, v ∈ old) ∧ ms.length + rem.length ≤ old.length ∧ StOk s c ns S7 ∧ S7[S4.length]? = some (.lst (old.map .int)) ∧ S6.length < S7.length ∧ Fx (At s) S S7)
            get_end ⟨old, [], rfl, rfl, fun _ h => h, (fun _ h => nomatch h), by simp, h6.pu Fx.one, (Fx.one (M := Pu)).get id e6, by simp, F6.push⟩ ?_ ?_) ?_
          · rintro d ds acc S7 ⟨rem, ms, q1, q2, q3, q4, q5, q6, q7, q8, q9⟩ hacc
            cases rem with
            | nil => cases q1
            | cons v rem =>
              cases q1
              refine ⟨q7, _, rfl, ?_⟩
              unfold _law_small_domain_t1 _law_small_domain_e2
              have hs6 := h6.lt
              simp [R.bind_assoc]
              refine (s_draw q6 (by omega) (by omega)).bind fun d S8 ⟨⟨v8, hd, k1, k2⟩, h8, f8⟩ => ?_
              subst hd
              have z1 := f8.get (show S6.length ≠ s by omega) hacc
              have z2 := f8.get (show S4.length ≠ s by omega) q7
              have z3 : S6.length < S8.length := Nat.lt_of_lt_of_le q8 f8.1
              simp at q5
              by_cases e8 : 0 < v8
              · simp [e8]
                refine ⟨z1, by rw [q2, List.length_map]; simp only [sizeLine]; omega, rem, rfl, ms ++ [v], by rw [q2]; simp, fun u hu => q3 u (List.mem_cons_of_mem _ hu), fun u hu => (List.mem_append.mp hu).elim (q4 u) fun hu => by rw [List.mem_singleton] at hu; subst hu; exact q3 u List.mem_cons_self, by simp; omega, h8.set (by omega) (by omega), by rw [List.getElem?_set_ne (by have := F6.1; have := (List.getElem?_eq_some_iff.mp e6).1; omega)]; exact z2, z3, ?_⟩
                exact (q9.trans f8).set fun z => absurd z (by have := F6.1; omega)
              · simp [e8]
                exact ⟨z1, rem, rfl, ms, q2, fun u hu => q3 u (List.mem_cons_of_mem _ hu), q4, by omega, h8, z2, z3, q9.trans f8⟩
          · rintro acc S7 ⟨rem, ms, q1, q2, q3, q4, q5, q6, q7, q8, q9⟩ hacc
            exact ⟨q7, rfl, ms, by rw [hacc, q2], fun v hv => hrg v (q4 v hv), q6, q9⟩
          · rintro d S7 ⟨hd, ms, y1, y2, y3, y4⟩
            subst hd
            exact hK _ _ ⟨_, ms, _, rfl, y1, y2, y3, y4⟩
        · simp [e]
          exact hK _ _ ⟨_, old, _, rfl, e6, hrg, h6, F6⟩
      · rintro ρ1 S7 ⟨vl, ms, x, rfl, y1, y2, y3, y4⟩
        simp
        exact (s_law_domain y1 y2).ws fun d S8 ⟨hd, f8⟩ => hr _ _ ⟨hd, y3.pu f8, y4.trans (f8.mono fun _ z _ => z.elim)⟩
theorem pop_loc {n : Nat} {xs : List D} {i : Int} {d : D} (h : S[n]? = some (.lst xs)) (h0 : 0 ≤ i) (h1 : i < xs.length) (e : xs[i.toNat]? = some d) (hz : xs.length ≤ 1000) : gPop (.loc n) [.int i] S = .ok d (S.set n (.lst (xs.eraseIdx i.toNat))) := by
  unfold gPop
  simp only [h]
  rw [if_pos ⟨by omega, by omega⟩, seqIndex_of h0 h1]
  simp only [e]
theorem s_some {many count : Int} (h : StOk s c ns S) (m0 : 1 ≤ many) (m1 : many ≤ 100) (c0 : 0 ≤ count) (c1 : count ≤ 100) :
    Ev (f__law_some_variables [.loc s, .int many, .int count] S) fun r S' => (∃ vs : List Int, r = .tup (vs.map .int) ∧ vs.Nodup ∧ (∀ v ∈ vs, 0 ≤ v ∧ v < many) ∧ vs.length ≤ count ∧ (1 ≤ count → vs ≠ [])) ∧ StOk s c ns S' ∧ Fx (At s) S S' := by
  unfold f__law_some_variables f__law_some_variables_body
  refine ev_runK fun K hr _ => ?_
  simp
  rw [rg1_of (by omega) (by omega)]
  simp only [R.toS_ok]
  refine ws_compM (enc := fun k : Nat => D.int (k : Nat)) Pu (fun k => .int (k : Nat)) (fun _ _ => trivial) id (by rw [List.length_range]; simp only [sizeLine]; omega) ?_ ?_
  · intro k hk S5 f5
    refine ⟨_, rfl, ?_⟩
    unfold _law_some_variables_e1
    simp
  · intro S1 f1 e1
    have hsl := h.lt
    have h1 := h.pu f1
    have e1' : S1[S.length]? = some (.lst (((List.range many.toNat).map fun k : Nat => (k : Int)).map .int)) := by rw [e1, List.map_map]; rfl
    have hl1 : S.length < S1.length := (List.getElem?_eq_some_iff.mp e1).1
    simp
    rw [rg1_of (by omega) (by omega)]
    simp only [R.toS_ok]
    refine ws_forK (enc := fun k : Nat => D.int (k : Nat)) (fun rem ρ S' => ∃ (x : Option D) (fs rs : List Int), ρ = [some (.loc s), some (.int many), some (.int count), some (.loc S.length), some (.loc S1.length), x] ∧ S'[S.length]? = some (.lst (rs.map .int)) ∧ S'[S1.length]? = some (.lst (fs.map .int)) ∧
        (fs ++ rs).Nodup ∧ (∀ v ∈ fs ++ rs, 0 ≤ v ∧ v < many) ∧ ((fs.length : Nat) : Int) + rem.length ≤ count ∧ rs.length ≤ 100 ∧ (fs = [] → rs ≠ [] ∧ ((rem.length : Nat) : Int) = count) ∧ StOk s c ns S' ∧ Fx (At s) S S')
      ⟨none, [], _, rfl, (Fx.one (M := Pu)).get id e1', get_end, ?_, ?_, by simp; omega, by rw [List.length_map, List.length_range]; omega, fun _ => ⟨?_, by simp; omega⟩, h1.pu Fx.one, (f1.mono fun _ z _ => z.elim).push⟩ ?_ ?_
    · rw [List.nil_append]
      unfold List.Nodup
      rw [List.pairwise_map]
      exact List.nodup_range.imp fun {a b} hne z => hne (by omega)
    · intro v hv
      rw [List.nil_append] at hv
      obtain ⟨k, hk, rfl⟩ := List.mem_map.mp hv
      rw [List.mem_range] at hk
      omega
    · intro z
      have := congrArg List.length z
      rw [List.length_map, List.length_range] at this
      simp at this
      omega
    · rintro k rem ρ S2 ⟨x, fs, rs, rfl, g1, g2, nd, rg, hc, hz, hfs, h2, f2⟩
      refine ⟨trivial, _, rfl, fun K2 B => ?_⟩
      have lr := len_loc g1
      rw [List.length_map] at lr
      unfold _law_some_variables_b1
      simp at hc
      cases rs with
      | nil =>
        simp [lr]
        exact B.nx _ _ ⟨_, fs, [], rfl, g1, g2, nd, rg, by omega, hz, fun z => absurd rfl (hfs z).1, h2, f2⟩
      | cons r0 rs0 =>
        obtain ⟨rs, hrs⟩ : ∃ rs, rs = r0 :: rs0 := ⟨_, rfl⟩
        rw [← hrs] at g1 nd rg hz lr
        have hpos : 0 < rs.length := by rw [hrs]; simp
        have hpos' : (0 : Int) < (rs.length : Nat) := by omega
        simp [lr, hpos, lst_loc g1, lst_loc g2]
        refine (s_draw h2 (by omega) (by omega)).ws fun d S3 ⟨⟨v, hd, v0, v1⟩, h3, f3⟩ => ?_
        subst hd
        have g13 := f3.get (show S.length ≠ s by omega) g1
        have g23 := f3.get (show S1.length ≠ s by omega) g2
        have hvl : v.toNat < rs.length := by omega
        rw [pop_loc g13 v0 (by rw [List.length_map]; exact v1) (d := .int rs[v.toNat]) (by rw [List.getElem?_map, List.getElem?_eq_getElem hvl]; rfl) (by rw [List.length_map]; omega)]
        simp only [R.toS_ok]
        have g24 : (S3.set S.length (.lst ((rs.map D.int).eraseIdx v.toNat)))[S1.length]? = some (.lst (fs.map .int)) := by rw [List.getElem?_set_ne (by omega)]; exact g23
        have hl3 : S.length < S3.length := (List.getElem?_eq_some_iff.mp g13).1
        have hl13 : S1.length < S3.length := (List.getElem?_eq_some_iff.mp g23).1
        rw [app_loc g24 (by rw [List.length_map]; simp only [sizeLine]; omega)]
        have perm : (fs ++ rs).Perm ((fs ++ [rs[v.toNat]]) ++ rs.eraseIdx v.toNat) := by
          rw [List.append_assoc]
          refine List.Perm.append_left fs ?_
          exact perm_erase rs v.toNat hvl
        refine B.nx _ _ ⟨_, fs ++ [rs[v.toNat]], rs.eraseIdx v.toNat, rfl, ?_, ?_, perm.nodup_iff.mp nd, fun u hu => rg u (perm.mem_iff.mpr hu), by simp; omega, by rw [List.length_eraseIdx]; split <;> omega, (fun z => by simp at z), ?_, ?_⟩
        · rw [List.getElem?_set_ne (by omega), List.getElem?_set_self hl3, map_erase]
        · rw [List.getElem?_set_self (by rw [List.length_set]; exact hl13)]
          simp
        · exact (h3.set (by omega) (by omega)).set (by omega) (by omega)
        · exact (((f2.trans f3).set fun z => absurd z (Nat.lt_irrefl _)).set fun z => absurd z (by omega))
    · rintro ρ S2 ⟨x, fs, rs, rfl, g1, g2, nd, rg, hc, hz, hfs, h2, f2⟩
      refine ⟨trivial, ?_⟩
      simp [tup_loc g2]
      simp at hc
      exact hr _ _ ⟨⟨fs, rfl, (List.nodup_append.mp nd).1, fun v hv => rg v (List.mem_append_left _ hv), by omega, fun hc1 z => by have := (hfs z).2; simp at this; omega⟩, h2, f2⟩
end
end K56

namespace K56
open PySem L2 DS Fd
theorem ix_mem {S : Sto} {n : Nat} {ds : List D} {i : Int} (h : S[n]? = some (.lst ds)) (h0 : 0 ≤ i) (h1 : i < (ds.length : Nat)) : ∃ d ∈ ds, gIx (.loc n) (.int i) S = .ok d S := by
  have hl : i.toNat < ds.length := by omega
  exact ⟨ds[i.toNat], List.getElem_mem hl, DS.ix_seq (seq_loc h) (DS.atI_of h0 (List.getElem?_eq_getElem hl))⟩
section
variable {s c : Nat} {ns : List Int} {S : Sto}
structure CM (s c : Nat) (ns : List Int) (S0 : Sto) (many pick : Int) (vs : List Int) (ρ : En) (S : Sto) : Prop where
  ex : ∃ (fl : Nat) (fs : List Int) (b : Int), ρ = [some (.loc s), some (.int many), some (.int pick), some (.tup (vs.map .int)), some (.loc fl), some (.int b), none, none] ∧ S[fl]? = some (.lst (fs.map .int)) ∧ fs.length = 6 ∧ (∀ f ∈ fs, f ≠ 0 ∧ -20 ≤ f ∧ f ≤ 20) ∧ s < fl ∧ -10000 ≤ b ∧ b ≤ 10000
  ok : StOk s c ns S
  fx : Fx (At s) S0 S
theorem s_constraint {many : Int} (h : StOk s c ns S) (m0 : 1 ≤ many) (m1 : many ≤ 12) :
    Ev (f__law_constraint [.loc s, .int many] S) fun r S' => (∃ k, r = dCon k ∧ WC many k) ∧ StOk s c ns S' ∧ Fx (At s) S S' := by
  unfold f__law_constraint f__law_constraint_body
  refine ev_runK fun K hr _ => ?_
  simp
  refine (s_draw h (by omega) (by omega)).ws fun d S1 ⟨⟨pick, hd, p0, p1⟩, h1, f1⟩ => ?_
  subst hd
  try simp
  by_cases e5 : pick < 5
  case neg =>
    simp [e5]
    by_cases e6 : pick = 5
    · simp [e6]
      refine (s_draw h1 (by omega) (by omega)).ws fun d S2 ⟨⟨x, hd, x0, x1⟩, h2, f2⟩ => ?_
      subst hd
      refine (s_draw h2 (by omega) (by omega)).ws fun d S3 ⟨⟨y, hd, y0, y1⟩, h3, f3⟩ => ?_
      subst hd
      try simp
      refine (s_draw h3 (by omega) (by omega)).ws fun d S4 ⟨⟨z, hd, z0, z1⟩, h4, f4⟩ => ?_
      subst hd
      try simp
      exact hr _ _ ⟨⟨.times x y z, rfl, ⟨x0, x1⟩, ⟨y0, y1⟩, z0, z1⟩, h4, ((f1.trans f2).trans f3).trans f4⟩
    · simp [e6]
      refine (s_draw h1 (by omega) (by omega)).ws fun d S2 ⟨⟨x, hd, x0, x1⟩, h2, f2⟩ => ?_
      subst hd
      try simp
      refine (s_some h2 (by omega) (by omega) (by omega) (by omega)).ws fun d S3 ⟨⟨vs, hd, v1, v2, v3, v4⟩, h3, f3⟩ => ?_
      subst hd
      have hl : 1 ≤ vs.length := by
        have := v4 (by omega)
        cases vs with
        | nil => exact absurd rfl this
        | cons => simp
      exact hr _ _ ⟨⟨.dist vs, rfl, hl, by omega, v1, v2⟩, h3, (f1.trans f2).trans f3⟩
  simp [e5]
  have hs1 := h1.lt
  refine (s_draw (h1.pu Fx.one) (by omega) (by omega)).ws fun d S2 ⟨⟨v, hd, v0, v1⟩, h2, f2⟩ => ?_
  subst hd
  have g2 := f2.get (show S1.length ≠ s by omega) get_end
  obtain ⟨dm, hdm, hix⟩ := ix_mem g2 v0 (by simpa using v1)
  have hdi : ∃ w : Int, dm = .int w ∧ 4 ≤ w ∧ w ≤ 7 := by
    simp at hdm
    rcases hdm with rfl | rfl
    · exact ⟨4, rfl, by omega, by omega⟩
    · exact ⟨7, rfl, by omega, by omega⟩
  obtain ⟨w, rfl, w0, w1⟩ := hdi
  simp [hix]
  refine (s_draw h2 (by omega) (by omega)).ws fun d S3 ⟨⟨cnt, hd, c0, c1⟩, h3, f3⟩ => ?_
  subst hd
  try simp
  refine (s_some h3 (by omega) (by omega) (by omega) (by omega)).ws fun d S4 ⟨⟨vs, hd, nd, rg, hlen, _⟩, h4, f4⟩ => ?_
  subst hd
  have F4 : Fx (At s) S S4 := (((f1.trans Fx.one).trans f2).trans f3).trans f4
  simp
  have h5 := h4.pu (Fx.one (o := .lst [.int 1, .int (-1), .int 2, .int (-3), .int 1, .int (-1)]))
  have hs4 := h4.lt
  refine (s_draw h5 (by omega) (by omega)).ws fun d S6 ⟨⟨b1, hd, b10, b11⟩, h6, f6⟩ => ?_
  subst hd
  have gf6 := f6.get (show S4.length ≠ s by omega) get_end
  have F6 : Fx (At s) S S6 := (F4.push).trans f6
  simp
  refine (s_draw h6 (by omega) (by omega)).ws fun d S7 ⟨⟨b2, hd, b20, b21⟩, h7, f7⟩ => ?_
  subst hd
  have gf7 := f7.get (show S4.length ≠ s by omega) gf6
  have F7 := F6.trans f7
  simp
  have hs7 := h7.lt
  refine (s_draw (h7.pu Fx.one) (by omega) (by omega)).ws fun d S8 ⟨⟨b3, hd, b30, b31⟩, h8, f8⟩ => ?_
  subst hd
  have gb8 := f8.get (show S7.length ≠ s by omega) get_end
  have gf8 := f8.get (show S4.length ≠ s by omega) ((Fx.one (M := Pu)).get id gf7)
  have F8 : Fx (At s) S S8 := (F7.push).trans f8
  obtain ⟨db, hdb, hixb⟩ := ix_mem (i := if b3 = 0 then 1 else 0) gb8 (by split <;> omega) (by split <;> simp)
  have hdbi : ∃ b : Int, db = .int b ∧ -10000 ≤ b ∧ b ≤ 10000 := by
    simp at hdb
    rcases hdb with rfl | rfl
    · exact ⟨_, rfl, by omega, by omega⟩
    · exact ⟨_, rfl, by omega, by omega⟩
  obtain ⟨b, rfl, bb0, bb1⟩ := hdbi
  have hixb' : gIx (.loc S7.length) (.int (if decide (b3 = 0) = true then 1 else 0)) S8 = .ok (.int b) S8 := by simpa using hixb
  simp [hixb, hixb']
  have six : ∀ (l : List Int), l = [1, -1, 2, -3, 1, -1] ∨ l = [3, -2, 5, -5, 11, -17] ∨ l = [20, -20, 7, -13, 19, 1] → l.length = 6 ∧ ∀ f ∈ l, f ≠ 0 ∧ -20 ≤ f ∧ f ≤ 20 := by
    rintro l (rfl | rfl | rfl) <;> decide
  refine (s_draw h8 (by omega) (by omega)).ws fun d S9 ⟨⟨q1, hd, q10, q11⟩, h9, f9⟩ => ?_
  subst hd
  have gf9 := f9.get (show S4.length ≠ s by omega) gf8
  have F9 := F8.trans f9
  have hs9 := h9.lt
  have l4 : S4.length < S9.length := (List.getElem?_eq_some_iff.mp gf9).1
  simp
  refine ws_midR (CM s c ns S many pick vs) (fun K1 hK => ?_) ?_
  · by_cases e : q1 = 0
    · simp [e]
      have := six [3, -2, 5, -5, 11, -17] (.inr (.inl rfl))
      exact hK _ _ ⟨⟨S9.length, [3, -2, 5, -5, 11, -17], b, rfl, get_end, this.1, this.2, by omega, bb0, bb1⟩, h9.pu Fx.one, F9.push⟩
    · simp [e]
      have := six [1, -1, 2, -3, 1, -1] (.inl rfl)
      exact hK _ _ ⟨⟨S4.length, [1, -1, 2, -3, 1, -1], b, rfl, gf9, this.1, this.2, by omega, bb0, bb1⟩, h9, F9⟩
  rintro ρ1 S10 ⟨⟨fl, fs, b, rfl, gfl, l6, hfs, hsf, bb0, bb1⟩, h10, F10⟩
  simp
  refine (s_draw h10 (by omega) (by omega)).ws fun d S11 ⟨⟨q2, hd, q20, q21⟩, h11, f11⟩ => ?_
  subst hd
  have F11 := F10.trans f11
  have hs11 := h11.lt
  simp
  refine ws_midR (CM s c ns S many pick vs) (fun K1 hK => ?_) ?_
  · by_cases e : q2 = 0
    · simp [e]
      refine (s_draw (h11.pu Fx.one) (by omega) (by omega)).ws fun d S12 ⟨⟨q3, hd, q30, q31⟩, h12, f12⟩ => ?_
      subst hd
      try simp
      have := six [20, -20, 7, -13, 19, 1] (.inr (.inr rfl))
      exact hK _ _ ⟨⟨S11.length, [20, -20, 7, -13, 19, 1], q3 - 10000, rfl, f12.get (show S11.length ≠ s by omega) get_end, this.1, this.2, by omega, by omega, by omega⟩, h12, (F11.push).trans f12⟩
    · simp [e]
      exact hK _ _ ⟨⟨fl, fs, b, rfl, f11.get (show fl ≠ s by omega) gfl, l6, hfs, hsf, bb0, bb1⟩, h11, F11⟩
  rintro ρ1 S12 ⟨⟨fl, fs, b, rfl, gfl, l6, hfs, hsf, bb0, bb1⟩, h12, F12⟩
  simp
  have hs12 := h12.lt
  have hfl : fl < S12.length := (List.getElem?_eq_some_iff.mp gfl).1
  refine Ev.ws (ev_comp (P := fun d S' => d = .loc S12.length ∧ ∃ sums : List (Int × Int), S'[S12.length]? = some (.lst (sums.map dP)) ∧ sums.map (·.2) = vs ∧ (∀ p ∈ sums, p.1 ≠ 0 ∧ -20 ≤ p.1 ∧ p.1 ≤ 20) ∧ StOk s c ns S' ∧ Fx (At s) S S')
    (fun ds acc S' => ∃ (rem dn : List Int) (sums : List (Int × Int)), ds = rem.map .int ∧ acc = sums.map dP ∧ vs = dn ++ rem ∧ sums.map (·.2) = dn ∧ (∀ p ∈ sums, p.1 ≠ 0 ∧ -20 ≤ p.1 ∧ p.1 ≤ 20) ∧ StOk s c ns S' ∧ S'[fl]? = some (.lst (fs.map .int)) ∧ S12.length < S'.length ∧ Fx (At s) S S')
    get_end ⟨vs, [], [], rfl, rfl, rfl, rfl, (fun p hp => nomatch hp), h12.pu Fx.one, (Fx.one (M := Pu)).get id gfl, by simp, F12.push⟩ ?_ ?_) ?_
  · rintro d ds acc S' ⟨rem, dn, sums, r1, r2, r3, r4, r5, r6, r7, r8, r9⟩ hacc
    cases rem with
    | nil => cases r1
    | cons v rem =>
      cases r1
      refine ⟨trivial, _, rfl, ?_⟩
      unfold _law_constraint_e1
      simp only [j_tYes, ev_ok, if_pos]
      have key : Ev (eTup (aCons (e2 gIx (eVar 4) (eCall f__law_draw [] (aCons (eVar 0) (aCons (eC (.int 6)) (aNil))))) (aCons (eVar 7) (aNil))) [some (.loc s), some (.int many), some (.int pick), some (.tup (vs.map .int)), some (.loc fl), some (.int b), none, some (.int v)] S')
          fun y S2 => ∃ f, y = dP (f, v) ∧ (f ≠ 0 ∧ -20 ≤ f ∧ f ≤ 20) ∧ StOk s c ns S2 ∧ Fx (At s) S' S2 := by
        simp [R.bind_assoc]
        refine (s_draw r6 (by omega) (by omega)).bind fun d S2 ⟨⟨q, hd, u0, u1⟩, h2, f2⟩ => ?_
        subst hd
        have g7 := f2.get (show fl ≠ s by omega) r7
        obtain ⟨df, hdf, hixf⟩ := ix_mem g7 u0 (by rw [List.length_map, l6]; exact u1)
        obtain ⟨f, hf, rfl⟩ := List.mem_map.mp hdf
        simp [hixf]
        exact ⟨f, rfl, hfs f hf, h2, f2⟩
      refine key.imp fun y S2 ⟨f, hy, hf, h2, f2⟩ => ?_
      have hlen2 : sums.length ≤ 12 := by
        have a1 := congrArg List.length r4
        have a2 := congrArg List.length r3
        rw [List.length_map] at a1
        simp at a2
        omega
      refine ⟨f2.get (show S12.length ≠ s by omega) hacc, by rw [r2, List.length_map]; simp only [sizeLine]; omega, rem, dn ++ [v], sums ++ [(f, v)], rfl, by rw [r2, hy]; simp, by rw [r3]; simp, by rw [List.map_append, r4]; rfl, fun p hp => ?_, h2.set (by omega) (by omega), ?_, by rw [List.length_set]; exact Nat.lt_of_lt_of_le r8 f2.1, (r9.trans f2).set fun z => absurd z (by have := F12.1; omega)⟩
      · rcases List.mem_append.mp hp with hp | hp
        · exact r5 p hp
        · rw [List.mem_singleton] at hp; subst hp; exact hf
      · rw [List.getElem?_set_ne (by omega)]
        exact f2.get (show fl ≠ s by omega) r7
  · rintro acc S' ⟨rem, dn, sums, r1, r2, r3, r4, r5, r6, r7, r8, r9⟩ hacc
    have hrem : rem = [] := by cases rem with
      | nil => rfl
      | cons => cases r1
    subst hrem
    rw [List.append_nil] at r3
    exact ⟨trivial, rfl, sums, by rw [hacc, r2], by rw [r4, r3], r5, r6, r9⟩
  · rintro d S13 ⟨hd, sums, g1, g2, g3, g4, g5⟩
    subst hd
    simp [tup_loc g1]
    have hsl : sums.length ≤ 6 := by
      have := congrArg List.length g2
      rw [List.length_map] at this
      omega
    have fin : ∀ w : W3, WC many (.sum w sums b) := fun w => ⟨hsl, fun p hp => ⟨(g3 p hp).1, (g3 p hp).2.1, (g3 p hp).2.2, rg p.2 (by rw [← g2]; exact List.mem_map.mpr ⟨p, hp, rfl⟩)⟩, by rw [g2]; exact nd, bb0, bb1⟩
    have hw5 : (S13 ++ [Ob.lst [.str "le", .str "eq", .str "ne", .str "eq", .str "ne"]])[S13.length]? = some (.lst [.str "le", .str "eq", .str "ne", .str "eq", .str "ne"]) := get_end
    obtain ⟨dw, hdw, hixw⟩ := ix_mem hw5 p0 (by simpa using e5)
    have hW : ∃ w : W3, dw = .str w.s := by
      simp at hdw
      rcases hdw with rfl | rfl | rfl | rfl | rfl
      · exact ⟨.le, rfl⟩
      · exact ⟨.eq, rfl⟩
      · exact ⟨.ne, rfl⟩
      · exact ⟨.eq, rfl⟩
      · exact ⟨.ne, rfl⟩
    obtain ⟨w, rfl⟩ := hW
    simp [hixw]
    exact hr _ _ ⟨⟨.sum w sums b, rfl, fin w⟩, g4.pu Fx.one, g5.push⟩
end
end K56

namespace K56
open PySem L2 DS Fd
theorem doms_of : ∀ ys : List D, (∀ y ∈ ys, ∃ d, y = dDom d ∧ WD d) → ∃ doms : List Dom, ys = doms.map dDom ∧ ∀ d ∈ doms, WD d
  | [], _ => ⟨[], rfl, (fun d hd => nomatch hd)⟩
  | y :: ys, h => by
    obtain ⟨d, rfl, hd⟩ := h y List.mem_cons_self
    obtain ⟨doms, rfl, hw⟩ := doms_of ys fun z hz => h z (List.mem_cons_of_mem _ hz)
    exact ⟨d :: doms, rfl, fun e he => (List.mem_cons.mp he).elim (fun z => z ▸ hd) (hw e)⟩
section
variable {s c : Nat} {ns : List Int} {S : Sto}
theorem s_problem (h : StOk s c ns S) :
    Ev (f__law_problem [.loc s, .int 5, .int 5] S) fun r S' => ∃ (p dl cl : Nat) (doms : List Dom), r = .loc p ∧ S'[p]? = some (.lst [.loc dl, .loc cl]) ∧ S'[dl]? = some (.lst (doms.map dDom)) ∧ (∀ d ∈ doms, WD d) ∧ 1 ≤ doms.length ∧ doms.length ≤ 12 ∧ s < dl ∧ StOk s c ns S' := by
  unfold f__law_problem f__law_problem_body
  refine ev_runK fun K hr _ => ?_
  simp
  refine (s_draw h (by omega) (by omega)).ws fun d S1 ⟨⟨m, hd, a0, a1⟩, h1, f1⟩ => ?_
  subst hd
  try simp
  refine (s_draw h1 (by omega) (by omega)).ws fun d S2 ⟨⟨pick, hd, p0, p1⟩, h2, f2⟩ => ?_
  subst hd
  try simp
  refine ws_midR (fun ρ1 S3 => ∃ widest many : Int, ρ1 = [some (.loc s), some (.int 5), some (.int widest), some (.int many), some (.int pick), none, none] ∧ 1 ≤ widest ∧ widest ≤ 101 ∧ 1 ≤ many ∧ many ≤ 8 ∧ StOk s c ns S3) (fun K1 hK => ?_) ?_
  · by_cases e : pick = 0
    · simp [e]
      refine (s_draw h2 (by omega) (by omega)).ws fun d S3 ⟨⟨v, hd, b0, b1⟩, h3, f3⟩ => ?_
      subst hd
      try simp
      exact hK _ _ ⟨2, 5 + v, by rw [e], by omega, by omega, by omega, by omega, h3⟩
    · simp [e]
      exact hK _ _ ⟨5, 1 + m, rfl, by omega, by omega, by omega, by omega, h2⟩
  rintro ρ1 S3 ⟨widest, many, rfl, w0, w1, m0, m1, h3⟩
  simp
  refine ws_midR (fun ρ1 S3 => ∃ widest many : Int, ρ1 = [some (.loc s), some (.int 5), some (.int widest), some (.int many), some (.int pick), none, none] ∧ 1 ≤ widest ∧ widest ≤ 101 ∧ 1 ≤ many ∧ many ≤ 8 ∧ StOk s c ns S3) (fun K1 hK => ?_) ?_
  · by_cases e : pick = 1
    · simp [e]
      refine (s_draw h3 (by omega) (by omega)).ws fun d S4 ⟨⟨v, hd, b0, b1⟩, h4, f4⟩ => ?_
      subst hd
      try simp
      have hs4 := h4.lt
      refine (s_draw (h4.pu Fx.one) (by omega) (by omega)).ws fun d S5 ⟨⟨u, hd, c0, c1⟩, h5, f5⟩ => ?_
      subst hd
      have g5 := f5.get (show S4.length ≠ s by omega) get_end
      obtain ⟨dw, hdw, hix⟩ := ix_mem g5 c0 (by simpa using c1)
      have hW : ∃ w : Int, dw = .int w ∧ 1 ≤ w ∧ w ≤ 101 := by
        simp at hdw
        rcases hdw with rfl | rfl | rfl | rfl <;> exact ⟨_, rfl, by omega, by omega⟩
      obtain ⟨w, rfl, w0, w1⟩ := hW
      simp [hix]
      exact hK _ _ ⟨w, 1 + v, by rw [e], by omega, by omega, by omega, by omega, h5⟩
    · simp [e]
      exact hK _ _ ⟨widest, many, rfl, w0, w1, m0, m1, h3⟩
  rintro ρ1 S4 ⟨widest, many, rfl, w0, w1, m0, m1, h4⟩
  simp
  rw [rg1_of (by omega) (by omega)]
  simp only [R.toS_ok]
  have hs4 := h4.lt
  refine ws_compS (fun y => ∃ d, y = dDom d ∧ WD d) h4 (fun _ _ => trivial) (by rw [List.length_map, List.length_range]; simp only [sizeLine]; omega) ?_ ?_
  · intro d hd S5 h5 f5
    refine ⟨_, rfl, ?_⟩
    unfold _law_problem_e1
    simp
    exact s_small h5 w0 w1
  intro S5 ys h5 f5 g5 l5 hy
  obtain ⟨doms, rfl, hw⟩ := doms_of ys hy
  rw [List.length_map, List.length_map, List.length_range] at l5
  simp
  have hs5 := h5.lt
  have l45 : S4.length < S5.length := (List.getElem?_eq_some_iff.mp g5).1
  refine (s_draw (h5.pu Fx.one) (by omega) (by omega)).ws fun d S6 ⟨⟨v, hd, b0, b1⟩, h6, f6⟩ => ?_
  subst hd
  have g6 := f6.get (show S4.length ≠ s by omega) ((Fx.one (M := Pu)).get id g5)
  have gl6 := f6.get (show S5.length ≠ s by omega) get_end
  obtain ⟨dn, hdn, hix⟩ := ix_mem gl6 b0 (by simpa using b1)
  have hN : ∃ w : Int, dn = .int w ∧ 5 ≤ w ∧ w ≤ 8 := by
    simp at hdn
    rcases hdn with rfl | rfl <;> exact ⟨_, rfl, by omega, by omega⟩
  obtain ⟨w, rfl, n0, n1⟩ := hN
  simp [hix]
  refine (s_draw h6 (by omega) (by omega)).ws fun d S7 ⟨⟨u, hd, c0, c1⟩, h7, f7⟩ => ?_
  subst hd
  have g7 := f7.get (show S4.length ≠ s by omega) g6
  rw [rg1_of (by omega) (by omega)]
  simp only [R.toS_ok]
  refine ws_compS (fun _ => True) h7 (fun _ _ => trivial) (by rw [List.length_map, List.length_range]; simp only [sizeLine]; omega) ?_ ?_
  · intro d hd S8 h8 f8
    refine ⟨_, rfl, ?_⟩
    unfold _law_problem_e2
    simp
    exact (s_constraint h8 m0 (by omega)).imp fun y S9 ⟨_, h9, f9⟩ => ⟨h9, f9⟩
  intro S8 zs h8 f8 g8 l8 _
  try simp
  have g88 := f8.get (show S4.length ≠ s by omega) g7
  exact hr _ _ ⟨_, _, _, doms, rfl, get_end, (Fx.one (M := Pu)).get id g88, hw, by omega, by omega, by omega, h8.pu Fx.one⟩
end
theorem law_true (ns : List Int) (hns : ns.length ≤ 63) : ∃ S', f_law [.rls (ns.map D.int)] [] = .ok (.bl true) S' := by
  have key : Ev (f_law [.rls (ns.map D.int)] []) fun d _ => d = .bl true := by
    unfold f_law f_law_body
    refine ev_runK fun K hr _ => ?_
    simp
    refine (s_stream ns).ws fun d S1 ⟨hd, h1, _⟩ => ?_
    subst hd
    try simp
    refine (s_problem h1).ws fun d S2 ⟨p, dl, cl, doms, hd, e1, e2, hw, l0, l1, hdl, h2⟩ => ?_
    subst hd
    try simp [ix_l0 e1]
    rw [rg1_of (by omega) (by omega)]
    simp only [R.toS_ok]
    refine ws_forK (enc := fun k : Nat => D.int (k : Nat)) (fun rem ρ S' => ∃ x4 x5 x6 x7 x8 x9 x10 : Option D, ρ = [some (.rls (ns.map .int)), some (.loc 1), some (.loc p), some (.loc dl), x4, x5, x6, x7, x8, x9, x10] ∧ StOk 1 0 ns S' ∧ S'[dl]? = some (.lst (doms.map dDom)))
      ⟨_, _, _, _, _, _, _, rfl, h2, e2⟩ ?_ ?_
    · rintro k rem ρ S3 ⟨x4, x5, x6, x7, x8, x9, x10, rfl, h3, g3⟩
      refine ⟨trivial, _, rfl, fun K2 B => ?_⟩
      unfold law_b1
      have ln := len_loc g3
      rw [List.length_map] at ln
      simp [ln]
      refine (s_constraint h3 (by omega) (by omega)).ws fun d S4 ⟨⟨con, hd, wc⟩, h4, f4⟩ => ?_
      subst hd
      have g4 := f4.get (show dl ≠ 1 by omega) g3
      simp [it_loc g4]
      refine ws_compR (enc := dDom) (fun _ => true) vals (fun S' f => f.get id g4) (by simp only [sizeLine]; omega) ?_ ?_
      · intro d hd S5 f5 hl5
        refine ⟨_, rfl, ?_⟩
        simp
        unfold law_e1
        simp
        exact (s_law_values (hw d hd) S5).imp fun y S6 ⟨q1, q2, q3⟩ => ⟨_, q1, by omega, q2, q3⟩
      intro S5 rl f5 e5 r5
      rw [List.filter_eq_self.mpr fun _ _ => rfl] at r5
      have g5 := f5.get id g4
      have h5 := h4.pu f5
      have ln5 := len_loc g5
      rw [List.length_map] at ln5
      have hs5 := h5.lt
      have hs4 := h4.lt
      simp [ln5]
      refine (s_draw h5 (by omega) (by omega)).ws fun d S6 ⟨⟨var, hd, v0, v1⟩, h6, f6⟩ => ?_
      subst hd
      have g6 := f6.get (show dl ≠ 1 by omega) g5
      have e6 := f6.get (show S4.length ≠ 1 by omega) e5
      have r6 := Rows.at_ h5 f6 r5
      obtain ⟨q, q1, q2⟩ := r6.ix e6 v0 v1
      have wv := hw _ (dm_mem v0 v1)
      have lq := len_loc q2
      rw [List.length_map] at lq
      have hvl := wv.vlen
      simp [q1, lq]
      by_cases hemp : vals (dm doms var) = []
      · simp [hemp]
        exact B.cnt _ _ ⟨_, _, _, _, _, _, _, rfl, h6, g6⟩
      have hpos : 0 < (vals (dm doms var)).length := by
        cases e : vals (dm doms var) with
        | nil => exact absurd e hemp
        | cons => simp
      simp [hemp, q1, lq]
      refine (s_draw h6 (by omega) (by omega)).ws fun d S7 ⟨⟨u, hd, u0, u1⟩, h7, f7⟩ => ?_
      subst hd
      have q7 := f7.get (h6.ne_ints q2) q2
      have hul : u.toNat < (vals (dm doms var)).length := by omega
      have hixv : gIx (.loc q) (.int u) S7 = .ok (.int (vals (dm doms var))[u.toNat]) S7 := DS.ix_seq (seq_loc q7) (DS.atI_of u0 (by rw [List.getElem?_map, List.getElem?_eq_getElem hul]; rfl))
      have hvm : (vals (dm doms var))[u.toNat] ∈ vals (dm doms var) := List.getElem_mem hul
      generalize (vals (dm doms var))[u.toNat] = value at hixv hvm
      have hvr := wv.vrg hvm
      have g7 := f7.get (show dl ≠ 1 by omega) g6
      have e7 := f7.get (show S4.length ≠ 1 by omega) e6
      have r7 := Rows.at_ h6 f7 r6
      simp [hixv, lis_loc g7]
      have g8 : (S7 ++ [Ob.lst (doms.map dDom)])[S7.length]? = some (.lst (doms.map dDom)) := get_end
      refine (s_allows g8 hw l1 wc v0 v1 hvr.1 hvr.2).ws fun d S9 ⟨⟨b1, hd, hb1⟩, f9⟩ => ?_
      subst hd
      have F9 : Fx Pu S7 S9 := (Fx.one (M := Pu)).trans f9
      simp
      refine (s_law_allows (F9.get id e7) (r7.fx F9) hw wc v0 v1 hvr.1 hvr.2).ws fun d S10 ⟨⟨b2, hd, hb2⟩, f10⟩ => ?_
      subst hd
      have hbb : b1 = b2 := by
        have := hb1.trans hb2.symm
        cases b1 <;> cases b2 <;> simp_all
      subst hbb
      have F10 := F9.trans f10
      have g10 := F10.get id g7
      have g10' := (f9.trans f10).get id g8
      simp [ne_doms g10' g10]
      exact B.nx _ _ ⟨_, _, _, _, _, _, _, rfl, h7.pu F10, g10⟩
    · rintro ρ S3 ⟨x4, x5, x6, x7, x8, x9, x10, rfl, h3, g3⟩
      refine ⟨trivial, ?_⟩
      simp
      exact hr _ _ rfl
  obtain ⟨d, S', e, rfl⟩ := key.ok
  exact ⟨S', e⟩
end K56

/-! K56W: printed by gen.py: the walks -/
namespace K56
open PySem L2 DS PyProof.Rows
section
variable {P : Program} {w : World} {K : PySem.W.Frag} {mg : Str → Option Value} {base : Heap}
theorem ok_is_value (V : Nv fa fn K mg) : Fok P w K mg base (cn K) 1 (He.ga K "is_value") ["value"] 1 [] f_is_value := by
  exact fok (x := "is_value") (qual := "is_value") (params := defArgs st_is_value) (bd := defBody st_is_value) (scope := defScope st_is_value) (V.c.def_ 0) sc_is_value rfl rfl (fun _ _ _ _ _ _ us hl => match us, hl with | [_], _ => rfl) fun cdv A outer s H E G =>
    dss_one (ds_ret (de_and (de_callB call_isi imp_isi (by rfl) (V.free 1) bt_isinstance (da_cons (de_var 0) (da_cons (de_ty (by rfl) (V.free 0) bt_int) (da_nil)))) (de_and (de_not (de_callB call_isi imp_isi (by rfl) (V.free 1) bt_isinstance (da_cons (de_var 0) (da_cons (de_ty (by rfl) (V.free 2) bt_bool) (da_nil))))) (de_one (de_chain op_le imp_le op_le imp_le (de_un un_neg imp_neg (de_gint (by rfl) (V.int 3))) (de_var 0) (de_gint (by rfl) (V.int 3)))))))
theorem ok_values (V : Nv fa fn K mg) : Fok P w K mg base (cn K) 1 (He.ga K "values") ["given"] 1 [] f_values := by
  exact fok (x := "values") (qual := "values") (params := defArgs st_values) (bd := defBody st_values) (scope := defScope st_values) (V.c.def_ 1) sc_values rfl rfl (fun _ _ _ _ _ _ us hl => match us, hl with | [_], _ => rfl) fun cdv A outer s H E G =>
    dss_cons (ds_set 1 G.nd (de_lst (da_nil))) (dss_cons (ds_for G.own G.calm (di_seq (de_var 0)) (dg_tup (is := [2, 3]) G.calm (pgs_cons (pg_name (i := 2) G.nd (by rfl) (by first | exact Or.inl rfl | exact Or.inr rfl)) (pgs_cons (pg_name (i := 3) G.nd (by rfl) (by first | exact Or.inl rfl | exact Or.inr rfl)) (pgs_nil)))) (dss_one (ds_expr (de_bm PySem.F.slot_list_extend rfl mt_extend imp_ext (de_var 1) (da_cons (de_rgL2 G (by rfl) (V.free 4) (by rfl) (V.free 5) (de_var 2) (de_op op_addA imp_add (de_var 3) (de_int))) (da_nil)))))) (dss_one (ds_ret (de_var 1))))
theorem ok_is_interval (V : Nv fa fn K mg) : Fok P w K mg base (cn K) 2 (He.ga K "is_interval") ["value"] 1 [] f_is_interval := by
  have h_is_value := ok_is_value (P := P) (w := w) (base := base) V
  exact fok (x := "is_interval") (qual := "is_interval") (params := defArgs st_is_interval) (bd := defBody st_is_interval) (scope := defScope st_is_interval) (V.c.def_ 2) sc_is_interval rfl rfl (fun _ _ _ _ _ _ us hl => match us, hl with | [_], _ => rfl) fun cdv A outer s H E G =>
    dss_cons (ds_if (dt_w (dw_or (dt_not (dt_tr (de_callB call_isi imp_isi (by rfl) (V.free 1) bt_isinstance (da_cons (de_var 0) (da_cons (de_ty (by rfl) (V.free 6) bt_tuple) (da_nil)))))) (dw_or1 (dt_cmp (op_neD G.h64) imp_ne (de_callB call_lenA imp_len (by rfl) (V.free 7) bt_len (da_cons (de_var 0) (da_nil))) (de_int) (nomark _))))) (dss_one (ds_ret (de_bl))) (dss_nil)) (dss_one (ds_ret (de_and (de_callF G h_is_value (by omega) (by rfl) (V.glo 8) (da_cons (de_ix G.h1 (de_var 0) (de_int)) (da_nil))) (de_and (de_callF G h_is_value (by omega) (by rfl) (V.glo 8) (da_cons (de_ix G.h1 (de_var 0) (de_int)) (da_nil))) (de_one (de_cmp op_le imp_le (de_ix G.h1 (de_var 0) (de_int)) (de_ix G.h1 (de_var 0) (de_int)) (nomark _)))))))
theorem ok_is_domain (V : Nv fa fn K mg) : Fok P w K mg base (cn K) 3 (He.ga K "is_domain") ["value"] 1 [] f_is_domain := by
  have h_is_interval := ok_is_interval (P := P) (w := w) (base := base) V
  exact fok (x := "is_domain") (qual := "is_domain") (params := defArgs st_is_domain) (bd := defBody st_is_domain) (scope := defScope st_is_domain) (V.c.def_ 3) sc_is_domain rfl rfl (fun _ _ _ _ _ _ us hl => match us, hl with | [_], _ => rfl) fun cdv A outer s H E G =>
    dss_cons (ds_if (dt_not (dt_tr (de_callB call_isi imp_isi (by rfl) (V.free 1) bt_isinstance (da_cons (de_var 0) (da_cons (de_ty (by rfl) (V.free 6) bt_tuple) (da_nil)))))) (dss_one (ds_ret (de_bl))) (dss_nil)) (dss_cons (ds_for G.own G.calm (di_seq (de_var 0)) (dg_name 1 G.nd) (dss_one (ds_if (dt_not (dt_tr (de_callF G h_is_interval (by omega) (by rfl) (V.glo 9) (da_cons (de_var 1) (da_nil))))) (dss_one (ds_ret (de_bl))) (dss_nil)))) (dss_one (ds_ret (de_callB (cr_all G.calm) imp_all (by rfl) (V.free 11) bt_all (da_cons (de_lc G.calm G.nd (di_zip (by rfl) (V.free 10) (de_var 0) (de_sl (de_var 0) (do_some (de_int)) (do_none))) (blkOk_by (own := [("a", 2), ("b", 3)]) (by kernel_rfl)) (fun _ _ _ _ _ => dg_tup (is := [2, 3]) G.blk.calm (pgs_cons (pg_name (i := 2) G.blk.nd (by rfl) (by first | exact Or.inl rfl | exact Or.inr rfl)) (pgs_cons (pg_name (i := 3) G.blk.nd (by rfl) (by first | exact Or.inl rfl | exact Or.inr rfl)) (pgs_nil)))) (fun _ _ _ _ _ => dts_nil) (fun _ _ _ _ _ => de_cmp op_lt imp_lt (de_op op_addA imp_add (de_ix G.blk.h1 (de_var 2) (de_int)) (de_int)) (de_ix G.blk.h1 (de_var 3) (de_int)) (nomark _))) (da_nil))))))
theorem ok_Matchingu_initu (V : Nv fa fn K mg) : Fok P w K mg base (cn K) 2 (He.ma K (He.ga K "Matching") "__init__") ["self", "given"] 2 [] f_Matchingu_initu := by
  have h_values := ok_values (P := P) (w := w) (base := base) V
  exact fok (x := "__init__") (qual := "Matching.__init__") (params := defArgs st_Matchingu_initu) (bd := defBody st_Matchingu_initu) (scope := defScope st_Matchingu_initu) (V.c.def_ 4) sc_Matchingu_initu rfl rfl (fun _ _ _ _ _ _ us hl => match us, hl with | [_, _], _ => rfl) fun cdv A outer s H E G =>
    dss_cons (ds_fld (cn := cn K) (c := 2) (He.cls_ok (V.c.fact 13)) (He.noat_ok (V.c.fact 14)) (de_var 0) (de_lc G.calm G.nd (di_seq (de_var 1)) (blkOk_by (own := [("row", 2)]) (by kernel_rfl)) (fun _ _ _ _ _ => dg_name 2 G.blk.nd) (fun _ _ _ _ _ => dts_nil) (fun _ _ _ _ _ => de_callF G.blk h_values (by omega) (by rfl) (V.glo 12) (da_cons (de_var 2) (da_nil))))) (dss_one (ds_fld (cn := cn K) (c := 2) (He.cls_ok (V.c.fact 13)) (He.noat_ok (V.c.fact 15)) (de_var 0) (de_dct)))
theorem ok_Matching_place (V : Nv fa fn K mg) : ∀ n : Nat, Fok P w K mg base (cn K) (1 + n) (He.ma K (He.ga K "Matching") "place") ["self", "variable", "met"] 3 [] (f_Matching_place n)
  | 0 => fok_no (x := "place") (qual := "Matching.place") (params := defArgs st_Matching_place) (bd := defBody st_Matching_place) (scope := defScope st_Matching_place) (V.c.def_ 5) rfl (fun _ _ _ _ _ _ us hl => match us, hl with | [_, _, _], _ => rfl)
  | n + 1 => by
    have ih := ok_Matching_place V n
    exact fok (k := 1 + n) (x := "place") (qual := "Matching.place") (params := defArgs st_Matching_place) (bd := defBody st_Matching_place) (scope := defScope st_Matching_place) (V.c.def_ 5) sc_Matching_place rfl rfl (fun _ _ _ _ _ _ us hl => match us, hl with | [_, _, _], _ => rfl) fun cdv A outer s H E G =>
    dss_cons (ds_setItem G.h1 (de_var 2) (de_var 1) (de_bl)) (dss_cons (ds_for G.own G.calm (di_seq (de_ix G.h1 (de_fld (cn := cn K) (c := 2) (He.cls_ok (V.c.fact 13)) (He.noat_ok (V.c.fact 14)) (de_var 0)) (de_var 1))) (dg_name 3 G.nd) (dss_one (ds_if (dt_cmp (op_notInAll G.hu) imp_notIn (de_var 3) (de_fld (cn := cn K) (c := 2) (He.cls_ok (V.c.fact 13)) (He.noat_ok (V.c.fact 15)) (de_var 0)) (by with_unfolding_all rfl)) (dss_cons (ds_setItem G.h1 (de_fld (cn := cn K) (c := 2) (He.cls_ok (V.c.fact 13)) (He.noat_ok (V.c.fact 15)) (de_var 0)) (de_var 3) (de_var 1)) (dss_one (ds_ret (de_bl)))) (dss_nil)))) (dss_cons (ds_for G.own G.calm (di_seq (de_ix G.h1 (de_fld (cn := cn K) (c := 2) (He.cls_ok (V.c.fact 13)) (He.noat_ok (V.c.fact 14)) (de_var 0)) (de_var 1))) (dg_name 3 G.nd) (dss_cons (ds_set 4 G.nd (de_ix G.h1 (de_fld (cn := cn K) (c := 2) (He.cls_ok (V.c.fact 13)) (He.noat_ok (V.c.fact 15)) (de_var 0)) (de_var 3))) (dss_one (ds_if (dt_w (dw_and (dt_cmp (op_notInAll G.hu) imp_notIn (de_var 4) (de_var 2) (by with_unfolding_all rfl)) (dw_and1 (dt_tr (de_methF (cn := cn K) (c := 2) G ih (by omega) (He.cls_ok (V.c.fact 13)) (He.meth_ok (V.c.fact 16)) (de_var 0) (da_cons (de_var 4) (da_cons (de_var 2) (da_nil)))))))) (dss_cons (ds_setItem G.h1 (de_fld (cn := cn K) (c := 2) (He.cls_ok (V.c.fact 13)) (He.noat_ok (V.c.fact 15)) (de_var 0)) (de_var 3) (de_var 1)) (dss_one (ds_ret (de_bl)))) (dss_nil))))) (dss_one (ds_ret (de_bl)))))
theorem ok_Matching_chosen (V : Nv fa fn K mg) : Fok P w K mg base (cn K) 1 (He.ma K (He.ga K "Matching") "chosen") ["self"] 1 [] f_Matching_chosen := by
  exact fok (x := "chosen") (qual := "Matching.chosen") (params := defArgs st_Matching_chosen) (bd := defBody st_Matching_chosen) (scope := defScope st_Matching_chosen) (V.c.def_ 6) sc_Matching_chosen rfl rfl (fun _ _ _ _ _ _ us hl => match us, hl with | [_], _ => rfl) fun cdv A outer s H E G =>
    dss_cons (ds_setLc (i := 1) G.calm G.nd (di_seq (de_fld (cn := cn K) (c := 2) (He.cls_ok (V.c.fact 13)) (He.noat_ok (V.c.fact 14)) (de_var 0))) (blkOk_by (own := [("_", 3)]) (by kernel_rfl)) (fun _ _ _ _ _ => dg_name 3 G.blk.nd) (fun _ _ _ _ _ => dts_nil) (fun _ _ _ _ _ => de_int) (sw_true rfl rfl rfl (by decide +kernel))) (dss_cons (ds_forK G.own G.calm (de_fld (cn := cn K) (c := 2) (He.cls_ok (V.c.fact 13)) (He.noat_ok (V.c.fact 15)) (de_var 0)) (dg_name 2 G.nd) (dss_one (ds_setItem G.h1 (de_var 1) (de_ix G.h1 (de_fld (cn := cn K) (c := 2) (He.cls_ok (V.c.fact 13)) (He.noat_ok (V.c.fact 15)) (de_var 0)) (de_var 2)) (de_var 2)))) (dss_one (ds_ret (de_var 1))))
theorem ok_distinct_values (V : Nv fa fn K mg) : Fok P w K mg base (cn K) 22 (He.ga K "distinct_values") ["given"] 1 [] f_distinct_values := by
  have h_Matchingu_initu := ok_Matchingu_initu (P := P) (w := w) (base := base) V
  have h_Matching_chosen := ok_Matching_chosen (P := P) (w := w) (base := base) V
  have h_Matching_place := ok_Matching_place (P := P) (w := w) (base := base) V 20
  exact fok (x := "distinct_values") (qual := "distinct_values") (params := defArgs st_distinct_values) (bd := defBody st_distinct_values) (scope := defScope st_distinct_values) (V.c.def_ 7) sc_distinct_values rfl rfl (fun _ _ _ _ _ _ us hl => match us, hl with | [_], _ => rfl) fun cdv A outer s H E G =>
    dss_cons (ds_set 1 G.nd (de_makeF (cn := cn K) (c := 2) G h_Matchingu_initu (by omega) (He.mkr_ok (V.c.fact 17)) (by rfl) (V.glo 18) (da_cons (de_var 0) (da_nil)))) (dss_cons (ds_for G.own G.calm (di_rng1 (by rfl) (V.free 5) (de_callB call_lenA imp_len (by rfl) (V.free 7) bt_len (da_cons (de_var 0) (da_nil)))) (dg_name 2 G.nd) (dss_cons (ds_set 3 G.nd (de_dct)) (dss_one (ds_if (dt_not (dt_tr (de_methF (cn := cn K) (c := 2) G h_Matching_place (by omega) (He.cls_ok (V.c.fact 13)) (He.meth_ok (V.c.fact 16)) (de_var 1) (da_cons (de_var 2) (da_cons (de_var 3) (da_nil)))))) (dss_one (ds_ret (de_tup (da_cons (de_non) (da_cons (de_callB (call_sortedA G.calm) imp_sorted (by rfl) (V.free 19) bt_sorted (da_cons (de_var 3) (da_nil))) (da_nil)))))) (dss_nil))))) (dss_one (ds_ret (de_tup (da_cons (de_methF0 (cn := cn K) (c := 2) G h_Matching_chosen (by omega) (He.cls_ok (V.c.fact 13)) (He.meth_ok (V.c.fact 20)) (de_var 1)) (da_cons (de_non) (da_nil)))))))
theorem ok_is_integer_to (V : Nv fa fn K mg) : Fok P w K mg base (cn K) 1 (He.ga K "is_integer_to") ["value", "bound"] 2 [] f_is_integer_to := by
  exact fok (x := "is_integer_to") (qual := "is_integer_to") (params := defArgs st_is_integer_to) (bd := defBody st_is_integer_to) (scope := defScope st_is_integer_to) (V.c.def_ 8) sc_is_integer_to rfl rfl (fun _ _ _ _ _ _ us hl => match us, hl with | [_, _], _ => rfl) fun cdv A outer s H E G =>
    dss_one (ds_ret (de_and (de_callB call_isi imp_isi (by rfl) (V.free 1) bt_isinstance (da_cons (de_var 0) (da_cons (de_ty (by rfl) (V.free 0) bt_int) (da_nil)))) (de_and (de_not (de_callB call_isi imp_isi (by rfl) (V.free 1) bt_isinstance (da_cons (de_var 0) (da_cons (de_ty (by rfl) (V.free 2) bt_bool) (da_nil))))) (de_one (de_chain op_le imp_le op_le imp_le (de_un un_neg imp_neg (de_var 1)) (de_var 0) (de_var 1))))))
theorem ok_are_variables (V : Nv fa fn K mg) : Fok P w K mg base (cn K) 2 (He.ga K "are_variables") ["value", "many"] 2 [] f_are_variables := by
  have h_is_integer_to := ok_is_integer_to (P := P) (w := w) (base := base) V
  exact fok (x := "are_variables") (qual := "are_variables") (params := defArgs st_are_variables) (bd := defBody st_are_variables) (scope := defScope st_are_variables) (V.c.def_ 9) sc_are_variables rfl rfl (fun _ _ _ _ _ _ us hl => match us, hl with | [_, _], _ => rfl) fun cdv A outer s H E G =>
    dss_cons (ds_if (dt_not (dt_tr (de_callB call_isi imp_isi (by rfl) (V.free 1) bt_isinstance (da_cons (de_var 0) (da_cons (de_ty (by rfl) (V.free 6) bt_tuple) (da_nil)))))) (dss_one (ds_ret (de_bl))) (dss_nil)) (dss_cons (ds_for G.own G.calm (di_seq (de_var 0)) (dg_name 2 G.nd) (dss_one (ds_if (dt_w (dw_or (dt_not (dt_tr (de_callF G h_is_integer_to (by omega) (by rfl) (V.glo 21) (da_cons (de_var 2) (da_cons (de_var 1) (da_nil)))))) (dw_or1 (dt_not (dt_chain op_le imp_le op_lt imp_lt (de_int) (de_var 2) (de_var 1)))))) (dss_one (ds_ret (de_bl))) (dss_nil)))) (dss_one (ds_ret (de_cmp (op_eqD G.h64) imp_eq (de_lenSet G.calm (by rfl) (V.free 7) (by rfl) (V.free 22) (de_var 0)) (de_callB call_lenA imp_len (by rfl) (V.free 7) bt_len (da_cons (de_var 0) (da_nil))) (nomark _)))))
theorem ok_are_sums (V : Nv fa fn K mg) : Fok P w K mg base (cn K) 3 (He.ga K "are_sums") ["value", "many"] 2 [] f_are_sums := by
  have h_are_variables := ok_are_variables (P := P) (w := w) (base := base) V
  have h_is_integer_to := ok_is_integer_to (P := P) (w := w) (base := base) V
  exact fok (x := "are_sums") (qual := "are_sums") (params := defArgs st_are_sums) (bd := defBody st_are_sums) (scope := defScope st_are_sums) (V.c.def_ 10) sc_are_sums rfl rfl (fun _ _ _ _ _ _ us hl => match us, hl with | [_, _], _ => rfl) fun cdv A outer s H E G =>
    dss_cons (ds_if (dt_w (dw_or (dt_not (dt_tr (de_callB call_isi imp_isi (by rfl) (V.free 1) bt_isinstance (da_cons (de_var 0) (da_cons (de_ty (by rfl) (V.free 6) bt_tuple) (da_nil)))))) (dw_or1 (dt_cmp op_gt imp_gt (de_callB call_lenA imp_len (by rfl) (V.free 7) bt_len (da_cons (de_var 0) (da_nil))) (de_gint (by rfl) (V.int 23)) (nomark _))))) (dss_one (ds_ret (de_bl))) (dss_nil)) (dss_cons (ds_for G.own G.calm (di_seq (de_var 0)) (dg_name 2 G.nd) (dss_one (ds_if (dt_w (dw_or (dt_not (dt_tr (de_callB call_isi imp_isi (by rfl) (V.free 1) bt_isinstance (da_cons (de_var 2) (da_cons (de_ty (by rfl) (V.free 6) bt_tuple) (da_nil)))))) (dw_or (dt_cmp (op_neD G.h64) imp_ne (de_callB call_lenA imp_len (by rfl) (V.free 7) bt_len (da_cons (de_var 2) (da_nil))) (de_int) (nomark _)) (dw_or (dt_not (dt_tr (de_callF G h_is_integer_to (by omega) (by rfl) (V.glo 21) (da_cons (de_ix G.h1 (de_var 2) (de_int)) (da_cons (de_gint (by rfl) (V.int 24)) (da_nil)))))) (dw_or1 (dt_cmp (op_eqD G.h64) imp_eq (de_ix G.h1 (de_var 2) (de_int)) (de_int) (nomark _))))))) (dss_one (ds_ret (de_bl))) (dss_nil)))) (dss_one (ds_ret (de_callF G h_are_variables (by omega) (by rfl) (V.glo 25) (da_cons (de_callTy call_tuple_of imp_tuple (by rfl) (V.free 6) bt_tuple (da_cons (de_lc G.calm G.nd (di_seq (de_var 0)) (blkOk_by (own := [("row", 2)]) (by kernel_rfl)) (fun _ _ _ _ _ => dg_name 2 G.blk.nd) (fun _ _ _ _ _ => dts_nil) (fun _ _ _ _ _ => de_ix G.blk.h1 (de_var 2) (de_int))) (da_nil))) (da_cons (de_var 1) (da_nil)))))))
theorem ok_is_constraint (V : Nv fa fn K mg) : Fok P w K mg base (cn K) 4 (He.ga K "is_constraint") ["value", "many"] 2 [] f_is_constraint := by
  have h_are_variables := ok_are_variables (P := P) (w := w) (base := base) V
  have h_are_sums := ok_are_sums (P := P) (w := w) (base := base) V
  have h_is_integer_to := ok_is_integer_to (P := P) (w := w) (base := base) V
  exact fok (x := "is_constraint") (qual := "is_constraint") (params := defArgs st_is_constraint) (bd := defBody st_is_constraint) (scope := defScope st_is_constraint) (V.c.def_ 11) sc_is_constraint rfl rfl (fun _ _ _ _ _ _ us hl => match us, hl with | [_, _], _ => rfl) fun cdv A outer s H E G =>
    dss_cons (ds_if (dt_w (dw_or (dt_not (dt_tr (de_callB call_isi imp_isi (by rfl) (V.free 1) bt_isinstance (da_cons (de_var 0) (da_cons (de_ty (by rfl) (V.free 6) bt_tuple) (da_nil)))))) (dw_or1 (dt_cmp op_lt imp_lt (de_callB call_lenA imp_len (by rfl) (V.free 7) bt_len (da_cons (de_var 0) (da_nil))) (de_int) (nomark _))))) (dss_one (ds_ret (de_bl))) (dss_nil)) (dss_cons (ds_if (dt_cmp (op_inAll G.hu) imp_in (de_ix G.h1 (de_var 0) (de_int)) (de_tup (da_cons (de_str) (da_cons (de_str) (da_cons (de_str) (da_nil))))) (by with_unfolding_all rfl)) (dss_one (ds_ret (de_and (de_cmp (op_eqD G.h64) imp_eq (de_callB call_lenA imp_len (by rfl) (V.free 7) bt_len (da_cons (de_var 0) (da_nil))) (de_int) (nomark _)) (de_and (de_callF G h_are_sums (by omega) (by rfl) (V.glo 26) (da_cons (de_ix G.h1 (de_var 0) (de_int)) (da_cons (de_var 1) (da_nil)))) (de_one (de_callF G h_is_integer_to (by omega) (by rfl) (V.glo 21) (da_cons (de_ix G.h1 (de_var 0) (de_int)) (da_cons (de_gint (by rfl) (V.int 27)) (da_nil))))))))) (dss_nil)) (dss_cons (ds_if (dt_cmp (op_eqD G.h64) imp_eq (de_ix G.h1 (de_var 0) (de_int)) (de_str) (nomark _)) (dss_one (ds_ret (de_and (de_cmp (op_eqD G.h64) imp_eq (de_callB call_lenA imp_len (by rfl) (V.free 7) bt_len (da_cons (de_var 0) (da_nil))) (de_int) (nomark _)) (de_one (de_callB (cr_all G.calm) imp_all (by rfl) (V.free 11) bt_all (da_cons (de_lc G.calm G.nd (di_seq (de_sl (de_var 0) (do_some (de_int)) (do_none))) (blkOk_by (own := [("row", 2)]) (by kernel_rfl)) (fun _ _ _ _ _ => dg_name 2 G.blk.nd) (fun _ _ _ _ _ => dts_nil) (fun _ _ _ _ _ => de_callF G.blk h_are_variables (by omega) (by rfl) (V.glo 25) (da_cons (de_tup (da_cons (de_var 2) (da_nil))) (da_cons (de_var 1) (da_nil))))) (da_nil))))))) (dss_nil)) (dss_cons (ds_if (dt_w (dw_or (dt_cmp (op_neD G.h64) imp_ne (de_ix G.h1 (de_var 0) (de_int)) (de_str) (nomark _)) (dw_or1 (dt_cmp (op_neD G.h64) imp_ne (de_callB call_lenA imp_len (by rfl) (V.free 7) bt_len (da_cons (de_var 0) (da_nil))) (de_int) (nomark _))))) (dss_one (ds_ret (de_bl))) (dss_nil)) (dss_one (ds_ret (de_and (de_callF G h_are_variables (by omega) (by rfl) (V.glo 25) (da_cons (de_ix G.h1 (de_var 0) (de_int)) (da_cons (de_var 1) (da_nil)))) (de_one (de_chain op_le imp_le op_le imp_le (de_int) (de_callB call_lenA imp_len (by rfl) (V.free 7) bt_len (da_cons (de_ix G.h1 (de_var 0) (de_int)) (da_nil))) (de_gint (by rfl) (V.int 28))))))))))
theorem ok_check_problem (V : Nv fa fn K mg) : Fok P w K mg base (cn K) 5 (He.ga K "check_problem") ["domains", "constraints"] 2 [] f_check_problem := by
  have h_is_constraint := ok_is_constraint (P := P) (w := w) (base := base) V
  have h_is_domain := ok_is_domain (P := P) (w := w) (base := base) V
  exact fok (x := "check_problem") (qual := "check_problem") (params := defArgs st_check_problem) (bd := defBody st_check_problem) (scope := defScope st_check_problem) (V.c.def_ 12) sc_check_problem rfl rfl (fun _ _ _ _ _ _ us hl => match us, hl with | [_, _], _ => rfl) fun cdv A outer s H E G =>
    dss_cons (ds_if (dt_w (dw_or (dt_cmp op_gt imp_gt (de_callB call_lenA imp_len (by rfl) (V.free 7) bt_len (da_cons (de_var 0) (da_nil))) (de_gint (by rfl) (V.int 28)) (nomark _)) (dw_or1 (dt_not (dt_tr (de_callB (cr_all G.calm) imp_all (by rfl) (V.free 11) bt_all (da_cons (de_lc G.calm G.nd (di_seq (de_var 0)) (blkOk_by (own := [("row", 2)]) (by kernel_rfl)) (fun _ _ _ _ _ => dg_name 2 G.blk.nd) (fun _ _ _ _ _ => dts_nil) (fun _ _ _ _ _ => de_callF G.blk h_is_domain (by omega) (by rfl) (V.glo 29) (da_cons (de_var 2) (da_nil)))) (da_nil)))))))) (dss_one (ds_raiseF (cn := cn K) (c := 1) G (He.exc_ok (V.c.fact 30)) (by rfl) (V.glo 31))) (dss_nil)) (dss_one (ds_if (dt_not (dt_tr (de_callB (cr_all G.calm) imp_all (by rfl) (V.free 11) bt_all (da_cons (de_lc G.calm G.nd (di_seq (de_var 1)) (blkOk_by (own := [("row", 2)]) (by kernel_rfl)) (fun _ _ _ _ _ => dg_name 2 G.blk.nd) (fun _ _ _ _ _ => dts_nil) (fun _ _ _ _ _ => de_callF G.blk h_is_constraint (by omega) (by rfl) (V.glo 32) (da_cons (de_var 2) (da_cons (de_callB call_lenA imp_len (by rfl) (V.free 7) bt_len (da_cons (de_var 0) (da_nil))) (da_nil))))) (da_nil))))) (dss_one (ds_raiseF (cn := cn K) (c := 1) G (He.exc_ok (V.c.fact 30)) (by rfl) (V.glo 31))) (dss_nil)))
theorem ok_variables_of (V : Nv fa fn K mg) : Fok P w K mg base (cn K) 1 (He.ga K "variables_of") ["constraint"] 1 [] f_variables_of := by
  exact fok (x := "variables_of") (qual := "variables_of") (params := defArgs st_variables_of) (bd := defBody st_variables_of) (scope := defScope st_variables_of) (V.c.def_ 13) sc_variables_of rfl rfl (fun _ _ _ _ _ _ us hl => match us, hl with | [_], _ => rfl) fun cdv A outer s H E G =>
    dss_cons (ds_if (dt_cmp (op_eqD G.h64) imp_eq (de_ix G.h1 (de_var 0) (de_int)) (de_str) (nomark _)) (dss_one (ds_ret (de_callTy (call_listA G.calm) imp_list (by rfl) (V.free 4) bt_list (da_cons (de_sl (de_var 0) (do_some (de_int)) (do_none)) (da_nil))))) (dss_nil)) (dss_cons (ds_if (dt_cmp (op_eqD G.h64) imp_eq (de_ix G.h1 (de_var 0) (de_int)) (de_str) (nomark _)) (dss_one (ds_ret (de_callTy (call_listA G.calm) imp_list (by rfl) (V.free 4) bt_list (da_cons (de_ix G.h1 (de_var 0) (de_int)) (da_nil))))) (dss_nil)) (dss_one (ds_ret (de_lc G.calm G.nd (di_seq (de_ix G.h1 (de_var 0) (de_int))) (blkOk_by (own := [("row", 1)]) (by kernel_rfl)) (fun _ _ _ _ _ => dg_name 1 G.blk.nd) (fun _ _ _ _ _ => dts_nil) (fun _ _ _ _ _ => de_ix G.blk.h1 (de_var 1) (de_int))))))
theorem ok_least_sum (V : Nv fa fn K mg) : Fok P w K mg base (cn K) 1 (He.ga K "least_sum") ["domains", "sums", "variable", "value"] 4 [] f_least_sum := by
  exact fok (x := "least_sum") (qual := "least_sum") (params := defArgs st_least_sum) (bd := defBody st_least_sum) (scope := defScope st_least_sum) (V.c.def_ 14) sc_least_sum rfl rfl (fun _ _ _ _ _ _ us hl => match us, hl with | [_, _, _, _], _ => rfl) fun cdv A outer s H E G =>
    dss_cons (ds_set 4 G.nd (de_int)) (dss_cons (ds_for G.own G.calm (di_seq (de_var 1)) (dg_tup (is := [5, 6]) G.calm (pgs_cons (pg_name (i := 5) G.nd (by rfl) (by first | exact Or.inl rfl | exact Or.inr rfl)) (pgs_cons (pg_name (i := 6) G.nd (by rfl) (by first | exact Or.inl rfl | exact Or.inr rfl)) (pgs_nil)))) (dss_cons (ds_par (i := 7) (j := 8) G.calm G.nd (da_cons (de_ix G.h1 (de_ix G.h1 (de_ix G.h1 (de_var 0) (de_var 6)) (de_int)) (de_int)) (da_cons (de_ix G.h1 (de_ix G.h1 (de_ix G.h1 (de_var 0) (de_var 6)) (de_un un_neg imp_neg (de_int))) (de_int)) (da_nil))) (by decide)) (dss_cons (ds_if (dt_cmp (op_eqD G.h64) imp_eq (de_var 6) (de_var 2) (nomark _)) (dss_one (ds_par (i := 7) (j := 8) G.calm G.nd (da_cons (de_var 3) (da_cons (de_var 3) (da_nil))) (by decide))) (dss_nil)) (dss_one (ds_aug 4 G.nd iop_add imp_iadd (de_callB (call_minA G.calm) imp_min (by rfl) (V.free 33) bt_min (da_cons (de_op op_mul imp_mul (de_var 5) (de_var 7)) (da_cons (de_op op_mul imp_mul (de_var 5) (de_var 8)) (da_nil))))))))) (dss_one (ds_ret (de_var 4))))
theorem ok_greatest_sum (V : Nv fa fn K mg) : Fok P w K mg base (cn K) 2 (He.ga K "greatest_sum") ["domains", "sums", "variable", "value"] 4 [] f_greatest_sum := by
  have h_least_sum := ok_least_sum (P := P) (w := w) (base := base) V
  exact fok (x := "greatest_sum") (qual := "greatest_sum") (params := defArgs st_greatest_sum) (bd := defBody st_greatest_sum) (scope := defScope st_greatest_sum) (V.c.def_ 15) sc_greatest_sum rfl rfl (fun _ _ _ _ _ _ us hl => match us, hl with | [_, _, _, _], _ => rfl) fun cdv A outer s H E G =>
    dss_one (ds_ret (de_un un_neg imp_neg (de_callF G h_least_sum (by omega) (by rfl) (V.glo 34) (da_cons (de_var 0) (da_cons (de_lc G.calm G.nd (di_seq (de_var 1)) (blkOk_by (own := [("factor", 4), ("other", 5)]) (by kernel_rfl)) (fun _ _ _ _ _ => dg_tup (is := [4, 5]) G.blk.calm (pgs_cons (pg_name (i := 4) G.blk.nd (by rfl) (by first | exact Or.inl rfl | exact Or.inr rfl)) (pgs_cons (pg_name (i := 5) G.blk.nd (by rfl) (by first | exact Or.inl rfl | exact Or.inr rfl)) (pgs_nil)))) (fun _ _ _ _ _ => dts_nil) (fun _ _ _ _ _ => de_tup (da_cons (de_un un_neg imp_neg (de_var 4)) (da_cons (de_var 5) (da_nil))))) (da_cons (de_var 2) (da_cons (de_var 3) (da_nil))))))))
theorem ok_allows_sum (V : Nv fa fn K mg) : Fok P w K mg base (cn K) 3 (He.ga K "allows_sum") ["domains", "constraint", "variable", "value"] 4 [] f_allows_sum := by
  have h_least_sum := ok_least_sum (P := P) (w := w) (base := base) V
  have h_greatest_sum := ok_greatest_sum (P := P) (w := w) (base := base) V
  exact fok (x := "allows_sum") (qual := "allows_sum") (params := defArgs st_allows_sum) (bd := defBody st_allows_sum) (scope := defScope st_allows_sum) (V.c.def_ 16) sc_allows_sum rfl rfl (fun _ _ _ _ _ _ us hl => match us, hl with | [_, _, _, _], _ => rfl) fun cdv A outer s H E G =>
    dss_cons (ds_asg (de_var 1) (dg_tup (is := [4, 5, 6]) G.calm (pgs_cons (pg_name (i := 4) G.nd (by rfl) (by first | exact Or.inl rfl | exact Or.inr rfl)) (pgs_cons (pg_name (i := 5) G.nd (by rfl) (by first | exact Or.inl rfl | exact Or.inr rfl)) (pgs_cons (pg_name (i := 6) G.nd (by rfl) (by first | exact Or.inl rfl | exact Or.inr rfl)) (pgs_nil)))))) (dss_cons (ds_set 7 G.nd (de_callF G h_least_sum (by omega) (by rfl) (V.glo 34) (da_cons (de_var 0) (da_cons (de_var 5) (da_cons (de_var 2) (da_cons (de_var 3) (da_nil))))))) (dss_cons (ds_set 8 G.nd (de_callF G h_greatest_sum (by omega) (by rfl) (V.glo 35) (da_cons (de_var 0) (da_cons (de_var 5) (da_cons (de_var 2) (da_cons (de_var 3) (da_nil))))))) (dss_cons (ds_if (dt_cmp (op_eqD G.h64) imp_eq (de_var 4) (de_str) (nomark _)) (dss_one (ds_ret (de_cmp op_le imp_le (de_var 7) (de_var 6) (nomark _)))) (dss_nil)) (dss_cons (ds_if (dt_cmp (op_eqD G.h64) imp_eq (de_var 4) (de_str) (nomark _)) (dss_one (ds_ret (de_chain op_le imp_le op_le imp_le (de_var 7) (de_var 6) (de_var 8)))) (dss_nil)) (dss_cons (ds_for G.own G.calm (di_seq (de_var 5)) (dg_tup (is := [9, 10]) G.calm (pgs_cons (pg_name (i := 9) G.nd (by rfl) (by first | exact Or.inl rfl | exact Or.inr rfl)) (pgs_cons (pg_name (i := 10) G.nd (by rfl) (by first | exact Or.inl rfl | exact Or.inr rfl)) (pgs_nil)))) (dss_one (ds_if (dt_w (dw_and (dt_cmp (op_neD G.h64) imp_ne (de_var 10) (de_var 2) (nomark _)) (dw_and1 (dt_cmp (op_neD G.h64) imp_ne (de_ix G.h1 (de_ix G.h1 (de_ix G.h1 (de_var 0) (de_var 10)) (de_int)) (de_int)) (de_ix G.h1 (de_ix G.h1 (de_ix G.h1 (de_var 0) (de_var 10)) (de_un un_neg imp_neg (de_int))) (de_int)) (nomark _))))) (dss_one (ds_ret (de_bl))) (dss_nil)))) (dss_one (ds_ret (de_cmp (op_neD G.h64) imp_ne (de_var 7) (de_var 6) (nomark _)))))))))
theorem ok_allows_factor (V : Nv fa fn K mg) : Fok P w K mg base (cn K) 1 (He.ga K "allows_factor") ["first", "last", "product", "value"] 4 [] f_allows_factor := by
  exact fok (x := "allows_factor") (qual := "allows_factor") (params := defArgs st_allows_factor) (bd := defBody st_allows_factor) (scope := defScope st_allows_factor) (V.c.def_ 17) sc_allows_factor rfl rfl (fun _ _ _ _ _ _ us hl => match us, hl with | [_, _, _, _], _ => rfl) fun cdv A outer s H E G =>
    dss_cons (ds_asg (de_tup (da_cons (de_ix G.h1 (de_ix G.h1 (de_var 2) (de_int)) (de_int)) (da_cons (de_ix G.h1 (de_ix G.h1 (de_var 2) (de_un un_neg imp_neg (de_int))) (de_int)) (da_nil)))) (dg_tup (is := [4, 5]) G.calm (pgs_cons (pg_name (i := 4) G.nd (by rfl) (by first | exact Or.inl rfl | exact Or.inr rfl)) (pgs_cons (pg_name (i := 5) G.nd (by rfl) (by first | exact Or.inl rfl | exact Or.inr rfl)) (pgs_nil))))) (dss_one (ds_ret (de_callB (cr_any G.calm) imp_any (by rfl) (V.free 36) bt_any (da_cons (de_lc G.calm G.nd (di_rng2 (by rfl) (V.free 5) (de_var 0) (de_op op_addA imp_add (de_var 1) (de_int))) (blkOk_by (own := [("other", 6)]) (by kernel_rfl)) (fun _ _ _ _ _ => dg_name 6 G.blk.nd) (fun _ _ _ _ _ => dts_nil) (fun _ _ _ _ _ => de_chain op_le imp_le op_le imp_le (de_var 4) (de_op op_mul imp_mul (de_var 3) (de_var 6)) (de_var 5))) (da_nil)))))
theorem ok_ends_of (V : Nv fa fn K mg) : Fok P w K mg base (cn K) 1 (He.ga K "ends_of") ["given"] 1 [] f_ends_of := by
  exact fok (x := "ends_of") (qual := "ends_of") (params := defArgs st_ends_of) (bd := defBody st_ends_of) (scope := defScope st_ends_of) (V.c.def_ 18) sc_ends_of rfl rfl (fun _ _ _ _ _ _ us hl => match us, hl with | [_], _ => rfl) fun cdv A outer s H E G =>
    dss_one (ds_ret (de_tup (da_cons (de_ix G.h1 (de_ix G.h1 (de_var 0) (de_int)) (de_int)) (da_cons (de_ix G.h1 (de_ix G.h1 (de_var 0) (de_un un_neg imp_neg (de_int))) (de_int)) (da_nil)))))
theorem ok_allows_times (V : Nv fa fn K mg) : Fok P w K mg base (cn K) 2 (He.ga K "allows_times") ["domains", "constraint", "variable", "value"] 4 [] f_allows_times := by
  have h_ends_of := ok_ends_of (P := P) (w := w) (base := base) V
  have h_allows_factor := ok_allows_factor (P := P) (w := w) (base := base) V
  exact fok (x := "allows_times") (qual := "allows_times") (params := defArgs st_allows_times) (bd := defBody st_allows_times) (scope := defScope st_allows_times) (V.c.def_ 19) sc_allows_times rfl rfl (fun _ _ _ _ _ _ us hl => match us, hl with | [_, _, _, _], _ => rfl) fun cdv A outer s H E G =>
    dss_cons (ds_asg (de_sl (de_var 1) (do_some (de_int)) (do_none)) (dg_tup (is := [4, 5, 6]) G.calm (pgs_cons (pg_name (i := 4) G.nd (by rfl) (by first | exact Or.inl rfl | exact Or.inr rfl)) (pgs_cons (pg_name (i := 5) G.nd (by rfl) (by first | exact Or.inl rfl | exact Or.inr rfl)) (pgs_cons (pg_name (i := 6) G.nd (by rfl) (by first | exact Or.inl rfl | exact Or.inr rfl)) (pgs_nil)))))) (dss_cons (ds_set 7 G.nd (de_bl)) (dss_cons (ds_if (dt_cmp (op_eqD G.h64) imp_eq (de_var 2) (de_var 6) (nomark _)) (dss_cons (ds_setLc2 (i := 8) G.calm G.nd (vs1 := [12]) (di_seq (de_callF G h_ends_of (by omega) (by rfl) (V.glo 37) (da_cons (de_ix G.h1 (de_var 0) (de_var 4)) (da_nil)))) (blkOk_by (own := [("a", 11), ("b", 12)]) (by kernel_rfl)) (by decide) (fun _ _ _ _ _ => dg_name 11 G.blk.nd) (fun _ _ _ _ _ => dts_nil) (fun _ _ _ _ _ => di_seq (de_callF G.blk h_ends_of (by omega) (by rfl) (V.glo 37) (da_cons (de_ix G.blk.h1 (de_var 0) (de_var 5)) (da_nil)))) (fun _ _ _ _ _ => dg_name 12 G.blk.nd) (fun _ _ _ _ _ => dts_nil) (fun _ _ _ _ _ => de_op op_mul imp_mul (de_var 11) (de_var 12)) (sw_true rfl rfl rfl (by decide +kernel))) (dss_one (ds_set 7 G.nd (de_chain op_le imp_le op_le imp_le (de_callB (call_minA G.calm) imp_min (by rfl) (V.free 33) bt_min (da_cons (de_var 8) (da_nil))) (de_var 3) (de_callB (call_maxA G.calm) imp_max (by rfl) (V.free 38) bt_max (da_cons (de_var 8) (da_nil))))))) (dss_nil)) (dss_cons (ds_if (dt_cmp (op_eqD G.h64) imp_eq (de_var 2) (de_var 4) (nomark _)) (dss_cons (ds_asg (de_callF G h_ends_of (by omega) (by rfl) (V.glo 37) (da_cons (de_ix G.h1 (de_var 0) (de_var 5)) (da_nil))) (dg_tup (is := [9, 10]) G.calm (pgs_cons (pg_name (i := 9) G.nd (by rfl) (by first | exact Or.inl rfl | exact Or.inr rfl)) (pgs_cons (pg_name (i := 10) G.nd (by rfl) (by first | exact Or.inl rfl | exact Or.inr rfl)) (pgs_nil))))) (dss_one (ds_set 7 G.nd (de_and (de_var 7) (de_one (de_callF G h_allows_factor (by omega) (by rfl) (V.glo 39) (da_cons (de_var 9) (da_cons (de_var 10) (da_cons (de_ix G.h1 (de_var 0) (de_var 6)) (da_cons (de_var 3) (da_nil))))))))))) (dss_nil)) (dss_cons (ds_if (dt_cmp (op_eqD G.h64) imp_eq (de_var 2) (de_var 5) (nomark _)) (dss_cons (ds_asg (de_callF G h_ends_of (by omega) (by rfl) (V.glo 37) (da_cons (de_ix G.h1 (de_var 0) (de_var 4)) (da_nil))) (dg_tup (is := [9, 10]) G.calm (pgs_cons (pg_name (i := 9) G.nd (by rfl) (by first | exact Or.inl rfl | exact Or.inr rfl)) (pgs_cons (pg_name (i := 10) G.nd (by rfl) (by first | exact Or.inl rfl | exact Or.inr rfl)) (pgs_nil))))) (dss_one (ds_set 7 G.nd (de_and (de_var 7) (de_one (de_callF G h_allows_factor (by omega) (by rfl) (V.glo 39) (da_cons (de_var 9) (da_cons (de_var 10) (da_cons (de_ix G.h1 (de_var 0) (de_var 6)) (da_cons (de_var 3) (da_nil))))))))))) (dss_nil)) (dss_one (ds_ret (de_var 7)))))))
theorem ok_allowed (V : Nv fa fn K mg) : Fok P w K mg base (cn K) 23 (He.ga K "allowed") ["domains", "constraint", "variable", "value"] 4 [] f_allowed := by
  have h_variables_of := ok_variables_of (P := P) (w := w) (base := base) V
  have h_allows_sum := ok_allows_sum (P := P) (w := w) (base := base) V
  have h_allows_times := ok_allows_times (P := P) (w := w) (base := base) V
  have h_values := ok_values (P := P) (w := w) (base := base) V
  have h_distinct_values := ok_distinct_values (P := P) (w := w) (base := base) V
  exact fok (x := "allowed") (qual := "allowed") (params := defArgs st_allowed) (bd := defBody st_allowed) (scope := defScope st_allowed) (V.c.def_ 20) sc_allowed rfl rfl (fun _ _ _ _ _ _ us hl => match us, hl with | [_, _, _, _], _ => rfl) fun cdv A outer s H E G =>
    dss_cons (ds_set 4 G.nd (de_callF G h_variables_of (by omega) (by rfl) (V.glo 40) (da_cons (de_var 1) (da_nil)))) (dss_cons (ds_if (dt_cmp (op_notInAll G.hu) imp_notIn (de_var 2) (de_var 4) (by with_unfolding_all rfl)) (dss_one (ds_ret (de_bl))) (dss_nil)) (dss_cons (ds_for G.own G.calm (di_seq (de_var 4)) (dg_name 5 G.nd) (dss_one (ds_if (dt_not (dt_tr (de_ix G.h1 (de_var 0) (de_var 5)))) (dss_one (ds_ret (de_bl))) (dss_nil)))) (dss_cons (ds_if (dt_cmp (op_eqD G.h64) imp_eq (de_ix G.h1 (de_var 1) (de_int)) (de_str) (nomark _)) (dss_one (ds_ret (de_callF G h_allows_times (by omega) (by rfl) (V.glo 41) (da_cons (de_var 0) (da_cons (de_var 1) (da_cons (de_var 2) (da_cons (de_var 3) (da_nil)))))))) (dss_nil)) (dss_cons (ds_if (dt_cmp (op_eqD G.h64) imp_eq (de_ix G.h1 (de_var 1) (de_int)) (de_str) (nomark _)) (dss_cons (ds_setLc (i := 6) G.calm G.nd (di_seq (de_var 4)) (blkOk_by (own := [("other", 5)]) (by kernel_rfl)) (fun _ _ _ _ _ => dg_name 5 G.blk.nd) (fun _ _ _ _ _ => dts_nil) (fun _ _ _ _ _ => de_ix G.blk.h1 (de_var 0) (de_var 5)) (sw_true rfl rfl rfl (by decide +kernel))) (dss_cons (ds_setItem G.h1 (de_var 6) (de_bm PySem.F.slot_list_index rfl (mt_indexD G.hu) imp_index (de_var 4) (da_cons (de_var 2) (da_nil))) (de_tup (da_cons (de_tup (da_cons (de_var 3) (da_cons (de_var 3) (da_nil)))) (da_nil)))) (dss_one (ds_ret (de_and (de_cmp (op_inAll G.hu) imp_in (de_var 3) (de_callF G h_values (by omega) (by rfl) (V.glo 12) (da_cons (de_ix G.h1 (de_var 0) (de_var 2)) (da_nil))) (by with_unfolding_all rfl)) (de_one (de_cmp op_notN imp_notN (de_ix G.h1 (de_callF G h_distinct_values (by omega) (by rfl) (V.glo 42) (da_cons (de_var 6) (da_nil))) (de_int)) (de_non) (nomark _)))))))) (dss_nil)) (dss_one (ds_ret (de_callF G h_allows_sum (by omega) (by rfl) (V.glo 43) (da_cons (de_var 0) (da_cons (de_var 1) (da_cons (de_var 2) (da_cons (de_var 3) (da_nil))))))))))))
theorem ok_allows (V : Nv fa fn K mg) : Fok P w K mg base (cn K) 24 (He.ga K "allows") ["domains", "constraint", "variable", "value"] 4 [] f_allows := by
  have h_check_problem := ok_check_problem (P := P) (w := w) (base := base) V
  have h_allowed := ok_allowed (P := P) (w := w) (base := base) V
  exact fok (x := "allows") (qual := "allows") (params := defArgs st_allows) (bd := defBody st_allows) (scope := defScope st_allows) (V.c.def_ 21) sc_allows rfl rfl (fun _ _ _ _ _ _ us hl => match us, hl with | [_, _, _, _], _ => rfl) fun cdv A outer s H E G =>
    dss_cons (ds_expr (de_callF G h_check_problem (by omega) (by rfl) (V.glo 44) (da_cons (de_var 0) (da_cons (de_lst (da_cons (de_var 1) (da_nil))) (da_nil))))) (dss_one (ds_ret (de_callF G h_allowed (by omega) (by rfl) (V.glo 45) (da_cons (de_var 0) (da_cons (de_var 1) (da_cons (de_var 2) (da_cons (de_var 3) (da_nil))))))))
theorem ok__law_stream (V : Nv fa fn K mg) : Fok P w K mg base (cn K) 1 (He.ga K "_law_stream") ["script"] 1 [] f__law_stream := by
  exact fok (x := "_law_stream") (qual := "_law_stream") (params := defArgs st__law_stream) (bd := defBody st__law_stream) (scope := defScope st__law_stream) (V.c.def_ 22) sc__law_stream rfl rfl (fun _ _ _ _ _ _ us hl => match us, hl with | [_], _ => rfl) fun cdv A outer s H E G =>
    dss_cons (ds_set 1 G.nd (de_int)) (dss_cons (ds_for G.own G.calm (di_seq (de_var 0)) (dg_name 2 G.nd) (dss_one (ds_set 1 G.nd (de_op op_mod imp_mod (de_callTy call_int1 imp_int (by rfl) (V.free 0) bt_int (da_cons (de_op op_addA imp_add (de_op op_addA imp_add (de_op op_mul imp_mul (de_var 1) (de_int)) (de_op op_mod imp_mod (de_callTy call_int1 imp_int (by rfl) (V.free 0) bt_int (da_cons (de_var 2) (da_nil))) (de_int))) (de_int)) (da_nil))) (de_int))))) (dss_one (ds_ret (de_lst (da_cons (de_callTy (call_listA G.calm) imp_list (by rfl) (V.free 4) bt_list (da_cons (de_var 0) (da_nil))) (da_cons (de_int) (da_cons (de_int) (da_cons (de_var 1) (da_nil)))))))))
theorem ok__law_draw (V : Nv fa fn K mg) : Fok P w K mg base (cn K) 1 (He.ga K "_law_draw") ["stream", "many"] 2 [] f__law_draw := by
  exact fok (x := "_law_draw") (qual := "_law_draw") (params := defArgs st__law_draw) (bd := defBody st__law_draw) (scope := defScope st__law_draw) (V.c.def_ 23) sc__law_draw rfl rfl (fun _ _ _ _ _ _ us hl => match us, hl with | [_, _], _ => rfl) fun cdv A outer s H E G =>
    dss_cons (ds_if (dt_w (dw_and (dt_cmp (op_eqD G.h64) imp_eq (de_ix G.h1 (de_var 0) (de_int)) (de_int) (nomark _)) (dw_and1 (dt_cmp op_lt imp_lt (de_ix G.h1 (de_var 0) (de_int)) (de_callB call_lenA imp_len (by rfl) (V.free 7) bt_len (da_cons (de_ix G.h1 (de_var 0) (de_int)) (da_nil))) (nomark _))))) (dss_cons (ds_setItem G.h1 (de_var 0) (de_int) (de_callB call_abs imp_abs (by rfl) (V.free 46) bt_abs (da_cons (de_callTy call_int1 imp_int (by rfl) (V.free 0) bt_int (da_cons (de_ix G.h1 (de_ix G.h1 (de_var 0) (de_int)) (de_ix G.h1 (de_var 0) (de_int))) (da_nil))) (da_nil)))) (dss_one (ds_setItem G.h1 (de_var 0) (de_int) (de_op op_addA imp_add (de_ix G.h1 (de_var 0) (de_int)) (de_int))))) (dss_nil)) (dss_cons (ds_if (dt_cmp (op_eqD G.h64) imp_eq (de_ix G.h1 (de_var 0) (de_int)) (de_int) (nomark _)) (dss_cons (ds_setItem G.h1 (de_var 0) (de_int) (de_op op_mod imp_mod (de_callTy call_int1 imp_int (by rfl) (V.free 0) bt_int (da_cons (de_op op_addA imp_add (de_op op_mul imp_mul (de_ix G.h1 (de_var 0) (de_int)) (de_int)) (de_int)) (da_nil))) (de_int))) (dss_one (ds_ret (de_op op_mod imp_mod (de_callTy call_int1 imp_int (by rfl) (V.free 0) bt_int (da_cons (de_op op_fdiv imp_div (de_ix G.h1 (de_var 0) (de_int)) (de_int)) (da_nil))) (de_var 1))))) (dss_nil)) (dss_cons (ds_set 2 G.nd (de_op op_mod imp_mod (de_callTy call_int1 imp_int (by rfl) (V.free 0) bt_int (da_cons (de_ix G.h1 (de_var 0) (de_int)) (da_nil))) (de_var 1))) (dss_cons (ds_setItem G.h1 (de_var 0) (de_int) (de_op op_fdiv imp_div (de_ix G.h1 (de_var 0) (de_int)) (de_var 1))) (dss_one (ds_ret (de_var 2))))))
theorem ok__law_domain (V : Nv fa fn K mg) : Fok P w K mg base (cn K) 1 (He.ga K "_law_domain") ["given"] 1 [] f__law_domain := by
  exact fok (x := "_law_domain") (qual := "_law_domain") (params := defArgs st__law_domain) (bd := defBody st__law_domain) (scope := defScope st__law_domain) (V.c.def_ 24) sc__law_domain rfl rfl (fun _ _ _ _ _ _ us hl => match us, hl with | [_], _ => rfl) fun cdv A outer s H E G =>
    dss_cons (ds_set 1 G.nd (de_lst (da_nil))) (dss_cons (ds_for G.own G.calm (di_seq (de_callB (call_sortedA G.calm) imp_sorted (by rfl) (V.free 19) bt_sorted (da_cons (de_var 0) (da_nil)))) (dg_name 2 G.nd) (dss_one (ds_if (dt_w (dw_and (dt_cmp op_gt imp_gt (de_callB call_lenA imp_len (by rfl) (V.free 7) bt_len (da_cons (de_var 1) (da_nil))) (de_int) (nomark _)) (dw_and1 (dt_cmp op_le imp_le (de_var 2) (de_op op_addA imp_add (de_ix G.h1 (de_ix G.h1 (de_var 1) (de_op op_sub imp_sub (de_callB call_lenA imp_len (by rfl) (V.free 7) bt_len (da_cons (de_var 1) (da_nil))) (de_int))) (de_int)) (de_int)) (nomark _))))) (dss_one (ds_setItem G.h1 (de_var 1) (de_op op_sub imp_sub (de_callB call_lenA imp_len (by rfl) (V.free 7) bt_len (da_cons (de_var 1) (da_nil))) (de_int)) (de_tup (da_cons (de_ix G.h1 (de_ix G.h1 (de_var 1) (de_op op_sub imp_sub (de_callB call_lenA imp_len (by rfl) (V.free 7) bt_len (da_cons (de_var 1) (da_nil))) (de_int))) (de_int)) (da_cons (de_var 2) (da_nil)))))) (dss_one (ds_expr (de_bm PySem.F.slot_list_append rfl mt_append imp_app (de_var 1) (da_cons (de_tup (da_cons (de_var 2) (da_cons (de_var 2) (da_nil)))) (da_nil)))))))) (dss_one (ds_ret (de_callTy call_tuple_of imp_tuple (by rfl) (V.free 6) bt_tuple (da_cons (de_var 1) (da_nil))))))
theorem ok__law_values (V : Nv fa fn K mg) : Fok P w K mg base (cn K) 1 (He.ga K "_law_values") ["given"] 1 [] f__law_values := by
  exact fok (x := "_law_values") (qual := "_law_values") (params := defArgs st__law_values) (bd := defBody st__law_values) (scope := defScope st__law_values) (V.c.def_ 25) sc__law_values rfl rfl (fun _ _ _ _ _ _ us hl => match us, hl with | [_], _ => rfl) fun cdv A outer s H E G =>
    dss_cons (ds_set 1 G.nd (de_lst (da_nil))) (dss_cons (ds_for G.own G.calm (di_seq (de_var 0)) (dg_name 2 G.nd) (dss_one (ds_expr (de_bm PySem.F.slot_list_extend rfl mt_extend imp_ext (de_var 1) (da_cons (de_lc G.calm G.nd (di_rng2 (by rfl) (V.free 5) (de_ix G.h1 (de_var 2) (de_int)) (de_op op_addA imp_add (de_ix G.h1 (de_var 2) (de_int)) (de_int))) (blkOk_by (own := [("value", 3)]) (by kernel_rfl)) (fun _ _ _ _ _ => dg_name 3 G.blk.nd) (fun _ _ _ _ _ => dts_nil) (fun _ _ _ _ _ => de_var 3)) (da_nil)))))) (dss_one (ds_ret (de_var 1))))
theorem ok__law_small_domain (V : Nv fa fn K mg) : Fok P w K mg base (cn K) 2 (He.ga K "_law_small_domain") ["stream", "widest"] 2 [] f__law_small_domain := by
  have h__law_domain := ok__law_domain (P := P) (w := w) (base := base) V
  have h__law_draw := ok__law_draw (P := P) (w := w) (base := base) V
  exact fok (x := "_law_small_domain") (qual := "_law_small_domain") (params := defArgs st__law_small_domain) (bd := defBody st__law_small_domain) (scope := defScope st__law_small_domain) (V.c.def_ 26) sc__law_small_domain rfl rfl (fun _ _ _ _ _ _ us hl => match us, hl with | [_, _], _ => rfl) fun cdv A outer s H E G =>
    dss_cons (ds_set 2 G.nd (de_op op_sub imp_sub (de_callF G h__law_draw (by omega) (by rfl) (V.glo 47) (da_cons (de_var 0) (da_cons (de_int) (da_nil)))) (de_int))) (dss_cons (ds_set 3 G.nd (de_int)) (dss_cons (ds_if (dt_cmp (op_eqD G.h64) imp_eq (de_callF G h__law_draw (by omega) (by rfl) (V.glo 47) (da_cons (de_var 0) (da_cons (de_int) (da_nil)))) (de_int) (nomark _)) (dss_cons (ds_set 2 G.nd (de_op op_sub imp_sub (de_callF G h__law_draw (by omega) (by rfl) (V.glo 47) (da_cons (de_var 0) (da_cons (de_int) (da_nil)))) (de_int))) (dss_one (ds_set 3 G.nd (de_op op_addA imp_add (de_int) (de_callF G h__law_draw (by omega) (by rfl) (V.glo 47) (da_cons (de_var 0) (da_cons (de_int) (da_nil)))))))) (dss_nil)) (dss_cons (ds_setLc (i := 4) G.calm G.nd (di_rng1 (by rfl) (V.free 5) (de_op op_addA imp_add (de_int) (de_callF G h__law_draw (by omega) (by rfl) (V.glo 47) (da_cons (de_var 0) (da_cons (de_var 1) (da_nil)))))) (blkOk_by (own := [("k", 5)]) (by kernel_rfl)) (fun _ _ _ _ _ => dg_name 5 G.blk.nd) (fun _ _ _ _ _ => dts_nil) (fun _ _ _ _ _ => de_callB (call_minA G.blk.calm) imp_min (by rfl) (V.free 33) bt_min (da_cons (de_int) (da_cons (de_op op_addA imp_add (de_var 2) (de_op op_mul imp_mul (de_var 3) (de_var 5))) (da_nil)))) (sw_true rfl rfl rfl (by decide +kernel))) (dss_cons (ds_if (dt_cmp (op_eqD G.h64) imp_eq (de_callF G h__law_draw (by omega) (by rfl) (V.glo 47) (da_cons (de_var 0) (da_cons (de_int) (da_nil)))) (de_int) (nomark _)) (dss_one (ds_setLc (i := 4) G.calm G.nd (di_seq (de_var 4)) (blkOk_by (own := [("value", 6)]) (by kernel_rfl)) (fun _ _ _ _ _ => dg_name 6 G.blk.nd) (fun _ _ _ _ _ => dts_one (dt_cmp op_gt imp_gt (de_callF G.blk h__law_draw (by omega) (by rfl) (V.glo 47) (da_cons (de_var 0) (da_cons (de_int) (da_nil)))) (de_int) (nomark _))) (fun _ _ _ _ _ => de_var 6) (sw_true rfl rfl rfl (by decide +kernel)))) (dss_nil)) (dss_one (ds_ret (de_callF G h__law_domain (by omega) (by rfl) (V.glo 48) (da_cons (de_var 4) (da_nil)))))))))
theorem ok__law_some_variables (V : Nv fa fn K mg) : Fok P w K mg base (cn K) 2 (He.ga K "_law_some_variables") ["stream", "many", "count"] 3 [] f__law_some_variables := by
  have h__law_draw := ok__law_draw (P := P) (w := w) (base := base) V
  exact fok (x := "_law_some_variables") (qual := "_law_some_variables") (params := defArgs st__law_some_variables) (bd := defBody st__law_some_variables) (scope := defScope st__law_some_variables) (V.c.def_ 27) sc__law_some_variables rfl rfl (fun _ _ _ _ _ _ us hl => match us, hl with | [_, _, _], _ => rfl) fun cdv A outer s H E G =>
    dss_cons (ds_setLc (i := 3) G.calm G.nd (di_rng1 (by rfl) (V.free 5) (de_var 1)) (blkOk_by (own := [("k", 5)]) (by kernel_rfl)) (fun _ _ _ _ _ => dg_name 5 G.blk.nd) (fun _ _ _ _ _ => dts_nil) (fun _ _ _ _ _ => de_var 5) (sw_true rfl rfl rfl (by decide +kernel))) (dss_cons (ds_set 4 G.nd (de_lst (da_nil))) (dss_cons (ds_for G.own G.calm (di_rng1 (by rfl) (V.free 5) (de_var 2)) (dg_name 5 G.nd) (dss_one (ds_if (dt_cmp op_gt imp_gt (de_callB call_lenA imp_len (by rfl) (V.free 7) bt_len (da_cons (de_var 3) (da_nil))) (de_int) (nomark _)) (dss_one (ds_expr (de_bm PySem.F.slot_list_append rfl mt_append imp_app (de_var 4) (da_cons (de_bm PySem.F.slot_list_pop rfl mt_popA imp_pop (de_var 3) (da_cons (de_callF G h__law_draw (by omega) (by rfl) (V.glo 47) (da_cons (de_var 0) (da_cons (de_callB call_lenA imp_len (by rfl) (V.free 7) bt_len (da_cons (de_var 3) (da_nil))) (da_nil)))) (da_nil))) (da_nil))))) (dss_nil)))) (dss_one (ds_ret (de_callTy call_tuple_of imp_tuple (by rfl) (V.free 6) bt_tuple (da_cons (de_var 4) (da_nil)))))))
theorem ok__law_constraint (V : Nv fa fn K mg) : Fok P w K mg base (cn K) 3 (He.ga K "_law_constraint") ["stream", "many"] 2 [] f__law_constraint := by
  have h__law_draw := ok__law_draw (P := P) (w := w) (base := base) V
  have h__law_some_variables := ok__law_some_variables (P := P) (w := w) (base := base) V
  exact fok (x := "_law_constraint") (qual := "_law_constraint") (params := defArgs st__law_constraint) (bd := defBody st__law_constraint) (scope := defScope st__law_constraint) (V.c.def_ 28) sc__law_constraint rfl rfl (fun _ _ _ _ _ _ us hl => match us, hl with | [_, _], _ => rfl) fun cdv A outer s H E G =>
    dss_cons (ds_set 2 G.nd (de_callF G h__law_draw (by omega) (by rfl) (V.glo 47) (da_cons (de_var 0) (da_cons (de_int) (da_nil))))) (dss_cons (ds_if (dt_cmp op_lt imp_lt (de_var 2) (de_int) (nomark _)) (dss_cons (ds_set 3 G.nd (de_callF G h__law_some_variables (by omega) (by rfl) (V.glo 49) (da_cons (de_var 0) (da_cons (de_var 1) (da_cons (de_callF G h__law_draw (by omega) (by rfl) (V.glo 47) (da_cons (de_var 0) (da_cons (de_ix G.h1 (de_lst (da_cons (de_int) (da_cons (de_int) (da_cons (de_int) (da_cons (de_int) (da_nil)))))) (de_callF G h__law_draw (by omega) (by rfl) (V.glo 47) (da_cons (de_var 0) (da_cons (de_int) (da_nil))))) (da_nil)))) (da_nil)))))) (dss_cons (ds_set 4 G.nd (de_lst (da_cons (de_int) (da_cons (de_un un_neg imp_neg (de_int)) (da_cons (de_int) (da_cons (de_un un_neg imp_neg (de_int)) (da_cons (de_int) (da_cons (de_un un_neg imp_neg (de_int)) (da_nil))))))))) (dss_cons (ds_set 5 G.nd (de_ix G.h1 (de_lst (da_cons (de_op op_sub imp_sub (de_callF G h__law_draw (by omega) (by rfl) (V.glo 47) (da_cons (de_var 0) (da_cons (de_int) (da_nil)))) (de_int)) (da_cons (de_op op_sub imp_sub (de_callF G h__law_draw (by omega) (by rfl) (V.glo 47) (da_cons (de_var 0) (da_cons (de_int) (da_nil)))) (de_int)) (da_nil)))) (de_callTy call_int1 imp_int (by rfl) (V.free 0) bt_int (da_cons (de_cmp (op_eqD G.h64) imp_eq (de_callF G h__law_draw (by omega) (by rfl) (V.glo 47) (da_cons (de_var 0) (da_cons (de_int) (da_nil)))) (de_int) (nomark _)) (da_nil))))) (dss_cons (ds_if (dt_cmp (op_eqD G.h64) imp_eq (de_callF G h__law_draw (by omega) (by rfl) (V.glo 47) (da_cons (de_var 0) (da_cons (de_int) (da_nil)))) (de_int) (nomark _)) (dss_one (ds_set 4 G.nd (de_lst (da_cons (de_int) (da_cons (de_un un_neg imp_neg (de_int)) (da_cons (de_int) (da_cons (de_un un_neg imp_neg (de_int)) (da_cons (de_int) (da_cons (de_un un_neg imp_neg (de_int)) (da_nil)))))))))) (dss_nil)) (dss_cons (ds_if (dt_cmp (op_eqD G.h64) imp_eq (de_callF G h__law_draw (by omega) (by rfl) (V.glo 47) (da_cons (de_var 0) (da_cons (de_int) (da_nil)))) (de_int) (nomark _)) (dss_cons (ds_set 4 G.nd (de_lst (da_cons (de_int) (da_cons (de_un un_neg imp_neg (de_int)) (da_cons (de_int) (da_cons (de_un un_neg imp_neg (de_int)) (da_cons (de_int) (da_cons (de_int) (da_nil))))))))) (dss_one (ds_set 5 G.nd (de_op op_sub imp_sub (de_callF G h__law_draw (by omega) (by rfl) (V.glo 47) (da_cons (de_var 0) (da_cons (de_int) (da_nil)))) (de_int))))) (dss_nil)) (dss_cons (ds_set 6 G.nd (de_callTy call_tuple_of imp_tuple (by rfl) (V.free 6) bt_tuple (da_cons (de_lc G.calm G.nd (di_seq (de_var 3)) (blkOk_by (own := [("variable", 7)]) (by kernel_rfl)) (fun _ _ _ _ _ => dg_name 7 G.blk.nd) (fun _ _ _ _ _ => dts_nil) (fun _ _ _ _ _ => de_tup (da_cons (de_ix G.blk.h1 (de_var 4) (de_callF G.blk h__law_draw (by omega) (by rfl) (V.glo 47) (da_cons (de_var 0) (da_cons (de_int) (da_nil))))) (da_cons (de_var 7) (da_nil))))) (da_nil)))) (dss_one (ds_ret (de_tup (da_cons (de_ix G.h1 (de_lst (da_cons (de_str) (da_cons (de_str) (da_cons (de_str) (da_cons (de_str) (da_cons (de_str) (da_nil))))))) (de_var 2)) (da_cons (de_var 6) (da_cons (de_var 5) (da_nil))))))))))))) (dss_nil)) (dss_cons (ds_if (dt_cmp (op_eqD G.h64) imp_eq (de_var 2) (de_int) (nomark _)) (dss_one (ds_ret (de_tup (da_cons (de_str) (da_cons (de_callF G h__law_draw (by omega) (by rfl) (V.glo 47) (da_cons (de_var 0) (da_cons (de_var 1) (da_nil)))) (da_cons (de_callF G h__law_draw (by omega) (by rfl) (V.glo 47) (da_cons (de_var 0) (da_cons (de_var 1) (da_nil)))) (da_cons (de_callF G h__law_draw (by omega) (by rfl) (V.glo 47) (da_cons (de_var 0) (da_cons (de_var 1) (da_nil)))) (da_nil)))))))) (dss_nil)) (dss_one (ds_ret (de_tup (da_cons (de_str) (da_cons (de_callF G h__law_some_variables (by omega) (by rfl) (V.glo 49) (da_cons (de_var 0) (da_cons (de_var 1) (da_cons (de_op op_addA imp_add (de_int) (de_callF G h__law_draw (by omega) (by rfl) (V.glo 47) (da_cons (de_var 0) (da_cons (de_var 1) (da_nil))))) (da_nil))))) (da_nil))))))))
theorem ok__law_problem (V : Nv fa fn K mg) : Fok P w K mg base (cn K) 4 (He.ga K "_law_problem") ["stream", "most", "widest"] 3 [] f__law_problem := by
  have h__law_draw := ok__law_draw (P := P) (w := w) (base := base) V
  have h__law_small_domain := ok__law_small_domain (P := P) (w := w) (base := base) V
  have h__law_constraint := ok__law_constraint (P := P) (w := w) (base := base) V
  exact fok (x := "_law_problem") (qual := "_law_problem") (params := defArgs st__law_problem) (bd := defBody st__law_problem) (scope := defScope st__law_problem) (V.c.def_ 29) sc__law_problem rfl rfl (fun _ _ _ _ _ _ us hl => match us, hl with | [_, _, _], _ => rfl) fun cdv A outer s H E G =>
    dss_cons (ds_set 3 G.nd (de_op op_addA imp_add (de_int) (de_callF G h__law_draw (by omega) (by rfl) (V.glo 47) (da_cons (de_var 0) (da_cons (de_var 1) (da_nil)))))) (dss_cons (ds_set 4 G.nd (de_callF G h__law_draw (by omega) (by rfl) (V.glo 47) (da_cons (de_var 0) (da_cons (de_int) (da_nil))))) (dss_cons (ds_if (dt_cmp (op_eqD G.h64) imp_eq (de_var 4) (de_int) (nomark _)) (dss_cons (ds_set 3 G.nd (de_op op_addA imp_add (de_int) (de_callF G h__law_draw (by omega) (by rfl) (V.glo 47) (da_cons (de_var 0) (da_cons (de_int) (da_nil)))))) (dss_one (ds_set 2 G.nd (de_int)))) (dss_nil)) (dss_cons (ds_if (dt_cmp (op_eqD G.h64) imp_eq (de_var 4) (de_int) (nomark _)) (dss_cons (ds_set 3 G.nd (de_op op_addA imp_add (de_int) (de_callF G h__law_draw (by omega) (by rfl) (V.glo 47) (da_cons (de_var 0) (da_cons (de_int) (da_nil)))))) (dss_one (ds_set 2 G.nd (de_ix G.h1 (de_lst (da_cons (de_int) (da_cons (de_int) (da_cons (de_int) (da_cons (de_int) (da_nil)))))) (de_callF G h__law_draw (by omega) (by rfl) (V.glo 47) (da_cons (de_var 0) (da_cons (de_int) (da_nil)))))))) (dss_nil)) (dss_cons (ds_setLc (i := 5) G.calm G.nd (di_rng1 (by rfl) (V.free 5) (de_var 3)) (blkOk_by (own := [("k", 6)]) (by kernel_rfl)) (fun _ _ _ _ _ => dg_name 6 G.blk.nd) (fun _ _ _ _ _ => dts_nil) (fun _ _ _ _ _ => de_callF G.blk h__law_small_domain (by omega) (by rfl) (V.glo 50) (da_cons (de_var 0) (da_cons (de_var 2) (da_nil)))) (sw_true rfl rfl rfl (by decide +kernel))) (dss_one (ds_ret (de_lst (da_cons (de_var 5) (da_cons (de_lc G.calm G.nd (di_rng1 (by rfl) (V.free 5) (de_callF G h__law_draw (by omega) (by rfl) (V.glo 47) (da_cons (de_var 0) (da_cons (de_ix G.h1 (de_lst (da_cons (de_int) (da_cons (de_int) (da_cons (de_int) (da_nil))))) (de_callF G h__law_draw (by omega) (by rfl) (V.glo 47) (da_cons (de_var 0) (da_cons (de_int) (da_nil))))) (da_nil))))) (blkOk_by (own := [("k", 6)]) (by kernel_rfl)) (fun _ _ _ _ _ => dg_name 6 G.blk.nd) (fun _ _ _ _ _ => dts_nil) (fun _ _ _ _ _ => de_callF G.blk h__law_constraint (by omega) (by rfl) (V.glo 51) (da_cons (de_var 0) (da_cons (de_var 3) (da_nil))))) (da_nil))))))))))
theorem ok__law_own (V : Nv fa fn K mg) : Fok P w K mg base (cn K) 1 (He.ga K "_law_own") ["constraint"] 1 [] f__law_own := by
  exact fok (x := "_law_own") (qual := "_law_own") (params := defArgs st__law_own) (bd := defBody st__law_own) (scope := defScope st__law_own) (V.c.def_ 30) sc__law_own rfl rfl (fun _ _ _ _ _ _ us hl => match us, hl with | [_], _ => rfl) fun cdv A outer s H E G =>
    dss_cons (ds_if (dt_cmp (op_eqD G.h64) imp_eq (de_ix G.h1 (de_var 0) (de_int)) (de_str) (nomark _)) (dss_one (ds_ret (de_lst (da_cons (de_ix G.h1 (de_var 0) (de_int)) (da_cons (de_ix G.h1 (de_var 0) (de_int)) (da_cons (de_ix G.h1 (de_var 0) (de_int)) (da_nil))))))) (dss_nil)) (dss_cons (ds_if (dt_cmp (op_eqD G.h64) imp_eq (de_ix G.h1 (de_var 0) (de_int)) (de_str) (nomark _)) (dss_one (ds_ret (de_callTy (call_listA G.calm) imp_list (by rfl) (V.free 4) bt_list (da_cons (de_ix G.h1 (de_var 0) (de_int)) (da_nil))))) (dss_nil)) (dss_one (ds_ret (de_lc G.calm G.nd (di_seq (de_ix G.h1 (de_var 0) (de_int))) (blkOk_by (own := [("pair", 1)]) (by kernel_rfl)) (fun _ _ _ _ _ => dg_name 1 G.blk.nd) (fun _ _ _ _ _ => dts_nil) (fun _ _ _ _ _ => de_ix G.blk.h1 (de_var 1) (de_int))))))
theorem ok__law_choice (V : Nv fa fn K mg) : ∀ n : Nat, Fok P w K mg base (cn K) (1 + n) (He.ga K "_law_choice") ["rows", "used", "at"] 3 [] (f__law_choice n)
  | 0 => fok_no (x := "_law_choice") (qual := "_law_choice") (params := defArgs st__law_choice) (bd := defBody st__law_choice) (scope := defScope st__law_choice) (V.c.def_ 31) rfl (fun _ _ _ _ _ _ us hl => match us, hl with | [_, _, _], _ => rfl)
  | n + 1 => by
    have ih := ok__law_choice V n
    exact fok (k := 1 + n) (x := "_law_choice") (qual := "_law_choice") (params := defArgs st__law_choice) (bd := defBody st__law_choice) (scope := defScope st__law_choice) (V.c.def_ 31) sc__law_choice rfl rfl (fun _ _ _ _ _ _ us hl => match us, hl with | [_, _, _], _ => rfl) fun cdv A outer s H E G =>
    dss_cons (ds_if (dt_cmp (op_eqD G.h64) imp_eq (de_var 2) (de_callB call_lenA imp_len (by rfl) (V.free 7) bt_len (da_cons (de_var 0) (da_nil))) (nomark _)) (dss_one (ds_ret (de_bl))) (dss_nil)) (dss_cons (ds_for G.own G.calm (di_seq (de_ix G.h1 (de_var 0) (de_var 2))) (dg_name 3 G.nd) (dss_one (ds_if (dt_w (dw_and (dt_cmp (op_notInAll G.hu) imp_notIn (de_var 3) (de_var 1) (by with_unfolding_all rfl)) (dw_and1 (dt_tr (de_callF G ih (by omega) (by rfl) (V.glo 52) (da_cons (de_var 0) (da_cons (de_op op_addA imp_add (de_var 1) (de_lst (da_cons (de_var 3) (da_nil)))) (da_cons (de_op op_addA imp_add (de_var 2) (de_int)) (da_nil))))))))) (dss_one (ds_ret (de_bl))) (dss_nil)))) (dss_one (ds_ret (de_bl))))
theorem ok__law_ends (V : Nv fa fn K mg) : Fok P w K mg base (cn K) 1 (He.ga K "_law_ends") ["values_v", "variable", "at", "value"] 4 [] f__law_ends := by
  exact fok (x := "_law_ends") (qual := "_law_ends") (params := defArgs st__law_ends) (bd := defBody st__law_ends) (scope := defScope st__law_ends) (V.c.def_ 32) sc__law_ends rfl rfl (fun _ _ _ _ _ _ us hl => match us, hl with | [_, _, _, _], _ => rfl) fun cdv A outer s H E G =>
    dss_cons (ds_if (dt_cmp (op_eqD G.h64) imp_eq (de_var 1) (de_var 2) (nomark _)) (dss_one (ds_ret (de_lst (da_cons (de_var 3) (da_cons (de_var 3) (da_nil)))))) (dss_nil)) (dss_one (ds_ret (de_lst (da_cons (de_callB (call_minA G.calm) imp_min (by rfl) (V.free 33) bt_min (da_cons (de_ix G.h1 (de_var 0) (de_var 1)) (da_nil))) (da_cons (de_callB (call_maxA G.calm) imp_max (by rfl) (V.free 38) bt_max (da_cons (de_ix G.h1 (de_var 0) (de_var 1)) (da_nil))) (da_nil))))))
theorem ok__law_allows_sum (V : Nv fa fn K mg) : Fok P w K mg base (cn K) 2 (He.ga K "_law_allows_sum") ["values_v", "constraint", "at", "value"] 4 [] f__law_allows_sum := by
  have h__law_ends := ok__law_ends (P := P) (w := w) (base := base) V
  exact fok (x := "_law_allows_sum") (qual := "_law_allows_sum") (params := defArgs st__law_allows_sum) (bd := defBody st__law_allows_sum) (scope := defScope st__law_allows_sum) (V.c.def_ 33) sc__law_allows_sum rfl rfl (fun _ _ _ _ _ _ us hl => match us, hl with | [_, _, _, _], _ => rfl) fun cdv A outer s H E G =>
    dss_cons (ds_set 4 G.nd (de_int)) (dss_cons (ds_set 5 G.nd (de_int)) (dss_cons (ds_set 6 G.nd (de_bl)) (dss_cons (ds_for G.own G.calm (di_seq (de_ix G.h1 (de_var 1) (de_int))) (dg_name 7 G.nd) (dss_cons (ds_set 8 G.nd (de_callF G h__law_ends (by omega) (by rfl) (V.glo 53) (da_cons (de_var 0) (da_cons (de_ix G.h1 (de_var 7) (de_int)) (da_cons (de_var 2) (da_cons (de_var 3) (da_nil))))))) (dss_cons (ds_set 6 G.nd (de_and (de_var 6) (de_one (de_cmp (op_eqD G.h64) imp_eq (de_ix G.h1 (de_var 8) (de_int)) (de_ix G.h1 (de_var 8) (de_int)) (nomark _))))) (dss_cons (ds_set 4 G.nd (de_op op_addA imp_add (de_var 4) (de_callB (call_minA G.calm) imp_min (by rfl) (V.free 33) bt_min (da_cons (de_op op_mul imp_mul (de_ix G.h1 (de_var 7) (de_int)) (de_ix G.h1 (de_var 8) (de_int))) (da_cons (de_op op_mul imp_mul (de_ix G.h1 (de_var 7) (de_int)) (de_ix G.h1 (de_var 8) (de_int))) (da_nil)))))) (dss_one (ds_set 5 G.nd (de_op op_addA imp_add (de_var 5) (de_callB (call_maxA G.calm) imp_max (by rfl) (V.free 38) bt_max (da_cons (de_op op_mul imp_mul (de_ix G.h1 (de_var 7) (de_int)) (de_ix G.h1 (de_var 8) (de_int))) (da_cons (de_op op_mul imp_mul (de_ix G.h1 (de_var 7) (de_int)) (de_ix G.h1 (de_var 8) (de_int))) (da_nil))))))))))) (dss_cons (ds_if (dt_cmp (op_eqD G.h64) imp_eq (de_ix G.h1 (de_var 1) (de_int)) (de_str) (nomark _)) (dss_one (ds_ret (de_cmp op_le imp_le (de_var 4) (de_ix G.h1 (de_var 1) (de_int)) (nomark _)))) (dss_nil)) (dss_cons (ds_if (dt_cmp (op_eqD G.h64) imp_eq (de_ix G.h1 (de_var 1) (de_int)) (de_str) (nomark _)) (dss_one (ds_ret (de_chain op_le imp_le op_le imp_le (de_var 4) (de_ix G.h1 (de_var 1) (de_int)) (de_var 5)))) (dss_nil)) (dss_one (ds_ret (de_or (de_not (de_var 6)) (de_one (de_cmp (op_neD G.h64) imp_ne (de_var 4) (de_ix G.h1 (de_var 1) (de_int)) (nomark _)))))))))))
theorem ok__law_allows (V : Nv fa fn K mg) : Fok P w K mg base (cn K) 22 (He.ga K "_law_allows") ["values_v", "constraint", "at", "value"] 4 [] f__law_allows := by
  have h__law_own := ok__law_own (P := P) (w := w) (base := base) V
  have h__law_choice := ok__law_choice (P := P) (w := w) (base := base) V 20
  have h__law_allows_sum := ok__law_allows_sum (P := P) (w := w) (base := base) V
  exact fok (x := "_law_allows") (qual := "_law_allows") (params := defArgs st__law_allows) (bd := defBody st__law_allows) (scope := defScope st__law_allows) (V.c.def_ 34) sc__law_allows rfl rfl (fun _ _ _ _ _ _ us hl => match us, hl with | [_, _, _, _], _ => rfl) fun cdv A outer s H E G =>
    dss_cons (ds_set 4 G.nd (de_callF G h__law_own (by omega) (by rfl) (V.glo 54) (da_cons (de_var 1) (da_nil)))) (dss_cons (ds_if (dt_cmp (op_notInAll G.hu) imp_notIn (de_var 2) (de_var 4) (by with_unfolding_all rfl)) (dss_one (ds_ret (de_bl))) (dss_nil)) (dss_cons (ds_if (dt_cmp op_gt imp_gt (de_callB call_lenA imp_len (by rfl) (V.free 7) bt_len (da_cons (de_lc G.calm G.nd (di_seq (de_var 4)) (blkOk_by (own := [("variable", 13)]) (by kernel_rfl)) (fun _ _ _ _ _ => dg_name 13 G.blk.nd) (fun _ _ _ _ _ => dts_one (dt_cmp (op_eqD G.blk.h64) imp_eq (de_callB call_lenA imp_len (by rfl) (V.free 7) bt_len (da_cons (de_ix G.blk.h1 (de_var 0) (de_var 13)) (da_nil))) (de_int) (nomark _))) (fun _ _ _ _ _ => de_var 13)) (da_nil))) (de_int) (nomark _)) (dss_one (ds_ret (de_bl))) (dss_nil)) (dss_cons (ds_if (dt_cmp (op_eqD G.h64) imp_eq (de_ix G.h1 (de_var 1) (de_int)) (de_str) (nomark _)) (dss_cons (ds_if (dt_cmp (op_notInAll G.hu) imp_notIn (de_var 3) (de_ix G.h1 (de_var 0) (de_var 2)) (by with_unfolding_all rfl)) (dss_one (ds_ret (de_bl))) (dss_nil)) (dss_cons (ds_setLc (i := 5) G.calm G.nd (di_seq (de_var 4)) (blkOk_by (own := [("variable", 13)]) (by kernel_rfl)) (fun _ _ _ _ _ => dg_name 13 G.blk.nd) (fun _ _ _ _ _ => dts_one (dt_cmp (op_neD G.blk.h64) imp_ne (de_var 13) (de_var 2) (nomark _))) (fun _ _ _ _ _ => de_ix G.blk.h1 (de_var 0) (de_var 13)) (sw_true rfl rfl rfl (by decide +kernel))) (dss_one (ds_ret (de_callF G h__law_choice (by omega) (by rfl) (V.glo 52) (da_cons (de_lc G.calm G.nd (di_seq (de_var 5)) (blkOk_by (own := [("row", 14)]) (by kernel_rfl)) (fun _ _ _ _ _ => dg_name 14 G.blk.nd) (fun _ _ _ _ _ => dts_nil) (fun _ _ _ _ _ => de_lc G.blk.calm G.blk.nd (di_seq (de_var 14)) (blkOk_by (own := [("other", 15)]) (by kernel_rfl)) (fun _ _ _ _ _ => dg_name 15 G.blk.blk.nd) (fun _ _ _ _ _ => dts_one (dt_cmp (op_neD G.blk.blk.h64) imp_ne (de_var 15) (de_var 3) (nomark _))) (fun _ _ _ _ _ => de_var 15))) (da_cons (de_lst (da_nil)) (da_cons (de_int) (da_nil))))))))) (dss_nil)) (dss_cons (ds_if (dt_cmp (op_neD G.h64) imp_ne (de_ix G.h1 (de_var 1) (de_int)) (de_str) (nomark _)) (dss_one (ds_ret (de_callF G h__law_allows_sum (by omega) (by rfl) (V.glo 55) (da_cons (de_var 0) (da_cons (de_var 1) (da_cons (de_var 2) (da_cons (de_var 3) (da_nil)))))))) (dss_nil)) (dss_cons (ds_set 6 G.nd (de_ix G.h1 (de_var 0) (de_ix G.h1 (de_var 1) (de_int)))) (dss_cons (ds_set 7 G.nd (de_ix G.h1 (de_var 0) (de_ix G.h1 (de_var 1) (de_int)))) (dss_cons (ds_set 8 G.nd (de_ix G.h1 (de_var 0) (de_ix G.h1 (de_var 1) (de_int)))) (dss_cons (ds_set 9 G.nd (de_bl)) (dss_cons (ds_if (dt_cmp (op_eqD G.h64) imp_eq (de_var 2) (de_ix G.h1 (de_var 1) (de_int)) (nomark _)) (dss_cons (ds_set 10 G.nd (de_lst (da_cons (de_op op_mul imp_mul (de_ix G.h1 (de_var 6) (de_int)) (de_ix G.h1 (de_var 7) (de_int))) (da_cons (de_op op_mul imp_mul (de_ix G.h1 (de_var 6) (de_int)) (de_ix G.h1 (de_var 7) (de_op op_sub imp_sub (de_callB call_lenA imp_len (by rfl) (V.free 7) bt_len (da_cons (de_var 7) (da_nil))) (de_int)))) (da_cons (de_op op_mul imp_mul (de_ix G.h1 (de_var 6) (de_op op_sub imp_sub (de_callB call_lenA imp_len (by rfl) (V.free 7) bt_len (da_cons (de_var 6) (da_nil))) (de_int))) (de_ix G.h1 (de_var 7) (de_int))) (da_cons (de_op op_mul imp_mul (de_ix G.h1 (de_var 6) (de_op op_sub imp_sub (de_callB call_lenA imp_len (by rfl) (V.free 7) bt_len (da_cons (de_var 6) (da_nil))) (de_int))) (de_ix G.h1 (de_var 7) (de_op op_sub imp_sub (de_callB call_lenA imp_len (by rfl) (V.free 7) bt_len (da_cons (de_var 7) (da_nil))) (de_int)))) (da_nil))))))) (dss_one (ds_set 9 G.nd (de_chain op_le imp_le op_le imp_le (de_callB (call_minA G.calm) imp_min (by rfl) (V.free 33) bt_min (da_cons (de_var 10) (da_nil))) (de_var 3) (de_callB (call_maxA G.calm) imp_max (by rfl) (V.free 38) bt_max (da_cons (de_var 10) (da_nil))))))) (dss_nil)) (dss_cons (ds_for G.own G.calm (di_seq (de_tup (da_cons (de_tup (da_cons (de_ix G.h1 (de_var 1) (de_int)) (da_cons (de_var 7) (da_nil)))) (da_cons (de_tup (da_cons (de_ix G.h1 (de_var 1) (de_int)) (da_cons (de_var 6) (da_nil)))) (da_nil))))) (dg_name 11 G.nd) (dss_one (ds_if (dt_cmp (op_eqD G.h64) imp_eq (de_var 2) (de_ix G.h1 (de_var 11) (de_int)) (nomark _)) (dss_cons (ds_setLc (i := 12) G.calm G.nd (di_rng2 (by rfl) (V.free 5) (de_callB (call_minA G.calm) imp_min (by rfl) (V.free 33) bt_min (da_cons (de_ix G.h1 (de_var 11) (de_int)) (da_nil))) (de_op op_addA imp_add (de_callB (call_maxA G.calm) imp_max (by rfl) (V.free 38) bt_max (da_cons (de_ix G.h1 (de_var 11) (de_int)) (da_nil))) (de_int))) (blkOk_by (own := [("w", 16)]) (by kernel_rfl)) (fun _ _ _ _ _ => dg_name 16 G.blk.nd) (fun _ _ _ _ _ => dts_one (dt_chain op_le imp_le op_le imp_le (de_callB (call_minA G.blk.calm) imp_min (by rfl) (V.free 33) bt_min (da_cons (de_var 8) (da_nil))) (de_op op_mul imp_mul (de_var 3) (de_var 16)) (de_callB (call_maxA G.blk.calm) imp_max (by rfl) (V.free 38) bt_max (da_cons (de_var 8) (da_nil))))) (fun _ _ _ _ _ => de_var 16) (sw_true rfl rfl rfl (by decide +kernel))) (dss_one (ds_set 9 G.nd (de_and (de_var 9) (de_one (de_cmp op_gt imp_gt (de_callB call_lenA imp_len (by rfl) (V.free 7) bt_len (da_cons (de_var 12) (da_nil))) (de_int) (nomark _))))))) (dss_nil)))) (dss_one (ds_ret (de_var 9)))))))))))))
theorem ok_law (V : Nv fa fn K mg) : Fok P w K mg base (cn K) 25 (He.ga K "law") ["script"] 1 [] f_law := by
  have h__law_stream := ok__law_stream (P := P) (w := w) (base := base) V
  have h__law_problem := ok__law_problem (P := P) (w := w) (base := base) V
  have h__law_constraint := ok__law_constraint (P := P) (w := w) (base := base) V
  have h__law_draw := ok__law_draw (P := P) (w := w) (base := base) V
  have h_allows := ok_allows (P := P) (w := w) (base := base) V
  have h__law_values := ok__law_values (P := P) (w := w) (base := base) V
  have h__law_allows := ok__law_allows (P := P) (w := w) (base := base) V
  exact fok (x := "law") (qual := "law") (params := defArgs st_law) (bd := defBody st_law) (scope := defScope st_law) (V.c.def_ 35) sc_law rfl rfl (fun _ _ _ _ _ _ us hl => match us, hl with | [_], _ => rfl) fun cdv A outer s H E G =>
    dss_cons (ds_set 1 G.nd (de_callF G h__law_stream (by omega) (by rfl) (V.glo 56) (da_cons (de_var 0) (da_nil)))) (dss_cons (ds_set 2 G.nd (de_callF G h__law_problem (by omega) (by rfl) (V.glo 57) (da_cons (de_var 1) (da_cons (de_int) (da_cons (de_int) (da_nil)))))) (dss_cons (ds_set 3 G.nd (de_ix G.h1 (de_var 2) (de_int))) (dss_cons (ds_for G.own G.calm (di_rng1 (by rfl) (V.free 5) (de_int)) (dg_name 4 G.nd) (dss_cons (ds_set 5 G.nd (de_callF G h__law_constraint (by omega) (by rfl) (V.glo 51) (da_cons (de_var 1) (da_cons (de_callB call_lenA imp_len (by rfl) (V.free 7) bt_len (da_cons (de_var 3) (da_nil))) (da_nil))))) (dss_cons (ds_setLc (i := 6) G.calm G.nd (di_seq (de_var 3)) (blkOk_by (own := [("given", 9)]) (by kernel_rfl)) (fun _ _ _ _ _ => dg_name 9 G.blk.nd) (fun _ _ _ _ _ => dts_nil) (fun _ _ _ _ _ => de_callF G.blk h__law_values (by omega) (by rfl) (V.glo 58) (da_cons (de_var 9) (da_nil))) (sw_true rfl rfl rfl (by decide +kernel))) (dss_cons (ds_set 7 G.nd (de_callF G h__law_draw (by omega) (by rfl) (V.glo 47) (da_cons (de_var 1) (da_cons (de_callB call_lenA imp_len (by rfl) (V.free 7) bt_len (da_cons (de_var 3) (da_nil))) (da_nil))))) (dss_cons (ds_if (dt_cmp (op_eqD G.h64) imp_eq (de_callB call_lenA imp_len (by rfl) (V.free 7) bt_len (da_cons (de_ix G.h1 (de_var 6) (de_var 7)) (da_nil))) (de_int) (nomark _)) (dss_one (ds_cnt)) (dss_nil)) (dss_cons (ds_set 8 G.nd (de_ix G.h1 (de_ix G.h1 (de_var 6) (de_var 7)) (de_callF G h__law_draw (by omega) (by rfl) (V.glo 47) (da_cons (de_var 1) (da_cons (de_callB call_lenA imp_len (by rfl) (V.free 7) bt_len (da_cons (de_ix G.h1 (de_var 6) (de_var 7)) (da_nil))) (da_nil)))))) (dss_cons (ds_set 9 G.nd (de_callTy (call_listA G.calm) imp_list (by rfl) (V.free 4) bt_list (da_cons (de_var 3) (da_nil)))) (dss_cons (ds_set 10 G.nd (de_callF G h_allows (by omega) (by rfl) (V.glo 59) (da_cons (de_var 9) (da_cons (de_var 5) (da_cons (de_var 7) (da_cons (de_var 8) (da_nil))))))) (dss_one (ds_if (dt_w (dw_or (dt_not (dt_tr (de_callB call_isi imp_isi (by rfl) (V.free 1) bt_isinstance (da_cons (de_var 10) (da_cons (de_ty (by rfl) (V.free 2) bt_bool) (da_nil)))))) (dw_or (dt_cmp (op_neD G.h64) imp_ne (de_var 10) (de_callF G h__law_allows (by omega) (by rfl) (V.glo 60) (da_cons (de_var 6) (da_cons (de_var 5) (da_cons (de_var 7) (da_cons (de_var 8) (da_nil)))))) (nomark _)) (dw_or1 (dt_cmp (op_neD G.h64) imp_ne (de_var 9) (de_var 3) (nomark _)))))) (dss_one (ds_ret (de_bl))) (dss_nil))))))))))) (dss_one (ds_ret (de_bl))))))
end
end K56

/-! K56H: printed by gen.py: the head -/
namespace K56
open PySem PySem.W PySem.Calls PyProof.Rows
def names0 : List PySem.Str := ["HornbookError", "BadProblem", "MOST_VALUE", "is_value", "values", "is_interval", "is_domain", "Matching", "distinct_values", "MOST_VARIABLES", "MOST_SUMMANDS", "MOST_FACTOR", "MOST_BOUND", "is_integer_to", "are_variables", "are_sums", "is_constraint", "check_problem", "variables_of", "least_sum", "greatest_sum", "allows_sum", "allows_factor", "allows_times", "ends_of", "allowed", "allows", "_law_stream", "_law_draw", "_law_domain"]
def names1 : List PySem.Str := ["_law_values", "_law_small_domain", "_law_some_variables", "_law_constraint", "_law_problem", "_law_own", "_law_choice", "_law_ends", "_law_allows_sum", "_law_allows"]
def names : List PySem.Str := names0 ++ names1
abbrev R : PySem.W.OpenRow := PySem.W.OpenLaw.row PySem.Challenge.rw_hornbook_k56_allowed_values
abbrev hk : PySem.W.Hook := He.hookD 4 fa fn
def ob (s : PySem.W.SharedT) : He.AlD := He.obsDG 4 fa fn (HandSHeadRun.getT s)
theorem ob_eq (s : PySem.W.SharedT) : ob s = hk.obs s.abs := He.obsDG_eq (HandSHeadRun.getT_eq s)
theorem run (w : World) : HandSHeadRun.RunEq R (PySem.W.view R.prog [45]) hk ob 2000 names w := by
  intro os
  kernel_rfl
end K56

/-! K56E: printed by gen.py: the end -/
open PySem PySem.W PySem.Calls PyProof.Rows
theorem PySem.Challenge.cw_hornbook_k56_allowed_values_holds : PySem.Challenge.rw_hornbook_k56_allowed_values.Holds := by
  w_on; o_law
  refine HandSHeadRun.head_any (r := OpenLaw.row PySem.Challenge.rw_hornbook_k56_allowed_values) (q := view (OpenLaw.row PySem.Challenge.rw_hornbook_k56_allowed_values).prog [45]) (H := K56.hk) (ob := K56.ob) (M := 2000) (loose := K56.names) (d := HandSHeadRun.topDef (OpenLaw.row PySem.Challenge.rw_hornbook_k56_allowed_values).prog 45) (kwd := []) K56.ob_eq
    (by kernel_rfl) (fun s => by kernel_rfl) K56.run (by kernel_rfl) (by kernel_rfl) (by kernel_rfl) (by rfl) (by first | assumption | decide +kernel) (by decide +kernel) ⟨rfl, rfl, rfl, rfl, rfl, by decide +kernel⟩ ?hw ?hc
  case hw => w_witness2
  case hc =>
    exact DS.walk_d (l := PySem.Challenge.rw_hornbook_k56_allowed_values) (x := "law") (k := 25) (cnK := K56.cn) rfl (by kernel_rfl) ⟨rfl, by decide, by decide⟩ (by kernel_rfl) 61 rfl (fun w K mg base V => K56.ok_law V) K56.law_true

