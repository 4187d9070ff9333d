import PyProof.Rows.All
import Wide.All
import OpenK.AllK
import Wide.FinOn
import HandS.ForMost
import HandS.Deep
import HandS.Wide
import HandS.TupAny
import HandS.Rev
import HandS.IsInst
import HandS.RevTup
import HandS.Star
import HandS.TupMul
import HandS.GenList
import KE.GoesEnum
import KE.GoesMore
import PySem.Challenge.RW_onelaw_k06_roots
set_option Elab.async false
set_option linter.all false
set_option maxRecDepth 100000
set_option maxHeartbeats 4000000
/-! DL: a layer of plain data over the hand layer: values are trees, lists stand in a numbered store. -/
namespace DL
open PySem PySem.Spec L2

/-- plain data; ref k: the k-th cell of the store; rol: a list that is only read -/
inductive D where
  | non
  | bl (b : Bool)
  | int (i : Int)
  | str (x : Str)
  | ty (n : String)
  | tup (xs : List D)
  | rol (xs : List D)
  | ref (k : Nat)

/-- a list that nobody writes -/
def SqF (K : PySem.W.Frag) (H : Hp) (a : Addr) (xs : List V) : Prop :=
  (∃ o, H a = some (.frz o (.lst xs))) ∨
    ∃ (o : Obj) (its : Array Value) (n : Nat), K.lookup a = some o ∧ o.cls = .type "list" ∧ o.dict = none ∧ o.data = .seq its n ∧ its.size ≤ sizeLine ∧ Vals xs its.toList

mutual
def Rep (K : PySem.W.Frag) (ρ : List Addr) (H : Hp) : D → V → Prop
  | .non, v => v = .non
  | .bl b, v => v = .bl b
  | .int i, v => v = .int i
  | .str x, v => v = .str x
  | .ty n, v => v = .ty n
  | .tup xs, v => ∃ a vs, v = .ref a ∧ SqT K H a vs ∧ Reps K ρ H xs vs
  | .rol xs, v => ∃ a vs, v = .ref a ∧ SqF K H a vs ∧ Reps K ρ H xs vs
  | .ref k, v => ∃ a, ρ[k]? = some a ∧ v = .ref a
def Reps (K : PySem.W.Frag) (ρ : List Addr) (H : Hp) : List D → List V → Prop
  | [], vs => vs = []
  | d :: ds, vs => ∃ v r, vs = v :: r ∧ Rep K ρ H d v ∧ Reps K ρ H ds r
end

structure Keep (ρ ρ' : List Addr) (H H' : Hp) : Prop where
  pre : ∃ t, ρ' = ρ ++ t
  tups : ∀ a xs, H a = some (.tup xs) → H' a = some (.tup xs)
  frzs : ∀ a o u, H a = some (.frz o u) → H' a = some (.frz o u)

section
variable {K : PySem.W.Frag} {ρ ρ' ρ'' : List Addr} {H H' H'' : Hp}
theorem Keep.refl : Keep ρ ρ H H := ⟨⟨[], by simp⟩, fun _ _ h => h, fun _ _ _ h => h⟩
theorem Keep.trans (a : Keep ρ ρ' H H') (b : Keep ρ' ρ'' H' H'') : Keep ρ ρ'' H H'' := by
  obtain ⟨t, rfl⟩ := a.pre
  obtain ⟨u, rfl⟩ := b.pre
  exact ⟨⟨t ++ u, by simp⟩, fun x y h => b.tups x y (a.tups x y h), fun x y z h => b.frzs x y z (a.frzs x y z h)⟩
theorem Keep.get (k : Keep ρ ρ' H H') {i : Nat} {a : Addr} (h : ρ[i]? = some a) : ρ'[i]? = some a := by
  obtain ⟨t, rfl⟩ := k.pre
  rw [List.getElem?_append_left]
  · exact h
  · exact (List.getElem?_eq_some_iff.mp h).1
theorem Keep.sqt (k : Keep ρ ρ' H H') {a : Addr} {xs : List V} (h : SqT K H a xs) : SqT K H' a xs := by
  rcases h with (h | ⟨o, h⟩) | h
  · exact .inl (.inl (k.tups _ _ h))
  · exact .inl (.inr ⟨o, k.frzs _ _ _ h⟩)
  · exact .inr h
theorem Keep.sqf (k : Keep ρ ρ' H H') {a : Addr} {xs : List V} (h : SqF K H a xs) : SqF K H' a xs := by
  rcases h with ⟨o, h⟩ | h
  · exact .inl ⟨o, k.frzs _ _ _ h⟩
  · exact .inr h
mutual
theorem rep_keep (k : Keep ρ ρ' H H') : ∀ (d : D) (v : V), Rep K ρ H d v → Rep K ρ' H' d v
  | .non, _, h => h
  | .bl _, _, h => h
  | .int _, _, h => h
  | .str _, _, h => h
  | .ty _, _, h => h
  | .tup xs, v, h => by
    obtain ⟨a, vs, e, hs, hr⟩ := h
    exact ⟨a, vs, e, k.sqt hs, reps_keep k xs vs hr⟩
  | .rol xs, v, h => by
    obtain ⟨a, vs, e, hs, hr⟩ := h
    exact ⟨a, vs, e, k.sqf hs, reps_keep k xs vs hr⟩
  | .ref i, v, h => by
    obtain ⟨a, hs, e⟩ := h
    exact ⟨a, k.get hs, e⟩
theorem reps_keep (k : Keep ρ ρ' H H') : ∀ (ds : List D) (vs : List V), Reps K ρ H ds vs → Reps K ρ' H' ds vs
  | [], _, h => h
  | d :: ds, vs, h => by
    obtain ⟨v, r, e, h1, h2⟩ := h
    exact ⟨v, r, e, rep_keep k d v h1, reps_keep k ds r h2⟩
end
theorem Rep.keep {d : D} {v : V} (h : Rep K ρ H d v) (k : Keep ρ ρ' H H') : Rep K ρ' H' d v := rep_keep k d v h
theorem Reps.keep {ds : List D} {vs : List V} (h : Reps K ρ H ds vs) (k : Keep ρ ρ' H H') : Reps K ρ' H' ds vs := reps_keep k ds vs h
theorem Reps.nil : Reps K ρ H [] [] := by unfold Reps; rfl
theorem Reps.cons {d : D} {ds : List D} {v : V} {vs : List V} (h : Rep K ρ H d v) (hs : Reps K ρ H ds vs) : Reps K ρ H (d :: ds) (v :: vs) := by unfold Reps; exact ⟨v, vs, rfl, h, hs⟩
theorem Reps.len : ∀ {ds : List D} {vs : List V}, Reps K ρ H ds vs → ds.length = vs.length
  | [], vs, h => by unfold Reps at h; rw [h]; rfl
  | d :: ds, vs, h => by
    unfold Reps at h
    obtain ⟨v, r, rfl, _, h2⟩ := h
    rw [List.length_cons, List.length_cons, Reps.len h2]
theorem Reps.get : ∀ {ds : List D} {vs : List V} {i : Nat} {d : D}, Reps K ρ H ds vs → ds[i]? = some d → ∃ v, vs[i]? = some v ∧ Rep K ρ H d v
  | [], _, _, _, _, e => by simp at e
  | a :: ds, vs, 0, d, h, e => by
    unfold Reps at h
    obtain ⟨v, r, rfl, h1, _⟩ := h
    simp at e
    subst e
    exact ⟨v, rfl, h1⟩
  | a :: ds, vs, i + 1, d, h, e => by
    unfold Reps at h
    obtain ⟨v, r, rfl, _, h2⟩ := h
    simp at e
    obtain ⟨w, e2, h3⟩ := Reps.get h2 e
    exact ⟨w, by simpa using e2, h3⟩
theorem Reps.get2 {ds : List D} {vs : List V} {i : Nat} {v : V} (h : Reps K ρ H ds vs) (e : vs[i]? = some v) : ∃ d, ds[i]? = some d ∧ Rep K ρ H d v := by
  have hl := h.len
  have hi := (List.getElem?_eq_some_iff.mp e).1
  have hd : ds[i]? = some ds[i] := List.getElem?_eq_getElem (by omega)
  obtain ⟨w, e2, r⟩ := h.get hd
  rw [e] at e2
  cases e2
  exact ⟨_, hd, r⟩
theorem Reps.app : ∀ {ds es : List D} {vs ws : List V}, Reps K ρ H ds vs → Reps K ρ H es ws → Reps K ρ H (ds ++ es) (vs ++ ws)
  | [], _, vs, _, h, h' => by unfold Reps at h; rw [h]; exact h'
  | d :: ds, es, vs, ws, h, h' => by
    unfold Reps at h
    obtain ⟨v, r, rfl, h1, h2⟩ := h
    exact Reps.cons h1 (Reps.app h2 h')
theorem Reps.take : ∀ {ds : List D} {vs : List V} (n : Nat), Reps K ρ H ds vs → Reps K ρ H (ds.take n) (vs.take n)
  | _, _, 0, _ => Reps.nil
  | [], vs, n + 1, h => by unfold Reps at h; rw [h]; exact Reps.nil
  | d :: ds, vs, n + 1, h => by
    unfold Reps at h
    obtain ⟨v, r, rfl, h1, h2⟩ := h
    exact Reps.cons h1 (Reps.take n h2)
theorem Reps.drop : ∀ {ds : List D} {vs : List V} (n : Nat), Reps K ρ H ds vs → Reps K ρ H (ds.drop n) (vs.drop n)
  | _, _, 0, h => h
  | [], vs, n + 1, h => by unfold Reps at h; rw [h]; exact Reps.nil
  | d :: ds, vs, n + 1, h => by
    unfold Reps at h
    obtain ⟨v, r, rfl, h1, h2⟩ := h
    exact Reps.drop n h2
theorem Reps.rev : ∀ {ds : List D} {vs : List V}, Reps K ρ H ds vs → Reps K ρ H ds.reverse vs.reverse
  | [], vs, h => by unfold Reps at h; rw [h]; exact Reps.nil
  | d :: ds, vs, h => by
    unfold Reps at h
    obtain ⟨v, r, rfl, h1, h2⟩ := h
    rw [List.reverse_cons, List.reverse_cons]
    exact Reps.app (Reps.rev h2) (Reps.cons h1 Reps.nil)
theorem Reps.set : ∀ {ds : List D} {vs : List V} {d : D} {v : V} (n : Nat), Reps K ρ H ds vs → Rep K ρ H d v → Reps K ρ H (ds.set n d) (vs.set n v)
  | [], vs, _, _, _, h, _ => by unfold Reps at h; rw [h]; exact Reps.nil
  | d :: ds, vs, _, _, 0, h, q => by
    unfold Reps at h
    obtain ⟨v, r, rfl, h1, h2⟩ := h
    exact Reps.cons q h2
  | d :: ds, vs, _, _, n + 1, h, q => by
    unfold Reps at h
    obtain ⟨v, r, rfl, h1, h2⟩ := h
    exact Reps.cons h1 (Reps.set n h2 q)
theorem Reps.dropLast {ds : List D} {vs : List V} (h : Reps K ρ H ds vs) : Reps K ρ H ds.dropLast vs.dropLast := by
  rw [List.dropLast_eq_take, List.dropLast_eq_take, h.len]
  exact h.take _
theorem Reps.eraseIdx : ∀ {ds : List D} {vs : List V} (n : Nat), Reps K ρ H ds vs → Reps K ρ H (ds.eraseIdx n) (vs.eraseIdx n)
  | [], vs, _, h => by unfold Reps at h; rw [h]; exact Reps.nil
  | d :: ds, vs, 0, h => by
    unfold Reps at h
    obtain ⟨v, r, rfl, h1, h2⟩ := h
    exact h2
  | d :: ds, vs, n + 1, h => by
    unfold Reps at h
    obtain ⟨v, r, rfl, h1, h2⟩ := h
    exact Reps.cons h1 (Reps.eraseIdx n h2)
theorem Reps.repl {ds : List D} {vs : List V} (h : Reps K ρ H ds vs) : ∀ k : Nat, Reps K ρ H (List.replicate k ds).flatten (List.replicate k vs).flatten
  | 0 => Reps.nil
  | k + 1 => by
    rw [List.replicate_succ, List.replicate_succ, List.flatten_cons, List.flatten_cons]
    exact Reps.app h (Reps.repl h k)
theorem Reps.ints : ∀ (ns : List Int), Reps K ρ H (ns.map D.int) (ns.map V.int)
  | [] => Reps.nil
  | n :: ns => Reps.cons (by unfold Rep; rfl) (Reps.ints ns)
end

/-! ### the store -/
inductive O where
  | lst (xs : List D)
abbrev Store := List O

section
variable (K : PySem.W.Frag) (ρ : List Addr) (H : Hp)
def RepO (a : Addr) : O → Prop
  | .lst xs => ∃ vs, H a = some (.lst vs) ∧ Reps K ρ H xs vs
structure RelS (st : Store) : Prop where
  len : ρ.length = st.length
  nd : ρ.Nodup
  ob : ∀ (k : Nat) o, st[k]? = some o → ∃ a, ρ[k]? = some a ∧ RepO K ρ H a o
abbrev DEnv := List (Option D)
structure RelE (env : DEnv) (σ : St) : Prop where
  len : env.length = σ.length
  get : ∀ (i : Nat) d, env[i]? = some (some d) → ∃ v, σ[i]? = some (some v) ∧ Rep K ρ H d v
end

section
variable {K : PySem.W.Frag} {ρ ρ' : List Addr} {H H' : Hp} {st : Store} {env : DEnv} {σ : St}
theorem RelE.keep (r : RelE K ρ H env σ) (k : Keep ρ ρ' H H') : RelE K ρ' H' env σ :=
  ⟨r.len, fun i d e => let ⟨v, e2, q⟩ := r.get i d e; ⟨v, e2, q.keep k⟩⟩
theorem RelE.set {d : D} {v : V} (r : RelE K ρ H env σ) (i : Nat) (h : Rep K ρ H d v) : RelE K ρ H (env.set i (some d)) (σ.set i (some v)) := by
  refine ⟨by rw [List.length_set, List.length_set, r.len], fun j e he => ?_⟩
  by_cases hj : i = j
  · subst hj
    by_cases hi : i < env.length
    · rw [List.getElem?_set_self hi] at he
      cases he
      exact ⟨v, List.getElem?_set_self (by rw [← r.len]; exact hi), h⟩
    · rw [List.getElem?_eq_none (by rw [List.length_set]; omega)] at he
      cases he
  · rw [List.getElem?_set_ne hj] at he ⊢
    exact r.get j e he
theorem RelS.at {k : Nat} {a : Addr} {o : O} (r : RelS K ρ H st) (e : ρ[k]? = some a) (h : st[k]? = some o) : RepO K ρ H a o := by
  obtain ⟨b, e2, q⟩ := r.ob k o h
  rw [e] at e2
  cases e2
  exact q
theorem RelS.lst {k : Nat} {a : Addr} {xs : List D} (r : RelS K ρ H st) (e : ρ[k]? = some a) (h : st[k]? = some (.lst xs)) : ∃ vs, H a = some (.lst vs) ∧ Reps K ρ H xs vs := r.at e h
/-- the address of every cell is tracked -/
theorem RelS.tracked {k : Nat} {a : Addr} (r : RelS K ρ H st) (e : ρ[k]? = some a) : ∃ o, H a = some o := by
  have hk := (List.getElem?_eq_some_iff.mp e).1
  have hs : st[k]? = some (st[k]'(by rw [← r.len]; exact hk)) := List.getElem?_eq_getElem _
  have q := r.at e hs
  cases ho : st[k]'(by rw [← r.len]; exact hk) with
  | lst xs =>
    rw [ho] at q
    obtain ⟨vs, e2, _⟩ := q
    exact ⟨_, e2⟩
theorem keep_new {p : Addr} {o : HO} (hp : H p = none) : Keep ρ ρ H (upd H p o) :=
  ⟨⟨[], by simp⟩, fun a xs h => by rw [upd_ne (ne_of_none h hp)]; exact h, fun a ob u h => by rw [upd_ne (ne_of_none h hp)]; exact h⟩
theorem repO_new {p a : Addr} {o : HO} {ob : O} (hp : H p = none) (h : RepO K ρ H a ob) : RepO K ρ (upd H p o) a ob := by
  cases ob with
  | lst xs =>
    obtain ⟨vs, e, r⟩ := h
    exact ⟨vs, by rw [upd_ne (ne_of_none e hp)]; exact e, r.keep (keep_new hp)⟩
/-- an object that is no cell is laid -/
theorem RelS.new {p : Addr} {o : HO} (r : RelS K ρ H st) (hp : H p = none) : RelS K ρ (upd H p o) st :=
  ⟨r.len, r.nd, fun k ob e => let ⟨a, e2, q⟩ := r.ob k ob e; ⟨a, e2, repO_new hp q⟩⟩
theorem repO_keep {a : Addr} {o : O} (h : RepO K ρ H a o) (k : Keep ρ ρ' H H') (e : ∀ u, H a = some u → H' a = some u) : RepO K ρ' H' a o := by
  cases o with
  | lst xs =>
    obtain ⟨vs, e1, r⟩ := h
    exact ⟨vs, e _ e1, r.keep k⟩
theorem keep_cell {p : Addr} {o : HO} (hp : H p = none) : Keep ρ (ρ ++ [p]) H (upd H p o) :=
  ⟨⟨[p], rfl⟩, fun a xs h => by rw [upd_ne (ne_of_none h hp)]; exact h, fun a ob u h => by rw [upd_ne (ne_of_none h hp)]; exact h⟩
/-- a new cell -/
theorem RelS.cell {p : Addr} {vs : List V} {xs : List D} (r : RelS K ρ H st) (hp : H p = none) (h : Reps K ρ H xs vs) : RelS K (ρ ++ [p]) (upd H p (.lst vs)) (st ++ [.lst xs]) := by
  have kp : Keep ρ (ρ ++ [p]) H (upd H p (.lst vs)) := keep_cell hp
  refine ⟨by rw [List.length_append, List.length_append, r.len]; rfl, ?_, fun k o e => ?_⟩
  · rw [List.nodup_append]
    refine ⟨r.nd, by simp, fun a ha b hb => ?_⟩
    have hb' : b = p := by simpa using hb
    subst hb'
    obtain ⟨i, hi⟩ := List.getElem?_of_mem ha
    obtain ⟨o, ho⟩ := r.tracked hi
    exact ne_of_none ho hp
  · by_cases hk : k < st.length
    · rw [List.getElem?_append_left hk] at e
      obtain ⟨a, e2, q⟩ := r.ob k o e
      refine ⟨a, kp.get e2, repO_keep q kp fun u hu => ?_⟩
      rw [upd_ne (ne_of_none hu hp)]
      exact hu
    · have hk2 : k = st.length := by
        have := (List.getElem?_eq_some_iff.mp e).1
        rw [List.length_append, List.length_singleton] at this
        omega
      subst hk2
      rw [List.getElem?_append_right (Nat.le_refl _), Nat.sub_self] at e
      simp at e
      subst e
      refine ⟨p, ?_, vs, upd_same, h.keep kp⟩
      rw [List.getElem?_append_right (by rw [r.len]; exact Nat.le_refl _), r.len, Nat.sub_self]
      rfl
theorem keep_upd {a : Addr} {vs ws : List V} (h : H a = some (.lst vs)) : Keep ρ ρ H (upd H a (.lst ws)) :=
  ⟨⟨[], by simp⟩, fun b xs e => by rw [upd_ne (ne_of e h (by intro z; cases z))]; exact e, fun b ob u e => by rw [upd_ne (ne_of e h (by intro z; cases z))]; exact e⟩
/-- a cell is written -/
theorem RelS.put {k : Nat} {a : Addr} {vs ws : List V} {xs : List D} (r : RelS K ρ H st) (e : ρ[k]? = some a) (ha : H a = some (.lst vs)) (h : Reps K ρ H xs ws) : RelS K ρ (upd H a (.lst ws)) (st.set k (.lst xs)) := by
  have kp : Keep ρ ρ H (upd H a (.lst ws)) := keep_upd ha
  refine ⟨by rw [List.length_set, r.len], r.nd, fun j o q => ?_⟩
  by_cases hj : k = j
  · subst hj
    have hk : k < st.length := by rw [← r.len]; exact (List.getElem?_eq_some_iff.mp e).1
    rw [List.getElem?_set_self hk] at q
    cases q
    exact ⟨a, e, ws, upd_same, h.keep kp⟩
  · rw [List.getElem?_set_ne hj] at q
    obtain ⟨b, e2, q2⟩ := r.ob j o q
    refine ⟨b, e2, repO_keep q2 kp fun u hu => ?_⟩
    rw [upd_ne]
    · exact hu
    · intro z
      subst z
      exact hj (nd_ix r.nd e e2)
end

/-! ### readings over data -/
abbrev DQ := D → Store → Prop
abbrev DTE := DEnv → Store → DQ → Prop
abbrev DTT := DEnv → Store → (Bool → Store → Prop) → Prop
abbrev DTA := DEnv → Store → (List D → Store → Prop) → Prop
def PostE (K : PySem.W.Frag) (ρ : List Addr) (H : Hp) (Q : DQ) : VK := fun v H' => ∃ ρ' d st', Keep ρ ρ' H H' ∧ RelS K ρ' H' st' ∧ Rep K ρ' H' d v ∧ Q d st'
def PostT (K : PySem.W.Frag) (ρ : List Addr) (H : Hp) (Q : Bool → Store → Prop) : Bool → Hp → Prop := fun b H' => ∃ ρ' st', Keep ρ ρ' H H' ∧ RelS K ρ' H' st' ∧ Q b st'
def PostA (K : PySem.W.Frag) (ρ : List Addr) (H : Hp) (Q : List D → Store → Prop) : List V → Hp → Prop := fun vs H' => ∃ ρ' ds st', Keep ρ ρ' H H' ∧ RelS K ρ' H' st' ∧ Reps K ρ' H' ds vs ∧ Q ds st'
def Sim (K : PySem.W.Frag) (t : TE) (te : DTE) : Prop := ∀ ρ env st σ H (Q : DQ) (W : VK), RelS K ρ H st → RelE K ρ H env σ → te env st Q → (∀ v H', PostE K ρ H Q v H' → W v H') → t σ H W
def SimT (K : PySem.W.Frag) (t : TT) (te : DTT) : Prop := ∀ ρ env st σ H (Q : Bool → Store → Prop) (W : Bool → Hp → Prop), RelS K ρ H st → RelE K ρ H env σ → te env st Q → (∀ b H', PostT K ρ H Q b H' → W b H') → t σ H W
def SimA (K : PySem.W.Frag) (t : TA) (te : DTA) : Prop := ∀ ρ env st σ H (Q : List D → Store → Prop) (W : List V → Hp → Prop), RelS K ρ H st → RelE K ρ H env σ → te env st Q → (∀ vs H', PostA K ρ H Q vs H' → W vs H') → t σ H W

structure SE (X : Cx) (e : Expr) (t : TE) (te : DTE) : Prop where
  pe : PE X e t
  sim : Sim X.K t te
structure ST (X : Cx) (e : Expr) (t : TT) (te : DTT) : Prop where
  pt : PT X e t
  sim : SimT X.K t te
structure SW (X : Cx) (e : Expr) (t : TT) (te : DTT) : Prop where
  pw : PW X e t
  sim : SimT X.K t te
structure SA (X : Cx) (es : List Expr) (t : TA) (te : DTA) : Prop where
  pa : PA X es t
  sim : SimA X.K t te

section
variable {K : PySem.W.Frag} {ρ ρ' : List Addr} {H H' : Hp} {st : Store} {Q : DQ} {v : V}
theorem PostE.of {d : D} (r : RelS K ρ H st) (h : Rep K ρ H d v) (q : Q d st) : PostE K ρ H Q v H := ⟨ρ, d, st, Keep.refl, r, h, q⟩
theorem PostE.keep (k : Keep ρ ρ' H H') {H2 : Hp} (h : PostE K ρ' H' Q v H2) : PostE K ρ H Q v H2 := by
  obtain ⟨ρ2, d, st2, k2, r, p, q⟩ := h
  exact ⟨ρ2, d, st2, k.trans k2, r, p, q⟩
theorem PostT.of {Q : Bool → Store → Prop} {b : Bool} (r : RelS K ρ H st) (q : Q b st) : PostT K ρ H Q b H := ⟨ρ, st, Keep.refl, r, q⟩
theorem PostT.keep (k : Keep ρ ρ' H H') {Q : Bool → Store → Prop} {b : Bool} {H2 : Hp} (h : PostT K ρ' H' Q b H2) : PostT K ρ H Q b H2 := by
  obtain ⟨ρ2, st2, k2, r, q⟩ := h
  exact ⟨ρ2, st2, k.trans k2, r, q⟩
theorem PostA.keep (k : Keep ρ ρ' H H') {Q : List D → Store → Prop} {vs : List V} {H2 : Hp} (h : PostA K ρ' H' Q vs H2) : PostA K ρ H Q vs H2 := by
  obtain ⟨ρ2, d, st2, k2, r, p, q⟩ := h
  exact ⟨ρ2, d, st2, k.trans k2, r, p, q⟩
/-- a new tuple as the answer -/
theorem PostE.tup {p : Addr} {ds : List D} {vs : List V} (r : RelS K ρ H st) (hp : H p = none) (h : Reps K ρ H ds vs) (q : Q (.tup ds) st) : PostE K ρ H Q (.ref p) (upd H p (.tup vs)) :=
  ⟨ρ, .tup ds, st, keep_new hp, r.new hp, ⟨p, vs, rfl, .inl (.inl upd_same), h.keep (keep_new hp)⟩, q⟩
/-- a new list as the answer -/
theorem PostE.lst {p : Addr} {ds : List D} {vs : List V} (r : RelS K ρ H st) (hp : H p = none) (h : Reps K ρ H ds vs) (q : Q (.ref st.length) (st ++ [.lst ds])) : PostE K ρ H Q (.ref p) (upd H p (.lst vs)) :=
  ⟨ρ ++ [p], .ref st.length, st ++ [.lst ds], keep_cell hp, r.cell hp h, ⟨p, by rw [List.getElem?_append_right (by rw [r.len]; exact Nat.le_refl _), r.len, Nat.sub_self]; rfl, rfl⟩, q⟩
end

/-- the written part of a context -/
class HasK (X : Cx) (K : outParam PySem.W.Frag) : Prop where
  eq : X.K = K
instance {CX : CXT} {P : Program} {w : World} {K : PySem.W.Frag} {mg : Str → Option Value} {base : Heap} {N : List Str} {qual : Str} {scope : Scope} {f : Addr} {cd : Value} {A : Around} {outer : List Env} {s : Shared} {H : Hp} {E : XK} : HasK (cxOf CX P w K mg base N qual scope f cd A outer s H E) K := ⟨rfl⟩
instance {X : Cx} {K : PySem.W.Frag} {E : Value → Shared → Prop} [h : HasK X K] : HasK (X.wish E) K := ⟨h.eq⟩
instance {X : Cx} {K : PySem.W.Frag} {s : Shared} {H : Hp} {scope : Scope} {cenv : PySem.Env} {fp : List Addr} [h : HasK X K] : HasK (X.blk s H scope cenv fp) K := ⟨h.eq⟩

/-! ### names, constants -/
def dVar (i : Nat) : DTE := fun env st Q => match env[i]? with
  | some (some d) => Q d st
  | _ => False
def dC (d : D) : DTE := fun _ st Q => Q d st
section
variable {X : Cx}
theorem sim_var {K : PySem.W.Frag} {i : Nat} : Sim K (tVar i) (dVar i) := by
  intro ρ env st σ H Q W r re h w
  unfold dVar at h
  split at h
  · rename_i d e
    obtain ⟨v, e2, q⟩ := re.get i d e
    exact ⟨v, e2, w v H (.of r q h)⟩
  · exact h.elim
theorem sv (i : Nat) {x : Str} {pos : Pos} (hN : X.N[i]? = some x := by rfl) (hv : Vis X.env.scope x := by first | exact Or.inl rfl | exact Or.inr (Or.inl rfl) | exact Or.inr (Or.inr rfl)) (hd : (x == ("__debug__" : Str)) = false := by decide)
    (hcd : (x == ("__classdict__" : Str)) = false := by decide) : SE X (.Name x pos) (tVar i) (dVar i) := ⟨pe_var hN hv hd hcd, sim_var⟩
theorem sim_c {K : PySem.W.Frag} {d : D} {v : V} (h : ∀ ρ H, Rep K ρ H d v) : Sim K (tC v) (dC d) := by
  intro ρ env st σ H Q W r re q w
  exact w v H (.of r (h ρ H) q)
theorem se_int {i j pos} : SE X (.Constant (.int i) j pos) (tC (.int i)) (dC (.int i)) := ⟨pe_int, sim_c fun _ _ => by unfold Rep; rfl⟩
theorem se_bl {b j pos} : SE X (.Constant (.bool b) j pos) (tC (.bl b)) (dC (.bl b)) := ⟨pe_bl, sim_c fun _ _ => by unfold Rep; rfl⟩
theorem se_non {j pos} : SE X (.Constant .none j pos) (tC .non) (dC .non) := ⟨pe_non, sim_c fun _ _ => by unfold Rep; rfl⟩
theorem se_str {x j pos} : SE X (.Constant (.str x) j pos) (tC (.str x)) (dC (.str x)) := ⟨pe_str, sim_c fun _ _ => by unfold Rep; rfl⟩
theorem se_glob {x : Str} {d : D} {v : V} {u : Value} {pos : Pos} (hg : Gl X x) (hm : X.mg x = some u) (r : RelV v u) (h : ∀ ρ H, Rep X.K ρ H d v) (hd : (x == ("__debug__" : Str)) = false := by decide) : SE X (.Name x pos) (tC v) (dC d) := ⟨pe_glob hg hm r hd, sim_c h⟩
theorem se_bltn {x : Str} {n : String} {u : Value} {pos : Pos} (hg : Gl X x) (hm : X.mg x = none) (hv : bootBuiltins x = some u) (r : RelV (.ty n) u) (hn : x ≠ "__name__" := by decide) (hd : (x == ("__debug__" : Str)) = false := by decide) : SE X (.Name x pos) (tC (.ty n)) (dC (.ty n)) :=
  ⟨pe_bltn hg hm hv r hn hd, sim_c fun _ _ => by unfold Rep; rfl⟩
end

/-! ### operators -/
abbrev DR2 := D → D → Store → DQ → Prop
abbrev DR1 := D → Store → DQ → Prop
abbrev DRA := List D → Store → DQ → Prop
def SimR2 (K : PySem.W.Frag) (r : R2) (rd : DR2) : Prop := ∀ ρ st H x y dx dy (Q : DQ) (W : VK), RelS K ρ H st → Rep K ρ H dx x → Rep K ρ H dy y → rd dx dy st Q → (∀ v H', PostE K ρ H Q v H' → W v H') → r x y H W
def SimR1 (K : PySem.W.Frag) (r : V → Hp → VK → Prop) (rd : DR1) : Prop := ∀ ρ st H x dx (Q : DQ) (W : VK), RelS K ρ H st → Rep K ρ H dx x → rd dx st Q → (∀ v H', PostE K ρ H Q v H' → W v H') → r x H W
def SimRA (K : PySem.W.Frag) (r : List V → Hp → VK → Prop) (rd : DRA) : Prop := ∀ ρ st H xs dxs (Q : DQ) (W : VK), RelS K ρ H st → Reps K ρ H dxs xs → rd dxs st Q → (∀ v H', PostE K ρ H Q v H' → W v H') → r xs H W
def dOp (rd : DR2) (da db : DTE) : DTE := fun env st Q => da env st fun x st1 => db env st1 fun y st2 => rd x y st2 Q
def dUn (rd : DR1) (da : DTE) : DTE := fun env st Q => da env st fun x st1 => rd x st1 Q
theorem sim_op {K : PySem.W.Frag} {r : R2} {rd : DR2} {ta tb : TE} {da db : DTE} (hr : SimR2 K r rd) (ha : Sim K ta da) (hb : Sim K tb db) : Sim K (tOp r ta tb) (dOp rd da db) := by
  intro ρ env st σ H Q W rs re h w
  refine ha ρ env st σ H _ _ rs re h fun x H1 ⟨ρ1, dx, st1, k1, r1, px, q1⟩ => ?_
  refine hb ρ1 env st1 σ H1 _ _ r1 (re.keep k1) q1 fun y H2 ⟨ρ2, dy, st2, k2, r2, py, q2⟩ => ?_
  exact hr ρ2 st2 H2 x y dx dy Q W r2 (px.keep k2) py q2 fun v H' p => w v H' ((p.keep k2).keep k1)
theorem sim_un {K : PySem.W.Frag} {r : V → Hp → VK → Prop} {rd : DR1} {ta : TE} {da : DTE} (hr : SimR1 K r rd) (ha : Sim K ta da) : Sim K (tUn r ta) (dUn rd da) := by
  intro ρ env st σ H Q W rs re h w
  refine ha ρ env st σ H _ _ rs re h fun x H1 ⟨ρ1, dx, st1, k1, r1, px, q1⟩ => ?_
  exact hr ρ1 st1 H1 x dx Q W r1 px q1 fun v H' p => w v H' (p.keep k1)
/-- an operator with its rule over data -/
structure SOp (X : Cx) (f : Value → Value → Sem Value) (r : R2) (rd : DR2) : Prop where
  op : OpR X f r
  sim : SimR2 X.K r rd
structure SUn (X : Cx) (f : Value → Sem Value) (r : V → Hp → VK → Prop) (rd : DR1) : Prop where
  op : UnR X f r
  sim : SimR1 X.K r rd
section
variable {X : Cx} {a b : Expr} {ta tb : TE} {da db : DTE} {pos : Pos}
theorem se_op {op : Operator} {r : R2} {rd : DR2} (ho : SOp X (binaryOp op) r rd) (ha : SE X a ta da) (hb : SE X b tb db) : SE X (.BinOp a op b pos) (tOp r ta tb) (dOp rd da db) := ⟨pe_op ho.op ha.pe hb.pe, sim_op ho.sim ha.sim hb.sim⟩
theorem se_un {op : UnaryOp} {r : V → Hp → VK → Prop} {rd : DR1} (ho : SUn X (unaryOp op) r rd) (ha : SE X a ta da) : SE X (.UnaryOp op a pos) (tUn r ta) (dUn rd da) := ⟨pe_un ho.op ha.pe, sim_un ho.sim ha.sim⟩
theorem se_cmp {op : CmpOp} {r : R2} {rd : DR2} (ho : SOp X (compareOp op) r rd) (ha : SE X a ta da) (hb : SE X b tb db) (hm : behindInMarks op b = false) : SE X (.Compare a [op] [b] pos) (tOp r ta tb) (dOp rd da db) := ⟨pe_cmpR ho.op ha.pe hb.pe hm, sim_op ho.sim ha.sim hb.sim⟩
end
/-- a test that is a value that must be a bool -/
def dB (te : DTE) : DTT := fun env st Q => te env st fun x st1 => match x with
  | .bl b => Q b st1
  | _ => False
theorem sim_tB {K : PySem.W.Frag} {t : TE} {te : DTE} (h : Sim K t te) : SimT K (tB t) (dB te) := by
  intro ρ env st σ H Q W rs re q w
  refine h ρ env st σ H _ _ rs re q fun x H1 ⟨ρ1, dx, st1, k1, r1, px, q1⟩ => ?_
  cases dx with
  | bl b =>
    have e : x = .bl b := by unfold Rep at px; exact px
    exact ⟨b, e, w b H1 ⟨ρ1, st1, k1, r1, q1⟩⟩
  | _ => exact q1.elim
theorem sim_tTest {K : PySem.W.Frag} {t : TE} {te : DTE} (h : Sim K t te) : SimT K (tTest t) (dB te) := by
  intro ρ env st σ H Q W rs re q w
  refine h ρ env st σ H _ _ rs re q fun x H1 ⟨ρ1, dx, st1, k1, r1, px, q1⟩ => ?_
  cases dx with
  | bl b =>
    have e : x = .bl b := by unfold Rep at px; exact px
    exact ⟨b, e, w b H1 ⟨ρ1, st1, k1, r1, q1⟩⟩
  | _ => exact q1.elim
section
variable {X : Cx} {a b c : Expr} {ta tb tc : TE} {da db dc : DTE} {pos : Pos}
theorem st_cmp {op : CmpOp} {r : R2} {rd : DR2} (ho : SOp X (compareOp op) r rd) (ha : SE X a ta da) (hb : SE X b tb db) (hm : behindInMarks op b = false) : ST X (.Compare a [op] [b] pos) (tTest (tOp r ta tb)) (dB (dOp rd da db)) := ⟨pt_cmpR ho.op ha.pe hb.pe hm, sim_tTest (sim_op ho.sim ha.sim hb.sim)⟩
theorem st_val {e : Expr} {t : TE} {te : DTE} (h : SE X e t te) (he : ∀ whole, isTrue e X.env whole = (do let v ← whole; standAt e.pos; holding [v] (truthy v)) := by intro _; rfl) : ST X e (tB t) (dB te) := ⟨pt_val h.pe he, sim_tB h.sim⟩
end
/-! ### truth -/
def dTru (x : D) (st : Store) (Q : Bool → Store → Prop) : Prop := match x with
  | .non => Q false st
  | .bl b => Q b st
  | .int i => Q (i != 0) st
  | .str z => z.length ≤ sizeLine ∧ Q (z.length != 0) st
  | .tup xs => Q (!xs.isEmpty) st
  | .rol xs => Q (!xs.isEmpty) st
  | .ref k => match st[k]? with
    | some (.lst xs) => Q (!xs.isEmpty) st
    | _ => False
  | .ty _ => False
def dTruth (te : DTE) : DTT := fun env st Q => te env st fun x st1 => dTru x st1 Q
end DL

namespace DL
open PySem PySem.Spec L2

/-! ### truth, and, or, not -/
theorem sim_truth {K : PySem.W.Frag} {t : TE} {te : DTE} (h : Sim K t te) : SimT K (fun σ H Q => t σ H fun x H' => ∃ k, TruV K x H' k ∧ Q k H') (dTruth te) := by
  intro ρ env st σ H Q W rs re q w
  refine h ρ env st σ H _ _ rs re q fun x H1 ⟨ρ1, dx, st1, k1, r1, px, q1⟩ => ?_
  have fin : ∀ k, TruV K x H1 k → Q k st1 → ∃ k, TruV K x H1 k ∧ W k H1 := fun k a b => ⟨k, a, w k H1 ⟨ρ1, st1, k1, r1, b⟩⟩
  cases dx with
  | non =>
    obtain rfl : x = .non := by unfold Rep at px; exact px
    exact fin false rfl q1
  | bl b =>
    obtain rfl : x = .bl b := by unfold Rep at px; exact px
    exact fin b rfl q1
  | int i =>
    obtain rfl : x = .int i := by unfold Rep at px; exact px
    exact fin _ rfl q1
  | str z =>
    obtain rfl : x = .str z := by unfold Rep at px; exact px
    obtain ⟨hz, q1⟩ := q1
    refine fin (z.length != 0) ⟨hz, ?_⟩ q1
    rw [Bool.eq_iff_iff]
    simp
  | tup xs =>
    unfold Rep at px
    obtain ⟨a, vs, rfl, hs, hr⟩ := px
    refine fin (!xs.isEmpty) (.inr (.inl ⟨vs, hs, ?_⟩)) q1
    have hl := hr.len
    cases xs <;> cases vs <;> first | rfl | (simp at hl)
  | rol xs =>
    unfold Rep at px
    obtain ⟨a, vs, rfl, hs, hr⟩ := px
    refine fin (!xs.isEmpty) (.inl ⟨vs, ?_, ?_⟩) q1
    · rcases hs with ⟨o, h⟩ | h
      · exact .inl (.inr ⟨o, h⟩)
      · exact .inr h
    · have hl := hr.len
      cases xs <;> cases vs <;> first | rfl | (simp at hl)
  | ref k =>
    unfold Rep at px
    obtain ⟨a, ha, rfl⟩ := px
    unfold dTru at q1
    dsimp only at q1
    split at q1
    · rename_i xs e
      obtain ⟨vs, hv, hr⟩ := r1.lst ha e
      refine fin (!xs.isEmpty) (.inl ⟨vs, SqL.of hv, ?_⟩) q1
      have hl := hr.len
      cases xs <;> cases vs <;> first | rfl | (simp at hl)
    · exact q1.elim
  | ty n => exact q1.elim
theorem sqf_l {K : PySem.W.Frag} {H : Hp} {a : Addr} {xs : List V} (h : SqF K H a xs) : SqL K H a xs := by
  rcases h with ⟨o, h⟩ | h
  · exact .inl (.inr ⟨o, h⟩)
  · exact .inr h
section
variable {X : Cx} {a b : Expr} {ta tb : TE} {da db : DTE} {pos : Pos} {tA tB' : TT} {dA dB' : DTT} {rest : List Expr}
theorem st_truth {K : PySem.W.Frag} [hk : HasK X K] {e : Expr} {t : TE} {te : DTE} (h : SE X e t te) (he : ∀ whole, isTrue e X.env whole = (do let v ← whole; standAt e.pos; holding [v] (truthy v)) := by intro _; rfl) :
    ST X e (fun σ H Q => t σ H fun x H' => ∃ k, TruV K x H' k ∧ Q k H') (dTruth te) := by
  obtain rfl := hk.eq
  exact ⟨pt_truth h.pe he, sim_truth h.sim⟩
def dAnd (t u : DTT) : DTT := fun env st Q => t env st fun c st1 => if c = true then u env st1 Q else Q false st1
def dOr (t u : DTT) : DTT := fun env st Q => t env st fun c st1 => if c = true then Q true st1 else u env st1 Q
def dNot (t : DTT) : DTT := fun env st Q => t env st fun c st1 => Q (!c) st1
theorem sw_and1 (ha : ST X a tA dA) : SW X (.BoolOp .And [a] pos) tA dA := ⟨pw_and1 ha.pt, ha.sim⟩
theorem sw_or1 (ha : ST X a tA dA) : SW X (.BoolOp .Or [a] pos) tA dA := ⟨pw_or1 ha.pt, ha.sim⟩
theorem sim_and {K : PySem.W.Frag} {t u : TT} {d e : DTT} (h : SimT K t d) (h' : SimT K u e) : SimT K (tAnd t u) (dAnd d e) := by
  intro ρ env st σ H Q W rs re q w
  refine h ρ env st σ H _ _ rs re q fun c H1 ⟨ρ1, st1, k1, r1, q1⟩ => ?_
  cases c with
  | true =>
    rw [if_pos rfl] at q1 ⊢
    exact h' ρ1 env st1 σ H1 Q W r1 (re.keep k1) q1 fun b H2 p => w b H2 (p.keep k1)
  | false =>
    rw [if_neg Bool.false_ne_true] at q1 ⊢
    exact w false H1 ⟨ρ1, st1, k1, r1, q1⟩
theorem sim_or {K : PySem.W.Frag} {t u : TT} {d e : DTT} (h : SimT K t d) (h' : SimT K u e) : SimT K (tOr t u) (dOr d e) := by
  intro ρ env st σ H Q W rs re q w
  refine h ρ env st σ H _ _ rs re q fun c H1 ⟨ρ1, st1, k1, r1, q1⟩ => ?_
  cases c with
  | true =>
    rw [if_pos rfl] at q1 ⊢
    exact w true H1 ⟨ρ1, st1, k1, r1, q1⟩
  | false =>
    rw [if_neg Bool.false_ne_true] at q1 ⊢
    exact h' ρ1 env st1 σ H1 Q W r1 (re.keep k1) q1 fun b H2 p => w b H2 (p.keep k1)
theorem sim_not {K : PySem.W.Frag} {t : TT} {d : DTT} (h : SimT K t d) : SimT K (tNot t) (dNot d) := by
  intro ρ env st σ H Q W rs re q w
  exact h ρ env st σ H _ _ rs re q fun c H1 ⟨ρ1, st1, k1, r1, q1⟩ => w _ H1 ⟨ρ1, st1, k1, r1, q1⟩
theorem sw_and (ha : ST X a tA dA) (hb : SW X (.BoolOp .And (b :: rest) pos) tB' dB') : SW X (.BoolOp .And (a :: b :: rest) pos) (tAnd tA tB') (dAnd dA dB') := ⟨pw_and ha.pt hb.pw, sim_and ha.sim hb.sim⟩
theorem sw_or (ha : ST X a tA dA) (hb : SW X (.BoolOp .Or (b :: rest) pos) tB' dB') : SW X (.BoolOp .Or (a :: b :: rest) pos) (tOr tA tB') (dOr dA dB') := ⟨pw_or ha.pt hb.pw, sim_or ha.sim hb.sim⟩
theorem SW.st {e : Expr} {t : TT} {d : DTT} (h : SW X e t d) : ST X e t d := ⟨h.pw.pt, h.sim⟩
theorem st_not (ha : ST X a tA dA) : ST X (.UnaryOp .Not a pos) (tNot tA) (dNot dA) := ⟨pt_not ha.pt, sim_not ha.sim⟩
def dAndV (da db : DTE) : DTE := fun env st Q => da env st fun x st1 => match x with
  | .bl c => if c = true then db env st1 Q else Q (.bl false) st1
  | _ => False
def dOrV (da db : DTE) : DTE := fun env st Q => da env st fun x st1 => match x with
  | .bl c => if c = true then Q (.bl true) st1 else db env st1 Q
  | _ => False
def dNotV (da : DTE) : DTE := fun env st Q => da env st fun x st1 => match x with
  | .bl c => Q (.bl (!c)) st1
  | _ => False
theorem rep_bl {K : PySem.W.Frag} {ρ : List Addr} {H : Hp} {b : Bool} {v : V} (h : Rep K ρ H (.bl b) v) : v = .bl b := by unfold Rep at h; exact h
theorem rep_int {K : PySem.W.Frag} {ρ : List Addr} {H : Hp} {b : Int} {v : V} (h : Rep K ρ H (.int b) v) : v = .int b := by unfold Rep at h; exact h
theorem rep_str {K : PySem.W.Frag} {ρ : List Addr} {H : Hp} {b : Str} {v : V} (h : Rep K ρ H (.str b) v) : v = .str b := by unfold Rep at h; exact h
theorem rep_non {K : PySem.W.Frag} {ρ : List Addr} {H : Hp} {v : V} (h : Rep K ρ H .non v) : v = .non := by unfold Rep at h; exact h
theorem rep_ty {K : PySem.W.Frag} {ρ : List Addr} {H : Hp} {b : String} {v : V} (h : Rep K ρ H (.ty b) v) : v = .ty b := by unfold Rep at h; exact h
theorem rep_ref {K : PySem.W.Frag} {ρ : List Addr} {H : Hp} {k : Nat} {v : V} (h : Rep K ρ H (.ref k) v) : ∃ a, ρ[k]? = some a ∧ v = .ref a := by unfold Rep at h; exact h
theorem rep_tup {K : PySem.W.Frag} {ρ : List Addr} {H : Hp} {xs : List D} {v : V} (h : Rep K ρ H (.tup xs) v) : ∃ a vs, v = .ref a ∧ SqT K H a vs ∧ Reps K ρ H xs vs := by unfold Rep at h; exact h
theorem rep_rol {K : PySem.W.Frag} {ρ : List Addr} {H : Hp} {xs : List D} {v : V} (h : Rep K ρ H (.rol xs) v) : ∃ a vs, v = .ref a ∧ SqF K H a vs ∧ Reps K ρ H xs vs := by unfold Rep at h; exact h
theorem Rep.bl {K : PySem.W.Frag} {ρ : List Addr} {H : Hp} (b : Bool) : Rep K ρ H (.bl b) (.bl b) := by unfold Rep; rfl
theorem Rep.int {K : PySem.W.Frag} {ρ : List Addr} {H : Hp} (b : Int) : Rep K ρ H (.int b) (.int b) := by unfold Rep; rfl
theorem Rep.str {K : PySem.W.Frag} {ρ : List Addr} {H : Hp} (b : Str) : Rep K ρ H (.str b) (.str b) := by unfold Rep; rfl
theorem Rep.non {K : PySem.W.Frag} {ρ : List Addr} {H : Hp} : Rep K ρ H .non .non := by unfold Rep; rfl
theorem Rep.tup {K : PySem.W.Frag} {ρ : List Addr} {H : Hp} {a : Addr} {xs : List D} {vs : List V} (h : SqT K H a vs) (r : Reps K ρ H xs vs) : Rep K ρ H (.tup xs) (.ref a) := by unfold Rep; exact ⟨a, vs, rfl, h, r⟩
theorem Rep.ref {K : PySem.W.Frag} {ρ : List Addr} {H : Hp} {a : Addr} {k : Nat} (h : ρ[k]? = some a) : Rep K ρ H (.ref k) (.ref a) := by unfold Rep; exact ⟨a, h, rfl⟩
theorem se_one {op} {t : TE} {d : DTE} (h : SE X a t d) : SE X (.BoolOp op [a] pos) t d := ⟨pe_one h.pe, h.sim⟩
theorem se_and (ha : SE X a ta da) (hb : SE X (.BoolOp .And (b :: rest) pos) tb db) : SE X (.BoolOp .And (a :: b :: rest) pos) (tAndV ta tb) (dAndV da db) := by
  refine ⟨pe_and ha.pe hb.pe, fun ρ env st σ H Q W rs re q w => ?_⟩
  refine ha.sim ρ env st σ H _ _ rs re q fun x H1 ⟨ρ1, dx, st1, k1, r1, px, q1⟩ => ?_
  cases dx with
  | bl c =>
    refine ⟨c, rep_bl px, ?_⟩
    cases c with
    | true =>
      rw [if_pos rfl]
      exact hb.sim ρ1 env st1 σ H1 Q W r1 (re.keep k1) (by simpa using q1) fun b H2 p => w b H2 (p.keep k1)
    | false =>
      rw [if_neg Bool.false_ne_true]
      exact w _ H1 ⟨ρ1, .bl false, st1, k1, r1, .bl _, by simpa using q1⟩
  | _ => exact q1.elim
theorem se_or (ha : SE X a ta da) (hb : SE X (.BoolOp .Or (b :: rest) pos) tb db) : SE X (.BoolOp .Or (a :: b :: rest) pos) (tOrV ta tb) (dOrV da db) := by
  refine ⟨pe_or ha.pe hb.pe, fun ρ env st σ H Q W rs re q w => ?_⟩
  refine ha.sim ρ env st σ H _ _ rs re q fun x H1 ⟨ρ1, dx, st1, k1, r1, px, q1⟩ => ?_
  cases dx with
  | bl c =>
    refine ⟨c, rep_bl px, ?_⟩
    cases c with
    | true =>
      rw [if_pos rfl]
      exact w _ H1 ⟨ρ1, .bl true, st1, k1, r1, .bl _, by simpa using q1⟩
    | false =>
      rw [if_neg Bool.false_ne_true]
      exact hb.sim ρ1 env st1 σ H1 Q W r1 (re.keep k1) (by simpa using q1) fun b H2 p => w b H2 (p.keep k1)
  | _ => exact q1.elim
theorem se_not (ha : SE X a ta da) : SE X (.UnaryOp .Not a pos) (tNotV ta) (dNotV da) := by
  refine ⟨pe_not ha.pe, fun ρ env st σ H Q W rs re q w => ?_⟩
  refine ha.sim ρ env st σ H _ _ rs re q fun x H1 ⟨ρ1, dx, st1, k1, r1, px, q1⟩ => ?_
  cases dx with
  | bl c => exact ⟨c, rep_bl px, w _ H1 ⟨ρ1, .bl (!c), st1, k1, r1, .bl _, q1⟩⟩
  | _ => exact q1.elim
def dIf (t : DTT) (da db : DTE) : DTE := fun env st Q => t env st fun c st1 => if c = true then da env st1 Q else db env st1 Q
theorem se_if {c : Expr} (hc : ST X c tA dA) (ha : SE X a ta da) (hb : SE X b tb db) : SE X (.IfExp c a b pos) (tIf tA ta tb) (dIf dA da db) := by
  refine ⟨pe_ifExp hc.pt ha.pe hb.pe, fun ρ env st σ H Q W rs re q w => ?_⟩
  refine hc.sim ρ env st σ H _ _ rs re q fun c H1 ⟨ρ1, st1, k1, r1, q1⟩ => ?_
  cases c with
  | true =>
    rw [if_pos rfl] at q1 ⊢
    exact ha.sim ρ1 env st1 σ H1 Q W r1 (re.keep k1) q1 fun b H2 p => w b H2 (p.keep k1)
  | false =>
    rw [if_neg Bool.false_ne_true] at q1 ⊢
    exact hb.sim ρ1 env st1 σ H1 Q W r1 (re.keep k1) q1 fun b H2 p => w b H2 (p.keep k1)
end

/-! ### arithmetic -/
def dII (C : Int → Int → Prop) (g : Int → Int → D) : DR2 := fun x y st Q => match x, y with
  | .int i, .int j => C i j ∧ Q (g i j) st
  | _, _ => False
theorem sim_ii {K : PySem.W.Frag} {C : Int → Int → Prop} {g : Int → Int → Int} : SimR2 K (rI C fun i j => .int (g i j)) (dII C fun i j => .int (g i j)) := by
  intro ρ st H x y dx dy Q W rs px py q w
  cases dx with
  | int i =>
    cases dy with
    | int j => exact ⟨i, j, rep_int px, rep_int py, q.1, w _ H (.of rs (.int _) q.2)⟩
    | _ => exact q.elim
  | _ => exact q.elim
def dI0 (g : Int → Int → D) : DR2 := fun x y st Q => match x, y with
  | .int i, .int j => Q (g i j) st
  | _, _ => False
theorem sim_i0 {K : PySem.W.Frag} {g : Int → Int → Int} : SimR2 K (rI0 fun i j => .int (g i j)) (dI0 fun i j => .int (g i j)) := by
  intro ρ st H x y dx dy Q W rs px py q w
  cases dx with
  | int i =>
    cases dy with
    | int j => exact ⟨i, j, rep_int px, rep_int py, w _ H (.of rs (.int _) q)⟩
    | _ => exact q.elim
  | _ => exact q.elim
theorem sim_b0 {K : PySem.W.Frag} {g : Int → Int → Bool} : SimR2 K (rI0 fun i j => .bl (g i j)) (dI0 fun i j => .bl (g i j)) := by
  intro ρ st H x y dx dy Q W rs px py q w
  cases dx with
  | int i =>
    cases dy with
    | int j => exact ⟨i, j, rep_int px, rep_int py, w _ H (.of rs (.bl _) q)⟩
    | _ => exact q.elim
  | _ => exact q.elim
theorem OpR.or {X : Cx} {f : Value → Value → Sem Value} {r r' : R2} (h : OpR X f r) (h' : OpR X f r') : OpR X f (fun x y H Q => r x y H Q ∨ r' x y H Q) := by
  intro pins s σ H x y v u Q I rx ry q
  rcases q with q | q
  · exact h pins s σ H x y v u Q I rx ry q
  · exact h' pins s σ H x y v u Q I rx ry q
def dSub : DR2 := dI0 fun i j => .int (i - j)
def dLt : DR2 := dI0 fun i j => .bl (decide (i < j))
def dLe : DR2 := dI0 fun i j => .bl (decide (i ≤ j))
def dGt : DR2 := dI0 fun i j => .bl (decide (j < i))
def dGe : DR2 := dI0 fun i j => .bl (decide (j ≤ i))
def CMulA (i j : Int) : Prop := CMul i j ∨ CMulW i j
def dPow : DR2 := dII CPow fun i j => .int (i ^ j.toNat)
def CDivA (i j : Int) : Prop := CDivN i j ∨ CDivW i j
def dFdiv : DR2 := dII CDivA fun i j => .int (i.fdiv j)
def dMod : DR2 := dII (fun _ j => j ≠ 0) fun i j => .int (i.fmod j)
def dNeg : DR1 := fun x st Q => match x with
  | .int i => Q (.int (-i)) st
  | _ => False
section
variable {X : Cx}
theorem so_sub : SOp X (binaryOp .Sub) (rI0 fun i j => .int (i - j)) dSub := ⟨op_sub, sim_i0⟩
theorem so_lt : SOp X (compareOp .Lt) (rI0 fun i j => .bl (decide (i < j))) dLt := ⟨op_lt, sim_b0⟩
theorem so_le : SOp X (compareOp .LtE) (rI0 fun i j => .bl (decide (i ≤ j))) dLe := ⟨op_le, sim_b0⟩
theorem so_gt : SOp X (compareOp .Gt) (rI0 fun i j => .bl (decide (j < i))) dGt := ⟨op_gt, sim_b0⟩
theorem so_ge : SOp X (compareOp .GtE) (rI0 fun i j => .bl (decide (j ≤ i))) dGe := ⟨op_ge, sim_b0⟩
theorem so_pow : SOp X (binaryOp .Pow) (rI CPow fun i j => .int (i ^ j.toNat)) dPow := ⟨op_pow, sim_ii⟩
theorem so_mod : SOp X (binaryOp .Mod) (rI (fun _ j => j ≠ 0) fun i j => .int (i.fmod j)) dMod := ⟨op_modN, sim_ii⟩
theorem op_fdivA : OpR X (binaryOp .FloorDiv) (rI CDivA fun i j => .int (i.fdiv j)) := by
  intro pins s σ H x y v u Q I rx ry h
  obtain ⟨i, j, rfl, rfl, hc, q⟩ := h
  rcases hc with hc | hc
  · exact op_fdivN pins s σ H _ _ v u Q I rx ry ⟨i, j, rfl, rfl, hc, q⟩
  · refine op_fdivW pins s σ H _ _ v u Q I rx ry ⟨i, j, rfl, rfl, hc, ?_⟩
    show Q (.int (i / j)) H
    rw [← Int.fdiv_eq_ediv_of_nonneg i (Int.le_of_lt hc.1)]
    exact q
theorem so_fdiv : SOp X (binaryOp .FloorDiv) (rI CDivA fun i j => .int (i.fdiv j)) dFdiv := ⟨op_fdivA, sim_ii⟩
theorem su_neg : SUn X (unaryOp .USub) (rU fun i => .int (-i)) dNeg := by
  refine ⟨un_neg, fun ρ st H x dx Q W rs px q w => ?_⟩
  cases dx with
  | int i => exact ⟨i, rep_int px, w _ H (.of rs (.int _) q)⟩
  | _ => exact q.elim
end

/-! ### + and * -/
def dAdd : DR2 := fun x y st Q => match x, y with
  | .int i, .int j => Q (.int (i + j)) st
  | .tup a, .tup b => a.length + b.length ≤ sizeLine ∧ Q (.tup (a ++ b)) st
  | .ref k, .ref l => match st[k]?, st[l]? with
    | some (.lst a), some (.lst b) => a.length + b.length ≤ sizeLine ∧ Q (.ref st.length) (st ++ [.lst (a ++ b)])
    | _, _ => False
  | .str a, .str b => a.length + b.length ≤ sizeLine ∧ Q (.str (a ++ b)) st
  | _, _ => False
def rAddAll (K : PySem.W.Frag) : R2 := fun x y H Q => ((rI0 fun i j => .int (i + j)) x y H Q ∨ rCatA K x y H Q) ∨ (rCat x y H Q ∨ (∃ i j, x = .str i ∧ y = .str j ∧ i.length + j.length ≤ sizeLine ∧ Q (.str (i ++ j)) H))
theorem sim_add {K : PySem.W.Frag} : SimR2 K (rAddAll K) dAdd := by
  intro ρ st H x y dx dy Q W rs px py q w
  cases dx with
  | int i =>
    cases dy with
    | int j => exact .inl (.inl ⟨i, j, rep_int px, rep_int py, w _ H (.of rs (.int _) q)⟩)
    | _ => exact q.elim
  | str i =>
    cases dy with
    | str j => exact .inr (.inr ⟨i, j, rep_str px, rep_str py, q.1, w _ H (.of rs (.str _) q.2)⟩)
    | _ => exact q.elim
  | tup a =>
    cases dy with
    | tup b =>
      obtain ⟨p, vs, rfl, h1, r1⟩ := rep_tup px
      obtain ⟨p2, ws, rfl, h2, r2⟩ := rep_tup py
      obtain ⟨hz, q⟩ := q
      refine .inl (.inr ⟨p, p2, vs, ws, rfl, rfl, h1, h2, by rw [← r1.len, ← r2.len]; exact hz, fun e => ?_, fun _ e => ?_, fun _ _ p3 hp => ?_⟩)
      · refine w _ H (.of rs (d := .tup (a ++ b)) (.tup h2 ?_) q)
        rw [e] at r1
        have : a = [] := List.eq_nil_of_length_eq_zero (by rw [r1.len]; rfl)
        rw [this]
        exact r2
      · refine w _ H (.of rs (d := .tup (a ++ b)) (.tup h1 ?_) q)
        rw [e] at r2
        have : b = [] := List.eq_nil_of_length_eq_zero (by rw [r2.len]; rfl)
        rw [this, List.append_nil]
        exact r1
      · exact w _ _ (.tup rs hp (r1.app r2) q)
    | _ => exact q.elim
  | ref k =>
    cases dy with
    | ref l =>
      obtain ⟨p, h1, rfl⟩ := rep_ref px
      obtain ⟨p2, h2, rfl⟩ := rep_ref py
      unfold dAdd at q
      dsimp only at q
      split at q
      · rename_i a b e1 e2
        obtain ⟨vs, hv, r1⟩ := rs.lst h1 e1
        obtain ⟨ws, hw, r2⟩ := rs.lst h2 e2
        obtain ⟨hz, q⟩ := q
        exact .inr (.inl ⟨p, p2, vs, ws, rfl, rfl, hv, hw, by rw [← r1.len, ← r2.len]; exact hz, fun p3 hp => w _ _ (.lst rs hp (r1.app r2) q)⟩)
      · exact q.elim
    | _ => exact q.elim
  | _ => exact q.elim
theorem so_add {X : Cx} {K : PySem.W.Frag} [hk : HasK X K] : SOp X (binaryOp .Add) (rAddAll K) dAdd := by
  obtain rfl := hk.eq
  exact ⟨.or (.or op_add op_catA) (.or op_cat op_add_str), sim_add⟩
def dMul : DR2 := fun x y st Q => match x, y with
  | .int i, .int j => CMulA i j ∧ Q (.int (i * j)) st
  | .ref k, .int n => match st[k]? with
    | some (.lst a) => -(2 ^ 63) ≤ n ∧ n < 2 ^ 63 ∧ a.length * n.toNat ≤ sizeLine ∧ Q (.ref st.length) (st ++ [.lst (List.replicate n.toNat a).flatten])
    | _ => False
  | _, _ => False
def rMulAll : R2 := fun x y H Q => ((rI CMul fun i j => .int (i * j)) x y H Q ∨ (rI CMulW fun i j => .int (i * j)) x y H Q) ∨ rRep x y H Q
theorem sim_mul {K : PySem.W.Frag} : SimR2 K rMulAll dMul := by
  intro ρ st H x y dx dy Q W rs px py q w
  cases dx with
  | int i =>
    cases dy with
    | int j =>
      rcases q.1 with c | c
      · exact .inl (.inl ⟨i, j, rep_int px, rep_int py, c, w _ H (.of rs (.int _) q.2)⟩)
      · exact .inl (.inr ⟨i, j, rep_int px, rep_int py, c, w _ H (.of rs (.int _) q.2)⟩)
    | _ => exact q.elim
  | ref k =>
    cases dy with
    | int n =>
      obtain ⟨p, h1, rfl⟩ := rep_ref px
      obtain rfl := rep_int py
      unfold dMul at q
      dsimp only at q
      split at q
      · rename_i a e1
        obtain ⟨vs, hv, r1⟩ := rs.lst h1 e1
        obtain ⟨b1, b2, hz, q⟩ := q
        exact .inr ⟨p, n, vs, rfl, rfl, hv, b1, b2, by rw [← r1.len]; exact hz, fun p3 hp => w _ _ (.lst rs hp (r1.repl _) q)⟩
      · exact q.elim
    | _ => exact q.elim
  | _ => exact q.elim
theorem so_mul {X : Cx} : SOp X (binaryOp .Mult) rMulAll dMul := ⟨.or (.or op_mul op_mulW) op_rep, sim_mul⟩

/-! ### ==, in -/
mutual
def D.py : D → PyData
  | .non => .none
  | .bl b => .bool b
  | .int i => .int i
  | .str x => .str x
  | .tup xs => .tuple (D.pys xs)
  | .rol xs => .list (D.pys xs)
  | .ty _ => .none
  | .ref _ => .none
def D.pys : List D → List PyData
  | [] => []
  | d :: ds => d.py :: D.pys ds
end
/-- no cell in it, and at most so deep -/
def D.fl : Nat → D → Bool
  | _, .non => true
  | _, .bl _ => true
  | _, .int _ => true
  | _, .str x => PyData.strOk x
  | 0, _ => false
  | n + 1, .tup xs => xs.all (D.fl n)
  | n + 1, .rol xs => xs.all (D.fl n)
  | _, .ty _ => false
  | _, .ref _ => false
theorem pys_map : ∀ ds : List D, D.pys ds = ds.map D.py
  | [] => rfl
  | d :: ds => by rw [D.pys, pys_map ds]; rfl
theorem fl_dp {K : PySem.W.Frag} {ρ : List Addr} {H : Hp} : ∀ (n : Nat) (d : D) (v : V), d.fl n = true → Rep K ρ H d v → Dp K H v d.py := by
  intro n
  induction n with
  | zero =>
    intro d v h r
    cases d with
    | non => rw [rep_non r]; exact .non
    | bl b => rw [rep_bl r]; exact .bl b
    | int i => rw [rep_int r]; exact .int i
    | str x => rw [rep_str r]; exact .str x
    | _ => simp [D.fl] at h
  | succ n ih =>
    have all : ∀ (ds : List D) (vs : List V), ds.all (D.fl n) = true → Reps K ρ H ds vs → DpAll K H vs (D.pys ds) := by
      intro ds
      induction ds with
      | nil =>
        intro vs _ r
        unfold Reps at r
        rw [r]
        exact .nil
      | cons d ds ih2 =>
        intro vs h r
        unfold Reps at r
        obtain ⟨v, w, rfl, r1, r2⟩ := r
        rw [List.all_cons, Bool.and_eq_true] at h
        exact .cons (ih d v h.1 r1) (ih2 w h.2 r2)
    intro d v h r
    cases d with
    | non => rw [rep_non r]; exact .non
    | bl b => rw [rep_bl r]; exact .bl b
    | int i => rw [rep_int r]; exact .int i
    | str x => rw [rep_str r]; exact .str x
    | tup xs =>
      obtain ⟨a, vs, rfl, hs, hr⟩ := rep_tup r
      exact .tup hs (all xs vs h hr)
    | rol xs =>
      obtain ⟨a, vs, rfl, hs, hr⟩ := rep_rol r
      exact .lst (sqf_l hs) (all xs vs h hr)
    | _ => simp [D.fl] at h
theorem fl_lay : ∀ (n : Nat) (d : D), d.fl n = true → d.py.canLay0 = true ∧ d.py.depth ≤ n := by
  intro n
  induction n with
  | zero =>
    intro d h
    cases d <;> first | (simp [D.fl] at h; done) | (simp [D.py, PyData.canLay0, PyData.depth]; done) | (simp [D.py, PyData.canLay0, PyData.depth]; simpa [D.fl] using h)
  | succ n ih =>
    have all : ∀ ds : List D, ds.all (D.fl n) = true → PyData.canLayAll0 (D.pys ds) = true ∧ PyData.depthAll (D.pys ds) ≤ n := by
      intro ds
      induction ds with
      | nil => intro _; simp [D.pys, PyData.canLayAll0, PyData.depthAll]
      | cons d ds ih2 =>
        intro h
        rw [List.all_cons, Bool.and_eq_true] at h
        obtain ⟨a1, a2⟩ := ih d h.1
        obtain ⟨b1, b2⟩ := ih2 h.2
        rw [D.pys, PyData.canLayAll0, PyData.depthAll]
        exact ⟨by rw [a1, b1]; rfl, by omega⟩
    intro d h
    cases d with
    | tup xs =>
      obtain ⟨a1, a2⟩ := all xs h
      rw [D.py, PyData.canLay0, PyData.depth]
      exact ⟨a1, by omega⟩
    | rol xs =>
      obtain ⟨a1, a2⟩ := all xs h
      rw [D.py, PyData.canLay0, PyData.depth]
      exact ⟨a1, by omega⟩
    | ty _ => simp [D.fl] at h
    | ref _ => simp [D.fl] at h
    | str x => simp [D.py, PyData.canLay0, PyData.depth]; simpa [D.fl] using h
    | _ => simp [D.py, PyData.canLay0, PyData.depth]
theorem fl_shaped {n : Nat} {d : D} (h : d.fl n = true) (hn : n ≤ 64) : SeqAt.shaped d.py = true := by
  obtain ⟨a, b⟩ := fl_lay n d h
  unfold SeqAt.shaped
  rw [a, decide_eq_true (by omega)]
  rfl
theorem fl_shapeds {n : Nat} {ds : List D} (h : ds.all (D.fl n) = true) (hn : n < 64) : SeqAt.shaped (.list (D.pys ds)) = true := by
  have q : (D.rol ds).fl (n + 1) = true := h
  exact fl_shaped (d := .rol ds) q (by omega)
/-- what == sees -/
def pyd (st : Store) (d : D) : Option PyData := if d.fl 8 = true then some d.py else match d with
  | .ref k => match st[k]? with
    | some (.lst xs) => if xs.all (D.fl 8) = true then some (.list (D.pys xs)) else none
    | _ => none
  | _ => none
theorem pyd_dp {K : PySem.W.Frag} {ρ : List Addr} {H : Hp} {st : Store} {d : D} {v : V} {p : PyData} (r : RelS K ρ H st) (h : Rep K ρ H d v) (e : pyd st d = some p) : Dp K H v p ∧ SeqAt.shaped p = true := by
  unfold pyd at e
  split at e
  · rename_i hf
    cases e
    exact ⟨fl_dp 8 d v hf h, fl_shaped hf (by omega)⟩
  · split at e
    · rename_i k hn
      obtain ⟨a, ha, rfl⟩ := rep_ref h
      split at e
      · rename_i xs ex
        split at e
        · rename_i hall
          cases e
          obtain ⟨vs, hv, hr⟩ := r.lst ha ex
          refine ⟨.lst (SqL.of hv) ?_, fl_shapeds hall (by omega)⟩
          have all : ∀ (ds : List D) (vs : List V), ds.all (D.fl 8) = true → Reps K ρ H ds vs → DpAll K H vs (D.pys ds) := by
            intro ds
            induction ds with
            | nil =>
              intro vs _ r
              unfold Reps at r
              rw [r]
              exact .nil
            | cons d ds ih2 =>
              intro vs h r
              unfold Reps at r
              obtain ⟨v, w, rfl, r1, r2⟩ := r
              rw [List.all_cons, Bool.and_eq_true] at h
              exact .cons (fl_dp 8 d v h.1 r1) (ih2 w h.2 r2)
          exact all xs vs hall hr
        · cases e
      · cases e
    · cases e
def dEqv (st : Store) (x y : D) : Option Bool := match pyd st x, pyd st y with
  | some a, some b => some (PyData.eqv a b)
  | _, _ => none
def dEq : DR2 := fun x y st Q => match dEqv st x y with
  | some b => Q (.bl b) st
  | none => False
def dNe : DR2 := fun x y st Q => match dEqv st x y with
  | some b => Q (.bl (!b)) st
  | none => False
theorem sim_eq {K : PySem.W.Frag} : SimR2 K (rEqD K) dEq := by
  intro ρ st H x y dx dy Q W rs px py q w
  unfold dEq dEqv at q
  split at q
  · rename_i b e
    split at e
    · rename_i p1 p2 e1 e2
      cases e
      obtain ⟨a1, a2⟩ := pyd_dp rs px e1
      obtain ⟨b1, b2⟩ := pyd_dp rs py e2
      exact ⟨p1, p2, a1, b1, a2, b2, w _ H (.of rs (.bl _) q)⟩
    · cases e
  · exact q.elim
theorem sim_ne {K : PySem.W.Frag} : SimR2 K (rNeD K) dNe := by
  intro ρ st H x y dx dy Q W rs px py q w
  unfold dNe dEqv at q
  split at q
  · rename_i b e
    split at e
    · rename_i p1 p2 e1 e2
      cases e
      obtain ⟨a1, a2⟩ := pyd_dp rs px e1
      obtain ⟨b1, b2⟩ := pyd_dp rs py e2
      exact ⟨p1, p2, a1, b1, a2, b2, w _ H (.of rs (.bl _) q)⟩
    · cases e
  · exact q.elim
section
variable {X : Cx}
theorem so_eq {K : PySem.W.Frag} [hk : HasK X K] {k : Nat} (hr : Room k X.A) : SOp X (compareOp .Eq) (rEqD K) dEq := by
  obtain rfl := hk.eq
  exact ⟨op_eqD hr.units, sim_eq⟩
theorem so_ne {K : PySem.W.Frag} [hk : HasK X K] {k : Nat} (hr : Room k X.A) : SOp X (compareOp .NotEq) (rNeD K) dNe := by
  obtain rfl := hk.eq
  exact ⟨op_neD hr.units, sim_ne⟩
end
/-- x in l, l a list of flat data; x in a text -/
def dMem (st : Store) (x y : D) : Option Bool := match y with
  | .ref k => match st[k]? with
    | some (.lst xs) => if x.fl 8 = true ∧ xs.all (D.fl 8) = true then some (xs.any fun z => PyData.eqv z.py x.py) else none
    | _ => none
  | .str b => match x with
    | .str a => some (!(Builtin.Str.occurrences b a 0 b.length 1).isEmpty)
    | _ => none
  | _ => none
def dIn : DR2 := fun x y st Q => match dMem st x y with
  | some b => Q (.bl b) st
  | none => False
def dNotIn : DR2 := fun x y st Q => match dMem st x y with
  | some b => Q (.bl (!b)) st
  | none => False
def rInA (K : PySem.W.Frag) : R2 := fun x y H Q => rInD K x y H Q ∨ (∃ i j, x = .str i ∧ y = .str j ∧ Q (.bl (!(Builtin.Str.occurrences j i 0 j.length 1).isEmpty)) H)
def rNotInA (K : PySem.W.Frag) : R2 := fun x y H Q => rNotInD K x y H Q ∨ (∃ i j, x = .str i ∧ y = .str j ∧ Q (.bl (!(!(Builtin.Str.occurrences j i 0 j.length 1).isEmpty))) H)
theorem any_pys (p : D) : ∀ xs : List D, ((D.pys xs).any fun z => PyData.eqv z p.py) = xs.any fun z => PyData.eqv z.py p.py
  | [] => rfl
  | x :: xs => by rw [D.pys, List.any_cons, List.any_cons, any_pys p xs]
theorem dp_list {K : PySem.W.Frag} {ρ : List Addr} {H : Hp} {ds : List D} {vs : List V} {a : Addr} (hv : H a = some (.lst vs)) (h : ds.all (D.fl 8) = true) (r : Reps K ρ H ds vs) : Dp K H (.ref a) (.list (D.pys ds)) := by
  refine .lst (SqL.of hv) ?_
  clear hv
  induction ds generalizing vs with
  | nil =>
    unfold Reps at r
    rw [r]
    exact .nil
  | cons d ds ih =>
    unfold Reps at r
    obtain ⟨v, w, rfl, r1, r2⟩ := r
    rw [List.all_cons, Bool.and_eq_true] at h
    exact .cons (fl_dp 8 d v h.1 r1) (ih h.2 r2)
theorem sim_in {K : PySem.W.Frag} : SimR2 K (rInA K) dIn := by
  intro ρ st H x y dx dy Q W rs px py q w
  unfold dIn dMem at q
  split at q
  · rename_i b e
    cases dy with
    | ref k =>
      dsimp only at e
      obtain ⟨a, ha, rfl⟩ := rep_ref py
      split at e
      · rename_i xs ex
        split at e
        · rename_i hf
          cases e
          obtain ⟨vs, hv, hr⟩ := rs.lst ha ex
          refine .inl ⟨dx.py, D.pys xs, fl_dp 8 dx x hf.1 px, dp_list hv hf.2 hr, fl_shaped hf.1 (by omega), fl_shapeds hf.2 (by omega), ?_⟩
          rw [any_pys]
          exact w _ H (.of rs (.bl _) q)
        · cases e
      · cases e
    | str j =>
      cases dx with
      | str i =>
        cases e
        exact .inr ⟨i, j, rep_str px, rep_str py, w _ H (.of rs (.bl _) q)⟩
      | _ => cases e
    | _ => cases e
  · exact q.elim
theorem sim_notIn {K : PySem.W.Frag} : SimR2 K (rNotInA K) dNotIn := by
  intro ρ st H x y dx dy Q W rs px py q w
  unfold dNotIn dMem at q
  split at q
  · rename_i b e
    cases dy with
    | ref k =>
      dsimp only at e
      obtain ⟨a, ha, rfl⟩ := rep_ref py
      split at e
      · rename_i xs ex
        split at e
        · rename_i hf
          cases e
          obtain ⟨vs, hv, hr⟩ := rs.lst ha ex
          refine .inl ⟨dx.py, D.pys xs, fl_dp 8 dx x hf.1 px, dp_list hv hf.2 hr, fl_shaped hf.1 (by omega), fl_shapeds hf.2 (by omega), ?_⟩
          rw [any_pys]
          exact w _ H (.of rs (.bl _) q)
        · cases e
      · cases e
    | str j =>
      cases dx with
      | str i =>
        cases e
        exact .inr ⟨i, j, rep_str px, rep_str py, w _ H (.of rs (.bl _) q)⟩
      | _ => cases e
    | _ => cases e
  · exact q.elim
section
variable {X : Cx}
theorem so_in {K : PySem.W.Frag} [hk : HasK X K] {k : Nat} (hr : Room k X.A) : SOp X (compareOp .In) (rInA K) dIn := by
  obtain rfl := hk.eq
  exact ⟨.or (op_inD (by have := hr.un; omega)) op_in_str, sim_in⟩
theorem so_notIn {K : PySem.W.Frag} [hk : HasK X K] {k : Nat} (hr : Room k X.A) : SOp X (compareOp .NotIn) (rNotInA K) dNotIn := by
  obtain rfl := hk.eq
  exact ⟨.or (op_notInD (by have := hr.un; omega)) op_notin_str, sim_notIn⟩
def D.isNon : D → Bool
  | .non => true
  | _ => false
def dIsN : DR2 := fun x y st Q => match y with
  | .non => Q (.bl x.isNon) st
  | _ => False
def dNotN : DR2 := fun x y st Q => match y with
  | .non => Q (.bl (!x.isNon)) st
  | _ => False
theorem rep_isN {K : PySem.W.Frag} {ρ : List Addr} {H : Hp} {d : D} {v : V} (h : Rep K ρ H d v) : decide (v = .non) = d.isNon := by
  cases d with
  | non => rw [rep_non h]; rfl
  | bl b => rw [rep_bl h]; rfl
  | int b => rw [rep_int h]; rfl
  | str b => rw [rep_str h]; rfl
  | ty b => rw [rep_ty h]; rfl
  | tup xs => obtain ⟨a, vs, rfl, _⟩ := rep_tup h; rfl
  | rol xs => obtain ⟨a, vs, rfl, _⟩ := rep_rol h; rfl
  | ref k => obtain ⟨a, _, rfl⟩ := rep_ref h; rfl
theorem so_isN : SOp X (compareOp .Is) (fun x y H Q => y = .non ∧ Q (.bl (decide (x = .non))) H) dIsN := by
  refine ⟨op_isN, fun ρ st H x y dx dy Q W rs px py q w => ?_⟩
  cases dy with
  | non =>
    refine ⟨rep_non py, ?_⟩
    rw [rep_isN px]
    exact w _ H (.of rs (.bl _) q)
  | _ => exact q.elim
theorem so_notN : SOp X (compareOp .IsNot) (fun x y H Q => y = .non ∧ Q (.bl (!decide (x = .non))) H) dNotN := by
  refine ⟨op_notN, fun ρ st H x y dx dy Q W rs px py q w => ?_⟩
  cases dy with
  | non =>
    refine ⟨rep_non py, ?_⟩
    rw [rep_isN px]
    exact w _ H (.of rs (.bl _) q)
  | _ => exact q.elim
end
end DL

namespace DL
open PySem PySem.Spec L2

/-! ### arguments, displays, calls -/
def dNil : DTA := fun _ st Q => Q [] st
def dCons (da : DTE) (dr : DTA) : DTA := fun env st Q => da env st fun x st1 => dr env st1 fun xs st2 => Q (x :: xs) st2
def dTup (da : DTA) : DTE := fun env st Q => da env st fun xs st1 => xs.length ≤ sizeLine ∧ Q (.tup xs) st1
def dLst (da : DTA) : DTE := fun env st Q => da env st fun xs st1 => xs.length ≤ sizeLine ∧ Q (.ref st1.length) (st1 ++ [.lst xs])
section
variable {X : Cx} {e : Expr} {es : List Expr} {te : TE} {t : TA} {de : DTE} {da : DTA} {pos : Pos}
theorem sa_nil : SA X [] tNil dNil := ⟨pa_nil, fun ρ env st σ H Q W rs re q w => w [] H ⟨ρ, [], st, Keep.refl, rs, Reps.nil, q⟩⟩
theorem sa_cons (ha : SE X e te de) (hr : SA X es t da) (hs : starEach (e :: es) X.env = (false, eval e X.env) :: starEach es X.env := by rfl) : SA X (e :: es) (tCons te t) (dCons de da) := by
  refine ⟨pa_cons ha.pe hr.pa hs, fun ρ env st σ H Q W rs re q w => ?_⟩
  refine ha.sim ρ env st σ H _ _ rs re q fun x H1 ⟨ρ1, dx, st1, k1, r1, px, q1⟩ => ?_
  refine hr.sim ρ1 env st1 σ H1 _ _ r1 (re.keep k1) q1 fun xs H2 ⟨ρ2, dxs, st2, k2, r2, pxs, q2⟩ => ?_
  exact w (x :: xs) H2 ⟨ρ2, dx :: dxs, st2, k1.trans k2, r2, .cons (px.keep k2) pxs, q2⟩
theorem se_tup {x1} (h : SA X es t da) : SE X (.Tuple es x1 pos) (tTup t) (dTup da) := by
  refine ⟨pe_tup h.pa, fun ρ env st σ H Q W rs re q w => ?_⟩
  refine h.sim ρ env st σ H _ _ rs re q fun xs H1 ⟨ρ1, ds, st1, k1, r1, px, q1⟩ => ?_
  exact ⟨by rw [← px.len]; exact q1.1, fun p hp => w _ _ ((PostE.tup r1 hp px q1.2).keep k1)⟩
theorem se_lst (h : SA X es t da) : SE X (.List es pos) (tLst t) (dLst da) := by
  refine ⟨pe_lst h.pa, fun ρ env st σ H Q W rs re q w => ?_⟩
  refine h.sim ρ env st σ H _ _ rs re q fun xs H1 ⟨ρ1, ds, st1, k1, r1, px, q1⟩ => ?_
  exact ⟨by rw [← px.len]; exact q1.1, fun p hp => w _ _ ((PostE.lst r1 hp px q1.2).keep k1)⟩
end
/-- a def's promise over data -/
abbrev DSp := List D → Store → DQ → Prop
def spOf (K : PySem.W.Frag) (dsp : DSp) : Sp := fun vs H Q _ => ∃ ρ ds st QD, RelS K ρ H st ∧ Reps K ρ H ds vs ∧ dsp ds st QD ∧ ∀ v H', PostE K ρ H QD v H' → Q v H'
def dCall (dsp : DSp) (da : DTA) : DTE := fun env st Q => da env st fun ds st1 => dsp ds st1 Q
section
variable {X : Cx} {k : Nat} {f : Addr} {fd : FuncData} {ps : List Str} {dsp : DSp} {x : Str} {p pos : Pos} {e : Expr} {es : List Expr} {t : TA} {da : DTA}
theorem sim_call {K : PySem.W.Frag} (h : SimA K t da) : Sim K (tCall (spOf K dsp) [] E0 t) (dCall dsp da) := by
  intro ρ env st σ H Q W rs re q w
  refine h ρ env st σ H _ _ rs re q fun xs H1 ⟨ρ1, ds, st1, k1, r1, px, q1⟩ => ?_
  rw [List.append_nil]
  exact ⟨ρ1, ds, st1, Q, r1, px, q1, fun v H' pq => w v H' (pq.keep k1)⟩
theorem se_call {K : PySem.W.Frag} [hK : HasK X K] (F : FnOk X.prog X.w K X.mg X.base CX0 k f fd ps (spOf K dsp)) (hr : Room k X.A) (hg : Gl X x) (hm : X.mg x = some (.ref f)) (hk : PySem.W.keepIn K (.ref f) = true) (hb : Binds K fd ps [])
    (ha : SA X (e :: es) t da) (hdb : (x == ("__debug__" : Str)) = false := by decide) (he : starEach (e :: es) X.env = (false, eval e X.env) :: starEach es X.env := by rfl) (hpl : (backTo pos (starEach es X.env)).any (·.1) = false := by rfl) :
    SE X (.Call (.Name x p) (e :: es) [] pos) (tCall (spOf K dsp) [] E0 t) (dCall dsp da) := by
  obtain rfl := hK.eq
  exact ⟨pe_call F hr hg hm hk hb .nil pass0 ha.pa hdb he hpl, sim_call ha.sim⟩
theorem se_call0 {K : PySem.W.Frag} [hK : HasK X K] (F : FnOk X.prog X.w K X.mg X.base CX0 k f fd ps (spOf K dsp)) (hr : Room k X.A) (hg : Gl X x) (hm : X.mg x = some (.ref f)) (hk : PySem.W.keepIn K (.ref f) = true) (hb : Binds K fd ps [])
    (hdb : (x == ("__debug__" : Str)) = false := by decide) : SE X (.Call (.Name x p) [] [] pos) (tCall (spOf K dsp) [] E0 tNil) (dCall dsp dNil) := by
  obtain rfl := hK.eq
  exact ⟨pe_call0 F hr hg hm hk hb .nil pass0 hdb, sim_call (sa_nil (X := X)).sim⟩
end
/-! ### built-ins by name -/
structure SCl (X : Cx) (f : Value) (r : List V → Hp → VK → Prop) (rd : DRA) : Prop where
  cr : CallR X f r
  sim : SimRA X.K r rd
def dCB (rd : DRA) (da : DTA) : DTE := fun env st Q => da env st fun ds st1 => rd ds st1 Q
theorem sim_cb {K : PySem.W.Frag} {r : List V → Hp → VK → Prop} {rd : DRA} {t : TA} {da : DTA} (hr : SimRA K r rd) (h : SimA K t da) : Sim K (tCB r t) (dCB rd da) := by
  intro ρ env st σ H Q W rs re q w
  refine h ρ env st σ H _ _ rs re q fun xs H1 ⟨ρ1, ds, st1, k1, r1, px, q1⟩ => ?_
  exact hr ρ1 st1 H1 xs ds Q W r1 px q1 fun v H' p => w v H' (p.keep k1)
section
variable {X : Cx} {x : Str} {p pos : Pos} {e : Expr} {es : List Expr} {t : TA} {da : DTA} {id T : String} {r : List V → Hp → VK → Prop} {rd : DRA}
theorem se_callB (hc : SCl X (.builtin id) r rd) (hg : Gl X x) (hm : X.mg x = none) (hv : bootBuiltins x = some (.builtin id)) (ha : SA X (e :: es) t da) (hn : x ≠ "__name__" := by decide) (hdb : (x == ("__debug__" : Str)) = false := by decide)
    (he : starEach (e :: es) X.env = (false, eval e X.env) :: starEach es X.env := by rfl) (hpl : (backTo pos (starEach es X.env)).any (·.1) = false := by rfl) : SE X (.Call (.Name x p) (e :: es) [] pos) (tCB r t) (dCB rd da) := ⟨pe_callB hc.cr hg hm hv ha.pa hn hdb he hpl, sim_cb hc.sim ha.sim⟩
theorem se_callTy (hc : SCl X (.type T) r rd) (hg : Gl X x) (hm : X.mg x = none) (hv : bootBuiltins x = some (.type T)) (ha : SA X (e :: es) t da) (hn : x ≠ "__name__" := by decide) (hdb : (x == ("__debug__" : Str)) = false := by decide)
    (he : starEach (e :: es) X.env = (false, eval e X.env) :: starEach es X.env := by rfl) (hpl : (backTo pos (starEach es X.env)).any (·.1) = false := by rfl) : SE X (.Call (.Name x p) (e :: es) [] pos) (tCB r t) (dCB rd da) := ⟨pe_callTy hc.cr hg hm hv ha.pa hn hdb he hpl, sim_cb hc.sim ha.sim⟩
end
theorem Reps.one {K : PySem.W.Frag} {ρ : List Addr} {H : Hp} {d : D} {vs : List V} (h : Reps K ρ H [d] vs) : ∃ v, vs = [v] ∧ Rep K ρ H d v := by
  unfold Reps at h
  obtain ⟨v, r, rfl, h1, h2⟩ := h
  unfold Reps at h2
  exact ⟨v, by rw [h2], h1⟩
theorem Reps.two {K : PySem.W.Frag} {ρ : List Addr} {H : Hp} {d e : D} {vs : List V} (h : Reps K ρ H [d, e] vs) : ∃ v w, vs = [v, w] ∧ Rep K ρ H d v ∧ Rep K ρ H e w := by
  unfold Reps at h
  obtain ⟨v, r, rfl, h1, h2⟩ := h
  obtain ⟨w, rfl, h3⟩ := h2.one
  exact ⟨v, w, rfl, h1, h3⟩
def dLen : DRA := fun ds st Q => match ds with
  | [.tup xs] => Q (.int xs.length) st
  | [.rol xs] => Q (.int xs.length) st
  | [.str z] => z.length ≤ sizeLine ∧ Q (.int z.length) st
  | [.ref k] => match st[k]? with
    | some (.lst xs) => Q (.int xs.length) st
    | _ => False
  | _ => False
section
variable {X : Cx}
theorem sc_len {K : PySem.W.Frag} [hk : HasK X K] : SCl X (.builtin "len") (fun xs H Q => ∃ x n, xs = [x] ∧ LenV K x H n ∧ Q (.int n) H) dLen := by
  obtain rfl := hk.eq
  refine ⟨call_len, fun ρ st H xs dxs Q W rs px q w => ?_⟩
  unfold dLen at q
  split at q
  · rename_i ys
    obtain ⟨v, rfl, r⟩ := px.one
    obtain ⟨a, vs, rfl, hs, hr⟩ := rep_tup r
    exact ⟨_, ys.length, rfl, .inr ⟨vs, hs, hr.len⟩, w _ H (.of rs (.int _) q)⟩
  · rename_i ys
    obtain ⟨v, rfl, r⟩ := px.one
    obtain ⟨a, vs, rfl, hs, hr⟩ := rep_rol r
    exact ⟨_, ys.length, rfl, .inl ⟨vs, sqf_l hs, hr.len⟩, w _ H (.of rs (.int _) q)⟩
  · rename_i z
    obtain ⟨v, rfl, r⟩ := px.one
    obtain rfl := rep_str r
    exact ⟨_, z.length, rfl, ⟨q.1, rfl⟩, w _ H (.of rs (.int _) q.2)⟩
  · rename_i k
    obtain ⟨v, rfl, r⟩ := px.one
    obtain ⟨a, ha, rfl⟩ := rep_ref r
    split at q
    · rename_i ys e
      obtain ⟨vs, hv, hr⟩ := rs.lst ha e
      exact ⟨_, ys.length, rfl, .inl ⟨vs, SqL.of hv, hr.len⟩, w _ H (.of rs (.int _) q)⟩
    · exact q.elim
  · exact q.elim
def dAbs : DRA := fun ds st Q => match ds with
  | [.int i] => Q (.int (if i < 0 then -i else i)) st
  | _ => False
theorem sc_abs : SCl X (.builtin "abs") (fun xs H Q => ∃ i, xs = [.int i] ∧ Q (.int (if i < 0 then -i else i)) H) dAbs := by
  refine ⟨call_abs, fun ρ st H xs dxs Q W rs px q w => ?_⟩
  unfold dAbs at q
  split at q
  · rename_i i
    obtain ⟨v, rfl, r⟩ := px.one
    obtain rfl := rep_int r
    exact ⟨i, rfl, w _ H (.of rs (.int _) q)⟩
  · exact q.elim
def D.int? : D → Option Int
  | .int i => some i
  | .bl k => some (if k then 1 else 0)
  | _ => none
def dInt1 : DRA := fun ds st Q => match ds with
  | [x] => match x.int? with
    | some i => Q (.int i) st
    | none => False
  | _ => False
theorem sc_int1 : SCl X (.type "int") (fun xs H Q => (∃ i, xs = [.int i] ∧ Q (.int i) H) ∨ ∃ k, xs = [.bl k] ∧ Q (.int (if k then 1 else 0)) H) dInt1 := by
  refine ⟨call_int1, fun ρ st H xs dxs Q W rs px q w => ?_⟩
  unfold dInt1 at q
  split at q
  · rename_i x
    obtain ⟨v, rfl, r⟩ := px.one
    cases x with
    | int i =>
      obtain rfl := rep_int r
      exact .inl ⟨i, rfl, w _ H (.of rs (.int _) q)⟩
    | bl i =>
      obtain rfl := rep_bl r
      exact .inr ⟨i, rfl, w _ H (.of rs (.int _) q)⟩
    | _ => exact q.elim
  · exact q.elim
/-- list(xs), xs a list or a tuple -/
def dListOf : DRA := fun ds st Q => match ds with
  | [.tup xs] => Q (.ref st.length) (st ++ [.lst xs])
  | [.rol xs] => Q (.ref st.length) (st ++ [.lst xs])
  | [.ref k] => match st[k]? with
    | some (.lst xs) => Q (.ref st.length) (st ++ [.lst xs])
    | _ => False
  | _ => False
theorem sc_list {K : PySem.W.Frag} [hk : HasK X K] : SCl X (.type "list") (fun xs H Q => ∃ p ys, xs = [.ref p] ∧ (SqL K H p ys ∨ SqT K H p ys) ∧ ∀ l, H l = none → Q (.ref l) (upd H l (.lst ys))) dListOf := by
  obtain rfl := hk.eq
  refine ⟨call_list_of, fun ρ st H xs dxs Q W rs px q w => ?_⟩
  unfold dListOf at q
  split at q
  · rename_i ys
    obtain ⟨v, rfl, r⟩ := px.one
    obtain ⟨a, vs, rfl, hs, hr⟩ := rep_tup r
    exact ⟨a, vs, rfl, .inr hs, fun l hl => w _ _ (.lst rs hl hr q)⟩
  · rename_i ys
    obtain ⟨v, rfl, r⟩ := px.one
    obtain ⟨a, vs, rfl, hs, hr⟩ := rep_rol r
    exact ⟨a, vs, rfl, .inl (sqf_l hs), fun l hl => w _ _ (.lst rs hl hr q)⟩
  · rename_i k
    obtain ⟨v, rfl, r⟩ := px.one
    obtain ⟨a, ha, rfl⟩ := rep_ref r
    split at q
    · rename_i ys e
      obtain ⟨vs, hv, hr⟩ := rs.lst ha e
      exact ⟨a, vs, rfl, .inl (SqL.of hv), fun l hl => w _ _ (.lst rs hl hr q)⟩
    · exact q.elim
  · exact q.elim
def dTupleOf : DRA := fun ds st Q => match ds with
  | [.tup xs] => Q (.tup xs) st
  | [.rol xs] => Q (.tup xs) st
  | [.ref k] => match st[k]? with
    | some (.lst xs) => Q (.tup xs) st
    | _ => False
  | _ => False
theorem sc_tuple {K : PySem.W.Frag} [hk : HasK X K] : SCl X (.type "tuple") (fun xs H Q => ∃ p ys, xs = [.ref p] ∧ ((SqL K H p ys ∧ ∀ l, H l = none → Q (.ref l) (upd H l (.tup ys))) ∨ (SqT K H p ys ∧ Q (.ref p) H))) dTupleOf := by
  obtain rfl := hk.eq
  refine ⟨call_tuple_of, fun ρ st H xs dxs Q W rs px q w => ?_⟩
  unfold dTupleOf at q
  split at q
  · rename_i ys
    obtain ⟨v, rfl, r⟩ := px.one
    obtain ⟨a, vs, rfl, hs, hr⟩ := rep_tup r
    exact ⟨a, vs, rfl, .inr ⟨hs, w _ H (.of rs (.tup hs hr) q)⟩⟩
  · rename_i ys
    obtain ⟨v, rfl, r⟩ := px.one
    obtain ⟨a, vs, rfl, hs, hr⟩ := rep_rol r
    exact ⟨a, vs, rfl, .inl ⟨sqf_l hs, fun l hl => w _ _ (.tup rs hl hr q)⟩⟩
  · rename_i k
    obtain ⟨v, rfl, r⟩ := px.one
    obtain ⟨a, ha, rfl⟩ := rep_ref r
    split at q
    · rename_i ys e
      obtain ⟨vs, hv, hr⟩ := rs.lst ha e
      exact ⟨a, vs, rfl, .inl ⟨SqL.of hv, fun l hl => w _ _ (.tup rs hl hr q)⟩⟩
    · exact q.elim
  · exact q.elim
end

/-! ### places and slices -/
def dItem (st : Store) (x : D) (i : Int) : Option D := match x with
  | .tup xs => atI xs i
  | .rol xs => atI xs i
  | .ref k => match st[k]? with
    | some (.lst xs) => atI xs i
    | _ => none
  | .str z => if z.length ≤ sizeLine then (atI z.cps.toList i).map fun c => .str ⟨#[c]⟩ else none
  | _ => none
def dIx : DR2 := fun x y st Q => match y with
  | .int i => match dItem st x i with
    | some d => Q d st
    | none => False
  | _ => False
theorem reps_at {K : PySem.W.Frag} {ρ : List Addr} {H : Hp} {ds : List D} {vs : List V} {i : Int} {d : D} (r : Reps K ρ H ds vs) (h : atI ds i = some d) : ∃ v, atI vs i = some v ∧ Rep K ρ H d v := by
  unfold atI at h ⊢
  rw [← r.len]
  cases e : ixN ds.length i with
  | none => rw [e] at h; cases h
  | some j =>
    rw [e] at h
    exact r.get h
theorem sim_ix {K : PySem.W.Frag} : SimR2 K (rIx K) dIx := by
  intro ρ st H x y dx dy Q W rs px py q w
  cases dy with
  | int i =>
    obtain rfl := rep_int py
    unfold dIx at q
    dsimp only at q
    split at q
    · rename_i d e
      unfold dItem at e
      split at e
      · obtain ⟨a, vs, rfl, hs, hr⟩ := rep_tup px
        obtain ⟨v, hv, rv⟩ := reps_at hr e
        exact .inr (.inl ⟨a, vs, i, v, rfl, rfl, hs, hv, w _ H (.of rs rv q)⟩)
      · obtain ⟨a, vs, rfl, hs, hr⟩ := rep_rol px
        obtain ⟨v, hv, rv⟩ := reps_at hr e
        exact .inl ⟨a, vs, i, v, rfl, rfl, sqf_l hs, hv, w _ H (.of rs rv q)⟩
      · obtain ⟨a, ha, rfl⟩ := rep_ref px
        split at e
        · rename_i ys e2
          obtain ⟨vs, hv, hr⟩ := rs.lst ha e2
          obtain ⟨v, hv2, rv⟩ := reps_at hr e
          exact .inl ⟨a, vs, i, v, rfl, rfl, SqL.of hv, hv2, w _ H (.of rs rv q)⟩
        · cases e
      · rename_i z
        obtain rfl := rep_str px
        split at e
        · rename_i hz
          obtain ⟨c, hc, rfl⟩ := Option.map_eq_some_iff.mp e
          exact .inr (.inr ⟨z, i, c, rfl, rfl, hz, hc, w _ H (.of rs (.str _) q)⟩)
        · cases e
      · cases e
    · exact q.elim
  | _ => exact q.elim
section
variable {X : Cx} {a b : Expr} {ta tb : TE} {da db : DTE} {pos p2 : Pos}
theorem se_ix {K : PySem.W.Frag} [hk : HasK X K] (ha : SE X a ta da) (hb : SE X b tb db) (hs : PlainIx b) : SE X (.Subscript a b pos) (tOp (rIx K) ta tb) (dOp dIx da db) := by
  obtain rfl := hk.eq
  exact ⟨pe_ix ix_seq ha.pe hb.pe hs, sim_op sim_ix ha.sim hb.sim⟩
end
abbrev DTO := DEnv → Store → (Option Int → Store → Prop) → Prop
def SimO (K : PySem.W.Frag) (t : TO) (te : DTO) : Prop := ∀ ρ env st σ H (Q : Option Int → Store → Prop) (W : Option Int → Hp → Prop), RelS K ρ H st → RelE K ρ H env σ → te env st Q → (∀ o H', (∃ ρ' st', Keep ρ ρ' H H' ∧ RelS K ρ' H' st' ∧ Q o st') → W o H') → t σ H W
structure SO (X : Cx) (e : Option Expr) (t : TO) (te : DTO) : Prop where
  po : PO X e t
  sim : SimO X.K t te
def dNoPart : DTO := fun _ st Q => Q none st
def dPart (de : DTE) : DTO := fun env st Q => de env st fun x st1 => match x with
  | .int i => Q (some i) st1
  | _ => False
/-- the slice of a list of data -/
def cutD (xs : List D) (lo hi : Option Int) : List D := (xs.drop (HT.sIx xs.length 0 lo)).take (HT.sIx xs.length xs.length hi - HT.sIx xs.length 0 lo)
def dSl (x : D) (lo hi : Option Int) : Store → DQ → Prop := fun st Q => match x with
  | .tup xs => Q (.tup (cutD xs lo hi)) st
  | .rol xs => Q (.ref st.length) (st ++ [.lst (cutD xs lo hi)])
  | .ref k => match st[k]? with
    | some (.lst xs) => Q (.ref st.length) (st ++ [.lst (cutD xs lo hi)])
    | _ => False
  | .str z => z.length ≤ sizeLine ∧ Q (.str (cutS z lo hi)) st
  | _ => False
def dSlice (de : DTE) (dl dh : DTO) : DTE := fun env st Q => de env st fun x st1 => dl env st1 fun lo st2 => dh env st2 fun hi st3 => dSl x lo hi st3 Q
theorem reps_cut {K : PySem.W.Frag} {ρ : List Addr} {H : Hp} {ds : List D} {vs : List V} (r : Reps K ρ H ds vs) (lo hi : Option Int) : Reps K ρ H (cutD ds lo hi) (cutV vs lo hi) := by
  unfold cutD cutV
  rw [r.len]
  exact (r.drop _).take _
theorem cut_whole (xs : List D) (lo hi : Option Int) (h : HT.sIx xs.length 0 lo = 0 ∧ HT.sIx xs.length xs.length hi = xs.length) : cutD xs lo hi = xs := by
  unfold cutD
  rw [h.1, h.2, List.drop_zero, Nat.sub_zero, List.take_length]
def rSlAll (K : PySem.W.Frag) : V → Option Int → Option Int → Hp → VK → Prop := fun x lo hi H Q => rSlA K x lo hi H Q ∨ (rSlL K x lo hi H Q ∨ rSlS x lo hi H Q)
section
variable {X : Cx} {e : Expr} {lo hi : Option Expr} {te : TE} {tl th : TO} {de : DTE} {dl dh : DTO} {pos p2 : Pos}
theorem so_none : SO X none tNoPart dNoPart := ⟨po_none, fun ρ env st σ H Q W rs re q w => w none H ⟨ρ, st, Keep.refl, rs, q⟩⟩
theorem so_some {x : Expr} (h : SE X x te de) : SO X (some x) (tPart te) (dPart de) := by
  refine ⟨po_some h.pe, fun ρ env st σ H Q W rs re q w => ?_⟩
  refine h.sim ρ env st σ H _ _ rs re q fun x H1 ⟨ρ1, dx, st1, k1, r1, px, q1⟩ => ?_
  cases dx with
  | int i => exact ⟨i, rep_int px, w _ H1 ⟨ρ1, st1, k1, r1, q1⟩⟩
  | _ => exact q1.elim
theorem se_slice {K : PySem.W.Frag} [hk : HasK X K] (he : SE X e te de) (hl : SO X lo tl dl) (hh : SO X hi th dh) : SE X (.Subscript e (.Slice lo hi none p2) pos) (tSl (rSlAll K) te tl th) (dSlice de dl dh) := by
  obtain rfl := hk.eq
  refine ⟨pe_slice (.or sl_tupA (.or sl_list sl_str)) he.pe hl.po hh.po, fun ρ env st σ H Q W rs re q w => ?_⟩
  refine he.sim ρ env st σ H _ _ rs re q fun x H1 ⟨ρ1, dx, st1, k1, r1, px, q1⟩ => ?_
  refine hl.sim ρ1 env st1 σ H1 _ _ r1 (re.keep k1) q1 fun l H2 ⟨ρ2, st2, k2, r2, q2⟩ => ?_
  refine hh.sim ρ2 env st2 σ H2 _ _ r2 ((re.keep k1).keep k2) q2 fun u H3 ⟨ρ3, st3, k3, r3, q3⟩ => ?_
  have px3 := (px.keep k2).keep k3
  have fin : ∀ v H', PostE X.K ρ3 H3 Q v H' → W v H' := fun v H' p => w v H' (((p.keep k3).keep k2).keep k1)
  cases dx with
  | tup xs =>
    obtain ⟨a, vs, rfl, hs, hr⟩ := rep_tup px3
    refine .inl ⟨a, vs, rfl, hs, fun hw => fin _ _ ?_, fun _ p hp => fin _ _ (.tup r3 hp (reps_cut hr l u) q3)⟩
    rw [← hr.len] at hw
    have q4 : Q (.tup (cutD xs l u)) st3 := q3
    rw [cut_whole xs l u hw] at q4
    exact .of r3 px3 q4
  | rol xs =>
    obtain ⟨a, vs, rfl, hs, hr⟩ := rep_rol px3
    exact .inr (.inl ⟨a, vs, rfl, sqf_l hs, fun p hp => fin _ _ (.lst r3 hp (reps_cut hr l u) q3)⟩)
  | ref k =>
    obtain ⟨a, ha, rfl⟩ := rep_ref px3
    unfold dSl at q3
    dsimp only at q3
    split at q3
    · rename_i e2
      obtain ⟨vs, hv, hr⟩ := r3.lst ha e2
      exact .inr (.inl ⟨a, vs, rfl, SqL.of hv, fun p hp => fin _ _ (.lst r3 hp (reps_cut hr l u) q3)⟩)
    · exact q3.elim
  | str z =>
    obtain rfl := rep_str px3
    exact .inr (.inr ⟨z, rfl, q3.1, fin _ _ (.of r3 (.str _) q3.2)⟩)
  | _ => exact q3.elim
end

/-! ### methods of lists -/
abbrev DRM := D → List D → Store → DQ → Prop
def SimRM (K : PySem.W.Frag) (r : V → List V → Hp → VK → Prop) (rd : DRM) : Prop := ∀ ρ st H x dx xs dxs (Q : DQ) (W : VK), RelS K ρ H st → Rep K ρ H dx x → Reps K ρ H dxs xs → rd dx dxs st Q → (∀ v H', PostE K ρ H Q v H' → W v H') → r x xs H W
/-- the receiver is a list of the store -/
def dBM (rd : DRM) (dO : DTE) (da : DTA) : DTE := fun env st Q => dO env st fun x st1 => (match x with
  | .ref k => match st1[k]? with
    | some (.lst _) => True
    | _ => False
  | _ => False) ∧ da env st1 fun xs st2 => rd x xs st2 Q
theorem sim_bm {K : PySem.W.Frag} {r : V → List V → Hp → VK → Prop} {rd : DRM} {to : TE} {t : TA} {dO : DTE} {da : DTA} (hr : SimRM K r rd) (ho : Sim K to dO) (ha : SimA K t da) : Sim K (tBM K "list" r to t) (dBM rd dO da) := by
  intro ρ env st σ H Q W rs re q w
  refine ho ρ env st σ H _ _ rs re q fun x H1 ⟨ρ1, dx, st1, k1, r1, px, q1⟩ => ?_
  obtain ⟨c, q1⟩ := q1
  refine ⟨?_, ?_⟩
  · cases dx with
    | ref k =>
      obtain ⟨a, h, rfl⟩ := rep_ref px
      dsimp only at c
      split at c
      · rename_i ys e
        obtain ⟨vs, hv, _⟩ := r1.lst h e
        exact .inl ⟨rfl, vs, SqL.of hv⟩
      · exact c.elim
    | _ => exact c.elim
  · refine ha ρ1 env st1 σ H1 _ _ r1 (re.keep k1) q1 fun xs H2 ⟨ρ2, ds, st2, k2, r2, pxs, q2⟩ => ?_
    exact hr ρ2 st2 H2 x dx xs ds Q W r2 (px.keep k2) pxs q2 fun v H' p => w v H' ((p.keep k2).keep k1)
theorem sim_bm0 {K : PySem.W.Frag} {r : V → List V → Hp → VK → Prop} {rd : DRM} {to : TE} {dO : DTE} (hr : SimRM K r rd) (ho : Sim K to dO) : Sim K (tBM0 K "list" r to) (dBM rd dO dNil) := by
  intro ρ env st σ H Q W rs re q w
  refine ho ρ env st σ H _ _ rs re q fun x H1 ⟨ρ1, dx, st1, k1, r1, px, q1⟩ => ?_
  obtain ⟨c, q1⟩ := q1
  refine ⟨?_, hr ρ1 st1 H1 x dx [] [] Q W r1 px Reps.nil q1 fun v H' p => w v H' (p.keep k1)⟩
  cases dx with
  | ref k =>
    obtain ⟨a, h, rfl⟩ := rep_ref px
    dsimp only at c
    split at c
    · rename_i ys e
      obtain ⟨vs, hv, _⟩ := r1.lst h e
      exact .inl ⟨rfl, vs, SqL.of hv⟩
    · exact c.elim
  | _ => exact c.elim
section
variable {K : PySem.W.Frag} {ρ : List Addr} {H : Hp} {st : Store} {Q : DQ}
theorem PostE.put {k : Nat} {a : Addr} {v : V} {d : D} {vs ws : List V} {xs : List D} (r : RelS K ρ H st) (e : ρ[k]? = some a) (ha : H a = some (.lst vs)) (h : Reps K ρ H xs ws) (hd : Rep K ρ H d v) (q : Q d (st.set k (.lst xs))) : PostE K ρ H Q v (upd H a (.lst ws)) :=
  ⟨ρ, d, _, keep_upd ha, r.put e ha h, hd.keep (keep_upd ha), q⟩
end
def dAppend : DRM := fun x ds st Q => match x, ds with
  | .ref k, [d] => match st[k]? with
    | some (.lst xs) => xs.length < sizeLine ∧ Q .non (st.set k (.lst (xs ++ [d])))
    | _ => False
  | _, _ => False
theorem sim_append {K : PySem.W.Frag} : SimRM K rAppend dAppend := by
  intro ρ st H x dx xs dxs Q W rs px pxs q w
  unfold dAppend at q
  split at q
  · obtain ⟨a, ha, rfl⟩ := rep_ref px
    obtain ⟨v, rfl, pv⟩ := pxs.one
    split at q
    · rename_i ys e
      obtain ⟨vs, hv, hr⟩ := rs.lst ha e
      exact ⟨a, vs, v, rfl, rfl, hv, by rw [← hr.len]; exact q.1, w _ _ (.put rs ha hv (hr.app (.cons pv .nil)) .non q.2)⟩
    · exact q.elim
  · exact q.elim
def dExtend : DRM := fun x ds st Q => match x, ds with
  | .ref k, [.ref l] => match st[k]?, st[l]? with
    | some (.lst xs), some (.lst ys) => xs.length + ys.length ≤ sizeLine ∧ Q .non (st.set k (.lst (xs ++ ys)))
    | _, _ => False
  | _, _ => False
theorem sim_extend {K : PySem.W.Frag} : SimRM K rExtend dExtend := by
  intro ρ st H x dx xs dxs Q W rs px pxs q w
  unfold dExtend at q
  split at q
  · obtain ⟨a, ha, rfl⟩ := rep_ref px
    obtain ⟨v, rfl, pv⟩ := pxs.one
    obtain ⟨b, hb, rfl⟩ := rep_ref pv
    split at q
    · rename_i xs ys e1 e2
      obtain ⟨vs, hv, hr⟩ := rs.lst ha e1
      obtain ⟨ws, hw, hr2⟩ := rs.lst hb e2
      exact ⟨a, b, vs, ws, rfl, rfl, hv, hw, by rw [← hr.len, ← hr2.len]; exact q.1, w _ _ (.put rs ha hv (hr.app hr2) .non q.2)⟩
    · exact q.elim
  · exact q.elim
def dPop : DRM := fun x ds st Q => match x, ds with
  | .ref k, [] => match st[k]? with
    | some (.lst xs) => match xs[xs.length - 1]? with
      | some d => Q d (st.set k (.lst xs.dropLast))
      | none => False
    | _ => False
  | _, _ => False
theorem sim_pop {K : PySem.W.Frag} : SimRM K rPop dPop := by
  intro ρ st H x dx xs dxs Q W rs px pxs q w
  unfold dPop at q
  split at q
  · obtain ⟨a, ha, rfl⟩ := rep_ref px
    have e0 : xs = [] := by unfold Reps at pxs; exact pxs
    subst e0
    split at q
    · rename_i ys e
      obtain ⟨vs, hv, hr⟩ := rs.lst ha e
      split at q
      · rename_i d e2
        obtain ⟨v, hv2, rv⟩ := hr.get e2
        rw [hr.len] at hv2
        exact ⟨a, vs, v, rfl, rfl, hv, hv2, w _ _ (.put rs ha hv hr.dropLast rv q)⟩
      · exact q.elim
    · exact q.elim
  · exact q.elim
def dReverse : DRM := fun x ds st Q => match x, ds with
  | .ref k, [] => match st[k]? with
    | some (.lst xs) => Q .non (st.set k (.lst xs.reverse))
    | _ => False
  | _, _ => False
theorem sim_reverse {K : PySem.W.Frag} : SimRM K rReverse dReverse := by
  intro ρ st H x dx xs dxs Q W rs px pxs q w
  unfold dReverse at q
  split at q
  · obtain ⟨a, ha, rfl⟩ := rep_ref px
    have e0 : xs = [] := by unfold Reps at pxs; exact pxs
    subst e0
    split at q
    · rename_i ys e
      obtain ⟨vs, hv, hr⟩ := rs.lst ha e
      exact ⟨a, vs, rfl, rfl, hv, w _ _ (.put rs ha hv hr.rev .non q)⟩
    · exact q.elim
  · exact q.elim
section
variable {X : Cx} {o e : Expr} {es : List Expr} {to : TE} {t : TA} {dO : DTE} {da : DTA} {pos apos : Pos} {name : Str} {id : String} {r : V → List V → Hp → VK → Prop} {rd : DRM}
theorem se_append {K : PySem.W.Frag} [hk : HasK X K] (ho : SE X o to dO) (ha : SA X (e :: es) t da) (hbase : attributeBase o "append" X.env (eval o X.env) = eval o X.env := by rfl)
    (hfew : ((backTo pos (starEach (e :: es) X.env)).all (fun x => !x.1) && (backToKw pos (keywordEach [] X.env)).all (fun x => x.1.isSome)
      && decide ((e :: es).length + ([] : List Keyword).length + (if ([] : List Keyword).isEmpty then 0 else 1) < 30)) = true := by rfl)
    (hline : (apos.endLine == pos.line) = true := by rfl) (hs : starEach (e :: es) X.env = (false, eval e X.env) :: starEach es X.env := by rfl) (hplain : (backTo pos (starEach es X.env)).any (·.1) = false := by rfl) :
    SE X (.Call (.Attribute o "append" apos) (e :: es) [] pos) (tBM K "list" rAppend to t) (dBM dAppend dO da) := by
  obtain rfl := hk.eq
  exact ⟨pe_bm PySem.F.plainAttrs_list PySem.F.slot_list_append PySem.F.type_list_append mt_append ho.pe ha.pa hbase hfew hline hs hplain, sim_bm sim_append ho.sim ha.sim⟩
theorem se_extend {K : PySem.W.Frag} [hk : HasK X K] (ho : SE X o to dO) (ha : SA X (e :: es) t da) (hbase : attributeBase o "extend" X.env (eval o X.env) = eval o X.env := by rfl)
    (hfew : ((backTo pos (starEach (e :: es) X.env)).all (fun x => !x.1) && (backToKw pos (keywordEach [] X.env)).all (fun x => x.1.isSome)
      && decide ((e :: es).length + ([] : List Keyword).length + (if ([] : List Keyword).isEmpty then 0 else 1) < 30)) = true := by rfl)
    (hline : (apos.endLine == pos.line) = true := by rfl) (hs : starEach (e :: es) X.env = (false, eval e X.env) :: starEach es X.env := by rfl) (hplain : (backTo pos (starEach es X.env)).any (·.1) = false := by rfl) :
    SE X (.Call (.Attribute o "extend" apos) (e :: es) [] pos) (tBM K "list" rExtend to t) (dBM dExtend dO da) := by
  obtain rfl := hk.eq
  exact ⟨pe_bm PySem.F.plainAttrs_list PySem.F.slot_list_extend PySem.F.type_list_extend mt_extend ho.pe ha.pa hbase hfew hline hs hplain, sim_bm sim_extend ho.sim ha.sim⟩
theorem se_pop {K : PySem.W.Frag} [hk : HasK X K] (ho : SE X o to dO) (hbase : attributeBase o "pop" X.env (eval o X.env) = eval o X.env := by rfl) (hline : (apos.endLine == pos.line) = true := by rfl) :
    SE X (.Call (.Attribute o "pop" apos) [] [] pos) (tBM0 K "list" rPop to) (dBM dPop dO dNil) := by
  obtain rfl := hk.eq
  exact ⟨pe_bm0 PySem.F.plainAttrs_list PySem.F.slot_list_pop PySem.F.type_list_pop mt_pop ho.pe hbase hline, sim_bm0 sim_pop ho.sim⟩
theorem se_reverse {K : PySem.W.Frag} [hk : HasK X K] (ho : SE X o to dO) (hbase : attributeBase o "reverse" X.env (eval o X.env) = eval o X.env := by rfl) (hline : (apos.endLine == pos.line) = true := by rfl) :
    SE X (.Call (.Attribute o "reverse" apos) [] [] pos) (tBM0 K "list" rReverse to) (dBM dReverse dO dNil) := by
  obtain rfl := hk.eq
  exact ⟨pe_bm0 PySem.F.plainAttrs_list PySem.F.slot_list_reverse PySem.F.type_list_reverse mt_reverse ho.pe hbase hline, sim_bm0 sim_reverse ho.sim⟩
end
end DL

namespace DL
open PySem PySem.Spec L2

/-! ### statements. n: so many cells of the store must stay -/
structure DEnds where
  nx : DEnv → Store → Prop
  rt : DQ
  bk : DEnv → Store → Prop := fun _ _ => False
  ct : DEnv → Store → Prop := fun _ _ => False
abbrev DTS := Nat → DEnds → DEnv → Store → Prop
structure EndsOk (K : PySem.W.Frag) (ρ : List Addr) (H : Hp) (d : DEnds) (W : Ends) : Prop where
  nx : ∀ σ' H' ρ' env' st', Keep ρ ρ' H H' → RelS K ρ' H' st' → RelE K ρ' H' env' σ' → d.nx env' st' → W.nx σ' H'
  rt : ∀ v H' ρ' x st', Keep ρ ρ' H H' → RelS K ρ' H' st' → Rep K ρ' H' x v → d.rt x st' → W.rt v H'
  bk : ∀ σ' H' ρ' env' st', Keep ρ ρ' H H' → RelS K ρ' H' st' → RelE K ρ' H' env' σ' → d.bk env' st' → W.bk σ' H'
  ct : ∀ σ' H' ρ' env' st', Keep ρ ρ' H H' → RelS K ρ' H' st' → RelE K ρ' H' env' σ' → d.ct env' st' → W.ct σ' H'
def SimS (K : PySem.W.Frag) (t : TS) (ts : DTS) : Prop := ∀ n ρ env st σ H (d : DEnds) (W : Ends), n ≤ ρ.length → RelS K ρ H st → RelE K ρ H env σ → ts n d env st → EndsOk K (ρ.take n) H d W → t W σ H
structure SS (X : Cx) (s : Stmt) (t : TS) (ts : DTS) : Prop where
  ps : PS X s t
  sim : SimS X.K t ts
structure SSs (X : Cx) (s : List Stmt) (t : TS) (ts : DTS) : Prop where
  pss : PSs X s t
  sim : SimS X.K t ts
section
variable {K : PySem.W.Frag} {ρ ρ' : List Addr} {H H' : Hp} {d : DEnds} {W : Ends} {n m : Nat}
theorem Keep.take (k : Keep ρ ρ' H H') (n : Nat) : Keep (ρ.take n) ρ' H H' := by
  obtain ⟨t, rfl⟩ := k.pre
  refine ⟨⟨ρ.drop n ++ t, ?_⟩, k.tups, k.frzs⟩
  rw [← List.append_assoc, List.take_append_drop]
theorem Keep.take2 (k : Keep ρ ρ' H H') (hn : n ≤ ρ.length) : Keep (ρ.take n) (ρ'.take n) H H' := by
  obtain ⟨t, rfl⟩ := k.pre
  refine ⟨⟨[], ?_⟩, k.tups, k.frzs⟩
  rw [List.append_nil, List.take_append_of_le_length hn]
theorem Keep.len (k : Keep ρ ρ' H H') : ρ.length ≤ ρ'.length := by
  obtain ⟨t, rfl⟩ := k.pre
  rw [List.length_append]
  omega
theorem EndsOk.adv (e : EndsOk K ρ H d W) (k : Keep ρ ρ' H H') : EndsOk K ρ' H' d W :=
  ⟨fun σ' H2 ρ2 env' st' k2 => e.nx σ' H2 ρ2 env' st' (k.trans k2), fun v H2 ρ2 x st' k2 => e.rt v H2 ρ2 x st' (k.trans k2),
    fun σ' H2 ρ2 env' st' k2 => e.bk σ' H2 ρ2 env' st' (k.trans k2), fun σ' H2 ρ2 env' st' k2 => e.ct σ' H2 ρ2 env' st' (k.trans k2)⟩
/-- behind an expression -/
theorem EndsOk.go (e : EndsOk K (ρ.take n) H d W) (k : Keep ρ ρ' H H') (hn : n ≤ ρ.length) : EndsOk K (ρ'.take n) H' d W := e.adv (k.take2 hn)
theorem Keep.of_take (hn : n ≤ ρ.length) : Keep (ρ.take n) ρ H H := (Keep.refl (ρ := ρ) (H := H)).take n
end

def dNext : DTS := fun _ d env st => d.nx env st
def dSeq (t u : DTS) : DTS := fun n d env st => t n { d with nx := u n d } env st
section
variable {X : Cx} {st : Stmt} {rest : List Stmt} {t u : TS} {ts us : DTS} {e : Expr} {te : TE} {de : DTE} {pos : Pos}
theorem sim_next {K : PySem.W.Frag} : SimS K tNext dNext := fun n ρ env st σ H d W hn rs re q w => w.nx σ H ρ env st (Keep.of_take hn) rs re q
theorem sss_nil : SSs X [] tNext dNext := ⟨pss_nil, sim_next⟩
theorem sim_seq {K : PySem.W.Frag} {t u : TS} {ts us : DTS} (h1 : SimS K t ts) (h2 : SimS K u us) : SimS K (tSeq t u) (dSeq ts us) := by
  intro n ρ env st σ H d W hn rs re q w
  refine h1 n ρ env st σ H _ _ hn rs re q ⟨fun σ' H' ρ' env' st' k rs' re' q' => ?_, w.rt, w.bk, w.ct⟩
  have hl : n ≤ ρ'.length := by
    have := k.len
    rw [List.length_take] at this
    omega
  refine h2 n ρ' env' st' σ' H' d W hl rs' re' q' ?_
  have e : ρ'.take n = ρ.take n := by
    obtain ⟨t, rfl⟩ := k.pre
    rw [List.take_append_of_le_length (by rw [List.length_take]; omega), List.take_take, Nat.min_self]
  rw [e]
  exact w.adv ⟨⟨[], by simp⟩, k.tups, k.frzs⟩
theorem sss_cons (h1 : SS X st t ts) (h2 : SSs X rest u us) : SSs X (st :: rest) (tSeq t u) (dSeq ts us) := ⟨pss_cons h1.ps h2.pss, sim_seq h1.sim h2.sim⟩
theorem sss_one (h1 : SS X st t ts) : SSs X [st] t ts := ⟨pss_one h1.ps, h1.sim⟩
def dBreak : DTS := fun _ d env st => d.bk env st
def dCont : DTS := fun _ d env st => d.ct env st
theorem ss_pass : SS X (.Pass pos) tNext dNext := ⟨ps_pass, sim_next⟩
theorem ss_break : SS X (.Break pos) tBreak dBreak := ⟨ps_break, fun n ρ env st σ H d W hn rs re q w => w.bk σ H ρ env st (Keep.of_take hn) rs re q⟩
theorem ss_continue : SS X (.Continue pos) tCont dCont := ⟨ps_continue, fun n ρ env st σ H d W hn rs re q w => w.ct σ H ρ env st (Keep.of_take hn) rs re q⟩
def dDrop (de : DTE) : DTS := fun _ d env st => de env st fun _ st1 => d.nx env st1
theorem ss_expr (he : SE X e te de) (hs : swapsWith e none pos.line X.env = pure false := by rfl) : SS X (.Expr e pos) (tDrop te) (dDrop de) := by
  refine ⟨ps_expr he.pe hs, fun n ρ env st σ H d W hn rs re q w => ?_⟩
  exact he.sim ρ env st σ H _ _ rs re q fun v H1 ⟨ρ1, dx, st1, k1, r1, px, q1⟩ => w.nx σ H1 ρ1 env st1 (k1.take n) r1 (re.keep k1) q1
def dRet (de : DTE) : DTS := fun _ d env st => de env st d.rt
theorem ss_ret (he : SE X e te de) : SS X (.Return (some e) pos) (tRet te) (dRet de) := by
  refine ⟨ps_ret he.pe, fun n ρ env st σ H d W hn rs re q w => ?_⟩
  exact he.sim ρ env st σ H _ _ rs re q fun v H1 ⟨ρ1, dx, st1, k1, r1, px, q1⟩ => w.rt v H1 ρ1 dx st1 (k1.take n) r1 px q1
def dRetN : DTS := fun _ d _ st => d.rt .non st
theorem ss_retN : SS X (.Return none pos) tRetN dRetN := ⟨ps_retN, fun n ρ env st σ H d W hn rs re q w => w.rt .non H ρ .non st (Keep.of_take hn) rs .non q⟩
def dIfS (c : DTT) (t u : DTS) : DTS := fun n d env st => c env st fun b st1 => if b = true then t n d env st1 else u n d env st1
theorem ss_if {c : Expr} {a b : List Stmt} {tc : TT} {dc : DTT} (hc : ST X c tc dc) (ha : SSs X a t ts) (hb : SSs X b u us) : SS X (.If c a b pos) (tIfS tc t u) (dIfS dc ts us) := by
  refine ⟨ps_if hc.pt ha.pss hb.pss, fun n ρ env st σ H d W hn rs re q w => ?_⟩
  refine hc.sim ρ env st σ H _ _ rs re q fun c H1 ⟨ρ1, st1, k1, r1, q1⟩ => ?_
  have hl : n ≤ ρ1.length := Nat.le_trans hn k1.len
  cases c with
  | true =>
    rw [if_pos rfl] at q1 ⊢
    exact ha.sim n ρ1 env st1 σ H1 d W hl r1 (re.keep k1) q1 (w.go k1 hn)
  | false =>
    rw [if_neg Bool.false_ne_true] at q1 ⊢
    exact hb.sim n ρ1 env st1 σ H1 d W hl r1 (re.keep k1) q1 (w.go k1 hn)
theorem ss_never {s : Stmt} : SS X s tNever (fun _ _ _ _ => False) := ⟨ps_never, fun n ρ env st σ H d W hn rs re q w => q.elim⟩
end

/-! ### targets -/
abbrev DTG := D → DEnv → Store → (DEnv → Store → Prop) → Prop
abbrev DTGs := List D → DEnv → Store → (DEnv → Store → Prop) → Prop
def SimG (K : PySem.W.Frag) (g : TG) (dg : DTG) : Prop := ∀ ρ env st σ H x dx (Q : DEnv → Store → Prop) (W : L2.St → Hp → Prop), RelS K ρ H st → RelE K ρ H env σ → Rep K ρ H dx x → dg dx env st Q →
  (∀ σ' H' ρ' env' st', Keep ρ ρ' H H' → RelS K ρ' H' st' → RelE K ρ' H' env' σ' → Q env' st' → W σ' H') → g x σ H W
def SimGs (K : PySem.W.Frag) (g : TGs) (dg : DTGs) : Prop := ∀ ρ env st σ H xs dxs (Q : DEnv → Store → Prop) (W : L2.St → Hp → Prop), RelS K ρ H st → RelE K ρ H env σ → Reps K ρ H dxs xs → dg dxs env st Q →
  (∀ σ' H' ρ' env' st', Keep ρ ρ' H H' → RelS K ρ' H' st' → RelE K ρ' H' env' σ' → Q env' st' → W σ' H') → g xs σ H W
structure SG (X : Cx) (e : Expr) (g : TG) (dg : DTG) : Prop where
  pg : PG X e g
  sim : SimG X.K g dg
structure SGs (X : Cx) (e : List Expr) (g : TGs) (dg : DTGs) : Prop where
  pgs : PGs X e g
  sim : SimGs X.K g dg
def dgName (i : Nat) : DTG := fun x env st Q => Q (env.set i (some x)) st
def dgNil : DTGs := fun xs env st Q => match xs with
  | [] => Q env st
  | _ => False
def dgCons (t : DTG) (u : DTGs) : DTGs := fun xs env st Q => match xs with
  | x :: r => t x env st fun env' st' => u r env' st' Q
  | [] => False
def dgTup (n : Nat) (t : DTGs) : DTG := fun x env st Q => match x with
  | .tup xs => xs.length = n ∧ t xs env st Q
  | _ => False
/-- o[i] = v, o a list of the store -/
def dSetIx (st : Store) (o : D) (i : Int) (v : D) : Option Store := match o with
  | .ref k => match st[k]? with
    | some (.lst xs) => (ixN xs.length i).map fun j => st.set k (.lst (xs.set j v))
    | _ => none
  | _ => none
def dgSub (dO di : DTE) : DTG := fun x env st Q => dO env st fun o st1 => di env st1 fun i st2 => match i with
  | .int z => match dSetIx st2 o z x with
    | some st3 => Q env st3
    | none => False
  | _ => False
section
variable {X : Cx} {pos : Pos}
theorem sim_gname {K : PySem.W.Frag} {i : Nat} : SimG K (gName i) (dgName i) := fun ρ env st σ H x dx Q W rs re px q w => w _ H ρ _ st Keep.refl rs (re.set i px) q
theorem sg_name {i : Nat} {x : Str} (hN : X.N.Nodup) (hi : X.N[i]? = some x) (hx : Loc X.env.scope x) (hf : X.fn x = true ∨ X.env.scope.names.lookup x = some .local := by first | exact .inl rfl | exact .inr rfl | assumption) : SG X (.Name x pos) (gName i) (dgName i) := ⟨pg_name hN hi hx hf, sim_gname⟩
theorem sgs_nil : SGs X [] gNil dgNil := by
  refine ⟨pgs_nil, fun ρ env st σ H xs dxs Q W rs re px q w => ?_⟩
  cases dxs with
  | nil => exact ⟨by unfold Reps at px; exact px, w σ H ρ env st Keep.refl rs re q⟩
  | cons _ _ => exact q.elim
theorem sgs_cons {e : Expr} {es : List Expr} {t : TG} {u : TGs} {dt : DTG} {du : DTGs} (h1 : SG X e t dt) (h2 : SGs X es u du) (hs : (assignEach (e :: es) X.env).map (·.2) = assign e X.env :: (assignEach es X.env).map (·.2) := by rfl) : SGs X (e :: es) (gCons t u) (dgCons dt du) := by
  refine ⟨pgs_cons h1.pg h2.pgs hs, fun ρ env st σ H xs dxs Q W rs re px q w => ?_⟩
  cases dxs with
  | nil => exact q.elim
  | cons x r =>
    unfold Reps at px
    obtain ⟨v, vr, rfl, p1, p2⟩ := px
    refine ⟨v, vr, rfl, h1.sim ρ env st σ H v x _ _ rs re p1 q fun σ' H' ρ' env' st' k rs' re' q' => ?_⟩
    exact h2.sim ρ' env' st' σ' H' vr r Q W rs' re' (p2.keep k) q' fun σ2 H2 ρ2 env2 st2 k2 => w σ2 H2 ρ2 env2 st2 (k.trans k2)
theorem sg_tup {K : PySem.W.Frag} [hk : HasK X K] {es : List Expr} {k : Nat} {t : TGs} {n : Nat} {dt : DTGs} (hc : X.calm = true) (h : SGs X es t dt) (hn : (assignEach es X.env).length = n := by rfl) (hst : (assignEach es X.env).findIdx? (·.1) = none := by rfl) : SG X (.Tuple es k pos) (gTup K n t) (dgTup n dt) := by
  obtain rfl := hk.eq
  refine ⟨pg_tup hc h.pgs hn hst, fun ρ env st σ H x dx Q W rs re px q w => ?_⟩
  cases dx with
  | tup xs =>
    obtain ⟨a, vs, rfl, hs, hr⟩ := rep_tup px
    exact ⟨a, vs, rfl, hs, by rw [← hr.len]; exact q.1, h.sim ρ env st σ H vs xs Q W rs re hr q.2 w⟩
  | _ => exact q.elim
theorem sg_sub {o i : Expr} {to ti : TE} {dO di : DTE} (ho : SE X o to dO) (hi : SE X i ti di)
    (ha : ∀ v, assign (.Subscript o i pos) X.env v = (do
      let ov ← holding [v] (eval o X.env)
      let iv ← holding [v, ov] (eval i X.env)
      standAt pos
      holding [v, ov, iv] (setItem ov iv v)
      release [v, ov, iv] []) := by intro _; rfl) : SG X (.Subscript o i pos) (gSub to ti rSetL) (dgSub dO di) := by
  refine ⟨pg_sub ho.pe hi.pe set_list ha, fun ρ env st σ H x dx Q W rs re px q w => ?_⟩
  refine ho.sim ρ env st σ H _ _ rs re q fun ov H1 ⟨ρ1, d1, st1, k1, r1, p1, q1⟩ => ?_
  refine hi.sim ρ1 env st1 σ H1 _ _ r1 (re.keep k1) q1 fun iv H2 ⟨ρ2, d2, st2, k2, r2, p2, q2⟩ => ?_
  cases d2 with
  | int z =>
    obtain rfl := rep_int p2
    dsimp only at q2
    split at q2
    · rename_i st3 e
      unfold dSetIx at e
      split at e
      · obtain ⟨a, ha, rfl⟩ := rep_ref (p1.keep k2)
        split at e
        · rename_i xs e2
          obtain ⟨j, hj, rfl⟩ := Option.map_eq_some_iff.mp e
          obtain ⟨vs, hv, hr⟩ := r2.lst ha e2
          have px2 := (px.keep k1).keep k2
          have hr2 := hr.set (d := dx) (v := x) j px2
          refine ⟨a, vs, z, j, rfl, rfl, hv, by rw [← hr.len]; exact hj, ?_⟩
          have kk := keep_upd (ρ := ρ2) (ws := vs.set j x) hv
          exact w σ _ ρ2 env _ ((k1.trans k2).trans kk) (r2.put ha hv hr2) (((re.keep k1).keep k2).keep kk) q2
        · cases e
      · cases e
    · exact q2.elim
  | _ => exact q2.elim
end
def dAsg (de : DTE) (dg : DTG) : DTS := fun _ d env st => de env st fun x st1 => dg x env st1 d.nx
def dSet (i : Nat) (de : DTE) : DTS := fun _ d env st => de env st fun x st1 => d.nx (env.set i (some x)) st1
theorem sim_asg {K : PySem.W.Frag} {te : TE} {de : DTE} {g : TG} {dg : DTG} (he : Sim K te de) (hg : SimG K g dg) : SimS K (tAsg te g) (dAsg de dg) := by
  intro n ρ env st σ H d W hn rs re q w
  refine he ρ env st σ H _ _ rs re q fun v H1 ⟨ρ1, dx, st1, k1, r1, px, q1⟩ => ?_
  exact hg ρ1 env st1 σ H1 v dx d.nx W.nx r1 (re.keep k1) px q1 fun σ' H' ρ' env' st' k => w.nx σ' H' ρ' env' st' ((k1.trans k).take n)
section
variable {X : Cx} {pos : Pos}
theorem ss_asg {tg e : Expr} {te : TE} {g : TG} {de : DTE} {dg : DTG} (he : SE X e te de) (hg : SG X tg g dg) (hs : swapsWithSole [tg] e pos.line X.env = pure false := by rfl) (hw : swappedStores [tg] e X.env = pure none := by rfl)
    (h1 : (assignEach [tg] X.env).map (·.2) = [assign tg X.env] := by rfl) : SS X (.Assign [tg] e pos) (tAsg te g) (dAsg de dg) := ⟨ps_asg he.pe hg.pg hs hw h1, sim_asg he.sim hg.sim⟩
theorem ss_set {i : Nat} {x : Str} {e : Expr} {te : TE} {de : DTE} {pos' : Pos} (hN : X.N.Nodup) (hi : X.N[i]? = some x) (hx : Loc X.env.scope x) (he : SE X e te de) (hs : swapsWith e (some (.Name x pos')) pos.line X.env = pure false := by rfl) (hf : X.fn x = true ∨ X.env.scope.names.lookup x = some .local := by first | exact .inl rfl | exact .inr rfl | assumption) :
    SS X (.Assign [.Name x pos'] e pos) (tAsg te (gName i)) (dSet i de) := ⟨ps_set hN hi hx he.pe hs hf, sim_asg he.sim sim_gname⟩
/-- a, b = x, y -/
def dPar (i j : Nat) (da : DTA) : DTS := fun _ d env st => da env st fun xs st1 => match xs with
  | [x, y] => d.nx ((env.set i (some x)).set j (some y)) st1
  | _ => False
theorem ss_par {i j : Nat} {x y : Str} {a b : Expr} {ta : TA} {da : DTA} {px py pt : Pos} {kt k2 pt2} (hc : X.calm = true) (hN : X.N.Nodup) (hi : X.N[i]? = some x) (hj : X.N[j]? = some y) (hij : i ≠ j)
    (hx : X.env.scope.names.lookup x = some .local) (hy : X.env.scope.names.lookup y = some .local) (ha : SA X [a, b] ta da)
    (hw : swappedStores [.Tuple [.Name x px, .Name y py] kt pt] (.Tuple [a, b] k2 pt2) X.env = pure (some [x, y]))
    (hs : swapsWithSole [.Tuple [.Name x px, .Name y py] kt pt] (.Tuple [a, b] k2 pt2) pos.line X.env = pure false := by rfl) :
    SS X (.Assign [.Tuple [.Name x px, .Name y py] kt pt] (.Tuple [a, b] k2 pt2) pos) (tPar i j ta) (dPar i j da) := by
  refine ⟨ps_par hc hN hi hj hij hx hy ha.pa hw hs, fun n ρ env st σ H d W hn rs re q w => ?_⟩
  refine ha.sim ρ env st σ H _ _ rs re q fun vs H1 ⟨ρ1, ds, st1, k1, r1, px, q1⟩ => ?_
  dsimp only at q1
  split at q1
  · obtain ⟨v, u, rfl, p1, p2⟩ := px.two
    exact ⟨v, u, rfl, w.nx _ H1 ρ1 _ st1 (k1.take n) r1 (((re.keep k1).set i p1).set j p2) q1⟩
  · exact q1.elim
/-- name op= e -/
structure SIp (X : Cx) (op : Operator) (r : TIp) (rd : DR2) : Prop where
  ip : PIp X op r
  sim : SimR2 X.K r rd
def dAug (i : Nat) (de : DTE) (rd : DR2) : DTS := fun _ d env st => match env[i]? with
  | some (some x) => de env st fun y st1 => rd x y st1 fun z st2 => d.nx (env.set i (some z)) st2
  | _ => False
theorem ss_aug {i : Nat} {x : Str} {e : Expr} {te : TE} {de : DTE} {op : Operator} {ti : TIp} {rd : DR2} {pos' : Pos} (hN : X.N.Nodup) (hi : X.N[i]? = some x) (hx : Loc X.env.scope x) (he : SE X e te de) (ho : SIp X op ti rd) (hf : X.fn x = true ∨ X.env.scope.names.lookup x = some .local := by first | exact .inl rfl | exact .inr rfl | assumption) :
    SS X (.AugAssign (.Name x pos') op e pos) (tAug i te ti) (dAug i de rd) := by
  refine ⟨ps_aug hN hi hx he.pe ho.ip hf, fun n ρ env st σ H d W hn rs re q w => ?_⟩
  unfold dAug at q
  split at q
  · rename_i dx e1
    obtain ⟨v, e2, px⟩ := re.get i dx e1
    refine ⟨v, e2, he.sim ρ env st σ H _ _ rs re q fun y H1 ⟨ρ1, dy, st1, k1, r1, py, q1⟩ => ?_⟩
    refine ho.sim ρ1 st1 H1 v y dx dy _ _ r1 (px.keep k1) py q1 fun z H2 ⟨ρ2, dz, st2, k2, r2, pz, q2⟩ => ?_
    exact w.nx _ H2 ρ2 _ st2 ((k1.trans k2).take n) r2 (((re.keep k1).keep k2).set i pz) q2
  · exact q.elim
theorem si_add : SIp X .Add (ipI fun i j => i + j) (dI0 fun i j => .int (i + j)) := ⟨ip_add, sim_i0⟩
theorem si_sub : SIp X .Sub (ipI fun i j => i - j) (dI0 fun i j => .int (i - j)) := ⟨ip_sub, sim_i0⟩
end

/-! ### what is walked -/
structure WalksD (K : PySem.W.Frag) (ρ : List Addr) (H : Hp) (J : It) (items : List D) (ok : Store → Prop) : Prop where
  go : ∀ i ρ' H' st', i < items.length → Keep ρ ρ' H H' → RelS K ρ' H' st' → ok st' → J.go i H'
  yld : ∀ i x ρ' H' H2 st', i < items.length → Keep ρ ρ' H H' → RelS K ρ' H' st' → ok st' → J.yld i H' x H2 → Same H' H2 ∧ ∃ d, items[i]? = some d ∧ Rep K ρ' H2 d x
  stop : ∀ i ρ' H' st', items.length ≤ i → Keep ρ ρ' H H' → RelS K ρ' H' st' → ok st' → J.stop i H'
abbrev DTI := DEnv → Store → (List D → (Store → Prop) → Store → Prop) → Prop
def SimI (K : PySem.W.Frag) (wi : TI) (di : DTI) : Prop := ∀ ρ env st σ H (R : List D → (Store → Prop) → Store → Prop) (W : It → Hp → Prop), RelS K ρ H st → RelE K ρ H env σ → di env st R →
  (∀ J H' ρ' items ok st', Keep ρ ρ' H H' → RelS K ρ' H' st' → WalksD K ρ' H' J items ok → R items ok st' → W J H') → wi σ H W
structure SI (X : Cx) (tg e : Expr) (wi : TI) (di : DTI) : Prop where
  pi : PI X tg e wi
  sim : SimI X.K wi di
theorem same_keep {ρ : List Addr} {H H' : Hp} (s : Same H H') : Keep ρ ρ H H' := ⟨⟨[], by simp⟩, fun a xs h => s a _ h, fun a o u h => s a _ h⟩
theorem RelS.same {K : PySem.W.Frag} {ρ : List Addr} {H H' : Hp} {st : Store} (r : RelS K ρ H st) (s : Same H H') : RelS K ρ H' st :=
  ⟨r.len, r.nd, fun k o e => let ⟨a, e2, q⟩ := r.ob k o e; ⟨a, e2, repO_keep q (same_keep s) fun u h => s a u h⟩⟩
/-- a list, a tuple or a text is walked -/
def okOf (x : D) (items : List D) : Store → Prop := fun st => match x with
  | .ref k => st[k]? = some (.lst items)
  | _ => True
def dItems (st : Store) (x : D) : Option (List D) := match x with
  | .tup xs => some xs
  | .rol xs => some xs
  | .ref k => match st[k]? with
    | some (.lst xs) => some xs
    | _ => none
  | .str z => some (z.cps.toList.map fun c => D.str ⟨#[c]⟩)
  | _ => none
def dIter (de : DTE) : DTI := fun env st R => de env st fun x st1 => match dItems st1 x with
  | some items => R items (okOf x items) st1
  | none => False
def dIterRev (de : DTE) : DTI := fun env st R => de env st fun x st1 => match x with
  | .str _ => False
  | _ => match dItems st1 x with
    | some items => R items.reverse (okOf x items) st1
    | none => False
def iSeq (K : PySem.W.Frag) (te : TE) : TI := fun σ H R => te σ H fun x H1 => (∃ a, x = .ref a ∧ ((∃ xs, SqL K H1 a xs) ∧ R (Itl K a) H1 ∨ (∃ xs, SqT K H1 a xs) ∧ R (Itt K a) H1)) ∨ ∃ z, x = .str z ∧ R (Its z) H1
theorem pi_seq {X : Cx} {tg l : Expr} {tl : TE} (hl : PE X l tl) : PI X tg l (iSeq X.K tl) := by
  refine ⟨fun pins s σ H R I h => ?_⟩
  refine thn (hl.run pins s σ H _ I h) fun v s1 ⟨x, H1, I1, r1, q1⟩ => ?_
  rcases q1 with ⟨a, rfl, ⟨⟨xs, hq⟩, q⟩ | ⟨⟨xs, hq⟩, q⟩⟩ | ⟨z, rfl, q⟩
  · cases r1
    obtain ⟨its, rv, p, hz⟩ := I1.list hq
    refine PySem.wpAny_pyIter_list p.isList ?_
    refine ⟨s1.heap.objs.size, [s1.heap.objs.size], _, _, H1, rfl, I1.kept (t' := s1.toks) fun b o e => Heap.get?_push_of_some _ e, turn_list a _, ⟨_, Heap.get?_push_size _ rfl, rfl, rfl⟩, fun b hb => ?_, q⟩
    have e : b = s1.heap.objs.size := by simpa using hb
    subst e
    exact I1.fpOk (Nat.le_refl _) (I1.hok.fresh (Nat.le_refl _))
  · cases r1
    obtain ⟨its, rv, p, hz⟩ := I1.tuple hq
    refine PySem.wpAny_pyIter_tuple (show s1.heap.IsTuple a its.toArray from p) ?_
    refine ⟨s1.heap.objs.size, [s1.heap.objs.size], _, _, H1, rfl, I1.kept (t' := s1.toks) fun b o e => Heap.get?_push_of_some _ e, turn_tuple a _, ⟨_, Heap.get?_push_size _ rfl, rfl, rfl⟩, fun b hb => ?_, q⟩
    have e : b = s1.heap.objs.size := by simpa using hb
    subst e
    exact I1.fpOk (Nat.le_refl _) (I1.hok.fresh (Nat.le_refl _))
  · obtain ⟨t, rfl⟩ := r1
    cases ha : z.cps.all (· < 128)
    · exact wpAny_pyIter_wide ha (pi_one (tk := s1.toks) I1 _ (turn_str _ z t "str_iterator" (.inr rfl)) ⟨_, Heap.get?_push_size _ rfl, rfl, rfl⟩ q)
    · exact wpAny_pyIter_ascii ha (pi_one (tk := s1.toks) I1 _ (turn_str _ z t "str_ascii_iterator" (.inl rfl)) ⟨_, Heap.get?_push_size _ rfl, rfl, rfl⟩ q)
section
variable {K : PySem.W.Frag} {ρ : List Addr} {H : Hp}
/-- where the walked list stands at each turn: items by a rule -/
theorem walks_at {a : Addr} {x : D} {items : List D} {st : Store} (r : RelS K ρ H st) (px : Rep K ρ H x (.ref a)) (e : dItems st x = some items) (hx : ∀ z, x ≠ .str z) :
    (∃ vs, SqL K H a vs ∧ ∀ ρ' H' st', Keep ρ ρ' H H' → RelS K ρ' H' st' → okOf x items st' → ∃ vs', SqL K H' a vs' ∧ Reps K ρ' H' items vs') ∨
    (∃ vs, SqT K H a vs ∧ ∀ ρ' H' st', Keep ρ ρ' H H' → RelS K ρ' H' st' → okOf x items st' → ∃ vs', SqT K H' a vs' ∧ Reps K ρ' H' items vs') := by
  cases x with
  | tup xs =>
    cases e
    obtain ⟨b, vs, e2, hs, hr⟩ := rep_tup px
    cases e2
    exact .inr ⟨vs, hs, fun ρ' H' st' k _ _ => ⟨vs, k.sqt hs, hr.keep k⟩⟩
  | rol xs =>
    cases e
    obtain ⟨b, vs, e2, hs, hr⟩ := rep_rol px
    cases e2
    exact .inl ⟨vs, sqf_l hs, fun ρ' H' st' k _ _ => ⟨vs, sqf_l (k.sqf hs), hr.keep k⟩⟩
  | ref n =>
    obtain ⟨b, hb, e2⟩ := rep_ref px
    cases e2
    unfold dItems at e
    dsimp only at e
    split at e
    · rename_i xs e3
      cases e
      obtain ⟨vs, hv, hr⟩ := r.lst hb e3
      refine .inl ⟨vs, SqL.of hv, fun ρ' H' st' k rs' ok => ?_⟩
      obtain ⟨ws, hw, hr2⟩ := rs'.lst (k.get hb) ok
      exact ⟨ws, SqL.of hw, hr2⟩
    · cases e
  | str z => exact absurd rfl (hx z)
  | _ => cases e
theorem sim_iter {tl : TE} {de : DTE} (h : Sim K tl de) : SimI K (iSeq K tl) (dIter de) := by
  intro ρ env st σ H R W rs re q w
  refine h ρ env st σ H _ _ rs re q fun x H1 ⟨ρ1, dx, st1, k1, r1, px, q1⟩ => ?_
  dsimp only at q1
  split at q1
  · rename_i items e
    by_cases hx : ∃ z, dx = .str z
    · obtain ⟨z, rfl⟩ := hx
      obtain rfl := rep_str px
      cases e
      refine .inr ⟨z, rfl, w (Its z) H1 ρ1 _ _ st1 k1 r1 ⟨fun i ρ' H' st' hi _ _ _ => ?_, fun i x ρ' H' H2 st' hi k r _ y => ?_, fun i ρ' H' st' hi _ _ _ => ?_⟩ q1⟩
      · rw [List.length_map, Array.length_toList] at hi
        exact hi
      · obtain ⟨rfl, c, hc, rfl⟩ := y
        exact ⟨Same.refl _, .str ⟨#[c]⟩, by rw [List.getElem?_map, Array.getElem?_toList, hc]; rfl, .str _⟩
      · rw [List.length_map, Array.length_toList] at hi
        exact hi
    · have hx' : ∀ z, dx ≠ .str z := fun z e => hx ⟨z, e⟩
      have hv : ∃ a, x = .ref a := by
        cases dx with
        | tup xs => obtain ⟨a, vs, rfl, _⟩ := rep_tup px; exact ⟨a, rfl⟩
        | rol xs => obtain ⟨a, vs, rfl, _⟩ := rep_rol px; exact ⟨a, rfl⟩
        | ref xs => obtain ⟨a, _, rfl⟩ := rep_ref px; exact ⟨a, rfl⟩
        | str z => exact absurd rfl (hx' z)
        | _ => cases e
      obtain ⟨a, rfl⟩ := hv
      rcases walks_at r1 px e hx' with ⟨vs, hs, at_⟩ | ⟨vs, hs, at_⟩
      · refine .inl ⟨a, rfl, .inl ⟨⟨vs, hs⟩, w (Itl K a) H1 ρ1 _ _ st1 k1 r1 ⟨fun i ρ' H' st' hi k r ok => ?_, fun i x ρ' H' H2 st' hi k r ok y => ?_, fun i ρ' H' st' hi k r ok => ?_⟩ q1⟩⟩
        · obtain ⟨ws, hw, hr⟩ := at_ ρ' H' st' k r ok
          exact ⟨ws, ws[i]'(by rw [← hr.len]; exact hi), hw, List.getElem?_eq_getElem _⟩
        · obtain ⟨ws, hw, hr⟩ := at_ ρ' H' st' k r ok
          obtain ⟨rfl, hy⟩ := y
          obtain ⟨d, hd, rd⟩ := hr.get2 (hy ws hw)
          exact ⟨Same.refl _, d, hd, rd⟩
        · obtain ⟨ws, hw, hr⟩ := at_ ρ' H' st' k r ok
          exact ⟨ws, hw, by rw [← hr.len]; exact hi⟩
      · refine .inl ⟨a, rfl, .inr ⟨⟨vs, hs⟩, w (Itt K a) H1 ρ1 _ _ st1 k1 r1 ⟨fun i ρ' H' st' hi k r ok => ?_, fun i x ρ' H' H2 st' hi k r ok y => ?_, fun i ρ' H' st' hi k r ok => ?_⟩ q1⟩⟩
        · obtain ⟨ws, hw, hr⟩ := at_ ρ' H' st' k r ok
          exact ⟨ws, ws[i]'(by rw [← hr.len]; exact hi), hw, List.getElem?_eq_getElem _⟩
        · obtain ⟨ws, hw, hr⟩ := at_ ρ' H' st' k r ok
          obtain ⟨rfl, hy⟩ := y
          obtain ⟨d, hd, rd⟩ := hr.get2 (hy ws hw)
          exact ⟨Same.refl _, d, hd, rd⟩
        · obtain ⟨ws, hw, hr⟩ := at_ ρ' H' st' k r ok
          exact ⟨ws, hw, by rw [← hr.len]; exact hi⟩
  · exact q1.elim
theorem sim_iterRev {tl : TE} {de : DTE} (h : Sim K tl de) : SimI K (RT.iRevA K tl) (dIterRev de) := by
  intro ρ env st σ H R W rs re q w
  refine h ρ env st σ H _ _ rs re q fun x H1 ⟨ρ1, dx, st1, k1, r1, px, q1⟩ => ?_
  have hx' : ∀ z, dx ≠ .str z := fun z e => by subst e; exact q1
  have q1' : match dItems st1 dx with
    | some items => R items.reverse (okOf dx items) st1
    | none => False := by
    cases dx with
    | str z => exact absurd rfl (hx' z)
    | _ => exact q1
  split at q1'
  · rename_i items e
    have hv : ∃ a, x = .ref a := by
      cases dx with
      | tup xs => obtain ⟨a, vs, rfl, _⟩ := rep_tup px; exact ⟨a, rfl⟩
      | rol xs => obtain ⟨a, vs, rfl, _⟩ := rep_rol px; exact ⟨a, rfl⟩
      | ref xs => obtain ⟨a, _, rfl⟩ := rep_ref px; exact ⟨a, rfl⟩
      | str z => exact absurd rfl (hx' z)
      | _ => cases e
    obtain ⟨a, rfl⟩ := hv
    have ok1 : okOf dx items st1 := by
      cases dx with
      | ref n =>
        unfold dItems at e
        dsimp only at e
        split at e
        · rename_i xs e3
          cases e
          exact e3
        · cases e
      | _ => trivial
    have rget : ∀ {ws : List V} {i : Nat} {x : V} {ρ' : List Addr} {H' : Hp}, Reps K ρ' H' items ws → i < ws.length → ws[ws.length - 1 - i]? = some x → ∃ d, items.reverse[i]? = some d ∧ Rep K ρ' H' d x := fun {ws i x ρ' H'} hr hi hx => by
      obtain ⟨d, hd, rd⟩ := hr.get2 hx
      refine ⟨d, ?_, rd⟩
      rw [List.getElem?_reverse (by rw [hr.len]; exact hi), hr.len]
      exact hd
    rcases walks_at r1 px e hx' with ⟨vs, hs, at_⟩ | ⟨vs, hs, at_⟩
    · obtain ⟨us, hu, ru⟩ := at_ ρ1 H1 st1 Keep.refl r1 ok1
      refine ⟨a, us, rfl, .inl ⟨hu, w (Itv K a us.length) H1 ρ1 _ _ st1 k1 r1 ⟨fun i ρ' H' st' hi k r ok => ?_, fun i x ρ' H' H2 st' hi k r ok y => ?_, fun i ρ' H' st' hi k r ok => ?_⟩ q1'⟩⟩
      · obtain ⟨ws, hw, hr⟩ := at_ ρ' H' st' k r ok
        have e1 := ru.len
        have e2 := hr.len
        rw [List.length_reverse] at hi
        exact ⟨by omega, ws, ws[us.length - 1 - i]'(by omega), hw, List.getElem?_eq_getElem _⟩
      · obtain ⟨ws, hw, hr⟩ := at_ ρ' H' st' k r ok
        obtain ⟨rfl, hy⟩ := y
        have e1 := ru.len
        have e2 := hr.len
        rw [List.length_reverse] at hi
        exact ⟨Same.refl _, rget hr (by omega) (by rw [← e2, e1]; exact hy ws hw)⟩
      · have e1 := ru.len
        rw [List.length_reverse] at hi
        show us.length ≤ i
        omega
    · obtain ⟨us, hu, ru⟩ := at_ ρ1 H1 st1 Keep.refl r1 ok1
      refine ⟨a, us, rfl, .inr ⟨hu, w (RT.ItvT K a us.length) H1 ρ1 _ _ st1 k1 r1 ⟨fun i ρ' H' st' hi k r ok => ?_, fun i x ρ' H' H2 st' hi k r ok y => ?_, fun i ρ' H' st' hi k r ok => ?_⟩ q1'⟩⟩
      · obtain ⟨ws, hw, hr⟩ := at_ ρ' H' st' k r ok
        have e1 := ru.len
        have e2 := hr.len
        rw [List.length_reverse] at hi
        exact ⟨by omega, ws, ws[us.length - 1 - i]'(by omega), hw, List.getElem?_eq_getElem _⟩
      · obtain ⟨ws, hw, hr⟩ := at_ ρ' H' st' k r ok
        obtain ⟨rfl, hy⟩ := y
        have e1 := ru.len
        have e2 := hr.len
        rw [List.length_reverse] at hi
        exact ⟨Same.refl _, rget hr (by omega) (by rw [← e2, e1]; exact hy ws hw)⟩
      · have e1 := ru.len
        rw [List.length_reverse] at hi
        show us.length ≤ i
        omega
  · exact q1'.elim
end
end DL

namespace DL
open PySem PySem.Spec L2

section
variable {X : Cx} {tg e : Expr} {te : TE} {de : DTE} {p pos : Pos}
theorem si_iter {K : PySem.W.Frag} [hk : HasK X K] (h : SE X e te de) : SI X tg e (iSeq K te) (dIter de) := by
  obtain rfl := hk.eq
  exact ⟨pi_seq h.pe, sim_iter h.sim⟩
theorem si_rev {K : PySem.W.Frag} [hk : HasK X K] (hg : Gl X "reversed") (hm : X.mg "reversed" = none) (h : SE X e te de) (hs : starEach [e] X.env = (false, eval e X.env) :: starEach [] X.env := by rfl) : SI X tg (.Call (.Name "reversed" p) [e] [] pos) (RT.iRevA K te) (dIterRev de) := by
  obtain rfl := hk.eq
  exact ⟨RT.pi_revA hg hm h.pe hs, sim_iterRev h.sim⟩
end
/-! ### ranges -/
def rangeD (lo : Int) : Nat → List D
  | 0 => []
  | n + 1 => .int lo :: rangeD (lo + 1) n
theorem rangeD_len : ∀ (n : Nat) (lo : Int), (rangeD lo n).length = n
  | 0, _ => rfl
  | n + 1, lo => by rw [rangeD, List.length_cons, rangeD_len n]
theorem rangeD_get : ∀ (n : Nat) (lo : Int) (i : Nat), i < n → (rangeD lo n)[i]? = some (.int (lo + i))
  | 0, _, i, h => absurd h (Nat.not_lt_zero i)
  | n + 1, lo, 0, _ => by
    rw [rangeD]
    simp
  | n + 1, lo, i + 1, h => by
    rw [rangeD, List.getElem?_cons_succ, rangeD_get n (lo + 1) i (by omega)]
    congr 2
    omega
theorem walks_range {K : PySem.W.Frag} {ρ : List Addr} {H : Hp} (lo : Int) (n : Nat) : WalksD K ρ H (Itr lo n) (rangeD lo n) fun _ => True :=
  ⟨fun i ρ' H' st' hi _ _ _ => by rw [rangeD_len] at hi; exact hi, fun i x ρ' H' H2 st' hi _ _ _ y => by
    obtain ⟨rfl, rfl⟩ := y
    rw [rangeD_len] at hi
    exact ⟨Same.refl _, _, rangeD_get n lo i hi, .int _⟩, fun i ρ' H' st' hi _ _ _ => by rw [rangeD_len] at hi; exact hi⟩
def dRng1 (da : DTA) : DTI := fun env st R => da env st fun xs st1 => match xs with
  | [.int j] => (-(2 ^ 62) ≤ j ∧ j < 2 ^ 62) ∧ R (rangeD 0 j.toNat) (fun _ => True) st1
  | _ => False
def dRng2 (da : DTA) : DTI := fun env st R => da env st fun xs st1 => match xs with
  | [.int i, .int j] => (-(2 ^ 62) ≤ i ∧ i < 2 ^ 62 ∧ -(2 ^ 62) ≤ j ∧ j < 2 ^ 62) ∧ R (rangeD i (j - i).toNat) (fun _ => True) st1
  | _ => False
section
variable {X : Cx} {tg a b : Expr} {ta : TA} {da : DTA} {p pos : Pos}
theorem si_range1 (hg : Gl X "range") (hm : X.mg "range" = none) (h : SA X [a] ta da) (hs : starEach [a] X.env = [(false, eval a X.env)] := by rfl) : SI X tg (.Call (.Name "range" p) [a] [] pos) (iRng1 ta) (dRng1 da) := by
  refine ⟨pi_range1 hg hm h.pa hs, fun ρ env st σ H R W rs re q w => ?_⟩
  refine h.sim ρ env st σ H _ _ rs re q fun vs H1 ⟨ρ1, ds, st1, k1, r1, px, q1⟩ => ?_
  dsimp only at q1
  split at q1
  · rename_i j
    obtain ⟨v, rfl, pv⟩ := px.one
    obtain rfl := rep_int pv
    exact ⟨j, rfl, q1.1.1, q1.1.2, w _ H1 ρ1 _ _ st1 k1 r1 (walks_range 0 _) q1.2⟩
  · exact q1.elim
theorem si_range2 (hg : Gl X "range") (hm : X.mg "range" = none) (h : SA X [a, b] ta da) (hs : starEach [a, b] X.env = [(false, eval a X.env), (false, eval b X.env)] := by rfl) (hs2 : starEach [b] X.env = [(false, eval b X.env)] := by rfl) : SI X tg (.Call (.Name "range" p) [a, b] [] pos) (iRng2 ta) (dRng2 da) := by
  refine ⟨pi_range2 hg hm h.pa hs hs2, fun ρ env st σ H R W rs re q w => ?_⟩
  refine h.sim ρ env st σ H _ _ rs re q fun vs H1 ⟨ρ1, ds, st1, k1, r1, px, q1⟩ => ?_
  dsimp only at q1
  split at q1
  · rename_i i j
    obtain ⟨v, u, rfl, pv, pu⟩ := px.two
    obtain rfl := rep_int pv
    obtain rfl := rep_int pu
    exact ⟨i, j, rfl, q1.1, w _ H1 ρ1 _ _ st1 k1 r1 (walks_range i _) q1.2⟩
  · exact q1.elim
end

/-! ### for -/
def dLoop (dg : DTG) (tb : DTS) (m : Nat) (d : DEnds) (ok : Store → Prop) : List D → DEnv → Store → Prop
  | [] => fun env st => ok st ∧ d.nx env st
  | x :: r => fun env st => ok st ∧ dg x env st fun env' st' => tb m { d with nx := dLoop dg tb m d ok r, ct := dLoop dg tb m d ok r, bk := d.nx } env' st'
def dFor (di : DTI) (dg : DTG) (tb : DTS) : DTS := fun _ d env st => di env st fun items ok st1 => dLoop dg tb st1.length d ok items env st1
theorem dLoop_ok {dg : DTG} {tb : DTS} {m : Nat} {d : DEnds} {ok : Store → Prop} {items : List D} {env : DEnv} {st : Store} (h : dLoop dg tb m d ok items env st) : ok st := by
  cases items <;> exact h.1
theorem sim_for {K : PySem.W.Frag} {wi : TI} {g : TG} {t : TS} {di : DTI} {dg : DTG} {tb : DTS} (hi : SimI K wi di) (hg : SimG K g dg) (hb : SimS K t tb) : SimS K (tFor wi g t) (dFor di dg tb) := by
  intro n ρ env st σ H d W hn rs re q w
  refine hi ρ env st σ H _ _ rs re q fun J H1 ρ1 items ok st1 k1 r1 wk q1 => ?_
  -- the anchor: the loop's beginning
  have kn : Keep (ρ.take n) ρ1 H H1 := k1.take n
  refine ⟨fun i m σ' H' => m = items.length - i ∧ i ≤ items.length ∧ ∃ ρ' env' st', Keep ρ1 ρ' H1 H' ∧ RelS K ρ' H' st' ∧ RelE K ρ' H' env' σ' ∧ dLoop dg tb st1.length d ok (items.drop i) env' st',
    ⟨items.length, rfl, Nat.zero_le _, ρ1, env, st1, Keep.refl, r1, re.keep k1, q1⟩, fun i m σ' H' hW => ?_⟩
  obtain ⟨rfl, hi, ρ', env', st', k', rs', re', q'⟩ := hW
  by_cases hlt : i < items.length
  · refine .inr ⟨wk.go i ρ' H' st' hlt k' rs' (dLoop_ok q'), fun σ2 H2 => i + 1 ≤ items.length ∧ ∃ ρ2 env2 st2, Keep ρ1 ρ2 H1 H2 ∧ RelS K ρ2 H2 st2 ∧ RelE K ρ2 H2 env2 σ2 ∧ dLoop dg tb st1.length d ok (items.drop (i + 1)) env2 st2, fun σ2 H2 h2 => ?_, fun x H2 hy => ?_⟩
    · exact ⟨items.length - (i + 1), by omega, rfl, h2⟩
    · have hok := dLoop_ok q'
      obtain ⟨sm, dx, hd, rd⟩ := wk.yld i x ρ' H' H2 st' hlt k' rs' hok hy
      rw [List.drop_eq_getElem_cons hlt] at q'
      have e : items[i] = dx := by
        rw [List.getElem?_eq_getElem hlt] at hd
        exact Option.some.inj hd
      rw [e] at q'
      obtain ⟨_, q'⟩ := q'
      have k2 : Keep ρ' ρ' H' H2 := same_keep sm
      refine hg ρ' env' st' σ' H2 x dx _ _ (rs'.same sm) (re'.keep k2) rd q' fun σ3 H3 ρ3 env3 st3 k3 rs3 re3 q3 => ?_
      have k13 : Keep ρ1 ρ3 H1 H3 := (k'.trans k2).trans k3
      have hl : st1.length ≤ ρ3.length := by rw [← r1.len]; exact k13.len
      have e3 : ρ3.take st1.length = ρ1 := by
        obtain ⟨t, rfl⟩ := k13.pre
        rw [← r1.len, List.take_append_of_le_length (Nat.le_refl _), List.take_length]
      have k31 : ∀ {ρ4 : List Addr} {H4 : Hp}, Keep (ρ3.take st1.length) ρ4 H3 H4 → Keep ρ1 ρ4 H1 H4 := fun {ρ4 H4} k4 => by
        rw [e3] at k4
        exact ⟨k4.pre, fun a xs h => k4.tups a xs (k13.tups a xs h), fun a o u h => k4.frzs a o u (k13.frzs a o u h)⟩
      refine hb st1.length ρ3 env3 st3 σ3 H3 _ _ hl rs3 re3 q3 ⟨fun σ4 H4 ρ4 env4 st4 k4 rs4 re4 q4 => ?_, fun v H4 ρ4 y st4 k4 rs4 re4 q4 => ?_, fun σ4 H4 ρ4 env4 st4 k4 rs4 re4 q4 => ?_, fun σ4 H4 ρ4 env4 st4 k4 rs4 re4 q4 => ?_⟩
      · exact ⟨hlt, ρ4, env4, st4, k31 k4, rs4, re4, q4⟩
      · exact w.rt v H4 ρ4 y st4 (kn.trans (k31 k4)) rs4 re4 q4
      · exact w.nx σ4 H4 ρ4 env4 st4 (kn.trans (k31 k4)) rs4 re4 q4
      · exact ⟨hlt, ρ4, env4, st4, k31 k4, rs4, re4, q4⟩
  · have e : items.drop i = [] := List.drop_eq_nil_of_le (by omega)
    have hok := dLoop_ok q'
    rw [e] at q'
    exact .inl ⟨wk.stop i ρ' H' st' (by omega) k' rs' hok, w.nx σ' H' ρ' env' st' (kn.trans k') rs' re' q'.2⟩
/-! ### while -/
def dWh (c : DTT) (tb : DTS) (n : Nat) (d : DEnds) : Nat → DEnv → Store → Prop
  | 0 => fun _ _ => False
  | f + 1 => fun env st => c env st fun b st1 => if b = true then tb n { d with nx := dWh c tb n d f, ct := dWh c tb n d f, bk := d.nx } env st1 else d.nx env st1
def dWhile (c : DTT) (tb : DTS) : DTS := fun n d env st => ∃ f, dWh c tb n d f env st
theorem sim_while {K : PySem.W.Frag} {tc : TT} {t : TS} {c : DTT} {tb : DTS} (hc : SimT K tc c) (hb : SimS K t tb) : SimS K (tWhile tc t) (dWhile c tb) := by
  intro n ρ env st σ H d W hn rs re q w
  obtain ⟨f0, q⟩ := q
  refine ⟨fun m σ' H' => ∃ ρ' env' st', Keep (ρ.take n) ρ' H H' ∧ RelS K ρ' H' st' ∧ RelE K ρ' H' env' σ' ∧ dWh c tb n d m env' st', ⟨f0, ρ, env, st, Keep.of_take hn, rs, re, q⟩, fun m σ' H' hW => ?_⟩
  obtain ⟨ρ', env', st', k', rs', re', q'⟩ := hW
  cases m with
  | zero => exact q'.elim
  | succ f =>
    refine hc ρ' env' st' σ' H' _ _ rs' re' q' fun b H2 ⟨ρ2, st2, k2, rs2, q2⟩ => ?_
    have k12 := k'.trans k2
    cases b with
    | false =>
      rw [if_neg Bool.false_ne_true] at q2 ⊢
      exact w.nx σ' H2 ρ2 env' st2 k12 rs2 (re'.keep k2) q2
    | true =>
      rw [if_pos rfl] at q2 ⊢
      refine ⟨fun σ3 H3 => ∃ ρ3 env3 st3, Keep (ρ.take n) ρ3 H H3 ∧ RelS K ρ3 H3 st3 ∧ RelE K ρ3 H3 env3 σ3 ∧ dWh c tb n d f env3 st3, fun σ3 H3 h3 => ⟨f, Nat.lt_succ_self f, h3⟩, ?_⟩
      have hl : n ≤ ρ2.length := by
        have := k12.len
        rw [List.length_take] at this
        omega
      have e2 : ρ2.take n = ρ.take n := by
        obtain ⟨t, rfl⟩ := k12.pre
        rw [List.take_append_of_le_length (by rw [List.length_take]; omega), List.take_take, Nat.min_self]
      have kk : ∀ {ρ4 : List Addr} {H4 : Hp}, Keep (ρ2.take n) ρ4 H2 H4 → Keep (ρ.take n) ρ4 H H4 := fun {ρ4 H4} k4 => by
        rw [e2] at k4
        exact ⟨k4.pre, fun a xs h => k4.tups a xs (k12.tups a xs h), fun a o u h => k4.frzs a o u (k12.frzs a o u h)⟩
      exact hb n ρ2 env' st2 σ' H2 _ _ hl rs2 (re'.keep k2) q2 ⟨fun σ4 H4 ρ4 env4 st4 k4 rs4 re4 q4 => ⟨ρ4, env4, st4, kk k4, rs4, re4, q4⟩, fun v H4 ρ4 y st4 k4 rs4 re4 q4 => w.rt v H4 ρ4 y st4 (kk k4) rs4 re4 q4,
        fun σ4 H4 ρ4 env4 st4 k4 rs4 re4 q4 => w.nx σ4 H4 ρ4 env4 st4 (kk k4) rs4 re4 q4, fun σ4 H4 ρ4 env4 st4 k4 rs4 re4 q4 => ⟨ρ4, env4, st4, kk k4, rs4, re4, q4⟩⟩
section
variable {X : Cx} {pos : Pos}
theorem ss_for {tg iter : Expr} {body : List Stmt} {wi : TI} {g : TG} {t : TS} {di : DTI} {dg : DTG} {tb : DTS} (hp : PassesOwn (model X.prog X.w) X.A X.env X.xe) (hc : X.calm = true) (hi : SI X tg iter wi di) (hg : SG X tg g dg) (hb : SSs X body t tb)
    (hs : ∀ x, foldedSetIterable iter X.env x = pure x := by intro _; rfl) : SS X (.For tg iter body [] pos) (tFor wi g t) (dFor di dg tb) := ⟨ps_for hp hc hi.pi hg.pg hb.pss hs, sim_for hi.sim hg.sim hb.sim⟩
theorem ss_while {c : Expr} {body : List Stmt} {tc : TT} {t : TS} {dc : DTT} {tb : DTS} (hp : PassesOwn (model X.prog X.w) X.A X.env X.xe) (hc : ST X c tc dc) (hb : SSs X body t tb) : SS X (.While c body [] pos) (tWhile tc t) (dWhile dc tb) := ⟨ps_while hp hc.pt hb.pss, sim_while hc.sim hb.sim⟩
end

/-! ### list comprehensions -/
def dwipe (env : DEnv) : List Nat → DEnv
  | [] => env
  | v :: vs => (dwipe env vs).set v none
theorem relE_wipe {K : PySem.W.Frag} {ρ : List Addr} {H : Hp} {env : DEnv} {σ : L2.St} (r : RelE K ρ H env σ) : ∀ vs : List Nat, RelE K ρ H (dwipe env vs) (wipe σ vs)
  | [] => r
  | v :: vs => by
    have ih := relE_wipe r vs
    unfold dwipe wipe
    refine ⟨by rw [List.length_set, List.length_set, ih.len], fun i d e => ?_⟩
    by_cases hi : v = i
    · subst hi
      by_cases hv : v < (dwipe env vs).length
      · rw [List.getElem?_set_self hv] at e
        cases e
      · rw [List.getElem?_eq_none (by rw [List.length_set]; omega)] at e
        cases e
    · rw [List.getElem?_set_ne hi] at e ⊢
      exact ih.get i d e
structure STs (X : Cx) (ifs : List Expr) (t : TT) (dt : DTT) : Prop where
  pts : PTs X ifs t
  sim : SimT X.K t dt
def dYes : DTT := fun _ st Q => Q true st
theorem sts_nil {X : Cx} : STs X [] tYes dYes := ⟨pts_nil, fun ρ env st σ H Q W rs re q w => w true H ⟨ρ, st, Keep.refl, rs, q⟩⟩
theorem sts_one {X : Cx} {c : Expr} {t : TT} {dt : DTT} (h : ST X c t dt) : STs X [c] t dt := ⟨pts_one h.pt, h.sim⟩
/-- a target that stores only the names at vs -/
def Own (g : TG) (vs : List Nat) : Prop := ∀ x σ H (W : L2.St → Hp → Prop), g x σ H W → g x σ H fun σ2 H2 => wipe σ2 vs = wipe σ vs ∧ W σ2 H2
def OwnS (g : TGs) (vs : List Nat) : Prop := ∀ xs σ H (W : L2.St → Hp → Prop), g xs σ H W → g xs σ H fun σ2 H2 => wipe σ2 vs = wipe σ vs ∧ W σ2 H2
theorem wipe_get {σ : L2.St} {j : Nat} : ∀ {vs : List Nat}, (wipe σ vs)[j]? = if j ∈ vs ∧ j < σ.length then some none else σ[j]?
  | [] => by simp [wipe]
  | v :: vs => by
    have ih := wipe_get (σ := σ) (j := j) (vs := vs)
    unfold wipe
    by_cases hv : v = j
    · subst hv
      by_cases hl : v < σ.length
      · rw [List.getElem?_set_self (by rw [wipe_length]; exact hl), if_pos ⟨List.mem_cons_self, hl⟩]
      · rw [List.getElem?_eq_none (by rw [List.length_set, wipe_length]; omega), if_neg (fun z => hl z.2), List.getElem?_eq_none (by omega)]
    · rw [List.getElem?_set_ne hv, ih]
      by_cases hm : j ∈ vs ∧ j < σ.length
      · rw [if_pos hm, if_pos ⟨List.mem_cons_of_mem _ hm.1, hm.2⟩]
      · rw [if_neg hm, if_neg]
        rintro ⟨z, z2⟩
        rcases List.mem_cons.mp z with z | z
        · exact hv z.symm
        · exact hm ⟨z, z2⟩
theorem wipe_set {σ : L2.St} {i : Nat} {v : Option V} {vs : List Nat} (h : i ∈ vs) : wipe (σ.set i v) vs = wipe σ vs := by
  apply List.ext_getElem?
  intro j
  rw [wipe_get, wipe_get, List.length_set]
  by_cases hj : j ∈ vs ∧ j < σ.length
  · rw [if_pos hj, if_pos hj]
  · rw [if_neg hj, if_neg hj]
    by_cases e : i = j
    · subst e
      have : ¬ i < σ.length := fun z => hj ⟨h, z⟩
      rw [List.getElem?_eq_none (by rw [List.length_set]; omega), List.getElem?_eq_none (by omega)]
    · rw [List.getElem?_set_ne e]
theorem wipe_wipe {σ : L2.St} {vs : List Nat} : wipe (wipe σ vs) vs = wipe σ vs := by
  apply List.ext_getElem?
  intro j
  rw [wipe_get, wipe_get, wipe_length]
  by_cases hj : j ∈ vs ∧ j < σ.length
  · rw [if_pos hj, if_pos hj]
  · rw [if_neg hj, if_neg hj]
theorem own_name {i : Nat} {vs : List Nat} (h : i ∈ vs) : Own (gName i) vs := fun x σ H W q => ⟨wipe_set h, q⟩
theorem owns_nil {vs : List Nat} : OwnS gNil vs := fun xs σ H W q => ⟨q.1, rfl, q.2⟩
theorem owns_cons {t : TG} {u : TGs} {vs : List Nat} (mono : ∀ x σ H W W', (∀ σ2 H2, W σ2 H2 → W' σ2 H2) → t x σ H W → t x σ H W') (ht : Own t vs) (hu : OwnS u vs) : OwnS (gCons t u) vs := by
  intro xs σ H W q
  obtain ⟨v, r, e, q⟩ := q
  refine ⟨v, r, e, ?_⟩
  have q2 := ht v σ H _ q
  refine mono v σ H _ _ (fun σ2 H2 ⟨e1, q3⟩ => ?_) q2
  have q4 := hu r σ2 H2 W q3
  rw [e1] at q4
  exact q4
theorem mono_name {i : Nat} : ∀ x σ H W W', (∀ σ2 H2, W σ2 H2 → W' σ2 H2) → gName i x σ H W → gName i x σ H W' := fun _ _ _ _ _ m q => m _ _ q
theorem own_tup {K : PySem.W.Frag} {n : Nat} {t : TGs} {vs : List Nat} (ht : OwnS t vs) : Own (gTup K n t) vs := fun x σ H W ⟨a, xs, e, hs, hl, q⟩ => ⟨a, xs, e, hs, hl, ht xs σ H W q⟩
/-- one more element -/
def dPut (k : Nat) (y : D) (st : Store) (nx : Store → Prop) : Prop := match st[k]? with
  | some (.lst acc) => acc.length < sizeLine ∧ nx (st.set k (.lst (acc ++ [y])))
  | _ => False
/-- the elements, from the left; the new list is the cell k -/
def dLcL (dg : DTG) (tt : DTT) (te : DTE) (ok : Store → Prop) (env : DEnv) (k : Nat) (fin : Store → Prop) : List D → Store → Prop
  | [] => fun st => ok st ∧ fin st
  | x :: r => fun st => ok st ∧ dg x env st fun env' st' => tt env' st' fun b st2 =>
      if b = true then te env' st2 fun y st3 => dPut k y st3 (dLcL dg tt te ok env k fin r) else dLcL dg tt te ok env k fin r st2
def dLc (di : DTI) (dg : DTG) (tt : DTT) (te : DTE) (vs : List Nat) : DTE := fun env st Q => di env st fun items ok st1 => dLcL dg tt te ok (dwipe env vs) st1.length (fun st2 => Q (.ref st1.length) st2) items (st1 ++ [.lst []])
theorem dLcL_ok {dg : DTG} {tt : DTT} {te : DTE} {ok : Store → Prop} {env : DEnv} {k : Nat} {fin : Store → Prop} {items : List D} {st : Store} (h : dLcL dg tt te ok env k fin items st) : ok st := by
  cases items <;> exact h.1
theorem sim_put {K : PySem.W.Frag} {ρ : List Addr} {H : Hp} {k : Nat} {p : Addr} {y : D} {v : V} {st : Store} {nx : Store → Prop} {W : Hp → Prop} (r : RelS K ρ H st) (hp : ρ[k]? = some p) (hv : Rep K ρ H y v) (h : dPut k y st nx)
    (w : ∀ H' st', Keep ρ ρ H H' → RelS K ρ H' st' → nx st' → W H') : ∃ acc, H p = some (.lst acc) ∧ acc.length < sizeLine ∧ W (upd H p (.lst (acc ++ [v]))) := by
  unfold dPut at h
  split at h
  · rename_i acc e
    obtain ⟨vs, hvs, hr⟩ := r.lst hp e
    exact ⟨vs, hvs, by rw [← hr.len]; exact h.1, w _ _ (keep_upd hvs) (r.put hp hvs (hr.app (.cons hv .nil))) h.2⟩
  · exact h.elim
theorem sim_lc {K : PySem.W.Frag} {wi : TI} {g : TG} {tt : TT} {te : TE} {di : DTI} {dg : DTG} {dt : DTT} {de : DTE} {vs : List Nat} (hi : SimI K wi di) (hg : SimG K g dg) (ho : Own g vs) (ht : SimT K tt dt) (he : Sim K te de) : Sim K (tLc wi g tt te vs) (dLc di dg dt de vs) := by
  intro ρ env st σ H Q W rs re q w
  refine hi ρ env st σ H _ _ rs re q fun J H1 ρ1 items ok st1 k1 r1 wk q1 => ?_
  intro p hp
  have kp : Keep ρ1 (ρ1 ++ [p]) H1 (upd H1 p (.lst [])) := keep_cell hp
  have gp : (ρ1 ++ [p])[st1.length]? = some p := by
    rw [List.getElem?_append_right (by rw [r1.len]; exact Nat.le_refl _), r1.len, Nat.sub_self]
    rfl
  refine ⟨fun i m H' => m = items.length - i ∧ i ≤ items.length ∧ ∃ ρ' st', Keep (ρ1 ++ [p]) ρ' (upd H1 p (.lst [])) H' ∧ RelS K ρ' H' st' ∧ dLcL dg dt de ok (dwipe env vs) st1.length (fun st2 => Q (.ref st1.length) st2) (items.drop i) st',
    ⟨items.length, rfl, Nat.zero_le _, _, _, Keep.refl, r1.cell hp Reps.nil, q1⟩, fun i m H' hW => ?_⟩
  obtain ⟨rfl, hi, ρ', st', k', rs', q'⟩ := hW
  have hok := dLcL_ok q'
  have kk := kp.trans k'
  have gp' := k'.get gp
  by_cases hlt : i < items.length
  · refine .inr ⟨wk.go i ρ' H' st' hlt kk rs' hok, fun H2 => ∃ ρ2 st2, Keep (ρ1 ++ [p]) ρ2 (upd H1 p (.lst [])) H2 ∧ RelS K ρ2 H2 st2 ∧ dLcL dg dt de ok (dwipe env vs) st1.length (fun st2 => Q (.ref st1.length) st2) (items.drop (i + 1)) st2,
      fun H2 h2 => ⟨items.length - (i + 1), by omega, rfl, hlt, h2⟩, fun x H2 hy => ?_⟩
    obtain ⟨sm, dx, hd, rd⟩ := wk.yld i x ρ' H' H2 st' hlt kk rs' hok hy
    rw [List.drop_eq_getElem_cons hlt] at q'
    have e : items[i] = dx := by
      rw [List.getElem?_eq_getElem hlt] at hd
      exact Option.some.inj hd
    rw [e] at q'
    obtain ⟨_, q'⟩ := q'
    have k2 : Keep ρ' ρ' H' H2 := same_keep sm
    have re2 : RelE K ρ' H2 (dwipe env vs) (wipe σ vs) := relE_wipe (((re.keep k1).keep kk).keep k2) vs
    have tgt := hg ρ' (dwipe env vs) st' (wipe σ vs) H2 x dx _ (fun σ3 H3 => tt σ3 H3 fun b H4 => if b = true then te σ3 H4 fun y H5 => ∃ acc, H5 p = some (.lst acc) ∧ acc.length < sizeLine ∧ ∃ ρ2 st2, Keep (ρ1 ++ [p]) ρ2 (upd H1 p (.lst [])) (upd H5 p (.lst (acc ++ [y]))) ∧ RelS K ρ2 (upd H5 p (.lst (acc ++ [y]))) st2 ∧ dLcL dg dt de ok (dwipe env vs) st1.length (fun st2 => Q (.ref st1.length) st2) (items.drop (i + 1)) st2 else ∃ ρ2 st2, Keep (ρ1 ++ [p]) ρ2 (upd H1 p (.lst [])) H4 ∧ RelS K ρ2 H4 st2 ∧ dLcL dg dt de ok (dwipe env vs) st1.length (fun st2 => Q (.ref st1.length) st2) (items.drop (i + 1)) st2)
      (rs'.same sm) re2 rd q' fun σ3 H3 ρ3 env3 st3 k3 rs3 re3 q3 => ?_
    · have := ho x (wipe σ vs) H2 _ tgt
      rw [wipe_wipe] at this
      exact this
    · refine ht ρ3 env3 st3 σ3 H3 _ _ rs3 re3 q3 fun b H4 ⟨ρ4, st4, k4, rs4, q4⟩ => ?_
      have k14 := ((k'.trans k2).trans k3).trans k4
      cases b with
      | false =>
        rw [if_neg Bool.false_ne_true] at q4 ⊢
        exact ⟨ρ4, st4, k14, rs4, q4⟩
      | true =>
        rw [if_pos rfl] at q4 ⊢
        refine he ρ4 env3 st4 σ3 H4 _ _ rs4 (re3.keep k4) q4 fun y H5 ⟨ρ5, dy, st5, k5, rs5, py, q5⟩ => ?_
        exact sim_put (W := fun Hz => ∃ ρ2 st2, Keep (ρ1 ++ [p]) ρ2 (upd H1 p (.lst [])) Hz ∧ RelS K ρ2 Hz st2 ∧ dLcL dg dt de ok (dwipe env vs) st1.length (fun st2 => Q (.ref st1.length) st2) (items.drop (i + 1)) st2) rs5 ((k14.trans k5).get gp) py q5 fun H6 st6 k6 rs6 q6 => ⟨ρ5, st6, (k14.trans k5).trans k6, rs6, q6⟩
  · have e : items.drop i = [] := List.drop_eq_nil_of_le (by omega)
    rw [e] at q'
    exact .inl ⟨wk.stop i ρ' H' st' (by omega) kk rs' hok, w _ H' ⟨ρ', .ref st1.length, st', k1.trans kk, rs', .ref gp', q'.2⟩⟩
/-! two clauses -/
/-- the inner loop's turns, then nx -/
def dLcI (dg : DTG) (tt : DTT) (te : DTE) (ok : Store → Prop) (env : DEnv) (k : Nat) (nx : Store → Prop) : List D → Store → Prop
  | [] => fun st => ok st ∧ nx st
  | x :: r => fun st => ok st ∧ dg x env st fun env' st' => tt env' st' fun b st2 =>
      if b = true then te env' st2 fun y st3 => dPut k y st3 (dLcI dg tt te ok env k nx r) else dLcI dg tt te ok env k nx r st2
def dLcO (dg : DTG) (tt : DTT) (di1 : DTI) (dg1 : DTG) (tt1 : DTT) (te : DTE) (vs1 : List Nat) (ok : Store → Prop) (env : DEnv) (k : Nat) (fin : Store → Prop) : List D → Store → Prop
  | [] => fun st => ok st ∧ fin st
  | x :: r => fun st => ok st ∧ dg x env st fun env' st' => tt env' st' fun b st2 =>
      if b = true then di1 env' st2 fun items1 ok1 st3 => dLcI dg1 tt1 te ok1 (dwipe env' vs1) k (dLcO dg tt di1 dg1 tt1 te vs1 ok env k fin r) items1 st3 else dLcO dg tt di1 dg1 tt1 te vs1 ok env k fin r st2
def dLc2 (di : DTI) (dg : DTG) (tt : DTT) (di1 : DTI) (dg1 : DTG) (tt1 : DTT) (te : DTE) (vs vs1 : List Nat) : DTE := fun env st Q => di env st fun items ok st1 => dLcO dg tt di1 dg1 tt1 te vs1 ok (dwipe env vs) st1.length (fun st2 => Q (.ref st1.length) st2) items (st1 ++ [.lst []])
theorem dLcO_ok {dg : DTG} {tt : DTT} {di1 : DTI} {dg1 : DTG} {tt1 : DTT} {te : DTE} {vs1 : List Nat} {ok : Store → Prop} {env : DEnv} {k : Nat} {fin : Store → Prop} {items : List D} {st : Store} (h : dLcO dg tt di1 dg1 tt1 te vs1 ok env k fin items st) : ok st := by
  cases items <;> exact h.1
theorem dLcI_ok {dg : DTG} {tt : DTT} {te : DTE} {ok : Store → Prop} {env : DEnv} {k : Nat} {fin : Store → Prop} {items : List D} {st : Store} (h : dLcI dg tt te ok env k fin items st) : ok st := by
  cases items <;> exact h.1
theorem sim_lc2 {K : PySem.W.Frag} {wi wi1 : TI} {g g1 : TG} {tt tt1 : TT} {te : TE} {di di1 : DTI} {dg dg1 : DTG} {dt dt1 : DTT} {de : DTE} {vs vs1 : List Nat} (hi : SimI K wi di) (hg : SimG K g dg) (ho : Own g vs) (ht : SimT K tt dt) (hi1 : SimI K wi1 di1) (hg1 : SimG K g1 dg1) (ho1 : Own g1 vs1) (ht1 : SimT K tt1 dt1) (he : Sim K te de) :
    Sim K (tLc2 wi g tt wi1 g1 tt1 te vs vs1) (dLc2 di dg dt di1 dg1 dt1 de vs vs1) := by
  intro ρ env st σ H Q W rs re q w
  refine hi ρ env st σ H _ _ rs re q fun J H1 ρ1 items ok st1 k1 r1 wk q1 => ?_
  intro p hp
  have kp : Keep ρ1 (ρ1 ++ [p]) H1 (upd H1 p (.lst [])) := keep_cell hp
  have gp : (ρ1 ++ [p])[st1.length]? = some p := by
    rw [List.getElem?_append_right (by rw [r1.len]; exact Nat.le_refl _), r1.len, Nat.sub_self]
    rfl
  let R : Nat → Hp → Prop := fun i H' => ∃ ρ' st', Keep (ρ1 ++ [p]) ρ' (upd H1 p (.lst [])) H' ∧ RelS K ρ' H' st' ∧ dLcO dg dt di1 dg1 dt1 de vs1 ok (dwipe env vs) st1.length (fun st2 => Q (.ref st1.length) st2) (items.drop i) st'
  refine ⟨fun i m H' => m = items.length - i ∧ i ≤ items.length ∧ R i H', ⟨items.length, rfl, Nat.zero_le _, _, _, Keep.refl, r1.cell hp Reps.nil, q1⟩, fun i m H' hW => ?_⟩
  obtain ⟨rfl, hi, ρ', st', k', rs', q'⟩ := hW
  have hok := dLcO_ok q'
  have kk := kp.trans k'
  have gp' := k'.get gp
  by_cases hlt : i < items.length
  · refine .inr ⟨wk.go i ρ' H' st' hlt kk rs' hok, R (i + 1), fun H2 h2 => ⟨items.length - (i + 1), by omega, rfl, hlt, h2⟩, fun x H2 hy => ?_⟩
    obtain ⟨sm, dx, hd, rd⟩ := wk.yld i x ρ' H' H2 st' hlt kk rs' hok hy
    rw [List.drop_eq_getElem_cons hlt] at q'
    have e : items[i] = dx := by
      rw [List.getElem?_eq_getElem hlt] at hd
      exact Option.some.inj hd
    rw [e] at q'
    obtain ⟨_, q'⟩ := q'
    have k2 : Keep ρ' ρ' H' H2 := same_keep sm
    have re2 : RelE K ρ' H2 (dwipe env vs) (wipe σ vs) := relE_wipe (((re.keep k1).keep kk).keep k2) vs
    have step : ∀ σ3 H3 ρ3 env3 st3, Keep ρ' ρ3 H2 H3 → RelS K ρ3 H3 st3 → RelE K ρ3 H3 env3 σ3 → (dt env3 st3 fun b st2 =>
        if b = true then di1 env3 st2 fun items1 ok1 st3 => dLcI dg1 dt1 de ok1 (dwipe env3 vs1) st1.length (dLcO dg dt di1 dg1 dt1 de vs1 ok (dwipe env vs) st1.length (fun st2 => Q (.ref st1.length) st2) (items.drop (i + 1))) items1 st3 else dLcO dg dt di1 dg1 dt1 de vs1 ok (dwipe env vs) st1.length (fun st2 => Q (.ref st1.length) st2) (items.drop (i + 1)) st2) →
        tt σ3 H3 fun b H3 => if b = true then wi1 σ3 H3 fun J1 H4 => ∃ W1 : Nat → Nat → Hp → Prop, (∃ m, W1 0 m H4) ∧ ∀ j k H, W1 j k H →
          (J1.stop j H ∧ R (i + 1) H) ∨ (J1.go j H ∧ ∃ Nx1 : Hp → Prop, (∀ H', Nx1 H' → ∃ k', k' < k ∧ W1 (j + 1) k' H') ∧ ∀ x H', J1.yld j H x H' → g1 x (wipe σ3 vs1) H' fun σ4 H5 => wipe σ4 vs1 = wipe σ3 vs1 ∧ tt1 σ4 H5 fun b H6 =>
            if b = true then te σ4 H6 fun y H7 => ∃ acc, H7 p = some (.lst acc) ∧ acc.length < sizeLine ∧ Nx1 (upd H7 p (.lst (acc ++ [y]))) else Nx1 H6) else R (i + 1) H3 := by
      intro σ3 H3 ρ3 env3 st3 k3 rs3 re3 q3
      refine ht ρ3 env3 st3 σ3 H3 _ _ rs3 re3 q3 fun b H4 ⟨ρ4, st4, k4, rs4, q4⟩ => ?_
      have k14 := ((k'.trans k2).trans k3).trans k4
      cases b with
      | false =>
        rw [if_neg Bool.false_ne_true] at q4 ⊢
        exact ⟨ρ4, st4, k14, rs4, q4⟩
      | true =>
        rw [if_pos rfl] at q4 ⊢
        refine hi1 ρ4 env3 st4 σ3 H4 _ _ rs4 (re3.keep k4) q4 fun J1 H5 ρ5 items1 ok1 st5 k5 r5 wk1 q5 => ?_
        have k15 := k14.trans k5
        let R1 : Nat → Hp → Prop := fun j H' => ∃ ρ' st', Keep ρ5 ρ' H5 H' ∧ RelS K ρ' H' st' ∧ dLcI dg1 dt1 de ok1 (dwipe env3 vs1) st1.length (dLcO dg dt di1 dg1 dt1 de vs1 ok (dwipe env vs) st1.length (fun st2 => Q (.ref st1.length) st2) (items.drop (i + 1))) (items1.drop j) st'
        refine ⟨fun j m H' => m = items1.length - j ∧ j ≤ items1.length ∧ R1 j H', ⟨items1.length, rfl, Nat.zero_le _, ρ5, st5, Keep.refl, r5, q5⟩, fun j m H' hW => ?_⟩
        obtain ⟨rfl, hj, ρ6, st6, k6, rs6, q6⟩ := hW
        have hok1 := dLcI_ok q6
        by_cases hjl : j < items1.length
        · refine .inr ⟨wk1.go j ρ6 H' st6 hjl k6 rs6 hok1, R1 (j + 1), fun H2 h2 => ⟨items1.length - (j + 1), by omega, rfl, hjl, h2⟩, fun x H7 hy => ?_⟩
          obtain ⟨sm1, dx1, hd1, rd1⟩ := wk1.yld j x ρ6 H' H7 st6 hjl k6 rs6 hok1 hy
          rw [List.drop_eq_getElem_cons hjl] at q6
          have e1 : items1[j] = dx1 := by
            rw [List.getElem?_eq_getElem hjl] at hd1
            exact Option.some.inj hd1
          rw [e1] at q6
          obtain ⟨_, q6⟩ := q6
          have k7 : Keep ρ6 ρ6 H' H7 := same_keep sm1
          have re7 : RelE K ρ6 H7 (dwipe env3 vs1) (wipe σ3 vs1) := relE_wipe ((((re3.keep k4).keep k5).keep k6).keep k7) vs1
          have tgt := hg1 ρ6 (dwipe env3 vs1) st6 (wipe σ3 vs1) H7 x dx1 _ (fun σ4 H5 => tt1 σ4 H5 fun b H6 => if b = true then te σ4 H6 fun y H7 => ∃ acc, H7 p = some (.lst acc) ∧ acc.length < sizeLine ∧ R1 (j + 1) (upd H7 p (.lst (acc ++ [y]))) else R1 (j + 1) H6)
            (rs6.same sm1) re7 rd1 q6 fun σ8 H8 ρ8 env8 st8 k8 rs8 re8 q8 => ?_
          · have := ho1 x (wipe σ3 vs1) H7 _ tgt
            rw [wipe_wipe] at this
            exact this
          · refine ht1 ρ8 env8 st8 σ8 H8 _ _ rs8 re8 q8 fun b H9 ⟨ρ9, st9, k9, rs9, q9⟩ => ?_
            have k69 := ((k6.trans k7).trans k8).trans k9
            cases b with
            | false =>
              rw [if_neg Bool.false_ne_true] at q9 ⊢
              exact ⟨ρ9, st9, k69, rs9, q9⟩
            | true =>
              rw [if_pos rfl] at q9 ⊢
              refine he ρ9 env8 st9 σ8 H9 _ _ rs9 (re8.keep k9) q9 fun y Ha ⟨ρa, dy, sta, ka, rsa, py, qa⟩ => ?_
              exact sim_put rsa (((k15.trans k69).trans ka).get gp) py qa fun Hb stb kb rsb qb => ⟨ρa, stb, (k69.trans ka).trans kb, rsb, qb⟩
        · have e : items1.drop j = [] := List.drop_eq_nil_of_le (by omega)
          rw [e] at q6
          exact .inl ⟨wk1.stop j ρ6 H' st6 (by omega) k6 rs6 hok1, ρ6, st6, k15.trans k6, rs6, q6.2⟩
    have tgt := hg ρ' (dwipe env vs) st' (wipe σ vs) H2 x dx _ _ (rs'.same sm) re2 rd q' step
    have := ho x (wipe σ vs) H2 _ tgt
    rw [wipe_wipe] at this
    exact this
  · have e : items.drop i = [] := List.drop_eq_nil_of_le (by omega)
    rw [e] at q'
    exact .inl ⟨wk.stop i ρ' H' st' (by omega) kk rs' hok, w _ H' ⟨ρ', .ref st1.length, st', k1.trans kk, rs', .ref gp', q'.2⟩⟩
section
variable {X : Cx} {elt tg iter tg1 iter1 : Expr} {ifs ifs1 : List Expr} {scope : Scope} {own : List (Str × Nat)} {pos : Pos} {wi wi1 : TI} {g g1 : TG} {tt tt1 : TT} {te : TE} {di di1 : DTI} {dg dg1 : DTG} {dt dt1 : DTT} {de : DTE} {vs1 : List Nat}
theorem se_lc (hc : X.calm = true) (hN : X.N.Nodup) (hi : SI X tg iter wi di) (ok : BlkOk X.N X.env.scope scope own) (ho : Own g (own.map (·.2)))
    (hg : ∀ (s : Shared) (H : Hp) (C : Addr) (cl : List (Str × Addr)) (fp : List Addr), SG (X.blk s H scope (compEnvC scope cl C X.env) fp) tg g dg) (ht : ∀ (s : Shared) (H : Hp) (C : Addr) (cl : List (Str × Addr)) (fp : List Addr), STs (X.blk s H scope (compEnvC scope cl C X.env) fp) ifs tt dt)
    (he : ∀ (s : Shared) (H : Hp) (C : Addr) (cl : List (Str × Addr)) (fp : List Addr), SE (X.blk s H scope (compEnvC scope cl C X.env) fp) elt te de) (hs : ∀ x, foldedSetIterable iter X.env x = pure x := by intro _; rfl) :
    SE X (.ListComp elt [⟨tg, iter, ifs, 0⟩] scope pos) (tLc wi g tt te (own.map (·.2))) (dLc di dg dt de (own.map (·.2))) :=
  ⟨pe_lc hc hN hi.pi ok (fun s H C cl fp => (hg s H C cl fp).pg) (fun s H C cl fp => (ht s H C cl fp).pts) (fun s H C cl fp => (he s H C cl fp).pe) hs,
    sim_lc hi.sim (hg ({} : Shared) (fun _ => none) 0 [] []).sim ho (ht ({} : Shared) (fun _ => none) 0 [] []).sim (he ({} : Shared) (fun _ => none) 0 [] []).sim⟩
theorem se_lc2 (hc : X.calm = true) (hN : X.N.Nodup) (hi : SI X tg iter wi di) (ok : BlkOk X.N X.env.scope scope own) (hv : ∀ i ∈ vs1, i ∈ own.map (·.2)) (ho : Own g (own.map (·.2))) (ho1 : Own g1 vs1)
    (hg : ∀ (s : Shared) (H : Hp) (C : Addr) (cl : List (Str × Addr)) (fp : List Addr), SG (X.blk s H scope (compEnvC scope cl C X.env) fp) tg g dg) (ht : ∀ (s : Shared) (H : Hp) (C : Addr) (cl : List (Str × Addr)) (fp : List Addr), STs (X.blk s H scope (compEnvC scope cl C X.env) fp) ifs tt dt)
    (hi1 : ∀ (s : Shared) (H : Hp) (C : Addr) (cl : List (Str × Addr)) (fp : List Addr), SI (X.blk s H scope (compEnvC scope cl C X.env) fp) tg1 iter1 wi1 di1)
    (hg1 : ∀ (s : Shared) (H : Hp) (C : Addr) (cl : List (Str × Addr)) (fp : List Addr), SG (X.blk s H scope (compEnvC scope cl C X.env) fp) tg1 g1 dg1) (ht1 : ∀ (s : Shared) (H : Hp) (C : Addr) (cl : List (Str × Addr)) (fp : List Addr), STs (X.blk s H scope (compEnvC scope cl C X.env) fp) ifs1 tt1 dt1)
    (he : ∀ (s : Shared) (H : Hp) (C : Addr) (cl : List (Str × Addr)) (fp : List Addr), SE (X.blk s H scope (compEnvC scope cl C X.env) fp) elt te de) (hs : ∀ x, foldedSetIterable iter X.env x = pure x := by intro _; rfl) (hs1 : ∀ env x, foldedSetIterable iter1 env x = pure x := by intro _ _; rfl) :
    SE X (.ListComp elt [⟨tg, iter, ifs, 0⟩, ⟨tg1, iter1, ifs1, 0⟩] scope pos) (tLc2 wi g tt wi1 g1 tt1 te (own.map (·.2)) vs1) (dLc2 di dg dt di1 dg1 dt1 de (own.map (·.2)) vs1) :=
  ⟨pe_lc2 hc hN hi.pi ok hv (fun s H C cl fp => (hg s H C cl fp).pg) (fun s H C cl fp => (ht s H C cl fp).pts) (fun s H C cl fp => (hi1 s H C cl fp).pi) (fun s H C cl fp => (hg1 s H C cl fp).pg) (fun s H C cl fp => (ht1 s H C cl fp).pts) (fun s H C cl fp => (he s H C cl fp).pe) hs hs1,
    sim_lc2 hi.sim (hg ({} : Shared) (fun _ => none) 0 [] []).sim ho (ht ({} : Shared) (fun _ => none) 0 [] []).sim (hi1 ({} : Shared) (fun _ => none) 0 [] []).sim (hg1 ({} : Shared) (fun _ => none) 0 [] []).sim ho1 (ht1 ({} : Shared) (fun _ => none) 0 [] []).sim (he ({} : Shared) (fun _ => none) 0 [] []).sim⟩
/-- name = [..] where the model stores within the comprehension's frame -/
theorem ss_setLc {i : Nat} {y : Str} {py : Pos} {spos : Pos} (hc : X.calm = true) (hN : X.N.Nodup) (hy : X.N[i]? = some y) (hyl : X.env.scope.names.lookup y = some .local)
    (hsw : swapsWith (.ListComp elt [⟨tg, iter, ifs, 0⟩] scope pos) (some (.Name y py)) spos.line X.env = pure true) (hi : SI X tg iter wi di) (ok : BlkOk X.N X.env.scope scope own) (ho : Own g (own.map (·.2)))
    (hg : ∀ (s : Shared) (H : Hp) (C : Addr) (cl : List (Str × Addr)) (fp : List Addr), SG (X.blk s H scope (compEnvC scope cl C X.env) fp) tg g dg) (ht : ∀ (s : Shared) (H : Hp) (C : Addr) (cl : List (Str × Addr)) (fp : List Addr), STs (X.blk s H scope (compEnvC scope cl C X.env) fp) ifs tt dt)
    (he : ∀ (s : Shared) (H : Hp) (C : Addr) (cl : List (Str × Addr)) (fp : List Addr), SE (X.blk s H scope (compEnvC scope cl C X.env) fp) elt te de) (hs : ∀ x, foldedSetIterable iter X.env x = pure x := by intro _; rfl) :
    SS X (.Assign [.Name y py] (.ListComp elt [⟨tg, iter, ifs, 0⟩] scope pos) spos) (tAsg (tLc wi g tt te (own.map (·.2))) (gName i)) (dSet i (dLc di dg dt de (own.map (·.2)))) :=
  ⟨ps_setLc hc hN hy hyl hsw hi.pi ok (fun s H C cl fp => (hg s H C cl fp).pg) (fun s H C cl fp => (ht s H C cl fp).pts) (fun s H C cl fp => (he s H C cl fp).pe) hs,
    sim_asg (sim_lc hi.sim (hg ({} : Shared) (fun _ => none) 0 [] []).sim ho (ht ({} : Shared) (fun _ => none) 0 [] []).sim (he ({} : Shared) (fun _ => none) 0 [] []).sim) sim_gname⟩
end
end DL

namespace DL
open PySem PySem.Spec L2

/-! ### cells that nobody needs are forgotten -/
mutual
def D.ren (π : Nat → Nat) : D → D
  | .tup xs => .tup (D.rens π xs)
  | .rol xs => .rol (D.rens π xs)
  | .ref k => .ref (π k)
  | .non => .non
  | .bl b => .bl b
  | .int i => .int i
  | .str x => .str x
  | .ty n => .ty n
def D.rens (π : Nat → Nat) : List D → List D
  | [] => []
  | d :: ds => d.ren π :: D.rens π ds
end
mutual
def D.lt (n : Nat) : D → Prop
  | .tup xs => D.lts n xs
  | .rol xs => D.lts n xs
  | .ref k => k < n
  | .non => True
  | .bl _ => True
  | .int _ => True
  | .str _ => True
  | .ty _ => True
def D.lts (n : Nat) : List D → Prop
  | [] => True
  | d :: ds => d.lt n ∧ D.lts n ds
end
def O.ren (π : Nat → Nat) : O → O
  | .lst xs => .lst (D.rens π xs)
def O.lt (n : Nat) : O → Prop
  | .lst xs => D.lts n xs
def Wf (st : Store) : Prop := ∀ (k : Nat) o, st[k]? = some o → o.lt st.length
section
variable {K : PySem.W.Frag} {ρ ρ0 : List Addr} {H : Hp}
mutual
theorem rep_ren {π : Nat → Nat} {m : Nat} (h : ∀ i, i < m → ρ0[i]? = ρ[π i]?) : ∀ (d : D) (v : V), d.lt m → Rep K ρ H (d.ren π) v → Rep K ρ0 H d v
  | .tup xs, v, hl, r => by
    unfold D.ren at r
    obtain ⟨a, vs, rfl, hs, hr⟩ := rep_tup r
    exact .tup hs (reps_ren h xs vs hl hr)
  | .rol xs, v, hl, r => by
    unfold D.ren at r
    obtain ⟨a, vs, rfl, hs, hr⟩ := rep_rol r
    unfold Rep
    exact ⟨a, vs, rfl, hs, reps_ren h xs vs hl hr⟩
  | .ref k, v, hl, r => by
    unfold D.ren at r
    obtain ⟨a, ha, rfl⟩ := rep_ref r
    exact .ref (by rw [h k hl]; exact ha)
  | .non, v, _, r => by unfold D.ren at r; rw [rep_non r]; exact .non
  | .bl b, v, _, r => by unfold D.ren at r; rw [rep_bl r]; exact .bl b
  | .int b, v, _, r => by unfold D.ren at r; rw [rep_int r]; exact .int b
  | .str b, v, _, r => by unfold D.ren at r; rw [rep_str r]; exact .str b
  | .ty b, v, _, r => by unfold D.ren at r; rw [rep_ty r]; unfold Rep; rfl
theorem reps_ren {π : Nat → Nat} {m : Nat} (h : ∀ i, i < m → ρ0[i]? = ρ[π i]?) : ∀ (ds : List D) (vs : List V), D.lts m ds → Reps K ρ H (D.rens π ds) vs → Reps K ρ0 H ds vs
  | [], vs, _, r => by
    unfold D.rens at r
    exact r
  | d :: ds, vs, hl, r => by
    unfold D.rens at r
    unfold Reps at r
    obtain ⟨v, w, rfl, r1, r2⟩ := r
    exact .cons (rep_ren h d v hl.1 r1) (reps_ren h ds w hl.2 r2)
end
mutual
theorem rep_lt : ∀ (d : D) (v : V), Rep K ρ H d v → d.lt ρ.length
  | .tup xs, v, r => by
    obtain ⟨a, vs, rfl, hs, hr⟩ := rep_tup r
    exact reps_lt xs vs hr
  | .rol xs, v, r => by
    obtain ⟨a, vs, rfl, hs, hr⟩ := rep_rol r
    exact reps_lt xs vs hr
  | .ref k, v, r => by
    obtain ⟨a, ha, rfl⟩ := rep_ref r
    exact (List.getElem?_eq_some_iff.mp ha).1
  | .non, v, _ => trivial
  | .bl b, v, _ => trivial
  | .int b, v, _ => trivial
  | .str b, v, _ => trivial
  | .ty b, v, _ => trivial
theorem reps_lt : ∀ (ds : List D) (vs : List V), Reps K ρ H ds vs → D.lts ρ.length ds
  | [], vs, _ => trivial
  | d :: ds, vs, r => by
    unfold Reps at r
    obtain ⟨v, w, rfl, r1, r2⟩ := r
    exact ⟨rep_lt d v r1, reps_lt ds w r2⟩
end
theorem RelS.wf {st : Store} (r : RelS K ρ H st) : Wf st := fun k o e => by
  obtain ⟨a, _, q⟩ := r.ob k o e
  cases o with
  | lst xs =>
    obtain ⟨vs, _, hr⟩ := q
    rw [← r.len]
    exact reps_lt xs vs hr
end
mutual
theorem ren_id {π : Nat → Nat} {n : Nat} (h : ∀ i, i < n → π i = i) : ∀ d : D, d.lt n → d.ren π = d
  | .tup xs, hl => by unfold D.ren; rw [rens_id h xs hl]
  | .rol xs, hl => by unfold D.ren; rw [rens_id h xs hl]
  | .ref k, hl => by unfold D.ren; rw [h k hl]
  | .non, _ => rfl
  | .bl _, _ => rfl
  | .int _, _ => rfl
  | .str _, _ => rfl
  | .ty _, _ => rfl
theorem rens_id {π : Nat → Nat} {n : Nat} (h : ∀ i, i < n → π i = i) : ∀ ds : List D, D.lts n ds → D.rens π ds = ds
  | [], _ => rfl
  | d :: ds, hl => by unfold D.rens; rw [ren_id h d hl.1, rens_id h ds hl.2]
end
theorem O.ren_id {π : Nat → Nat} {n : Nat} (h : ∀ i, i < n → π i = i) (o : O) (hl : o.lt n) : o.ren π = o := by
  cases o with
  | lst xs =>
    show O.lst (D.rens π xs) = O.lst xs
    rw [rens_id h xs hl]
mutual
theorem D.lt_mono {n m : Nat} (h : n ≤ m) : ∀ d : D, d.lt n → d.lt m
  | .tup xs, hl => D.lts_mono h xs hl
  | .rol xs, hl => D.lts_mono h xs hl
  | .ref k, hl => Nat.lt_of_lt_of_le hl h
  | .non, _ => trivial
  | .bl _, _ => trivial
  | .int _, _ => trivial
  | .str _, _ => trivial
  | .ty _, _ => trivial
theorem D.lts_mono {n m : Nat} (h : n ≤ m) : ∀ ds : List D, D.lts n ds → D.lts m ds
  | [], _ => trivial
  | d :: ds, hl => ⟨D.lt_mono h d hl.1, D.lts_mono h ds hl.2⟩
end
theorem O.lt_mono {n m : Nat} (h : n ≤ m) (o : O) (hl : o.lt n) : o.lt m := by
  cases o with
  | lst xs => exact D.lts_mono h xs hl
theorem lts_iff {n : Nat} : ∀ {ds : List D}, D.lts n ds ↔ ∀ d ∈ ds, d.lt n
  | [] => by simp [D.lts]
  | d :: ds => by
    unfold D.lts
    rw [lts_iff]
    simp
theorem fl_lt {n : Nat} : ∀ (m : Nat) (d : D), d.fl m = true → d.lt n := by
  intro m
  induction m with
  | zero =>
    intro d h
    cases d <;> first | trivial | (simp [D.fl] at h)
  | succ m ih =>
    have all : ∀ ds : List D, ds.all (D.fl m) = true → D.lts n ds := by
      intro ds h
      rw [lts_iff]
      intro d hd
      exact ih d (List.all_eq_true.mp h d hd)
    intro d h
    cases d with
    | tup xs => exact all xs h
    | rol xs => exact all xs h
    | ref _ => simp [D.fl] at h
    | _ => trivial
theorem fls_lt {n m : Nat} {ds : List D} (h : ds.all (D.fl m) = true) : D.lts n ds := by
  rw [lts_iff]
  intro d hd
  exact fl_lt m d (List.all_eq_true.mp h d hd)
structure Gc (n : Nat) (st st0 : Store) (π : Nat → Nat) : Prop where
  fix : ∀ i, i < n → π i = i
  le : n ≤ st0.length
  inj : ∀ i j, i < st0.length → j < st0.length → π i = π j → i = j
  obj : ∀ (i : Nat) o, st0[i]? = some o → st[π i]? = some (o.ren π) ∧ o.lt st0.length
section
variable {K : PySem.W.Frag} {ρ : List Addr} {H : Hp} {n : Nat} {st st0 : Store} {π : Nat → Nat}
theorem Gc.some (g : Gc n st st0 π) {i : Nat} (h : i < st0.length) : ∃ o, st[π i]? = some o := ⟨_, (g.obj i _ (List.getElem?_eq_getElem h)).1⟩
def gcρ (ρ : List Addr) (m : Nat) (π : Nat → Nat) : List Addr := (List.range m).map fun i => ρ.getD (π i) 0
theorem Gc.at (g : Gc n st st0 π) (r : RelS K ρ H st) : ∀ i, i < st0.length → (gcρ ρ st0.length π)[i]? = ρ[π i]? := fun i hi => by
  obtain ⟨o, ho⟩ := g.some hi
  have hl : π i < ρ.length := by rw [r.len]; exact (List.getElem?_eq_some_iff.mp ho).1
  unfold gcρ
  rw [List.getElem?_map, List.getElem?_range hi, Option.map_some, List.getD_eq_getElem?_getD, List.getElem?_eq_getElem hl, Option.getD_some]
theorem gcρ_len {m : Nat} : (gcρ ρ m π).length = m := by unfold gcρ; rw [List.length_map, List.length_range]
theorem Gc.relS (g : Gc n st st0 π) (r : RelS K ρ H st) : RelS K (gcρ ρ st0.length π) H st0 := by
  refine ⟨gcρ_len, ?_, fun k o e => ?_⟩
  · rw [List.nodup_iff_pairwise_ne, List.pairwise_iff_getElem]
    intro i j hi hj hij e
    rw [gcρ_len] at hi hj
    have e1 := g.at r i hi
    have e2 := g.at r j hj
    rw [List.getElem?_eq_getElem (by rw [gcρ_len]; exact hi)] at e1
    rw [List.getElem?_eq_getElem (by rw [gcρ_len]; exact hj)] at e2
    have e3 : π i = π j := nd_ix r.nd e1.symm (by rw [← e2, e])
    have := g.inj i j hi hj e3
    omega
  · have hk := (List.getElem?_eq_some_iff.mp e).1
    obtain ⟨e1, hl⟩ := g.obj k o e
    obtain ⟨a, ha, q⟩ := r.ob (π k) _ e1
    refine ⟨a, by rw [g.at r k hk]; exact ha, ?_⟩
    cases o with
    | lst xs =>
      obtain ⟨vs, hv, hr⟩ := q
      exact ⟨vs, hv, reps_ren (g.at r) xs vs hl hr⟩
theorem Gc.take (g : Gc n st st0 π) (r : RelS K ρ H st) : (gcρ ρ st0.length π).take n = ρ.take n := by
  apply List.ext_getElem?
  intro i
  rw [List.getElem?_take, List.getElem?_take]
  split
  · rename_i hi
    have h0 := g.le
    rw [g.at r i (by omega), g.fix i hi]
  · rfl
theorem Gc.keep (g : Gc n st st0 π) (r : RelS K ρ H st) : Keep (ρ.take n) (gcρ ρ st0.length π) H H := by
  refine ⟨⟨(gcρ ρ st0.length π).drop n, ?_⟩, fun _ _ h => h, fun _ _ _ h => h⟩
  rw [← g.take r, List.take_append_drop]
end
/-- a block that begins by forgetting -/
def dGc (ts : DTS) : DTS := fun n d env st => ∃ env0 st0 π, Gc n st st0 π ∧ env0.length = env.length ∧ (∀ (i : Nat) x, env0[i]? = some (some x) → env[i]? = some (some (x.ren π)) ∧ x.lt st0.length) ∧ ts n d env0 st0
theorem sim_gc {K : PySem.W.Frag} {t : TS} {ts : DTS} (h : SimS K t ts) : SimS K t (dGc ts) := by
  intro n ρ env st σ H d W hn rs re q w
  obtain ⟨env0, st0, π, g, hl, he, q⟩ := q
  refine h n (gcρ ρ st0.length π) env0 st0 σ H d W (by rw [gcρ_len]; exact g.le) (g.relS rs) ⟨by rw [hl]; exact re.len, fun i x e => ?_⟩ q ?_
  · obtain ⟨e2, hlt⟩ := he i x e
    obtain ⟨v, e3, r⟩ := re.get i _ e2
    exact ⟨v, e3, rep_ren (g.at rs) x v hlt r⟩
  · rw [g.take rs]
    exact w
theorem sss_gc {X : Cx} {s : List Stmt} {t : TS} {ts : DTS} (h : SSs X s t ts) : SSs X s t (dGc ts) := ⟨h.pss, sim_gc h.sim⟩
/-- nothing is forgotten -/
theorem gc_id {n : Nat} {ts : DTS} {d : DEnds} {env : DEnv} {st : Store} (hn : n ≤ st.length) (wf : Wf st) (we : ∀ (i : Nat) x, env[i]? = some (some x) → x.lt st.length) (h : ts n d env st) : dGc ts n d env st :=
  ⟨env, st, fun i => i, ⟨fun _ _ => rfl, hn, fun _ _ _ _ e => e, fun i o e => ⟨by rw [O.ren_id (n := st.length) (fun _ _ => rfl) o (wf i o e)]; exact e, wf i o e⟩⟩, rfl, fun i x e => ⟨by rw [ren_id (n := st.length) (fun _ _ => rfl) x (we i x e)]; exact e, we i x e⟩, h⟩
/-- a def's return: what the caller sees -/
def Ret (n : Nat) (Q : DQ) : DQ := fun d st => ∃ d0 st0 π, Gc n st st0 π ∧ d = d0.ren π ∧ d0.lt st0.length ∧ Q d0 st0
/-- flat data, or cells that stay: the new cells are forgotten -/
theorem ret_old {n : Nat} {Q : DQ} {d : D} {st st0 : Store} (hn : n ≤ st0.length) (he : ∀ i, i < st0.length → st[i]? = st0[i]?) (hw : Wf st0) (hd : d.lt st0.length) (h : Q d st0) : Ret n Q d st :=
  ⟨d, st0, fun i => i, ⟨fun _ _ => rfl, hn, fun _ _ _ _ e => e, fun i o e => ⟨by rw [O.ren_id (n := st0.length) (fun _ _ => rfl) o (hw i o e)]; exact (he i (List.getElem?_eq_some_iff.mp e).1).trans e, hw i o e⟩⟩, (ren_id (n := st0.length) (fun _ _ => rfl) d hd).symm, hd, h⟩
/-- one new cell is handed back -/
theorem ret_new {n k : Nat} {Q : DQ} {o : O} {st st0 : Store} (hn : n = st0.length) (hk : n ≤ k) (he : ∀ i, i < st0.length → st[i]? = st0[i]?) (hw : Wf st0) (hd : st[k]? = some o) (ho : o.lt n) (h : Q (.ref n) (st0 ++ [o])) : Ret n Q (.ref k) st := by
  subst hn
  have fx : ∀ i, i < st0.length → (if i < st0.length then i else k) = i := fun i hi => if_pos hi
  refine ⟨.ref st0.length, st0 ++ [o], fun i => if i < st0.length then i else k, ⟨fx, by simp, fun i j hi hj e => ?_, fun i u e => ?_⟩, ?_, ?_, h⟩
  · rw [List.length_append, List.length_singleton] at hi hj
    by_cases h1 : i < st0.length
    · rw [if_pos h1] at e
      by_cases h2 : j < st0.length
      · rw [if_pos h2] at e
        exact e
      · rw [if_neg h2] at e
        omega
    · rw [if_neg h1] at e
      by_cases h2 : j < st0.length
      · rw [if_pos h2] at e
        omega
      · omega
  · by_cases h1 : i < st0.length
    · rw [List.getElem?_append_left h1] at e
      rw [if_pos h1, O.ren_id fx u (hw i u e)]
      exact ⟨(he i h1).trans e, O.lt_mono (by simp) u (hw i u e)⟩
    · have hi : i = st0.length := by
        have := (List.getElem?_eq_some_iff.mp e).1
        rw [List.length_append, List.length_singleton] at this
        omega
      subst hi
      rw [List.getElem?_append_right (Nat.le_refl _), Nat.sub_self] at e
      have e' : o = u := by simpa using e
      subst e'
      rw [if_neg (Nat.lt_irrefl _), O.ren_id fx o ho]
      exact ⟨hd, O.lt_mono (by simp) o ho⟩
  · unfold D.ren
    rw [if_neg (Nat.lt_irrefl _)]
  · show st0.length < (st0 ++ [o]).length
    simp

/-! ### a def by its body -/
def dstart (N : List Str) (ds : List D) : DEnv := ds.map some ++ List.replicate (N.length - ds.length) none
theorem relE_start {K : PySem.W.Frag} {ρ : List Addr} {H : Hp} {N : List Str} {ds : List D} {vs : List V} (r : Reps K ρ H ds vs) : RelE K ρ H (dstart N ds) (L2.start N vs) := by
  unfold dstart L2.start
  refine ⟨by simp [r.len], fun i d e => ?_⟩
  by_cases hi : i < ds.length
  · rw [List.getElem?_append_left (by simpa using hi), List.getElem?_map] at e
    cases e2 : ds[i]? with
    | none => rw [e2] at e; cases e
    | some x =>
      rw [e2] at e
      cases e
      obtain ⟨v, hv, hr⟩ := r.get e2
      exact ⟨v, by rw [List.getElem?_append_left (by rw [List.length_map, ← r.len]; exact hi), List.getElem?_map, hv]; rfl, hr⟩
  · rw [List.getElem?_append_right (by simpa using hi), List.getElem?_replicate] at e
    split at e <;> cases e
section
variable {P : Program} {w : World} {K : PySem.W.Frag} {mg : Str → Option Value} {base : Heap}
theorem Fun.okD {x qual : Str} {st : Stmt} {f : Addr} {fd : FuncData} {N ps : List Str} {k : Nat} {dsp : DSp} (F : Fun K x qual st f fd) (S : FnScope N ps (defScope st)) (len : ∀ ds s Q, dsp ds s Q → ds.length = ps.length)
    (hbody : ∀ (cdv : Value) (A : Around) (outer : List Env) (s : Shared) (H : Hp) (E : XK), Room k (A.deeper (PyProof.Rows.envOfC qual (defScope st) s.heap.objs.size f cdv)) →
      ∃ t ts, SSs (cxOf CX0 P w K mg base N qual (defScope st) f cdv A outer s H E).nox (defBody st) t ts ∧
        ∀ ds st Q, Wf st → D.lts st.length ds → dsp ds st Q → ts st.length { nx := fun _ st' => Ret st.length Q .non st', rt := Ret st.length Q } (dstart N ds) st) : FnOk P w K mg base CX0 (k + 1) f fd ps (spOf K dsp) := by
  refine F.ok S (fun vs H Q E h => ?_) (fun cdv A outer s H vs Q E hr h => ?_)
  · obtain ⟨ρ, ds, st, QD, _, r, q, _⟩ := h
    rw [← r.len]
    exact len ds st QD q
  · obtain ⟨ρ, ds, sto, QD, rs, r, q, wq⟩ := h
    obtain ⟨t, ts, hS, hb⟩ := hbody cdv A outer s H E hr
    refine ⟨t, hS.pss, ?_⟩
    have hl : sto.length ≤ ρ.length := by rw [rs.len]; exact Nat.le_refl _
    refine hS.sim sto.length ρ (dstart N ds) sto (start N vs) H _ _ hl rs (relE_start r) (hb ds sto QD rs.wf (by rw [← rs.len]; exact reps_lt ds vs r) q) ?_
    have et : ρ.take sto.length = ρ := by rw [← rs.len, List.take_length]
    rw [et]
    have fin : ∀ (v : V) (H' : Hp) (ρ' : List Addr) (y : D) (st' : Store), Keep ρ ρ' H H' → RelS K ρ' H' st' → Rep K ρ' H' y v → Ret sto.length QD y st' → Q v H' := fun v H' ρ' y st' k rs' ry q => by
      obtain ⟨d0, st0, π, g, rfl, hlt, q⟩ := q
      refine wq v H' ⟨gcρ ρ' st0.length π, d0, st0, ?_, g.relS rs', rep_ren (g.at rs') d0 v hlt ry, q⟩
      have k2 := g.keep rs'
      have e : ρ'.take sto.length = ρ := by
        obtain ⟨u, rfl⟩ := k.pre
        rw [List.take_append_of_le_length hl, et]
      rw [e] at k2
      exact ⟨k2.pre, k.tups, k.frzs⟩
    exact ⟨fun σ' H' ρ' env' st' k rs' re' q' => fin .non H' ρ' .non st' k rs' .non q', fun v H' ρ' y st' k rs' ry q' => fin v H' ρ' y st' k rs' ry q', fun _ _ _ _ _ _ _ _ z => z.elim, fun _ _ _ _ _ _ _ _ z => z.elim⟩
end
/-! ### the law -/
/-- for a list of at most 63 ints the answer is True -/
def spLaw : DSp := fun ds _ Q => ∃ ns : List Int, ds = [.rol (ns.map D.int)] ∧ ns.length ≤ 63 ∧ ∀ st', Q (.bl true) st'
theorem sp_law {K : PySem.W.Frag} {H : Hp} {a : Addr} {ns : List Int} {E : XK} (hl : ns.length ≤ 63) (hO : Only H) (hS : SqL K H a (ns.map V.int)) : spOf K spLaw [.ref a] H (fun v _ => v = .bl true) E := by
  refine ⟨[], [.rol (ns.map D.int)], [], fun d _ => d = .bl true, ⟨rfl, by simp, fun k o e => by simp at e⟩, .cons ?_ .nil, ⟨ns, rfl, hl, fun _ => rfl⟩, fun v H' h => ?_⟩
  · unfold Rep
    refine ⟨a, ns.map V.int, rfl, ?_, Reps.ints ns⟩
    rcases hS with (h | ⟨o, h⟩) | h
    · rcases hO a with z | ⟨o, xs, z⟩
      · rw [z] at h; cases h
      · rw [z] at h; cases h
    · exact .inl ⟨o, h⟩
    · exact .inr h
  · obtain ⟨_, d, _, _, _, r, rfl⟩ := h
    exact rep_bl r
end DL

/-! list(reversed(list)) -/
namespace RT
open PySem PySem.Spec PyProof.Rows L2
section
variable {prog : Program} {w : World} {A : Around} {E : Value → Shared → Prop} {s : Shared}
theorem call_list_rev {it l : Addr} {items : Array Value} {Q : Value → Shared → Prop} (hh : A.handled = none) (hit : s.heap.IsRevIter it l ((items.size : Int) - 1)) (hl : s.heap.IsList l items) (hne : l ≠ it) (hn : items.size ≤ sizeLine)
    (hQ : ∀ (h' : Heap) (tk : Nat) (acc : Array Value) (c' : Nat), (∀ b o, b ≠ it → s.heap.get? b = some o → h'.get? b = some o) → h'.get? s.heap.objs.size = some { cls := .type "list", dict := none, data := .seq acc c', slots := #[] } →
      ItemsOf (fun i v => items[items.size - 1 - i]? = some v) acc items.size → Q (.ref s.heap.objs.size) { s with heap := h', toks := tk }) :
    wpAny (model prog w) A (call (.type "list") [.ref it]) Q E s := by
  refine callType_codes (Q₁ := fun obj s₁ => obj = .ref s.heap.objs.size ∧ s₁ = { s with heap := s.heap.push { cls := .type "list", data := .seq #[] } }) PySem.F.called_list (PySem.F.typeCall_list_1 _) PySem.F.entry_list_init
    (code_list_new _ ⟨rfl, rfl⟩) fun obj s₁ h₁ => ?_
  obtain ⟨rfl, rfl⟩ := h₁
  have hS : (s.heap.push { cls := .type "list", data := .seq #[] }).get? s.heap.objs.size = some { cls := .type "list", data := .seq #[] } := Heap.get?_push_size _ rfl
  refine ⟨⟨_, hS, rfl⟩, PySem.F.args_list_init_2 _ _, ?_⟩
  have W := (Walks.listRev (prog := prog) (w := w) (A := A.in1.in1) hh it l hne items).toS
  obtain ⟨oi, hoi, _⟩ := id hit
  obtain ⟨ol, hol, _⟩ := id hl
  have hSi : s.heap.objs.size ≠ it := Nat.ne_of_gt (Heap.lt_size hoi)
  have hSl : s.heap.objs.size ≠ l := Nat.ne_of_gt (Heap.lt_size hol)
  have hSf : s.heap.objs.size ∉ [it, l] := by simp only [List.mem_cons, List.not_mem_nil, or_false, not_or]; exact ⟨hSi, hSl⟩
  show wpAny _ _ (do let old ← Builtin.List.listItems (.ref s.heap.objs.size); Builtin.List.listUpdate (.ref s.heap.objs.size) (fun _ => #[]); letGo old.toList.reverse; Builtin.List.listExtendWith (.ref s.heap.objs.size) (.ref it) .none) _ _ _
  refine wpAny_bind ?_
  unfold Builtin.List.listItems
  refine wpAny_bind (wpAny_seqItems hS rfl (wpAny_pure ?_))
  show wpAny _ _ (updateSeq s.heap.objs.size (fun _ => #[]) >>= fun _ => letGo (#[] : Array Value).toList.reverse >>= fun _ => Builtin.List.listExtendWith (.ref s.heap.objs.size) (.ref it) .none) _ _ _
  refine wpAny_bind (wpAny_updateSeq hS rfl ?_)
  have hS₂ := Heap.get?_update_self (Obj.mapSeq (fun _ => (#[] : Array Value))) hS rfl
  have oth : ∀ b o, b ≠ s.heap.objs.size → (s.heap.push { cls := .type "list", data := .seq #[] }).get? b = some o → ((s.heap.push { cls := .type "list", data := .seq #[] }).update s.heap.objs.size (Obj.mapSeq (fun _ => (#[] : Array Value)))).get? b = some o :=
    fun b o hb e => (Heap.get?_update_other _ _ (Ne.symm hb)).trans e
  refine wpAny_bind (wpAny_letGo ?_)
  generalize hH : ((s.heap.push { cls := .type "list", data := .seq #[] }).update s.heap.objs.size (Obj.mapSeq (fun _ => (#[] : Array Value)))) = h2 at hS₂ oth ⊢
  have hit1 : h2.IsRevIter it l ((items.size : Int) - 1) := (hit.at fun o e => oth _ _ hSi.symm (Heap.get?_push_of_some _ e))
  have hl1 : h2.IsList l items := by
    obtain ⟨o, e, r⟩ := hl
    exact ⟨o, oth _ _ hSl.symm (Heap.get?_push_of_some _ e), r⟩
  have hT : ({ s with heap := h2 } : Shared).TypeIs (.ref it) "list_reverseiterator" := Heap.IsRevIter.typeIs (s := { s with heap := h2 }) hit1
  have h1 : Builtin.List.listSameRef (.ref s.heap.objs.size) (.ref it) = false := by simp [Builtin.List.listSameRef, hSi]
  unfold Builtin.List.listExtendWith
  refine wpAny_bind (wpAny_typeOf hT ?_)
  rw [if_neg (by rw [h1]; decide)]
  refine wpAny_bind (wpAny_pyIter_revIter (s := { s with heap := h2 }) hit1 ?_)
  refine wpAny_bind (wpAny_holding ?_)
  unfold Builtin.List.listLengthHint
  refine wpAny_bind (wpAny_specialOf hT nolen_lri ?_)
  show wpAny _ _ (specialOf (Value.ref it) (Str.ofString "__length_hint__") >>= _) _ _ _
  refine wpAny_bind (wpAny_specialOf hT hint_lri ?_)
  generalize hid : ("list_reverseiterator.__length_hint__" : String) = id0
  wp_delta
  rw [show splitId id0 = some ("list_reverseiterator", "__length_hint__") from by subst hid; decide +kernel]
  subst hid
  refine wpAny_bind (wpAny_isInstance (b := true) hT (by rw [isSubtype_type]; kernel_rfl) ?_)
  refine wpAny_pure ?_
  rw [if_neg (by decide)]
  have e0 : ((items.size : Nat) : Int) - 1 - ((0 : Nat) : Int) = (items.size : Int) - 1 := by omega
  refine wpAny_pure ⟨plainId_quiet F.plain_extend_loop _, codeAny_extend_loopS W hn _ hSf _ items.size 0 _ _ _ rfl (Nat.zero_le _) ⟨Nat.zero_le _, by rw [e0]; exact hit1, hl1⟩ hS₂ (ItemsOf.nil _) fun s' acc' c' hm hS' hacc => ?_⟩
  rw [Moved.eq_with hm]
  refine ⟨rfl, hQ s'.heap s'.toks acc' c' (fun b o hb e => hm.heap b o (fun hmem => ?_) (oth b o (Nat.ne_of_lt (Heap.lt_size e)) (Heap.get?_push_of_some _ e))) hS' hacc⟩
  rcases List.mem_cons.mp hmem with e' | hmem
  · exact absurd (Heap.lt_size e) (by rw [e']; exact Nat.lt_irrefl _)
  · exact hb (List.mem_singleton.mp hmem)
end
def tListRev (K : PySem.W.Frag) (te : TE) : TE := fun σ H Q => te σ H fun v H1 => ∃ (a : Addr) (xs : List V), v = .ref a ∧ SqL K H1 a xs ∧ ∀ q, H1 q = none → Q (.ref q) (upd H1 q (.lst xs.reverse))
section
variable {X : Cx}
theorem pe_listRev {e : Expr} {te : TE} {p p2 pos pos2 : Pos} (hc : X.calm = true) (hg : Gl X "list") (hm : X.mg "list" = none) (hg2 : Gl X "reversed") (hm2 : X.mg "reversed" = none) (he : PE X e te)
    (hs : starEach [e] X.env = (false, eval e X.env) :: starEach [] X.env := by rfl)
    (hs2 : starEach [.Call (.Name "reversed" p2) [e] [] pos2] X.env = (false, eval (.Call (.Name "reversed" p2) [e] [] pos2) X.env) :: starEach [] X.env := by rfl) :
    PE X (.Call (.Name "list" p) [.Call (.Name "reversed" p2) [e] [] pos2] [] pos) (tListRev X.K te) := by
  refine ⟨fun pins s σ H Q I h => ?_⟩
  refine Call_ (ld_blt I hg hm boot_list (PyProof.Rows.callWith_type1 (args_cons (Call_ (ld_blt I hg2 hm2 PyProof.Rows.boot_reversed (PyProof.Rows.callWith_type1 (args_cons (thn (he.run pins s σ H _ I h) fun u s1 ⟨v, H1, I1, r1, q1⟩ => args_nil ?_) hs) hs rfl))) hs2) hs2 rfl))
  obtain ⟨a, xs, ev, hq, q⟩ := q1
  subst ev
  obtain rfl : u = Value.ref a := r1
  obtain ⟨its, rv, p', hz⟩ := I1.list hq
  refine call_reversed_list p'.isList (args_nil ?_)
  have k0 : ∀ b o, s1.heap.get? b = some o → (s1.heap.push (revObj a ((its.toArray.size : Int) - 1))).get? b = some o := fun b o e => Heap.get?_push_of_some _ e
  have I2 : Inv X pins σ H1 { s1 with heap := s1.heap.push (revObj a ((its.toArray.size : Int) - 1)) } := I1.kept (t' := s1.toks) k0
  obtain ⟨f0, f1, f2, f3, f4, f5⟩ := I1.fpOk (H' := H1) (b := s1.heap.objs.size) (Nat.le_refl _) (I1.hok.fresh (Nat.le_refl _))
  have hl := p'.isList
  obtain ⟨ol, hol, _⟩ := id hl
  have hne : a ≠ s1.heap.objs.size := Nat.ne_of_lt (Heap.lt_size hol)
  have hn : its.toArray.size ≤ sizeLine := by rw [List.size_toArray, ← rv.length]; exact hz
  refine call_list_rev (s := { s1 with heap := s1.heap.push (revObj a ((its.toArray.size : Int) - 1)) }) (I1.ok.hd hc) ⟨_, Heap.get?_push_size _ rfl, rfl, rfl⟩ (hl.push _) hne hn fun h' tk acc c' hk hS hi => ?_
  have hf : ∀ b ∈ [s1.heap.objs.size], FpOk X pins H1 b := fun b hb => by
    rw [List.mem_singleton.mp hb]
    exact ⟨f0, f1, f2, f3, f4, f5⟩
  have fr : H1 (s1.heap.push (revObj a ((its.toArray.size : Int) - 1))).objs.size = none := I2.hok.fresh (Nat.le_refl _)
  have hlen : xs.reverse.length ≤ sizeLine := by rw [List.length_reverse]; exact hz
  have new : ObjOk X.prog X.w (upd H1 (s1.heap.push (revObj a ((its.toArray.size : Int) - 1))).objs.size (.lst xs.reverse)) h' (s1.heap.push (revObj a ((its.toArray.size : Int) - 1))).objs.size (.lst xs.reverse) := by
    refine ⟨hlen, acc.toList, c', vals_rev rv hi, ?_⟩
    rw [Array.toArray_toList]
    exact hS
  have I4 := I2.turnedNew (t' := tk) (ch := [s1.heap.objs.size]) (h' := h') (fun b o hb e => hk b o (fun z => hb (by rw [z]; exact List.mem_singleton_self _)) e) hf (Nat.le_refl _) new
  exact ⟨.ref _, _, I4, rfl, q _ fr⟩
end
end RT
namespace DL
open PySem PySem.Spec L2
theorem ditems_at {K : PySem.W.Frag} {ρ : List Addr} {H : Hp} {st : Store} {k : Nat} {xs : List D} {v : V} (r : RelS K ρ H st) (px : Rep K ρ H (.ref k) v) (e : st[k]? = some (.lst xs)) : ∃ a vs, v = .ref a ∧ SqL K H a vs ∧ Reps K ρ H xs vs := by
  obtain ⟨a, ha, rfl⟩ := rep_ref px
  obtain ⟨vs, hv, hr⟩ := r.lst ha e
  exact ⟨a, vs, rfl, SqL.of hv, hr⟩
/-- of a list: its items from the end -/
def dRevOf (te : DTE) (fin : List D → Store → DQ → Prop) : DTE := fun env st Q => te env st fun x st1 => match x with
  | .ref k => match st1[k]? with
    | some (.lst xs) => fin xs.reverse st1 Q
    | _ => False
  | .rol xs => fin xs.reverse st1 Q
  | _ => False
def dTupleRev (te : DTE) : DTE := dRevOf te fun xs st Q => Q (.tup xs) st
def dListRev (te : DTE) : DTE := dRevOf te fun xs st Q => Q (.ref st.length) (st ++ [.lst xs])
section
variable {X : Cx} {e : Expr} {te : TE} {de : DTE} {p p2 pos pos2 : Pos}
theorem se_tupRev {K : PySem.W.Frag} [hk : HasK X K] (hc : X.calm = true) (hg : Gl X "tuple") (hm : X.mg "tuple" = none) (hg2 : Gl X "reversed") (hm2 : X.mg "reversed" = none) (he : SE X e te de)
    (hs : starEach [e] X.env = (false, eval e X.env) :: starEach [] X.env := by rfl)
    (hs2 : starEach [.Call (.Name "reversed" p2) [e] [] pos2] X.env = (false, eval (.Call (.Name "reversed" p2) [e] [] pos2) X.env) :: starEach [] X.env := by rfl) :
    SE X (.Call (.Name "tuple" p) [.Call (.Name "reversed" p2) [e] [] pos2] [] pos) (RT.tTupRev K te) (dTupleRev de) := by
  obtain rfl := hk.eq
  refine ⟨RT.pe_tupRev hc hg hm hg2 hm2 he.pe hs hs2, fun ρ env st σ H Q W rs re q w => ?_⟩
  refine he.sim ρ env st σ H _ _ rs re q fun x H1 ⟨ρ1, dx, st1, k1, r1, px, q1⟩ => ?_
  cases dx with
  | ref k =>
    dsimp only at q1
    split at q1
    · rename_i xs e
      obtain ⟨a, vs, rfl, hs, hr⟩ := ditems_at r1 px e
      exact ⟨a, vs, rfl, hs, fun q hq => w _ _ ((PostE.tup r1 hq hr.rev q1).keep k1)⟩
    · exact q1.elim
  | rol xs =>
    obtain ⟨a, vs, rfl, hs, hr⟩ := rep_rol px
    exact ⟨a, vs, rfl, sqf_l hs, fun q hq => w _ _ ((PostE.tup r1 hq hr.rev q1).keep k1)⟩
  | _ => exact q1.elim
theorem se_listRev {K : PySem.W.Frag} [hk : HasK X K] (hc : X.calm = true) (hg : Gl X "list") (hm : X.mg "list" = none) (hg2 : Gl X "reversed") (hm2 : X.mg "reversed" = none) (he : SE X e te de)
    (hs : starEach [e] X.env = (false, eval e X.env) :: starEach [] X.env := by rfl)
    (hs2 : starEach [.Call (.Name "reversed" p2) [e] [] pos2] X.env = (false, eval (.Call (.Name "reversed" p2) [e] [] pos2) X.env) :: starEach [] X.env := by rfl) :
    SE X (.Call (.Name "list" p) [.Call (.Name "reversed" p2) [e] [] pos2] [] pos) (RT.tListRev K te) (dListRev de) := by
  obtain rfl := hk.eq
  refine ⟨RT.pe_listRev hc hg hm hg2 hm2 he.pe hs hs2, fun ρ env st σ H Q W rs re q w => ?_⟩
  refine he.sim ρ env st σ H _ _ rs re q fun x H1 ⟨ρ1, dx, st1, k1, r1, px, q1⟩ => ?_
  cases dx with
  | ref k =>
    dsimp only at q1
    split at q1
    · rename_i xs e
      obtain ⟨a, vs, rfl, hs, hr⟩ := ditems_at r1 px e
      exact ⟨a, vs, rfl, hs, fun q hq => w _ _ ((PostE.lst r1 hq hr.rev q1).keep k1)⟩
    · exact q1.elim
  | rol xs =>
    obtain ⟨a, vs, rfl, hs, hr⟩ := rep_rol px
    exact ⟨a, vs, rfl, sqf_l hs, fun q hq => w _ _ ((PostE.lst r1 hq hr.rev q1).keep k1)⟩
  | _ => exact q1.elim
end
/-! ### isinstance with a built-in class -/
def D.tyName (st : Store) : D → Option String
  | .non => some "NoneType"
  | .bl _ => some "bool"
  | .int _ => some "int"
  | .str _ => some "str"
  | .tup _ => some "tuple"
  | .rol _ => some "list"
  | .ref k => match st[k]? with
    | some (.lst _) => some "list"
    | none => none
  | .ty _ => none
/-- the answer, for the classes that are written here -/
def isiD (t c : String) : Option Bool := match c with
  | "int" => match t with
    | "int" => some true | "bool" => some true | "str" => some false | "tuple" => some false | "list" => some false | "NoneType" => some false
    | _ => none
  | "bool" => match t with
    | "int" => some false | "bool" => some true | "str" => some false | "tuple" => some false | "list" => some false | "NoneType" => some false
    | _ => none
  | "str" => match t with
    | "int" => some false | "bool" => some false | "str" => some true | "tuple" => some false | "list" => some false | "NoneType" => some false
    | _ => none
  | "tuple" => match t with
    | "int" => some false | "bool" => some false | "str" => some false | "tuple" => some true | "list" => some false | "NoneType" => some false
    | _ => none
  | "list" => match t with
    | "int" => some false | "bool" => some false | "str" => some false | "tuple" => some false | "list" => some true | "NoneType" => some false
    | _ => none
  | _ => none
theorem isi_kit : ∀ {t c : String} {b : Bool}, isiD t c = some b → kitB t c = some b := by
  intro t c b h
  unfold isiD at h
  split at h <;> first | (cases h; done) | (split at h <;> first | (cases h; decide +kernel) | cases h)
def dIsi : DRA := fun ds st Q => match ds with
  | [x, .ty c] => match x.tyName st with
    | some t => match isiD t c with
      | some b => Q (.bl b) st
      | none => False
    | none => False
  | _ => False
theorem sqt_tyx {K : PySem.W.Frag} {H : Hp} {a : Addr} {vs : List V} (h : SqT K H a vs) : TyX K H (.ref a) (.type "tuple") := by
  rcases h with (h | ⟨o, h⟩) | ⟨o, its, n, hk, hc, _⟩
  · exact .base (.tup h)
  · exact .fTuple h
  · exact .kTuple hk hc
theorem sql_tyx {K : PySem.W.Frag} {H : Hp} {a : Addr} {vs : List V} (h : SqL K H a vs) : TyX K H (.ref a) (.type "list") := by
  rcases h with (h | ⟨o, h⟩) | ⟨o, its, n, hk, hc, _⟩
  · exact .base (.lst h)
  · exact .base (.frz h)
  · exact .kList hk hc
theorem sc_isi {X : Cx} {K : PySem.W.Frag} [hk : HasK X K] : SCl X (.builtin "isinstance") (rIsi K) dIsi := by
  obtain rfl := hk.eq
  refine ⟨call_isi, fun ρ st H xs dxs Q W rs px q w => ?_⟩
  unfold dIsi at q
  split at q
  · rename_i x c
    obtain ⟨v, u, rfl, p1, p2⟩ := px.two
    obtain rfl := rep_ty p2
    split at q
    · rename_i t ht
      split at q
      · rename_i b hb
        have ty : TyX X.K H v (.type t) := by
          cases x with
          | non => cases ht; rw [rep_non p1]; exact .base .non
          | bl y => cases ht; rw [rep_bl p1]; exact .base (.bl y)
          | int y => cases ht; rw [rep_int p1]; exact .base (.int y)
          | str y => cases ht; rw [rep_str p1]; exact .base (.str y)
          | tup ys => cases ht; obtain ⟨a, vs, rfl, hs, _⟩ := rep_tup p1; exact sqt_tyx hs
          | rol ys => cases ht; obtain ⟨a, vs, rfl, hs, _⟩ := rep_rol p1; exact sql_tyx (sqf_l hs)
          | ref k =>
            unfold D.tyName at ht
            dsimp only at ht
            split at ht
            · rename_i ys e
              cases ht
              obtain ⟨a, vs, rfl, hs, _⟩ := ditems_at rs p1 e
              exact sql_tyx hs
            · cases ht
          | ty n => cases ht
        exact ⟨v, .ty c, .type t, .type c, b, rfl, .ty c, ty, kit_ty (isi_kit hb), w _ H (.of rs (.bl _) q)⟩
      · exact q.elim
    · exact q.elim
  · exact q.elim
end DL

/-! words, and how the layer sees them -/
namespace DL
open PySem PySem.Spec L2
structure Letter where
  nm : Fin 128
  hs : List Int
  deriving DecidableEq
abbrev Run := Letter × Int
abbrev Word := List Run
def dL (l : Letter) : D := .tup (.str ⟨#[l.nm.val]⟩ :: l.hs.map D.int)
def dRun (r : Run) : D := .tup [dL r.1, .int r.2]
def dW (w : Word) : D := .tup (w.map dRun)
theorem strOk1 (n : Fin 128) : PyData.strOk ⟨#[n.val]⟩ = true := by
  unfold PyData.strOk
  have := n.isLt
  simp
  omega
theorem fl_ints (n : Nat) (hs : List Int) : (hs.map D.int).all (D.fl n) = true := by
  rw [List.all_eq_true]
  intro d hd
  obtain ⟨i, _, rfl⟩ := List.mem_map.mp hd
  cases n <;> rfl
theorem fl_L (n : Nat) (l : Letter) : (dL l).fl (n + 1) = true := by
  unfold dL D.fl
  rw [List.all_cons, fl_ints, Bool.and_true]
  cases n <;> exact strOk1 l.nm
theorem fl_run (n : Nat) (r : Run) : (dRun r).fl (n + 2) = true := by
  unfold dRun D.fl
  simp only [List.all_cons, List.all_nil, Bool.and_true, fl_L, Bool.true_and]
  rfl
theorem fl_runs (n : Nat) (w : Word) : (w.map dRun).all (D.fl (n + 2)) = true := by
  rw [List.all_eq_true]
  intro d hd
  obtain ⟨i, _, rfl⟩ := List.mem_map.mp hd
  exact fl_run n i
theorem fl_W (n : Nat) (w : Word) : (dW w).fl (n + 3) = true := by
  unfold dW
  show (w.map dRun).all (D.fl (n + 2)) = true
  exact fl_runs n w
theorem eqv_ints : ∀ hs ks : List Int, PyData.eqvAll (D.pys (hs.map D.int)) (D.pys (ks.map D.int)) = decide (hs = ks)
  | [], [] => by simp [D.pys, PyData.eqvAll]
  | [], k :: ks => by simp [D.pys, PyData.eqvAll]
  | h :: hs, [] => by simp [D.pys, PyData.eqvAll]
  | h :: hs, k :: ks => by
    have ih := eqv_ints hs ks
    simp only [List.map_cons, D.pys, PyData.eqvAll, D.py, PyData.eqv, ih]
    rw [Bool.eq_iff_iff]
    simp
theorem eqv_L (l m : Letter) : PyData.eqv (dL l).py (dL m).py = decide (l = m) := by
  obtain ⟨n, hs⟩ := l
  obtain ⟨k, ks⟩ := m
  unfold dL
  simp only [D.py, D.pys, PyData.eqv, PyData.eqvAll, eqv_ints]
  rw [Bool.eq_iff_iff]
  simp [Fin.ext_iff]
theorem eqv_run (r q : Run) : PyData.eqv (dRun r).py (dRun q).py = decide (r = q) := by
  obtain ⟨l, e⟩ := r
  obtain ⟨m, f⟩ := q
  unfold dRun
  have h := eqv_L l m
  simp only [D.py, D.pys, PyData.eqv, PyData.eqvAll, h, Bool.and_true]
  rw [Bool.eq_iff_iff]
  simp
theorem eqv_runs : ∀ u v : Word, PyData.eqvAll (D.pys (u.map dRun)) (D.pys (v.map dRun)) = decide (u = v)
  | [], [] => by simp [D.pys, PyData.eqvAll]
  | [], k :: ks => by simp [D.pys, PyData.eqvAll]
  | h :: hs, [] => by simp [D.pys, PyData.eqvAll]
  | h :: hs, k :: ks => by
    have ih := eqv_runs hs ks
    have h1 := eqv_run h k
    simp only [List.map_cons, D.pys, PyData.eqvAll, ih, h1]
    rw [Bool.eq_iff_iff]
    simp
theorem eqv_W (u v : Word) : PyData.eqv (dW u).py (dW v).py = decide (u = v) := by
  unfold dW
  simp only [D.py, PyData.eqv, eqv_runs]
theorem pyd_fl {st : Store} {d : D} (h : d.fl 8 = true) : pyd st d = some d.py := by
  unfold pyd
  rw [if_pos h]
theorem dEqv_fl {st : Store} {x y : D} (hx : x.fl 8 = true) (hy : y.fl 8 = true) : dEqv st x y = some (PyData.eqv x.py y.py) := by
  unfold dEqv
  rw [pyd_fl hx, pyd_fl hy]
theorem dEqv_int {st : Store} (i j : Int) : dEqv st (.int i) (.int j) = some (decide (i = j)) := by
  rw [dEqv_fl rfl rfl]
  simp only [D.py, PyData.eqv]
  congr 1
theorem dEqv_L {st : Store} (l m : Letter) : dEqv st (dL l) (dL m) = some (decide (l = m)) := by
  rw [dEqv_fl (fl_L 7 l) (fl_L 7 m), eqv_L]
theorem dEqv_run {st : Store} (l m : Run) : dEqv st (dRun l) (dRun m) = some (decide (l = m)) := by
  rw [dEqv_fl (fl_run 6 l) (fl_run 6 m), eqv_run]
theorem dEqv_W {st : Store} (l m : Word) : dEqv st (dW l) (dW m) = some (decide (l = m)) := by
  rw [dEqv_fl (fl_W 5 l) (fl_W 5 m), eqv_W]
end DL

/-! words as lists of runs: the mathematics -/
namespace Wd
variable {α : Type} [DecidableEq α]
/-- a run put ahead of a reduced word -/
def cons (r : α × Int) : List (α × Int) → List (α × Int)
  | [] => if r.2 = 0 then [] else [r]
  | m :: t => if m.1 = r.1 then (if r.2 + m.2 = 0 then t else (r.1, r.2 + m.2) :: t) else if r.2 = 0 then m :: t else r :: m :: t
def Red : List (α × Int) → Prop
  | [] => True
  | r :: t => r.2 ≠ 0 ∧ (∀ m ∈ t.head?, m.1 ≠ r.1) ∧ Red t
def act (u w : List (α × Int)) : List (α × Int) := u.foldr cons w
def red (u : List (α × Int)) : List (α × Int) := act u []
def inv (u : List (α × Int)) : List (α × Int) := (u.map fun r => (r.1, -r.2)).reverse
theorem c0 (r : α × Int) : cons r [] = if r.2 = 0 then [] else [r] := rfl
theorem c1 (r m : α × Int) (t : List (α × Int)) : cons r (m :: t) = if m.1 = r.1 then (if r.2 + m.2 = 0 then t else (r.1, r.2 + m.2) :: t) else if r.2 = 0 then m :: t else r :: m :: t := rfl
theorem Red.tail {r : α × Int} {t : List (α × Int)} (h : Red (r :: t)) : Red t := h.2.2
theorem Red.cons {r : α × Int} {w : List (α × Int)} (h : Red w) : Red (cons r w) := by
  obtain ⟨l, e⟩ := r
  cases w with
  | nil =>
    first | rw [c0] | rw [c1]
    by_cases he : e = 0
    · rw [if_pos he]
      trivial
    · rw [if_neg he]
      exact ⟨he, by simp, trivial⟩
  | cons m t =>
    first | rw [c0] | rw [c1]
    by_cases hm : m.1 = l
    · rw [if_pos hm]
      by_cases hz : e + m.2 = 0
      · rw [if_pos hz]
        exact h.2.2
      · rw [if_neg hz]
        refine ⟨hz, ?_, h.2.2⟩
        have := h.2.1
        rw [hm] at this
        exact this
    · rw [if_neg hm]
      by_cases he : e = 0
      · rw [if_pos he]
        exact h
      · rw [if_neg he]
        refine ⟨he, ?_, h⟩
        intro x hx
        simp at hx
        subst hx
        exact hm
theorem cons_zero {l : α} {w : List (α × Int)} (h : Red w) : cons (l, 0) w = w := by
  cases w with
  | nil => rfl
  | cons m t =>
    first | rw [c0] | rw [c1]
    by_cases hm : m.1 = l
    · rw [if_pos hm, if_neg (by have := h.1; simpa using this)]
      obtain ⟨a, b⟩ := m
      cases hm
      simp
    · rw [if_neg hm, if_pos rfl]
theorem cons_cons {l : α} {e f : Int} {w : List (α × Int)} (h : Red w) : cons (l, e) (cons (l, f) w) = cons (l, e + f) w := by
  cases w with
  | nil =>
    first | rw [c0] | rw [c1]
    by_cases hf : f = 0
    · subst hf
      simp
    · simp only [hf, if_false, ↓reduceIte]
      rw [c1, c0]
      simp
  | cons m t =>
    obtain ⟨a, b⟩ := m
    by_cases hm : a = l
    · subst hm
      by_cases hz : f + b = 0
      · have e1 : cons (a, f) ((a, b) :: t) = t := by simp [cons, hz]
        rw [e1]
        have hb : e + f + b = e := by omega
        cases t with
        | nil =>
          by_cases he : e = 0
          · simp [cons, he, hz]
          · simp [cons, he, hb]
        | cons q t =>
          have hq : q.1 ≠ a := h.2.1 q (by simp)
          by_cases he : e = 0
          · simp [cons, he, hq, hz]
          · simp [cons, he, hq, hb]
      · have e1 : cons (a, f) ((a, b) :: t) = (a, f + b) :: t := by simp [cons, hz]
        rw [e1]
        have hb : e + (f + b) = e + f + b := by omega
        simp [cons, hb]
    · by_cases hf : f = 0
      · subst hf
        have e1 : cons (l, 0) ((a, b) :: t) = (a, b) :: t := cons_zero h
        rw [e1]
        simp
      · have e1 : cons (l, f) ((a, b) :: t) = (l, f) :: (a, b) :: t := by simp [cons, hm, hf]
        rw [e1]
        by_cases hz : e + f = 0
        · simp [cons, hm, hz]
        · simp [cons, hm, hz]
theorem Red.act {u w : List (α × Int)} (h : Red w) : Red (act u w) := by
  induction u with
  | nil => exact h
  | cons r u ih => exact Red.cons ih
theorem Red.red {u : List (α × Int)} : Red (red u) := Red.act (w := []) trivial
theorem act_app (u v w : List (α × Int)) : act (u ++ v) w = act u (act v w) := List.foldr_append
theorem act_cons {r : α × Int} {u w : List (α × Int)} (h : Red w) : act (cons r u) w = cons r (act u w) := by
  obtain ⟨l, e⟩ := r
  cases u with
  | nil =>
    first | rw [c0] | rw [c1]
    by_cases he : e = 0
    · subst he
      rw [if_pos rfl]
      show w = _
      exact (cons_zero h).symm
    · rw [if_neg he]
      rfl
  | cons m t =>
    obtain ⟨a, b⟩ := m
    have ht : Red (act t w) := Red.act h
    show act (cons (l, e) ((a, b) :: t)) w = cons (l, e) (cons (a, b) (act t w))
    by_cases hm : a = l
    · subst hm
      rw [cons_cons ht]
      by_cases hz : e + b = 0
      · rw [hz, cons_zero ht]
        simp [cons, hz]
      · simp [cons, hz, act]
    · by_cases he : e = 0
      · subst he
        rw [cons_zero (Red.cons ht)]
        simp [cons, hm, act]
      · simp [cons, hm, he, act]
theorem act_red {u w : List (α × Int)} (h : Red w) : act (red u) w = act u w := by
  induction u with
  | nil => rfl
  | cons r u ih =>
    show act (cons r (red u)) w = cons r (act u w)
    rw [act_cons h, ih]
theorem red_of {u : List (α × Int)} (h : Red u) : red u = u := by
  induction u with
  | nil => rfl
  | cons r u ih =>
    show cons r (red u) = r :: u
    rw [ih h.2.2]
    cases u with
    | nil =>
      first | rw [c0] | rw [c1]
      rw [if_neg h.1]
    | cons m t =>
      first | rw [c0] | rw [c1]
      rw [if_neg (h.2.1 m (by simp)), if_neg h.1]
theorem red_app (u v : List (α × Int)) : red (u ++ v) = act u (red v) := act_app u v []
theorem red_red_app (u v : List (α × Int)) : red (red u ++ v) = red (u ++ v) := by
  rw [red_app, red_app, act_red Red.red]
theorem red_app_red (u v : List (α × Int)) : red (u ++ red v) = red (u ++ v) := by
  rw [red_app, red_app, red_of Red.red]
theorem act_inv {u w : List (α × Int)} (h : Red w) : act u (act (inv u) w) = w := by
  induction u generalizing w with
  | nil => rfl
  | cons r u ih =>
    obtain ⟨l, e⟩ := r
    have e1 : inv ((l, e) :: u) = inv u ++ [(l, -e)] := by simp [inv]
    rw [e1, act_app]
    show cons (l, e) (act u (act (inv u) (cons (l, -e) w))) = w
    rw [ih (Red.cons h), cons_cons h, Int.add_right_neg, cons_zero h]
theorem inv_inv (u : List (α × Int)) : inv (inv u) = u := by
  unfold inv
  rw [List.map_reverse, List.reverse_reverse, List.map_map]
  have : ((fun r : α × Int => (r.1, -r.2)) ∘ fun r => (r.1, -r.2)) = id := by
    funext r
    simp
  rw [this, List.map_id]
theorem red_app_inv (u : List (α × Int)) : red (u ++ inv u) = [] := by
  rw [red_app]
  exact act_inv trivial
theorem red_inv_app (u : List (α × Int)) : red (inv u ++ u) = [] := by
  have h := red_app_inv (inv u)
  rw [inv_inv] at h
  exact h
theorem act_cons_rev {r : α × Int} {u w : List (α × Int)} (h : Red w) : act (cons r u).reverse w = act (u.reverse ++ [r]) w := by
  obtain ⟨l, e⟩ := r
  cases u with
  | nil =>
    first | rw [c0] | rw [c1]
    by_cases he : e = 0
    · subst he
      rw [if_pos rfl]
      show w = cons (l, 0) w
      exact (cons_zero h).symm
    · rw [if_neg he]
      rfl
  | cons m t =>
    obtain ⟨a, b⟩ := m
    by_cases hm : a = l
    · subst hm
      have e2 : act (((a, b) :: t).reverse ++ [(a, e)]) w = act t.reverse (cons (a, b + e) w) := by
        rw [List.reverse_cons, act_app, act_app]
        show act t.reverse (cons (a, b) (cons (a, e) w)) = _
        rw [cons_cons h]
      rw [e2]
      by_cases hz : e + b = 0
      · have hz' : b + e = 0 := by omega
        rw [hz', cons_zero h]
        simp [cons, hz]
      · have hz' : b + e = e + b := by omega
        rw [hz']
        have : cons (a, e) ((a, b) :: t) = (a, e + b) :: t := by simp [cons, hz]
        rw [this, List.reverse_cons, act_app]
        rfl
    · by_cases he : e = 0
      · subst he
        have : cons (l, 0) ((a, b) :: t) = (a, b) :: t := by simp [cons, hm]
        rw [this, act_app]
        show _ = act _ (cons (l, 0) w)
        rw [cons_zero h]
      · have : cons (l, e) ((a, b) :: t) = (l, e) :: (a, b) :: t := by simp [cons, hm, he]
        rw [this, List.reverse_cons]
theorem act_red_rev {u w : List (α × Int)} (h : Red w) : act (red u).reverse w = act u.reverse w := by
  induction u generalizing w with
  | nil => rfl
  | cons r u ih =>
    show act (cons r (red u)).reverse w = _
    rw [act_cons_rev h, act_app, ih (w := act [r] w) (Red.act h), List.reverse_cons, act_app]
theorem red_iff {u : List (α × Int)} : Red u ↔ (∀ r ∈ u, r.2 ≠ 0) ∧ ∀ (i : Nat) a b, u[i]? = some a → u[i + 1]? = some b → a.1 ≠ b.1 := by
  induction u with
  | nil => simp [Red]
  | cons r u ih =>
    unfold Red
    rw [ih]
    constructor
    · rintro ⟨h1, h2, h3, h4⟩
      refine ⟨?_, ?_⟩
      · intro x hx
        rcases List.mem_cons.mp hx with rfl | hx
        · exact h1
        · exact h3 x hx
      · intro i a b ha hb
        cases i with
        | zero =>
          simp at ha hb
          subst ha
          exact (h2 b (by rw [List.head?_eq_getElem?]; exact hb)).symm
        | succ i =>
          simp at ha hb
          exact h4 i a b ha hb
    · rintro ⟨h1, h2⟩
      refine ⟨h1 r (by simp), ?_, fun x hx => h1 x (by simp [hx]), fun i a b ha hb => h2 (i + 1) a b (by simpa using ha) (by simpa using hb)⟩
      intro m hm
      rw [List.head?_eq_getElem?] at hm
      exact (h2 0 r m rfl (by simpa using hm)).symm
theorem Red.rev {u : List (α × Int)} (h : Red u) : Red u.reverse := by
  rw [red_iff] at h ⊢
  refine ⟨fun r hr => h.1 r (by simpa using hr), fun i a b ha hb => ?_⟩
  have hi : i + 1 < u.length := by
    have := (List.getElem?_eq_some_iff.mp hb).1
    simpa using this
  rw [List.getElem?_reverse (by omega)] at ha
  rw [List.getElem?_reverse (by omega)] at hb
  refine (h.2 (u.length - 1 - (i + 1)) b a hb ?_).symm
  rw [show u.length - 1 - (i + 1) + 1 = u.length - 1 - i by omega]
  exact ha
theorem red_rev (u : List (α × Int)) : (red u).reverse = red u.reverse := by
  have h := act_red_rev (u := u) (w := []) trivial
  rw [← red_of (Red.rev Red.red)]
  exact h
/-- what the program's loop from the left makes -/
theorem red_left (u : List (α × Int)) : (u.foldl (fun s r => cons r s) []).reverse = red u := by
  have e : u.foldl (fun s r => cons r s) [] = red u.reverse := by
    unfold red act
    rw [List.foldr_reverse]
  rw [e, red_rev, List.reverse_reverse]
theorem len_cons (r : α × Int) (w : List (α × Int)) : (cons r w).length ≤ w.length + 1 := by
  cases w with
  | nil =>
    rw [c0]
    by_cases h : r.2 = 0
    · rw [if_pos h]; simp
    · rw [if_neg h]; simp
  | cons m t =>
    rw [c1]
    split <;> split <;> simp <;> omega
theorem len_red (u : List (α × Int)) : (red u).length ≤ u.length := by
  induction u with
  | nil => exact Nat.le_refl _
  | cons r u ih =>
    have := len_cons r (red u)
    show (cons r (red u)).length ≤ u.length + 1
    omega
theorem Red.take {u : List (α × Int)} (h : Red u) (n : Nat) : Red (u.take n) := by
  rw [red_iff] at h ⊢
  refine ⟨fun r hr => h.1 r (List.mem_of_mem_take hr), fun i a b ha hb => ?_⟩
  rw [List.getElem?_take] at ha hb
  split at ha
  · split at hb
    · exact h.2 i a b ha hb
    · cases hb
  · cases ha
theorem Red.drop {u : List (α × Int)} (h : Red u) (n : Nat) : Red (u.drop n) := by
  rw [red_iff] at h ⊢
  refine ⟨fun r hr => h.1 r (List.mem_of_mem_drop hr), fun i a b ha hb => ?_⟩
  rw [List.getElem?_drop] at ha hb
  exact h.2 (n + i) a b ha hb
theorem Red.inv {u : List (α × Int)} (h : Red u) : Red (inv u) := by
  unfold Wd.inv
  apply Red.rev
  rw [red_iff] at h ⊢
  refine ⟨fun r hr => ?_, fun i a b ha hb => ?_⟩
  · obtain ⟨x, hx, rfl⟩ := List.mem_map.mp hr
    have := h.1 x hx
    show -x.2 ≠ 0
    omega
  · rw [List.getElem?_map] at ha hb
    obtain ⟨x, hx, rfl⟩ := Option.map_eq_some_iff.mp ha
    obtain ⟨y, hy, rfl⟩ := Option.map_eq_some_iff.mp hb
    exact h.2 i x y hx hy
/-- the product at a seam -/
theorem Red.app {u v : List (α × Int)} (hu : Red u) (hv : Red v) (h : ∀ a b, u.getLast? = some a → v.head? = some b → a.1 ≠ b.1) : Red (u ++ v) := by
  rw [red_iff] at hu hv ⊢
  refine ⟨fun r hr => (List.mem_append.mp hr).elim (hu.1 r) (hv.1 r), fun i a b ha hb => ?_⟩
  by_cases h1 : i + 1 < u.length
  · rw [List.getElem?_append_left (by omega)] at ha
    rw [List.getElem?_append_left h1] at hb
    exact hu.2 i a b ha hb
  · rw [List.getElem?_append_right (by omega)] at hb
    by_cases h2 : i < u.length
    · rw [List.getElem?_append_left h2] at ha
      refine h a b ?_ ?_
      · rw [List.getLast?_eq_getElem?, show u.length - 1 = i by omega]
        exact ha
      · rw [List.head?_eq_getElem?, ← hb, show i + 1 - u.length = 0 by omega]
    · rw [List.getElem?_append_right (by omega)] at ha
      refine hv.2 (i - u.length) a b ha ?_
      rw [show i - u.length + 1 = i + 1 - u.length by omega]
      exact hb
theorem Red.seam {A B : List (α × Int)} (h : Red (A ++ B)) {a b : α × Int} (ha : A.getLast? = some a) (hb : B.head? = some b) : a.1 ≠ b.1 := by
  rw [red_iff] at h
  have h0 : 0 < A.length := by
    cases A with
    | nil => simp at ha
    | cons _ _ => simp
  refine h.2 (A.length - 1) a b ?_ ?_
  · rw [List.getElem?_append_left (by omega), ← List.getLast?_eq_getElem?]
    exact ha
  · rw [List.getElem?_append_right (by omega), ← hb, List.head?_eq_getElem?, show A.length - 1 + 1 - A.length = 0 by omega]
theorem Red.left {A B : List (α × Int)} (h : Red (A ++ B)) : Red A := by
  have := h.take A.length
  rwa [List.take_left] at this
theorem Red.right {A B : List (α × Int)} (h : Red (A ++ B)) : Red B := by
  have := h.drop A.length
  rwa [List.drop_left] at this
theorem meet_eq (A B : List (α × Int)) (l : α) (e f : Int) : red (A ++ (l, e) :: (l, f) :: B) = red (A ++ (l, e + f) :: B) := by
  rw [red_app, red_app]
  show act A (cons (l, e) (cons (l, f) (red B))) = act A (cons (l, e + f) (red B))
  rw [cons_cons Red.red]
theorem zero_eq (A B : List (α × Int)) (l : α) : red (A ++ (l, 0) :: B) = red (A ++ B) := by
  rw [red_app, red_app]
  show act A (cons (l, 0) (red B)) = act A (red B)
  rw [cons_zero Red.red]
theorem Red.mid {A B : List (α × Int)} {l : α} {e f t : Int} (h1 : Red (A ++ [(l, e)])) (h2 : Red ((l, f) :: B)) (ht : t ≠ 0) : Red (A ++ (l, t) :: B) := by
  refine Red.app h1.left ⟨ht, h2.2.1, h2.2.2⟩ fun a b ha hb => ?_
  simp at hb
  subst hb
  exact h1.seam ha (b := (l, e)) rfl
end Wd

/-! powers and conjugates -/
namespace Wd
variable {α : Type} [DecidableEq α]
theorem cancel_l (x v : List (α × Int)) : red (inv x ++ (x ++ v)) = red v := by
  rw [red_app, red_app]
  have h := act_inv (u := inv x) (w := red v) Red.red
  rwa [inv_inv] at h
theorem cancel_r (x v : List (α × Int)) : red (x ++ (inv x ++ v)) = red v := by
  rw [red_app, red_app]
  exact act_inv Red.red
/-- the same elements -/
theorem app_congr {a b c d : List (α × Int)} (h : red a = red b) (k : red c = red d) : red (a ++ c) = red (b ++ d) := by
  rw [← red_red_app, h, red_red_app, ← red_app_red, k, red_app_red]
theorem red_red (u : List (α × Int)) : red (red u) = red u := red_of Red.red
def rep (n : Nat) (w : List (α × Int)) : List (α × Int) := (List.replicate n w).flatten
theorem rep_succ (n : Nat) (w : List (α × Int)) : rep (n + 1) w = w ++ rep n w := by
  unfold rep
  rw [List.replicate_succ, List.flatten_cons]
theorem len_rep (n : Nat) (w : List (α × Int)) : (rep n w).length = n * w.length := by
  induction n with
  | zero => simp [rep]
  | succ n ih => rw [rep_succ, List.length_append, ih, Nat.succ_mul, Nat.add_comm]
/-- the power -/
def pw (w : List (α × Int)) (e : Int) : List (α × Int) := red (rep e.natAbs (if 0 < e then w else inv w))
theorem Red.pw {w : List (α × Int)} {e : Int} : Red (pw w e) := Red.red
theorem len_inv (w : List (α × Int)) : (inv w).length = w.length := by
  unfold inv
  rw [List.length_reverse, List.length_map]
theorem len_pw (w : List (α × Int)) (e : Int) : (pw w e).length ≤ e.natAbs * w.length := by
  refine Nat.le_trans (len_red _) ?_
  rw [len_rep]
  split
  · exact Nat.le_refl _
  · rw [len_inv]
    exact Nat.le_refl _
theorem pw_zero (w : List (α × Int)) : pw w 0 = [] := rfl
theorem pw_nat (w : List (α × Int)) (n : Nat) : pw w n = red (rep n w) := by
  unfold pw
  rw [Int.natAbs_natCast]
  split
  · rfl
  · have : n = 0 := by omega
    subst this
    rfl
theorem pw_neg (w : List (α × Int)) (n : Nat) : pw w (-n) = red (rep n (inv w)) := by
  unfold pw
  rw [Int.natAbs_neg, Int.natAbs_natCast, if_neg (by omega)]
theorem pw_up (w : List (α × Int)) (e : Int) : red (w ++ pw w e) = pw w (e + 1) := by
  by_cases h : 0 ≤ e
  · obtain ⟨n, rfl⟩ : ∃ n : Nat, e = n := ⟨e.toNat, by omega⟩
    rw [pw_nat, show ((n : Int) + 1) = ((n + 1 : Nat) : Int) by omega, pw_nat, rep_succ, red_app_red]
  · obtain ⟨n, rfl⟩ : ∃ n : Nat, e = -((n + 1 : Nat) : Int) := ⟨(-e - 1).toNat, by omega⟩
    rw [pw_neg, rep_succ, red_app_red, cancel_r, show -((n + 1 : Nat) : Int) + 1 = -(n : Int) by omega, pw_neg]
theorem pw_down (w : List (α × Int)) (e : Int) : red (inv w ++ pw w e) = pw w (e - 1) := by
  have h := pw_up w (e - 1)
  rw [show e - 1 + 1 = e by omega] at h
  rw [← h, red_app_red, cancel_l]
  exact red_red _
theorem pw_one {w : List (α × Int)} (h : Red w) : pw w 1 = w := by
  have := pw_up w 0
  rw [pw_zero, List.append_nil, red_of h] at this
  exact this.symm
/-- by steps up and down -/
theorem int_steps {P : Int → Prop} (h0 : P 0) (up : ∀ e, P e → P (e + 1)) (down : ∀ e, P e → P (e - 1)) (e : Int) : P e := by
  have hp : ∀ n : Nat, P n := fun n => by
    induction n with
    | zero => exact h0
    | succ n ih => exact up _ ih
  have hn : ∀ n : Nat, P (-n) := fun n => by
    induction n with
    | zero => exact h0
    | succ n ih =>
      have := down _ ih
      rwa [show -(n : Int) - 1 = -((n + 1 : Nat) : Int) by omega] at this
  by_cases h : 0 ≤ e
  · have := hp e.toNat
    rwa [Int.toNat_of_nonneg h] at this
  · have := hn (-e).toNat
    rwa [Int.toNat_of_nonneg (by omega), Int.neg_neg] at this
theorem pw_add (w : List (α × Int)) (a b : Int) : red (pw w a ++ pw w b) = pw w (a + b) := by
  refine int_steps (P := fun a => red (pw w a ++ pw w b) = pw w (a + b)) ?_ (fun e ih => ?_) (fun e ih => ?_) a
  · show red (pw w 0 ++ pw w b) = pw w (0 + b)
    rw [pw_zero, List.nil_append, Int.zero_add]
    exact red_of Red.pw
  · rw [← pw_up, red_red_app, List.append_assoc, ← red_app_red, ih, pw_up]
    congr 1
    omega
  · rw [← pw_down, red_red_app, List.append_assoc, ← red_app_red, ih, pw_down]
    congr 1
    omega
theorem pw_mul (w : List (α × Int)) (a b : Int) : pw (pw w a) b = pw w (a * b) := by
  refine int_steps (P := fun b => pw (pw w a) b = pw w (a * b)) ?_ (fun e ih => ?_) (fun e ih => ?_) b
  · show pw (pw w a) 0 = pw w (a * 0)
    rw [Int.mul_zero, pw_zero, pw_zero]
  · rw [← pw_up, ih, pw_add, Int.mul_add, Int.mul_one, Int.add_comm]
  · rw [← pw_down, ih, show a * e = a + a * (e - 1) by rw [Int.mul_sub, Int.mul_one]; omega, ← pw_add, red_app_red, cancel_l]
    exact red_of Red.pw
theorem pw_conj (t w : List (α × Int)) (e : Int) : pw (red (t ++ (w ++ inv t))) e = red (t ++ (pw w e ++ inv t)) := by
  have key : ∀ e, red (red (t ++ (w ++ inv t)) ++ (t ++ (pw w e ++ inv t))) = red (t ++ (pw w (e + 1) ++ inv t)) := by
    intro e
    rw [red_red_app, List.append_assoc, List.append_assoc]
    refine app_congr rfl ?_
    have h1 : red (inv t ++ (t ++ (pw w e ++ inv t))) = red (pw w e ++ inv t) := cancel_l _ _
    rw [app_congr (rfl : red w = red w) h1, ← List.append_assoc, ← red_red_app, pw_up]
  refine int_steps (P := fun e => pw (red (t ++ (w ++ inv t))) e = red (t ++ (pw w e ++ inv t))) ?_ (fun e ih => ?_) (fun e ih => ?_) e
  · show pw _ 0 = red (t ++ (pw w 0 ++ inv t))
    rw [pw_zero, pw_zero, List.nil_append, red_app_inv]
  · rw [← pw_up, ih, red_app_red, key]
  · rw [← pw_down, ih]
    have h := key (e - 1)
    rw [show e - 1 + 1 = e by omega] at h
    rw [← h, red_app_red, cancel_l]
/-- one run, many times -/
theorem red_rep_one (l : α) (c : Int) (n : Nat) : red (rep n [(l, c)]) = if c * n = 0 then [] else [(l, c * n)] := by
  induction n with
  | zero => simp [rep, red, act]
  | succ n ih =>
    rw [rep_succ]
    show cons (l, c) (red (rep n [(l, c)])) = _
    rw [ih]
    have e : c * ((n + 1 : Nat) : Int) = c + c * n := by
      rw [show ((n + 1 : Nat) : Int) = n + 1 by omega, Int.mul_add, Int.mul_one, Int.add_comm]
    rw [e]
    by_cases h : c * (n : Int) = 0
    · rw [if_pos h, c0, h, Int.add_zero]
    · rw [if_neg h, c1, if_pos rfl]
theorem pw_single {l : α} {c e : Int} (hc : c ≠ 0) (he : e ≠ 0) : pw [(l, c)] e = [(l, c * e)] := by
  by_cases h : 0 ≤ e
  · obtain ⟨n, rfl⟩ : ∃ n : Nat, e = n := ⟨e.toNat, by omega⟩
    rw [pw_nat, red_rep_one, if_neg (Int.mul_ne_zero hc he)]
  · obtain ⟨n, rfl⟩ : ∃ n : Nat, e = -(n : Int) := ⟨(-e).toNat, by omega⟩
    have e1 : inv [(l, c)] = [(l, -c)] := rfl
    have e2 : -c * (n : Int) = c * -(n : Int) := by rw [Int.neg_mul, Int.mul_neg]
    rw [pw_neg, e1, red_rep_one, e2, if_neg (Int.mul_ne_zero hc he)]
theorem pw_nil (e : Int) : pw ([] : List (α × Int)) e = [] := by
  unfold pw
  have e1 : (if 0 < e then ([] : List (α × Int)) else inv []) = [] := by split <;> rfl
  rw [e1]
  have : ∀ n, rep n ([] : List (α × Int)) = [] := fun n => by
    induction n with
    | zero => rfl
    | succ n ih => rw [rep_succ, ih]; rfl
  rw [this]
  rfl
end Wd

/-! sizes, circles, cores -/
namespace Wd
variable {α : Type} [DecidableEq α]
def size (w : List (α × Int)) : Nat := (w.map fun r => r.2.natAbs).sum
theorem size_nil : size ([] : List (α × Int)) = 0 := rfl
theorem size_cons (r : α × Int) (w : List (α × Int)) : size (r :: w) = r.2.natAbs + size w := by
  unfold size
  rw [List.map_cons, List.sum_cons]
theorem size_app (u v : List (α × Int)) : size (u ++ v) = size u + size v := by
  induction u with
  | nil => simp [size_nil]
  | cons r u ih => rw [List.cons_append, size_cons, size_cons, ih]; omega
theorem size_inv (u : List (α × Int)) : size (inv u) = size u := by
  induction u with
  | nil => rfl
  | cons r u ih =>
    have e : inv (r :: u) = inv u ++ [(r.1, -r.2)] := by simp [inv]
    rw [e, size_app, ih, size_cons, size_cons, size_nil]
    simp only [Int.natAbs_neg]
    omega
theorem size_cons_le (r : α × Int) (w : List (α × Int)) : size (cons r w) ≤ r.2.natAbs + size w := by
  cases w with
  | nil =>
    rw [c0]
    split
    · simp [size_nil]
    · simp [size_cons, size_nil]
  | cons m t =>
    rw [c1, size_cons]
    split
    · split
      · omega
      · rw [size_cons]
        simp only
        omega
    · split
      · rw [size_cons]; omega
      · rw [size_cons, size_cons]; omega
theorem size_red (u : List (α × Int)) : size (red u) ≤ size u := by
  induction u with
  | nil => exact Nat.le_refl _
  | cons r u ih =>
    have := size_cons_le r (red u)
    rw [size_cons]
    show size (cons r (red u)) ≤ _
    omega
theorem size_pos {u : List (α × Int)} (h : Red u) (hn : u ≠ []) : 0 < size u := by
  cases u with
  | nil => exact absurd rfl hn
  | cons r u =>
    rw [size_cons]
    have := h.1
    omega
theorem inv_app (u v : List (α × Int)) : inv (u ++ v) = inv v ++ inv u := by simp [inv]
theorem inv_one (l : α) (e : Int) : inv [(l, e)] = [(l, -e)] := rfl
def cycb (w : List (α × Int)) : Bool := match w.head?, w.getLast? with
  | some a, some b => decide (w.length < 2) || (decide (a.1 ≠ b.1) || (decide (0 < a.2) == decide (0 < b.2)))
  | _, _ => true
/-- both ends -/
theorem ends {w : List (α × Int)} (h : 2 ≤ w.length) : ∃ a m b, w = a :: (m ++ [b]) := by
  match w, h with
  | a :: b :: t, _ =>
    rcases List.eq_nil_or_concat (b :: t) with h0 | ⟨m, c, h0⟩
    · cases h0
    · exact ⟨a, m, c, by rw [h0, List.concat_eq_append]⟩
theorem cycb_ends (a b : α × Int) (m : List (α × Int)) : cycb (a :: (m ++ [b])) = (decide (a.1 ≠ b.1) || (decide (0 < a.2) == decide (0 < b.2))) := by
  unfold cycb
  have e1 : (a :: (m ++ [b])).getLast? = some b := by rw [← List.cons_append, List.getLast?_concat]
  rw [e1]
  have : decide ((a :: (m ++ [b])).length < 2) = false := by simp
  simp only [List.head?_cons, this, Bool.false_or]
theorem cycb_small {w : List (α × Int)} (h : w.length < 2) : cycb w = true := by
  match w, h with
  | [], _ => rfl
  | [a], _ => simp [cycb]
theorem size_sq (w : List (α × Int)) (h : Red w) : (decide (size (red (w ++ w)) = 2 * size w)) = cycb w := by
  by_cases hs : w.length < 2
  · rw [cycb_small hs]
    match w, hs with
    | [], _ => rfl
    | [(l, e)], _ =>
      have he : e ≠ 0 := h.1
      have e1 : red ([(l, e)] ++ [(l, e)]) = [(l, e + e)] := by
        show cons (l, e) (cons (l, e) []) = _
        rw [c0, if_neg he, c1, if_pos rfl, if_neg (by simp only; omega)]
      rw [e1]
      simp only [size_cons, size_nil]
      simp
      omega
  · obtain ⟨⟨l, f⟩, m, ⟨l', e⟩, rfl⟩ := ends (w := w) (by omega)
    rw [cycb_ends]
    have hr1 : Red ((l, f) :: (m ++ [(l', e)])) := h
    have hr2 : Red (((l, f) :: m) ++ [(l', e)]) := by rw [List.cons_append]; exact h
    have he : e ≠ 0 := hr2.right.1
    have hf : f ≠ 0 := hr1.1
    by_cases hll : l = l'
    · subst hll
      have e1 : ((l, f) :: (m ++ [(l, e)])) ++ ((l, f) :: (m ++ [(l, e)])) = ((l, f) :: m) ++ (l, e) :: (l, f) :: (m ++ [(l, e)]) := by simp
      rw [e1, meet_eq]
      have e2 : decide ((l, f).1 ≠ (l, e).1) = false := by simp
      rw [e2, Bool.false_or]
      simp only
      by_cases hs : (0 < f ↔ 0 < e)
      · have hr : Red (((l, f) :: m) ++ (l, e + f) :: (m ++ [(l, e)])) := Red.mid hr2 hr1 (by omega)
        rw [red_of hr]
        have : (decide (0 < f) == decide (0 < e)) = true := by simp [hs]
        rw [this]
        simp only [size_app, size_cons, size_nil, decide_eq_true_eq]
        omega
      · have : (decide (0 < f) == decide (0 < e)) = false := by
          rw [Bool.eq_false_iff]
          intro hb
          apply hs
          simpa using hb
        rw [this]
        have := size_red (((l, f) :: m) ++ (l, e + f) :: (m ++ [(l, e)]))
        simp only [size_app, size_cons, size_nil, decide_eq_false_iff_not] at this ⊢
        omega
    · have hr : Red (((l, f) :: (m ++ [(l', e)])) ++ ((l, f) :: (m ++ [(l', e)]))) := Red.app h h fun a b ha hb => by
        rw [← List.cons_append, List.getLast?_concat] at ha
        cases ha
        cases hb
        exact fun z => hll z.symm
      rw [red_of hr]
      have : decide ((l, f).1 ≠ (l', e).1) = true := by simp [hll]
      rw [this, Bool.true_or]
      simp only [size_app, decide_eq_true_eq]
      omega
/-- a word, taken apart -/
structure Core (w o c : List (α × Int)) : Prop where
  ro : Red o
  rc : Red c
  eq : red (o ++ (c ++ inv o)) = w
  sz : size w = 2 * size o + size c
  cy : cycb c = true
theorem core_done {w p k : List (α × Int)} (hw : Red w) (e : w = p ++ (k ++ inv p)) (hc : cycb k = true) : Core w p k := by
  have hw' := hw
  rw [e] at hw'
  refine ⟨hw'.left, hw'.right.left, by rw [← e]; exact red_of hw, ?_, hc⟩
  rw [e, size_app, size_app, size_inv]
  omega
def taken (f e : Int) : Int := if f.natAbs < e.natAbs then f else -e
theorem core_taken {w p mid : List (α × Int)} {l : α} {f e : Int} (hw : Red w) (h : w = p ++ (((l, f) :: (mid ++ [(l, e)])) ++ inv p)) (hs : ¬ (0 < f ↔ 0 < e)) (hne : f ≠ -e) :
    Core w (p ++ [(l, taken f e)]) (red ((l, f - taken f e) :: (mid ++ [(l, e + taken f e)]))) := by
  have hw' := hw
  rw [h] at hw'
  have hk : Red ((l, f) :: (mid ++ [(l, e)])) := hw'.right.left
  have hk2 : Red (((l, f) :: mid) ++ [(l, e)]) := by rw [List.cons_append]; exact hk
  have hf : f ≠ 0 := hk.1
  have he : e ≠ 0 := hk2.right.1
  have hp : Red (p ++ [(l, f)]) := by
    have : p ++ (((l, f) :: (mid ++ [(l, e)])) ++ inv p) = (p ++ [(l, f)]) ++ ((mid ++ [(l, e)]) ++ inv p) := by simp
    rw [this] at hw'
    exact hw'.left
  have ht : taken f e ≠ 0 := by
    unfold taken
    split <;> omega
  obtain ⟨q, mid', rfl⟩ : ∃ q mid', mid = q :: mid' := by
    cases mid with
    | nil => exact absurd rfl (hk.2.1 (l, e) (by simp)).symm
    | cons q m => exact ⟨q, m, rfl⟩
  obtain ⟨m2, z, hz⟩ : ∃ m2 z, q :: mid' = m2 ++ [z] := by
    rcases List.eq_nil_or_concat (q :: mid') with h0 | ⟨m2, z, h0⟩
    · cases h0
    · exact ⟨m2, z, by rw [h0, List.concat_eq_append]⟩
  have hq : q.1 ≠ l := hk.2.1 q (by simp)
  have hzl : z.1 ≠ l := by
    have := hk2.seam (a := z) (b := (l, e)) (by rw [hz, ← List.cons_append, List.getLast?_concat]) rfl
    exact this
  have hmid : Red (q :: mid') := hk.2.2.left
  refine ⟨Red.mid (B := []) (f := f) hp ⟨hf, by simp, trivial⟩ ht, Red.red, ?_, ?_, ?_⟩
  · have e1 : (p ++ [(l, taken f e)]) ++ (red ((l, f - taken f e) :: (q :: mid' ++ [(l, e + taken f e)])) ++ inv (p ++ [(l, taken f e)])) = p ++ ([(l, taken f e)] ++ (red ((l, f - taken f e) :: (q :: mid' ++ [(l, e + taken f e)])) ++ ([(l, -taken f e)] ++ inv p))) := by
      rw [inv_app, inv_one]
      simp
    have e2 : red ([(l, taken f e)] ++ (((l, f - taken f e) :: (q :: mid' ++ [(l, e + taken f e)])) ++ ([(l, -taken f e)] ++ inv p))) = red (((l, f) :: (q :: mid' ++ [(l, e)])) ++ inv p) := by
      have a1 : [(l, taken f e)] ++ (((l, f - taken f e) :: (q :: mid' ++ [(l, e + taken f e)])) ++ ([(l, -taken f e)] ++ inv p)) = [] ++ (l, taken f e) :: (l, f - taken f e) :: (q :: mid' ++ ((l, e + taken f e) :: (l, -taken f e) :: inv p)) := by simp
      rw [a1, meet_eq]
      have a2 : [] ++ (l, taken f e + (f - taken f e)) :: (q :: mid' ++ ((l, e + taken f e) :: (l, -taken f e) :: inv p)) = ((l, f) :: (q :: mid')) ++ ((l, e + taken f e) :: (l, -taken f e) :: inv p) := by
        rw [show taken f e + (f - taken f e) = f by omega]
        simp
      rw [a2, meet_eq, show e + taken f e + -taken f e = e by omega]
      simp
    rw [e1, app_congr (rfl : red p = red p) (app_congr (rfl : red [(l, taken f e)] = _) (red_red_app _ _)), app_congr (rfl : red p = red p) e2, ← h]
    exact red_of hw
  · rw [h]
    simp only [size_app, size_cons, size_nil, size_inv]
    by_cases hlt : f.natAbs < e.natAbs
    · have t1 : taken f e = f := if_pos hlt
      rw [t1, show f - f = 0 by omega]
      have r1 : Red (q :: mid' ++ [(l, e + f)]) := Red.app hmid ⟨by simp only; omega, by simp, trivial⟩ fun a b ha hb => by
        rw [hz] at ha
        simp at ha hb
        subst ha hb
        exact hzl
      have := zero_eq [] (q :: mid' ++ [(l, e + f)]) l
      rw [List.nil_append, List.nil_append] at this
      rw [this, red_of r1]
      simp only [List.cons_append, size_app, size_cons, size_nil]
      omega
    · have t1 : taken f e = -e := if_neg hlt
      rw [t1, show e + -e = 0 by omega]
      have r1 : Red ((l, f - -e) :: (q :: mid')) := ⟨by simp only; omega, by intro x hx; simp at hx; subst hx; exact hq, hmid⟩
      have := zero_eq ((l, f - -e) :: (q :: mid')) [] l
      rw [List.append_nil] at this
      have a3 : (l, f - -e) :: (q :: mid' ++ [(l, 0)]) = ((l, f - -e) :: (q :: mid')) ++ [(l, 0)] := by simp
      rw [a3, this, red_of r1]
      simp only [size_app, size_cons, size_nil]
      omega
  · by_cases hlt : f.natAbs < e.natAbs
    · have t1 : taken f e = f := if_pos hlt
      rw [t1, show f - f = 0 by omega]
      have r1 : Red (q :: mid' ++ [(l, e + f)]) := Red.app hmid ⟨by simp only; omega, by simp, trivial⟩ fun a b ha hb => by
        rw [hz] at ha
        simp at ha hb
        subst ha hb
        exact hzl
      have := zero_eq [] (q :: mid' ++ [(l, e + f)]) l
      rw [List.nil_append, List.nil_append] at this
      rw [this, red_of r1]
      rw [List.cons_append, cycb_ends]
      simp [hq]
    · have t1 : taken f e = -e := if_neg hlt
      rw [t1, show e + -e = 0 by omega]
      have r1 : Red ((l, f - -e) :: (q :: mid')) := ⟨by simp only; omega, by intro x hx; simp at hx; subst hx; exact hq, hmid⟩
      have := zero_eq ((l, f - -e) :: (q :: mid')) [] l
      rw [List.append_nil] at this
      have a3 : (l, f - -e) :: (q :: mid' ++ [(l, 0)]) = ((l, f - -e) :: (q :: mid')) ++ [(l, 0)] := by simp
      rw [a3, this, red_of r1, hz, cycb_ends]
      have : l ≠ z.1 := fun h => hzl h.symm
      simp [this]
end Wd

/-! putting words for a letter; sums -/
namespace Wd
variable {α : Type} [DecidableEq α]
/-- what is put for a run -/
def put (m : α) (im : List (α × Int)) (r : α × Int) : List (α × Int) := if r.1 = m then pw im r.2 else [r]
def sub (m : α) (im w : List (α × Int)) : List (α × Int) := red (w.flatMap (put m im))
theorem put_add (m : α) (im : List (α × Int)) (l : α) (a b : Int) (v : List (α × Int)) : red (put m im (l, a) ++ (put m im (l, b) ++ v)) = red (put m im (l, a + b) ++ v) := by
  unfold put
  by_cases h : l = m
  · simp only [h, if_true]
    rw [← List.append_assoc, ← red_red_app, pw_add]
  · simp only [h, if_false]
    exact meet_eq [] v l a b
theorem put_zero (m : α) (im : List (α × Int)) (l : α) (v : List (α × Int)) : red (put m im (l, 0) ++ v) = red v := by
  unfold put
  by_cases h : l = m
  · simp only [h, if_true, pw_zero, List.nil_append]
  · simp only [h, if_false]
    exact zero_eq [] v l
theorem sub_cons (m : α) (im : List (α × Int)) (r : α × Int) (w : List (α × Int)) : red ((cons r w).flatMap (put m im)) = red (put m im r ++ w.flatMap (put m im)) := by
  obtain ⟨l, e⟩ := r
  cases w with
  | nil =>
    rw [c0]
    by_cases h : e = 0
    · subst h
      rw [if_pos rfl, put_zero]
    · rw [if_neg h]
      simp
  | cons q t =>
    obtain ⟨l', f⟩ := q
    rw [c1]
    by_cases h : l' = l
    · subst h
      simp only [if_true]
      rw [List.flatMap_cons, put_add]
      by_cases hz : e + f = 0
      · rw [if_pos hz, hz, put_zero]
      · rw [if_neg hz, List.flatMap_cons]
    · simp only [h, if_false]
      by_cases hz : e = 0
      · subst hz
        rw [if_pos rfl, put_zero]
      · rw [if_neg hz, List.flatMap_cons]
theorem sub_red (m : α) (im w : List (α × Int)) : sub m im (red w) = sub m im w := by
  unfold sub
  induction w with
  | nil => rfl
  | cons r w ih =>
    show red ((cons r (red w)).flatMap (put m im)) = _
    rw [sub_cons, List.flatMap_cons, ← red_app_red, ih, red_app_red]
theorem sub_app (m : α) (im u v : List (α × Int)) : sub m im (u ++ v) = red (sub m im u ++ sub m im v) := by
  unfold sub
  rw [List.flatMap_append, red_red_app, red_app_red]
theorem sub_nil (m : α) (im : List (α × Int)) : sub m im [] = [] := rfl
theorem inv_of {u v : List (α × Int)} (hu : Red u) (hv : Red v) (h : red (u ++ v) = []) : u = inv v := by
  have h1 : red (u ++ (v ++ inv v)) = red (inv v) := by
    rw [← List.append_assoc, ← red_red_app, h, List.nil_append]
  rw [app_congr (rfl : red u = red u) (show red (v ++ inv v) = red [] from red_app_inv v), List.append_nil, red_of hu, red_of hv.inv] at h1
  exact h1
theorem sub_inv (m : α) (im u : List (α × Int)) : sub m im (inv u) = inv (sub m im u) := by
  refine inv_of Red.red Red.red ?_
  show red (sub m im (inv u) ++ sub m im u) = []
  rw [← sub_app, ← sub_red, red_inv_app]
  rfl
/-- no such letter -/
theorem sub_none {m : α} {im w : List (α × Int)} (h : ∀ r ∈ w, r.1 ≠ m) : w.flatMap (put m im) = w := by
  induction w with
  | nil => rfl
  | cons r w ih =>
    rw [List.flatMap_cons, ih fun x hx => h x (by simp [hx])]
    unfold put
    rw [if_neg (h r (by simp))]
    rfl
theorem sub_self {m : α} {im w : List (α × Int)} (hw : Red w) (h : ∀ r ∈ w, r.1 ≠ m) : sub m im w = w := by
  unfold sub
  rw [sub_none h, red_of hw]
theorem put_nil (m : α) (w : List (α × Int)) : w.flatMap (put m []) = w.filter fun r => decide (r.1 ≠ m) := by
  induction w with
  | nil => rfl
  | cons r w ih =>
    rw [List.flatMap_cons, ih, List.filter_cons]
    unfold put
    by_cases h : r.1 = m
    · rw [if_pos h, pw_nil]
      simp [h]
    · rw [if_neg h]
      simp [h]
theorem flat_congr {f g : α × Int → List (α × Int)} (h : ∀ r, red (f r) = red (g r)) (w : List (α × Int)) : red (w.flatMap f) = red (w.flatMap g) := by
  induction w with
  | nil => rfl
  | cons r w ih =>
    rw [List.flatMap_cons, List.flatMap_cons]
    exact app_congr (h r) ih
theorem cons_mem {r x : α × Int} {w : List (α × Int)} (h : x ∈ cons r w) : x.1 = r.1 ∨ ∃ y ∈ w, y.1 = x.1 := by
  cases w with
  | nil =>
    rw [c0] at h
    split at h
    · cases h
    · simp at h
      exact .inl (by rw [h])
  | cons m t =>
    rw [c1] at h
    split at h
    · split at h
      · exact .inr ⟨x, by simp [h], rfl⟩
      · rcases List.mem_cons.mp h with h | h
        · exact .inl (by rw [h])
        · exact .inr ⟨x, by simp [h], rfl⟩
    · split at h
      · exact .inr ⟨x, h, rfl⟩
      · rcases List.mem_cons.mp h with h | h
        · exact .inl (by rw [h])
        · exact .inr ⟨x, h, rfl⟩
theorem red_mem {u : List (α × Int)} : ∀ {x : α × Int}, x ∈ red u → ∃ y ∈ u, y.1 = x.1 := by
  induction u with
  | nil => intro x h; cases h
  | cons r u ih =>
    intro x h
    rcases cons_mem (w := red u) h with h | ⟨y, hy, e⟩
    · exact ⟨r, by simp, h.symm⟩
    · obtain ⟨z, hz, e2⟩ := ih hy
      exact ⟨z, by simp [hz], e2.trans e⟩
/-- exponent sums -/
def esum (l : α) (w : List (α × Int)) : Int := (w.map fun r => if r.1 = l then r.2 else 0).sum
theorem esum_nil (l : α) : esum l ([] : List (α × Int)) = 0 := rfl
theorem esum_cons (l : α) (r : α × Int) (w : List (α × Int)) : esum l (r :: w) = (if r.1 = l then r.2 else 0) + esum l w := by
  unfold esum
  rw [List.map_cons, List.sum_cons]
theorem esum_app (l : α) (u v : List (α × Int)) : esum l (u ++ v) = esum l u + esum l v := by
  induction u with
  | nil => rw [List.nil_append, esum_nil]; omega
  | cons r u ih => rw [List.cons_append, esum_cons, esum_cons, ih]; omega
theorem esum_c (l : α) (r : α × Int) (w : List (α × Int)) : esum l (cons r w) = (if r.1 = l then r.2 else 0) + esum l w := by
  cases w with
  | nil =>
    rw [c0]
    split
    · rename_i h
      rw [h, esum_nil]
      split <;> rfl
    · rw [esum_cons]
  | cons m t =>
    rw [c1, esum_cons]
    split
    · rename_i h
      rw [h]
      split
      · rename_i hz
        split <;> omega
      · rw [esum_cons]
        simp only
        split <;> omega
    · split
      · rename_i h
        rw [h, esum_cons]
        split <;> omega
      · rw [esum_cons, esum_cons]
theorem esum_red (l : α) (w : List (α × Int)) : esum l (red w) = esum l w := by
  induction w with
  | nil => rfl
  | cons r w ih =>
    show esum l (cons r (red w)) = _
    rw [esum_c, ih, esum_cons]
theorem esum_inv (l : α) (w : List (α × Int)) : esum l (inv w) = -esum l w := by
  induction w with
  | nil => rfl
  | cons r w ih =>
    have e : inv (r :: w) = inv w ++ [(r.1, -r.2)] := by simp [inv]
    rw [e, esum_app, ih, esum_cons, esum_cons, esum_nil]
    simp only
    split <;> omega
theorem esum_pw (l : α) (w : List (α × Int)) (e : Int) : esum l (pw w e) = e * esum l w := by
  refine int_steps (P := fun e => esum l (pw w e) = e * esum l w) ?_ (fun e ih => ?_) (fun e ih => ?_) e
  · show esum l (pw w 0) = 0 * _
    rw [pw_zero, esum_nil, Int.zero_mul]
  · rw [← pw_up, esum_red, esum_app, ih, Int.add_mul, Int.one_mul, Int.add_comm]
  · rw [← pw_down, esum_red, esum_app, ih, esum_inv, Int.sub_mul, Int.one_mul]
    omega
theorem esum_sub {m l : α} (hl : l ≠ m) (im w : List (α × Int)) : esum l (sub m im w) = esum m w * esum l im + esum l (w.filter fun r => decide (r.1 ≠ m)) := by
  unfold sub
  rw [esum_red]
  induction w with
  | nil =>
    rw [List.flatMap_nil, List.filter_nil, esum_nil, esum_nil, Int.zero_mul]
    rfl
  | cons r w ih =>
    rw [List.flatMap_cons, esum_app, ih, List.filter_cons, esum_cons, put]
    by_cases h : r.1 = m
    · simp only [h, if_true, esum_pw, ne_eq, not_true_eq_false, decide_false, Bool.false_eq_true, if_false]
      rw [Int.add_mul]
      omega
    · simp only [h, if_false, ne_eq, not_false_eq_true, decide_true, if_true, esum_cons, esum_nil]
      rw [Int.zero_add]
      omega
/-- the torsion-free law -/
theorem core_ex : ∀ (n : Nat) (w p k : List (α × Int)), k.length ≤ n → Red w → w = p ++ (k ++ inv p) → ∃ o c, Core w o c := by
  intro n
  induction n with
  | zero =>
    intro w p k hk hw e
    have : k = [] := List.length_eq_zero_iff.mp (by omega)
    subst this
    exact ⟨p, [], core_done hw e rfl⟩
  | succ n ih =>
    intro w p k hk hw e
    by_cases hc : cycb k = true
    · exact ⟨p, k, core_done hw e hc⟩
    · obtain ⟨⟨l, f⟩, mid, ⟨l', y⟩, rfl⟩ := ends (w := k) (by
        rcases Nat.lt_or_ge k.length 2 with h | h
        · exact absurd (cycb_small h) hc
        · exact h)
      have hc' : cycb ((l, f) :: (mid ++ [(l', y)])) = false := by simpa using hc
      rw [cycb_ends] at hc'
      simp only [Bool.or_eq_false_iff, decide_eq_false_iff_not, ne_eq, Classical.not_not] at hc'
      obtain ⟨rfl, hs⟩ := hc'
      have hs' : ¬ (0 < f ↔ 0 < y) := by
        intro hh
        simp [hh] at hs
      by_cases hxy : f = -y
      · subst hxy
        refine ih w (p ++ [(l, -y)]) mid (by simp at hk; omega) hw ?_
        rw [e, inv_app, inv_one, Int.neg_neg]
        simp
      · exact ⟨_, _, core_taken hw e hs' hxy⟩
theorem rep_cyc {c : List (α × Int)} (hr : Red c) (hc : cycb c = true) (hn : c ≠ []) : ∀ n, ∃ f B, red (rep (n + 1) c) = ((c.head hn).1, f) :: B ∧ (0 < f ↔ 0 < (c.head hn).2) := by
  intro n
  induction n with
  | zero =>
    rw [rep_succ]
    show ∃ f B, red (c ++ []) = _ ∧ _
    rw [List.append_nil, red_of hr]
    cases c with
    | nil => exact absurd rfl hn
    | cons a t => exact ⟨a.2, t, rfl, Iff.rfl⟩
  | succ n ih =>
    obtain ⟨f, B, e, hs⟩ := ih
    rw [rep_succ, ← red_app_red, e]
    have hR : Red (((c.head hn).1, f) :: B) := by rw [← e]; exact Red.red
    by_cases hl : c.length < 2
    · obtain ⟨a, rfl⟩ : ∃ a, c = [a] := by
        match c, hn, hl with
        | [a], _, _ => exact ⟨a, rfl⟩
      obtain ⟨l, x⟩ := a
      have hx : x ≠ 0 := hr.1
      have hf : f ≠ 0 := hR.1
      simp only [List.head_cons] at hs e ⊢
      have : red ([(l, x)] ++ (l, f) :: B) = red ([] ++ (l, x + f) :: B) := meet_eq [] B l x f
      rw [this, List.nil_append, red_of (show Red ((l, x + f) :: B) from ⟨by simp only; omega, hR.2.1, hR.2.2⟩)]
      exact ⟨x + f, B, rfl, by omega⟩
    · obtain ⟨a, m, b, rfl⟩ := ends (w := c) (by omega)
      rw [cycb_ends] at hc
      simp only [List.head_cons] at hs e hR ⊢
      have hA : Red ((a :: m) ++ [b]) := by rw [List.cons_append]; exact hr
      have hb : b.2 ≠ 0 := hA.right.1
      have hf : f ≠ 0 := hR.1
      by_cases hab : a.1 = b.1
      · have hsg : (0 < a.2 ↔ 0 < b.2) := by
          simp [hab] at hc
          exact hc
        obtain ⟨lb, eb⟩ := b
        simp only at hab hb hsg
        rw [hab]
        have e1 : a :: (m ++ [(lb, eb)]) ++ (lb, f) :: B = (a :: m) ++ (lb, eb) :: (lb, f) :: B := by simp
        rw [hab] at hR
        have hR2 : Red ((a :: m) ++ (lb, eb + f) :: B) := Red.mid hA hR (by omega)
        rw [e1, meet_eq, red_of hR2]
        obtain ⟨la, ea⟩ := a
        simp only at hab
        subst hab
        exact ⟨ea, m ++ (la, eb + f) :: B, rfl, Iff.rfl⟩
      · have hR2 : Red ((a :: (m ++ [b])) ++ (a.1, f) :: B) := Red.app hr hR fun u v hu hv => by
          rw [← List.cons_append, List.getLast?_concat] at hu
          cases hu
          cases hv
          exact fun h => hab h.symm
        rw [red_of hR2]
        exact ⟨a.2, (m ++ [b]) ++ (a.1, f) :: B, rfl, Iff.rfl⟩
theorem pw_ne {w : List (α × Int)} (hw : Red w) (hn : w ≠ []) {e : Int} (he : e ≠ 0) : pw w e ≠ [] := by
  have pos : ∀ (w : List (α × Int)), Red w → w ≠ [] → ∀ n : Nat, pw w ((n + 1 : Nat) : Int) ≠ [] := by
    intro w hw hn n h
    obtain ⟨o, c, hc⟩ := core_ex w.length w [] w (Nat.le_refl _) hw (by simp [inv])
    have hcn : c ≠ [] := by
      rintro rfl
      have := hc.eq
      rw [List.nil_append, red_app_inv] at this
      exact hn this.symm
    have h2 := pw_conj o c ((n + 1 : Nat) : Int)
    rw [hc.eq, h] at h2
    have h3 : red (inv o ++ ((o ++ (pw c ((n + 1 : Nat) : Int) ++ inv o)) ++ o)) = pw c ((n + 1 : Nat) : Int) := by
      rw [List.append_assoc, List.append_assoc, cancel_l, app_congr (rfl : red (pw c ((n + 1 : Nat) : Int)) = _) (show red (inv o ++ o) = red [] from red_inv_app o), List.append_nil]
      exact red_of Red.pw
    have h4 : red (inv o ++ ((o ++ (pw c ((n + 1 : Nat) : Int) ++ inv o)) ++ o)) = [] := by
      rw [app_congr (rfl : red (inv o) = _) (app_congr (show red (o ++ (pw c ((n + 1 : Nat) : Int) ++ inv o)) = red [] from h2.symm) (rfl : red o = _)), List.nil_append, red_inv_app]
    rw [h4, pw_nat] at h3
    obtain ⟨f, B, e, _⟩ := rep_cyc hc.rc hc.cy hcn n
    rw [e] at h3
    cases h3
  by_cases h0 : 0 < e
  · obtain ⟨n, rfl⟩ : ∃ n : Nat, e = ((n + 1 : Nat) : Int) := ⟨(e - 1).toNat, by omega⟩
    exact pos w hw hn n
  · obtain ⟨n, rfl⟩ : ∃ n : Nat, e = -((n + 1 : Nat) : Int) := ⟨(-e - 1).toNat, by omega⟩
    intro h
    have h1 : pw w ((n + 1 : Nat) : Int) = [] := by
      have := pw_add w (-((n + 1 : Nat) : Int)) ((n + 1 : Nat) : Int)
      rw [h, List.nil_append, red_of Red.pw, Int.add_left_neg, pw_zero] at this
      exact this
    exact pos w hw hn n h1
theorem conj_ne {o i : List (α × Int)} (hi : Red i) (hn : i ≠ []) : red (o ++ (i ++ inv o)) ≠ [] := by
  intro h
  have h3 : red (inv o ++ ((o ++ (i ++ inv o)) ++ o)) = i := by
    rw [List.append_assoc, List.append_assoc, cancel_l, app_congr (rfl : red i = _) (show red (inv o ++ o) = red [] from red_inv_app o), List.append_nil]
    exact red_of hi
  have h4 : red (inv o ++ ((o ++ (i ++ inv o)) ++ o)) = [] := by
    rw [app_congr (rfl : red (inv o) = _) (app_congr (show red (o ++ (i ++ inv o)) = red [] from h) (rfl : red o = _)), List.nil_append, red_inv_app]
  rw [h4] at h3
  exact hn h3.symm
end Wd

/-! how many marks -/
namespace Wd
variable {α : Type} [DecidableEq α]
def msz (m : α) (w : List (α × Int)) : Nat := (w.map fun r => if r.1 = m then r.2.natAbs else 0).sum
theorem msz_nil (m : α) : msz m ([] : List (α × Int)) = 0 := rfl
theorem msz_cons (m : α) (r : α × Int) (w : List (α × Int)) : msz m (r :: w) = (if r.1 = m then r.2.natAbs else 0) + msz m w := by
  unfold msz
  rw [List.map_cons, List.sum_cons]
theorem msz_app (m : α) (u v : List (α × Int)) : msz m (u ++ v) = msz m u + msz m v := by
  induction u with
  | nil => rw [List.nil_append, msz_nil]; omega
  | cons r u ih => rw [List.cons_append, msz_cons, msz_cons, ih]; omega
theorem msz_inv (m : α) (w : List (α × Int)) : msz m (inv w) = msz m w := by
  induction w with
  | nil => rfl
  | cons r w ih =>
    have e : inv (r :: w) = inv w ++ [(r.1, -r.2)] := by simp [inv]
    rw [e, msz_app, ih, msz_cons, msz_cons, msz_nil]
    simp only [Int.natAbs_neg]
    omega
theorem msz_c (m : α) (r : α × Int) (w : List (α × Int)) : msz m (cons r w) ≤ (if r.1 = m then r.2.natAbs else 0) + msz m w := by
  cases w with
  | nil =>
    rw [c0]
    split
    · rw [msz_nil]; omega
    · rw [msz_cons]; exact Nat.le_refl _
  | cons q t =>
    rw [c1, msz_cons]
    split
    · rename_i h
      rw [h]
      split
      · omega
      · rw [msz_cons]
        simp only
        split <;> omega
    · split
      · rw [msz_cons]; omega
      · rw [msz_cons, msz_cons]; exact Nat.le_refl _
theorem msz_red (m : α) (w : List (α × Int)) : msz m (red w) ≤ msz m w := by
  induction w with
  | nil => exact Nat.le_refl _
  | cons r w ih =>
    have := msz_c m r (red w)
    rw [msz_cons]
    show msz m (cons r (red w)) ≤ _
    omega
theorem msz_mem {m : α} {w : List (α × Int)} {r : α × Int} (hr : r ∈ w) (h : r.1 = m) : r.2.natAbs ≤ msz m w := by
  induction w with
  | nil => cases hr
  | cons q w ih =>
    rw [msz_cons]
    rcases List.mem_cons.mp hr with rfl | hr
    · rw [if_pos h]; omega
    · have := ih hr; omega
theorem msz_drop (m : α) (w : List (α × Int)) (n : Nat) : msz m (w.drop n) ≤ msz m w := by
  have h := msz_app m (w.take n) (w.drop n)
  rw [List.take_append_drop] at h
  omega
theorem len_flat {m : α} {L : Nat} {f : α × Int → List (α × Int)} (hf : ∀ r, (f r).length ≤ if r.1 = m then r.2.natAbs * L else 1) (w : List (α × Int)) : (w.flatMap f).length ≤ msz m w * L + w.length := by
  induction w with
  | nil => simp
  | cons r w ih =>
    rw [List.flatMap_cons, List.length_append, msz_cons, List.length_cons]
    have := hf r
    split at this
    · rename_i h
      rw [if_pos h, Nat.add_mul]
      omega
    · rename_i h
      rw [if_neg h, Nat.add_mul, Nat.zero_mul]
      omega
theorem len_put (m : α) (im w : List (α × Int)) : (w.flatMap (put m im)).length ≤ msz m w * im.length + w.length := by
  refine len_flat (fun r => ?_) w
  unfold put
  split
  · exact len_pw im r.2
  · exact Nat.le_refl _
theorem esum_abs (m : α) (w : List (α × Int)) : (esum m w).natAbs ≤ msz m w := by
  induction w with
  | nil => exact Nat.le_refl _
  | cons r w ih =>
    rw [esum_cons, msz_cons]
    split <;> omega
end Wd

/-! putting twice -/
namespace Wd
variable {α : Type} [DecidableEq α]
theorem sub_none' {m : α} {im w : List (α × Int)} (h : ∀ r ∈ w, r.1 ≠ m) : sub m im w = red w := by
  unfold sub
  rw [sub_none h]
theorem sub_congr (m : α) (im : List (α × Int)) {u v : List (α × Int)} (h : red u = red v) : sub m im u = sub m im v := by
  rw [← sub_red m im u, h, sub_red]
theorem sub_pw (m : α) (g w : List (α × Int)) (e : Int) : sub m g (pw w e) = pw (sub m g w) e := by
  refine int_steps (P := fun e => sub m g (pw w e) = pw (sub m g w) e) ?_ (fun e ih => ?_) (fun e ih => ?_) e
  · rfl
  · rw [← pw_up, sub_red, sub_app, ih, pw_up]
  · rw [← pw_down, sub_red, sub_app, sub_inv, ih, pw_down]
/-- g for the marks of k, k for the marks of w -/
theorem sub_sub (m : α) (g k w : List (α × Int)) : sub m g (sub m k w) = sub m (sub m g k) w := by
  unfold sub at *
  rw [show red ((red (w.flatMap (put m k))).flatMap (put m g)) = red ((w.flatMap (put m k)).flatMap (put m g)) from sub_red m g _]
  rw [List.flatMap_assoc]
  refine flat_congr (fun r => ?_) w
  unfold put
  by_cases h : r.1 = m
  · rw [if_pos h, if_pos h]
    have e := sub_pw m g k r.2
    unfold sub at e
    have e2 : red (pw (red (k.flatMap (put m g))) r.2) = pw (red (k.flatMap (put m g))) r.2 := red_of Red.pw
    rw [show (fun r : α × Int => if r.1 = m then pw g r.2 else [r]) = put m g from rfl, e, ← e2]
    exact (red_red _).symm
  · rw [if_neg h, if_neg h]
    simp [h]
theorem put_one (m : α) {w : List (α × Int)} (h : ∀ r ∈ w, r.2 ≠ 0) : w.flatMap (put m [(m, 1)]) = w := by
  induction w with
  | nil => rfl
  | cons r w ih =>
    rw [List.flatMap_cons, ih fun x hx => h x (by simp [hx])]
    obtain ⟨l, e⟩ := r
    have he : e ≠ 0 := h (l, e) (by simp)
    unfold put
    by_cases hl : l = m
    · subst hl
      rw [if_pos rfl, pw_single (by omega) he, Int.one_mul]
      rfl
    · rw [if_neg hl]
      rfl
theorem sub_one (m : α) {w : List (α × Int)} (h : Red w) : sub m [(m, 1)] w = w := by
  unfold sub
  rw [put_one m (red_iff.mp h).1, red_of h]
/-- letter by letter -/
def spell1 (r : α × Int) : List (α × Int) := List.replicate r.2.natAbs (r.1, if r.2 < 0 then -1 else 1)
def spelled (w : List (α × Int)) : List (α × Int) := w.flatMap spell1
theorem red_spell1 (r : α × Int) : red (spell1 r) = red [r] := by
  obtain ⟨l, e⟩ := r
  have key : ∀ (s : Int) (n : Nat), List.replicate n (l, s) = rep n [(l, s)] := fun s n => by
    induction n with
    | zero => rfl
    | succ n ih => rw [List.replicate_succ, ih, rep_succ]; rfl
  unfold spell1
  rw [key, red_rep_one]
  simp only
  have e1 : (if e < 0 then (-1 : Int) else 1) * (e.natAbs : Int) = e := by split <;> omega
  rw [e1]
  show _ = cons (l, e) []
  rw [c0]
theorem red_spelled (w : List (α × Int)) : red (spelled w) = red w := by
  unfold spelled
  have h := flat_congr (f := spell1) (g := fun r => [r]) (fun r => red_spell1 r) w
  rw [h]
  congr 1
  induction w with
  | nil => rfl
  | cons r w ih => rw [List.flatMap_cons, ih (flat_congr (fun r => red_spell1 r) w)]; rfl
theorem len_spelled (w : List (α × Int)) : (spelled w).length = size w := by
  induction w with
  | nil => rfl
  | cons r w ih =>
    unfold spelled at ih ⊢
    rw [List.flatMap_cons, List.length_append, ih, size_cons]
    unfold spell1
    rw [List.length_replicate]
theorem len_sub_nil (m : α) (w : List (α × Int)) : (sub m [] w).length ≤ w.length := by
  have h3 := len_red (w.flatMap (put m []))
  unfold sub
  rw [put_nil] at h3 ⊢
  exact Nat.le_trans h3 (List.length_filter_le _ _)
theorem no_sub_nil (m : α) (u : List (α × Int)) : ∀ r ∈ sub m [] u, r.1 ≠ m := by
  intro r hr
  unfold sub at hr
  rw [put_nil] at hr
  obtain ⟨y, hy, e⟩ := red_mem hr
  rw [List.mem_filter] at hy
  rw [← e]
  simpa using hy.2
theorem no_inv {m : α} {u : List (α × Int)} (h : ∀ r ∈ u, r.1 ≠ m) : ∀ r ∈ inv u, r.1 ≠ m := fun r hr => by
  unfold inv at hr
  rw [List.mem_reverse] at hr
  obtain ⟨x, hx, rfl⟩ := List.mem_map.mp hr
  exact h x hx
/-- a word without the letter stays -/
theorem sub_tt (m : α) (g u : List (α × Int)) : sub m g (sub m [] u) = sub m [] u := sub_self Red.red (no_sub_nil m u)
end Wd

/-! equations of words, by the action -/
namespace Wd
variable {α : Type} [DecidableEq α]
theorem red_inv (u : List (α × Int)) : red (inv u) = inv (red u) := by
  refine inv_of Red.red Red.red ?_
  rw [red_red_app, red_app_red]
  exact red_inv_app u
theorem a_red {u w : List (α × Int)} (h : Red w) : act (red u) w = act u w := act_red h
theorem a_ired {u w : List (α × Int)} (h : Red w) : act (inv (red u)) w = act (inv u) w := by rw [← red_inv, act_red h]
theorem a_r {u w : List (α × Int)} (h : Red w) : act u (act (inv u) w) = w := act_inv h
theorem a_l {u w : List (α × Int)} (h : Red w) : act (inv u) (act u w) = w := by
  have := act_inv (u := inv u) (w := w) h
  rwa [inv_inv] at this
theorem a_Red {u w : List (α × Int)} (h : Red w) : Red (act u w) = True := eq_true (Red.act h)
theorem a_nil : Red ([] : List (α × Int)) = True := eq_true trivial
theorem a_e {w : List (α × Int)} : act ([] : List (α × Int)) w = w := rfl
/-- behind one, its target's inverse and the next -/
def aft (m : α) (A B : List (α × Int)) : List (α × Int) := red (A ++ (inv (sub m [] A) ++ B))
def tb (m : α) (im A : List (α × Int)) : List (α × Int) := red (sub m [] A ++ (inv A ++ sub m im A))
theorem by_act {u v : List (α × Int)} (h : act u [] = act v []) : red u = red v := h
theorem to_act {u v : List (α × Int)} (hv : Red v) (h : act u [] = act v []) : red u = v := by
  rw [← red_of hv]
  exact h
theorem sub_aft (m : α) (im A B : List (α × Int)) : sub m im (aft m A B) = red (sub m im A ++ (inv (sub m [] A) ++ sub m im B)) := by
  unfold aft
  rw [sub_red, sub_app, sub_app, sub_inv, sub_tt]
  apply by_act
  simp (config := { maxDischargeDepth := 40 }) only [act_app, a_red, a_ired, a_r, a_l, a_Red, a_nil, a_e, inv_app, inv_inv]
theorem sub_aft_eq {m : α} {im A B : List (α × Int)} (h : sub m im B = sub m [] A) : sub m im (aft m A B) = sub m im A := by
  rw [sub_aft, h]
  apply to_act (v := sub m im A) Red.red
  simp (config := { maxDischargeDepth := 40 }) only [act_app, a_red, a_ired, a_r, a_l, a_Red, a_nil, a_e, inv_app, inv_inv]
theorem tgt_aft (m : α) (A B : List (α × Int)) : sub m [] (aft m A B) = sub m [] B := by
  rw [sub_aft]
  apply to_act (v := sub m [] B) Red.red
  simp (config := { maxDischargeDepth := 40 }) only [act_app, a_red, a_ired, a_r, a_l, a_Red, a_nil, a_e, inv_app, inv_inv]
theorem aft_aft (m : α) (A B C : List (α × Int)) : aft m A (aft m B C) = aft m (aft m A B) C := by
  show red (A ++ (inv (sub m [] A) ++ aft m B C)) = red (aft m A B ++ (inv (sub m [] (aft m A B)) ++ C))
  rw [tgt_aft]
  unfold aft
  apply by_act
  simp (config := { maxDischargeDepth := 40 }) only [act_app, a_red, a_ired, a_r, a_l, a_Red, a_nil, a_e, inv_app, inv_inv]
section
variable {m : α} {im A W : List (α × Int)} (hW : sub m im W = W) (hT : sub m [] W = W) (h : sub m im A = W)
include hW hT h
theorem sub_tb : sub m im (tb m im A) = sub m [] A := by
  unfold tb
  rw [h, sub_red, sub_app, sub_app, sub_tt, sub_inv, h, hW]
  apply to_act (v := sub m [] A) Red.red
  simp (config := { maxDischargeDepth := 40 }) only [act_app, a_red, a_ired, a_r, a_l, a_Red, a_nil, a_e, inv_app, inv_inv]
theorem tgt_tb : sub m [] (tb m im A) = W := by
  have hR : Red W := by rw [← hT]; exact Red.red
  unfold tb
  rw [h, sub_red, sub_app, sub_app, sub_tt, sub_inv, hT]
  apply to_act hR
  simp (config := { maxDischargeDepth := 40 }) only [act_app, a_red, a_ired, a_r, a_l, a_Red, a_nil, a_e, inv_app, inv_inv]
theorem tb_tb (hA : Red A) : tb m im (tb m im A) = A := by
  show red (sub m [] (tb m im A) ++ (inv (tb m im A) ++ sub m im (tb m im A))) = A
  rw [sub_tb hW hT h, tgt_tb hW hT h]
  unfold tb
  rw [h]
  apply to_act hA
  simp (config := { maxDischargeDepth := 40 }) only [act_app, a_red, a_ired, a_r, a_l, a_Red, a_nil, a_e, inv_app, inv_inv]
theorem aft_tb : aft m A (tb m im A) = W := by
  have hR : Red W := by rw [← hT]; exact Red.red
  unfold aft tb
  rw [h]
  apply to_act hR
  simp (config := { maxDischargeDepth := 40 }) only [act_app, a_red, a_ired, a_r, a_l, a_Red, a_nil, a_e, inv_app, inv_inv]
theorem tb_aft : aft m (tb m im A) A = sub m [] A := by
  show red (tb m im A ++ (inv (sub m [] (tb m im A)) ++ A)) = _
  rw [tgt_tb hW hT h]
  unfold tb
  rw [h]
  apply to_act (v := sub m [] A) Red.red
  simp (config := { maxDischargeDepth := 40 }) only [act_app, a_red, a_ired, a_r, a_l, a_Red, a_nil, a_e, inv_app, inv_inv]
end
/-- under a keeper -/
theorem keep_sub {m : α} {g k im : List (α × Int)} (hk : sub m g k = im) (w : List (α × Int)) : sub m g (sub m k w) = sub m im w := by rw [sub_sub, hk]
theorem keep_tgt {m : α} {k : List (α × Int)} (hk : sub m [] k = []) (w : List (α × Int)) : sub m [] (sub m k w) = sub m [] w := by rw [sub_sub, hk]
theorem keep_aft {m : α} {k : List (α × Int)} (hk : sub m [] k = []) (A B : List (α × Int)) : aft m (sub m k A) (sub m k B) = sub m k (aft m A B) := by
  rw [sub_aft]
  unfold aft
  rw [keep_tgt hk]
theorem keep_tb {m : α} {g k im A W : List (α × Int)} (hg : sub m g k = im) (hk : sub m [] k = []) (hW : sub m k W = W) (h : sub m im A = W) : tb m g (sub m k A) = sub m k (tb m im A) := by
  unfold tb
  rw [keep_tgt hk, keep_sub hg, h, sub_red, sub_app, sub_app, sub_inv, sub_tt, hW]
  apply by_act
  simp (config := { maxDischargeDepth := 40 }) only [act_app, a_red, a_ired, a_r, a_l, a_Red, a_nil, a_e, inv_app, inv_inv]
/-! sizes -/
theorem msz_le (m : α) (w : List (α × Int)) : msz m w ≤ size w := by
  induction w with
  | nil => exact Nat.le_refl _
  | cons r w ih =>
    rw [msz_cons, size_cons]
    split <;> omega
theorem len_le {w : List (α × Int)} (h : Red w) : w.length ≤ size w := by
  induction w with
  | nil => exact Nat.le_refl _
  | cons r w ih =>
    have h1 := ih h.2.2
    have h2 := h.1
    rw [size_cons, List.length_cons]
    omega
theorem size_filter (m : α) (w : List (α × Int)) : size (w.filter fun r => decide (r.1 ≠ m)) ≤ size w := by
  induction w with
  | nil => exact Nat.le_refl _
  | cons r w ih =>
    rw [List.filter_cons, size_cons]
    split
    · rw [size_cons]; omega
    · omega
theorem size_tgt (m : α) (w : List (α × Int)) : size (sub m [] w) ≤ size w := by
  unfold sub
  rw [put_nil]
  exact Nat.le_trans (size_red _) (size_filter m w)
theorem size_aft (m : α) (A B : List (α × Int)) : size (aft m A B) ≤ 2 * size A + size B := by
  have h1 := size_red (A ++ (inv (sub m [] A) ++ B))
  rw [size_app, size_app, size_inv] at h1
  have := size_tgt m A
  unfold aft
  omega
end Wd

/-! words letter by letter -/
namespace Wd
variable {α : Type} [DecidableEq α]
/-- every exponent is 1 or -1 -/
def Lt (X : List (α × Int)) : Prop := ∀ r ∈ X, r.2 = 1 ∨ r.2 = -1
/-- no two neighbours cancel -/
def Fr : List (α × Int) → Prop
  | [] => True
  | a :: t => (∀ b ∈ t.head?, ¬ (b.1 = a.1 ∧ b.2 = -a.2)) ∧ Fr t
theorem Lt.nil : Lt ([] : List (α × Int)) := fun r hr => by cases hr
theorem Lt.app {X Y : List (α × Int)} (h : Lt X) (k : Lt Y) : Lt (X ++ Y) := fun r hr => (List.mem_append.mp hr).elim (h r) (k r)
theorem Lt.left {X Y : List (α × Int)} (h : Lt (X ++ Y)) : Lt X := fun r hr => h r (List.mem_append_left _ hr)
theorem Lt.right {X Y : List (α × Int)} (h : Lt (X ++ Y)) : Lt Y := fun r hr => h r (List.mem_append_right _ hr)
theorem Lt.inv {X : List (α × Int)} (h : Lt X) : Lt (inv X) := fun r hr => by
  unfold Wd.inv at hr
  rw [List.mem_reverse] at hr
  obtain ⟨x, hx, rfl⟩ := List.mem_map.mp hr
  have := h x hx
  show -x.2 = 1 ∨ -x.2 = -1
  omega
theorem Lt.spell1 (r : α × Int) : Lt (spell1 r) := fun x hx => by
  unfold Wd.spell1 at hx
  obtain ⟨_, rfl⟩ := List.mem_replicate.mp hx
  dsimp only
  split
  · exact .inr rfl
  · exact .inl rfl
theorem Lt.spelled (w : List (α × Int)) : Lt (spelled w) := fun x hx => by
  unfold Wd.spelled at hx
  obtain ⟨r, _, h⟩ := List.mem_flatMap.mp hx
  exact Lt.spell1 r x h
theorem Lt.rep {X : List (α × Int)} (h : Lt X) (n : Nat) : Lt (rep n X) := by
  induction n with
  | zero => exact Lt.nil
  | succ n ih =>
    rw [rep_succ]
    exact h.app ih
theorem Fr.left {X Y : List (α × Int)} (h : Fr (X ++ Y)) : Fr X := by
  induction X with
  | nil => trivial
  | cons a X ih =>
    refine ⟨fun b hb => h.1 b ?_, ih h.2⟩
    cases X with
    | nil => cases hb
    | cons c X => exact hb
theorem Fr.right {X Y : List (α × Int)} (h : Fr (X ++ Y)) : Fr Y := by
  induction X with
  | nil => exact h
  | cons a X ih => exact ih h.2
/-- at a seam -/
theorem Fr.app {X Y : List (α × Int)} (h : Fr X) (k : Fr Y) (s : ∀ a b, X.getLast? = some a → Y.head? = some b → ¬ (b.1 = a.1 ∧ b.2 = -a.2)) : Fr (X ++ Y) := by
  induction X with
  | nil => exact k
  | cons a X ih =>
    cases X with
    | nil =>
      refine ⟨fun b hb => ?_, k⟩
      exact s a b rfl hb
    | cons c X =>
      refine ⟨h.1, ih h.2 fun a' b' h1 h2 => s a' b' ?_ h2⟩
      rw [List.getLast?_cons_cons]
      exact h1
theorem Fr.seam {X Y : List (α × Int)} {a b : α × Int} (h : Fr (X ++ Y)) (h1 : X.getLast? = some a) (h2 : Y.head? = some b) : ¬ (b.1 = a.1 ∧ b.2 = -a.2) := by
  induction X with
  | nil => cases h1
  | cons c X ih =>
    cases X with
    | nil =>
      simp at h1
      subst h1
      exact h.1 b h2
    | cons d X =>
      rw [List.getLast?_cons_cons] at h1
      exact ih h.2 h1
theorem head_inv (X : List (α × Int)) : (inv X).head? = X.getLast?.map fun r => (r.1, -r.2) := by
  unfold inv
  rw [List.head?_reverse, List.getLast?_map]
theorem last_inv (X : List (α × Int)) : (inv X).getLast? = X.head?.map fun r => (r.1, -r.2) := by
  unfold inv
  rw [List.getLast?_reverse, List.head?_map]
theorem Fr.inv {X : List (α × Int)} (h : Fr X) : Fr (inv X) := by
  induction X with
  | nil => trivial
  | cons a X ih =>
    have e : Wd.inv (a :: X) = Wd.inv X ++ [(a.1, -a.2)] := by simp [Wd.inv]
    rw [e]
    refine Fr.app (ih h.2) ⟨by simp, trivial⟩ fun x y hx hy => ?_
    simp at hy
    subst hy
    rw [last_inv] at hx
    cases X with
    | nil => cases hx
    | cons b X =>
      simp at hx
      subst hx
      have := h.1 b rfl
      intro hh
      dsimp only at hh
      exact this ⟨hh.1.symm, by omega⟩
theorem Fr.take {X : List (α × Int)} (h : Fr X) (n : Nat) : Fr (X.take n) := by
  have : Fr (X.take n ++ X.drop n) := by rw [List.take_append_drop]; exact h
  exact this.left
theorem Fr.drop {X : List (α × Int)} (h : Fr X) (n : Nat) : Fr (X.drop n) := by
  have : Fr (X.take n ++ X.drop n) := by rw [List.take_append_drop]; exact h
  exact this.right
/-- runs of one letter -/
theorem Fr.spell1 (r : α × Int) : Fr (spell1 r) := by
  unfold Wd.spell1
  generalize r.2.natAbs = n
  induction n with
  | zero => trivial
  | succ n ih =>
    rw [List.replicate_succ]
    refine ⟨fun b hb => ?_, ih⟩
    cases n with
    | zero => cases hb
    | succ n =>
      rw [List.replicate_succ] at hb
      cases hb
      intro hh
      dsimp only at hh
      have := hh.2
      split at this <;> omega
theorem spell1_head {r : α × Int} (h : r.2 ≠ 0) : (spell1 r).head? = some (r.1, if r.2 < 0 then -1 else 1) := by
  unfold spell1
  obtain ⟨n, hn⟩ : ∃ n, r.2.natAbs = n + 1 := ⟨r.2.natAbs - 1, by omega⟩
  rw [hn, List.replicate_succ]
  rfl
theorem spell1_last {r : α × Int} (h : r.2 ≠ 0) : (spell1 r).getLast? = some (r.1, if r.2 < 0 then -1 else 1) := by
  unfold spell1
  obtain ⟨n, hn⟩ : ∃ n, r.2.natAbs = n + 1 := ⟨r.2.natAbs - 1, by omega⟩
  rw [hn, List.replicate_succ', List.getLast?_concat]
theorem spelled_cons (r : α × Int) (w : List (α × Int)) : spelled (r :: w) = spell1 r ++ spelled w := by
  unfold spelled
  rw [List.flatMap_cons]
theorem spelled_app (u v : List (α × Int)) : spelled (u ++ v) = spelled u ++ spelled v := by
  unfold spelled
  rw [List.flatMap_append]
theorem spelled_head {r : α × Int} {w : List (α × Int)} (h : r.2 ≠ 0) : (spelled (r :: w)).head? = some (r.1, if r.2 < 0 then -1 else 1) := by
  rw [spelled_cons, List.head?_append, spell1_head h]
  rfl
theorem spelled_last {r : α × Int} {w : List (α × Int)} (h : r.2 ≠ 0) : (spelled (w ++ [r])).getLast? = some (r.1, if r.2 < 0 then -1 else 1) := by
  rw [spelled_app, List.getLast?_append, spelled_cons]
  have : spelled ([] : List (α × Int)) = [] := rfl
  rw [this, List.append_nil, spell1_last h]
  rfl
theorem Fr.spelled {w : List (α × Int)} (h : Red w) : Fr (spelled w) := by
  induction w with
  | nil => trivial
  | cons r w ih =>
    rw [spelled_cons]
    refine Fr.app (Fr.spell1 r) (ih h.2.2) fun a b h1 h2 => ?_
    rw [spell1_last h.1] at h1
    cases h1
    cases w with
    | nil => cases h2
    | cons q w =>
      rw [spelled_head h.2.2.1] at h2
      cases h2
      intro hh
      exact h.2.1 q rfl hh.1
/-- the word of such letters -/
theorem spelled_red {X : List (α × Int)} (h : Lt X) (k : Fr X) : spelled (red X) = X ∧ ∀ b ∈ X.head?, ∃ g t, red X = (b.1, g) :: t ∧ (0 < g ↔ b.2 = 1) := by
  induction X with
  | nil => exact ⟨rfl, fun b hb => by cases hb⟩
  | cons a X ih =>
    obtain ⟨l, e⟩ := a
    obtain ⟨ih1, ih2⟩ := ih (fun r hr => h r (by simp [hr])) k.2
    have he : e = 1 ∨ e = -1 := h (l, e) (by simp)
    have hr : red ((l, e) :: X) = cons (l, e) (red X) := rfl
    cases X with
    | nil =>
      have : red ((l, e) :: []) = [(l, e)] := by
        rw [hr]
        show cons (l, e) [] = _
        rw [c0, if_neg (by omega)]
      rw [this]
      refine ⟨?_, fun b hb => ?_⟩
      · rcases he with rfl | rfl <;> rfl
      · simp at hb
        subst hb
        exact ⟨e, [], rfl, by omega⟩
    | cons b X =>
      obtain ⟨l', f⟩ := b
      have hf : f = 1 ∨ f = -1 := h (l', f) (by simp)
      obtain ⟨g, t, hg, hs⟩ := ih2 (l', f) rfl
      dsimp only at hg hs
      have hn := k.1 (l', f) rfl
      dsimp only at hn
      rw [hr, hg, c1]
      rw [hg] at ih1
      by_cases hll : l' = l
      · subst hll
        have hef : f = e := by
          have : ¬ f = -e := fun z => hn ⟨rfl, z⟩
          omega
        subst hef
        have hred : Red ((l', g) :: t) := by rw [← hg]; exact Red.red
        have hg0 : g ≠ 0 := hred.1
        dsimp only
        rw [if_pos rfl, if_neg (by omega)]
        refine ⟨?_, fun b hb => ?_⟩
        · rw [spelled_cons] at ih1 ⊢
          have : spell1 (l', f + g) = (l', f) :: spell1 (l', g) := by
            unfold spell1
            dsimp only
            have e1 : (f + g).natAbs = g.natAbs + 1 := by omega
            rw [e1, List.replicate_succ]
            have e2 : (if f + g < 0 then (-1 : Int) else 1) = f := by split <;> omega
            have e3 : (if g < 0 then (-1 : Int) else 1) = f := by split <;> omega
            rw [e2, e3]
          rw [this, List.cons_append, ih1]
        · simp at hb
          subst hb
          exact ⟨f + g, t, rfl, by omega⟩
      · dsimp only
        rw [if_neg hll, if_neg (by omega)]
        refine ⟨?_, fun b hb => ?_⟩
        · rw [spelled_cons, ih1]
          rcases he with rfl | rfl <;> rfl
        · simp at hb
          subst hb
          exact ⟨e, _, rfl, by omega⟩
theorem spelled_of {X : List (α × Int)} (h : Lt X) (k : Fr X) : spelled (red X) = X := (spelled_red h k).1
theorem spelled_inj {u v : List (α × Int)} (hu : Red u) (hv : Red v) (h : spelled u = spelled v) : u = v := by
  have e1 := red_spelled u
  have e2 := red_spelled v
  rw [h, e2, red_of hv, red_of hu] at e1
  exact e1.symm
theorem size_lt {X : List (α × Int)} (h : Lt X) : size X = X.length := by
  induction X with
  | nil => rfl
  | cons a X ih =>
    rw [size_cons, List.length_cons, ih fun r hr => h r (by simp [hr])]
    have := h a (by simp)
    omega
theorem size_fr {X : List (α × Int)} (h : Lt X) (k : Fr X) : size (red X) = X.length := by
  rw [← len_spelled, spelled_of h k]
theorem spell1_inv (r : α × Int) (h : r.2 ≠ 0) : inv (spell1 r) = spell1 (r.1, -r.2) := by
  unfold inv spell1
  rw [List.map_replicate, List.reverse_replicate]
  dsimp only
  rw [show (-r.2).natAbs = r.2.natAbs by omega]
  congr 2
  split <;> split <;> omega
theorem spelled_inv {w : List (α × Int)} (h : ∀ r ∈ w, r.2 ≠ 0) : spelled (inv w) = inv (spelled w) := by
  induction w with
  | nil => rfl
  | cons r w ih =>
    have e : inv (r :: w) = inv w ++ [(r.1, -r.2)] := by simp [inv]
    rw [e, spelled_app, ih fun x hx => h x (by simp [hx]), spelled_cons r w, inv_app, spell1_inv r (h r (by simp)), spelled_cons]
    show _ ++ (_ ++ []) = _
    rw [List.append_nil]
theorem Red.nz {w : List (α × Int)} (h : Red w) : ∀ r ∈ w, r.2 ≠ 0 := by
  induction w with
  | nil => intro r hr; cases hr
  | cons a w ih =>
    intro r hr
    rcases List.mem_cons.mp hr with rfl | hr
    · exact h.1
    · exact ih h.2.2 r hr
end Wd

/-! cores letter by letter; reading copies -/
namespace Wd
variable {α : Type} [DecidableEq α]
theorem fr_of_size {X : List (α × Int)} (h : Lt X) (hs : size (red X) = X.length) : Fr X := by
  induction X with
  | nil => trivial
  | cons a X ih =>
    have h1 := size_red X
    have h2 := size_lt (X := X) fun r hr => h r (by simp [hr])
    have h3 := size_cons_le a (red X)
    have ha : a.2 = 1 ∨ a.2 = -1 := h a (by simp)
    have hr : red (a :: X) = cons a (red X) := rfl
    rw [hr, List.length_cons] at hs
    have hX : size (red X) = X.length := by omega
    have fX := ih (fun r hr => h r (by simp [hr])) hX
    refine ⟨fun b hb hc => ?_, fX⟩
    obtain ⟨g, t, hg, hgs⟩ := (spelled_red (fun r hr => h r (by simp [hr])) fX).2 b hb
    have hbl : b.2 = 1 ∨ b.2 = -1 := by
      cases X with
      | nil => cases hb
      | cons c X =>
        cases hb
        exact h b (by simp)
    rw [hg] at hs hX
    rw [c1, if_pos hc.1] at hs
    rw [size_cons] at hX
    dsimp only at hs hX
    have hg0 : g ≠ 0 := by
      have : Red ((b.1, g) :: t) := by rw [← hg]; exact Red.red
      exact this.1
    split at hs
    · omega
    · rw [size_cons] at hs
      dsimp only at hs
      omega
theorem lt_app3 {O C : List (α × Int)} (h : Lt O) (k : Lt C) : Lt (O ++ (C ++ inv O)) := h.app (k.app h.inv)
theorem red_spelled3 (o c : List (α × Int)) (ho : Red o) : red (spelled o ++ (spelled c ++ inv (spelled o))) = red (o ++ (c ++ inv o)) := by
  refine app_congr (red_spelled o) (app_congr (red_spelled c) ?_)
  rw [← spelled_inv ho.nz, red_spelled]
theorem Core.spell {w o c : List (α × Int)} (h : Core w o c) : spelled w = spelled o ++ (spelled c ++ inv (spelled o)) ∧ Fr (spelled o ++ (spelled c ++ inv (spelled o))) := by
  have hl : Lt (spelled o ++ (spelled c ++ inv (spelled o))) := lt_app3 (Lt.spelled o) (Lt.spelled c)
  have e : red (spelled o ++ (spelled c ++ inv (spelled o))) = w := by rw [red_spelled3 o c h.ro, h.eq]
  have hf : Fr (spelled o ++ (spelled c ++ inv (spelled o))) := fr_of_size hl (by
    rw [e, h.sz, List.length_append, List.length_append, len_inv, len_spelled, len_spelled]
    omega)
  refine ⟨?_, hf⟩
  rw [← spelled_of hl hf, e]
theorem cyc_fr {c : List (α × Int)} (hr : Red c) (hc : cycb c = true) : Fr (spelled c ++ spelled c) := by
  refine fr_of_size ((Lt.spelled c).app (Lt.spelled c)) ?_
  have h := size_sq c hr
  rw [hc] at h
  have h' : size (red (c ++ c)) = 2 * size c := by simpa using h
  rw [app_congr (red_spelled c) (red_spelled c), h', List.length_append, len_spelled]
  omega
theorem fr_cyc {c : List (α × Int)} (hr : Red c) (h : Fr (spelled c ++ spelled c)) : cycb c = true := by
  rw [← size_sq c hr, decide_eq_true_eq, ← app_congr (red_spelled c) (red_spelled c), size_fr ((Lt.spelled c).app (Lt.spelled c)) h, List.length_append, len_spelled]
  omega
theorem rep_one (X : List (α × Int)) : rep 1 X = X := by simp [rep]
theorem rep_zero (X : List (α × Int)) : rep 0 X = [] := rfl
theorem rep_snoc' (n : Nat) (v : List (α × Int)) : rep n v ++ v = rep (n + 1) v := by
  induction n with
  | zero => simp [rep]
  | succ n ih => rw [rep_succ, List.append_assoc, ih, ← rep_succ]
theorem rep_head {C : List (α × Int)} (hn : C ≠ []) (n : Nat) : (rep (n + 1) C).head? = C.head? := by
  rw [rep_succ]
  cases C with
  | nil => exact absurd rfl hn
  | cons a C => rfl
theorem rep_last {C : List (α × Int)} (hn : C ≠ []) (n : Nat) : (rep (n + 1) C).getLast? = C.getLast? := by
  rw [← rep_snoc', List.getLast?_append]
  cases h : C.getLast? with
  | none => exact absurd (List.getLast?_eq_none_iff.mp h) hn
  | some a => rfl
theorem Fr.rep {C : List (α × Int)} (h : Fr (C ++ C)) : ∀ n, Fr (rep n C)
  | 0 => trivial
  | n + 1 => by
    by_cases hn : C = []
    · subst hn
      have : ∀ n, Wd.rep n ([] : List (α × Int)) = [] := fun n => by
        induction n with
        | zero => rfl
        | succ n ih => rw [rep_succ, ih]; rfl
      rw [this]
      trivial
    rw [rep_succ]
    refine Fr.app h.left (Fr.rep h n) fun a b h1 h2 => ?_
    cases n with
    | zero => cases h2
    | succ n =>
      rw [rep_head hn] at h2
      exact h.seam h1 h2
theorem inv_rep (n : Nat) (C : List (α × Int)) : inv (rep n C) = rep n (inv C) := by
  induction n with
  | zero => rfl
  | succ n ih => rw [rep_succ, inv_app, ih, rep_snoc']
theorem fr_block {O C : List (α × Int)} (h1 : Fr (O ++ (C ++ inv O))) (h2 : Fr (C ++ C)) (hn : C ≠ []) (n : Nat) : Fr (O ++ (rep (n + 1) C ++ inv O)) := by
  refine Fr.app h1.left (Fr.app (Fr.rep h2 _) h1.right.right fun a b ha hb => ?_) fun a b ha hb => ?_
  · rw [rep_last hn] at ha
    exact h1.right.seam ha hb
  · rw [List.head?_append, rep_head hn] at hb
    refine h1.seam (X := O) (Y := C ++ inv O) ha ?_
    rw [List.head?_append]
    exact hb
theorem ne_inv {C : List (α × Int)} (hl : Lt C) (h : Fr (C ++ C)) (hn : C ≠ []) : C ≠ inv C := by
  intro e
  have h1 := size_fr (hl.app hl) h
  have h2 : red (C ++ C) = [] := by
    conv => lhs; arg 1; rhs; rw [e]
    exact red_app_inv C
  rw [h2, List.length_append] at h1
  have : C.length = 0 := by
    have : size ([] : List (α × Int)) = 0 := rfl
    omega
  exact hn (List.length_eq_zero_iff.mp this)
/-! reading copies -/
def pre (W Y : List (α × Int)) : Bool := decide (Y.take W.length = W)
theorem pre_app (W Y : List (α × Int)) : pre W (W ++ Y) = true := by
  unfold pre
  rw [List.take_left]
  simp
theorem pre_nil (Y : List (α × Int)) : pre [] Y = true := by simp [pre]
theorem of_pre {W Y : List (α × Int)} (h : pre W Y = true) : Y = W ++ Y.drop W.length := by
  have h1 : Y.take W.length = W := by simpa [pre] using h
  conv => lhs; rw [← List.take_append_drop W.length Y, h1]
theorem pre_head {W Y : List (α × Int)} (h : pre W Y = true) {a : α × Int} (ha : W.head? = some a) : Y.head? = some a := by
  rw [of_pre h, List.head?_append, ha]
  rfl
theorem pre_len {V W Y : List (α × Int)} (hl : V.length = W.length) (h : pre V (W ++ Y) = true) : V = W := by
  have h1 : (W ++ Y).take V.length = V := by simpa [pre] using h
  rw [hl, List.take_left] at h1
  exact h1.symm
/-- so many copies stand there -/
def cnt (K : List (α × Int)) : Nat → List (α × Int) → Nat
  | 0, _ => 0
  | f + 1, Y => if pre K Y = true then cnt K f (Y.drop K.length) + 1 else 0
theorem cnt_le (K : List (α × Int)) : ∀ (f : Nat) (Y : List (α × Int)), Y = rep (cnt K f Y) K ++ Y.drop (cnt K f Y * K.length)
  | 0, Y => by simp [cnt, rep]
  | f + 1, Y => by
    unfold cnt
    split
    · rename_i h
      have ih := cnt_le K f (Y.drop K.length)
      rw [rep_succ, List.append_assoc, Nat.succ_mul, Nat.add_comm (_ * _), ← List.drop_drop, ← ih]
      exact of_pre h
    · simp [rep]
theorem cnt_stop {K : List (α × Int)} (hn : K ≠ []) : ∀ (f : Nat) (Y : List (α × Int)), Y.length < f → pre K (Y.drop (cnt K f Y * K.length)) = false
  | 0, Y, h => by omega
  | f + 1, Y, h => by
    have hk : 0 < K.length := List.length_pos_iff.mpr hn
    unfold cnt
    split
    · rename_i hp
      have hY := of_pre hp
      have hl : K.length ≤ Y.length := by
        have := congrArg List.length hY
        rw [List.length_append] at this
        omega
      have ih := cnt_stop hn f (Y.drop K.length) (by rw [List.length_drop]; omega)
      rw [List.drop_drop] at ih
      rw [Nat.succ_mul, Nat.add_comm (_ * _)]
      exact ih
    · rename_i hp
      simpa using hp
theorem cnt_rep {K Z : List (α × Int)} (hn : K ≠ []) (hz : pre K Z = false) : ∀ (n f : Nat), n < f → cnt K f (rep n K ++ Z) = n
  | 0, f + 1, _ => by
    show cnt K (f + 1) Z = 0
    unfold cnt
    rw [hz]
    simp
  | n + 1, f + 1, h => by
    unfold cnt
    rw [rep_succ, List.append_assoc, pre_app, if_pos rfl, List.drop_left, cnt_rep hn hz n f (by omega)]
/-- what is read at a place: how many copies, how many letters -/
def readc (O C Y : List (α × Int)) : Int × Nat :=
  if pre O Y = true then
    let Y1 := Y.drop O.length
    let sg : Int := if pre C Y1 = true then 1 else -1
    let K := if pre C Y1 = true then C else inv C
    let n := if O = [] then (if pre K Y1 = true then 1 else 0) else cnt K (Y1.length + 1) Y1
    if pre (inv O) (Y1.drop (n * K.length)) = true then (sg * n, O.length + n * K.length + O.length) else (0, 0)
  else (0, 0)
theorem readc_sound {O C Y : List (α × Int)} (h : (readc O C Y).1 ≠ 0) :
    ∃ (n : Nat) (K : List (α × Int)), 0 < n ∧ Y = O ++ (rep n K ++ inv O) ++ Y.drop (readc O C Y).2 ∧ (readc O C Y).2 = O.length + n * C.length + O.length ∧ ((K = C ∧ (readc O C Y).1 = n) ∨ (K = inv C ∧ (readc O C Y).1 = -n)) := by
  unfold readc at h ⊢
  split
  · rename_i hp
    rw [if_pos hp] at h
    have hY := of_pre hp
    dsimp only at h ⊢
    generalize hY1 : Y.drop O.length = Y1 at *
    generalize hK : (if pre C Y1 = true then C else inv C) = K at *
    have hKl : K.length = C.length := by rw [← hK]; split <;> simp [len_inv]
    generalize hn : (if O = [] then (if pre K Y1 = true then 1 else 0) else cnt K (Y1.length + 1) Y1 : Nat) = n at *
    split
    · rename_i hq
      rw [if_pos hq] at h
      have hn0 : n ≠ 0 := by
        intro z
        rw [z] at h
        simp at h
      have e1 : Y1 = rep n K ++ Y1.drop (n * K.length) := by
        rw [← hn]
        split
        · split
          · rename_i hk
            rw [rep_one, Nat.one_mul]
            exact of_pre hk
          · simp [rep]
        · exact cnt_le K _ Y1
      have e2 := of_pre hq
      rw [List.drop_drop] at e2
      refine ⟨n, K, by omega, ?_, ?_, ?_⟩
      · dsimp only
        have e3 : Y.drop (O.length + n * K.length + O.length) = Y1.drop (n * K.length + (inv O).length) := by
          rw [← hY1, List.drop_drop, len_inv]
          congr 1
          omega
        rw [e3, List.append_assoc, List.append_assoc, ← e2, ← e1]
        exact hY
      · dsimp only
        rw [hKl]
      · dsimp only
        by_cases hc : pre C Y1 = true
        · rw [if_pos hc] at hK ⊢
          exact .inl ⟨hK.symm, by omega⟩
        · rw [if_neg hc] at hK ⊢
          exact .inr ⟨hK.symm, by omega⟩
    · rename_i hq
      rw [if_neg hq] at h
      exact absurd rfl h
  · rename_i hp
    rw [if_neg hp] at h
    exact absurd rfl h
/-- a block is read whole -/
theorem readc_block {O C Z : List (α × Int)} (hO : O ≠ []) (hl : Lt C) (h1 : Fr (O ++ (C ++ inv O))) (h2 : Fr (C ++ C)) (hn : C ≠ []) (n : Nat) (pos : Bool) :
    readc O C (O ++ (rep (n + 1) (if pos = true then C else inv C) ++ inv O) ++ Z) = ((if pos = true then 1 else -1) * ((n + 1 : Nat) : Int), O.length + (n + 1) * C.length + O.length) := by
  have hin : inv C ≠ [] := fun e => hn (by rw [← inv_inv C, e]; rfl)
  have hOi : inv O ≠ [] := fun e => hO (by rw [← inv_inv O, e]; rfl)
  obtain ⟨a, ha⟩ : ∃ a, O.getLast? = some a := by
    cases h : O.getLast? with
    | none => exact absurd (List.getLast?_eq_none_iff.mp h) hO
    | some a => exact ⟨a, rfl⟩
  have hio : (inv O).head? = some (a.1, -a.2) := by rw [head_inv, ha]; rfl
  unfold readc
  rw [List.append_assoc, pre_app, if_pos rfl, List.drop_left]
  dsimp only
  -- the sign
  have sg : pre C ((rep (n + 1) (if pos = true then C else inv C) ++ inv O) ++ Z) = pos := by
    rw [rep_succ, List.append_assoc, List.append_assoc]
    cases pos with
    | true =>
      rw [if_pos rfl]
      exact pre_app _ _
    | false =>
      rw [if_neg Bool.false_ne_true]
      cases h : pre C (inv C ++ (rep n (inv C) ++ (inv O ++ Z))) with
      | false => rfl
      | true => exact absurd (pre_len (len_inv C).symm h) (ne_inv hl h2 hn)
  rw [sg]
  generalize hK : (if pos = true then C else inv C) = K
  have hKn : K ≠ [] := by rw [← hK]; split <;> assumption
  have hKl : K.length = C.length := by rw [← hK]; split <;> simp [len_inv]
  have stop : pre K (inv O ++ Z) = false := by
    cases h : pre K (inv O ++ Z) with
    | false => rfl
    | true =>
      exfalso
      obtain ⟨b, hb⟩ : ∃ b, K.head? = some b := by
        cases h : K.head? with
        | none => exact absurd (List.head?_eq_none_iff.mp h) hKn
        | some a => exact ⟨a, rfl⟩
      have h3 := pre_head h hb
      rw [List.head?_append, hio] at h3
      have h4 : (a.1, -a.2) = b := Option.some.inj h3
      cases pos with
      | true =>
        rw [if_pos rfl] at hK
        subst hK
        refine h1.seam (X := O) (Y := C ++ inv O) ha (b := b) (by rw [List.head?_append, hb]; rfl) ?_
        rw [← h4]
        exact ⟨rfl, rfl⟩
      | false =>
        rw [if_neg Bool.false_ne_true] at hK
        subst hK
        rw [head_inv] at hb
        obtain ⟨c, hc, hcb⟩ := Option.map_eq_some_iff.mp hb
        refine h1.right.seam hc hio ?_
        rw [← h4] at hcb
        have e1 := congrArg Prod.fst hcb
        have e2 := congrArg Prod.snd hcb
        dsimp only at e1 e2
        exact ⟨e1.symm, by omega⟩
  rw [if_neg hO, List.append_assoc (rep (n + 1) K), cnt_rep hKn stop (n + 1) _ (by
    rw [List.length_append, len_rep]
    have : 0 < K.length := List.length_pos_iff.mpr hKn
    have : (n + 1) * 1 ≤ (n + 1) * K.length := Nat.mul_le_mul_left _ this
    omega)]
  have e3 : (rep (n + 1) K ++ (inv O ++ Z)).drop ((n + 1) * K.length) = inv O ++ Z := by
    rw [← len_rep (n + 1) K, List.drop_left]
  rw [e3, pre_app, if_pos rfl, hKl]
/-- one copy, nothing around it -/
theorem readc_one {C Z : List (α × Int)} (hl : Lt C) (h2 : Fr (C ++ C)) (hn : C ≠ []) (pos : Bool) :
    readc [] C ((if pos = true then C else inv C) ++ Z) = ((if pos = true then 1 else -1), C.length) := by
  unfold readc
  rw [pre_nil, if_pos rfl, List.length_nil, List.drop_zero]
  dsimp only
  have sg : pre C ((if pos = true then C else inv C) ++ Z) = pos := by
    cases pos with
    | true =>
      rw [if_pos rfl]
      exact pre_app _ _
    | false =>
      rw [if_neg Bool.false_ne_true]
      cases h : pre C (inv C ++ Z) with
      | false => rfl
      | true => exact absurd (pre_len (len_inv C).symm h) (ne_inv hl h2 hn)
  rw [sg]
  generalize hK : (if pos = true then C else inv C) = K
  have hKl : K.length = C.length := by rw [← hK]; split <;> simp [len_inv]
  rw [if_pos rfl, pre_app, if_pos rfl, Nat.one_mul, List.drop_left]
  have : inv ([] : List (α × Int)) = [] := rfl
  rw [this, pre_nil, if_pos rfl, hKl]
  simp
end Wd

/-! unwinding -/
namespace Wd
variable {α : Type} [DecidableEq α]
theorem rep_congr {A B : List (α × Int)} (h : red A = red B) : ∀ n, red (rep n A) = red (rep n B)
  | 0 => rfl
  | n + 1 => by
    rw [rep_succ, rep_succ]
    exact app_congr h (rep_congr h n)
/-- the loop L = l M r, M = o c o^-1, read at the letter x; m stands for the loop -/
structure Lp (m x : α) (L l M r o c : List (α × Int)) : Prop where
  mx : m ≠ x
  rL : Red L
  eq : L = l ++ (M ++ r)
  Lm : ∀ q ∈ L, q.1 ≠ m
  lx : ∀ q ∈ l, q.1 ≠ x
  rx : ∀ q ∈ r, q.1 ≠ x
  hd : ∃ q, M.head? = some q ∧ q.1 = x
  lst : ∃ q, M.getLast? = some q ∧ q.1 = x
  core : Core M o c
def turnW (m : α) (l r : List (α × Int)) : List (α × Int) := red (inv l ++ ([(m, 1)] ++ inv r))
def unw (x : α) (O C T : List (α × Int)) : Nat → List (α × Int) → Option (List (α × Int))
  | 0, _ => none
  | _ + 1, [] => some []
  | f + 1, a :: Y => if a.1 ≠ x then (unw x O C T f Y).map (a :: ·)
    else if (readc O C (a :: Y)).1 = 0 then none else (unw x O C T f ((a :: Y).drop (readc O C (a :: Y)).2)).map (pw T (readc O C (a :: Y)).1 ++ ·)
section
variable {m x : α} {L l M r o c : List (α × Int)}
theorem Lp.rM (h : Lp m x L l M r o c) : Red M := by
  have := h.rL
  rw [h.eq] at this
  exact this.right.left
theorem Lp.Mn (h : Lp m x L l M r o c) : M ≠ [] := by
  obtain ⟨q, hq, _⟩ := h.hd
  intro e
  rw [e] at hq
  cases hq
theorem Lp.cn (h : Lp m x L l M r o c) : c ≠ [] := by
  intro e
  have h1 := h.core.eq
  rw [e, List.nil_append, red_app_inv] at h1
  exact h.Mn h1.symm
theorem Lp.Cn (h : Lp m x L l M r o c) : spelled c ≠ [] := by
  intro e
  have h1 := len_spelled c
  rw [e, List.length_nil] at h1
  exact h.cn (by
    have := size_pos h.core.rc h.cn
    omega)
theorem Lp.lm (h : Lp m x L l M r o c) : ∀ q ∈ l, q.1 ≠ m := fun q hq => h.Lm q (by rw [h.eq]; simp [hq])
theorem Lp.rm (h : Lp m x L l M r o c) : ∀ q ∈ r, q.1 ≠ m := fun q hq => h.Lm q (by rw [h.eq]; simp [hq])
theorem Lp.Mm (h : Lp m x L l M r o c) : ∀ q ∈ M, q.1 ≠ m := fun q hq => h.Lm q (by rw [h.eq]; simp [hq])
theorem sub_m (m : α) (im : List (α × Int)) : sub m im [(m, 1)] = red im := by
  unfold sub
  show red (put m im (m, 1) ++ []) = _
  rw [List.append_nil]
  unfold put
  rw [if_pos rfl]
  show red (red (rep 1 im)) = _
  rw [red_red, rep_one]
theorem no_inv' {m : α} {u : List (α × Int)} (h : ∀ r ∈ u, r.1 ≠ m) : ∀ r ∈ inv u, r.1 ≠ m := no_inv h
/-- the turn stands for the middle -/
theorem Lp.turn (h : Lp m x L l M r o c) : sub m L (turnW m l r) = M := by
  unfold turnW
  rw [sub_red, sub_app, sub_app m L [(m, 1)], sub_none' (no_inv h.lm), sub_none' (no_inv h.rm), sub_m, red_of h.rL]
  rw [red_red_app, red_app_red, h.eq]
  rw [show inv l ++ (l ++ (M ++ r) ++ red (inv r)) = inv l ++ (l ++ ((M ++ r) ++ red (inv r))) by simp]
  rw [cancel_l]
  rw [red_app_red, List.append_assoc, red_app, show red (r ++ inv r) = [] from red_app_inv r]
  exact red_of h.rM
theorem Lp.turnx (h : Lp m x L l M r o c) : ∀ q ∈ turnW m l r, q.1 ≠ x := by
  intro q hq
  unfold turnW at hq
  obtain ⟨y, hy, e⟩ := red_mem hq
  rw [← e]
  rcases List.mem_append.mp hy with hy | hy
  · exact no_inv h.lx y hy
  · rcases List.mem_append.mp hy with hy | hy
    · rw [List.mem_singleton] at hy
      rw [hy]
      exact h.mx
    · exact no_inv h.rx y hy
theorem pw_no {x : α} {T : List (α × Int)} (h : ∀ q ∈ T, q.1 ≠ x) (n : Int) : ∀ q ∈ pw T n, q.1 ≠ x := by
  intro q hq
  unfold pw at hq
  obtain ⟨y, hy, e⟩ := red_mem hq
  rw [← e]
  unfold rep at hy
  obtain ⟨l, hl, hy⟩ := List.mem_flatten.mp hy
  obtain ⟨_, rfl⟩ := List.mem_replicate.mp hl
  split at hy
  · exact h y hy
  · exact no_inv h y hy
theorem pw_spelled (c : List (α × Int)) (hc : Red c) (n : Nat) : red (rep n (spelled c)) = pw c n ∧ red (rep n (inv (spelled c))) = pw c (-n) := by
  constructor
  · rw [pw_nat]
    exact rep_congr (red_spelled c) n
  · rw [pw_neg]
    refine rep_congr ?_ n
    rw [← spelled_inv hc.nz, red_spelled]
theorem red_blk (h : Core M o c) (e : Int) (n : Nat) (K : List (α × Int)) (hK : (K = spelled c ∧ e = (n : Int)) ∨ (K = inv (spelled c) ∧ e = -(n : Int))) : red (spelled o ++ (rep n K ++ inv (spelled o))) = pw M e := by
  rw [← h.eq, pw_conj]
  have hk : red (rep n K) = red (pw c e) := by
    rw [red_of Red.pw]
    rcases hK with ⟨rfl, rfl⟩ | ⟨rfl, rfl⟩
    · exact (pw_spelled c h.rc n).1
    · exact (pw_spelled c h.rc n).2
  refine app_congr (red_spelled o) (app_congr hk ?_)
  rw [← spelled_inv h.ro.nz, red_spelled]
theorem sub_pw' (m : α) (L T : List (α × Int)) (e : Int) : sub m L (pw T e) = pw (sub m L T) e := sub_pw m L T e
theorem unw_sound (h : Lp m x L l M r o c) : ∀ (f : Nat) (Y R : List (α × Int)), (∀ q ∈ Y, q.1 ≠ m) → unw x (spelled o) (spelled c) (turnW m l r) f Y = some R → (∀ q ∈ R, q.1 ≠ x) ∧ sub m L R = red Y
  | 0, Y, R, hY, e => by cases e
  | f + 1, [], R, hY, e => by
    cases e
    exact ⟨fun q hq => (by cases hq), rfl⟩
  | f + 1, a :: Y, R, hY, e => by
    unfold unw at e
    split at e
    · rename_i ha
      obtain ⟨R', hR, rfl⟩ := Option.map_eq_some_iff.mp e
      obtain ⟨i1, i2⟩ := unw_sound h f Y R' (fun q hq => hY q (by simp [hq])) hR
      refine ⟨fun q hq => ?_, ?_⟩
      · rcases List.mem_cons.mp hq with rfl | hq
        · exact ha
        · exact i1 q hq
      · rw [show a :: R' = [a] ++ R' from rfl, sub_app, i2, show a :: Y = [a] ++ Y from rfl]
        rw [sub_none' (w := [a]) (fun q hq => by rw [List.mem_singleton] at hq; rw [hq]; exact hY a (by simp))]
        rw [red_red_app, red_app_red]
    · rename_i ha
      split at e
      · cases e
      · rename_i hc
        obtain ⟨R', hR, rfl⟩ := Option.map_eq_some_iff.mp e
        obtain ⟨n, K, hn, hY', hlen, hK⟩ := readc_sound hc
        generalize readc (spelled o) (spelled c) (a :: Y) = rc at *
        obtain ⟨ct, k⟩ := rc
        dsimp only at *
        have hYd : ∀ q ∈ (a :: Y).drop k, q.1 ≠ m := fun q hq => hY q (List.mem_of_mem_drop hq)
        obtain ⟨i1, i2⟩ := unw_sound h f _ R' hYd hR
        refine ⟨fun q hq => ?_, ?_⟩
        · rcases List.mem_append.mp hq with hq | hq
          · exact pw_no h.turnx _ q hq
          · exact i1 q hq
        · rw [sub_app, sub_pw', h.turn, i2]
          have hb := red_blk h.core ct n K hK
          rw [← hb, red_red_app, red_app_red, ← hY']
/-- the letters of a word in which m stands for the middle -/
def blk (O C : List (α × Int)) (e : Int) : List (α × Int) := O ++ (rep e.natAbs (if decide (0 < e) = true then C else inv C) ++ inv O)
def blks (m : α) (O C W : List (α × Int)) : List (α × Int) := W.flatMap fun q => if q.1 = m then blk O C q.2 else spell1 q
theorem Lp.O_head (h : Lp m x L l M r o c) (hO : spelled o ≠ []) : ∃ s, (spelled o).head? = some (x, s) := by
  obtain ⟨q, hq, hx⟩ := h.hd
  have h1 := h.core.spell.1
  cases hM : M with
  | nil => exact absurd hM h.Mn
  | cons a t =>
    rw [hM] at hq h1
    cases hq
    have h2 := spelled_head (r := q) (w := t) (by have := h.rM; rw [hM] at this; exact this.1)
    rw [h1, List.head?_append] at h2
    cases hh : (spelled o).head? with
    | none => exact absurd (List.head?_eq_none_iff.mp hh) hO
    | some b =>
      rw [hh] at h2
      have h3 : b = (q.1, _) := Option.some.inj h2
      rw [h3, hx]
      exact ⟨_, rfl⟩
theorem Lp.C_head (h : Lp m x L l M r o c) (hO : spelled o = []) : (∃ s, (spelled c).head? = some (x, s)) ∧ ∃ s, (spelled c).getLast? = some (x, s) := by
  have h1 := h.core.spell.1
  rw [hO] at h1
  have e : inv ([] : List (α × Int)) = [] := rfl
  rw [e, List.nil_append, List.append_nil] at h1
  rw [← h1]
  constructor
  · obtain ⟨q, hq, hx⟩ := h.hd
    cases hM : M with
    | nil => exact absurd hM h.Mn
    | cons a t =>
      rw [hM] at hq
      cases hq
      rw [spelled_head (by have := h.rM; rw [hM] at this; exact this.1), hx]
      exact ⟨_, rfl⟩
  · obtain ⟨q, hq, hx⟩ := h.lst
    obtain rfl | ⟨t, b, hM⟩ := List.eq_nil_or_concat M
    · exact absurd rfl h.Mn
    · rw [List.concat_eq_append] at hM
      rw [hM, List.getLast?_concat] at hq
      cases hq
      rw [hM, spelled_last (by have := h.rM; rw [hM] at this; exact this.right.1), hx]
      exact ⟨_, rfl⟩
/-- the ends of a block are the letter -/
theorem Lp.blk_ends (h : Lp m x L l M r o c) {e : Int} (he : e ≠ 0) : (∃ s, (blk (spelled o) (spelled c) e).head? = some (x, s)) ∧ ∃ s, (blk (spelled o) (spelled c) e).getLast? = some (x, s) := by
  obtain ⟨n, hn⟩ : ∃ n, e.natAbs = n + 1 := ⟨e.natAbs - 1, by omega⟩
  unfold blk
  rw [hn]
  by_cases hO : spelled o = []
  · obtain ⟨⟨s1, h1⟩, s2, h2⟩ := h.C_head hO
    have hK : ∀ K : List (α × Int), (K = spelled c ∨ K = inv (spelled c)) → K ≠ [] ∧ (∃ s, K.head? = some (x, s)) ∧ ∃ s, K.getLast? = some (x, s) := by
      rintro K (rfl | rfl)
      · exact ⟨h.Cn, ⟨s1, h1⟩, s2, h2⟩
      · refine ⟨fun e => h.Cn (by rw [← inv_inv (spelled c), e]; rfl), ⟨-s2, by rw [head_inv, h2]; rfl⟩, -s1, by rw [last_inv, h1]; rfl⟩
    obtain ⟨k1, ⟨s3, k2⟩, s4, k3⟩ := hK (if decide (0 < e) = true then spelled c else inv (spelled c)) (by split <;> simp)
    rw [hO]
    have e0 : inv ([] : List (α × Int)) = [] := rfl
    rw [e0, List.nil_append, List.append_nil, rep_head k1, rep_last k1]
    exact ⟨⟨s3, k2⟩, s4, k3⟩
  · obtain ⟨s, hs⟩ := h.O_head hO
    constructor
    · refine ⟨s, ?_⟩
      rw [List.head?_append, hs]
      rfl
    · refine ⟨-s, ?_⟩
      rw [List.getLast?_append, List.getLast?_append, last_inv, hs]
      rfl
theorem Lp.blk_fr (h : Lp m x L l M r o c) {e : Int} (he : e ≠ 0) : Fr (blk (spelled o) (spelled c) e) ∧ Lt (blk (spelled o) (spelled c) e) := by
  obtain ⟨n, hn⟩ : ∃ n, e.natAbs = n + 1 := ⟨e.natAbs - 1, by omega⟩
  have h1 := h.core.spell.2
  have h2 := cyc_fr h.core.rc h.core.cy
  unfold blk
  rw [hn]
  constructor
  · split
    · exact fr_block h1 h2 h.Cn n
    · have h3 := (fr_block h1 h2 h.Cn n).inv
      rw [inv_app, inv_app, inv_inv, inv_rep, List.append_assoc] at h3
      exact h3
  · refine lt_app3 (Lt.spelled o) (Lt.rep ?_ _)
    split
    · exact Lt.spelled c
    · exact (Lt.spelled c).inv
theorem spell1_ne {q : α × Int} (h : q.2 ≠ 0) : spell1 q ≠ [] := by
  intro e
  have := spell1_head h
  rw [e] at this
  cases this
theorem Lp.blks_fr (h : Lp m x L l M r o c) : ∀ {W : List (α × Int)}, Red W → (∀ q ∈ W, q.1 ≠ x) → Fr (blks m (spelled o) (spelled c) W) ∧ Lt (blks m (spelled o) (spelled c) W) ∧
    (∀ q ∈ W.head?, ∃ b, (blks m (spelled o) (spelled c) W).head? = some b ∧ b.1 = if q.1 = m then x else q.1)
  | [], _, _ => ⟨trivial, Lt.nil, fun q hq => by cases hq⟩
  | q :: W, hW, hx => by
    obtain ⟨i1, i2, i3⟩ := h.blks_fr hW.2.2 fun y hy => hx y (by simp [hy])
    have hq : q.2 ≠ 0 := hW.1
    have hqx := hx q (by simp)
    have e : blks m (spelled o) (spelled c) (q :: W) = (if q.1 = m then blk (spelled o) (spelled c) q.2 else spell1 q) ++ blks m (spelled o) (spelled c) W := by
      unfold blks
      rw [List.flatMap_cons]
    rw [e]
    -- the piece
    have hp : ∃ P, (if q.1 = m then blk (spelled o) (spelled c) q.2 else spell1 q) = P ∧ Fr P ∧ Lt P ∧ (∃ b, P.head? = some b ∧ b.1 = if q.1 = m then x else q.1) ∧ ∃ b, P.getLast? = some b ∧ b.1 = if q.1 = m then x else q.1 := by
      refine ⟨_, rfl, ?_⟩
      split
      · obtain ⟨⟨s1, h1⟩, s2, h2⟩ := h.blk_ends hq
        obtain ⟨h3, h4⟩ := h.blk_fr hq
        exact ⟨h3, h4, ⟨_, h1, rfl⟩, _, h2, rfl⟩
      · exact ⟨Fr.spell1 q, Lt.spell1 q, ⟨_, spell1_head hq, rfl⟩, _, spell1_last hq, rfl⟩
    obtain ⟨P, hP, p1, p2, ⟨b1, p3, p4⟩, b2, p5, p6⟩ := hp
    rw [hP]
    refine ⟨Fr.app p1 i1 fun u v hu hv => ?_, p2.app i2, fun y hy => ?_⟩
    · rw [p5] at hu
      cases hu
      cases W with
      | nil => cases hv
      | cons q2 W =>
        obtain ⟨b3, h5, h6⟩ := i3 q2 rfl
        rw [h5] at hv
        cases hv
        have hne := hW.2.1 q2 rfl
        have hq2x := hx q2 (by simp)
        intro hh
        have h7 := hh.1
        rw [p6, h6] at h7
        split at h7 <;> split at h7
        · rename_i a b
          exact hne (a.trans b.symm)
        · exact hqx h7.symm
        · exact hq2x h7
        · exact hne h7
    · cases hy
      refine ⟨b1, ?_, p4⟩
      rw [List.head?_append, p3]
      rfl
theorem Lp.blks_red (h : Lp m x L l M r o c) (W : List (α × Int)) : red (blks m (spelled o) (spelled c) W) = sub m M W := by
  unfold blks sub
  refine flat_congr (fun q => ?_) W
  unfold put
  split
  · unfold blk
    rw [red_of Red.pw]
    refine red_blk h.core q.2 _ _ ?_
    by_cases hp : 0 < q.2
    · rw [if_pos (by simpa using hp)]
      exact .inl ⟨rfl, by omega⟩
    · rw [if_neg (by simpa using hp)]
      exact .inr ⟨rfl, by omega⟩
  · exact red_spell1 q
/-- one block is read -/
theorem Lp.unw_blk (h : Lp m x L l M r o c) {e : Int} (he : e ≠ 0) {Z V : List (α × Int)}
    (hZ : ∀ f, Z.length < f → ∃ R, unw x (spelled o) (spelled c) (turnW m l r) f Z = some R ∧ red R = V) : ∀ f, (blk (spelled o) (spelled c) e ++ Z).length < f →
      ∃ R, unw x (spelled o) (spelled c) (turnW m l r) f (blk (spelled o) (spelled c) e ++ Z) = some R ∧ red R = red (pw (turnW m l r) e ++ V) := by
  have h1 := h.core.spell.2
  have h2 := cyc_fr h.core.rc h.core.cy
  have hl : Lt (spelled c) := Lt.spelled c
  by_cases hO : spelled o = []
  · obtain ⟨⟨s1, hc1⟩, s2, hc2⟩ := h.C_head hO
    have e0 : inv ([] : List (α × Int)) = [] := rfl
    have key : ∀ (pos : Bool) (n f : Nat), (rep n (if pos = true then spelled c else inv (spelled c)) ++ Z).length < f →
        ∃ R, unw x (spelled o) (spelled c) (turnW m l r) f (rep n (if pos = true then spelled c else inv (spelled c)) ++ Z) = some R ∧ red R = red (pw (turnW m l r) ((if pos = true then 1 else -1) * (n : Int)) ++ V) := by
      intro pos n
      induction n with
      | zero =>
        intro f hf
        obtain ⟨R, hR, hv⟩ := hZ f (by simpa [rep] using hf)
        refine ⟨R, hR, ?_⟩
        rw [show ((if pos = true then (1 : Int) else -1) * ((0 : Nat) : Int)) = 0 by simp, pw_zero, List.nil_append, ← hv, red_red]
      | succ n ih =>
        intro f hf
        have hcl : (if pos = true then spelled c else inv (spelled c)).length = (spelled c).length := by split <;> simp [len_inv]
        have hcp : 0 < (spelled c).length := List.length_pos_iff.mpr h.Cn
        rw [rep_succ, List.append_assoc] at hf ⊢
        obtain ⟨a, Y, hY, ha⟩ : ∃ a Y, (if pos = true then spelled c else inv (spelled c)) ++ (rep n (if pos = true then spelled c else inv (spelled c)) ++ Z) = a :: Y ∧ a.1 = x := by
          have hh : ∃ s, ((if pos = true then spelled c else inv (spelled c)) ++ (rep n (if pos = true then spelled c else inv (spelled c)) ++ Z)).head? = some (x, s) := by
            rw [List.head?_append]
            split
            · rw [hc1]; exact ⟨_, rfl⟩
            · rw [head_inv, hc2]; exact ⟨_, rfl⟩
          obtain ⟨s, hs⟩ := hh
          generalize (if pos = true then spelled c else inv (spelled c)) ++ (rep n (if pos = true then spelled c else inv (spelled c)) ++ Z) = U at hs
          cases U with
          | nil => cases hs
          | cons a Y =>
            cases hs
            exact ⟨_, Y, rfl, rfl⟩
        have rc := readc_one (Z := rep n (if pos = true then spelled c else inv (spelled c)) ++ Z) hl h2 h.Cn pos
        cases f with
        | zero => exact absurd hf (Nat.not_lt_zero _)
        | succ f =>
          rw [List.length_append] at hf
          obtain ⟨R, hR, hv⟩ := ih f (by omega)
          refine ⟨pw (turnW m l r) (if pos = true then 1 else -1) ++ R, ?_, ?_⟩
          · rw [hO] at hR ⊢
            rw [hY] at rc ⊢
            unfold unw
            rw [if_neg (by rw [ha]; simp), rc]
            dsimp only
            rw [if_neg (by split <;> omega)]
            rw [← hY, ← hcl, List.drop_left, hR]
            rfl
          · rw [← red_app_red, hv, red_app_red, ← List.append_assoc, ← red_red_app, pw_add]
            congr 3
            push_cast
            split <;> omega
    intro f hf
    unfold blk at hf ⊢
    rw [hO, e0, List.nil_append, List.append_nil] at hf ⊢
    rw [← hO]
    obtain ⟨R, hR, hv⟩ := key (decide (0 < e)) e.natAbs f hf
    refine ⟨R, hR, ?_⟩
    rw [hv]
    congr 3
    by_cases hp : 0 < e
    · rw [if_pos (by simpa using hp)]; omega
    · rw [if_neg (by simpa using hp)]; omega
  · intro f hf
    obtain ⟨s, hs⟩ := h.O_head hO
    obtain ⟨n, hn⟩ : ∃ n, e.natAbs = n + 1 := ⟨e.natAbs - 1, by omega⟩
    have hbl : (blk (spelled o) (spelled c) e).length = (spelled o).length + (n + 1) * (spelled c).length + (spelled o).length := by
      unfold blk
      rw [hn, List.length_append, List.length_append, len_rep, len_inv]
      have : (if decide (0 < e) = true then spelled c else inv (spelled c)).length = (spelled c).length := by split <;> simp [len_inv]
      rw [this]
      omega
    have rc := readc_block (Z := Z) hO hl h1 h2 h.Cn n (decide (0 < e))
    have hop : 0 < (spelled o).length := List.length_pos_iff.mpr hO
    have e1 : (if decide (0 < e) = true then (1 : Int) else -1) * ((n + 1 : Nat) : Int) = e := by
      by_cases hp : 0 < e
      · rw [if_pos (by simpa using hp)]; omega
      · rw [if_neg (by simpa using hp)]; omega
    rw [e1] at rc
    have hB : spelled o ++ (rep (n + 1) (if decide (0 < e) = true then spelled c else inv (spelled c)) ++ inv (spelled o)) = blk (spelled o) (spelled c) e := by
      unfold blk
      rw [hn]
    rw [hB] at rc
    obtain ⟨a, Y, hY, ha⟩ : ∃ a Y, blk (spelled o) (spelled c) e ++ Z = a :: Y ∧ a.1 = x := by
      obtain ⟨⟨s, hs⟩, _⟩ := h.blk_ends he
      cases hU : blk (spelled o) (spelled c) e with
      | nil =>
        rw [hU] at hs
        cases hs
      | cons a Y =>
        rw [hU] at hs
        cases hs
        exact ⟨_, _, rfl, rfl⟩
    cases f with
    | zero => exact absurd hf (Nat.not_lt_zero _)
    | succ f =>
      rw [List.length_append] at hf
      obtain ⟨R, hR, hv⟩ := hZ f (by omega)
      refine ⟨pw (turnW m l r) e ++ R, ?_, ?_⟩
      · rw [hY] at rc ⊢
        unfold unw
        rw [if_neg (by rw [ha]; simp), rc]
        dsimp only
        rw [if_neg he]
        rw [← hY, ← hbl, List.drop_left, hR]
        rfl
      · rw [← red_app_red, hv]
theorem Lp.unw_spell1 (h : Lp m x L l M r o c) {q : α × Int} (hx : q.1 ≠ x) {Z V : List (α × Int)}
    (hZ : ∀ f, Z.length < f → ∃ R, unw x (spelled o) (spelled c) (turnW m l r) f Z = some R ∧ red R = V) : ∀ f, (spell1 q ++ Z).length < f →
      ∃ R, unw x (spelled o) (spelled c) (turnW m l r) f (spell1 q ++ Z) = some R ∧ red R = red (spell1 q ++ V) := by
  unfold spell1
  generalize q.2.natAbs = n
  induction n with
  | zero =>
    intro f hf
    obtain ⟨R, hR, hv⟩ := hZ f (by simpa using hf)
    exact ⟨R, hR, by rw [List.replicate_zero, List.nil_append, ← hv, red_red]⟩
  | succ n ih =>
    intro f hf
    rw [List.replicate_succ, List.cons_append] at hf ⊢
    cases f with
    | zero => exact absurd hf (Nat.not_lt_zero _)
    | succ f =>
      rw [List.length_cons] at hf
      obtain ⟨R, hR, hv⟩ := ih f (by omega)
      refine ⟨(q.1, if q.2 < 0 then -1 else 1) :: R, ?_, ?_⟩
      · unfold unw
        rw [if_pos hx, hR]
        rfl
      · show cons _ (red R) = red (_ :: (_ ++ V))
        rw [hv]
        show _ = cons _ (red (_ ++ V))
        rfl
theorem Lp.unw_blks (h : Lp m x L l M r o c) : ∀ (W : List (α × Int)), Red W → (∀ q ∈ W, q.1 ≠ x) → ∀ f, (blks m (spelled o) (spelled c) W).length < f →
    ∃ R, unw x (spelled o) (spelled c) (turnW m l r) f (blks m (spelled o) (spelled c) W) = some R ∧ red R = sub m (turnW m l r) W
  | [], _, _, f, hf => by
    cases f with
    | zero => exact absurd hf (Nat.not_lt_zero _)
    | succ f => exact ⟨[], rfl, rfl⟩
  | q :: W, hW, hx, f, hf => by
    have ih := h.unw_blks W hW.2.2 fun y hy => hx y (by simp [hy])
    have e : blks m (spelled o) (spelled c) (q :: W) = (if q.1 = m then blk (spelled o) (spelled c) q.2 else spell1 q) ++ blks m (spelled o) (spelled c) W := by
      unfold blks
      rw [List.flatMap_cons]
    rw [e] at hf ⊢
    have e2 : sub m (turnW m l r) (q :: W) = red (put m (turnW m l r) q ++ sub m (turnW m l r) W) := by
      unfold sub
      rw [List.flatMap_cons, red_app_red]
    rw [e2]
    unfold put
    split
    · rename_i hq
      rw [if_pos hq] at hf
      exact h.unw_blk hW.1 ih f hf
    · rename_i hq
      rw [if_neg hq] at hf
      obtain ⟨R, hR, hv⟩ := h.unw_spell1 (hx q (by simp)) ih f hf
      refine ⟨R, hR, ?_⟩
      rw [hv]
      exact app_congr (red_spell1 q) rfl
/-- what the reading gives is right -/
theorem Lp.unw_right (h : Lp m x L l M r o c) {w R : List (α × Int)} {f : Nat} (hw : Red w) (hm : ∀ q ∈ w, q.1 ≠ m) (e : unw x (spelled o) (spelled c) (turnW m l r) f (spelled w) = some R) :
    (∀ q ∈ red R, q.1 ≠ x) ∧ sub m L (red R) = w := by
  obtain ⟨h1, h2⟩ := unw_sound h f _ R (fun q hq => by
    unfold spelled at hq
    obtain ⟨y, hy, hq⟩ := List.mem_flatMap.mp hq
    unfold spell1 at hq
    obtain ⟨_, rfl⟩ := List.mem_replicate.mp hq
    exact hm y hy) e
  refine ⟨fun q hq => ?_, by rw [sub_red, h2, red_spelled, red_of hw]⟩
  obtain ⟨y, hy, e⟩ := red_mem hq
  rw [← e]
  exact h1 y hy
/-- and what can be given is given -/
theorem Lp.unw_all (h : Lp m x L l M r o c) {t : List (α × Int)} (ht : Red t) (hx : ∀ q ∈ t, q.1 ≠ x) {f : Nat} (hf : (spelled (sub m L t)).length < f) :
    ∃ R, unw x (spelled o) (spelled c) (turnW m l r) f (spelled (sub m L t)) = some R ∧ red R = t := by
  have k1 : sub m M (red (l ++ ([(m, 1)] ++ r))) = L := by
    rw [sub_red, sub_app, sub_app m M [(m, 1)], sub_none' h.lm, sub_none' h.rm, sub_m, red_app_red, red_red_app, red_of h.rM, red_app, red_app, red_red, ← red_app, ← red_app, ← h.eq, red_of h.rL]
  have k2 : sub m (turnW m l r) (red (l ++ ([(m, 1)] ++ r))) = [(m, 1)] := by
    rw [sub_red, sub_app, sub_app m _ [(m, 1)], sub_none' h.lm, sub_none' h.rm, sub_m]
    unfold turnW
    refine to_act (v := [(m, 1)]) ⟨by simp, by simp, trivial⟩ ?_
    simp (config := { maxDischargeDepth := 40 }) only [act_app, a_red, a_ired, a_r, a_l, a_Red, a_nil, a_e, inv_app, inv_inv]
  have kx : ∀ q ∈ sub m (red (l ++ ([(m, 1)] ++ r))) t, q.1 ≠ x := by
    intro q hq
    unfold sub at hq
    obtain ⟨y, hy, e⟩ := red_mem hq
    rw [← e]
    obtain ⟨z, hz, hy⟩ := List.mem_flatMap.mp hy
    unfold put at hy
    split at hy
    · refine pw_no (fun q hq => ?_) _ y hy
      obtain ⟨y, hy, e⟩ := red_mem hq
      rw [← e]
      rcases List.mem_append.mp hy with hy | hy
      · exact h.lx y hy
      · rcases List.mem_append.mp hy with hy | hy
        · rw [List.mem_singleton] at hy
          rw [hy]
          exact h.mx
        · exact h.rx y hy
    · rw [List.mem_singleton] at hy
      rw [hy]
      exact hx z hz
  have hb := h.blks_fr (W := sub m (red (l ++ ([(m, 1)] ++ r))) t) Red.red kx
  have e1 : spelled (sub m L t) = blks m (spelled o) (spelled c) (sub m (red (l ++ ([(m, 1)] ++ r))) t) := by
    rw [← spelled_of hb.2.1 hb.1, h.blks_red, sub_sub, k1]
  rw [e1] at hf ⊢
  have hWr : Red (sub m (red (l ++ ([(m, 1)] ++ r))) t) := Red.red
  have k3 : sub m (turnW m l r) (sub m (red (l ++ ([(m, 1)] ++ r))) t) = t := by rw [sub_sub, k2, sub_one m ht]
  generalize sub m (red (l ++ ([(m, 1)] ++ r))) t = W at *
  obtain ⟨R, hR, hv⟩ := h.unw_blks W hWr kx f hf
  exact ⟨R, hR, by rw [hv, k3]⟩
end
end Wd

/-! walks: a loop drawn as a stem and a circle, and what comes back to the start -/
namespace Wd
variable {α : Type} [DecidableEq α]
abbrev Edge (α : Type) := Nat × (α × Int) × Nat
def edg (low : Nat) : Nat → List (α × Int) → List (Edge α)
  | _, [] => []
  | k, [a] => [(k, a, low)]
  | k, a :: b :: R => (k, a, k + 1) :: edg low (k + 1) (b :: R)
def toE (low n k : Nat) : Nat := if k + 1 = n then low else k + 1
theorem edg_mem (low : Nat) : ∀ (R : List (α × Int)) (k0 : Nat) (e : Edge α), e ∈ edg low k0 R → ∃ k, R[k]? = some e.2.1 ∧ e.1 = k0 + k ∧ e.2.2 = (if k + 1 = R.length then low else k0 + k + 1)
  | [], _, e, h => nomatch h
  | [a], k0, e, h => by
    unfold edg at h
    rw [List.mem_singleton] at h
    subst h
    exact ⟨0, rfl, rfl, rfl⟩
  | a :: b :: R, k0, e, h => by
    unfold edg at h
    rcases List.mem_cons.mp h with rfl | h
    · exact ⟨0, rfl, rfl, by rw [if_neg (by simp)]⟩
    · obtain ⟨k, h1, h2, h3⟩ := edg_mem low (b :: R) (k0 + 1) e h
      refine ⟨k + 1, by simpa using h1, by omega, ?_⟩
      rw [h3]
      simp only [List.length_cons]
      split
      · rw [if_pos (by omega)]
      · rw [if_neg (by omega)]
        omega
theorem mem_edg (low : Nat) : ∀ (R : List (α × Int)) (k0 k : Nat) (a : α × Int), R[k]? = some a → (k0 + k, a, if k + 1 = R.length then low else k0 + k + 1) ∈ edg low k0 R
  | [], _, _, _, h => by simp at h
  | [a], k0, k, b, h => by
    cases k with
    | zero => cases h; simp [edg]
    | succ k => simp at h
  | a :: b :: R, k0, k, c, h => by
    unfold edg
    cases k with
    | zero =>
      cases h
      rw [if_neg (by simp)]
      exact List.mem_cons_self
    | succ k =>
      have h1 := mem_edg low (b :: R) (k0 + 1) k c (by simpa using h)
      refine List.mem_cons_of_mem _ ?_
      have e1 : k0 + (k + 1) = k0 + 1 + k := by omega
      have e2 : (k + 1 + 1 = (a :: b :: R).length) = (k + 1 = (b :: R).length) := by simp
      rw [e1]
      simp only [e2]
      exact h1
def pick1 (at' : Nat) (it : α × Int) (acc : Option Nat) (e : Edge α) : Option Nat :=
  if e.2.2 = at' ∧ e.2.1 = (it.1, 0 - it.2) then some e.1 else if e.1 = at' ∧ e.2.1 = it then some e.2.2 else acc
def pick (es : List (Edge α)) (at' : Nat) (it : α × Int) (acc : Option Nat) : Option Nat := es.foldl (pick1 at' it) acc
def Fits (e : Edge α) (at' : Nat) (it : α × Int) (to : Nat) : Prop := (e.1 = at' ∧ e.2.1 = it ∧ e.2.2 = to) ∨ (e.2.2 = at' ∧ e.2.1 = (it.1, 0 - it.2) ∧ e.1 = to)
theorem pick_of : ∀ (es : List (Edge α)) (at' : Nat) (it : α × Int) (acc : Option Nat) (to : Nat), pick es at' it acc = some to → acc = some to ∨ ∃ e ∈ es, Fits e at' it to
  | [], _, _, _, _, h => .inl h
  | e :: es, at', it, acc, to, h => by
    rcases pick_of es at' it _ to h with h1 | ⟨e', h1, h2⟩
    · unfold pick1 at h1
      split at h1
      · rename_i hh
        exact .inr ⟨e, by simp, .inr ⟨hh.1, hh.2, Option.some.inj h1⟩⟩
      · split at h1
        · rename_i hh
          exact .inr ⟨e, by simp, .inl ⟨hh.1, hh.2, Option.some.inj h1⟩⟩
        · exact .inl h1
    · exact .inr ⟨e', List.mem_cons_of_mem _ h1, h2⟩
theorem pick_none : ∀ (es : List (Edge α)) (at' : Nat) (it : α × Int) (acc : Option Nat), pick es at' it acc = none → (acc = none) ∧ ∀ e ∈ es, ∀ to, ¬ Fits e at' it to
  | [], _, _, _, h => ⟨h, fun e he => nomatch he⟩
  | e :: es, at', it, acc, h => by
    obtain ⟨h1, h2⟩ := pick_none es at' it _ h
    unfold pick1 at h1
    split at h1
    · cases h1
    · rename_i n1
      split at h1
      · cases h1
      · rename_i n2
        refine ⟨h1, fun e' he' to => ?_⟩
        rcases List.mem_cons.mp he' with rfl | he'
        · rintro (⟨a, b, _⟩ | ⟨a, b, _⟩)
          · exact n2 ⟨a, b⟩
          · exact n1 ⟨a, b⟩
        · exact h2 e' he' to
theorem pick_to {es : List (Edge α)} {at' : Nat} {it : α × Int} {acc : Option Nat} {to : Nat} (h : ∃ e ∈ es, Fits e at' it to) (u : ∀ e ∈ es, ∀ t, Fits e at' it t → t = to) (ha : acc = none ∨ acc = some to) : pick es at' it acc = some to := by
  cases hp : pick es at' it acc with
  | none =>
    obtain ⟨e, he, hf⟩ := h
    exact absurd hf ((pick_none es at' it acc hp).2 e he to)
  | some t =>
    rcases pick_of es at' it acc t hp with h1 | ⟨e, he, hf⟩
    · rcases ha with ha | ha
      · rw [ha] at h1; cases h1
      · rw [ha] at h1
        exact h1.symm
    · rw [u e he t hf]
def stepE (es : List (Edge α)) (x : α) (at' : Nat) (it : α × Int) : Option Nat := pick es at' it (if at' = 0 ∧ it.1 ≠ x then some 0 else none)
def runE (es : List (Edge α)) (x : α) : Nat → List (α × Int) → Option Nat
  | k, [] => some k
  | k, it :: Y => match stepE es x k it with
    | none => none
    | some to => runE es x to Y
theorem runE_app (es : List (Edge α)) (x : α) : ∀ (X Y : List (α × Int)) (k j : Nat), runE es x k X = some j → runE es x k (X ++ Y) = runE es x j Y
  | [], Y, k, j, h => by cases h; rfl
  | a :: X, Y, k, j, h => by
    rw [List.cons_append]
    simp only [runE] at h ⊢
    cases hs : stepE es x k a with
    | none => rw [hs] at h; cases h
    | some t =>
      rw [hs] at h
      simp only at h ⊢
      exact runE_app es x X Y t j h
/-- in the subgroup -/
def InH (m x : α) (M g : List (α × Int)) : Prop := ∃ t, (∀ q ∈ t, q.1 ≠ x) ∧ sub m M t = red g
theorem InH.nil {m x : α} {M : List (α × Int)} : InH m x M [] := ⟨[], fun q hq => (nomatch hq), rfl⟩
theorem InH.congr {m x : α} {M g h : List (α × Int)} (i : InH m x M g) (e : red g = red h) : InH m x M h := by
  obtain ⟨t, h1, h2⟩ := i
  exact ⟨t, h1, h2.trans e⟩
theorem InH.app {m x : α} {M g h : List (α × Int)} (i : InH m x M g) (j : InH m x M h) : InH m x M (g ++ h) := by
  obtain ⟨t, h1, h2⟩ := i
  obtain ⟨u, h3, h4⟩ := j
  refine ⟨t ++ u, fun q hq => (List.mem_append.mp hq).elim (h1 q) (h3 q), ?_⟩
  rw [sub_app, h2, h4]
  rw [red_red_app, red_app_red]
theorem InH.inv {m x : α} {M g : List (α × Int)} (i : InH m x M g) : InH m x M (inv g) := by
  obtain ⟨t, h1, h2⟩ := i
  exact ⟨Wd.inv t, no_inv h1, by rw [sub_inv, h2, red_inv]⟩
theorem InH.other {m x : α} {M : List (α × Int)} {a : α × Int} (hx : a.1 ≠ x) (hm : a.1 ≠ m) : InH m x M [a] := by
  refine ⟨[a], fun q hq => ?_, ?_⟩
  · rw [List.mem_singleton] at hq
    rw [hq]
    exact hx
  · refine sub_none' fun q hq => ?_
    rw [List.mem_singleton] at hq
    rw [hq]
    exact hm
section
variable {m x : α} {L l M r o c O C : List (α × Int)}
theorem Lp.inM (h : Lp m x L l M r o c) : InH m x M M := ⟨[(m, 1)], fun q hq => by
  rw [List.mem_singleton] at hq
  rw [hq]
  exact h.mx, sub_m m M⟩
theorem Lp.edge_in (h : Lp m x L l M r o c) {k : Nat} {a : α × Int} (hk : (spelled o ++ spelled c)[k]? = some a) :
    InH m x M ((spelled o ++ spelled c).take k ++ ([a] ++ inv ((spelled o ++ spelled c).take (if k + 1 = (spelled o ++ spelled c).length then (spelled o).length else k + 1)))) := by
  have e1 : (spelled o ++ spelled c).take (k + 1) = (spelled o ++ spelled c).take k ++ [a] := by
    rw [List.take_succ, hk]
    rfl
  split
  · rename_i hl
    refine h.inM.congr ?_
    rw [← List.append_assoc, ← e1, hl, List.take_length, List.take_left, List.append_assoc, red_spelled3 o c h.core.ro, h.core.eq]
    exact red_of h.rM
  · refine InH.nil.congr ?_
    rw [← List.append_assoc, ← e1, ]
    have := act_inv (u := (spelled o ++ spelled c).take (k + 1)) (w := ([] : List (α × Int))) trivial
    unfold red
    rw [act_app]
    exact this.symm
/-- what comes back lies in the subgroup -/
theorem Lp.run_in (h : Lp m x L l M r o c) : ∀ (Y P : List (α × Int)) (k : Nat), (∀ q ∈ Y, q.1 ≠ m) → InH m x M (P ++ inv ((spelled o ++ spelled c).take k)) → runE (edg (spelled o).length 0 (spelled o ++ spelled c)) x k Y = some 0 → InH m x M (P ++ Y)
  | [], P, k, _, hi, hr => by
    unfold runE at hr
    cases hr
    rw [List.take_zero] at hi
    exact hi
  | a :: Y, P, k, hm, hi, hr => by
    unfold runE at hr
    cases hs : stepE (edg (spelled o).length 0 (spelled o ++ spelled c)) x k a with
    | none => rw [hs] at hr; cases hr
    | some t =>
      rw [hs] at hr
      have := h.run_in Y (P ++ [a]) t (fun q hq => hm q (by simp [hq])) ?_ hr
      · rwa [List.append_assoc] at this
      · rcases pick_of _ _ _ _ _ hs with h1 | ⟨e, he, hf⟩
        · split at h1
          · rename_i hh
            cases h1
            have hi' := hi
            rw [hh.1] at hi'
            rw [List.take_zero] at hi' ⊢
            have e : Wd.inv ([] : List (α × Int)) = [] := rfl
            rw [e, List.append_nil] at hi' ⊢
            exact hi'.app (InH.other hh.2 (hm a (by simp)))
          · cases h1
        · obtain ⟨j, g1, g2, g3⟩ := edg_mem _ _ _ _ he
          rw [Nat.zero_add] at g2
          have he' := h.edge_in g1
          rcases hf with ⟨f1, f2, f3⟩ | ⟨f1, f2, f3⟩
          · rw [← f1] at hi
            rw [← f3, g3, ← f2]
            rw [g2] at hi
            refine (hi.app he').congr ?_
            rw [Nat.zero_add]
            refine by_act ?_
            simp (config := { maxDischargeDepth := 40 }) only [act_app, a_red, a_ired, a_r, a_l, a_Red, a_nil, a_e, inv_app, inv_inv, a_Red]
          · rw [← f1, g3] at hi
            rw [← f3, g2]
            rw [f2] at he'
            rw [Nat.zero_add] at hi
            refine (hi.app he'.inv).congr ?_
            have e : Wd.inv [(a.1, 0 - a.2)] = [a] := by
              rw [inv_one]
              congr 1
              exact Prod.ext rfl (by show -(0 - a.2) = a.2; omega)
            rw [inv_app, inv_app, inv_inv, e]
            refine by_act ?_
            simp (config := { maxDischargeDepth := 40 }) only [act_app, a_red, a_ired, a_r, a_l, a_Red, a_nil, a_e, inv_app, inv_inv, a_Red]
/-! the other way: every word of the subgroup comes back -/
theorem fr_get : ∀ {X : List (α × Int)} (_ : Fr X) {k : Nat} {a b : α × Int}, X[k]? = some a → X[k + 1]? = some b → ¬ (b.1 = a.1 ∧ b.2 = -a.2)
  | [], _, _, _, _, h, _ => by simp at h
  | y :: X, h, 0, a, b, h1, h2 => by
    cases h1
    refine h.1 b ?_
    cases X with
    | nil => simp at h2
    | cons z X => simpa using h2
  | y :: X, h, k + 1, a, b, h1, h2 => fr_get h.2 (by simpa using h1) (by simpa using h2)
structure Lol (O C : List (α × Int)) (x : α) : Prop where
  f1 : Fr (O ++ (C ++ inv O))
  f2 : Fr (C ++ C)
  cn : C ≠ []
  lt : Lt (O ++ C)
  h0 : ∀ a, (O ++ C)[0]? = some a → a.1 = x
  l0 : O = [] → ∀ a, C.getLast? = some a → a.1 = x
theorem Lol.R (h : Lol O C x) : Fr (O ++ C) := by
  have := h.f1
  rw [← List.append_assoc] at this
  exact this.left
theorem Lol.last (h : Lol O C x) {a : α × Int} {k : Nat} (ha : (O ++ C)[k]? = some a) (hk : k + 1 = (O ++ C).length) : C.getLast? = some a := by
  rw [List.getLast?_eq_getElem?]
  rw [List.length_append] at hk
  have : 0 < C.length := List.length_pos_iff.mpr h.cn
  rw [List.getElem?_append_right (by omega)] at ha
  rw [← ha]
  congr 1
  omega
theorem Lol.first (h : Lol O C x) {b : α × Int} (hb : (O ++ C)[O.length]? = some b) : C.head? = some b := by
  rw [List.getElem?_append_right (Nat.le_refl _), Nat.sub_self] at hb
  rw [← hb]
  cases C <;> rfl
/-- behind an edge the way does not turn back -/
theorem Lol.turn (h : Lol O C x) {k j : Nat} {a b : α × Int} (ha : (O ++ C)[k]? = some a) (hb : (O ++ C)[j]? = some b) (hj : j = if k + 1 = (O ++ C).length then O.length else k + 1) : ¬ (b.1 = a.1 ∧ b.2 = -a.2) := by
  split at hj
  · rename_i hk
    subst hj
    exact h.f2.seam (h.last ha hk) (h.first hb)
  · subst hj
    exact fr_get h.R ha hb
/-- two edges into one place differ -/
theorem Lol.into (h : Lol O C x) {k j : Nat} {a b : α × Int} (ha : (O ++ C)[k]? = some a) (hb : (O ++ C)[j]? = some b) (he : (if k + 1 = (O ++ C).length then O.length else k + 1) = if j + 1 = (O ++ C).length then O.length else j + 1) (hab : a = b) : k = j := by
  have key : ∀ {k j : Nat} {a b : α × Int}, (O ++ C)[k]? = some a → (O ++ C)[j]? = some b → k + 1 = (O ++ C).length → O.length = j + 1 → a = b → False := by
    intro k j a b ha hb hk hj hab
    have h1 := h.last ha hk
    have h2 := h.f1.right
    rw [List.getElem?_append_left (by omega)] at hb
    have h3 : O.getLast? = some b := by
      rw [List.getLast?_eq_getElem?, ← hb]
      congr 1
      omega
    have h4 : (inv O).head? = some (b.1, -b.2) := by
      rw [head_inv, h3]
      rfl
    exact h2.seam h1 h4 ⟨by rw [hab], by rw [hab]⟩
  split at he <;> split at he
  · omega
  · exact (key ha hb (by assumption) he hab).elim
  · exact (key hb ha (by assumption) he.symm hab.symm).elim
  · omega
theorem Lol.fwd (h : Lol O C x) {k : Nat} {a : α × Int} (ha : (O ++ C)[k]? = some a) : stepE (edg O.length 0 (O ++ C)) x k a = some (if k + 1 = (O ++ C).length then O.length else k + 1) := by
  have hm := mem_edg O.length (O ++ C) 0 k a ha
  refine pick_to ⟨_, hm, .inl ⟨by simp, rfl, by simp⟩⟩ (fun e he t hf => ?_) (.inl (if_neg ?_))
  · obtain ⟨j, g1, g2, g3⟩ := edg_mem _ _ _ _ he
    rw [Nat.zero_add] at g2 g3
    rcases hf with ⟨f1, f2, f3⟩ | ⟨f1, f2, f3⟩
    · have : j = k := by omega
      subst this
      rw [← f3, g3]
    · rw [f1] at g3
      have := h.turn g1 ha g3
      rw [f2] at this
      exact absurd ⟨rfl, by show a.2 = -(0 - a.2); omega⟩ this
  · rintro ⟨rfl, hx⟩
    exact hx (h.h0 a ha)
theorem Lol.bwd (h : Lol O C x) {k : Nat} {a : α × Int} (ha : (O ++ C)[k]? = some a) : stepE (edg O.length 0 (O ++ C)) x (if k + 1 = (O ++ C).length then O.length else k + 1) (a.1, -a.2) = some k := by
  have hm := mem_edg O.length (O ++ C) 0 k a ha
  refine pick_to ⟨_, hm, .inr ⟨by simp, by show a = (a.1, 0 - -a.2); exact Prod.ext rfl (by show a.2 = 0 - -a.2; omega), by simp⟩⟩ (fun e he t hf => ?_) (.inl (if_neg ?_))
  · obtain ⟨j, g1, g2, g3⟩ := edg_mem _ _ _ _ he
    rw [Nat.zero_add] at g2 g3
    rcases hf with ⟨f1, f2, f3⟩ | ⟨f1, f2, f3⟩
    · rw [f1] at g2
      have := h.turn ha g1 g2.symm
      rw [f2] at this
      exact absurd ⟨rfl, rfl⟩ this
    · rw [f1] at g3
      have := h.into ha g1 g3 (by rw [f2]; exact Prod.ext rfl (by show a.2 = 0 - -a.2; omega))
      omega
  · rintro ⟨h0, hx⟩
    split at h0
    · rename_i hk
      exact hx (h.l0 (List.length_eq_zero_iff.mp h0) a (h.last ha hk))
    · omega
theorem Lol.stay (h : Lol O C x) {a : α × Int} (hx : a.1 ≠ x) : stepE (edg O.length 0 (O ++ C)) x 0 a = some 0 := by
  unfold stepE
  rw [if_pos ⟨rfl, hx⟩]
  cases hp : pick (edg O.length 0 (O ++ C)) 0 a (some 0) with
  | none => exact absurd (pick_none _ _ _ _ hp).1 (by simp)
  | some t =>
    rcases pick_of _ _ _ _ _ hp with h1 | ⟨e, he, hf⟩
    · exact h1.symm
    · obtain ⟨j, g1, g2, g3⟩ := edg_mem _ _ _ _ he
      rw [Nat.zero_add] at g2 g3
      rcases hf with ⟨f1, f2, f3⟩ | ⟨f1, f2, f3⟩
      · have : j = 0 := by omega
        subst this
        have := h.h0 _ g1
        rw [f2] at this
        exact absurd this hx
      · rw [f1] at g3
        split at g3
        · rename_i hj
          have := h.l0 (List.length_eq_zero_iff.mp g3.symm) _ (h.last g1 hj)
          rw [f2] at this
          exact absurd this hx
        · omega
theorem Lol.path (h : Lol O C x) : ∀ (X P Z : List (α × Int)), O ++ C = P ++ (X ++ Z) → Z ≠ [] → runE (edg O.length 0 (O ++ C)) x P.length X = some (P.length + X.length) ∧ runE (edg O.length 0 (O ++ C)) x (P.length + X.length) (inv X) = some P.length
  | [], P, Z, _, _ => ⟨rfl, rfl⟩
  | a :: X, P, Z, e, hz => by
    have ha : (O ++ C)[P.length]? = some a := by
      rw [e, List.getElem?_append_right (Nat.le_refl _), Nat.sub_self]
      rfl
    have hl : ¬ P.length + 1 = (O ++ C).length := by
      have : 0 < Z.length := List.length_pos_iff.mpr hz
      rw [e, List.length_append, List.length_append, List.length_cons]
      omega
    have h1 := h.fwd ha
    have h2 := h.bwd ha
    rw [if_neg hl] at h1 h2
    obtain ⟨i1, i2⟩ := h.path X (P ++ [a]) Z (by rw [e]; simp) hz
    rw [List.length_append, List.length_singleton] at i1 i2
    have e3 : P.length + (a :: X).length = P.length + 1 + X.length := by rw [List.length_cons]; omega
    rw [e3]
    constructor
    · simp only [runE, h1]
      exact i1
    · have e4 : inv (a :: X) = inv X ++ [(a.1, -a.2)] := by simp [inv]
      rw [e4, runE_app _ _ _ _ _ _ i2]
      simp only [runE, h2]
theorem Lol.circle (h : Lol O C x) : runE (edg O.length 0 (O ++ C)) x O.length C = some O.length ∧ runE (edg O.length 0 (O ++ C)) x O.length (inv C) = some O.length := by
  rcases List.eq_nil_or_concat C with e | ⟨C', a, e⟩
  · exact absurd e h.cn
  rw [List.concat_eq_append] at e
  obtain ⟨i1, i2⟩ := h.path C' O [a] (by rw [e]) (by simp)
  have ha : (O ++ C)[O.length + C'.length]? = some a := by
    rw [e, ← List.append_assoc, ← List.length_append, List.getElem?_concat_length]
  have hl : O.length + C'.length + 1 = (O ++ C).length := by
    rw [e, List.length_append, List.length_append, List.length_singleton]
    omega
  have h1 := h.fwd ha
  have h2 := h.bwd ha
  rw [if_pos hl] at h1 h2
  generalize hE : edg O.length 0 (O ++ C) = E at *
  constructor
  · rw [e, runE_app _ _ _ _ _ _ i1]
    simp only [runE, h1]
  · have e4 : inv C = (a.1, -a.2) :: inv C' := by rw [e]; simp [inv]
    rw [e4]
    simp only [runE, h2]
    exact i2
theorem runE_rep {E : List (Edge α)} {x : α} {k : Nat} {X : List (α × Int)} (h : runE E x k X = some k) : ∀ n, runE E x k (rep n X) = some k
  | 0 => rfl
  | n + 1 => by
    rw [rep_succ, runE_app _ _ _ _ _ _ h]
    exact runE_rep h n
theorem Lol.blk (h : Lol O C x) (e : Int) : runE (edg O.length 0 (O ++ C)) x 0 (blk O C e) = some 0 := by
  obtain ⟨i1, i2⟩ := h.path O [] C (by simp) h.cn
  obtain ⟨c1, c2⟩ := h.circle
  rw [List.length_nil, Nat.zero_add] at i1 i2
  unfold Wd.blk
  rw [runE_app _ _ _ _ _ _ i1]
  have : runE (edg O.length 0 (O ++ C)) x O.length (rep e.natAbs (if decide (0 < e) = true then C else inv C)) = some O.length := by
    refine runE_rep ?_ _
    split
    · exact c1
    · exact c2
  rw [runE_app _ _ _ _ _ _ this]
  exact i2
theorem Lol.blks (h : Lol O C x) (m : α) : ∀ W : List (α × Int), (∀ q ∈ W, q.1 ≠ x) → runE (edg O.length 0 (O ++ C)) x 0 (blks m O C W) = some 0
  | [], _ => rfl
  | q :: W, hx => by
    have e : Wd.blks m O C (q :: W) = (if q.1 = m then Wd.blk O C q.2 else spell1 q) ++ Wd.blks m O C W := by
      unfold Wd.blks
      rw [List.flatMap_cons]
    have h1 : runE (edg O.length 0 (O ++ C)) x 0 (if q.1 = m then Wd.blk O C q.2 else spell1 q) = some 0 := by
      split
      · exact h.blk _
      · unfold spell1
        have : ∀ (n : Nat) (s : Int), runE (edg O.length 0 (O ++ C)) x 0 (List.replicate n (q.1, s)) = some 0 := by
          intro n s
          induction n with
          | zero => rfl
          | succ n ih =>
            rw [List.replicate_succ]
            have := h.stay (a := (q.1, s)) (hx q (by simp))
            simp only [runE, this]
            exact ih
        exact this _ _
    rw [e, runE_app _ _ _ _ _ _ h1]
    exact h.blks m W fun y hy => hx y (by simp [hy])
theorem Lp.lol (h : Lp m x L l M r o c) : Lol (spelled o) (spelled c) x := by
  have h1 := h.core.spell
  refine ⟨h1.2, cyc_fr h.core.rc h.core.cy, h.Cn, (Lt.spelled o).app (Lt.spelled c), fun a ha => ?_, fun ho a ha => ?_⟩
  · by_cases ho : spelled o = []
    · rw [ho, List.nil_append] at ha
      obtain ⟨⟨s, hs⟩, _⟩ := h.C_head ho
      rw [← List.head?_eq_getElem?, hs] at ha
      cases ha
      rfl
    · obtain ⟨s, hs⟩ := h.O_head ho
      rw [← List.head?_eq_getElem?, List.head?_append, hs] at ha
      cases ha
      rfl
  · obtain ⟨_, s, hs⟩ := h.C_head ho
    rw [hs] at ha
    cases ha
    rfl
/-- the two ways of winding by a loop and by its middle -/
theorem Lp.swap (h : Lp m x L l M r o c) {w : List (α × Int)} : (∃ t, Red t ∧ (∀ q ∈ t, q.1 ≠ x) ∧ sub m L t = w) ↔ (∃ t, Red t ∧ (∀ q ∈ t, q.1 ≠ x) ∧ sub m M t = w) := by
  have avs : ∀ {K t : List (α × Int)}, (∀ q ∈ K, q.1 ≠ x) → (∀ q ∈ t, q.1 ≠ x) → ∀ q ∈ sub m K t, q.1 ≠ x := by
    intro K t hK ht q hq
    unfold sub at hq
    obtain ⟨y, hy, e⟩ := red_mem hq
    rw [← e]
    obtain ⟨z, hz, hy⟩ := List.mem_flatMap.mp hy
    unfold put at hy
    split at hy
    · exact pw_no hK _ y hy
    · rw [List.mem_singleton] at hy
      rw [hy]
      exact ht z hz
  constructor
  · rintro ⟨t, t1, t2, rfl⟩
    have k1 : sub m M (red (l ++ ([(m, 1)] ++ r))) = L := by
      rw [sub_red, sub_app, sub_app m M [(m, 1)], sub_none' h.lm, sub_none' h.rm, sub_m, red_app_red, red_red_app, red_of h.rM, red_app, red_app, red_red, ← red_app, ← red_app, ← h.eq, red_of h.rL]
    refine ⟨sub m (red (l ++ ([(m, 1)] ++ r))) t, Red.red, avs (fun q hq => ?_) t2, by rw [sub_sub, k1]⟩
    obtain ⟨y, hy, e⟩ := red_mem hq
    rw [← e]
    rcases List.mem_append.mp hy with hy | hy
    · exact h.lx y hy
    · rcases List.mem_append.mp hy with hy | hy
      · rw [List.mem_singleton] at hy
        rw [hy]
        exact h.mx
      · exact h.rx y hy
  · rintro ⟨t, t1, t2, rfl⟩
    exact ⟨sub m (turnW m l r) t, Red.red, avs h.turnx t2, by rw [sub_sub, h.turn]⟩
/-- a word comes back if and only if it can be unwound -/
theorem Lp.closes (h : Lp m x L l M r o c) {w : List (α × Int)} (hw : Red w) (hm : ∀ q ∈ w, q.1 ≠ m) : runE (edg (spelled o).length 0 (spelled o ++ spelled c)) x 0 (spelled w) = some 0 ↔ ∃ t, Red t ∧ (∀ q ∈ t, q.1 ≠ x) ∧ sub m L t = w := by
  rw [h.swap]
  constructor
  · intro hr
    obtain ⟨t, t1, t2⟩ := h.run_in (spelled w) [] 0 (fun q hq => by
      unfold spelled at hq
      obtain ⟨y, hy, hq⟩ := List.mem_flatMap.mp hq
      unfold spell1 at hq
      obtain ⟨_, rfl⟩ := List.mem_replicate.mp hq
      exact hm y hy) InH.nil hr
    rw [List.nil_append, red_spelled, red_of hw] at t2
    exact ⟨red t, Red.red, fun q hq => by
      obtain ⟨y, hy, e⟩ := red_mem hq
      rw [← e]
      exact t1 y hy, by rw [sub_red]; exact t2⟩
  · rintro ⟨t, t1, t2, rfl⟩
    obtain ⟨b1, b2, _⟩ := h.blks_fr t1 t2
    have : spelled (sub m M t) = blks m (spelled o) (spelled c) t := by
      rw [← h.blks_red t, spelled_of b2 b1]
    rw [this]
    exact h.lol.blks m t t2
end
end Wd

/-! cores are one; roots; what commutes -/
namespace Wd
variable {α : Type} [DecidableEq α]
/-! a core is one -/
theorem core_nil {o c : List (α × Int)} (h : Core ([] : List (α × Int)) o c) : o = [] ∧ c = [] := by
  have h1 := h.sz
  rw [size_nil] at h1
  constructor
  · cases o with
    | nil => rfl
    | cons a t =>
      have := size_pos h.ro (List.cons_ne_nil a t)
      omega
  · cases c with
    | nil => rfl
    | cons a t =>
      have := size_pos h.rc (List.cons_ne_nil a t)
      omega
theorem core_ne {w o c : List (α × Int)} (h : Core w o c) (hw : w ≠ []) : c ≠ [] := by
  rintro rfl
  have := h.eq
  rw [List.nil_append] at this
  have e : red (o ++ inv o) = [] := by
    unfold red
    rw [act_app]
    exact act_inv trivial
  rw [e] at this
  exact hw this.symm
theorem spelled_nil_iff {c : List (α × Int)} (h : Red c) : spelled c = [] ↔ c = [] := by
  constructor
  · intro e
    have := len_spelled c
    rw [e] at this
    cases c with
    | nil => rfl
    | cons a t =>
      have h2 := size_pos h (List.cons_ne_nil a t)
      simp at this
      omega
  · rintro rfl
    rfl
/-- the outer part cannot be shorter -/
theorem core_lt {O C O' C' : List (α × Int)} (e : O ++ (C ++ inv O) = O' ++ (C' ++ inv O')) (hC : Fr (C ++ C)) (hC' : C ≠ []) : ¬ O.length < O'.length := by
  intro hl
  have e1 : O'.take O.length = O := by
    have := congrArg (List.take O.length) e
    rw [List.take_left, List.take_append_of_le_length (by omega)] at this
    exact this.symm
  obtain ⟨X, hX⟩ : ∃ X, O' = O ++ X := ⟨O'.drop O.length, by
    have := List.take_append_drop O.length O'
    rw [e1] at this
    exact this.symm⟩
  have hXn : X ≠ [] := by
    rintro rfl
    rw [List.append_nil] at hX
    rw [hX] at hl
    exact Nat.lt_irrefl _ hl
  rw [hX, inv_app, List.append_assoc] at e
  have e2 := List.append_cancel_left e
  have e3 : C = X ++ (C' ++ inv X) := by
    have : C ++ inv O = (X ++ (C' ++ inv X)) ++ inv O := by rw [e2]; simp
    exact List.append_cancel_right this
  obtain ⟨a, ha⟩ : ∃ a, X.head? = some a := by
    cases X with
    | nil => exact absurd rfl hXn
    | cons a t => exact ⟨a, rfl⟩
  have h1 : C.head? = some a := by rw [e3, List.head?_append, ha]; rfl
  have h2 : C.getLast? = some (a.1, -a.2) := by
    rw [e3, List.getLast?_append, List.getLast?_append, last_inv, ha]
    rfl
  exact hC.seam h2 h1 ⟨rfl, by show a.2 = - -a.2; omega⟩
theorem core_unique {w o c o' c' : List (α × Int)} (h : Core w o c) (h' : Core w o' c') : o = o' ∧ c = c' := by
  by_cases hw : w = []
  · subst hw
    obtain ⟨a1, a2⟩ := core_nil h
    obtain ⟨b1, b2⟩ := core_nil h'
    exact ⟨a1.trans b1.symm, a2.trans b2.symm⟩
  have e : spelled o ++ (spelled c ++ inv (spelled o)) = spelled o' ++ (spelled c' ++ inv (spelled o')) := by rw [← h.spell.1, ← h'.spell.1]
  have n1 := core_lt e (cyc_fr h.rc h.cy) fun hh => core_ne h hw ((spelled_nil_iff h.rc).mp hh)
  have n2 := core_lt e.symm (cyc_fr h'.rc h'.cy) fun hh => core_ne h' hw ((spelled_nil_iff h'.rc).mp hh)
  have hl : (spelled o).length = (spelled o').length := by omega
  obtain ⟨e1, e2⟩ := List.append_inj e hl
  have eo : o = o' := spelled_inj h.ro h'.ro e1
  subst eo
  exact ⟨rfl, spelled_inj h.rc h'.rc (List.append_cancel_right e2)⟩
/-! powers -/
theorem cyc_inv {C : List (α × Int)} (h : Fr (C ++ C)) : Fr (inv C ++ inv C) := by
  rw [← inv_app]
  exact h.inv
theorem len_rep' (n : Nat) (C : List (α × Int)) : (rep n C).length = n * C.length := len_rep n C
theorem core_blk {o c : List (α × Int)} (ho : Red o) (hc : Red c) (hf : Fr (spelled o ++ (spelled c ++ inv (spelled o)))) (hcy : cycb c = true) (hn : c ≠ []) (n : Nat) : Core (red (spelled o ++ (rep (n + 1) (spelled c) ++ inv (spelled o)))) o (red (rep (n + 1) (spelled c))) := by
  have hcc := cyc_fr hc hcy
  have hcn : spelled c ≠ [] := fun h => hn ((spelled_nil_iff hc).mp h)
  have hlr : Lt (rep (n + 1) (spelled c)) := (Lt.spelled c).rep _
  have hfb := fr_block hf hcc hcn n
  have hfr : Fr (rep (n + 1) (spelled c)) := hfb.right.left
  have hlb : Lt (spelled o ++ (rep (n + 1) (spelled c) ++ inv (spelled o))) := lt_app3 (Lt.spelled o) hlr
  refine ⟨ho, Red.red, ?_, ?_, ?_⟩
  · refine app_congr (red_spelled o).symm (app_congr (by rw [red_of Red.red]) ?_)
    rw [← spelled_inv ho.nz, red_spelled]
  · rw [size_fr hlb hfb, size_fr hlr hfr, List.length_append, List.length_append, len_inv, len_spelled]
    omega
  · refine fr_cyc Red.red ?_
    rw [spelled_of hlr hfr]
    have := hcc.rep (n + 1 + (n + 1))
    unfold rep at this ⊢
    rw [← List.flatten_append, List.replicate_append_replicate]
    exact this
theorem core_pw {w o c : List (α × Int)} (h : Core w o c) (hn : c ≠ []) {e : Int} (he : e ≠ 0) : Core (pw w e) o (pw c e) := by
  obtain ⟨hs, hf⟩ := h.spell
  obtain ⟨n, hn'⟩ : ∃ n, e.natAbs = n + 1 := ⟨e.natAbs - 1, by omega⟩
  by_cases hp : 0 < e
  · have e1 : e = ((n + 1 : Nat) : Int) := by omega
    have := core_blk h.ro h.rc hf h.cy hn n
    rw [red_blk h e (n + 1) _ (.inl ⟨rfl, e1⟩), (pw_spelled c h.rc (n + 1)).1, ← e1] at this
    exact this
  · have e1 : e = -((n + 1 : Nat) : Int) := by omega
    have hi : Fr (spelled o ++ (spelled (inv c) ++ inv (spelled o))) := by
      have := hf.inv
      rw [inv_app, inv_app, inv_inv, List.append_assoc, ← spelled_inv h.rc.nz] at this
      exact this
    have hcy : cycb (inv c) = true := fr_cyc h.rc.inv (by
      rw [spelled_inv h.rc.nz]
      exact cyc_inv (cyc_fr h.rc h.cy))
    have hin : inv c ≠ [] := fun hh => hn (by have := congrArg inv hh; rw [inv_inv] at this; exact this)
    have := core_blk h.ro h.rc.inv hi hcy hin n
    rw [spelled_inv h.rc.nz, red_blk h e (n + 1) _ (.inr ⟨rfl, e1⟩), (pw_spelled c h.rc (n + 1)).2, ← e1] at this
    exact this
theorem size_pw_cyc {c : List (α × Int)} (hr : Red c) (hc : cycb c = true) (e : Int) : size (pw c e) = e.natAbs * size c := by
  by_cases hn : c = []
  · subst hn
    rw [pw_nil]
    simp [size_nil]
  by_cases he : e = 0
  · subst he
    rw [pw_zero]
    simp [size_nil]
  have h0 : Core c [] c := core_done hr (by simp [inv]) hc
  have hcc := cyc_fr hr hc
  obtain ⟨n, hn'⟩ : ∃ n, e.natAbs = n + 1 := ⟨e.natAbs - 1, by omega⟩
  by_cases hp : 0 < e
  · have e1 : e = ((n + 1 : Nat) : Int) := by omega
    have h1 := (pw_spelled c hr (n + 1)).1
    rw [hn', e1, ← h1, size_fr ((Lt.spelled c).rep _) (hcc.rep _), len_rep, len_spelled]
  · have e1 : e = -((n + 1 : Nat) : Int) := by omega
    have h1 := (pw_spelled c hr (n + 1)).2
    rw [hn', e1, ← h1, size_fr ((Lt.spelled c).inv.rep _) ((cyc_inv hcc).rep _), len_rep, len_inv, len_spelled]
theorem size_pw_core {w o c : List (α × Int)} (h : Core w o c) (hn : c ≠ []) {e : Int} (he : e ≠ 0) : size (pw w e) = 2 * size o + e.natAbs * size c := by
  rw [(core_pw h hn he).sz, size_pw_cyc h.rc h.cy]
/-- exponents are one -/
theorem pw_inj {w : List (α × Int)} (hw : Red w) (hn : w ≠ []) {a b : Int} (h : pw w a = pw w b) : a = b := by
  by_cases hab : a - b = 0
  · omega
  · have h1 := pw_add w a (-b)
    rw [h, pw_add, show b + -b = 0 by omega, pw_zero] at h1
    exact absurd h1.symm (by rw [show a + -b = a - b by omega]; exact pw_ne hw hn hab)
theorem pw_eq_nil {w : List (α × Int)} (hw : Red w) (hn : w ≠ []) {a : Int} (h : pw w a = []) : a = 0 := pw_inj hw hn (h.trans (pw_zero w).symm)
/-- a core is not longer than what is turned -/
theorem core_small {t i w o c : List (α × Int)} (hw : w = red (t ++ (i ++ inv t))) (h : Core w o c) : size c ≤ size i := by
  by_cases hn : c = []
  · subst hn
    exact Nat.zero_le _
  have key : ∀ n : Nat, (n + 1) * size c ≤ 2 * size t + (n + 1) * size i := by
    intro n
    have h1 := size_pw_core h hn (e := ((n + 1 : Nat) : Int)) (by omega)
    rw [Int.natAbs_natCast] at h1
    have h2 : size (pw w ((n + 1 : Nat) : Int)) ≤ 2 * size t + (n + 1) * size i := by
      rw [hw, pw_conj]
      refine Nat.le_trans (size_red _) ?_
      rw [size_app, size_app, size_inv, pw_nat]
      have h3 := size_red (rep (n + 1) i)
      have h4 : ∀ m, size (rep m i) = m * size i := fun m => by
        induction m with
        | zero => simp [rep, size_nil]
        | succ m ih => rw [rep_succ, size_app, ih, Nat.add_mul, Nat.one_mul, Nat.add_comm]
      rw [h4] at h3
      omega
    omega
  rcases Nat.lt_or_ge (size i) (size c) with hlt | hge
  · have h1 := key (2 * size t)
    have h2 : (2 * size t + 1) * (size i + 1) ≤ (2 * size t + 1) * size c := Nat.mul_le_mul_left _ hlt
    rw [Nat.mul_add, Nat.mul_one] at h2
    omega
  · exact hge
/-! rotations -/
def rot (j : Nat) (X : List (α × Int)) : List (α × Int) := X.drop j ++ X.take j
theorem rot_zero (X : List (α × Int)) : rot 0 X = X := by simp [rot]
theorem rot_len (j : Nat) (X : List (α × Int)) : (rot j X).length = X.length := by
  unfold rot
  rw [List.length_append, List.length_drop, List.length_take]
  omega
theorem rot_all (X : List (α × Int)) : rot X.length X = X := by simp [rot]
theorem rot_rot {a b : Nat} {X : List (α × Int)} (h : a + b ≤ X.length) : rot b (rot a X) = rot (a + b) X := by
  unfold rot
  have h1 : b ≤ (X.drop a).length := by rw [List.length_drop]; omega
  rw [List.drop_append_of_le_length h1, List.take_append_of_le_length h1, List.drop_drop, List.append_assoc, ← List.take_add]
theorem rot_mul {q : Nat} {X : List (α × Int)} (h : rot q X = X) : ∀ k, k * q ≤ X.length → rot (k * q) X = X
  | 0, _ => by rw [Nat.zero_mul, rot_zero]
  | k + 1, hk => by
    rw [Nat.add_mul, Nat.one_mul] at hk ⊢
    rw [← rot_rot hk, rot_mul h k (by omega), h]
theorem rot_rest {a b : Nat} {X : List (α × Int)} (h : a + b ≤ X.length) (h1 : rot a X = X) (h2 : rot (a + b) X = X) : rot b X = X := by
  rw [← rot_rot h, h1] at h2
  exact h2
theorem rot_cyc {X : List (α × Int)} (h : Fr (X ++ X)) {j : Nat} (hj : j ≤ X.length) : Fr (rot j X ++ rot j X) := by
  have h3 := h.rep 3
  have : rep 3 X = X.take j ++ ((rot j X ++ rot j X) ++ X.drop j) := by
    unfold rot rep
    have e := List.take_append_drop j X
    have : (List.replicate 3 X).flatten = X ++ (X ++ X) := by simp [List.replicate]
    rw [this]
    calc X ++ (X ++ X) = (X.take j ++ X.drop j) ++ ((X.take j ++ X.drop j) ++ (X.take j ++ X.drop j)) := by rw [e]
      _ = _ := by simp only [List.append_assoc]
  rw [this] at h3
  exact h3.right.left
/-- the way round is a power of its part -/
theorem rep_of {U : List (α × Int)} : ∀ (m : Nat) (V : List (α × Int)), V.length = m * U.length → V ++ U = U ++ V → V = rep m U
  | 0, V, hl, _ => by
    rw [Nat.zero_mul] at hl
    rw [List.length_eq_zero_iff.mp hl]
    rfl
  | m + 1, V, hl, h => by
    rw [Nat.add_mul, Nat.one_mul] at hl
    have e1 : V.take U.length = U := by
      have := congrArg (List.take U.length) h
      rw [List.take_left, List.take_append_of_le_length (by omega)] at this
      exact this
    have e2 : V = U ++ V.drop U.length := by
      have := List.take_append_drop U.length V
      rw [e1] at this
      exact this.symm
    have e3 : V.drop U.length ++ U = U ++ V.drop U.length := by
      have : U ++ (V.drop U.length ++ U) = U ++ (U ++ V.drop U.length) := by
        rw [← List.append_assoc, ← e2]
        exact h
      exact List.append_cancel_left this
    rw [rep_succ, ← rep_of m (V.drop U.length) (by rw [List.length_drop]; omega) e3]
    exact e2
theorem rot_rep {X : List (α × Int)} {p m : Nat} (hp : 0 < p) (hm : X.length = m * p) (h : rot p X = X) (hX : X ≠ []) : X = rep m (X.take p) := by
  have hm0 : 0 < m := by
    rcases Nat.eq_zero_or_pos m with h0 | h0
    · rw [h0, Nat.zero_mul] at hm
      exact absurd (List.length_eq_zero_iff.mp hm) hX
    · exact h0
  obtain ⟨k, rfl⟩ : ∃ k, m = k + 1 := ⟨m - 1, by omega⟩
  rw [Nat.add_mul, Nat.one_mul] at hm
  have e := List.take_append_drop p X
  have hl : (X.take p).length = p := by rw [List.length_take]; omega
  have h1 : X.drop p ++ X.take p = X.take p ++ X.drop p := by
    rw [e]
    exact h
  have := rep_of k (X.drop p) (by rw [List.length_drop, hl]; omega) h1
  rw [rep_succ, ← this, e]
theorem rep_rot {U : List (α × Int)} (m : Nat) : rot U.length (rep (m + 1) U) = rep (m + 1) U := by
  unfold rot
  rw [rep_succ, List.drop_left, List.take_left, rep_snoc', rep_succ]
/-- the least way round -/
structure Per (X : List (α × Int)) (p m : Nat) : Prop where
  pos : 0 < p
  len : X.length = m * p
  rt : rot p X = X
  least : ∀ q, 0 < q → q < p → (q ∣ X.length) → rot q X ≠ X
theorem Per.dvd {X : List (α × Int)} {p m : Nat} (h : Per X p m) (hX : X ≠ []) {j : Nat} (hj : j ≤ X.length) (hr : rot j X = X) : p ∣ j := by
  have hXl : 0 < X.length := List.length_pos_iff.mpr hX
  -- the least of all
  have ex : ∃ q, 0 < q ∧ q ≤ X.length ∧ rot q X = X ∧ ∀ s, 0 < s → s < q → rot s X ≠ X := by
    have : ∀ n, (∃ q, 0 < q ∧ q ≤ n ∧ q ≤ X.length ∧ rot q X = X) → ∃ q, 0 < q ∧ q ≤ X.length ∧ rot q X = X ∧ ∀ s, 0 < s → s < q → rot s X ≠ X := by
      intro n
      induction n with
      | zero => rintro ⟨q, h1, h2, _⟩; omega
      | succ n ih =>
        rintro ⟨q, h1, h2, h3, h4⟩
        by_cases hh : ∃ s, 0 < s ∧ s < q ∧ rot s X = X
        · obtain ⟨s, s1, s2, s3⟩ := hh
          exact ih ⟨s, s1, by omega, by omega, s3⟩
        · exact ⟨q, h1, h3, h4, fun s s1 s2 s3 => hh ⟨s, s1, s2, s3⟩⟩
    exact this X.length ⟨X.length, hXl, Nat.le_refl _, Nat.le_refl _, rot_all X⟩
  obtain ⟨q, q1, q2, q3, q4⟩ := ex
  have dv : ∀ {i : Nat}, i ≤ X.length → rot i X = X → q ∣ i := by
    intro i hi hri
    have h1 := Nat.div_add_mod i q
    have h2 := Nat.mod_lt i q1
    rcases Nat.eq_zero_or_pos (i % q) with h0 | h0
    · exact Nat.dvd_of_mod_eq_zero h0
    · have h3 : rot (i / q * q) X = X := rot_mul q3 _ (by rw [Nat.mul_comm]; omega)
      have h4 : i / q * q + i % q = i := by rw [Nat.mul_comm]; exact h1
      exact absurd (rot_rest (by omega) h3 (by rw [h4]; exact hri)) (q4 _ h0 h2)
  have hqn : q ∣ X.length := dv (Nat.le_refl _) (rot_all X)
  have hpq : p = q := by
    rcases Nat.lt_trichotomy p q with hh | hh | hh
    · exact absurd h.rt (q4 p h.pos hh)
    · exact hh
    · exact absurd q3 (h.least q q1 hh hqn)
  rw [hpq]
  exact dv hj hr
/-! what commutes with a cyclic word -/
theorem rot_head {X : List (α × Int)} {j : Nat} (hj : j < X.length) : rot j X = X[j] :: (X.drop (j + 1) ++ X.take j) := by
  unfold rot
  rw [List.drop_eq_getElem_cons hj]
  rfl
theorem take_next {X : List (α × Int)} {j : Nat} (hj : j < X.length) : X.take (j + 1) = X.take j ++ [X[j]] := by
  rw [List.take_succ, List.getElem?_eq_getElem hj]
  rfl
/-- turning by one letter -/
theorem rot_next {X : List (α × Int)} {j : Nat} (hj : j < X.length) : (X.drop (j + 1) ++ X.take j) ++ [X[j]] = rot (j + 1) X := by
  unfold rot
  rw [take_next hj, List.append_assoc]
theorem conj_step {V1 D' C : List (α × Int)} {y : α × Int} (h : red ((V1 ++ [(y.1, -y.2)]) ++ ((y :: D') ++ inv (V1 ++ [(y.1, -y.2)]))) = red C) : red (V1 ++ ((D' ++ [y]) ++ inv V1)) = red C := by
  rw [← h]
  have e1 : inv (V1 ++ [(y.1, -y.2)]) = [y] ++ inv V1 := by
    rw [inv_app, inv_one]
    congr 2
    exact Prod.ext rfl (by show - -y.2 = y.2; omega)
  have e2 : (y :: D') = [y] ++ D' := rfl
  have e3 : [(y.1, -y.2)] = inv [y] := rfl
  rw [e1, e2, e3]
  refine by_act ?_
  simp (config := { maxDischargeDepth := 40 }) only [act_app, a_red, a_ired, a_r, a_l, a_Red, a_nil, a_e, inv_app, inv_inv]
theorem conj_step' {V1 D' C : List (α × Int)} {x : α × Int} (h : red ((V1 ++ [x]) ++ ((D' ++ [x]) ++ inv (V1 ++ [x]))) = red C) : red (V1 ++ ((x :: D') ++ inv V1)) = red C := by
  rw [← h]
  have e2 : (x :: D') = [x] ++ D' := rfl
  rw [inv_app, e2]
  refine by_act ?_
  simp (config := { maxDischargeDepth := 40 }) only [act_app, a_red, a_ired, a_r, a_l, a_Red, a_nil, a_e, inv_app, inv_inv]
section
variable {C : List (α × Int)} {p m : Nat}
theorem Per.pwU (h : Per C p m) (hC : C ≠ []) : red C = pw (C.take p) (m : Int) := by
  rw [pw_nat, ← rot_rep h.pos h.len h.rt hC]
theorem com_cyc (h : Per C p m) (hl : Lt C) (hf : Fr (C ++ C)) (hC : C ≠ []) : ∀ (n : Nat) (V : List (α × Int)), V.length = n → Lt V → Fr V → ∀ j, j < C.length → red (V ++ (rot j C ++ inv V)) = red C →
    ∃ k : Int, red V = red (pw (C.take p) k ++ C.take j) := by
  intro n
  induction n with
  | zero =>
    intro V hV _ _ j hj he
    rw [List.length_eq_zero_iff] at hV
    subst hV
    have e0 : inv ([] : List (α × Int)) = [] := rfl
    rw [List.nil_append, e0, List.append_nil] at he
    have hr : Fr (rot j C ++ rot j C) := rot_cyc hf (by omega)
    have lr : Lt (rot j C) := (fun r hr => by
      unfold rot at hr
      rcases List.mem_append.mp hr with hr | hr
      · exact hl r (List.mem_of_mem_drop hr)
      · exact hl r (List.mem_of_mem_take hr))
    have e1 : rot j C = C := by
      rw [← spelled_of lr hr.left, he, spelled_of hl hf.left]
    obtain ⟨q, hq⟩ := h.dvd hC (by omega) e1
    -- the prefix is a power
    have hpl : (C.take p).length = p := by
      have : p ≤ C.length := by
        rw [h.len]
        have hm : 0 < m := by
          rcases Nat.eq_zero_or_pos m with h0 | h0
          · have := h.len
            rw [h0, Nat.zero_mul] at this
            exact absurd (List.length_eq_zero_iff.mp this) hC
          · exact h0
        exact Nat.le_mul_of_pos_left p hm
      rw [List.length_take]
      omega
    have hqm : q ≤ m := by
      have h1 := h.len
      rw [hq] at hj
      rw [h1] at hj
      rcases Nat.lt_or_ge m q with h2 | h2
      · have := Nat.mul_le_mul_right p (Nat.le_of_lt h2)
        rw [Nat.mul_comm q p] at this
        omega
      · exact h2
    have e2 : C.take j = rep q (C.take p) := by
      have h1 := rot_rep h.pos h.len h.rt hC
      obtain ⟨d, rfl⟩ : ∃ d, m = q + d := ⟨m - q, by omega⟩
      have h2 : rep (q + d) (C.take p) = rep q (C.take p) ++ rep d (C.take p) := by
        unfold rep
        rw [← List.flatten_append, List.replicate_append_replicate]
      rw [h2] at h1
      have h3 : (rep q (C.take p)).length = j := by
        rw [len_rep, hpl, hq, Nat.mul_comm]
      rw [h1, ← h3]
      generalize rep d (C.take p) = Z at *
      generalize hY : rep q (C.take p) = Y at *
      rw [← h1, hY] 
      rw [h1, List.take_left]
    refine ⟨-(q : Int), ?_⟩
    have h5 : red (C.take j) = pw (C.take p) (q : Int) := by rw [e2, pw_nat]
    rw [← red_app_red, h5, pw_add, show -(q : Int) + q = 0 by omega, pw_zero]
    rfl
  | succ n ih =>
    intro V hV hVl hVf j hj he
    rcases List.eq_nil_or_concat V with rfl | ⟨V1, x, rfl⟩
    · cases hV
    rw [List.concat_eq_append] at *
    have hV1 : V1.length = n := by
      rw [List.length_append, List.length_singleton] at hV
      omega
    have ih' := ih V1 hV1 hVl.left hVf.left
    have hxl : x.2 = 1 ∨ x.2 = -1 := hVl x (by simp)
    have hpm := h.pwU hC
    have hcl : C.take C.length = C := List.take_length
    generalize C.take p = U at *
    -- the two neighbours
    have hA : x = (C[j].1, -C[j].2) → ∃ k : Int, red (V1 ++ [x]) = red (pw U k ++ C.take j) := by
      intro hx
      rw [rot_head hj] at he
      subst hx
      have h1 := conj_step he
      rw [rot_next hj] at h1
      have e1 : [(C[j].1, -C[j].2)] = inv [C[j]] := rfl
      rcases Nat.lt_or_ge (j + 1) C.length with hlt | hge
      · obtain ⟨k, hk⟩ := ih' (j + 1) hlt h1
        refine ⟨k, ?_⟩
        rw [← red_red_app, hk, take_next hj, e1]
        refine by_act ?_
        simp (config := { maxDischargeDepth := 40 }) only [act_app, a_red, a_ired, a_r, a_l, a_Red, a_nil, a_e, inv_app, inv_inv]
      · have hj1 : j + 1 = C.length := by omega
        rw [hj1, rot_all] at h1
        obtain ⟨k, hk⟩ := ih' 0 (by omega) (by rw [rot_zero]; exact h1)
        rw [List.take_zero, List.append_nil, red_of Red.pw] at hk
        refine ⟨k - m, ?_⟩
        have h2 : pw U k = red (pw U (k - m) ++ (C.take j ++ [C[j]])) := by
          rw [← take_next hj, hj1, hcl, ← red_app_red, hpm, pw_add]
          congr 1
          omega
        rw [← red_red_app, hk, h2, e1]
        refine by_act ?_
        simp (config := { maxDischargeDepth := 40 }) only [act_app, a_red, a_ired, a_r, a_l, a_Red, a_nil, a_e, inv_app, inv_inv]
    have hB : ∀ i, (hi : i < C.length) → (i + 1 = j ∨ (j = 0 ∧ i + 1 = C.length)) → x = C[i] → ∃ k : Int, red (V1 ++ [x]) = red (pw U k ++ C.take j) := by
      intro i hi hij hx
      have er : rot j C = (C.drop (i + 1) ++ C.take i) ++ [C[i]] := by
        rw [rot_next hi]
        rcases hij with rfl | ⟨rfl, hh⟩
        · rfl
        · rw [hh, rot_all, rot_zero]
      rw [er, ← hx] at he
      have h1 := conj_step' he
      rw [hx, ← rot_head hi] at h1
      obtain ⟨k, hk⟩ := ih' i hi h1
      rcases hij with rfl | ⟨rfl, hh⟩
      · refine ⟨k, ?_⟩
        rw [take_next hi, ← red_red_app, hk, hx, red_red_app, List.append_assoc]
      · refine ⟨k + m, ?_⟩
        rw [List.take_zero, List.append_nil, red_of Red.pw, ← pw_add, ← hpm, red_app_red, ← red_red_app, hk, hx, red_red_app, List.append_assoc, ← take_next hi, hh, hcl]
    by_cases h1 : x = (C[j].1, -C[j].2)
    · exact hA h1
    have bad : ∀ z, (rot j C).getLast? = some z → x ≠ z → ∃ k : Int, red (V1 ++ [x]) = red (pw U k ++ C.take j) := by
      intro z hz hxz
      have hD := (rot_cyc hf (j := j) (by omega)).left
      have lD : Lt (rot j C) := fun r hr => by
        unfold rot at hr
        rcases List.mem_append.mp hr with hr | hr
        · exact hl r (List.mem_of_mem_drop hr)
        · exact hl r (List.mem_of_mem_take hr)
      have hfr : Fr ((V1 ++ [x]) ++ (rot j C ++ inv (V1 ++ [x]))) := by
        refine Fr.app hVf (Fr.app hD hVf.inv fun a b ha hb => ?_) fun a b ha hb => ?_
        · rw [hz] at ha
          cases ha
          rw [head_inv, List.getLast?_concat] at hb
          cases hb
          rintro ⟨c1, c2⟩
          refine hxz (Prod.ext c1 ?_)
          dsimp only at c2
          omega
        · rw [List.getLast?_concat] at ha
          cases ha
          rw [rot_head hj] at hb
          cases hb
          rintro ⟨c1, c2⟩
          refine h1 (Prod.ext c1.symm ?_)
          show x.2 = -C[j].2
          omega
      have hll : Lt ((V1 ++ [x]) ++ (rot j C ++ inv (V1 ++ [x]))) := hVl.app (lD.app hVl.inv)
      have s1 := size_fr hll hfr
      rw [he, size_fr hl hf.left] at s1
      simp only [List.length_append, rot_len, len_inv, List.length_singleton] at s1
      omega
    by_cases h0 : j = 0
    · subst h0
      by_cases h2 : x = C[C.length - 1]
      · exact hB (C.length - 1) (by omega) (.inr ⟨rfl, by omega⟩) h2
      · exact bad _ (by rw [rot_zero, List.getLast?_eq_getElem?, List.getElem?_eq_getElem (by omega)]) h2
    · by_cases h2 : x = C[j - 1]
      · exact hB (j - 1) (by omega) (.inl (by omega)) h2
      · refine bad _ ?_ h2
        have e := rot_next (X := C) (j := j - 1) (by omega)
        rw [show j - 1 + 1 = j by omega] at e
        rw [← e, List.getLast?_concat]
/-- the root: what it gives, and what commutes with a word -/
structure Root (w o c : List (α × Int)) (p m : Nat) : Prop where
  core : Core w o c
  ne : w ≠ []
  per : Per (spelled c) p m
def rootW (o c : List (α × Int)) (p : Nat) : List (α × Int) := red (o ++ (red ((spelled c).take p) ++ inv o))
variable {w o c v : List (α × Int)}
theorem Root.cn (h : Root w o c p m) : spelled c ≠ [] := fun hh => core_ne h.core h.ne ((spelled_nil_iff h.core.rc).mp hh)
theorem Root.pw (h : Root w o c p m) : Wd.pw (rootW o c p) (m : Int) = w := by
  unfold rootW
  rw [pw_conj]
  have h1 := h.per.pwU h.cn
  rw [red_spelled, red_of h.core.rc] at h1
  have h2 : Wd.pw (red ((spelled c).take p)) (m : Int) = c := by
    refine Eq.trans ?_ h1.symm
    rw [pw_nat, pw_nat]
    exact rep_congr (by rw [red_of Red.red]) m
  rw [h2, h.core.eq]
theorem Root.ne' (h : Root w o c p m) : rootW o c p ≠ [] := by
  intro e
  have := h.pw
  rw [e, pw_nil] at this
  exact h.ne this.symm
/-- what commutes with a word is a power of its root -/
theorem Root.com (h : Root w o c p m) (hv : Red v) (hc : red (v ++ w) = red (w ++ v)) : ∃ k : Int, Wd.pw (rootW o c p) k = v := by
  have hrw : Red w := by rw [← h.core.eq]; exact Red.red
  -- turned
  have e1 : red (red (inv o ++ (v ++ o)) ++ (c ++ inv (red (inv o ++ (v ++ o))))) = c := by
    have h2 : red (v ++ (w ++ inv v)) = w := by
      have : red (v ++ (w ++ inv v)) = red (red (v ++ w) ++ inv v) := by rw [red_red_app, List.append_assoc]
      rw [this, hc]
      refine to_act hrw ?_
      simp (config := { maxDischargeDepth := 40 }) only [act_app, a_red, a_ired, a_r, a_l, a_Red, a_nil, a_e, inv_app, inv_inv]
    have h3 : red (inv o ++ (w ++ o)) = c := by
      refine to_act h.core.rc ?_
      rw [← h.core.eq]
      simp (config := { maxDischargeDepth := 40 }) only [act_app, a_red, a_ired, a_r, a_l, a_Red, a_nil, a_e, inv_app, inv_inv]
    have h4 : red (red (inv o ++ (v ++ o)) ++ (c ++ inv (red (inv o ++ (v ++ o))))) = red (inv o ++ (red (v ++ (w ++ inv v)) ++ o)) := by
      rw [← h3]
      refine by_act ?_
      simp (config := { maxDischargeDepth := 40 }) only [act_app, a_red, a_ired, a_r, a_l, a_Red, a_nil, a_e, inv_app, inv_inv]
    rw [h4, h2, h3]
  generalize hV : red (inv o ++ (v ++ o)) = V at *
  have hrV : Red V := by rw [← hV]; exact Red.red
  have hcl : 0 < (spelled c).length := List.length_pos_iff.mpr h.cn
  obtain ⟨k, hk⟩ := com_cyc h.per (Lt.spelled c) (cyc_fr h.core.rc h.core.cy) h.cn _ (spelled V) rfl (Lt.spelled V) (Fr.spelled hrV) 0 hcl (by
    rw [rot_zero, red_spelled, red_of h.core.rc]
    rw [← spelled_inv hrV.nz]
    rw [app_congr (red_spelled V) (app_congr (red_spelled c) (red_spelled (inv V)))]
    exact e1)
  rw [List.take_zero, List.append_nil, red_spelled, red_of hrV, red_of Red.pw] at hk
  refine ⟨k, ?_⟩
  unfold rootW
  rw [pw_conj]
  have h5 : Wd.pw (red ((spelled c).take p)) k = V := by
    rw [hk]
    unfold Wd.pw
    split
    · exact rep_congr (by rw [red_of Red.red]) _
    · exact rep_congr (by rw [← red_inv, red_of Red.red]) _
  rw [h5, ← hV]
  refine to_act hv ?_
  simp (config := { maxDischargeDepth := 40 }) only [act_app, a_red, a_ired, a_r, a_l, a_Red, a_nil, a_e, inv_app, inv_inv]
end
end Wd

namespace DL
open PySem PySem.Spec L2 Wd
/-! the store -/
theorem get_app {st l : Store} {k : Nat} {o : O} (h : st[k]? = some o) : (st ++ l)[k]? = some o := by
  rw [List.getElem?_append_left (List.getElem?_eq_some_iff.mp h).1, h]
theorem set_app {st l : Store} {k : Nat} {o o' : O} (h : st[k]? = some o) : (st ++ l).set k o' = st.set k o' ++ l := by
  rw [List.set_append_left _ _ (List.getElem?_eq_some_iff.mp h).1]
theorem get_end {st : Store} {o : O} : (st ++ [o])[st.length]? = some o := by simp
theorem set_end {st : Store} {o o' : O} : (st ++ [o]).set st.length o' = st ++ [o'] := by simp
theorem get_end2 {st : Store} {o u : O} : (st ++ [o, u])[st.length]? = some o := by simp
theorem set_get {st : Store} {k : Nat} {o o' : O} (h : st[k]? = some o) : (st.set k o')[k]? = some o' := by
  rw [List.getElem?_set_self (List.getElem?_eq_some_iff.mp h).1]
theorem set_set {st : Store} {k : Nat} {o o' : O} : (st.set k o).set k o' = st.set k o' := by simp
theorem O.lts_lst {n : Nat} {xs : List D} (h : ∀ d ∈ xs, d.lt n) : O.lt n (.lst xs) := by
  show D.lts n xs
  rw [lts_iff]
  exact h
theorem Wf.set {st : Store} {k : Nat} {o : O} (w : Wf st) (h : o.lt st.length) : Wf (st.set k o) := by
  intro j u e
  rw [List.length_set]
  by_cases hj : k = j
  · subst hj
    by_cases hk : k < st.length
    · rw [List.getElem?_set_self hk] at e
      cases e
      exact h
    · rw [List.getElem?_eq_none (by rw [List.length_set]; omega)] at e
      cases e
  · rw [List.getElem?_set_ne hj] at e
    exact w j u e
theorem Wf.app {st : Store} {o : O} (w : Wf st) (h : o.lt (st.length + 1)) : Wf (st ++ [o]) := by
  intro j u e
  rw [List.length_append, List.length_singleton]
  by_cases hj : j < st.length
  · rw [List.getElem?_append_left hj] at e
    exact O.lt_mono (by omega) u (w j u e)
  · have := (List.getElem?_eq_some_iff.mp e).1
    rw [List.length_append, List.length_singleton] at this
    have : j = st.length := by omega
    subst this
    rw [List.getElem?_append_right (Nat.le_refl _), Nat.sub_self] at e
    simp at e
    subst e
    exact h
/-- the answer leaves the new cells -/
theorem ret_app {n : Nat} {Q : DQ} {d : D} {st0 l : Store} (hn : n = st0.length) (hw : Wf st0) (hd : d.lt n) (h : Q d st0) : Ret n Q d (st0 ++ l) := by
  subst hn
  exact ret_old (Nat.le_refl _) (fun i hi => List.getElem?_append_left hi) hw hd h
theorem ret_eq {n : Nat} {Q : DQ} {d : D} {st0 : Store} (hn : n = st0.length) (hw : Wf st0) (hd : d.lt n) (h : Q d st0) : Ret n Q d st0 := by
  have := ret_app (l := []) hn hw hd h
  rw [List.append_nil] at this
  exact this
/-- the answer is one new cell -/
theorem ret_cell {n k : Nat} {Q : DQ} {o : O} {st0 l : Store} (hn : n = st0.length) (hw : Wf st0) (hk : st0.length ≤ k) (hl : (st0 ++ l)[k]? = some o) (ho : o.lt n) (h : Q (.ref n) (st0 ++ [o])) : Ret n Q (.ref k) (st0 ++ l) := by
  subst hn
  exact ret_new rfl hk (fun i hi => List.getElem?_append_left hi) hw hl ho h
/-! data -/
theorem lt_of_fl {n m : Nat} {d : D} (h : d.fl m = true) : d.lt n := fl_lt m d h
theorem lt_W {n : Nat} {w : Word} : (dW w).lt n := fl_lt 8 _ (fl_W 5 w)
theorem lt_L {n : Nat} {l : Letter} : (dL l).lt n := fl_lt 8 _ (fl_L 7 l)
theorem lt_run {n : Nat} {l : Run} : (dRun l).lt n := fl_lt 8 _ (fl_run 6 l)
theorem lt_runs {n : Nat} (w : List Run) : O.lt n (.lst (w.map dRun)) := O.lts_lst fun d hd => by
  obtain ⟨r, _, rfl⟩ := List.mem_map.mp hd
  exact lt_run
theorem lt_Ls {n : Nat} (w : List Letter) : O.lt n (.lst (w.map dL)) := O.lts_lst fun d hd => by
  obtain ⟨r, _, rfl⟩ := List.mem_map.mp hd
  exact lt_L
theorem lt_Ws {n : Nat} (w : List Word) : O.lt n (.lst (w.map dW)) := O.lts_lst fun d hd => by
  obtain ⟨r, _, rfl⟩ := List.mem_map.mp hd
  exact lt_W
theorem dItems_app {st l : Store} {x : D} {xs : List D} (h : dItems st x = some xs) : dItems (st ++ l) x = some xs := by
  cases x with
  | ref k =>
    unfold dItems at h ⊢
    dsimp only at h ⊢
    split at h
    · rename_i ys e
      rw [get_app e]
      exact h
    · cases h
  | _ => exact h
/-- where a walked thing stands -/
theorem ok_app {st l : Store} {x : D} {xs : List D} (h : dItems st x = some xs) : okOf x xs (st ++ l) := by
  cases x with
  | ref k =>
    unfold dItems at h
    dsimp only at h
    split at h
    · rename_i ys e
      cases h
      exact get_app e
    · cases h
  | _ => trivial
theorem ok_of {st : Store} {x : D} {xs : List D} (h : dItems st x = some xs) : okOf x xs st := by
  have := ok_app (l := []) h
  rw [List.append_nil] at this
  exact this
theorem atI_nn {α : Type} {xs : List α} {i : Int} (h0 : 0 ≤ i) (h1 : i < xs.length) : atI xs i = xs[i.toNat]? := by
  unfold atI ixN
  rw [if_pos h0, if_pos h1]
  rfl
theorem atI_zero {α : Type} {x : α} {xs : List α} : atI (x :: xs) 0 = some x := by
  rw [atI_nn (by omega) (by simp)]
  rfl
theorem atI_one {α : Type} {x y : α} {xs : List α} : atI (x :: y :: xs) 1 = some y := by
  rw [atI_nn (by omega) (by simp; omega)]
  rfl
theorem atI_two {α : Type} {x y z : α} {xs : List α} : atI (x :: y :: z :: xs) 2 = some z := by
  rw [atI_nn (by omega) (by simp; omega)]
  rfl
theorem atI_end {α : Type} (xs : List α) (v : α) : atI (xs ++ [v]) (-1) = some v := atI_last xs v
theorem getLastIx {α : Type} (xs : List α) (v : α) : (xs ++ [v])[(xs ++ [v]).length - 1]? = some v := by simp
theorem item_tup {st : Store} {xs : List D} {i : Int} : dItem st (.tup xs) i = atI xs i := rfl
theorem item_rol {st : Store} {xs : List D} {i : Int} : dItem st (.rol xs) i = atI xs i := rfl
theorem item_ref {st : Store} {k : Nat} {xs : List D} {i : Int} (h : st[k]? = some (.lst xs)) : dItem st (.ref k) i = atI xs i := by
  show (match st[k]? with
    | some (.lst xs) => atI xs i
    | _ => none) = _
  rw [h]
theorem setIx_ref {st : Store} {k : Nat} {xs : List D} {i : Int} {v : D} (h : st[k]? = some (.lst xs)) : dSetIx st (.ref k) i v = (ixN xs.length i).map fun j => st.set k (.lst (xs.set j v)) := by
  show (match st[k]? with
    | some (.lst xs) => (ixN xs.length i).map fun j => st.set k (.lst (xs.set j v))
    | _ => none) = _
  rw [h]
theorem ixN30 : ixN 3 0 = some 0 := rfl
theorem ixN31 : ixN 3 1 = some 1 := rfl
theorem ixN32 : ixN 3 2 = some 2 := rfl
theorem item_run0 {st : Store} {r : Run} : dItem st (dRun r) 0 = some (dL r.1) := atI_zero
theorem item_run1 {st : Store} {r : Run} : dItem st (dRun r) 1 = some (.int r.2) := atI_one
theorem item_W {st : Store} {w : Word} {i : Int} (h0 : 0 ≤ i) (h1 : i < w.length) : ∃ r, w[i.toNat]? = some r ∧ dItem st (dW w) i = some (dRun r) := by
  have hl : i.toNat < w.length := by omega
  refine ⟨w[i.toNat], List.getElem?_eq_getElem hl, ?_⟩
  unfold dW
  rw [item_tup, atI_nn h0 (by rw [List.length_map]; exact h1), List.getElem?_map, List.getElem?_eq_getElem hl]
  rfl
theorem CMulA.left {i j : Int} (h0 : -(2 ^ 64) < i) (h1 : i < 2 ^ 64) : CMulA i j := .inl (.inl ⟨h0, h1⟩)
theorem CMulA.right {i j : Int} (h0 : -(2 ^ 64) < j) (h1 : j < 2 ^ 64) : CMulA i j := .inl (.inr ⟨h0, h1⟩)
theorem small_line {n : Nat} (h : n ≤ 16777216) : n ≤ sizeLine := by rw [sizeLine_eq]; exact h
theorem small_line' {n : Nat} (h : n < 16777216) : n < sizeLine := by rw [sizeLine_eq]; exact h
/-! slices -/
theorem cut_to {xs : List D} {k : Nat} : cutD xs none (some (k : Int)) = xs.take k := by
  unfold cutD
  rw [HT.sIx_none, HT.sIx_nat, List.drop_zero, Nat.sub_zero]
  by_cases h : k ≤ xs.length
  · rw [Nat.min_eq_left h]
  · rw [Nat.min_eq_right (by omega), List.take_length, List.take_of_length_le (by omega)]
theorem cut_from {xs : List D} {k : Nat} : cutD xs (some (k : Int)) none = xs.drop k := by
  unfold cutD
  rw [HT.sIx_none, HT.sIx_nat]
  by_cases h : k ≤ xs.length
  · rw [Nat.min_eq_left h, List.take_of_length_le (by rw [List.length_drop]; omega)]
  · rw [Nat.min_eq_right (by omega), List.drop_eq_nil_of_le (Nat.le_refl _), List.drop_eq_nil_of_le (by omega)]
    simp
theorem cut_toI {xs : List D} {k : Int} (h : 0 ≤ k) : cutD xs none (some k) = xs.take k.toNat := by
  rw [← cut_to, Int.toNat_of_nonneg h]
theorem cut_fromI {xs : List D} {k : Int} (h : 0 ≤ k) : cutD xs (some k) none = xs.drop k.toNat := by
  rw [← cut_from, Int.toNat_of_nonneg h]
/-! pools -/
def IsPool (o : O) : Prop := ∃ c n s : Int, o = .lst [.int c, .int n, .int s] ∧ 0 ≤ c
theorem IsPool.lt {o : O} {n : Nat} (h : IsPool o) : o.lt n := by
  obtain ⟨c, k, s, rfl, _⟩ := h
  exact ⟨trivial, trivial, trivial, trivial⟩
/-! small rules for the readings -/
theorem item_end {st : Store} {xs : List D} {i : Int} : dItem (st ++ [.lst xs]) (.ref st.length) i = atI xs i := item_ref get_end
theorem dgTup_run {t : DTGs} {r : Run} {env : DEnv} {st : Store} {Q : DEnv → Store → Prop} : dgTup 2 t (dRun r) env st Q = t [dL r.1, .int r.2] env st Q := by
  unfold dgTup dRun
  simp
theorem tup_run {l : Letter} {e : Int} : D.tup [dL l, .int e] = dRun (l, e) := rfl
theorem ty_run {st : Store} {r : Run} : D.tyName st (dRun r) = some "tuple" := rfl
theorem ty_L {st : Store} {r : Letter} : D.tyName st (dL r) = some "tuple" := rfl
theorem ty_W {st : Store} {r : Word} : D.tyName st (dW r) = some "tuple" := rfl
theorem dEqv_L0 {st : Store} (l : Letter) : dEqv st (dL l) (.tup []) = some false := by
  rw [dEqv_fl (fl_L 7 l) rfl]
  rfl
theorem item_W' {st : Store} {w : Word} {i : Int} (h0 : 0 ≤ i) (h1 : i < w.length) : dItem st (dW w) i = some (dRun (w[i.toNat]'(by omega))) := by
  obtain ⟨r, h, e⟩ := item_W (st := st) h0 h1
  rw [e, List.getElem?_eq_getElem (by omega)] at *
  cases h
  rfl
theorem isEmpty_snoc {α : Type} (xs : List α) (v : α) : (xs ++ [v]).isEmpty = false := by simp
theorem len_W {w : Word} {st : Store} {Q : DQ} : dLen [dW w] st Q = Q (.int w.length) st := by
  unfold dLen dW
  simp
theorem add_W {u v : Word} {st : Store} {Q : DQ} : dAdd (dW u) (dW v) st Q = (u.length + v.length ≤ sizeLine ∧ Q (dW (u ++ v)) st) := by
  unfold dAdd dW
  simp
theorem sl_to {w : Word} {k : Int} {st : Store} {Q : DQ} (h : 0 ≤ k) : dSl (dW w) none (some k) st Q = Q (dW (w.take k.toNat)) st := by
  unfold dSl dW
  dsimp only
  rw [cut_toI h, List.map_take]
theorem sl_from {w : Word} {k : Int} {st : Store} {Q : DQ} (h : 0 ≤ k) : dSl (dW w) (some k) none st Q = Q (dW (w.drop k.toNat)) st := by
  unfold dSl dW
  dsimp only
  rw [cut_fromI h, List.map_drop]
theorem tup_W1 {r : Run} : D.tup [dRun r] = dW [r] := rfl
end DL

namespace L2
open PySem PySem.Spec PyProof.Rows
theorem tuple_mul1 (l : Addr) (items : Array Value) (n : Nat) (dd : Option Addr) (sl : Array (Option Value)) (x : Int) (u : Tok) (c0 : (decide (x < -(2 ^ 63)) || decide (x ≥ 2 ^ 63)) = false) (c1 : (items.isEmpty || x == 1) = true) :
    Meets (Builtin.«tuple.__mul__» ⟨[.ref l, .int x u], []⟩) (fun _ R s => s.heap.get? l = some { cls := .type "tuple", dict := dd, data := .seq items n, slots := sl } ∧
      R (.ok (.ret (Value.ref l))) s) :=
  .of_wp fun prog w A R s h => by
    obtain ⟨hp, g, d, tk, os⟩ := s
    obtain ⟨hl, h⟩ := h
    have f1 := AutoSeq1.idx_int
    wp_walk using wpAny_loadPart' hl
    repeat (first
      | (refine wpAny_ite_false (decide_eq_false (by rw [c0]; exact Bool.false_ne_true)) ?_; wp_walk using wpAny_loadPart' hl)
      | (refine wpAny_ite_true (decide_eq_true (by rw [c1])) ?_; wp_walk using wpAny_loadPart' hl))
    exact ⟨_, rfl, h⟩
/-- tuple * 1, or of nothing: the tuple itself -/
def rRepT1 (K : PySem.W.Frag) : R2 := fun x y H Q => ∃ l k xs, x = .ref l ∧ y = .int k ∧ SqT K H l xs ∧ k = 1 ∧ Q (.ref l) H
theorem op_repT1 {X : Cx} : OpR X (binaryOp .Mult) (rRepT1 X.K) := by
  intro pins s σ H x y v u Q I rx ry h
  obtain ⟨l, k, xs, rfl, rfl, hT, rfl, q⟩ := h
  cases rx
  obtain ⟨t, rfl⟩ := ry
  obtain ⟨its, r, ⟨⟨cls, dd, data, sl⟩, ho, hc, n, hd⟩, hs⟩ := I.tuple hT
  simp only at hc hd
  subst hc hd
  have c0 : (decide ((1 : Int) < -(2 ^ 63)) || decide ((1 : Int) ≥ 2 ^ 63)) = false := by decide
  have c1 : (its.toArray.isEmpty || (1 : Int) == 1) = true := by simp
  refine wpAny_binaryOp_repeat_ref (T := "tuple") (U := "int") (by decide) ⟨_, ho, rfl⟩ (fun s' => typeIs_int s' 1 t) noFill_tuple_mul F.fills_int_mul F.slot_int_rmul repeat_tuple F.slot_int_index.lookup
    (call_meets F.slot_int_rmul (typeIs_int s 1 t) F.entry_int_rmul (F.args_int_rmul_2 _ _) (int_rmul_tuple 1 t l its.toArray n dd sl)
      ⟨ho, rfl, ⟨_, ho, rfl⟩, call_meets F.slot_tuple_mul ⟨_, ho, rfl⟩ F.entry_tuple_mul (F.args_tuple_mul_2 _ _) (tuple_mul1 l its.toArray n dd sl 1 t c0 c1) ⟨ho, ?_⟩⟩)
  exact ⟨.ref l, H, I, rfl, q⟩
end L2
namespace DL
open PySem PySem.Spec L2
/-! min, max, sum; a star in a display; a tuple many times -/
def dMin : DRA := fun ds st Q => match ds with
  | [.int i, .int j] => Q (.int (if j < i then j else i)) st
  | _ => False
def dMax : DRA := fun ds st Q => match ds with
  | [.int i, .int j] => Q (.int (if j > i then j else i)) st
  | _ => False
theorem sc_min {X : Cx} (hc : X.calm = true) : SCl X (.builtin "min") (fun xs H Q => ∃ i j, xs = [.int i, .int j] ∧ Q (.int (if j < i then j else i)) H) dMin := by
  refine ⟨call_min2 hc, fun ρ st H xs dxs Q W rs px q w => ?_⟩
  unfold dMin at q
  split at q
  · rename_i i j
    obtain ⟨v, u, rfl, r, r'⟩ := px.two
    obtain rfl := rep_int r
    obtain rfl := rep_int r'
    exact ⟨i, j, rfl, w _ H (.of rs (.int _) q)⟩
  · exact q.elim
theorem sc_max {X : Cx} (hc : X.calm = true) : SCl X (.builtin "max") (fun xs H Q => ∃ i j, xs = [.int i, .int j] ∧ Q (.int (if j > i then j else i)) H) dMax := by
  refine ⟨call_max2 hc, fun ρ st H xs dxs Q W rs px q w => ?_⟩
  unfold dMax at q
  split at q
  · rename_i i j
    obtain ⟨v, u, rfl, r, r'⟩ := px.two
    obtain rfl := rep_int r
    obtain rfl := rep_int r'
    exact ⟨i, j, rfl, w _ H (.of rs (.int _) q)⟩
  · exact q.elim
/-- the sum of a list of ints -/
def dSum : DRA := fun ds st Q => ∃ (k : Nat) (ns : List Int), ds = [.ref k] ∧ st[k]? = some (.lst (ns.map D.int)) ∧ Q (.int ns.sum) st
theorem reps_ints {K : PySem.W.Frag} {ρ : List Addr} {H : Hp} : ∀ {ns : List Int} {vs : List V}, Reps K ρ H (ns.map D.int) vs → vs = ns.map V.int
  | [], vs, h => by unfold List.map Reps at h; rw [h]; rfl
  | n :: ns, vs, h => by
    rw [List.map_cons] at h
    unfold Reps at h
    obtain ⟨v, r, rfl, h1, h2⟩ := h
    rw [rep_int h1, reps_ints h2]
    rfl
theorem sc_sum {X : Cx} {K : PySem.W.Frag} [hk : HasK X K] (hc : X.calm = true) : SCl X (.builtin "sum") (rSum K) dSum := by
  obtain rfl := hk.eq
  refine ⟨cr_sum hc, fun ρ st H xs dxs Q W rs px q w => ?_⟩
  obtain ⟨k, ns, rfl, hk, q⟩ := q
  obtain ⟨v, rfl, r⟩ := px.one
  obtain ⟨a, ha, rfl⟩ := rep_ref r
  obtain ⟨vs, hv, hr⟩ := rs.lst ha hk
  obtain rfl := reps_ints hr
  exact ⟨a, ns, rfl, SqL.of hv, w _ H (.of rs (.int _) q)⟩
def dStar (de : DTE) (dr : DTA) : DTA := fun env st Q => de env st fun x st1 => (match x with | .str _ => False | _ => True) ∧ match dItems st1 x with
  | some xs => dr env st1 fun ys st2 => Q (xs ++ ys) st2
  | none => False
section
variable {X : Cx} {e : Expr} {es : List Expr} {te : TE} {t : TA} {de : DTE} {da : DTA} {p pos : Pos}
theorem sa_star {K : PySem.W.Frag} [hk : HasK X K] (he : SE X e te de) (hr : SA X es t da) (hs : starEach (.Starred e p :: es) X.env = (true, eval e X.env) :: starEach es X.env := by rfl) : SA X (.Starred e p :: es) (StX.tStar K te t) (dStar de da) := by
  obtain rfl := hk.eq
  refine ⟨StX.pa_star he.pe hr.pa hs, fun ρ env st σ H Q W rs re q w => ?_⟩
  refine he.sim ρ env st σ H _ _ rs re q fun x H1 ⟨ρ1, dx, st1, k1, r1, px, q1⟩ => ?_
  obtain ⟨hz, q1⟩ := q1
  split at q1
  · rename_i items e1
    have go : ∀ (a : Addr) (vs : List V), (SqT X.K H1 a vs ∨ SqL X.K H1 a vs) → Reps X.K ρ1 H1 items vs → x = .ref a → StX.tStar X.K te t σ H1 W ∨ True := fun _ _ _ _ _ => .inr trivial
    clear go
    have fin : ∀ (a : Addr) (vs : List V), x = .ref a → (SqT X.K H1 a vs ∨ SqL X.K H1 a vs) → Reps X.K ρ1 H1 items vs → ∃ p xs, x = V.ref p ∧ (SqT X.K H1 p xs ∨ SqL X.K H1 p xs) ∧ t σ H1 fun ys H2 => W (xs ++ ys) H2 := by
      intro a vs ea hs hrr
      refine ⟨a, vs, ea, hs, ?_⟩
      refine hr.sim ρ1 env st1 σ H1 _ _ r1 (re.keep k1) q1 fun ys H2 ⟨ρ2, ds, st2, k2, r2, pys, q2⟩ => ?_
      exact w _ H2 ⟨ρ2, _, st2, k1.trans k2, r2, (hrr.keep k2).app pys, q2⟩
    cases dx with
    | tup xs =>
      cases e1
      obtain ⟨a, vs, rfl, hs, hrr⟩ := rep_tup px
      exact fin a vs rfl (.inl hs) hrr
    | rol xs =>
      cases e1
      obtain ⟨a, vs, rfl, hs, hrr⟩ := rep_rol px
      exact fin a vs rfl (.inr (sqf_l hs)) hrr
    | ref n =>
      obtain ⟨a, ha, rfl⟩ := rep_ref px
      unfold dItems at e1
      dsimp only at e1
      split at e1
      · rename_i xs e3
        cases e1
        obtain ⟨vs, hv, hrr⟩ := r1.lst ha e3
        exact fin a vs rfl (.inr (SqL.of hv)) hrr
      · cases e1
    | str z => exact hz.elim
    | _ => cases e1
  · exact q1.elim
end
/-! tuple * int, at least once -/
def dMulT : DR2 := fun x y st Q => match x, y with
  | .tup a, .int n => a ≠ [] ∧ 1 ≤ n ∧ n ≤ 1000 ∧ a.length ≤ 1000 ∧ Q (.tup (List.replicate n.toNat a).flatten) st
  | x, y => dMul x y st Q
def rMulT (K : PySem.W.Frag) : R2 := fun x y H Q => rMulAll x y H Q ∨ (rRepT K x y H Q ∨ rRepT1 K x y H Q)
theorem sim_mulT {K : PySem.W.Frag} : SimR2 K (rMulT K) dMulT := by
  intro ρ st H x y dx dy Q W rs px py q w
  by_cases h : ∃ a n, dx = .tup a ∧ dy = .int n
  · obtain ⟨a, n, rfl, rfl⟩ := h
    obtain ⟨h1, h2, h3, h4, q⟩ := q
    have px' := px
    obtain ⟨l, vs, rfl, hs, hr⟩ := rep_tup px
    obtain rfl := rep_int py
    by_cases hn : n = 1
    · subst hn
      have e : (List.replicate (1 : Int).toNat a).flatten = a := by simp
      rw [e] at q
      exact .inr (.inr ⟨l, 1, vs, rfl, rfl, hs, rfl, w _ _ (.of rs px' q)⟩)
    · refine .inr (.inl ⟨l, n, vs, rfl, rfl, hs, ?_, by omega, h3, by rw [← hr.len]; exact h4, fun p hp => w _ _ (.tup rs hp (hr.repl _) q)⟩)
      rintro rfl
      exact h1 (List.eq_nil_of_length_eq_zero hr.len)
  · have q' : dMul dx dy st Q := by
      cases dx with
      | tup a =>
        cases dy with
        | int n => exact absurd ⟨a, n, rfl, rfl⟩ h
        | _ => exact q
      | _ => exact q
    exact .inl (sim_mul ρ st H x y dx dy Q W rs px py q' w)
theorem so_mulT {X : Cx} {K : PySem.W.Frag} [hk : HasK X K] : SOp X (binaryOp .Mult) (rMulT K) dMulT := by
  obtain rfl := hk.eq
  exact ⟨.or so_mul.op (.or op_repT op_repT1), sim_mulT⟩
/-! f(a, k = b) -/
def gK {α : Type} (n m : Nat) (us ws : List α) : List α := if us.length = n ∧ ws.length = m then us ++ ws else []
structure SK (X : Cx) (kws : List Keyword) (t : TA) (da : DTA) : Prop where
  pk : PK X kws t
  sim : SimA X.K t da
def dCallK (n m : Nat) (dsp : DSp) (da dk : DTA) : DTE := fun env st Q => da env st fun ds st1 => dk env st1 fun zs st2 => dsp (gK n m ds zs) st2 Q
section
variable {X : Cx} {k : Nat} {f : Addr} {fd : FuncData} {ps ks : List Str} {dsp : DSp} {x : Str} {p pos kpos : Pos} {e : Expr} {es : List Expr} {t tk : TA} {te : TE} {de : DTE} {da dk : DTA} {kws : List Keyword} {nm : Option Str} {n m : Nat}
theorem sk_nil : SK X [] tNil dNil := ⟨pk_nil, fun ρ env st σ H Q W rs re q w => w [] H ⟨ρ, [], st, Keep.refl, rs, Reps.nil, q⟩⟩
theorem sk_cons (ha : SE X e te de) (hr : SK X kws t da) : SK X (⟨nm, e, kpos⟩ :: kws) (tCons te t) (dCons de da) := by
  refine ⟨pk_cons ha.pe hr.pk, fun ρ env st σ H Q W rs re q w => ?_⟩
  refine ha.sim ρ env st σ H _ _ rs re q fun x H1 ⟨ρ1, dx, st1, k1, r1, px, q1⟩ => ?_
  refine hr.sim ρ1 env st1 σ H1 _ _ r1 (re.keep k1) q1 fun xs H2 ⟨ρ2, ds, st2, k2, r2, pxs, q2⟩ => ?_
  exact w _ H2 ⟨ρ2, _, st2, k1.trans k2, r2, .cons (px.keep k2) pxs, q2⟩
theorem se_callK {K : PySem.W.Frag} [hK : HasK X K] (F : FnOk X.prog X.w K X.mg X.base CX0 k f fd ps (spOf K dsp)) (hr : Room k X.A) (hg : Gl X x) (hm : X.mg x = some (.ref f)) (hk : PySem.W.keepIn K (.ref f) = true) (hb : KBinds K fd ps ks (gK n m) (gK n m))
    (ha : SA X (e :: es) t da) (hkw : SK X kws tk dk) (hall : (backToKw pos (keywordEach kws X.env)).all (·.1.isSome) = true := by rfl) (hks : (backToKw pos (keywordEach kws X.env)).filterMap (·.1) = ks := by rfl)
    (hdb : (x == ("__debug__" : Str)) = false := by decide) (he : starEach (e :: es) X.env = (false, eval e X.env) :: starEach es X.env := by rfl)
    (hpl : ((backTo pos (starEach (e :: es) X.env)).any (·.1) || (backToKw pos (keywordEach kws X.env)).any (·.1.isNone)) = false := by rfl) :
    SE X (.Call (.Name x p) (e :: es) kws pos) (tCallK (spOf K dsp) (gK n m) E0 t tk) (dCallK n m dsp da dk) := by
  obtain rfl := hK.eq
  refine ⟨pe_callK F hr hg hm hk hb pass0 ha.pa hkw.pk hall hks hdb he hpl, fun ρ env st σ H Q W rs re q w => ?_⟩
  refine ha.sim ρ env st σ H _ _ rs re q fun xs H1 ⟨ρ1, ds, st1, k1, r1, px, q1⟩ => ?_
  refine hkw.sim ρ1 env st1 σ H1 _ _ r1 (re.keep k1) q1 fun zs H2 ⟨ρ2, dz, st2, k2, r2, pz, q2⟩ => ?_
  refine ⟨ρ2, gK n m ds dz, st2, Q, r2, ?_, q2, fun v H' pq => w v H' ((pq.keep k2).keep k1)⟩
  unfold gK
  rw [← px.len, ← pz.len]
  split
  · exact (px.keep k2).app pz
  · exact Reps.nil
end
theorem kbinds_mk {K : PySem.W.Frag} {fd : FuncData} {ps ks : List Str} {n m : Nat} (hn : ps.length = n + m) (hm : ks.length = m) (h0 : 0 < n + m) (h : ∀ us ws : List Value, us.length = n → ws.length = m → bindArgs fd ⟨us, ks.zip ws⟩ = pure (ps.zip (us ++ ws))) : KBinds K fd ps ks (gK n m) (gK n m) := by
  refine ⟨fun s us ws _ hl => ?_, fun {vs us zs ws} r1 r2 => ?_⟩
  · unfold gK at hl ⊢
    split at hl
    · rename_i hc
      rw [if_pos hc]
      exact .of_eq (h us ws hc.1 hc.2)
    · rw [List.length_nil] at hl
      omega
  · unfold gK
    rw [r1.length, r2.length]
    split
    · exact r1.append r2
    · exact .nil
end DL
namespace L2
open PySem PySem.Spec PyProof.Rows
theorem list_extend_tup (l : Addr) (items : Array Value) (n : Nat) (b : Addr) (items2 : Array Value) (n2 : Nat) (dd : Option Addr) (sl : Array (Option Value)) (hs0 : ¬(!items.isEmpty && Builtin.List.listTooLong (items.size + items2.size)) = true) (hs1 : items.size ≤ sizeLine) (hs2 : items.size + items2.size ≤ sizeLine + 1) :
    Meets (Builtin.«list.extend» ⟨[.ref l, .ref b], []⟩) (fun _ R s => s.heap.get? l = some { cls := .type "list", dict := none, data := .seq items n, slots := #[] } ∧ s.heap.get? b = some { cls := .type "tuple", dict := dd, data := .seq items2 n2, slots := sl } ∧ R (.ok (.ret Value.none)) { s with heap := s.heap.update l (Obj.mapSeq fun x => x ++ items2), toks := s.toks }) :=
  .of_wp fun prog w A R s h => by
    obtain ⟨hp, g, d, tk, os⟩ := s; obtain ⟨hl, hb, h⟩ := h; have f1 := AutoSeq1.idx_int; have f2 := AutoSeq1.sub_tuple_tuple; have f3 := AutoSeq1.sub_list_list; have f4 := AutoSeq1.sub_tuple_list; have f5 := AutoSeq1.sub_list_tuple;
    have hz' : (items ++ items2).size ≤ sizeLine + 1 := by rw [Array.size_append]; exact hs2
    wp_walk using (wpAny_updateSeq hl rfl (hz := hs1) (_hz' := hz')), wpAny_loadPart' hl, wpAny_loadPart' hb; exact ⟨_, rfl, h⟩
def rExtT (K : PySem.W.Frag) : V → List V → Hp → VK → Prop := fun x vs H Q => ∃ l b xs zs, x = .ref l ∧ vs = [.ref b] ∧ H l = some (.lst xs) ∧ SqT K H b zs ∧ xs.length + zs.length ≤ sizeLine ∧ Q .non (upd H l (.lst (xs ++ zs)))
theorem mt_extT {X : Cx} : MtM X "list.extend" (rExtT X.K) := by
  intro pins s σ H x vs v us Q I rx rv h
  obtain ⟨l, b, xs, zs, rfl, rfl, hH, hB, hz, q⟩ := h
  cases rx
  obtain ⟨u, rfl, ru⟩ := rv.one
  cases ru
  obtain ⟨z, its, n, r, hl, e⟩ := I.lstM hH
  obtain ⟨its2, r2, ⟨⟨cls, dd, data, sl⟩, ho, hc, n2, hd⟩, hs⟩ := I.tuple hB
  simp only at hc hd
  subst hc hd
  have hl2 : its2.length = zs.length := r2.length.symm
  have hl1 : its.length = xs.length := r.length.symm
  have hsz : its.toArray.size + its2.toArray.size ≤ sizeLine := by rw [List.size_toArray, List.size_toArray]; omega
  have hlong : ¬ (!its.toArray.isEmpty && Builtin.List.listTooLong (its.toArray.size + its2.toArray.size)) = true := by
    rw [notLongL hsz, Bool.and_false]
    exact Bool.false_ne_true
  refine call_meets F.slot_list_extend ⟨_, e, rfl⟩ F.entry_list_extend (F.args_list_extend_2 _ _)
    (list_extend_tup l its.toArray n b its2.toArray n2 dd sl hlong (by rw [List.size_toArray]; omega) (by omega)) ⟨e, ho, ?_⟩
  refine ⟨.non, _, I.lset (its' := its ++ its2) hH e (by simp) (r.append r2) ?_, rfl, q⟩
  rw [List.length_append]
  omega
def rExtA (K : PySem.W.Frag) : V → List V → Hp → VK → Prop := fun x vs H Q => rExtend x vs H Q ∨ rExtT K x vs H Q
theorem mt_extA {X : Cx} : MtM X "list.extend" (rExtA X.K) := by
  intro pins s σ H x vs v us Q I rx rv h
  rcases h with h | h
  · exact mt_extend _ _ _ _ _ _ _ _ _ I rx rv h
  · exact mt_extT _ _ _ _ _ _ _ _ _ I rx rv h
end L2
namespace DL
open PySem PySem.Spec L2
def dExtT : DRM := fun x ds st Q => match x, ds with
  | .ref k, [.tup ys] => match st[k]? with
    | some (.lst xs) => xs.length + ys.length ≤ sizeLine ∧ Q .non (st.set k (.lst (xs ++ ys)))
    | _ => False
  | _, _ => False
theorem sim_extT {K : PySem.W.Frag} : SimRM K (rExtA K) dExtT := by
  intro ρ st H x dx xs dxs Q W rs px pxs q w
  unfold dExtT at q
  split at q
  · obtain ⟨a, ha, rfl⟩ := rep_ref px
    obtain ⟨v, rfl, pv⟩ := pxs.one
    obtain ⟨b, vs2, rfl, hs, hr2⟩ := rep_tup pv
    split at q
    · rename_i ys e1
      obtain ⟨vs, hv, hr⟩ := rs.lst ha e1
      exact .inr ⟨a, b, vs, vs2, rfl, rfl, hv, hs, by rw [← hr.len, ← hr2.len]; exact q.1, w _ _ (.put rs ha hv (hr.app hr2) .non q.2)⟩
    · exact q.elim
  · exact q.elim
section
variable {X : Cx} {o e : Expr} {es : List Expr} {to : TE} {t : TA} {dO : DTE} {da : DTA} {pos apos : Pos}
theorem se_extendT {K : PySem.W.Frag} [hk : HasK X K] (ho : SE X o to dO) (ha : SA X (e :: es) t da) (hbase : attributeBase o "extend" X.env (eval o X.env) = eval o X.env := by rfl)
    (hfew : ((backTo pos (starEach (e :: es) X.env)).all (fun x => !x.1) && (backToKw pos (keywordEach [] X.env)).all (fun x => x.1.isSome)
      && decide ((e :: es).length + ([] : List Keyword).length + (if ([] : List Keyword).isEmpty then 0 else 1) < 30)) = true := by rfl)
    (hline : (apos.endLine == pos.line) = true := by rfl) (hs : starEach (e :: es) X.env = (false, eval e X.env) :: starEach es X.env := by rfl) (hplain : (backTo pos (starEach es X.env)).any (·.1) = false := by rfl) :
    SE X (.Call (.Attribute o "extend" apos) (e :: es) [] pos) (tBM K "list" (rExtA K) to t) (dBM dExtT dO da) := by
  obtain rfl := hk.eq
  exact ⟨pe_bm PySem.F.plainAttrs_list PySem.F.slot_list_extend PySem.F.type_list_extend mt_extA ho.pe ha.pa hbase hfew hline hs hplain, sim_bm sim_extT ho.sim ha.sim⟩
end
end DL

/-! for loops in the body of a generator -/
namespace L2
open PySem PySem.Spec PyProof.Rows GenW
section
variable {M : Model} {A : Around} {R : GenEnd} {Y : Protocol} {n : Nat} {s₀ : Shared} {c : Code} {fs : List Frame} {s : Shared} {env : Env}
  {K : Flow → Sem PySem.Fin} {H : Value → Sem PySem.Fin} {gd : Bool → Bool} {lv : List Value → List Value}
theorem seg_For {target iter : Expr} {body : List Stmt} {pos : Pos}
    (h : wpAny M (A.over c fs) (eval iter env) (fun x s₁ => wpAny M (A.over c fs) (pyIter x) (fun it s₂ => ∀ p,
      Seg M A R Y n s₀ (.forLoop target it body [] env) (M.den (.forLoop target it body [] env))
      (.ret (fun r => ((match r with | .ok f => (.pure f : Sem Flow) | .error e => .raise e).onRaise (cameBack env)).wrap K H gd lv) none (gd false) (lv []) c p [] :: fs) s₂)
        (fun e s' => Seg M A R Y n s₀ c (H e) fs s') s₁) (fun e s' => Seg M A R Y n s₀ c (H e) fs s') s)
    (hs : ∀ x, foldedSetIterable iter env x = pure x := by intro _; rfl) :
    Seg M A R Y n s₀ c ((exec (.For target iter body [] pos) env).wrap K H gd lv) fs s := by
  rw [exec_For]
  show Seg M A R Y n s₀ c (.at pos fun _ => Sem.wrap K H gd lv (eval iter env >>= fun v => foldedSetIterable iter env v >>= fun x => standAt iter.pos >>= fun _ => holding [x] (pyIter x) >>= fun it => runOwn (.forLoop target it body [] env) env)) fs s
  refine seg_at ?_
  rw [Sem.bind_eq_wrap', Sem.wrap_wrap]
  refine seg_wrap (wpAny_mono h (fun x s1 h1 => ?_) fun _ _ z => z)
  rw [hs x]
  show Seg M A R Y n s₀ c (.at iter.pos fun _ => Sem.wrap K H gd lv (holding [x] (pyIter x) >>= fun it => runOwn (.forLoop target it body [] env) env)) fs s1
  refine seg_at ?_
  rw [Sem.bind_eq_wrap', Sem.wrap_wrap]
  refine seg_wrap (wpAny_holding (wpAny_mono h1 (fun it s2 h2 => ?_) fun _ _ z => z))
  exact seg_call h2
end
section
variable {prog : Program} {w : World} {A : Around} {R : GenEnd} {Y : Protocol} {n : Nat} {s₀ : Shared} {fs : List Frame} {s : Shared} {env : Env}
abbrev NF (x : Value) (env : Env) : Sem PySem.Fin := (do noteFrame x env; theTreesLotGoes x : Sem Unit).wrap (fun _ => .raise x) .raise id id
theorem seg_forLoop {target : Expr} {it : Value} {body : List Stmt}
    (h : wpAny (model prog w) (A.over (.forLoop target it body [] env) fs) (pyNext it) (fun r s₁ => match r with
      | none => Seg (model prog w) A R Y n s₀ (.forLoop target it body [] env) (.pure (.again (.block [] env))) fs s₁
      | some v => wpAny (model prog w) (A.over (.forLoop target it body [] env) fs) (letOwnedTupleGo target it v) (fun _ s₁' =>
          wpAny (model prog w) (A.over (.forLoop target it body [] env) fs) (assign target env v) (fun _ s₂ =>
            Seg (model prog w) A R Y n s₀ (.forLoop target it body [] env) ((execs body env).wrap (fun f => match f with
              | .next | .cont => .pure (.again (.forLoop target it body [] env))
              | .brk => .pure (.done .next)
              | .ret v => .pure (.done (.ret v))) (fun e => NF e env) id id) fs s₂)
            (fun e s' => Seg (model prog w) A R Y n s₀ (.forLoop target it body [] env) (NF e env) fs s') s₁')
          (fun e s' => Seg (model prog w) A R Y n s₀ (.forLoop target it body [] env) (NF e env) fs s') s₁)
      (fun e s' => Seg (model prog w) A R Y n s₀ (.forLoop target it body [] env) (NF e env) fs s') s) :
    Seg (model prog w) A R Y n s₀ (.forLoop target it body [] env) ((model prog w).den (.forLoop target it body [] env)) fs s := by
  have nf : ∀ e, ((do noteFrame e env; theTreesLotGoes e : Sem Unit).bind fun _ => (.raise e : Sem PySem.Fin)) = NF e env := fun e => Sem.bind_eq_wrap _ _
  show Seg _ A R Y n s₀ _ ((forTurn target it body [] env).onRaise (fun x => do noteFrame x env; theTreesLotGoes x)) fs s
  unfold forTurn
  rw [Sem.onRaise_eq_wrap]
  simp only [nf]
  refine seg_at ?_
  show Seg _ A R Y n s₀ _ (Sem.wrap _ _ _ _ (((pyNext it).onRaise _) >>= _)) fs s
  rw [Sem.bind_eq_wrap', Sem.wrap_wrap]
  refine seg_wrap (wpAny_onRaise (wpAny_mono h (fun r s1 h1 => ?_) fun e s' h' => wpAny_standAt h'))
  cases r with
  | none => exact h1
  | some v =>
    show Seg _ A R Y n s₀ _ (Sem.wrap _ _ _ _ ((letOwnedTupleGo target it v) >>= _)) fs s1
    rw [Sem.bind_eq_wrap', Sem.wrap_wrap]
    refine seg_wrap (wpAny_mono h1 (fun _ s2 h2 => ?_) fun e s' h' => h')
    show Seg _ A R Y n s₀ _ (Sem.wrap _ _ _ _ ((assign target env v) >>= _)) fs s2
    rw [Sem.bind_eq_wrap', Sem.wrap_wrap]
    refine seg_wrap (wpAny_mono h2 (fun _ s3 h3 => ?_) fun e s' h' => h')
    show Seg _ A R Y n s₀ _ (Sem.wrap _ _ _ _ ((execs body env) >>= _)) fs s3
    rw [Sem.bind_eq_wrap', Sem.wrap_wrap]
    refine Eq.mpr (congrArg (fun t => Seg (model prog w) A R Y n s₀ (.forLoop target it body [] env) t fs s3) (Sem.wrap_congr (execs body env) id id (fun f => ?_) (fun e => ?_))) h3
    · cases f <;> rfl
    · rfl
end
/-- a for loop that hands out -/
def tGFor (wi : TI) (g : TG) (tb : TGn) : TGn := fun D ys σ H => wi σ H fun J H1 => ∃ W : Nat → Nat → List V → St → Hp → Prop, (∃ m, W 0 m ys σ H1) ∧ ∀ i m ys σ H, W i m ys σ H →
  (J.stop i H ∧ D.nx ys σ H) ∨ (J.go i H ∧ ∃ N : List V → St → Hp → Prop, (∀ ys' σ' H', N ys' σ' H' → ∃ m', m' < m ∧ W (i + 1) m' ys' σ' H') ∧ ∀ x H', J.yld i H x H' → g x σ H' fun σ2 H2 => tb { D with nx := N, ct := N, bk := D.nx } ys σ2 H2)
section
variable {X : Cx}
theorem gs_for {tg iter : Expr} {body : List Stmt} {wi : TI} {g : TG} {tb : TGn} {pos : Pos} (hp : PassesOwn (model X.prog X.w) X.A X.env X.xe) (hc : X.calm = true) (hi : PI X tg iter wi) (hg : PG X tg g) (hb : GSs X body tb)
    (hs : ∀ x, foldedSetIterable iter X.env x = pure x := by intro _; rfl) : GS X (.For tg iter body [] pos) (tGFor wi g tb) := by
  refine ⟨fun A S ip R n ys s₀ c fs K J gd lv s σ H D gc hn k hI ht => ?_⟩
  obtain ⟨acc, cc, r, I⟩ := hI
  refine seg_For ?_ hs
  rw [gc.over]
  refine wpAny_mono (hi.run _ s σ H _ I ht) (fun v s1 h1 => wpAny_mono h1 (fun itv s2 h2 => ?_) fun e s' hx => k.exc n s₀ e s' hx) fun e s' hx => k.exc n s₀ e s' hx
  intro p
  obtain ⟨it, fp, tn, Jt, H2, e, I2, T, st2, f2, W, ⟨m0, w0⟩, turn⟩ := h2
  subst e
  have gl := fun (kk : Result → Sem PySem.Fin) => gc_loop (k := kk) (c' := .forLoop tg (.ref it) body [] X.env) (l := lv []) (kp := []) (p := p) gc rfl rfl
  have stat : ∀ {o : Obj} {H' : Hp}, (∀ b ∈ fp, H' b = none) → ∀ b ∈ fp, FpOk X ((S, o) :: ip) H' b := fun {o H'} hn b hb => by
    obtain ⟨_, f1, f3, f4, f5, f6⟩ := f2 b hb
    refine ⟨hn b hb, f1, f3, f4, f5, fun q hq => ?_⟩
    rcases List.mem_append.mp hq with hq | hq
    · exact f6 q (List.mem_append_left _ hq)
    · rcases List.mem_cons.mp hq with hq | hq
      · have := f6 (S, lstObj acc cc) (List.mem_append_right _ List.mem_cons_self)
        rw [hq]
        exact this
      · exact f6 q (List.mem_append_right _ (List.mem_cons_of_mem _ hq))
  have loop : ∀ (m n : Nat) (ys : List V) (s₀ s : Shared) (σ : St) (H : Hp) (i : Nat) (acc : Array Value) (cc : Nat), n + ys.length = sizeLine → Vals ys acc.toList → Inv X ((S, lstObj acc cc) :: ip) σ H s → tn i s.heap → (∀ b ∈ fp, H b = none) → W i m ys σ H →
      Seg (model X.prog X.w) A R (GY X S) n s₀ (.forLoop tg (.ref it) body [] X.env) ((model X.prog X.w).den (.forLoop tg (.ref it) body [] X.env))
        (.ret (fun r => ((match r with | .ok f => (.pure f : Sem Flow) | .error e => .raise e).onRaise (cameBack X.env)).wrap K J gd lv) none (gd false) (lv []) c p [] :: fs) s := by
    intro m
    induction m using Nat.strongRecOn with
    | ind m ih =>
      intro n ys s₀ s σ H i acc cc hn r I st fr w
      have ee : ∀ (n : Nat) (s₀ : Shared) (x : Value) (s' : Shared), X.xe x s' → Seg (model X.prog X.w) A R (GY X S) n s₀ (.forLoop tg (.ref it) body [] X.env) (NF x X.env)
          (.ret (fun r => ((match r with | .ok f => (.pure f : Sem Flow) | .error e => .raise e).onRaise (cameBack X.env)).wrap K J gd lv) none (gd false) (lv []) c p [] :: fs) s' := fun n s₀ x s' hx => by
        refine seg_wrap ?_
        rw [(gl _).over]
        refine wpAny_bind (wpAny_mono (hp x s' hx) (fun _ s'' hcb => wpAny_theTreesLotGoes ?_) fun y s'' hcb => ?_)
        · exact seg_leaf (.error x) (seg_cameBack gc k hcb)
        · exact seg_leaf (.error y) (seg_cameBack gc k hcb)
      refine seg_forLoop ?_
      rw [(gl _).over]
      rcases turn i m ys σ H w with ⟨stop, qn⟩ | ⟨go, N, hN, step⟩
      · refine wpAny_mono (T.done X rfl rfl rfl hc i _ s σ H X.xe I (stat fr) st stop) (fun rr s4 h4 => ?_) fun x s' hx => ee n s₀ x s' hx
        obtain ⟨hr, I4⟩ := h4
        subst hr
        refine seg_again rfl ?_
        exact seg_leaf (.ok .next) (k.ok n ys s₀ s4 .next hn ⟨σ, H, ⟨acc, cc, r, I4⟩, qn⟩)
      · refine wpAny_mono (T.item X rfl rfl rfl hc i _ s σ H X.xe I (stat fr) st go) (fun rr s4 h4 => ?_) fun x s' hx => ee n s₀ x s' hx
        obtain ⟨u, hr, h4⟩ := h4
        subst hr
        refine wpAny_mono h4 (fun _ s5 h5 => ?_) fun x s' hx => ee n s₀ x s' hx
        obtain ⟨x, H5, I5, r5, y5, st5, fr5⟩ := h5
        have I5' := I5.pinned (stat fr5) (T.obj _ _ st5)
        refine wpAny_mono (hg.run _ s5 σ H5 x u _ I5' r5 (step x H5 y5)) (fun _ s6 h6 => ?_) fun x s' hx => ee n s₀ x s' hx
        obtain ⟨σ6, H6, I6, q6⟩ := h6
        have gcB : GC X S (ip ++ pinsAt fp s5.heap) A (.forLoop tg (.ref it) body [] X.env) (.ret (fun r => ((match r with | .ok f => (.pure f : Sem Flow) | .error e => .raise e).onRaise (cameBack X.env)).wrap K J gd lv) none (gd false) (lv []) c p [] :: fs) id :=
          ⟨gc.pn, fun q hq => by
              rcases List.mem_append.mp hq with hq | hq
              · exact gc.ip q hq
              · obtain ⟨hb, _⟩ := of_pinsAt hq
                have := (stat (o := lstObj acc cc) fr5 q.1 hb).2.2.2.2.2 (S, lstObj acc cc) (List.mem_append_right _ List.mem_cons_self)
                exact fun z => this z.symm, gc.apart, (gl _).over, (gl _).split, (gl _).guard, rfl⟩
        refine hb.run A S (ip ++ pinsAt fp s5.heap) R n ys s₀ _ _ _ _ id id s6 σ6 H6 { D with nx := N, ct := N, bk := D.nx } gcB hn ⟨fun n' ys' s₀' s7 f hn' hs => ?_, fun n' s₀' x s7 hx => ee n' s₀' x s7 hx⟩ ⟨acc, cc, r, I6⟩ q6
        have again : ∀ {σ7 : St} {H7 : Hp}, GI X S (ip ++ pinsAt fp s5.heap) ys' σ7 H7 s7 → N ys' σ7 H7 → Seg (model X.prog X.w) A R (GY X S) n' s₀' (.forLoop tg (.ref it) body [] X.env) (.pure (.again (.forLoop tg (.ref it) body [] X.env)))
            (.ret (fun r => ((match r with | .ok f => (.pure f : Sem Flow) | .error e => .raise e).onRaise (cameBack X.env)).wrap K J gd lv) none (gd false) (lv []) c p [] :: fs) s7 := fun {σ7 H7} h7 n7 => by
          obtain ⟨acc', cc', r', I7⟩ := h7
          obtain ⟨m', hm, w7⟩ := hN ys' σ7 H7 n7
          have pa : ∀ b ∈ fp, ∀ o, s5.heap.get? b = some o → s7.heap.get? b = some o ∧ H7 b = none := fun b hb o e => by
            have := I7.pin (b, o) (List.mem_append_right _ (List.mem_cons_of_mem _ (List.mem_append_right _ (mem_pinsAt hb e))))
            exact ⟨this.1, this.2.1⟩
          have I7' : Inv X ((S, lstObj acc' cc') :: ip) σ7 H7 s7 := I7.pins_of fun q hq => by
            rcases List.mem_cons.mp hq with hq | hq
            · rw [hq]; exact I7.pin _ (List.mem_append_right _ List.mem_cons_self)
            · exact I7.pin q (List.mem_append_right _ (List.mem_cons_of_mem _ (List.mem_append_left _ hq)))
          refine seg_again rfl (ih m' hm n' ys' s₀' s7 σ7 H7 (i + 1) acc' cc' hn' r' I7' (T.keep _ _ _ st5 fun b hb o e => (pa b hb o e).1) (fun b hb => ?_) w7)
          obtain ⟨o, e, _⟩ := T.obj _ _ st5 b hb
          exact (pa b hb o e).2
        have less : ∀ {σ7 : St} {H7 : Hp}, GI X S (ip ++ pinsAt fp s5.heap) ys' σ7 H7 s7 → GI X S ip ys' σ7 H7 s7 := fun {σ7 H7} h7 => by
          obtain ⟨acc', cc', r', I7⟩ := h7
          refine ⟨acc', cc', r', I7.pins_of fun q hq => ?_⟩
          rcases List.mem_cons.mp hq with hq | hq
          · rw [hq]; exact I7.pin _ (List.mem_append_right _ List.mem_cons_self)
          · exact I7.pin q (List.mem_append_right _ (List.mem_cons_of_mem _ (List.mem_append_left _ hq)))
        cases f with
        | next =>
          obtain ⟨σ7, H7, I7, n7⟩ := hs
          exact again I7 n7
        | cont =>
          obtain ⟨σ7, H7, I7, n7⟩ := hs
          exact again I7 n7
        | brk =>
          obtain ⟨σ7, H7, I7, q7⟩ := hs
          exact seg_leaf (.ok .next) (k.ok n' ys' s₀' s7 .next hn' ⟨σ7, H7, less I7, q7⟩)
        | ret v =>
          obtain ⟨x7, σ7, H7, I7, r7, q7⟩ := hs
          exact seg_leaf (.ok (.ret v)) (k.ok n' ys' s₀' s7 (.ret v) hn' ⟨x7, σ7, H7, less I7, r7, q7⟩)
  exact loop m0 n ys s₀ s2 σ H2 0 acc cc hn r I2 st2 (fun b hb => (f2 b hb).1) w0
end
end L2

/-! generators over data -/
namespace DL
open PySem PySem.Spec L2
instance {P : Program} {w : World} {K : PySem.W.Frag} {mg : Str → Option Value} {base : Heap} {N : List Str} {qual : Str} {scope : Scope} {f : Addr} {cd : Value} {A : Around} {outer : List Env} {s : Shared} {H : Hp} {E : XK} {pn : List (Addr × Obj)} : HasK (gcxOf P w K mg base N qual scope f cd A outer s H E pn) K := ⟨rfl⟩
structure DGEnds where
  nx : List D → DEnv → Store → Prop
  rt : List D → DQ
  bk : List D → DEnv → Store → Prop := fun _ _ _ => False
  ct : List D → DEnv → Store → Prop := fun _ _ _ => False
abbrev DTGn := DGEnds → List D → DEnv → Store → Prop
structure GEndsOk (K : PySem.W.Frag) (ρ : List Addr) (H : Hp) (d : DGEnds) (W : GEnds) : Prop where
  nx : ∀ ys σ' H' ρ' ds env' st', Keep ρ ρ' H H' → RelS K ρ' H' st' → RelE K ρ' H' env' σ' → Reps K ρ' H' ds ys → d.nx ds env' st' → W.nx ys σ' H'
  rt : ∀ ys v H' ρ' ds x st', Keep ρ ρ' H H' → RelS K ρ' H' st' → Reps K ρ' H' ds ys → Rep K ρ' H' x v → d.rt ds x st' → W.rt ys v H'
  bk : ∀ ys σ' H' ρ' ds env' st', Keep ρ ρ' H H' → RelS K ρ' H' st' → RelE K ρ' H' env' σ' → Reps K ρ' H' ds ys → d.bk ds env' st' → W.bk ys σ' H'
  ct : ∀ ys σ' H' ρ' ds env' st', Keep ρ ρ' H H' → RelS K ρ' H' st' → RelE K ρ' H' env' σ' → Reps K ρ' H' ds ys → d.ct ds env' st' → W.ct ys σ' H'
def SimGn (K : PySem.W.Frag) (t : TGn) (tg : DTGn) : Prop := ∀ ρ env st σ H ds ys (d : DGEnds) (W : GEnds), RelS K ρ H st → RelE K ρ H env σ → Reps K ρ H ds ys → tg d ds env st → GEndsOk K ρ H d W → t W ys σ H
structure SGn (X : Cx) (s : Stmt) (t : TGn) (tg : DTGn) : Prop where
  gs : GS X s t
  sim : SimGn X.K t tg
structure SGns (X : Cx) (s : List Stmt) (t : TGn) (tg : DTGn) : Prop where
  gss : GSs X s t
  sim : SimGn X.K t tg
theorem GEndsOk.adv {K : PySem.W.Frag} {ρ ρ' : List Addr} {H H' : Hp} {d : DGEnds} {W : GEnds} (e : GEndsOk K ρ H d W) (k : Keep ρ ρ' H H') : GEndsOk K ρ' H' d W :=
  ⟨fun ys σ' H2 ρ2 ds env' st' k2 => e.nx ys σ' H2 ρ2 ds env' st' (k.trans k2), fun ys v H2 ρ2 ds x st' k2 => e.rt ys v H2 ρ2 ds x st' (k.trans k2),
    fun ys σ' H2 ρ2 ds env' st' k2 => e.bk ys σ' H2 ρ2 ds env' st' (k.trans k2), fun ys σ' H2 ρ2 ds env' st' k2 => e.ct ys σ' H2 ρ2 ds env' st' (k.trans k2)⟩
def dGNext : DTGn := fun d ds env st => d.nx ds env st
def dGSeq (t u : DTGn) : DTGn := fun d ds env st => t { d with nx := u d } ds env st
def dGYield (te : DTE) : DTGn := fun d ds env st => ds.length < sizeLine ∧ te env st fun x st1 => d.nx (ds ++ [x]) env st1
def dGPlain (ts : DTS) : DTGn := fun d ds env st => ts st.length { nx := d.nx ds, rt := d.rt ds, bk := d.bk ds, ct := d.ct ds } env st
section
variable {X : Cx} {s : Stmt} {rest : List Stmt} {t u : TGn} {tg ug : DTGn} {e : Expr} {te : TE} {de : DTE} {pos yp : Pos} {ts : TS} {ds : DTS}
theorem sgs_nil' : SGns X [] tG0 dGNext := ⟨gss_nil, fun ρ env st σ H ds ys d W rs re ry q w => w.nx ys σ H ρ ds env st Keep.refl rs re ry q⟩
theorem sim_gseq {K : PySem.W.Frag} (h1 : SimGn K t tg) (h2 : SimGn K u ug) : SimGn K (tGThen t u) (dGSeq tg ug) := by
  intro ρ env st σ H ds ys d W rs re ry q w
  refine h1 ρ env st σ H ds ys _ _ rs re ry q ⟨fun ys' σ' H' ρ' ds' env' st' k rs' re' ry' q' => ?_, w.rt, w.bk, w.ct⟩
  exact h2 ρ' env' st' σ' H' ds' ys' d W rs' re' ry' q' (w.adv k)
theorem sgs_cons' (h1 : SGn X s t tg) (h2 : SGns X rest u ug) : SGns X (s :: rest) (tGThen t u) (dGSeq tg ug) := ⟨gss_cons h1.gs h2.gss, sim_gseq h1.sim h2.sim⟩
theorem sgs_one' (h1 : SGn X s t tg) : SGns X [s] (tGThen t tG0) (dGSeq tg dGNext) := sgs_cons' h1 sgs_nil'
theorem sg_yield (he : SE X e te de) (hco : X.env.scope.isCoroutine = false := by rfl) (hi : interactive X.env = false := by rfl) : SGn X (.Expr (.Yield (some e) yp) pos) (tGYield te) (dGYield de) := by
  refine ⟨gs_yield he.pe hco hi, fun ρ env st σ H ds ys d W rs re ry q w => ⟨by rw [← ry.len]; exact q.1, ?_⟩⟩
  refine he.sim ρ env st σ H _ _ rs re q.2 fun x H1 ⟨ρ1, dx, st1, k1, r1, px, q1⟩ => ?_
  exact w.nx _ σ H1 ρ1 _ env st1 k1 r1 (re.keep k1) ((ry.keep k1).app (.cons px .nil)) q1
theorem sg_plain (h : SS X s ts ds) : SGn X s (tPlain ts) (dGPlain ds) := by
  refine ⟨gs_ps h.ps, fun ρ env st σ H ds' ys d W rs re ry q w => ?_⟩
  have et : ρ.take st.length = ρ := by rw [← rs.len, List.take_length]
  refine h.sim st.length ρ env st σ H _ _ (by rw [rs.len]; exact Nat.le_refl _) rs re q ?_
  rw [et]
  exact ⟨fun σ' H' ρ' env' st' k rs' re' q' => w.nx ys σ' H' ρ' ds' env' st' k rs' re' (ry.keep k) q', fun v H' ρ' x st' k rs' rx q' => w.rt ys v H' ρ' ds' x st' k rs' (ry.keep k) rx q',
    fun σ' H' ρ' env' st' k rs' re' q' => w.bk ys σ' H' ρ' ds' env' st' k rs' re' (ry.keep k) q', fun σ' H' ρ' env' st' k rs' re' q' => w.ct ys σ' H' ρ' ds' env' st' k rs' re' (ry.keep k) q'⟩
end
/-! for -/
def dGLoop (dg : DTG) (tb : DTGn) (d : DGEnds) (ok : Store → Prop) : List D → List D → DEnv → Store → Prop
  | [] => fun ds env st => ok st ∧ d.nx ds env st
  | x :: r => fun ds env st => ok st ∧ dg x env st fun env' st' => tb { d with nx := dGLoop dg tb d ok r, ct := dGLoop dg tb d ok r, bk := d.nx } ds env' st'
def dGFor (di : DTI) (dg : DTG) (tb : DTGn) : DTGn := fun d ds env st => di env st fun items ok st1 => dGLoop dg tb d ok items ds env st1
theorem dGLoop_ok {dg : DTG} {tb : DTGn} {d : DGEnds} {ok : Store → Prop} {items ds : List D} {env : DEnv} {st : Store} (h : dGLoop dg tb d ok items ds env st) : ok st := by
  cases items <;> exact h.1
theorem sim_gfor {K : PySem.W.Frag} {wi : TI} {g : TG} {t : TGn} {di : DTI} {dg : DTG} {tb : DTGn} (hi : SimI K wi di) (hg : SimG K g dg) (hb : SimGn K t tb) : SimGn K (tGFor wi g t) (dGFor di dg tb) := by
  intro ρ env st σ H ds ys d W rs re ry q w
  refine hi ρ env st σ H _ _ rs re q fun J H1 ρ1 items ok st1 k1 r1 wk q1 => ?_
  refine ⟨fun i m ys' σ' H' => m = items.length - i ∧ i ≤ items.length ∧ ∃ ρ' ds' env' st', Keep ρ1 ρ' H1 H' ∧ RelS K ρ' H' st' ∧ RelE K ρ' H' env' σ' ∧ Reps K ρ' H' ds' ys' ∧ dGLoop dg tb d ok (items.drop i) ds' env' st',
    ⟨items.length, rfl, Nat.zero_le _, ρ1, ds, env, st1, Keep.refl, r1, re.keep k1, ry.keep k1, q1⟩, fun i m ys' σ' H' hW => ?_⟩
  obtain ⟨rfl, hi, ρ', ds', env', st', k', rs', re', ry', q'⟩ := hW
  by_cases hlt : i < items.length
  · refine .inr ⟨wk.go i ρ' H' st' hlt k' rs' (dGLoop_ok q'), fun ys2 σ2 H2 => i + 1 ≤ items.length ∧ ∃ ρ2 ds2 env2 st2, Keep ρ1 ρ2 H1 H2 ∧ RelS K ρ2 H2 st2 ∧ RelE K ρ2 H2 env2 σ2 ∧ Reps K ρ2 H2 ds2 ys2 ∧ dGLoop dg tb d ok (items.drop (i + 1)) ds2 env2 st2, fun ys2 σ2 H2 h2 => ?_, fun x H2 hy => ?_⟩
    · exact ⟨items.length - (i + 1), by omega, rfl, h2⟩
    · have hok := dGLoop_ok q'
      obtain ⟨sm, dx, hd, rd⟩ := wk.yld i x ρ' H' H2 st' hlt k' rs' hok hy
      rw [List.drop_eq_getElem_cons hlt] at q'
      have e : items[i] = dx := by
        rw [List.getElem?_eq_getElem hlt] at hd
        exact Option.some.inj hd
      rw [e] at q'
      obtain ⟨_, q'⟩ := q'
      have k2 : Keep ρ' ρ' H' H2 := same_keep sm
      refine hg ρ' env' st' σ' H2 x dx _ _ (rs'.same sm) (re'.keep k2) rd q' fun σ3 H3 ρ3 env3 st3 k3 rs3 re3 q3 => ?_
      have k13 : Keep ρ1 ρ3 H1 H3 := (k'.trans k2).trans k3
      refine hb ρ3 env3 st3 σ3 H3 ds' ys' _ _ rs3 re3 ((ry'.keep k2).keep k3) q3 ⟨fun ys4 σ4 H4 ρ4 ds4 env4 st4 k4 rs4 re4 ry4 q4 => ?_, fun ys4 v H4 ρ4 ds4 y st4 k4 rs4 ry4 rv4 q4 => ?_, fun ys4 σ4 H4 ρ4 ds4 env4 st4 k4 rs4 re4 ry4 q4 => ?_, fun ys4 σ4 H4 ρ4 ds4 env4 st4 k4 rs4 re4 ry4 q4 => ?_⟩
      · exact ⟨hlt, ρ4, ds4, env4, st4, k13.trans k4, rs4, re4, ry4, q4⟩
      · exact w.rt ys4 v H4 ρ4 ds4 y st4 (k1.trans (k13.trans k4)) rs4 ry4 rv4 q4
      · exact w.nx ys4 σ4 H4 ρ4 ds4 env4 st4 (k1.trans (k13.trans k4)) rs4 re4 ry4 q4
      · exact ⟨hlt, ρ4, ds4, env4, st4, k13.trans k4, rs4, re4, ry4, q4⟩
  · have e : items.drop i = [] := List.drop_eq_nil_of_le (by omega)
    have hok := dGLoop_ok q'
    rw [e] at q'
    exact .inl ⟨wk.stop i ρ' H' st' (by omega) k' rs' hok, w.nx ys' σ' H' ρ' ds' env' st' (k1.trans k') rs' re' ry' q'.2⟩
section
variable {X : Cx}
theorem sg_for {tg iter : Expr} {body : List Stmt} {wi : TI} {g : TG} {t : TGn} {di : DTI} {dg : DTG} {tb : DTGn} {pos : Pos} (hp : PassesOwn (model X.prog X.w) X.A X.env X.xe) (hc : X.calm = true) (hi : SI X tg iter wi di) (hg : SG X tg g dg) (hb : SGns X body t tb)
    (hs : ∀ x, foldedSetIterable iter X.env x = pure x := by intro _; rfl) : SGn X (.For tg iter body [] pos) (tGFor wi g t) (dGFor di dg tb) := ⟨gs_for hp hc hi.pi hg.pg hb.gss hs, sim_gfor hi.sim hg.sim hb.sim⟩
end
/-! a generator def's promise -/
abbrev DSpG := List D → Store → (List D → Store → Prop) → Prop
def spGOf (K : PySem.W.Frag) (dsp : DSpG) : SpG := fun vs H Q _ => ∃ ρ ds st QD, RelS K ρ H st ∧ Reps K ρ H ds vs ∧ dsp ds st QD ∧ ∀ out H', PostA K ρ H QD out H' → Q out H'
section
variable {P : Program} {w : World} {K : PySem.W.Frag} {mg : Str → Option Value} {base : Heap}
theorem Fun.okG {x qual : Str} {st : Stmt} {f : Addr} {fd : FuncData} {N ps : List Str} {k : Nat} {dsp : DSpG} (F : Fun K x qual st f fd) (S : GScope N ps (defScope st)) (len : ∀ ds s Q, dsp ds s Q → ds.length = ps.length)
    (hbody : ∀ (cdv : Value) (A : Around) (outer : List Env) (s : Shared) (H : Hp) (E : XK) (pn : List (Addr × Obj)), Room k (A.deeper (PyProof.Rows.envOfC qual (defScope st) s.heap.objs.size f cdv)) →
      ∃ t tg, SGns (gcxOf P w K mg base N qual (defScope st) f cdv A outer s H E pn) (defBody st) t tg ∧
        ∀ ds st Q, Wf st → D.lts st.length ds → dsp ds st Q → tg { nx := fun out _ st' => Q out st', rt := fun _ _ _ => False } [] (dstart N ds) st) : GFn P w K mg base (k + 1) f fd ps (spGOf K dsp) := by
  obtain ⟨oc, od, kV, doc, pm, an, cdv, ct, osl, rfl, lk, hcd⟩ := F.ex
  refine gfn_of lk hcd S (fun vs H Q E h => ?_) fun A outer s H vs Q E pn hr h => ?_
  · obtain ⟨ρ, ds, st, QD, _, r, q, _⟩ := h
    rw [← r.len]
    exact len ds st QD q
  · obtain ⟨ρ, ds, sto, QD, rs, r, q, wq⟩ := h
    obtain ⟨t, tg, hS, hb⟩ := hbody cdv A outer s H E pn hr
    refine ⟨t, hS.gss, ?_⟩
    refine hS.sim ρ (dstart N ds) sto (start N vs) H [] [] _ _ rs (relE_start r) .nil (hb ds sto QD rs.wf (by rw [← rs.len]; exact reps_lt ds vs r) q) ?_
    exact ⟨fun ys σ' H' ρ' ds' env' st' k rs' re' ry' q' => wq ys H' ⟨ρ', ds', st', k, rs', ry', q'⟩, fun _ _ _ _ _ _ _ _ _ _ _ z => z.elim, fun _ _ _ _ _ _ _ _ _ _ _ z => z.elim, fun _ _ _ _ _ _ _ _ _ _ _ z => z.elim⟩
end
/-! list(f(..)) -/
def dListG (dsp : DSpG) (da : DTA) : DTE := fun env st Q => da env st fun ds st1 => dsp ds st1 fun out st2 => Q (.ref st2.length) (st2 ++ [.lst out])
abbrev EN : XK := fun _ _ _ => False
theorem passN {X : Cx} : Passes (CX X.prog X.w) X EN := fun pins σ H s e s' I hc => by
  obtain ⟨_, _, _, _, _, _, _, _, _, _, _, _, w⟩ := hc
  exact w.elim
section
variable {X : Cx} {k : Nat} {f : Addr} {fd : FuncData} {ps : List Str} {dsp : DSpG} {x : Str} {p p2 pos pos' : Pos} {e : Expr} {es : List Expr} {t : TA} {da : DTA}
theorem se_listG {K : PySem.W.Frag} [hK : HasK X K] (F : GFn X.prog X.w K X.mg X.base k f fd ps (spGOf K dsp)) (hr : Room (k + 3) X.A) (hg : Gl X x) (hm : X.mg x = some (.ref f)) (hk : PySem.W.keepIn K (.ref f) = true) (hb : Binds K fd ps [])
    (hg2 : Gl X "list") (hm2 : X.mg "list" = none) (ha : SA X (e :: es) t da) (hdb : (x == ("__debug__" : Str)) = false := by decide) (he : starEach (e :: es) X.env = (false, eval e X.env) :: starEach es X.env := by rfl) (hpl : (backTo pos' (starEach es X.env)).any (·.1) = false := by rfl)
    (he2 : starEach [.Call (.Name x p) (e :: es) [] pos'] X.env = (false, eval (.Call (.Name x p) (e :: es) [] pos') X.env) :: starEach [] X.env := by rfl) :
    SE X (.Call (.Name "list" p2) [.Call (.Name x p) (e :: es) [] pos'] [] pos) (tListG (tCallG (spGOf K dsp) [] EN t)) (dListG dsp da) := by
  obtain rfl := hK.eq
  refine ⟨pe_listG (pgen_call F (hr.mono (by omega)) hg hm hk hb .nil ha.pa hdb he hpl) passN (fun _ _ _ h => h.elim) hr hg2 hm2 (by decide +kernel) (by decide) (by decide) he2, fun ρ env st σ H Q W rs re q w => ?_⟩
  refine ha.sim ρ env st σ H _ _ rs re q fun xs H1 ⟨ρ1, ds, st1, k1, r1, px, q1⟩ => ?_
  rw [List.append_nil]
  refine ⟨ρ1, ds, st1, _, r1, px, q1, fun out H2 h2 => ?_⟩
  obtain ⟨ρ2, ds2, st2, k2, r2, px2, q2⟩ := h2
  exact fun p hp => w _ _ ((PostE.lst r2 hp px2 q2).keep (k1.trans k2))
end
end DL

/-! enumerate(a tuple) -/
namespace PySem
theorem meets_enumerate_new1 {v : Value} {o : Obj} {H : Heap → Prop} (B : Begins v o H) :
    Meets (Builtin.«enumerate.__new__» ⟨[.type "enumerate", v], []⟩) (fun _ R s => H s.heap ∧
      R (.ok (.ret (.ref (s.heap.push o).objs.size))) { s with heap := (s.heap.push o).push { cls := .type "enumerate", data := .fields #[.none, .bool false, .ref s.heap.objs.size, rawInt 0, .none, .none] } }) :=
  .of_wp fun prog w A R s h => by
    obtain ⟨hp, g, d, tk, os⟩ := s; obtain ⟨h1, h⟩ := h
    have hsub := sub_enumerate
    have q1 : ∀ {A' : Around} {E : Value → Shared → Prop} {Q : Value → Shared → Prop}, Q (.ref hp.objs.size) ⟨hp.push o, g, d, tk, os⟩ → wpAny (model prog w) A' (pyIter v) Q E ⟨hp, g, d, tk, os⟩ :=
      fun q => B.iter prog w _ _ ⟨hp, g, d, tk, os⟩ _ h1 q
    wp_walk using q1
    refine wpAny_stack_any fun st => wpAny_pure ?_
    split
    · rename_i c _ _ _ _ _
      cases (c == Value.type "enumerate")
      · wp_walk using q1
        exact ⟨_, rfl, h⟩
      · wp_walk using q1
        exact ⟨_, rfl, h⟩
    · wp_walk using q1
      exact ⟨_, rfl, h⟩
section
variable {prog : Program} {w : World} {A : Around} {E : Value → Shared → Prop} {s : Shared}
theorem enum_begins1 {v : Value} {o : Obj} {H : Heap → Prop} {Q : Value → Shared → Prop} (B : Begins v o H) (h1 : H s.heap)
    (h : ∀ h', IsEnum h' (s.heap.objs.size + 1) s.heap.objs.size 0 .none → h'.get? s.heap.objs.size = some o → h'.objs.size = s.heap.objs.size + 2 →
      (∀ b o, s.heap.get? b = some o → h'.get? b = some o) → Q (.ref (s.heap.objs.size + 1)) { s with heap := h' }) :
    wpAny (model prog w) A (call (.type "enumerate") [v]) Q E s := by
  refine callType_new F.called_enumerate (by decide) (F.typeCall_enumerate_1 _) (F.newCall_enumerate_1 _) (fun obj => F.args_object_init_2 obj _) F.entry_enumerate_new
    (meets_enumerate_new1 B) ⟨h1, ?_⟩
  have hz : (s.heap.push o).objs.size = s.heap.objs.size + 1 := Heap.size_push ..
  show _ ∧ _
  rw [hz]
  have he : IsEnum ((s.heap.push o).push { cls := .type "enumerate", data := .fields #[.none, .bool false, .ref s.heap.objs.size, rawInt 0, .none, .none] }) (s.heap.objs.size + 1) s.heap.objs.size 0 .none := by
    have := Heap.get?_push_size (s.heap.push o) (o := { cls := .type "enumerate", data := .fields #[.none, .bool false, .ref s.heap.objs.size, rawInt 0, .none, .none] }) rfl
    rw [hz] at this; exact this
  refine ⟨⟨_, he, rfl⟩, h _ he (Heap.get?_push_of_some _ (Heap.get?_push_size _ B.free)) (by rw [Heap.size_push, hz]) fun b o x => Heap.get?_push_of_some _ (Heap.get?_push_of_some _ x)⟩
theorem wpAny_pyNext_enum_endT {e it l : Addr} {i : Nat} {items : Array Value} {old : Value} {Q : Option Value → Shared → Prop} (hh : A.handled = none)
    (he : IsEnum s.heap e it i old) (hit : s.heap.IsTupleIter it l i) (hl : s.heap.IsTuple l items) (hx : items[i]? = none)
    (hQ : ∀ h', Heap.ExtBut it s.heap h' → Q none { s with heap := h' }) : wpAny (model prog w) A (pyNext (.ref e)) Q E s := by
  have hT : s.TypeIs (.ref e) "enumerate" := ⟨_, he, rfl⟩
  unfold pyNext
  refine wpAny_bind (wpAny_attempt (wpAny_callSpecial?_slot (name := Str.ofString "__next__") hT F.slot_enumerate_next
    (wpAny_call_entry F.slot_enumerate_next hT F.entry_enumerate_next ?_ (F.args_enumerate_next_1 _))))
  show wpAny _ _ (field (.ref e) 2 >>= _) _ _ _
  refine wpAny_bind (wpAny_field he rfl (x := .ref it) rfl ?_)
  refine wpAny_bind (wpAny_nextOf_tuple_end hh hit hl hx fun h' x he' hx' => ?_)
  obtain ⟨o, ho, hc⟩ := hx'
  refine wpAny_bind (wpAny_isInstance (T := "StopIteration") (b := true) ⟨o, ho, hc⟩ isSubtype_stop ?_)
  exact wpAny_pure (hQ _ he')
end
end PySem
namespace L2
open PySem PySem.Spec PyProof.Rows
/-- the tuple at a, each item in a new pair -/
def IteT (K : PySem.W.Frag) (a : Addr) : It :=
  ⟨fun i H => ∃ (xs : List V) (x : V), SqT K H a xs ∧ xs[i]? = some x, fun i H v H' => ∃ T x, v = .ref T ∧ H T = none ∧ H' = upd H T (.tup [.int (i : Nat), x]) ∧ ∀ xs, SqT K H a xs → xs[i]? = some x, fun i H => ∃ xs : List V, SqT K H a xs ∧ xs.length ≤ i⟩
theorem turn_enumT {P : Program} {w : World} {K : PySem.W.Frag} {elts : List Expr} {kk : Nat} {tpos : Pos} (a e it : Addr) :
    Turn P w K (.Tuple elts kk tpos) (IteT K a) [e, it] e (fun i h => (∃ old, IsEnum h e it ((i : Nat) : Int) old) ∧ h.IsTupleIter it a i ∧ e ≠ it ∧ a ≠ it ∧ a ≠ e) where
  mem := by simp
  obj := fun i h st b hb => by
    obtain ⟨⟨old, he⟩, ⟨o, ho, hc, hd⟩, _⟩ := st
    have e' : b = e ∨ b = it := by simpa using hb
    rcases e' with z | z
    · rw [z]; exact ⟨_, he, fun v q => nomatch q⟩
    · rw [z]; exact ⟨o, ho, fun v q => by rw [hd] at q; cases q⟩
  keep := fun i h h' st k => let ⟨⟨old, he⟩, hi, hne⟩ := st; ⟨⟨old, k e (by simp) _ he⟩, hi.at fun o q => k it (by simp) o q, hne⟩
  item := by
    intro X hP hw hK hc i pins s σ H E I hf st hg
    subst hP hw hK
    obtain ⟨⟨old, he⟩, hit, hne, hai, hae⟩ := st
    obtain ⟨xs, x, hq, hx⟩ := hg
    obtain ⟨its, rv, p, hz⟩ := I.tuple hq
    obtain ⟨u, hu, ru⟩ := rv.get hx
    have hel : e < s.heap.objs.size := Heap.lt_size he
    have hil : it < s.heap.objs.size := by obtain ⟨_, q, _⟩ := hit; exact Heap.lt_size q
    have hlt : i < its.toArray.size := by
      have := (List.getElem?_eq_some_iff.mp hu).1
      simpa using this
    have hh : X.A.in1.handled = none := I.ok.hd hc
    refine wpAny_pyNext_enum_itemD (Draws.tuple hh it a hai its.toArray) he ⟨hit, (show s.heap.IsTuple a its.toArray from p)⟩ hlt hne (by simp [hne, hae.symm]) fun y h' tk hy ho hst' hT hsz hk => ?_
    have hyu : y = u := by
      have h1 : its[i]? = some y := by simpa using hy
      rw [hu] at h1
      exact (Option.some.inj h1).symm
    subst hyu
    obtain ⟨hit', _⟩ := hst'
    refine ⟨_, rfl, wpAny_letOwnedTupleGo_enum (s := { s with heap := h', toks := tk + 1 }) ho fun h'' he' sb => ?_⟩
    have hT2 : h''.get? s.heap.objs.size = some { cls := .type "tuple", data := .seq #[.int i tk, y] } := (sb.2 _ (Nat.ne_of_gt hel)).trans hT
    have new : ObjOk X.prog X.w (upd H s.heap.objs.size (.tup [.int (i : Nat), x])) h'' s.heap.objs.size (.tup [.int (i : Nat), x]) :=
      ⟨by show 2 ≤ sizeLine; decide, [.int i tk, y], .cons ⟨_, rfl⟩ (.cons ru .nil), ⟨_, hT2, rfl, _, rfl⟩⟩
    have I1 : Inv X pins σ (upd H s.heap.objs.size (.tup [.int (i : Nat), x])) { s with heap := h'', toks := tk + 1 } :=
      I.turnedNew (ch := [e, it]) (fun b ob hb q => (sb.2 b (fun z => hb (by simp [z]))).trans (hk b ob (fun z => hb (by simp [z])) (fun z => hb (by simp [z])) q)) hf (Nat.le_refl _) new
    refine ⟨.ref s.heap.objs.size, _, I1, rfl, ⟨_, x, rfl, I.hok.fresh (Nat.le_refl _), rfl, fun ys hy => by rw [I.tuple_inj hy hq]; exact hx⟩, ⟨⟨y, ?_⟩, hit'.at fun o q => (sb.2 it (Ne.symm hne)).trans q, hne, hai, hae⟩, fun b hb => ?_⟩
    · have e1 : ((i + 1 : Nat) : Int) = (i : Int) + 1 := by omega
      rw [e1]; exact he'
    · have hb' : b < s.heap.objs.size := by
        have e' : b = e ∨ b = it := by simpa using hb
        rcases e' with z | z
        · rw [z]; exact hel
        · rw [z]; exact hil
      rw [upd_ne (Nat.ne_of_lt hb')]
      exact (hf b hb).1
  done := by
    intro X hP hw hK hc i pins s σ H E I hf st hg
    subst hP hw hK
    obtain ⟨⟨old, he⟩, hit, hne, hai, hae⟩ := st
    obtain ⟨xs, hq, hx⟩ := hg
    obtain ⟨its, rv, p, hz⟩ := I.tuple hq
    obtain ⟨f0, f1, f2, f3, f4, f5⟩ := hf it (by simp)
    have hl := rv.length
    exact wpAny_pyNext_enum_endT (I.ok.hd hc) he hit (show s.heap.IsTuple a its.toArray from p) (by simp; omega) fun h' eb => ⟨rfl, I.turned (t' := s.toks) (fun b o hb q => eb b o hb q) f0 f1 f3 f4 f5⟩
  self := fun A i s Q E st h => let ⟨⟨_, he⟩, _⟩ := st; wpAny_pyIter_enum he h
/-- enumerate(a list or a tuple) -/
def iEnumA (K : PySem.W.Frag) (ta : TA) : TI := fun σ H R => ta σ H fun vs H1 => ∃ a xs, vs = [.ref a] ∧ ((SqL K H1 a xs ∧ R (Ite K a) H1) ∨ (SqT K H1 a xs ∧ R (IteT K a) H1))
theorem pi_enumA {X : Cx} {e : Expr} {ta : TA} {p pos tpos : Pos} {elts : List Expr} {kk : Nat} (hg : Gl X "enumerate") (hm : X.mg "enumerate" = none) (ha : PA X [e] ta) (hs : starEach [e] X.env = [(false, eval e X.env)] := by rfl) :
    PI X (.Tuple elts kk tpos) (.Call (.Name "enumerate" p) [e] [] pos) (iEnumA X.K ta) := by
  refine ⟨fun pins s σ H R I h => ?_⟩
  refine Call_ (ld_blt I hg hm boot_enumerate (PyProof.Rows.callWith_type1 (thn (ha.run pos pins s σ H _ I h) fun us s1 ⟨vs, H1, I1, r1, q1⟩ => ?_) hs rfl))
  obtain ⟨a, xs, ex, hq⟩ := q1
  subst ex
  cases r1 with
  | cons r rr =>
    cases rr
    cases r
    have two : ∀ b : Addr, b ∈ [s1.heap.objs.size + 1, s1.heap.objs.size] → s1.heap.objs.size ≤ b := fun b hb => by
      have e' : b = s1.heap.objs.size + 1 ∨ b = s1.heap.objs.size := by simpa using hb
      rcases e' with z | z
      · rw [z]; exact Nat.le_add_right _ _
      · rw [z]; exact Nat.le_refl _
    rcases hq with ⟨hq, q⟩ | ⟨hq, q⟩
    · obtain ⟨its, rv, p', hz⟩ := I1.list hq
      refine call_enumerate_list p'.isList fun h' he hit hsz hk => wpAny_pyIter_enum he ?_
      have I2 : Inv X pins σ H1 { s1 with heap := h' } := I1.kept (t' := s1.toks) hk
      exact ⟨s1.heap.objs.size + 1, [s1.heap.objs.size + 1, s1.heap.objs.size], _, _, H1, rfl, I2, turn_enum a (s1.heap.objs.size + 1) s1.heap.objs.size, ⟨⟨.none, he⟩, hit, Nat.succ_ne_self _⟩, fun b hb => I1.fpOk (two b hb) (I1.hok.fresh (two b hb)), q⟩
    · obtain ⟨its, rv, p', hz⟩ := I1.tuple hq
      have p'' : s1.heap.IsTuple a its.toArray := p'
      have ha : a < s1.heap.objs.size := by
        obtain ⟨o, ho, _⟩ := id p''
        exact Heap.lt_size ho
      refine enum_begins1 (begins_tuple a its.toArray) p'' fun h' he hit hsz hk => wpAny_pyIter_enum he ?_
      have I2 : Inv X pins σ H1 { s1 with heap := h' } := I1.kept (t' := s1.toks) hk
      exact ⟨s1.heap.objs.size + 1, [s1.heap.objs.size + 1, s1.heap.objs.size], _, _, H1, rfl, I2, turn_enumT a (s1.heap.objs.size + 1) s1.heap.objs.size, ⟨⟨.none, he⟩, ⟨_, hit, rfl, rfl⟩, Nat.succ_ne_self _, Nat.ne_of_lt ha, Nat.ne_of_lt (Nat.lt_succ_of_lt ha)⟩, fun b hb => I1.fpOk (two b hb) (I1.hok.fresh (two b hb)), q⟩
end L2

/-! enumerate, divmod, all -/
namespace DL
open PySem PySem.Spec L2
def enumD (i : Nat) : List D → List D
  | [] => []
  | x :: r => .tup [.int i, x] :: enumD (i + 1) r
theorem enumD_len : ∀ (xs : List D) (i : Nat), (enumD i xs).length = xs.length
  | [], _ => rfl
  | x :: r, i => by rw [enumD, List.length_cons, List.length_cons, enumD_len r]
theorem enumD_get : ∀ (xs : List D) (i j : Nat) (d : D), xs[j]? = some d → (enumD i xs)[j]? = some (.tup [.int ((i + j : Nat) : Int), d])
  | [], _, _, _, h => by simp at h
  | x :: r, i, 0, d, h => by
    simp at h
    subst h
    rfl
  | x :: r, i, j + 1, d, h => by
    have := enumD_get r (i + 1) j d (by simpa using h)
    rw [enumD, List.getElem?_cons_succ, this, show i + 1 + j = i + (j + 1) by omega]
def dEnum (da : DTA) : DTI := fun env st R => da env st fun xs st1 => match xs with
  | [x] => (match x with | .str _ => False | _ => True) ∧ match dItems st1 x with
    | some items => R (enumD 0 items) (okOf x items) st1
    | none => False
  | _ => False
theorem same_tup {H : Hp} {T : Addr} {vs : List V} (h : H T = none) : Same H (upd H T (.tup vs)) := fun b o e => by rw [upd_ne (ne_of_none e h)]; exact e
theorem walks_enumL {K : PySem.W.Frag} {ρ : List Addr} {H : Hp} {a : Addr} {ds : List D} {ok : Store → Prop} (hq : ∀ ρ' H' st', Keep ρ ρ' H H' → RelS K ρ' H' st' → ok st' → ∃ vs, SqL K H' a vs ∧ Reps K ρ' H' ds vs) :
    WalksD K ρ H (Ite K a) (enumD 0 ds) ok := by
  refine ⟨fun i ρ' H' st' hi k rs ho => ?_, fun i x ρ' H' H2 st' hi k rs ho y => ?_, fun i ρ' H' st' hi k rs ho => ?_⟩
  · rw [enumD_len] at hi
    obtain ⟨vs, hs, hr⟩ := hq ρ' H' st' k rs ho
    obtain ⟨v, hv, _⟩ := hr.get (List.getElem?_eq_getElem hi)
    exact ⟨vs, v, hs, hv⟩
  · rw [enumD_len] at hi
    obtain ⟨T, v, rfl, hT, rfl, hv⟩ := y
    obtain ⟨vs, hs, hr⟩ := hq ρ' H' st' k rs ho
    obtain ⟨v', hv', rv⟩ := hr.get (List.getElem?_eq_getElem hi)
    have e := hv vs hs
    rw [hv'] at e
    cases e
    have k2 : Keep ρ' ρ' H' (upd H' T (.tup [.int (i : Nat), v])) := same_keep (same_tup hT)
    refine ⟨same_tup hT, _, enumD_get ds 0 i _ (List.getElem?_eq_getElem hi), .tup (.inl (.inl upd_same)) ?_⟩
    rw [Nat.zero_add]
    exact .cons (.int _) (.cons (rv.keep k2) .nil)
  · rw [enumD_len] at hi
    obtain ⟨vs, hs, hr⟩ := hq ρ' H' st' k rs ho
    exact ⟨vs, hs, by rw [← hr.len]; exact hi⟩
theorem walks_enumT {K : PySem.W.Frag} {ρ : List Addr} {H : Hp} {a : Addr} {ds : List D} {ok : Store → Prop} (hq : ∀ ρ' H' st', Keep ρ ρ' H H' → RelS K ρ' H' st' → ok st' → ∃ vs, SqT K H' a vs ∧ Reps K ρ' H' ds vs) :
    WalksD K ρ H (IteT K a) (enumD 0 ds) ok := by
  refine ⟨fun i ρ' H' st' hi k rs ho => ?_, fun i x ρ' H' H2 st' hi k rs ho y => ?_, fun i ρ' H' st' hi k rs ho => ?_⟩
  · rw [enumD_len] at hi
    obtain ⟨vs, hs, hr⟩ := hq ρ' H' st' k rs ho
    obtain ⟨v, hv, _⟩ := hr.get (List.getElem?_eq_getElem hi)
    exact ⟨vs, v, hs, hv⟩
  · rw [enumD_len] at hi
    obtain ⟨T, v, rfl, hT, rfl, hv⟩ := y
    obtain ⟨vs, hs, hr⟩ := hq ρ' H' st' k rs ho
    obtain ⟨v', hv', rv⟩ := hr.get (List.getElem?_eq_getElem hi)
    have e := hv vs hs
    rw [hv'] at e
    cases e
    have k2 : Keep ρ' ρ' H' (upd H' T (.tup [.int (i : Nat), v])) := same_keep (same_tup hT)
    refine ⟨same_tup hT, _, enumD_get ds 0 i _ (List.getElem?_eq_getElem hi), .tup (.inl (.inl upd_same)) ?_⟩
    rw [Nat.zero_add]
    exact .cons (.int _) (.cons (rv.keep k2) .nil)
  · rw [enumD_len] at hi
    obtain ⟨vs, hs, hr⟩ := hq ρ' H' st' k rs ho
    exact ⟨vs, hs, by rw [← hr.len]; exact hi⟩
section
variable {X : Cx} {e : Expr} {ta : TA} {da : DTA} {p pos tpos : Pos} {elts : List Expr} {kk : Nat}
theorem si_enum {K : PySem.W.Frag} [hk : HasK X K] (hg : Gl X "enumerate") (hm : X.mg "enumerate" = none) (h : SA X [e] ta da) (hs : starEach [e] X.env = [(false, eval e X.env)] := by rfl) : SI X (.Tuple elts kk tpos) (.Call (.Name "enumerate" p) [e] [] pos) (iEnumA K ta) (dEnum da) := by
  obtain rfl := hk.eq
  refine ⟨pi_enumA hg hm h.pa hs, fun ρ env st σ H R W rs re q w => ?_⟩
  refine h.sim ρ env st σ H _ _ rs re q fun vs H1 ⟨ρ1, ds, st1, k1, r1, px, q1⟩ => ?_
  dsimp only at q1
  split at q1
  · rename_i x
    obtain ⟨v, rfl, pv⟩ := px.one
    obtain ⟨c, q1⟩ := q1
    cases x with
    | tup xs =>
      obtain ⟨a, vs, rfl, hs, hr⟩ := rep_tup pv
      exact ⟨a, vs, rfl, .inr ⟨hs, w _ H1 ρ1 _ _ st1 k1 r1 (walks_enumT fun ρ' H' st' k rs ho => ⟨vs, k.sqt hs, hr.keep k⟩) q1⟩⟩
    | rol xs =>
      obtain ⟨a, vs, rfl, hs, hr⟩ := rep_rol pv
      exact ⟨a, vs, rfl, .inl ⟨sqf_l hs, w _ H1 ρ1 _ _ st1 k1 r1 (walks_enumL fun ρ' H' st' k rs ho => ⟨vs, sqf_l (k.sqf hs), hr.keep k⟩) q1⟩⟩
    | ref k =>
      obtain ⟨a, ha, rfl⟩ := rep_ref pv
      unfold dItems at q1
      dsimp only at q1
      split at q1
      · rename_i items e
        split at e
        · rename_i ys e2
          cases e
          obtain ⟨vs, hv, hr⟩ := r1.lst ha e2
          refine ⟨a, vs, rfl, .inl ⟨SqL.of hv, w _ H1 ρ1 _ _ st1 k1 r1 (walks_enumL fun ρ' H' st' k' rs ho => ?_) q1⟩⟩
          obtain ⟨vs', hv', hr'⟩ := rs.lst (k'.get ha) ho
          exact ⟨vs', SqL.of hv', hr'⟩
        · cases e
      · exact q1.elim
    | str _ => exact c.elim
    | _ => exact q1.elim
  · exact q1.elim
def dDivmod : DRA := fun ds st Q => match ds with
  | [.int i, .int j] => CDiv i j ∧ Q (.tup [.int (i / j), .int (i % j)]) st
  | _ => False
theorem sc_divmod : SCl X (.builtin "divmod") (fun xs H Q => ∃ i j, xs = [.int i, .int j] ∧ CDiv i j ∧ ∀ p, H p = none → Q (.ref p) (upd H p (.tup [.int (i / j), .int (i % j)]))) dDivmod := by
  refine ⟨call_divmod, fun ρ st H xs dxs Q W rs px q w => ?_⟩
  unfold dDivmod at q
  split at q
  · rename_i i j
    obtain ⟨v, u, rfl, r, r'⟩ := px.two
    obtain rfl := rep_int r
    obtain rfl := rep_int r'
    exact ⟨i, j, rfl, q.1, fun p hp => w _ _ (.tup rs hp (.cons (.int _) (.cons (.int _) .nil)) q.2)⟩
  · exact q.elim
theorem Reps.bls {K : PySem.W.Frag} {ρ : List Addr} {H : Hp} : ∀ {bs : List Bool} {vs : List V}, Reps K ρ H (bs.map D.bl) vs → vs = bs.map V.bl
  | [], vs, h => by unfold Reps at h; exact h
  | b :: bs, vs, h => by
    obtain ⟨v, r, rfl, h1, h2⟩ := (by unfold Reps at h; exact h : ∃ v r, vs = v :: r ∧ Rep K ρ H (.bl b) v ∧ Reps K ρ H (bs.map D.bl) r)
    rw [rep_bl h1, Reps.bls h2]
    rfl
def dAll : DRA := fun ds st Q => ∃ (k : Nat) (bs : List Bool), ds = [.ref k] ∧ st[k]? = some (.lst (bs.map D.bl)) ∧ Q (.bl (bs.all id)) st
theorem sc_all {K : PySem.W.Frag} [hk : HasK X K] (hc : X.calm = true) : SCl X (.builtin "all") (rAll K) dAll := by
  obtain rfl := hk.eq
  refine ⟨cr_all hc, fun ρ st H xs dxs Q W rs px q w => ?_⟩
  obtain ⟨k, bs, rfl, hs, q⟩ := q
  obtain ⟨v, rfl, r⟩ := px.one
  obtain ⟨a, ha, rfl⟩ := rep_ref r
  obtain ⟨vs, hv, hr⟩ := rs.lst ha hs
  obtain rfl := hr.bls
  exact ⟨a, bs, rfl, SqL.of hv, w _ H (.of rs (.bl _) q)⟩
end
end DL

/-! the readings, by what they are given -/
namespace DL
open PySem PySem.Spec L2 Wd
section
variable {st : Store} {Q : DQ} {k l : Nat} {xs ys : List D} {x y : D} {i j : Int} {z u : Str} {env : DEnv} {w v : Word} {QB : Bool → Store → Prop}
theorem w_add_i : dAdd (.int i) (.int j) st Q = Q (.int (i + j)) st := rfl
theorem w_add_t : dAdd (.tup xs) (.tup ys) st Q = (xs.length + ys.length ≤ sizeLine ∧ Q (.tup (xs ++ ys)) st) := rfl
theorem w_add_s : dAdd (.str z) (.str u) st Q = (z.length + u.length ≤ sizeLine ∧ Q (.str (z ++ u)) st) := rfl
theorem w_add_r : dAdd (.ref k) (.ref l) st Q = match st[k]?, st[l]? with
    | some (.lst a), some (.lst b) => a.length + b.length ≤ sizeLine ∧ Q (.ref st.length) (st ++ [.lst (a ++ b)])
    | _, _ => False := rfl
theorem w_mul_i : dMul (.int i) (.int j) st Q = (CMulA i j ∧ Q (.int (i * j)) st) := rfl
theorem w_ii {C : Int → Int → Prop} {g : Int → Int → D} : dII C g (.int i) (.int j) st Q = (C i j ∧ Q (g i j) st) := rfl
theorem w_i0 {g : Int → Int → D} : dI0 g (.int i) (.int j) st Q = Q (g i j) st := rfl
theorem w_int_i : D.int? (.int i) = some i := rfl
theorem w_int_b {b : Bool} : D.int? (.bl b) = some (if b then 1 else 0) := rfl
theorem w_min : dMin [.int i, .int j] st Q = Q (.int (if j < i then j else i)) st := rfl
theorem w_max : dMax [.int i, .int j] st Q = Q (.int (if j > i then j else i)) st := rfl
theorem w_mulT_i : dMulT (.int i) (.int j) st Q = (CMulA i j ∧ Q (.int (i * j)) st) := rfl
theorem w_mulT_t : dMulT (.tup xs) (.int j) st Q = (xs ≠ [] ∧ 1 ≤ j ∧ j ≤ 1000 ∧ xs.length ≤ 1000 ∧ Q (.tup (List.replicate j.toNat xs).flatten) st) := rfl
theorem w_mulT_W : dMulT (dW w) (.int j) st Q = (w ≠ [] ∧ 1 ≤ j ∧ j ≤ 1000 ∧ w.length ≤ 1000 ∧ Q (dW (List.replicate j.toNat w).flatten) st) := by
  unfold dW
  rw [w_mulT_t]
  rw [List.length_map, List.map_flatten, List.map_replicate]
  simp
theorem w_gK11 : gK 1 1 [x] [y] = [x, y] := rfl
def dStarK (x : D) (env : DEnv) (dr : DTA) (st : Store) (R : List D → Store → Prop) : Prop := (match x with | .str _ => False | _ => True) ∧ match dItems st x with
  | some xs => dr env st fun ys st2 => R (xs ++ ys) st2
  | none => False
theorem w_star {de : DTE} {dr : DTA} {R : List D → Store → Prop} : dStar de dr env st R = de env st fun x st1 => dStarK x env dr st1 R := rfl
theorem w_star_t {dr : DTA} {R : List D → Store → Prop} : dStarK (.tup xs) env dr st R = dr env st fun ys st2 => R (xs ++ ys) st2 := by
  simp [dStarK, dItems]
theorem w_star_W {dr : DTA} {R : List D → Store → Prop} : dStarK (dW w) env dr st R = dr env st fun ys st2 => R (w.map dRun ++ ys) st2 := by
  simp [dStarK, dItems, dW]
theorem dEqv_bl {b c : Bool} : dEqv st (.bl b) (.bl c) = some (b == c) := by
  rw [dEqv_fl rfl rfl]
  simp only [D.py, PyData.eqv]
theorem dSum_ref {ns : List Int} {m : Nat} (h : st[m]? = some (.lst (ns.map D.int))) (q : Q (.int ns.sum) st) : dSum [.ref m] st Q := ⟨m, ns, rfl, h, q⟩
theorem dEqv_W0 : dEqv st (dW w) (.tup []) = some (decide (w = [])) := dEqv_W w []
theorem cut_mid {s e : Nat} (h1 : s ≤ e) (h2 : e ≤ xs.length) : cutD xs (some (s : Int)) (some (e : Int)) = (xs.drop s).take (e - s) := by
  unfold cutD
  rw [HT.sIx_nat, HT.sIx_nat, Nat.min_eq_left h2, Nat.min_eq_left (by omega)]
theorem cut_inner {a b : D} : cutD (a :: (xs ++ [b])) (some 1) (some (-1)) = xs := by
  unfold cutD
  have e1 : HT.sIx (a :: (xs ++ [b])).length 0 (some 1) = 1 := by
    have := HT.sIx_nat (a :: (xs ++ [b])).length 0 1
    rw [List.length_cons, List.length_append] at this ⊢
    simp at this ⊢
    omega
  have e2 : HT.sIx (a :: (xs ++ [b])).length (a :: (xs ++ [b])).length (some (-1)) = xs.length + 1 := by
    show (if (-1 : Int) < 0 then (-1 + ((a :: (xs ++ [b])).length : Int)).toNat else min (-1 : Int).toNat (a :: (xs ++ [b])).length) = _
    rw [if_pos (by omega), List.length_cons, List.length_append, List.length_singleton]
    omega
  rw [e1, e2, List.drop_succ_cons, List.drop_zero, Nat.add_sub_cancel, List.take_left]
theorem sl_midW {s e : Nat} (h1 : s ≤ e) (h2 : e ≤ w.length) : dSl (dW w) (some (s : Int)) (some (e : Int)) st Q = Q (dW ((w.drop s).take (e - s))) st := by
  unfold dSl dW
  dsimp only
  rw [cut_mid h1 (by rw [List.length_map]; exact h2), List.map_take, List.map_drop]
theorem sl_innerW {a b : Run} : dSl (dW (a :: (w ++ [b]))) (some 1) (some (-1)) st Q = Q (dW w) st := by
  unfold dSl dW
  dsimp only
  rw [List.map_cons, List.map_append, List.map_cons, List.map_nil, cut_inner]
theorem item_lastW {b : Run} : dItem st (dW (w ++ [b])) (-1) = some (dRun b) := by
  unfold dW
  rw [List.map_append]
  exact atI_end _ _
def mk : Letter := ⟨33, []⟩
theorem w_mark : D.tup [D.str (Str.ofString "!")] = dL mk := by
  have e : Str.ofString "!" = ⟨#[33]⟩ := by decide
  rw [e]
  rfl
theorem w_extT {zs : List D} : dExtT (.ref k) [.tup zs] st Q = match st[k]? with
    | some (.lst xs) => xs.length + zs.length ≤ sizeLine ∧ Q .non (st.set k (.lst (xs ++ zs)))
    | _ => False := rfl
theorem w_extT_W : dExtT (.ref k) [dW w] st Q = match st[k]? with
    | some (.lst xs) => xs.length + w.length ≤ sizeLine ∧ Q .non (st.set k (.lst (xs ++ w.map dRun)))
    | _ => False := by
  unfold dW
  rw [w_extT, List.length_map]
theorem w_neg : dNeg (.int i) st Q = Q (.int (-i)) st := rfl
theorem w_ix : dIx x (.int i) st Q = match dItem st x i with
    | some d => Q d st
    | none => False := rfl
theorem w_len_t : dLen [.tup xs] st Q = Q (.int xs.length) st := rfl
theorem w_len_l : dLen [.rol xs] st Q = Q (.int xs.length) st := rfl
theorem w_len_r : dLen [.ref k] st Q = match st[k]? with
    | some (.lst xs) => Q (.int xs.length) st
    | _ => False := rfl
theorem w_list_t : dListOf [.tup xs] st Q = Q (.ref st.length) (st ++ [.lst xs]) := rfl
theorem w_list_l : dListOf [.rol xs] st Q = Q (.ref st.length) (st ++ [.lst xs]) := rfl
theorem w_list_r : dListOf [.ref k] st Q = match st[k]? with
    | some (.lst xs) => Q (.ref st.length) (st ++ [.lst xs])
    | _ => False := rfl
theorem w_list_W : dListOf [dW w] st Q = Q (.ref st.length) (st ++ [.lst (w.map dRun)]) := rfl
theorem w_tuple_t : dTupleOf [.tup xs] st Q = Q (.tup xs) st := rfl
theorem w_tuple_l : dTupleOf [.rol xs] st Q = Q (.tup xs) st := rfl
theorem w_tuple_r : dTupleOf [.ref k] st Q = match st[k]? with
    | some (.lst xs) => Q (.tup xs) st
    | _ => False := rfl
theorem w_tuple_W : dTupleOf [dW w] st Q = Q (dW w) st := rfl
theorem w_tup_W : D.tup (w.map dRun) = dW w := rfl
theorem w_item_t : dItem st (.tup xs) i = atI xs i := rfl
theorem w_item_l : dItem st (.rol xs) i = atI xs i := rfl
theorem w_items_t : dItems st (.tup xs) = some xs := rfl
theorem w_items_l : dItems st (.rol xs) = some xs := rfl
theorem w_items_W : dItems st (dW w) = some (w.map dRun) := rfl
theorem w_items_r : dItems st (.ref k) = match st[k]? with
    | some (.lst xs) => some xs
    | _ => none := rfl
theorem w_tru_b {b : Bool} : dTru (.bl b) st QB = QB b st := rfl
theorem w_tru_i : dTru (.int i) st QB = QB (i != 0) st := rfl
theorem w_tru_t : dTru (.tup xs) st QB = QB (!xs.isEmpty) st := rfl
theorem w_tru_W : dTru (dW w) st QB = QB (!w.isEmpty) st := by
  unfold dTru dW
  simp
theorem w_tru_l : dTru (.rol xs) st QB = QB (!xs.isEmpty) st := rfl
theorem w_tru_n : dTru .non st QB = QB false st := rfl
theorem w_tru_r : dTru (.ref k) st QB = match st[k]? with
    | some (.lst xs) => QB (!xs.isEmpty) st
    | _ => False := rfl
theorem w_gtup {n : Nat} {t : DTGs} {R : DEnv → Store → Prop} : dgTup n t (.tup xs) env st R = (xs.length = n ∧ t xs env st R) := rfl
theorem w_gcons {t : DTG} {u : DTGs} {R : DEnv → Store → Prop} : dgCons t u (x :: xs) env st R = t x env st fun env' st' => u xs env' st' R := rfl
theorem w_gnil {R : DEnv → Store → Prop} : dgNil [] env st R = R env st := rfl
def dRevK (x : D) (fin : List D → Store → DQ → Prop) (st : Store) (Q : DQ) : Prop := match x with
  | .ref k => match st[k]? with
    | some (.lst xs) => fin xs.reverse st Q
    | _ => False
  | .rol xs => fin xs.reverse st Q
  | _ => False
theorem w_revOf {te : DTE} {fin : List D → Store → DQ → Prop} : dRevOf te fin env st Q = te env st fun x st1 => dRevK x fin st1 Q := rfl
theorem w_rev_r {fin : List D → Store → DQ → Prop} : dRevK (.ref k) fin st Q = match st[k]? with
    | some (.lst xs) => fin xs.reverse st Q
    | _ => False := rfl
theorem w_rev_l {fin : List D → Store → DQ → Prop} : dRevK (.rol xs) fin st Q = fin xs.reverse st Q := rfl
theorem w_sl_t {lo hi : Option Int} : dSl (.tup xs) lo hi st Q = Q (.tup (cutD xs lo hi)) st := rfl
theorem w_sl_l {lo hi : Option Int} : dSl (.rol xs) lo hi st Q = Q (.ref st.length) (st ++ [.lst (cutD xs lo hi)]) := rfl
theorem w_sl_r {lo hi : Option Int} : dSl (.ref k) lo hi st Q = match st[k]? with
    | some (.lst xs) => Q (.ref st.length) (st ++ [.lst (cutD xs lo hi)])
    | _ => False := rfl
theorem w_ty_n : D.tyName st .non = some "NoneType" := rfl
theorem w_ty_b {b : Bool} : D.tyName st (.bl b) = some "bool" := rfl
theorem w_ty_i : D.tyName st (.int i) = some "int" := rfl
theorem w_ty_s : D.tyName st (.str z) = some "str" := rfl
theorem w_ty_t : D.tyName st (.tup xs) = some "tuple" := rfl
theorem w_ty_l : D.tyName st (.rol xs) = some "list" := rfl
theorem w_snoc {α : Type} {f : α → D} {xs : List α} {x : α} : xs.map f ++ [f x] = (xs ++ [x]).map f := by simp
theorem w_app {α : Type} {f : α → D} {xs ys : List α} : xs.map f ++ ys.map f = (xs ++ ys).map f := by simp
theorem w_end {α : Type} {f : α → D} {xs : List α} {x : α} : atI ((xs ++ [x]).map f) (-1) = some (f x) := by
  rw [List.map_append]
  exact atI_end _ _
theorem w_endN {α : Type} {f : α → D} {xs : List α} {x : α} : ((xs ++ [x]).map f)[(xs ++ [x]).length - 1]? = some (f x) := by simp
theorem w_endN2 {α : Type} {f : α → D} {xs : List α} {x : α} : ((xs ++ [x]).map f)[xs.length]? = some (f x) := by simp
theorem w_dl {α : Type} {f : α → D} {xs : List α} {x : α} : ((xs ++ [x]).map f).dropLast = xs.map f := by simp
theorem w_nilmap {α : Type} {f : α → D} : ([] : List α).map f = [] := rfl
theorem w_emp {α : Type} {f : α → D} {xs : List α} : (xs.map f).isEmpty = xs.isEmpty := by simp
theorem w_beq0 {b : Bool} : ((!b) = true) = (b = false) := by simp
theorem w_items_ref (h : st[k]? = some (.lst xs)) : dItems st (.ref k) = some xs := by
  rw [w_items_r, h]
theorem dEqv_0L (l : Letter) : dEqv st (.tup []) (dL l) = some false := by
  rw [dEqv_fl rfl (fl_L 7 l)]
  rfl
theorem item_WN {n : Nat} {r : Run} (h : w[n]? = some r) : dItem st (dW w) (n : Int) = some (dRun r) := by
  obtain ⟨r', h', e⟩ := item_W (st := st) (w := w) (i := n) (by omega) (by have := (List.getElem?_eq_some_iff.mp h).1; omega)
  rw [e]
  rw [Int.toNat_natCast, h] at h'
  cases h'
  rfl
theorem w_sl_toN {n : Nat} : dSl (dW w) none (some (n : Int)) st Q = Q (dW (w.take n)) st := by
  rw [sl_to (by omega)]
  rfl
theorem w_sl_fromN {n : Nat} : dSl (dW w) (some (n : Int)) none st Q = Q (dW (w.drop n)) st := by
  rw [sl_from (by omega)]
  rfl
theorem w_cut_tail : cutD (x :: xs) (some 1) none = xs := by
  have := cut_from (xs := x :: xs) (k := 1)
  exact this
def IsSeq (st : Store) (x : D) (xs : List D) : Prop := dItems st x = some xs ∧ ∀ z, x ≠ .str z
theorem IsSeq.app {s2 : Store} (h : IsSeq st x xs) : IsSeq (st ++ s2) x xs := ⟨dItems_app h.1, h.2⟩
theorem IsSeq.W : IsSeq st (dW w) (w.map dRun) := ⟨rfl, fun _ e => by cases e⟩
theorem IsSeq.ref (h : st[k]? = some (.lst xs)) : IsSeq st (.ref k) xs := ⟨w_items_ref h, fun _ e => by cases e⟩
theorem list_seq (h : IsSeq st x xs) : dListOf [x] st Q = Q (.ref st.length) (st ++ [.lst xs]) := by
  obtain ⟨h, hz⟩ := h
  cases x with
  | tup ys => cases h; rfl
  | rol ys => cases h; rfl
  | ref k =>
    rw [w_items_r] at h
    rw [w_list_r]
    split at h
    · rename_i e
      cases h
      rfl
    · cases h
  | str z => exact absurd rfl (hz z)
  | _ => cases h
theorem dWh_step {c : DTT} {tb : DTS} {n f : Nat} {d : DEnds} : dWh c tb n d (f + 1) env st = c env st fun b st1 => if b = true then tb n { d with nx := dWh c tb n d f, ct := dWh c tb n d f, bk := d.nx } env st1 else d.nx env st1 := rfl
theorem w_gc {Q1 : DTS} {n : Nat} {d : DEnds} (hn : n ≤ st.length) (wf : Wf st) (we : ∀ (i : Nat) x, env[i]? = some (some x) → x.lt st.length) (h : Q1 n d env st) : dGc Q1 n d env st := gc_id hn wf we h
end
theorem w_isi_int_int : isiD "int" "int" = some true := rfl
theorem w_isi_bool_int : isiD "bool" "int" = some true := rfl
theorem w_isi_str_int : isiD "str" "int" = some false := rfl
theorem w_isi_tuple_int : isiD "tuple" "int" = some false := rfl
theorem w_isi_list_int : isiD "list" "int" = some false := rfl
theorem w_isi_NoneType_int : isiD "NoneType" "int" = some false := rfl
theorem w_isi_int_bool : isiD "int" "bool" = some false := rfl
theorem w_isi_bool_bool : isiD "bool" "bool" = some true := rfl
theorem w_isi_str_bool : isiD "str" "bool" = some false := rfl
theorem w_isi_tuple_bool : isiD "tuple" "bool" = some false := rfl
theorem w_isi_list_bool : isiD "list" "bool" = some false := rfl
theorem w_isi_NoneType_bool : isiD "NoneType" "bool" = some false := rfl
theorem w_isi_int_str : isiD "int" "str" = some false := rfl
theorem w_isi_bool_str : isiD "bool" "str" = some false := rfl
theorem w_isi_str_str : isiD "str" "str" = some true := rfl
theorem w_isi_tuple_str : isiD "tuple" "str" = some false := rfl
theorem w_isi_list_str : isiD "list" "str" = some false := rfl
theorem w_isi_NoneType_str : isiD "NoneType" "str" = some false := rfl
theorem w_isi_int_tuple : isiD "int" "tuple" = some false := rfl
theorem w_isi_bool_tuple : isiD "bool" "tuple" = some false := rfl
theorem w_isi_str_tuple : isiD "str" "tuple" = some false := rfl
theorem w_isi_tuple_tuple : isiD "tuple" "tuple" = some true := rfl
theorem w_isi_list_tuple : isiD "list" "tuple" = some false := rfl
theorem w_isi_NoneType_tuple : isiD "NoneType" "tuple" = some false := rfl
theorem w_isi_int_list : isiD "int" "list" = some false := rfl
theorem w_isi_bool_list : isiD "bool" "list" = some false := rfl
theorem w_isi_str_list : isiD "str" "list" = some false := rfl
theorem w_isi_tuple_list : isiD "tuple" "list" = some false := rfl
theorem w_isi_list_list : isiD "list" "list" = some true := rfl
theorem w_isi_NoneType_list : isiD "NoneType" "list" = some false := rfl

/-! pools and cells -/
abbrev Pool := {o : O // IsPool o}
theorem Pool.lt {n : Nat} (p : Pool) : p.1.lt n := IsPool.lt p.2
theorem ex_pool {p0 : Pool} {R : Pool → Prop} : (∃ p : Pool, some p0.1 = some p.1 ∧ R p) = R p0 := by
  apply propext
  constructor
  · rintro ⟨p, e, h⟩
    have : p = p0 := Subtype.ext (Option.some.inj e).symm
    rw [← this]
    exact h
  · intro h
    exact ⟨p0, rfl, h⟩
theorem p_app {S l : Store} {k : Nat} (h : k < S.length) : (S ++ l)[k]? = S[k]? := List.getElem?_append_left h
theorem p_setapp {S l : Store} {k : Nat} {o : O} (h : k < S.length) : (S ++ l).set k o = S.set k o ++ l := List.set_append_left _ _ h
theorem p_self {S : Store} {k : Nat} {o : O} (h : k < S.length) : (S.set k o)[k]? = some o := List.getElem?_set_self h
theorem p_ne {S : Store} {k j : Nat} {o : O} (h : k ≠ j) : (S.set k o)[j]? = S[j]? := List.getElem?_set_ne h
theorem p_fix {S : Store} {k : Nat} {o : O} (h : S[k]? = some o) : S.set k o = S := by
  have hk := (List.getElem?_eq_some_iff.mp h)
  obtain ⟨h1, h2⟩ := hk
  rw [← h2]
  exact List.set_getElem_self h1
theorem ix_end {n : Nat} : ixN (n + 1) (-1) = some n := by
  unfold ixN
  rw [if_neg (by omega), if_pos (by omega)]
  congr 1
  omega
theorem set_end_map {α : Type} {f : α → D} {xs : List α} {x y : α} : ((xs ++ [x]).map f).set xs.length (f y) = (xs ++ [y]).map f := by simp
theorem dEqv_cells {S : Store} {a b : Nat} {xs ys : List D} (ha : S[a]? = some (.lst xs)) (hb : S[b]? = some (.lst ys)) (fx : xs.all (D.fl 8) = true) (fy : ys.all (D.fl 8) = true) : dEqv S (.ref a) (.ref b) = some (PyData.eqvAll (D.pys xs) (D.pys ys)) := by
  have e1 : pyd S (.ref a) = some (.list (D.pys xs)) := by
    unfold pyd
    rw [if_neg (by simp [D.fl])]
    dsimp only
    rw [ha]
    dsimp only
    rw [if_pos fx]
  have e2 : pyd S (.ref b) = some (.list (D.pys ys)) := by
    unfold pyd
    rw [if_neg (by simp [D.fl])]
    dsimp only
    rw [hb]
    dsimp only
    rw [if_pos fy]
  unfold dEqv
  rw [e1, e2]
  dsimp only
  simp only [PyData.eqv]
theorem dEqv_runs {S : Store} {a b : Nat} {u v : Word} (ha : S[a]? = some (.lst (u.map dRun))) (hb : S[b]? = some (.lst (v.map dRun))) : dEqv S (.ref a) (.ref b) = some (decide (u = v)) := by
  rw [dEqv_cells ha hb (fl_runs 6 u) (fl_runs 6 v), eqv_runs]
theorem fl_Ws (ws : List Word) : (ws.map dW).all (D.fl 8) = true := by
  rw [List.all_eq_true]
  intro d hd
  obtain ⟨i, _, rfl⟩ := List.mem_map.mp hd
  exact fl_W 5 i
theorem eqv_Ws : ∀ u v : List Word, PyData.eqvAll (D.pys (u.map dW)) (D.pys (v.map dW)) = decide (u = v)
  | [], [] => by simp [D.pys, PyData.eqvAll]
  | [], k :: ks => by simp [D.pys, PyData.eqvAll]
  | h :: hs, [] => by simp [D.pys, PyData.eqvAll]
  | h :: hs, k :: ks => by
    have ih := eqv_Ws hs ks
    have h1 := eqv_W h k
    simp only [List.map_cons, D.pys, PyData.eqvAll, ih, h1]
    rw [Bool.eq_iff_iff]
    simp
theorem dEqv_Ws {S : Store} {a b : Nat} {u v : List Word} (ha : S[a]? = some (.lst (u.map dW))) (hb : S[b]? = some (.lst (v.map dW))) : dEqv S (.ref a) (.ref b) = some (decide (u = v)) := by
  rw [dEqv_cells ha hb (fl_Ws u) (fl_Ws v), eqv_Ws]
theorem flatten_le {α : Type} {m : Nat} : ∀ {ws : List (List α)}, (∀ w ∈ ws, w.length ≤ m) → ws.flatten.length ≤ ws.length * m
  | [], _ => by simp
  | w :: ws, h => by
    have h1 := h w (by simp)
    have h2 := flatten_le (ws := ws) fun x hx => h x (by simp [hx])
    rw [List.flatten_cons, List.length_append, List.length_cons, Nat.succ_mul]
    omega
theorem ret_pre {st T : Store} {Q : DQ} {d : D} (wf : Wf st) (hd : d.lt st.length) (hT : ∀ i, i < st.length → T[i]? = st[i]?) (q : Q d st) : Ret st.length Q d T := ret_old (Nat.le_refl _) hT wf hd q
theorem at_map {α : Type} {f : α → D} {xs : List α} {v : Int} (h0 : 0 ≤ v) (h1 : v < (xs.length : Int)) : ∃ x ∈ xs, atI (xs.map f) v = some (f x) := by
  have h : v.toNat < xs.length := by omega
  refine ⟨xs[v.toNat], List.getElem_mem h, ?_⟩
  rw [atI_nn h0 (by rw [List.length_map]; exact h1), List.getElem?_map, List.getElem?_eq_getElem h]
  rfl
theorem pool_ne {α : Type} {f : α → D} {S : Store} {k a : Nat} {p : Pool} {xs : List α} (hk : S[k]? = some p.1) (ha : S[a]? = some (.lst (xs.map f))) (hf : ∀ x i, f x ≠ .int i) : k ≠ a := by
  rintro rfl
  obtain ⟨o, c, n, s, rfl, _⟩ := p
  rw [ha] at hk
  injection hk with hk
  injection hk with hk
  cases xs with
  | nil => cases hk
  | cons x xs =>
    rw [List.map_cons] at hk
    injection hk with h1 h2
    exact hf _ _ h1
theorem dL_ne (l : Letter) (i : Int) : dL l ≠ .int i := fun e => by cases e
theorem dRun_ne (l : Run) (i : Int) : dRun l ≠ .int i := fun e => by cases e
theorem dW_ne (l : Word) (i : Int) : dW l ≠ .int i := fun e => by cases e
theorem lt_of_get {S : Store} {k : Nat} {o : O} (h : S[k]? = some o) : k < S.length := (List.getElem?_eq_some_iff.mp h).1
/-- what the laws' drawn words keep -/
def WOk (ls : List Letter) (g : Int) (w : Word) : Prop := ∀ r ∈ w, r.1 ∈ ls ∧ -(10 ^ 30) < r.2 ∧ r.2 < 10 ^ 30 ∧ (g = 0 → -3 ≤ r.2 ∧ r.2 ≤ 3)
theorem WOk.app {ls : List Letter} {g : Int} {u v : Word} (h1 : WOk ls g u) (h2 : WOk ls g v) : WOk ls g (u ++ v) := fun r hr => (List.mem_append.mp hr).elim (h1 r) (h2 r)
theorem WOk.inv {ls : List Letter} {g : Int} {u : Word} (h : WOk ls g u) : WOk ls g (inv u) := fun r hr => by
  unfold Wd.inv at hr
  rw [List.mem_reverse] at hr
  obtain ⟨x, hx, rfl⟩ := List.mem_map.mp hr
  obtain ⟨h1, h2, h3, h4⟩ := h x hx
  exact ⟨h1, by show _ < -x.2; omega, by show -x.2 < _; omega, fun hg => by have := h4 hg; show -3 ≤ -x.2 ∧ -x.2 ≤ 3; omega⟩
theorem WOk.drop {ls : List Letter} {g : Int} {u : Word} (n : Nat) (h : WOk ls g u) : WOk ls g (u.drop n) := fun r hr => h r (List.mem_of_mem_drop hr)
theorem WOk.nil {ls : List Letter} {g : Int} : WOk ls g [] := fun r hr => by cases hr
theorem WOk.one {ls : List Letter} {g : Int} {l : Letter} {e : Int} (h : l ∈ ls) (h1 : -(10 ^ 30) < e) (h2 : e < 10 ^ 30) (h3 : g = 0 → -3 ≤ e ∧ e ≤ 3) : WOk ls g [(l, e)] := fun r hr => by
  rw [List.mem_singleton] at hr
  subst hr
  exact ⟨h, h1, h2, h3⟩
theorem Wf.apps {S l : Store} (w : Wf S) (h : ∀ o ∈ l, o.lt (S.length + l.length)) : Wf (S ++ l) := by
  intro j u e
  rw [List.length_append]
  by_cases hj : j < S.length
  · rw [List.getElem?_append_left hj] at e
    exact O.lt_mono (by omega) u (w j u e)
  · rw [List.getElem?_append_right (by omega)] at e
    exact h u (List.mem_of_getElem? e)
theorem lt_ints {n : Nat} (hs : List Int) : D.lts n (hs.map D.int) := by
  rw [lts_iff]
  intro d hd
  obtain ⟨r, _, rfl⟩ := List.mem_map.mp hd
  trivial
def EnvOk (n : Nat) : DEnv → DEnv → Prop
  | [], [] => True
  | none :: a, _ :: b => EnvOk n a b
  | some x :: a, y :: b => y = some x ∧ x.lt n ∧ EnvOk n a b
  | _, _ => False
theorem EnvOk.get {n : Nat} : ∀ {a b : DEnv}, EnvOk n a b → a.length = b.length ∧ ∀ (i : Nat) x, a[i]? = some (some x) → b[i]? = some (some x) ∧ x.lt n
  | [], [], _ => ⟨rfl, fun i x e => by simp at e⟩
  | none :: a, y :: b, h => by
    obtain ⟨h1, h2⟩ := EnvOk.get (a := a) (b := b) h
    refine ⟨by simp [h1], fun i x e => ?_⟩
    cases i with
    | zero => simp at e
    | succ i => simpa using h2 i x (by simpa using e)
  | some z :: a, y :: b, h => by
    obtain ⟨e1, e2, h⟩ := h
    obtain ⟨h1, h2⟩ := EnvOk.get (a := a) (b := b) h
    refine ⟨by simp [h1], fun i x e => ?_⟩
    cases i with
    | zero =>
      simp at e
      subst e
      subst e1
      exact ⟨rfl, e2⟩
    | succ i => simpa using h2 i x (by simpa using e)
theorem gc_drop {ts : DTS} {n : Nat} {d : DEnds} {env env0 : DEnv} {A l : Store} (hn : n ≤ A.length) (wf : Wf A) (he : EnvOk A.length env0 env) (h : ts n d env0 A) : dGc ts n d env (A ++ l) :=
  ⟨env0, A, fun i => i, ⟨fun _ _ => rfl, hn, fun _ _ _ _ e => e, fun i o e => ⟨by rw [O.ren_id (n := A.length) (fun _ _ => rfl) o (wf i o e)]; exact get_app e, wf i o e⟩⟩, he.get.1, fun i x e => ⟨by rw [ren_id (n := A.length) (fun _ _ => rfl) x (he.get.2 i x e).2]; exact (he.get.2 i x e).1, (he.get.2 i x e).2⟩, h⟩
theorem mem_L {S : Store} {k : Nat} {ls : List Letter} {l : Letter} (h : S[k]? = some (.lst (ls.map dL))) : dMem S (dL l) (.ref k) = some (decide (l ∈ ls)) := by
  show (match S[k]? with
    | some (.lst xs) => if (dL l).fl 8 = true ∧ xs.all (D.fl 8) = true then some (xs.any fun z => PyData.eqv z.py (dL l).py) else none
    | _ => none) = _
  rw [h]
  have h1 : (ls.map dL).all (D.fl 8) = true := by
    rw [List.all_eq_true]
    intro d hd
    obtain ⟨i, _, rfl⟩ := List.mem_map.mp hd
    exact fl_L 7 i
  dsimp only
  rw [if_pos ⟨fl_L 7 l, h1⟩, List.any_map]
  congr 1
  rw [Bool.eq_iff_iff]
  simp only [List.any_eq_true, Function.comp, eqv_L, decide_eq_true_eq]
  constructor
  · rintro ⟨x, hx, rfl⟩
    exact hx
  · intro hx
    exact ⟨l, hx, rfl⟩

theorem p_get0 {S l : Store} {c0 : O} : (S ++ c0 :: l)[S.length]? = some c0 := by rw [List.getElem?_append_right (by omega)]; simp
theorem p_gets0 {S l : Store} {k : Nat} {p c0 : O} : (S.set k p ++ c0 :: l)[S.length]? = some c0 := by rw [List.getElem?_append_right (by simp)]; simp
theorem p_set0 {S l : Store} {c0 o : O} : (S ++ c0 :: l).set (S.length) o = S ++ o :: l := by rw [List.set_append_right _ _ (by omega)]; simp
theorem p_sets0 {S l : Store} {k : Nat} {p c0 o : O} : (S.set k p ++ c0 :: l).set (S.length) o = S.set k p ++ o :: l := by rw [List.set_append_right _ _ (by simp)]; simp
theorem p_get1 {S l : Store} {c0 c1 : O} : (S ++ c0 :: c1 :: l)[S.length + 1]? = some c1 := by rw [List.getElem?_append_right (by omega)]; simp
theorem p_gets1 {S l : Store} {k : Nat} {p c0 c1 : O} : (S.set k p ++ c0 :: c1 :: l)[S.length + 1]? = some c1 := by rw [List.getElem?_append_right (by simp)]; simp
theorem p_set1 {S l : Store} {c0 c1 o : O} : (S ++ c0 :: c1 :: l).set (S.length + 1) o = S ++ c0 :: o :: l := by rw [List.set_append_right _ _ (by omega)]; simp
theorem p_sets1 {S l : Store} {k : Nat} {p c0 c1 o : O} : (S.set k p ++ c0 :: c1 :: l).set (S.length + 1) o = S.set k p ++ c0 :: o :: l := by rw [List.set_append_right _ _ (by simp)]; simp
theorem p_get2 {S l : Store} {c0 c1 c2 : O} : (S ++ c0 :: c1 :: c2 :: l)[S.length + 2]? = some c2 := by rw [List.getElem?_append_right (by omega)]; simp
theorem p_gets2 {S l : Store} {k : Nat} {p c0 c1 c2 : O} : (S.set k p ++ c0 :: c1 :: c2 :: l)[S.length + 2]? = some c2 := by rw [List.getElem?_append_right (by simp)]; simp
theorem p_set2 {S l : Store} {c0 c1 c2 o : O} : (S ++ c0 :: c1 :: c2 :: l).set (S.length + 2) o = S ++ c0 :: c1 :: o :: l := by rw [List.set_append_right _ _ (by omega)]; simp
theorem p_sets2 {S l : Store} {k : Nat} {p c0 c1 c2 o : O} : (S.set k p ++ c0 :: c1 :: c2 :: l).set (S.length + 2) o = S.set k p ++ c0 :: c1 :: o :: l := by rw [List.set_append_right _ _ (by simp)]; simp
theorem p_get3 {S l : Store} {c0 c1 c2 c3 : O} : (S ++ c0 :: c1 :: c2 :: c3 :: l)[S.length + 3]? = some c3 := by rw [List.getElem?_append_right (by omega)]; simp
theorem p_gets3 {S l : Store} {k : Nat} {p c0 c1 c2 c3 : O} : (S.set k p ++ c0 :: c1 :: c2 :: c3 :: l)[S.length + 3]? = some c3 := by rw [List.getElem?_append_right (by simp)]; simp
theorem p_set3 {S l : Store} {c0 c1 c2 c3 o : O} : (S ++ c0 :: c1 :: c2 :: c3 :: l).set (S.length + 3) o = S ++ c0 :: c1 :: c2 :: o :: l := by rw [List.set_append_right _ _ (by omega)]; simp
theorem p_sets3 {S l : Store} {k : Nat} {p c0 c1 c2 c3 o : O} : (S.set k p ++ c0 :: c1 :: c2 :: c3 :: l).set (S.length + 3) o = S.set k p ++ c0 :: c1 :: c2 :: o :: l := by rw [List.set_append_right _ _ (by simp)]; simp
theorem p_get4 {S l : Store} {c0 c1 c2 c3 c4 : O} : (S ++ c0 :: c1 :: c2 :: c3 :: c4 :: l)[S.length + 4]? = some c4 := by rw [List.getElem?_append_right (by omega)]; simp
theorem p_gets4 {S l : Store} {k : Nat} {p c0 c1 c2 c3 c4 : O} : (S.set k p ++ c0 :: c1 :: c2 :: c3 :: c4 :: l)[S.length + 4]? = some c4 := by rw [List.getElem?_append_right (by simp)]; simp
theorem p_set4 {S l : Store} {c0 c1 c2 c3 c4 o : O} : (S ++ c0 :: c1 :: c2 :: c3 :: c4 :: l).set (S.length + 4) o = S ++ c0 :: c1 :: c2 :: c3 :: o :: l := by rw [List.set_append_right _ _ (by omega)]; simp
theorem p_sets4 {S l : Store} {k : Nat} {p c0 c1 c2 c3 c4 o : O} : (S.set k p ++ c0 :: c1 :: c2 :: c3 :: c4 :: l).set (S.length + 4) o = S.set k p ++ c0 :: c1 :: c2 :: c3 :: o :: l := by rw [List.set_append_right _ _ (by simp)]; simp
theorem p_get5 {S l : Store} {c0 c1 c2 c3 c4 c5 : O} : (S ++ c0 :: c1 :: c2 :: c3 :: c4 :: c5 :: l)[S.length + 5]? = some c5 := by rw [List.getElem?_append_right (by omega)]; simp
theorem p_gets5 {S l : Store} {k : Nat} {p c0 c1 c2 c3 c4 c5 : O} : (S.set k p ++ c0 :: c1 :: c2 :: c3 :: c4 :: c5 :: l)[S.length + 5]? = some c5 := by rw [List.getElem?_append_right (by simp)]; simp
theorem p_set5 {S l : Store} {c0 c1 c2 c3 c4 c5 o : O} : (S ++ c0 :: c1 :: c2 :: c3 :: c4 :: c5 :: l).set (S.length + 5) o = S ++ c0 :: c1 :: c2 :: c3 :: c4 :: o :: l := by rw [List.set_append_right _ _ (by omega)]; simp
theorem p_sets5 {S l : Store} {k : Nat} {p c0 c1 c2 c3 c4 c5 o : O} : (S.set k p ++ c0 :: c1 :: c2 :: c3 :: c4 :: c5 :: l).set (S.length + 5) o = S.set k p ++ c0 :: c1 :: c2 :: c3 :: c4 :: o :: l := by rw [List.set_append_right _ _ (by simp)]; simp
theorem p_get6 {S l : Store} {c0 c1 c2 c3 c4 c5 c6 : O} : (S ++ c0 :: c1 :: c2 :: c3 :: c4 :: c5 :: c6 :: l)[S.length + 6]? = some c6 := by rw [List.getElem?_append_right (by omega)]; simp
theorem p_gets6 {S l : Store} {k : Nat} {p c0 c1 c2 c3 c4 c5 c6 : O} : (S.set k p ++ c0 :: c1 :: c2 :: c3 :: c4 :: c5 :: c6 :: l)[S.length + 6]? = some c6 := by rw [List.getElem?_append_right (by simp)]; simp
theorem p_set6 {S l : Store} {c0 c1 c2 c3 c4 c5 c6 o : O} : (S ++ c0 :: c1 :: c2 :: c3 :: c4 :: c5 :: c6 :: l).set (S.length + 6) o = S ++ c0 :: c1 :: c2 :: c3 :: c4 :: c5 :: o :: l := by rw [List.set_append_right _ _ (by omega)]; simp
theorem p_sets6 {S l : Store} {k : Nat} {p c0 c1 c2 c3 c4 c5 c6 o : O} : (S.set k p ++ c0 :: c1 :: c2 :: c3 :: c4 :: c5 :: c6 :: l).set (S.length + 6) o = S.set k p ++ c0 :: c1 :: c2 :: c3 :: c4 :: c5 :: o :: l := by rw [List.set_append_right _ _ (by simp)]; simp
theorem p_get7 {S l : Store} {c0 c1 c2 c3 c4 c5 c6 c7 : O} : (S ++ c0 :: c1 :: c2 :: c3 :: c4 :: c5 :: c6 :: c7 :: l)[S.length + 7]? = some c7 := by rw [List.getElem?_append_right (by omega)]; simp
theorem p_gets7 {S l : Store} {k : Nat} {p c0 c1 c2 c3 c4 c5 c6 c7 : O} : (S.set k p ++ c0 :: c1 :: c2 :: c3 :: c4 :: c5 :: c6 :: c7 :: l)[S.length + 7]? = some c7 := by rw [List.getElem?_append_right (by simp)]; simp
theorem p_set7 {S l : Store} {c0 c1 c2 c3 c4 c5 c6 c7 o : O} : (S ++ c0 :: c1 :: c2 :: c3 :: c4 :: c5 :: c6 :: c7 :: l).set (S.length + 7) o = S ++ c0 :: c1 :: c2 :: c3 :: c4 :: c5 :: c6 :: o :: l := by rw [List.set_append_right _ _ (by omega)]; simp
theorem p_sets7 {S l : Store} {k : Nat} {p c0 c1 c2 c3 c4 c5 c6 c7 o : O} : (S.set k p ++ c0 :: c1 :: c2 :: c3 :: c4 :: c5 :: c6 :: c7 :: l).set (S.length + 7) o = S.set k p ++ c0 :: c1 :: c2 :: c3 :: c4 :: c5 :: c6 :: o :: l := by rw [List.set_append_right _ _ (by simp)]; simp
theorem p_get8 {S l : Store} {c0 c1 c2 c3 c4 c5 c6 c7 c8 : O} : (S ++ c0 :: c1 :: c2 :: c3 :: c4 :: c5 :: c6 :: c7 :: c8 :: l)[S.length + 8]? = some c8 := by rw [List.getElem?_append_right (by omega)]; simp
theorem p_gets8 {S l : Store} {k : Nat} {p c0 c1 c2 c3 c4 c5 c6 c7 c8 : O} : (S.set k p ++ c0 :: c1 :: c2 :: c3 :: c4 :: c5 :: c6 :: c7 :: c8 :: l)[S.length + 8]? = some c8 := by rw [List.getElem?_append_right (by simp)]; simp
theorem p_set8 {S l : Store} {c0 c1 c2 c3 c4 c5 c6 c7 c8 o : O} : (S ++ c0 :: c1 :: c2 :: c3 :: c4 :: c5 :: c6 :: c7 :: c8 :: l).set (S.length + 8) o = S ++ c0 :: c1 :: c2 :: c3 :: c4 :: c5 :: c6 :: c7 :: o :: l := by rw [List.set_append_right _ _ (by omega)]; simp
theorem p_sets8 {S l : Store} {k : Nat} {p c0 c1 c2 c3 c4 c5 c6 c7 c8 o : O} : (S.set k p ++ c0 :: c1 :: c2 :: c3 :: c4 :: c5 :: c6 :: c7 :: c8 :: l).set (S.length + 8) o = S.set k p ++ c0 :: c1 :: c2 :: c3 :: c4 :: c5 :: c6 :: c7 :: o :: l := by rw [List.set_append_right _ _ (by simp)]; simp
theorem p_get9 {S l : Store} {c0 c1 c2 c3 c4 c5 c6 c7 c8 c9 : O} : (S ++ c0 :: c1 :: c2 :: c3 :: c4 :: c5 :: c6 :: c7 :: c8 :: c9 :: l)[S.length + 9]? = some c9 := by rw [List.getElem?_append_right (by omega)]; simp
theorem p_gets9 {S l : Store} {k : Nat} {p c0 c1 c2 c3 c4 c5 c6 c7 c8 c9 : O} : (S.set k p ++ c0 :: c1 :: c2 :: c3 :: c4 :: c5 :: c6 :: c7 :: c8 :: c9 :: l)[S.length + 9]? = some c9 := by rw [List.getElem?_append_right (by simp)]; simp
theorem p_set9 {S l : Store} {c0 c1 c2 c3 c4 c5 c6 c7 c8 c9 o : O} : (S ++ c0 :: c1 :: c2 :: c3 :: c4 :: c5 :: c6 :: c7 :: c8 :: c9 :: l).set (S.length + 9) o = S ++ c0 :: c1 :: c2 :: c3 :: c4 :: c5 :: c6 :: c7 :: c8 :: o :: l := by rw [List.set_append_right _ _ (by omega)]; simp
theorem p_sets9 {S l : Store} {k : Nat} {p c0 c1 c2 c3 c4 c5 c6 c7 c8 c9 o : O} : (S.set k p ++ c0 :: c1 :: c2 :: c3 :: c4 :: c5 :: c6 :: c7 :: c8 :: c9 :: l).set (S.length + 9) o = S.set k p ++ c0 :: c1 :: c2 :: c3 :: c4 :: c5 :: c6 :: c7 :: c8 :: o :: l := by rw [List.set_append_right _ _ (by simp)]; simp
theorem p_get10 {S l : Store} {c0 c1 c2 c3 c4 c5 c6 c7 c8 c9 c10 : O} : (S ++ c0 :: c1 :: c2 :: c3 :: c4 :: c5 :: c6 :: c7 :: c8 :: c9 :: c10 :: l)[S.length + 10]? = some c10 := by rw [List.getElem?_append_right (by omega)]; simp
theorem p_gets10 {S l : Store} {k : Nat} {p c0 c1 c2 c3 c4 c5 c6 c7 c8 c9 c10 : O} : (S.set k p ++ c0 :: c1 :: c2 :: c3 :: c4 :: c5 :: c6 :: c7 :: c8 :: c9 :: c10 :: l)[S.length + 10]? = some c10 := by rw [List.getElem?_append_right (by simp)]; simp
theorem p_set10 {S l : Store} {c0 c1 c2 c3 c4 c5 c6 c7 c8 c9 c10 o : O} : (S ++ c0 :: c1 :: c2 :: c3 :: c4 :: c5 :: c6 :: c7 :: c8 :: c9 :: c10 :: l).set (S.length + 10) o = S ++ c0 :: c1 :: c2 :: c3 :: c4 :: c5 :: c6 :: c7 :: c8 :: c9 :: o :: l := by rw [List.set_append_right _ _ (by omega)]; simp
theorem p_sets10 {S l : Store} {k : Nat} {p c0 c1 c2 c3 c4 c5 c6 c7 c8 c9 c10 o : O} : (S.set k p ++ c0 :: c1 :: c2 :: c3 :: c4 :: c5 :: c6 :: c7 :: c8 :: c9 :: c10 :: l).set (S.length + 10) o = S.set k p ++ c0 :: c1 :: c2 :: c3 :: c4 :: c5 :: c6 :: c7 :: c8 :: c9 :: o :: l := by rw [List.set_append_right _ _ (by simp)]; simp
theorem p_get11 {S l : Store} {c0 c1 c2 c3 c4 c5 c6 c7 c8 c9 c10 c11 : O} : (S ++ c0 :: c1 :: c2 :: c3 :: c4 :: c5 :: c6 :: c7 :: c8 :: c9 :: c10 :: c11 :: l)[S.length + 11]? = some c11 := by rw [List.getElem?_append_right (by omega)]; simp
theorem p_gets11 {S l : Store} {k : Nat} {p c0 c1 c2 c3 c4 c5 c6 c7 c8 c9 c10 c11 : O} : (S.set k p ++ c0 :: c1 :: c2 :: c3 :: c4 :: c5 :: c6 :: c7 :: c8 :: c9 :: c10 :: c11 :: l)[S.length + 11]? = some c11 := by rw [List.getElem?_append_right (by simp)]; simp
theorem p_set11 {S l : Store} {c0 c1 c2 c3 c4 c5 c6 c7 c8 c9 c10 c11 o : O} : (S ++ c0 :: c1 :: c2 :: c3 :: c4 :: c5 :: c6 :: c7 :: c8 :: c9 :: c10 :: c11 :: l).set (S.length + 11) o = S ++ c0 :: c1 :: c2 :: c3 :: c4 :: c5 :: c6 :: c7 :: c8 :: c9 :: c10 :: o :: l := by rw [List.set_append_right _ _ (by omega)]; simp
theorem p_sets11 {S l : Store} {k : Nat} {p c0 c1 c2 c3 c4 c5 c6 c7 c8 c9 c10 c11 o : O} : (S.set k p ++ c0 :: c1 :: c2 :: c3 :: c4 :: c5 :: c6 :: c7 :: c8 :: c9 :: c10 :: c11 :: l).set (S.length + 11) o = S.set k p ++ c0 :: c1 :: c2 :: c3 :: c4 :: c5 :: c6 :: c7 :: c8 :: c9 :: c10 :: o :: l := by rw [List.set_append_right _ _ (by simp)]; simp
theorem p_get12 {S l : Store} {c0 c1 c2 c3 c4 c5 c6 c7 c8 c9 c10 c11 c12 : O} : (S ++ c0 :: c1 :: c2 :: c3 :: c4 :: c5 :: c6 :: c7 :: c8 :: c9 :: c10 :: c11 :: c12 :: l)[S.length + 12]? = some c12 := by rw [List.getElem?_append_right (by omega)]; simp
theorem p_gets12 {S l : Store} {k : Nat} {p c0 c1 c2 c3 c4 c5 c6 c7 c8 c9 c10 c11 c12 : O} : (S.set k p ++ c0 :: c1 :: c2 :: c3 :: c4 :: c5 :: c6 :: c7 :: c8 :: c9 :: c10 :: c11 :: c12 :: l)[S.length + 12]? = some c12 := by rw [List.getElem?_append_right (by simp)]; simp
theorem p_set12 {S l : Store} {c0 c1 c2 c3 c4 c5 c6 c7 c8 c9 c10 c11 c12 o : O} : (S ++ c0 :: c1 :: c2 :: c3 :: c4 :: c5 :: c6 :: c7 :: c8 :: c9 :: c10 :: c11 :: c12 :: l).set (S.length + 12) o = S ++ c0 :: c1 :: c2 :: c3 :: c4 :: c5 :: c6 :: c7 :: c8 :: c9 :: c10 :: c11 :: o :: l := by rw [List.set_append_right _ _ (by omega)]; simp
theorem p_sets12 {S l : Store} {k : Nat} {p c0 c1 c2 c3 c4 c5 c6 c7 c8 c9 c10 c11 c12 o : O} : (S.set k p ++ c0 :: c1 :: c2 :: c3 :: c4 :: c5 :: c6 :: c7 :: c8 :: c9 :: c10 :: c11 :: c12 :: l).set (S.length + 12) o = S.set k p ++ c0 :: c1 :: c2 :: c3 :: c4 :: c5 :: c6 :: c7 :: c8 :: c9 :: c10 :: c11 :: o :: l := by rw [List.set_append_right _ _ (by simp)]; simp
theorem p_get13 {S l : Store} {c0 c1 c2 c3 c4 c5 c6 c7 c8 c9 c10 c11 c12 c13 : O} : (S ++ c0 :: c1 :: c2 :: c3 :: c4 :: c5 :: c6 :: c7 :: c8 :: c9 :: c10 :: c11 :: c12 :: c13 :: l)[S.length + 13]? = some c13 := by rw [List.getElem?_append_right (by omega)]; simp
theorem p_gets13 {S l : Store} {k : Nat} {p c0 c1 c2 c3 c4 c5 c6 c7 c8 c9 c10 c11 c12 c13 : O} : (S.set k p ++ c0 :: c1 :: c2 :: c3 :: c4 :: c5 :: c6 :: c7 :: c8 :: c9 :: c10 :: c11 :: c12 :: c13 :: l)[S.length + 13]? = some c13 := by rw [List.getElem?_append_right (by simp)]; simp
theorem p_set13 {S l : Store} {c0 c1 c2 c3 c4 c5 c6 c7 c8 c9 c10 c11 c12 c13 o : O} : (S ++ c0 :: c1 :: c2 :: c3 :: c4 :: c5 :: c6 :: c7 :: c8 :: c9 :: c10 :: c11 :: c12 :: c13 :: l).set (S.length + 13) o = S ++ c0 :: c1 :: c2 :: c3 :: c4 :: c5 :: c6 :: c7 :: c8 :: c9 :: c10 :: c11 :: c12 :: o :: l := by rw [List.set_append_right _ _ (by omega)]; simp
theorem p_sets13 {S l : Store} {k : Nat} {p c0 c1 c2 c3 c4 c5 c6 c7 c8 c9 c10 c11 c12 c13 o : O} : (S.set k p ++ c0 :: c1 :: c2 :: c3 :: c4 :: c5 :: c6 :: c7 :: c8 :: c9 :: c10 :: c11 :: c12 :: c13 :: l).set (S.length + 13) o = S.set k p ++ c0 :: c1 :: c2 :: c3 :: c4 :: c5 :: c6 :: c7 :: c8 :: c9 :: c10 :: c11 :: c12 :: o :: l := by rw [List.set_append_right _ _ (by simp)]; simp
theorem p_get14 {S l : Store} {c0 c1 c2 c3 c4 c5 c6 c7 c8 c9 c10 c11 c12 c13 c14 : O} : (S ++ c0 :: c1 :: c2 :: c3 :: c4 :: c5 :: c6 :: c7 :: c8 :: c9 :: c10 :: c11 :: c12 :: c13 :: c14 :: l)[S.length + 14]? = some c14 := by rw [List.getElem?_append_right (by omega)]; simp
theorem p_gets14 {S l : Store} {k : Nat} {p c0 c1 c2 c3 c4 c5 c6 c7 c8 c9 c10 c11 c12 c13 c14 : O} : (S.set k p ++ c0 :: c1 :: c2 :: c3 :: c4 :: c5 :: c6 :: c7 :: c8 :: c9 :: c10 :: c11 :: c12 :: c13 :: c14 :: l)[S.length + 14]? = some c14 := by rw [List.getElem?_append_right (by simp)]; simp
theorem p_set14 {S l : Store} {c0 c1 c2 c3 c4 c5 c6 c7 c8 c9 c10 c11 c12 c13 c14 o : O} : (S ++ c0 :: c1 :: c2 :: c3 :: c4 :: c5 :: c6 :: c7 :: c8 :: c9 :: c10 :: c11 :: c12 :: c13 :: c14 :: l).set (S.length + 14) o = S ++ c0 :: c1 :: c2 :: c3 :: c4 :: c5 :: c6 :: c7 :: c8 :: c9 :: c10 :: c11 :: c12 :: c13 :: o :: l := by rw [List.set_append_right _ _ (by omega)]; simp
theorem p_sets14 {S l : Store} {k : Nat} {p c0 c1 c2 c3 c4 c5 c6 c7 c8 c9 c10 c11 c12 c13 c14 o : O} : (S.set k p ++ c0 :: c1 :: c2 :: c3 :: c4 :: c5 :: c6 :: c7 :: c8 :: c9 :: c10 :: c11 :: c12 :: c13 :: c14 :: l).set (S.length + 14) o = S.set k p ++ c0 :: c1 :: c2 :: c3 :: c4 :: c5 :: c6 :: c7 :: c8 :: c9 :: c10 :: c11 :: c12 :: c13 :: o :: l := by rw [List.set_append_right _ _ (by simp)]; simp
theorem p_get15 {S l : Store} {c0 c1 c2 c3 c4 c5 c6 c7 c8 c9 c10 c11 c12 c13 c14 c15 : O} : (S ++ c0 :: c1 :: c2 :: c3 :: c4 :: c5 :: c6 :: c7 :: c8 :: c9 :: c10 :: c11 :: c12 :: c13 :: c14 :: c15 :: l)[S.length + 15]? = some c15 := by rw [List.getElem?_append_right (by omega)]; simp
theorem p_gets15 {S l : Store} {k : Nat} {p c0 c1 c2 c3 c4 c5 c6 c7 c8 c9 c10 c11 c12 c13 c14 c15 : O} : (S.set k p ++ c0 :: c1 :: c2 :: c3 :: c4 :: c5 :: c6 :: c7 :: c8 :: c9 :: c10 :: c11 :: c12 :: c13 :: c14 :: c15 :: l)[S.length + 15]? = some c15 := by rw [List.getElem?_append_right (by simp)]; simp
theorem p_set15 {S l : Store} {c0 c1 c2 c3 c4 c5 c6 c7 c8 c9 c10 c11 c12 c13 c14 c15 o : O} : (S ++ c0 :: c1 :: c2 :: c3 :: c4 :: c5 :: c6 :: c7 :: c8 :: c9 :: c10 :: c11 :: c12 :: c13 :: c14 :: c15 :: l).set (S.length + 15) o = S ++ c0 :: c1 :: c2 :: c3 :: c4 :: c5 :: c6 :: c7 :: c8 :: c9 :: c10 :: c11 :: c12 :: c13 :: c14 :: o :: l := by rw [List.set_append_right _ _ (by omega)]; simp
theorem p_sets15 {S l : Store} {k : Nat} {p c0 c1 c2 c3 c4 c5 c6 c7 c8 c9 c10 c11 c12 c13 c14 c15 o : O} : (S.set k p ++ c0 :: c1 :: c2 :: c3 :: c4 :: c5 :: c6 :: c7 :: c8 :: c9 :: c10 :: c11 :: c12 :: c13 :: c14 :: c15 :: l).set (S.length + 15) o = S.set k p ++ c0 :: c1 :: c2 :: c3 :: c4 :: c5 :: c6 :: c7 :: c8 :: c9 :: c10 :: c11 :: c12 :: c13 :: c14 :: o :: l := by rw [List.set_append_right _ _ (by simp)]; simp
theorem p_get16 {S l : Store} {c0 c1 c2 c3 c4 c5 c6 c7 c8 c9 c10 c11 c12 c13 c14 c15 c16 : O} : (S ++ c0 :: c1 :: c2 :: c3 :: c4 :: c5 :: c6 :: c7 :: c8 :: c9 :: c10 :: c11 :: c12 :: c13 :: c14 :: c15 :: c16 :: l)[S.length + 16]? = some c16 := by rw [List.getElem?_append_right (by omega)]; simp
theorem p_gets16 {S l : Store} {k : Nat} {p c0 c1 c2 c3 c4 c5 c6 c7 c8 c9 c10 c11 c12 c13 c14 c15 c16 : O} : (S.set k p ++ c0 :: c1 :: c2 :: c3 :: c4 :: c5 :: c6 :: c7 :: c8 :: c9 :: c10 :: c11 :: c12 :: c13 :: c14 :: c15 :: c16 :: l)[S.length + 16]? = some c16 := by rw [List.getElem?_append_right (by simp)]; simp
theorem p_set16 {S l : Store} {c0 c1 c2 c3 c4 c5 c6 c7 c8 c9 c10 c11 c12 c13 c14 c15 c16 o : O} : (S ++ c0 :: c1 :: c2 :: c3 :: c4 :: c5 :: c6 :: c7 :: c8 :: c9 :: c10 :: c11 :: c12 :: c13 :: c14 :: c15 :: c16 :: l).set (S.length + 16) o = S ++ c0 :: c1 :: c2 :: c3 :: c4 :: c5 :: c6 :: c7 :: c8 :: c9 :: c10 :: c11 :: c12 :: c13 :: c14 :: c15 :: o :: l := by rw [List.set_append_right _ _ (by omega)]; simp
theorem p_sets16 {S l : Store} {k : Nat} {p c0 c1 c2 c3 c4 c5 c6 c7 c8 c9 c10 c11 c12 c13 c14 c15 c16 o : O} : (S.set k p ++ c0 :: c1 :: c2 :: c3 :: c4 :: c5 :: c6 :: c7 :: c8 :: c9 :: c10 :: c11 :: c12 :: c13 :: c14 :: c15 :: c16 :: l).set (S.length + 16) o = S.set k p ++ c0 :: c1 :: c2 :: c3 :: c4 :: c5 :: c6 :: c7 :: c8 :: c9 :: c10 :: c11 :: c12 :: c13 :: c14 :: c15 :: o :: l := by rw [List.set_append_right _ _ (by simp)]; simp
theorem p_get17 {S l : Store} {c0 c1 c2 c3 c4 c5 c6 c7 c8 c9 c10 c11 c12 c13 c14 c15 c16 c17 : O} : (S ++ c0 :: c1 :: c2 :: c3 :: c4 :: c5 :: c6 :: c7 :: c8 :: c9 :: c10 :: c11 :: c12 :: c13 :: c14 :: c15 :: c16 :: c17 :: l)[S.length + 17]? = some c17 := by rw [List.getElem?_append_right (by omega)]; simp
theorem p_gets17 {S l : Store} {k : Nat} {p c0 c1 c2 c3 c4 c5 c6 c7 c8 c9 c10 c11 c12 c13 c14 c15 c16 c17 : O} : (S.set k p ++ c0 :: c1 :: c2 :: c3 :: c4 :: c5 :: c6 :: c7 :: c8 :: c9 :: c10 :: c11 :: c12 :: c13 :: c14 :: c15 :: c16 :: c17 :: l)[S.length + 17]? = some c17 := by rw [List.getElem?_append_right (by simp)]; simp
theorem p_set17 {S l : Store} {c0 c1 c2 c3 c4 c5 c6 c7 c8 c9 c10 c11 c12 c13 c14 c15 c16 c17 o : O} : (S ++ c0 :: c1 :: c2 :: c3 :: c4 :: c5 :: c6 :: c7 :: c8 :: c9 :: c10 :: c11 :: c12 :: c13 :: c14 :: c15 :: c16 :: c17 :: l).set (S.length + 17) o = S ++ c0 :: c1 :: c2 :: c3 :: c4 :: c5 :: c6 :: c7 :: c8 :: c9 :: c10 :: c11 :: c12 :: c13 :: c14 :: c15 :: c16 :: o :: l := by rw [List.set_append_right _ _ (by omega)]; simp
theorem p_sets17 {S l : Store} {k : Nat} {p c0 c1 c2 c3 c4 c5 c6 c7 c8 c9 c10 c11 c12 c13 c14 c15 c16 c17 o : O} : (S.set k p ++ c0 :: c1 :: c2 :: c3 :: c4 :: c5 :: c6 :: c7 :: c8 :: c9 :: c10 :: c11 :: c12 :: c13 :: c14 :: c15 :: c16 :: c17 :: l).set (S.length + 17) o = S.set k p ++ c0 :: c1 :: c2 :: c3 :: c4 :: c5 :: c6 :: c7 :: c8 :: c9 :: c10 :: c11 :: c12 :: c13 :: c14 :: c15 :: c16 :: o :: l := by rw [List.set_append_right _ _ (by simp)]; simp
theorem p_get18 {S l : Store} {c0 c1 c2 c3 c4 c5 c6 c7 c8 c9 c10 c11 c12 c13 c14 c15 c16 c17 c18 : O} : (S ++ c0 :: c1 :: c2 :: c3 :: c4 :: c5 :: c6 :: c7 :: c8 :: c9 :: c10 :: c11 :: c12 :: c13 :: c14 :: c15 :: c16 :: c17 :: c18 :: l)[S.length + 18]? = some c18 := by rw [List.getElem?_append_right (by omega)]; simp
theorem p_gets18 {S l : Store} {k : Nat} {p c0 c1 c2 c3 c4 c5 c6 c7 c8 c9 c10 c11 c12 c13 c14 c15 c16 c17 c18 : O} : (S.set k p ++ c0 :: c1 :: c2 :: c3 :: c4 :: c5 :: c6 :: c7 :: c8 :: c9 :: c10 :: c11 :: c12 :: c13 :: c14 :: c15 :: c16 :: c17 :: c18 :: l)[S.length + 18]? = some c18 := by rw [List.getElem?_append_right (by simp)]; simp
theorem p_set18 {S l : Store} {c0 c1 c2 c3 c4 c5 c6 c7 c8 c9 c10 c11 c12 c13 c14 c15 c16 c17 c18 o : O} : (S ++ c0 :: c1 :: c2 :: c3 :: c4 :: c5 :: c6 :: c7 :: c8 :: c9 :: c10 :: c11 :: c12 :: c13 :: c14 :: c15 :: c16 :: c17 :: c18 :: l).set (S.length + 18) o = S ++ c0 :: c1 :: c2 :: c3 :: c4 :: c5 :: c6 :: c7 :: c8 :: c9 :: c10 :: c11 :: c12 :: c13 :: c14 :: c15 :: c16 :: c17 :: o :: l := by rw [List.set_append_right _ _ (by omega)]; simp
theorem p_sets18 {S l : Store} {k : Nat} {p c0 c1 c2 c3 c4 c5 c6 c7 c8 c9 c10 c11 c12 c13 c14 c15 c16 c17 c18 o : O} : (S.set k p ++ c0 :: c1 :: c2 :: c3 :: c4 :: c5 :: c6 :: c7 :: c8 :: c9 :: c10 :: c11 :: c12 :: c13 :: c14 :: c15 :: c16 :: c17 :: c18 :: l).set (S.length + 18) o = S.set k p ++ c0 :: c1 :: c2 :: c3 :: c4 :: c5 :: c6 :: c7 :: c8 :: c9 :: c10 :: c11 :: c12 :: c13 :: c14 :: c15 :: c16 :: c17 :: o :: l := by rw [List.set_append_right _ _ (by simp)]; simp
theorem p_get19 {S l : Store} {c0 c1 c2 c3 c4 c5 c6 c7 c8 c9 c10 c11 c12 c13 c14 c15 c16 c17 c18 c19 : O} : (S ++ c0 :: c1 :: c2 :: c3 :: c4 :: c5 :: c6 :: c7 :: c8 :: c9 :: c10 :: c11 :: c12 :: c13 :: c14 :: c15 :: c16 :: c17 :: c18 :: c19 :: l)[S.length + 19]? = some c19 := by rw [List.getElem?_append_right (by omega)]; simp
theorem p_gets19 {S l : Store} {k : Nat} {p c0 c1 c2 c3 c4 c5 c6 c7 c8 c9 c10 c11 c12 c13 c14 c15 c16 c17 c18 c19 : O} : (S.set k p ++ c0 :: c1 :: c2 :: c3 :: c4 :: c5 :: c6 :: c7 :: c8 :: c9 :: c10 :: c11 :: c12 :: c13 :: c14 :: c15 :: c16 :: c17 :: c18 :: c19 :: l)[S.length + 19]? = some c19 := by rw [List.getElem?_append_right (by simp)]; simp
theorem p_set19 {S l : Store} {c0 c1 c2 c3 c4 c5 c6 c7 c8 c9 c10 c11 c12 c13 c14 c15 c16 c17 c18 c19 o : O} : (S ++ c0 :: c1 :: c2 :: c3 :: c4 :: c5 :: c6 :: c7 :: c8 :: c9 :: c10 :: c11 :: c12 :: c13 :: c14 :: c15 :: c16 :: c17 :: c18 :: c19 :: l).set (S.length + 19) o = S ++ c0 :: c1 :: c2 :: c3 :: c4 :: c5 :: c6 :: c7 :: c8 :: c9 :: c10 :: c11 :: c12 :: c13 :: c14 :: c15 :: c16 :: c17 :: c18 :: o :: l := by rw [List.set_append_right _ _ (by omega)]; simp
theorem p_sets19 {S l : Store} {k : Nat} {p c0 c1 c2 c3 c4 c5 c6 c7 c8 c9 c10 c11 c12 c13 c14 c15 c16 c17 c18 c19 o : O} : (S.set k p ++ c0 :: c1 :: c2 :: c3 :: c4 :: c5 :: c6 :: c7 :: c8 :: c9 :: c10 :: c11 :: c12 :: c13 :: c14 :: c15 :: c16 :: c17 :: c18 :: c19 :: l).set (S.length + 19) o = S.set k p ++ c0 :: c1 :: c2 :: c3 :: c4 :: c5 :: c6 :: c7 :: c8 :: c9 :: c10 :: c11 :: c12 :: c13 :: c14 :: c15 :: c16 :: c17 :: c18 :: o :: l := by rw [List.set_append_right _ _ (by simp)]; simp
theorem p_get20 {S l : Store} {c0 c1 c2 c3 c4 c5 c6 c7 c8 c9 c10 c11 c12 c13 c14 c15 c16 c17 c18 c19 c20 : O} : (S ++ c0 :: c1 :: c2 :: c3 :: c4 :: c5 :: c6 :: c7 :: c8 :: c9 :: c10 :: c11 :: c12 :: c13 :: c14 :: c15 :: c16 :: c17 :: c18 :: c19 :: c20 :: l)[S.length + 20]? = some c20 := by rw [List.getElem?_append_right (by omega)]; simp
theorem p_gets20 {S l : Store} {k : Nat} {p c0 c1 c2 c3 c4 c5 c6 c7 c8 c9 c10 c11 c12 c13 c14 c15 c16 c17 c18 c19 c20 : O} : (S.set k p ++ c0 :: c1 :: c2 :: c3 :: c4 :: c5 :: c6 :: c7 :: c8 :: c9 :: c10 :: c11 :: c12 :: c13 :: c14 :: c15 :: c16 :: c17 :: c18 :: c19 :: c20 :: l)[S.length + 20]? = some c20 := by rw [List.getElem?_append_right (by simp)]; simp
theorem p_set20 {S l : Store} {c0 c1 c2 c3 c4 c5 c6 c7 c8 c9 c10 c11 c12 c13 c14 c15 c16 c17 c18 c19 c20 o : O} : (S ++ c0 :: c1 :: c2 :: c3 :: c4 :: c5 :: c6 :: c7 :: c8 :: c9 :: c10 :: c11 :: c12 :: c13 :: c14 :: c15 :: c16 :: c17 :: c18 :: c19 :: c20 :: l).set (S.length + 20) o = S ++ c0 :: c1 :: c2 :: c3 :: c4 :: c5 :: c6 :: c7 :: c8 :: c9 :: c10 :: c11 :: c12 :: c13 :: c14 :: c15 :: c16 :: c17 :: c18 :: c19 :: o :: l := by rw [List.set_append_right _ _ (by omega)]; simp
theorem p_sets20 {S l : Store} {k : Nat} {p c0 c1 c2 c3 c4 c5 c6 c7 c8 c9 c10 c11 c12 c13 c14 c15 c16 c17 c18 c19 c20 o : O} : (S.set k p ++ c0 :: c1 :: c2 :: c3 :: c4 :: c5 :: c6 :: c7 :: c8 :: c9 :: c10 :: c11 :: c12 :: c13 :: c14 :: c15 :: c16 :: c17 :: c18 :: c19 :: c20 :: l).set (S.length + 20) o = S.set k p ++ c0 :: c1 :: c2 :: c3 :: c4 :: c5 :: c6 :: c7 :: c8 :: c9 :: c10 :: c11 :: c12 :: c13 :: c14 :: c15 :: c16 :: c17 :: c18 :: c19 :: o :: l := by rw [List.set_append_right _ _ (by simp)]; simp
theorem p_get21 {S l : Store} {c0 c1 c2 c3 c4 c5 c6 c7 c8 c9 c10 c11 c12 c13 c14 c15 c16 c17 c18 c19 c20 c21 : O} : (S ++ c0 :: c1 :: c2 :: c3 :: c4 :: c5 :: c6 :: c7 :: c8 :: c9 :: c10 :: c11 :: c12 :: c13 :: c14 :: c15 :: c16 :: c17 :: c18 :: c19 :: c20 :: c21 :: l)[S.length + 21]? = some c21 := by rw [List.getElem?_append_right (by omega)]; simp
theorem p_gets21 {S l : Store} {k : Nat} {p c0 c1 c2 c3 c4 c5 c6 c7 c8 c9 c10 c11 c12 c13 c14 c15 c16 c17 c18 c19 c20 c21 : O} : (S.set k p ++ c0 :: c1 :: c2 :: c3 :: c4 :: c5 :: c6 :: c7 :: c8 :: c9 :: c10 :: c11 :: c12 :: c13 :: c14 :: c15 :: c16 :: c17 :: c18 :: c19 :: c20 :: c21 :: l)[S.length + 21]? = some c21 := by rw [List.getElem?_append_right (by simp)]; simp
theorem p_set21 {S l : Store} {c0 c1 c2 c3 c4 c5 c6 c7 c8 c9 c10 c11 c12 c13 c14 c15 c16 c17 c18 c19 c20 c21 o : O} : (S ++ c0 :: c1 :: c2 :: c3 :: c4 :: c5 :: c6 :: c7 :: c8 :: c9 :: c10 :: c11 :: c12 :: c13 :: c14 :: c15 :: c16 :: c17 :: c18 :: c19 :: c20 :: c21 :: l).set (S.length + 21) o = S ++ c0 :: c1 :: c2 :: c3 :: c4 :: c5 :: c6 :: c7 :: c8 :: c9 :: c10 :: c11 :: c12 :: c13 :: c14 :: c15 :: c16 :: c17 :: c18 :: c19 :: c20 :: o :: l := by rw [List.set_append_right _ _ (by omega)]; simp
theorem p_sets21 {S l : Store} {k : Nat} {p c0 c1 c2 c3 c4 c5 c6 c7 c8 c9 c10 c11 c12 c13 c14 c15 c16 c17 c18 c19 c20 c21 o : O} : (S.set k p ++ c0 :: c1 :: c2 :: c3 :: c4 :: c5 :: c6 :: c7 :: c8 :: c9 :: c10 :: c11 :: c12 :: c13 :: c14 :: c15 :: c16 :: c17 :: c18 :: c19 :: c20 :: c21 :: l).set (S.length + 21) o = S.set k p ++ c0 :: c1 :: c2 :: c3 :: c4 :: c5 :: c6 :: c7 :: c8 :: c9 :: c10 :: c11 :: c12 :: c13 :: c14 :: c15 :: c16 :: c17 :: c18 :: c19 :: c20 :: o :: l := by rw [List.set_append_right _ _ (by simp)]; simp
theorem p_get22 {S l : Store} {c0 c1 c2 c3 c4 c5 c6 c7 c8 c9 c10 c11 c12 c13 c14 c15 c16 c17 c18 c19 c20 c21 c22 : O} : (S ++ c0 :: c1 :: c2 :: c3 :: c4 :: c5 :: c6 :: c7 :: c8 :: c9 :: c10 :: c11 :: c12 :: c13 :: c14 :: c15 :: c16 :: c17 :: c18 :: c19 :: c20 :: c21 :: c22 :: l)[S.length + 22]? = some c22 := by rw [List.getElem?_append_right (by omega)]; simp
theorem p_gets22 {S l : Store} {k : Nat} {p c0 c1 c2 c3 c4 c5 c6 c7 c8 c9 c10 c11 c12 c13 c14 c15 c16 c17 c18 c19 c20 c21 c22 : O} : (S.set k p ++ c0 :: c1 :: c2 :: c3 :: c4 :: c5 :: c6 :: c7 :: c8 :: c9 :: c10 :: c11 :: c12 :: c13 :: c14 :: c15 :: c16 :: c17 :: c18 :: c19 :: c20 :: c21 :: c22 :: l)[S.length + 22]? = some c22 := by rw [List.getElem?_append_right (by simp)]; simp
theorem p_set22 {S l : Store} {c0 c1 c2 c3 c4 c5 c6 c7 c8 c9 c10 c11 c12 c13 c14 c15 c16 c17 c18 c19 c20 c21 c22 o : O} : (S ++ c0 :: c1 :: c2 :: c3 :: c4 :: c5 :: c6 :: c7 :: c8 :: c9 :: c10 :: c11 :: c12 :: c13 :: c14 :: c15 :: c16 :: c17 :: c18 :: c19 :: c20 :: c21 :: c22 :: l).set (S.length + 22) o = S ++ c0 :: c1 :: c2 :: c3 :: c4 :: c5 :: c6 :: c7 :: c8 :: c9 :: c10 :: c11 :: c12 :: c13 :: c14 :: c15 :: c16 :: c17 :: c18 :: c19 :: c20 :: c21 :: o :: l := by rw [List.set_append_right _ _ (by omega)]; simp
theorem p_sets22 {S l : Store} {k : Nat} {p c0 c1 c2 c3 c4 c5 c6 c7 c8 c9 c10 c11 c12 c13 c14 c15 c16 c17 c18 c19 c20 c21 c22 o : O} : (S.set k p ++ c0 :: c1 :: c2 :: c3 :: c4 :: c5 :: c6 :: c7 :: c8 :: c9 :: c10 :: c11 :: c12 :: c13 :: c14 :: c15 :: c16 :: c17 :: c18 :: c19 :: c20 :: c21 :: c22 :: l).set (S.length + 22) o = S.set k p ++ c0 :: c1 :: c2 :: c3 :: c4 :: c5 :: c6 :: c7 :: c8 :: c9 :: c10 :: c11 :: c12 :: c13 :: c14 :: c15 :: c16 :: c17 :: c18 :: c19 :: c20 :: c21 :: o :: l := by rw [List.set_append_right _ _ (by simp)]; simp
theorem p_get23 {S l : Store} {c0 c1 c2 c3 c4 c5 c6 c7 c8 c9 c10 c11 c12 c13 c14 c15 c16 c17 c18 c19 c20 c21 c22 c23 : O} : (S ++ c0 :: c1 :: c2 :: c3 :: c4 :: c5 :: c6 :: c7 :: c8 :: c9 :: c10 :: c11 :: c12 :: c13 :: c14 :: c15 :: c16 :: c17 :: c18 :: c19 :: c20 :: c21 :: c22 :: c23 :: l)[S.length + 23]? = some c23 := by rw [List.getElem?_append_right (by omega)]; simp
theorem p_gets23 {S l : Store} {k : Nat} {p c0 c1 c2 c3 c4 c5 c6 c7 c8 c9 c10 c11 c12 c13 c14 c15 c16 c17 c18 c19 c20 c21 c22 c23 : O} : (S.set k p ++ c0 :: c1 :: c2 :: c3 :: c4 :: c5 :: c6 :: c7 :: c8 :: c9 :: c10 :: c11 :: c12 :: c13 :: c14 :: c15 :: c16 :: c17 :: c18 :: c19 :: c20 :: c21 :: c22 :: c23 :: l)[S.length + 23]? = some c23 := by rw [List.getElem?_append_right (by simp)]; simp
theorem p_set23 {S l : Store} {c0 c1 c2 c3 c4 c5 c6 c7 c8 c9 c10 c11 c12 c13 c14 c15 c16 c17 c18 c19 c20 c21 c22 c23 o : O} : (S ++ c0 :: c1 :: c2 :: c3 :: c4 :: c5 :: c6 :: c7 :: c8 :: c9 :: c10 :: c11 :: c12 :: c13 :: c14 :: c15 :: c16 :: c17 :: c18 :: c19 :: c20 :: c21 :: c22 :: c23 :: l).set (S.length + 23) o = S ++ c0 :: c1 :: c2 :: c3 :: c4 :: c5 :: c6 :: c7 :: c8 :: c9 :: c10 :: c11 :: c12 :: c13 :: c14 :: c15 :: c16 :: c17 :: c18 :: c19 :: c20 :: c21 :: c22 :: o :: l := by rw [List.set_append_right _ _ (by omega)]; simp
theorem p_sets23 {S l : Store} {k : Nat} {p c0 c1 c2 c3 c4 c5 c6 c7 c8 c9 c10 c11 c12 c13 c14 c15 c16 c17 c18 c19 c20 c21 c22 c23 o : O} : (S.set k p ++ c0 :: c1 :: c2 :: c3 :: c4 :: c5 :: c6 :: c7 :: c8 :: c9 :: c10 :: c11 :: c12 :: c13 :: c14 :: c15 :: c16 :: c17 :: c18 :: c19 :: c20 :: c21 :: c22 :: c23 :: l).set (S.length + 23) o = S.set k p ++ c0 :: c1 :: c2 :: c3 :: c4 :: c5 :: c6 :: c7 :: c8 :: c9 :: c10 :: c11 :: c12 :: c13 :: c14 :: c15 :: c16 :: c17 :: c18 :: c19 :: c20 :: c21 :: c22 :: o :: l := by rw [List.set_append_right _ _ (by simp)]; simp
theorem p_get24 {S l : Store} {c0 c1 c2 c3 c4 c5 c6 c7 c8 c9 c10 c11 c12 c13 c14 c15 c16 c17 c18 c19 c20 c21 c22 c23 c24 : O} : (S ++ c0 :: c1 :: c2 :: c3 :: c4 :: c5 :: c6 :: c7 :: c8 :: c9 :: c10 :: c11 :: c12 :: c13 :: c14 :: c15 :: c16 :: c17 :: c18 :: c19 :: c20 :: c21 :: c22 :: c23 :: c24 :: l)[S.length + 24]? = some c24 := by rw [List.getElem?_append_right (by omega)]; simp
theorem p_gets24 {S l : Store} {k : Nat} {p c0 c1 c2 c3 c4 c5 c6 c7 c8 c9 c10 c11 c12 c13 c14 c15 c16 c17 c18 c19 c20 c21 c22 c23 c24 : O} : (S.set k p ++ c0 :: c1 :: c2 :: c3 :: c4 :: c5 :: c6 :: c7 :: c8 :: c9 :: c10 :: c11 :: c12 :: c13 :: c14 :: c15 :: c16 :: c17 :: c18 :: c19 :: c20 :: c21 :: c22 :: c23 :: c24 :: l)[S.length + 24]? = some c24 := by rw [List.getElem?_append_right (by simp)]; simp
theorem p_set24 {S l : Store} {c0 c1 c2 c3 c4 c5 c6 c7 c8 c9 c10 c11 c12 c13 c14 c15 c16 c17 c18 c19 c20 c21 c22 c23 c24 o : O} : (S ++ c0 :: c1 :: c2 :: c3 :: c4 :: c5 :: c6 :: c7 :: c8 :: c9 :: c10 :: c11 :: c12 :: c13 :: c14 :: c15 :: c16 :: c17 :: c18 :: c19 :: c20 :: c21 :: c22 :: c23 :: c24 :: l).set (S.length + 24) o = S ++ c0 :: c1 :: c2 :: c3 :: c4 :: c5 :: c6 :: c7 :: c8 :: c9 :: c10 :: c11 :: c12 :: c13 :: c14 :: c15 :: c16 :: c17 :: c18 :: c19 :: c20 :: c21 :: c22 :: c23 :: o :: l := by rw [List.set_append_right _ _ (by omega)]; simp
theorem p_sets24 {S l : Store} {k : Nat} {p c0 c1 c2 c3 c4 c5 c6 c7 c8 c9 c10 c11 c12 c13 c14 c15 c16 c17 c18 c19 c20 c21 c22 c23 c24 o : O} : (S.set k p ++ c0 :: c1 :: c2 :: c3 :: c4 :: c5 :: c6 :: c7 :: c8 :: c9 :: c10 :: c11 :: c12 :: c13 :: c14 :: c15 :: c16 :: c17 :: c18 :: c19 :: c20 :: c21 :: c22 :: c23 :: c24 :: l).set (S.length + 24) o = S.set k p ++ c0 :: c1 :: c2 :: c3 :: c4 :: c5 :: c6 :: c7 :: c8 :: c9 :: c10 :: c11 :: c12 :: c13 :: c14 :: c15 :: c16 :: c17 :: c18 :: c19 :: c20 :: c21 :: c22 :: c23 :: o :: l := by rw [List.set_append_right _ _ (by simp)]; simp
theorem p_get25 {S l : Store} {c0 c1 c2 c3 c4 c5 c6 c7 c8 c9 c10 c11 c12 c13 c14 c15 c16 c17 c18 c19 c20 c21 c22 c23 c24 c25 : O} : (S ++ c0 :: c1 :: c2 :: c3 :: c4 :: c5 :: c6 :: c7 :: c8 :: c9 :: c10 :: c11 :: c12 :: c13 :: c14 :: c15 :: c16 :: c17 :: c18 :: c19 :: c20 :: c21 :: c22 :: c23 :: c24 :: c25 :: l)[S.length + 25]? = some c25 := by rw [List.getElem?_append_right (by omega)]; simp
theorem p_gets25 {S l : Store} {k : Nat} {p c0 c1 c2 c3 c4 c5 c6 c7 c8 c9 c10 c11 c12 c13 c14 c15 c16 c17 c18 c19 c20 c21 c22 c23 c24 c25 : O} : (S.set k p ++ c0 :: c1 :: c2 :: c3 :: c4 :: c5 :: c6 :: c7 :: c8 :: c9 :: c10 :: c11 :: c12 :: c13 :: c14 :: c15 :: c16 :: c17 :: c18 :: c19 :: c20 :: c21 :: c22 :: c23 :: c24 :: c25 :: l)[S.length + 25]? = some c25 := by rw [List.getElem?_append_right (by simp)]; simp
theorem p_set25 {S l : Store} {c0 c1 c2 c3 c4 c5 c6 c7 c8 c9 c10 c11 c12 c13 c14 c15 c16 c17 c18 c19 c20 c21 c22 c23 c24 c25 o : O} : (S ++ c0 :: c1 :: c2 :: c3 :: c4 :: c5 :: c6 :: c7 :: c8 :: c9 :: c10 :: c11 :: c12 :: c13 :: c14 :: c15 :: c16 :: c17 :: c18 :: c19 :: c20 :: c21 :: c22 :: c23 :: c24 :: c25 :: l).set (S.length + 25) o = S ++ c0 :: c1 :: c2 :: c3 :: c4 :: c5 :: c6 :: c7 :: c8 :: c9 :: c10 :: c11 :: c12 :: c13 :: c14 :: c15 :: c16 :: c17 :: c18 :: c19 :: c20 :: c21 :: c22 :: c23 :: c24 :: o :: l := by rw [List.set_append_right _ _ (by omega)]; simp
theorem p_sets25 {S l : Store} {k : Nat} {p c0 c1 c2 c3 c4 c5 c6 c7 c8 c9 c10 c11 c12 c13 c14 c15 c16 c17 c18 c19 c20 c21 c22 c23 c24 c25 o : O} : (S.set k p ++ c0 :: c1 :: c2 :: c3 :: c4 :: c5 :: c6 :: c7 :: c8 :: c9 :: c10 :: c11 :: c12 :: c13 :: c14 :: c15 :: c16 :: c17 :: c18 :: c19 :: c20 :: c21 :: c22 :: c23 :: c24 :: c25 :: l).set (S.length + 25) o = S.set k p ++ c0 :: c1 :: c2 :: c3 :: c4 :: c5 :: c6 :: c7 :: c8 :: c9 :: c10 :: c11 :: c12 :: c13 :: c14 :: c15 :: c16 :: c17 :: c18 :: c19 :: c20 :: c21 :: c22 :: c23 :: c24 :: o :: l := by rw [List.set_append_right _ _ (by simp)]; simp
theorem p_item_r {S : Store} {k : Nat} {i : Int} : dItem S (.ref k) i = match S[k]? with
    | some (.lst xs) => atI xs i
    | _ => none := rfl
theorem p_setIx_r {S : Store} {k : Nat} {i : Int} {v : D} : dSetIx S (.ref k) i v = match S[k]? with
    | some (.lst xs) => (ixN xs.length i).map fun j => S.set k (.lst (xs.set j v))
    | _ => none := rfl
end DL

/-! letters with heights -/
namespace DL
open PySem PySem.Spec L2 Wd
def up (l : Letter) (h : Int) : Letter := ⟨l.nm, l.hs ++ [h]⟩
def dn (l : Letter) : Letter := ⟨l.nm, l.hs.dropLast⟩
def lh (l : Letter) : Int := l.hs.getLastD 0
def stp : Letter := ⟨47, []⟩
theorem dn_up (l : Letter) (h : Int) : dn (up l h) = l := by
  unfold dn up
  simp
theorem lh_up (l : Letter) (h : Int) : lh (up l h) = h := by
  unfold lh up
  simp
theorem up_of {l : Letter} (h : l.hs ≠ []) : l = up (dn l) (lh l) := by
  obtain ⟨n, hs⟩ := l
  obtain rfl | ⟨hs', x, rfl⟩ := List.eq_nil_or_concat hs
  · exact absurd rfl h
  · simp [up, dn, lh]
theorem up_inj {l m : Letter} {a b : Int} : up l a = up m b ↔ l = m ∧ a = b := by
  constructor
  · intro h
    have h1 := congrArg dn h
    have h2 := congrArg lh h
    rw [dn_up, dn_up] at h1
    rw [lh_up, lh_up] at h2
    exact ⟨h1, h2⟩
  · rintro ⟨rfl, rfl⟩
    rfl
theorem up_ne (l : Letter) (h : Int) : (up l h).hs ≠ [] := by
  unfold up
  simp
theorem up_len (l : Letter) (h : Int) : (up l h).hs.length = l.hs.length + 1 := by
  unfold up
  simp
section
variable {st : Store} {Q : DQ} {l : Letter} {h i : Int}
theorem w_stp : D.tup [D.str (Str.ofString "/")] = dL stp := by
  have e : Str.ofString "/" = ⟨#[47]⟩ := by decide
  rw [e]
  rfl
theorem w_mkh : D.tup [D.str (Str.ofString "!"), .int h] = dL (up mk h) := by
  have e : Str.ofString "!" = ⟨#[33]⟩ := by decide
  rw [e]
  rfl
theorem w_addL : dAdd (dL l) (.tup [.int h]) st Q = (l.hs.length + 1 + 1 ≤ sizeLine ∧ Q (dL (up l h)) st) := by
  unfold dL up
  rw [w_add_t]
  simp
theorem w_lenL : dLen [dL l] st Q = Q (.int ((l.hs.length + 1 : Nat) : Int)) st := by
  unfold dL
  rw [w_len_t]
  simp
theorem dL_up : dL (up l h) = .tup (.str ⟨#[l.nm.val]⟩ :: (l.hs.map D.int ++ [.int h])) := by
  unfold dL up
  simp
theorem cut_dl {xs : List D} {a : D} : cutD (xs ++ [a]) none (some (-1)) = xs := by
  unfold cutD
  have e1 : HT.sIx (xs ++ [a]).length 0 none = 0 := HT.sIx_none _ _
  have e2 : HT.sIx (xs ++ [a]).length (xs ++ [a]).length (some (-1)) = xs.length := by
    show (if (-1 : Int) < 0 then (-1 + ((xs ++ [a]).length : Int)).toNat else min (-1 : Int).toNat (xs ++ [a]).length) = _
    rw [if_pos (by omega), List.length_append, List.length_singleton]
    omega
  rw [e1, e2]
  simp
theorem w_sl_dn : dSl (dL (up l h)) none (some (-1)) st Q = Q (dL l) st := by
  rw [dL_up, ← List.cons_append]
  unfold dSl
  dsimp only
  rw [cut_dl]
  rfl
theorem w_sl_dnN : dSl (dL (up l h)) none (some ((l.hs.length : Int) + 1)) st Q = Q (dL l) st := by
  rw [dL_up, ← List.cons_append]
  unfold dSl
  dsimp only
  rw [cut_toI (by omega), show ((l.hs.length : Int) + 1).toNat = l.hs.length + 1 by omega, List.take_left' (by simp)]
  rfl
theorem w_it_up : dItem st (dL (up l h)) (-1) = some (.int h) := by
  rw [dL_up, ← List.cons_append]
  exact atI_end _ _
theorem w_it_upN : dItem st (dL (up l h)) ((l.hs.length : Int) + 1) = some (.int h) := by
  rw [dL_up, ← List.cons_append, w_item_t, atI_nn (by omega) (by simp; omega), show ((l.hs.length : Int) + 1).toNat = l.hs.length + 1 by omega]
  rw [List.getElem?_append_right (by simp)]
  simp
theorem w_it_0 : dItem st (dL l) 0 = some (.str ⟨#[l.nm.val]⟩) := by
  unfold dL
  exact atI_zero
end
section
variable {st : Store} {Q : DQ} {i j : Int}
theorem cut_any {xs : List D} {p q : Nat} (hp : p ≤ xs.length) : cutD xs (some (p : Int)) (some (q : Int)) = (xs.drop p).take (q - p) := by
  unfold cutD
  rw [HT.sIx_nat, HT.sIx_nat, Nat.min_eq_left hp]
  by_cases h : q ≤ xs.length
  · rw [Nat.min_eq_left h]
  · rw [Nat.min_eq_right (by omega), List.take_of_length_le (by rw [List.length_drop]; omega), List.take_of_length_le (by rw [List.length_drop]; omega)]
theorem w_divmod : dDivmod [.int i, .int j] st Q = (CDiv i j ∧ Q (.tup [.int (i / j), .int (i % j)]) st) := rfl
theorem dAll_ref {bs : List Bool} {m : Nat} (h : st[m]? = some (.lst (bs.map D.bl))) (q : Q (.bl (bs.all id)) st) : dAll [.ref m] st Q := ⟨m, bs, rfl, h, q⟩
theorem zs {n : Nat} (h : n ≤ 16777216) : (n ≤ sizeLine) = True := eq_true (small_line h)
theorem zs_0 : (0 ≤ sizeLine) = True := zs (by decide)
theorem zs_1 : (1 ≤ sizeLine) = True := zs (by decide)
theorem zs_2 : (2 ≤ sizeLine) = True := zs (by decide)
theorem zs_3 : (3 ≤ sizeLine) = True := zs (by decide)
theorem zs_4 : (4 ≤ sizeLine) = True := zs (by decide)
theorem zs_5 : (5 ≤ sizeLine) = True := zs (by decide)
theorem zs_6 : (6 ≤ sizeLine) = True := zs (by decide)
theorem zs_7 : (7 ≤ sizeLine) = True := zs (by decide)
theorem zs_8 : (8 ≤ sizeLine) = True := zs (by decide)
theorem zs_9 : (9 ≤ sizeLine) = True := zs (by decide)
theorem zs_10 : (10 ≤ sizeLine) = True := zs (by decide)
theorem zs_11 : (11 ≤ sizeLine) = True := zs (by decide)
theorem zs_12 : (12 ≤ sizeLine) = True := zs (by decide)
theorem zs_13 : (13 ≤ sizeLine) = True := zs (by decide)
theorem zs_14 : (14 ≤ sizeLine) = True := zs (by decide)
theorem zs_15 : (15 ≤ sizeLine) = True := zs (by decide)
theorem zs_16 : (16 ≤ sizeLine) = True := zs (by decide)
end
/-! shifting -/
def shl (n : Int) (l : Letter) : Letter := up (dn l) (lh l + n)
def shw (n : Int) (w : Word) : Word := w.map fun r => (shl n r.1, r.2)
theorem shl_up (n : Int) (l : Letter) (h : Int) : shl n (up l h) = up l (h + n) := by
  unfold shl
  rw [dn_up, lh_up]
theorem shl_inj {n : Int} {l m : Letter} (hl : l.hs ≠ []) (hm : m.hs ≠ []) (h : shl n l = shl n m) : l = m := by
  unfold shl at h
  obtain ⟨h1, h2⟩ := up_inj.mp h
  rw [up_of hl, up_of hm, h1, show lh l = lh m by omega]
theorem shl_ne (n : Int) (l : Letter) : (shl n l).hs ≠ [] := up_ne _ _
theorem shl_shl (n m : Int) (l : Letter) : shl n (shl m l) = shl (m + n) l := by
  unfold shl
  rw [dn_up, lh_up, Int.add_assoc]
theorem shl_zero {l : Letter} (h : l.hs ≠ []) : shl 0 l = l := by
  unfold shl
  rw [Int.add_zero]
  exact (up_of h).symm
theorem shw_shw (n m : Int) (w : Word) : shw n (shw m w) = shw (m + n) w := by
  unfold shw
  rw [List.map_map]
  congr 1
  funext r
  simp only [Function.comp, shl_shl]
theorem shw_zero {w : Word} (h : ∀ r ∈ w, r.1.hs ≠ []) : shw 0 w = w := by
  unfold shw
  conv => rhs; rw [← List.map_id w]
  apply List.map_congr_left
  intro r hr
  rw [shl_zero (h r hr)]
  rfl
theorem shw_ne (n : Int) (w : Word) : ∀ r ∈ shw n w, r.1.hs ≠ [] := by
  intro r hr
  obtain ⟨x, _, rfl⟩ := List.mem_map.mp hr
  exact shl_ne _ _
theorem shw_len (n : Int) (w : Word) : (shw n w).length = w.length := by
  unfold shw
  rw [List.length_map]
theorem Red.shw {n : Int} {w : Word} (hw : Red w) (h : ∀ r ∈ w, r.1.hs ≠ []) : Red (shw n w) := by
  induction w with
  | nil => trivial
  | cons r w ih =>
    refine ⟨hw.1, ?_, ih hw.2.2 fun x hx => h x (by simp [hx])⟩
    intro m hm e
    cases w with
    | nil => cases hm
    | cons q w =>
      cases hm
      exact hw.2.1 q rfl (shl_inj (h q (by simp)) (h r (by simp)) e)
section
variable {st : Store} {Q : DQ} {x : D} {xs : List D} {w : Word} {l : Letter} {i : Int} {k : Nat} {b : Bool}
theorem w_isn : dIsN x .non st Q = Q (.bl x.isNon) st := rfl
theorem w_notn : dNotN x .non st Q = Q (.bl (!x.isNon)) st := rfl
theorem w_nonN : D.non.isNon = true := rfl
theorem w_nonW : (dW w).isNon = false := rfl
theorem w_nonL : (dL l).isNon = false := rfl
theorem w_nonI : (D.int i).isNon = false := rfl
theorem w_nonT : (D.tup xs).isNon = false := rfl
theorem w_nonR : (D.ref k).isNon = false := rfl
theorem w_nonB : (D.bl b).isNon = false := rfl
end
theorem cdivA_small {a m : Int} (h0 : 0 < m) (h1 : m ≤ 10 ^ 30) : CDivA a m := by
  refine .inr ⟨h0, ?_⟩
  have h2 : m.natAbs < 2 ^ 100 := by
    have : (10 : Int) ^ 30 < 2 ^ 100 := by decide
    omega
  have := PySem.Flt.log2_lt_of (show 0 < 100 by decide) h2
  omega
theorem lt_Wi {n : Nat} {w : Word} {i : Int} : (D.tup [dW w, .int i]).lt n := lt_of_fl (m := 9) (by
  unfold D.fl
  simp only [List.all_cons, List.all_nil, Bool.and_true, fl_W 5, Bool.true_and]
  rfl)
theorem lt_WW' {n : Nat} {w u : Word} : (D.tup [dW w, dW u]).lt n := lt_of_fl (m := 9) (by
  unfold D.fl
  simp only [List.all_cons, List.all_nil, Bool.and_true, fl_W 5, Bool.true_and])
end DL

/-! rows of runs: single rows, stripping -/
namespace DL
open PySem PySem.Spec L2 Wd
theorem at_run {X : Word} {k : Nat} {r : Letter × Int} (h : X[k]? = some r) : atI (X.map dRun) (k : Int) = some (dRun r) := by
  have hk : k < X.length := by
    rcases Nat.lt_or_ge k X.length with h1 | h1
    · exact h1
    · rw [List.getElem?_eq_none h1] at h
      cases h
  rw [atI_nn (by omega) (by rw [List.length_map]; omega), Int.toNat_natCast, List.getElem?_map, h]
  rfl
/-- the two ends of what is not stripped yet -/
theorem strip_go {O C : Word} {j : Nat} (h : j < O.length) : ∃ a, (O ++ (C ++ inv O))[j]? = some a ∧ (O ++ (C ++ inv O))[(O ++ (C ++ inv O)).length - j - 1]? = some (a.1, -a.2) := by
  obtain ⟨a, ha⟩ : ∃ a, O[j]? = some a := ⟨O[j], List.getElem?_eq_getElem h⟩
  refine ⟨a, by rw [List.getElem?_append_left h, ha], ?_⟩
  have hi : (inv O).length = O.length := len_inv O
  have e : (O ++ (C ++ inv O)).length = O.length + (C.length + O.length) := by rw [List.length_append, List.length_append, hi]
  rw [e, List.getElem?_append_right (by omega), List.getElem?_append_right (by omega)]
  unfold Wd.inv
  rw [List.getElem?_reverse (by rw [List.length_map]; omega), List.getElem?_map, List.length_map]
  have : O.length - 1 - (O.length + (C.length + O.length) - j - 1 - O.length - C.length) = j := by omega
  rw [this, ha]
  rfl
theorem strip_stop {O C : Word} (h : Fr (C ++ C)) (hc : C ≠ []) : ∃ a b, (O ++ (C ++ inv O))[O.length]? = some a ∧ (O ++ (C ++ inv O))[(O ++ (C ++ inv O)).length - O.length - 1]? = some b ∧ ¬ (a.1 = b.1 ∧ a.2 + b.2 = 0) := by
  have hC : 0 < C.length := List.length_pos_iff.mpr hc
  have hi : (inv O).length = O.length := len_inv O
  have e : (O ++ (C ++ inv O)).length = O.length + (C.length + O.length) := by rw [List.length_append, List.length_append, hi]
  obtain ⟨a, ha⟩ : ∃ a, C.head? = some a := by
    cases C with
    | nil => exact absurd rfl hc
    | cons a t => exact ⟨a, rfl⟩
  obtain ⟨b, hb⟩ : ∃ b, C.getLast? = some b := ⟨C.getLast hc, List.getLast?_eq_some_getLast hc⟩
  refine ⟨a, b, ?_, ?_, fun hh => h.seam hb ha ⟨hh.1, by omega⟩⟩
  · rw [List.getElem?_append_right (Nat.le_refl _), Nat.sub_self, List.getElem?_append_left hC, ← List.head?_eq_getElem?, ha]
  · rw [e, List.getElem?_append_right (by omega), List.getElem?_append_left (by omega), ← hb, List.getLast?_eq_getElem?]
    congr 1
    omega
theorem spelled_no {x : Letter} {u : Word} (h : ∀ y ∈ u, y.1 ≠ x) : ∀ y ∈ spelled u, y.1 ≠ x := fun y hy => by
  unfold spelled at hy
  obtain ⟨z, hz, hy⟩ := List.mem_flatMap.mp hy
  unfold spell1 at hy
  obtain ⟨_, rfl⟩ := List.mem_replicate.mp hy
  exact h z hz
theorem spelled_in {ls : List Letter} {u : Word} (h : ∀ y ∈ u, y.1 ∈ ls) : ∀ y ∈ spelled u, y.1 ∈ ls := fun y hy => by
  unfold spelled at hy
  obtain ⟨z, hz, hy⟩ := List.mem_flatMap.mp hy
  unfold spell1 at hy
  obtain ⟨_, rfl⟩ := List.mem_replicate.mp hy
  exact h z hz
theorem w_mulR {st : Store} {Q : DQ} {k : Nat} {n : Int} {a : List D} (h : st[k]? = some (.lst a)) : dMul (.ref k) (.int n) st Q = (-(2 ^ 63) ≤ n ∧ n < 2 ^ 63 ∧ a.length * n.toNat ≤ sizeLine ∧ Q (.ref st.length) (st ++ [.lst (List.replicate n.toNat a).flatten])) := by
  unfold dMul
  simp only [h]
end DL

namespace K06
open PySem PySem.Spec L2 DL Wd
local macro_rules | `(tactic| walk_at "d") => `(tactic| try simp only [dSeq, dSet, dIfS, dRet, dRetN, dDrop, dAsg, dAug, dPar, dNext, dCont, dBreak, dFor, dgName, dgSub, dOp, dUn, dVar, dC, dB, dTruth, dAnd, dOr, dNot, dAndV, dOrV, dNotV, dIf, dCall, dCB, dBM, dTup, dLst, dCons, dNil, dSlice, dPart, dNoPart, dLc, dLc2, dYes, dwipe, dPut, dWhile,   dSub, dPow, dFdiv, dMod, dLt, dLe, dGt, dGe, dEq, dNe, dIn, dNotIn, dAbs, dInt1, w_int_i, w_int_b, dIter, dIterRev, dRng1, dRng2, dAppend, dExtend, dPop, dReverse, dIsi, dTupleRev, dListRev, dEqv_int, dEqv_L, dEqv_run, dEqv_W, dEqv_L0, dEqv_W0, dEqv_bl, dCallK, dEqv_0L, dEnum, dListG, dGSeq, dGYield, dGFor, dGNext, w_divmod,   dstart, List.map_cons, List.cons_append, List.nil_append, List.length_cons, List.length_nil, List.replicate, List.getElem?_cons_zero, List.getElem?_cons_succ, List.set_cons_zero, List.set_cons_succ, Nat.reduceAdd, Nat.reduceSub, Nat.reduceLeDiff, Int.reduceNeg, Int.reduceToNat, decide_eq_true_eq, decide_eq_false_iff_not, if_true, if_false, ite_true, ite_false, true_and, and_true, Bool.not_true, Bool.not_false, Bool.false_eq_true, reduceCtorEq, decide_true, decide_false, not_false_eq_true, bne_iff_ne, ne_eq, Bool.not_eq_true', Option.map_some, Option.map_none, ixN30, ixN31, ixN32, atI_zero, atI_one, atI_two, List.set_set,   get_end, set_end, item_end, item_run0, item_run1, dgTup_run, tup_run, tup_W1, ty_run, ty_L, ty_W, getLastIx, List.dropLast_concat, List.isEmpty_cons, List.isEmpty_nil, isEmpty_snoc, okOf, len_W, add_W, w_stp, w_mkh, w_isn, w_notn, w_nonN, w_nonW, w_nonL, w_nonI, w_nonT, w_nonR, w_nonB, Bool.not_true, Bool.not_false, w_addL, w_lenL, w_sl_dn, w_sl_dnN, w_it_up, w_it_upN, w_it_0, sl_to, sl_from, List.length_map, List.map_nil, List.reverse_nil, w_add_i, w_add_t, w_add_s, w_add_r, w_mul_i, w_ii, w_i0, w_int_i, w_int_b, w_min, w_max, w_mulT_i, w_mulT_t, w_mulT_W, w_gK11, w_star, w_star_t, w_star_W, w_mark, w_extT, w_extT_W, w_neg, w_ix, w_len_t, w_len_l, w_len_r, w_list_t, w_list_l, w_list_r, w_list_W, w_tuple_t, w_tuple_l, w_tuple_r, w_tuple_W, w_tup_W, w_item_t, w_item_l, w_items_t, w_items_l, w_items_W, w_items_r, w_tru_b, w_tru_i, w_tru_t, w_tru_W, w_tru_l, w_tru_n, w_tru_r, w_gtup, w_gcons, w_gnil, w_revOf, w_rev_r, w_rev_l, w_sl_t, w_sl_l, w_sl_r, w_ty_n, w_ty_b, w_ty_i, w_ty_s, w_ty_t, w_ty_l, w_snoc, w_app, w_end, w_endN, w_endN2, w_dl, w_nilmap, w_emp, w_beq0, w_sl_toN, w_sl_fromN, w_cut_tail, w_isi_int_int, w_isi_bool_int, w_isi_str_int, w_isi_tuple_int, w_isi_list_int, w_isi_NoneType_int, w_isi_int_bool, w_isi_bool_bool, w_isi_str_bool, w_isi_tuple_bool, w_isi_list_bool, w_isi_NoneType_bool, w_isi_int_str, w_isi_bool_str, w_isi_str_str, w_isi_tuple_str, w_isi_list_str, w_isi_NoneType_str, w_isi_int_tuple, w_isi_bool_tuple, w_isi_str_tuple, w_isi_tuple_tuple, w_isi_list_tuple, w_isi_NoneType_tuple, w_isi_int_list, w_isi_bool_list, w_isi_str_list, w_isi_tuple_list, w_isi_list_list, w_isi_NoneType_list])
local macro_rules | `(tactic| walk_at "e") => `(tactic| try simp only [dSeq, dSet, dIfS, dRet, dRetN, dDrop, dAsg, dAug, dPar, dNext, dCont, dBreak, dFor, dgName, dgSub, dOp, dUn, dVar, dC, dB, dTruth, dAnd, dOr, dNot, dAndV, dOrV, dNotV, dIf, dCall, dCB, dBM, dTup, dLst, dCons, dNil, dSlice, dPart, dNoPart, dLc, dLc2, dYes, dwipe, dPut, dWhile,   dSub, dPow, dFdiv, dMod, dLt, dLe, dGt, dGe, dEq, dNe, dIn, dNotIn, dAbs, dInt1, w_int_i, w_int_b, dIter, dIterRev, dRng1, dRng2, dAppend, dExtend, dPop, dReverse, dIsi, dTupleRev, dListRev, dEqv_int, dEqv_L, dEqv_run, dEqv_W, dEqv_L0, dEqv_W0, dEqv_bl, dCallK, dEqv_0L, dEnum, dListG, dGSeq, dGYield, dGFor, dGNext, w_divmod,   dstart, List.map_cons, List.cons_append, List.nil_append, List.length_cons, List.length_nil, List.replicate, List.getElem?_cons_zero, List.getElem?_cons_succ, List.set_cons_zero, List.set_cons_succ, Nat.reduceAdd, Nat.reduceSub, Nat.reduceLeDiff, Int.reduceNeg, Int.reduceToNat, decide_eq_true_eq, decide_eq_false_iff_not, if_true, if_false, ite_true, ite_false, true_and, and_true, Bool.not_true, Bool.not_false, Bool.false_eq_true, reduceCtorEq, decide_true, decide_false, not_false_eq_true, bne_iff_ne, ne_eq, Bool.not_eq_true', Option.map_some, Option.map_none, ixN30, ixN31, ixN32, atI_zero, atI_one, atI_two, List.set_set,   get_end, set_end, item_end, item_run0, item_run1, dgTup_run, tup_run, tup_W1, ty_run, ty_L, ty_W, getLastIx, List.dropLast_concat, List.isEmpty_cons, List.isEmpty_nil, isEmpty_snoc, okOf, len_W, add_W, w_stp, w_mkh, w_isn, w_notn, w_nonN, w_nonW, w_nonL, w_nonI, w_nonT, w_nonR, w_nonB, Bool.not_true, Bool.not_false, w_addL, w_lenL, w_sl_dn, w_sl_dnN, w_it_up, w_it_upN, w_it_0, sl_to, sl_from, List.length_map, List.map_nil, List.reverse_nil, w_add_i, w_add_t, w_add_s, w_add_r, w_mul_i, w_ii, w_i0, w_int_i, w_int_b, w_min, w_max, w_mulT_i, w_mulT_t, w_mulT_W, w_gK11, w_star, w_star_t, w_star_W, w_mark, w_extT, w_extT_W, w_neg, w_ix, w_len_t, w_len_l, w_len_r, w_list_t, w_list_l, w_list_r, w_list_W, w_tuple_t, w_tuple_l, w_tuple_r, w_tuple_W, w_tup_W, w_item_t, w_item_l, w_items_t, w_items_l, w_items_W, w_items_r, w_tru_b, w_tru_i, w_tru_t, w_tru_W, w_tru_l, w_tru_n, w_tru_r, w_gtup, w_gcons, w_gnil, w_revOf, w_rev_r, w_rev_l, w_sl_t, w_sl_l, w_sl_r, w_ty_n, w_ty_b, w_ty_i, w_ty_s, w_ty_t, w_ty_l, w_snoc, w_app, w_end, w_endN, w_endN2, w_dl, w_nilmap, w_emp, w_beq0, w_sl_toN, w_sl_fromN, w_cut_tail, w_isi_int_int, w_isi_bool_int, w_isi_str_int, w_isi_tuple_int, w_isi_list_int, w_isi_NoneType_int, w_isi_int_bool, w_isi_bool_bool, w_isi_str_bool, w_isi_tuple_bool, w_isi_list_bool, w_isi_NoneType_bool, w_isi_int_str, w_isi_bool_str, w_isi_str_str, w_isi_tuple_str, w_isi_list_str, w_isi_NoneType_str, w_isi_int_tuple, w_isi_bool_tuple, w_isi_str_tuple, w_isi_tuple_tuple, w_isi_list_tuple, w_isi_NoneType_tuple, w_isi_int_list, w_isi_bool_list, w_isi_str_list, w_isi_tuple_list, w_isi_list_list, w_isi_NoneType_list, *])
local macro_rules | `(tactic| walk_at "p") => `(tactic| try simp only [dSeq, dSet, dIfS, dRet, dRetN, dDrop, dAsg, dAug, dPar, dNext, dCont, dBreak, dFor, dgName, dgSub, dOp, dUn, dVar, dC, dB, dTruth, dAnd, dOr, dNot, dAndV, dOrV, dNotV, dIf, dCall, dCB, dBM, dTup, dLst, dCons, dNil, dSlice, dPart, dNoPart, dLc, dLc2, dYes, dwipe, dPut, dWhile,   dSub, dPow, dFdiv, dMod, dLt, dLe, dGt, dGe, dEq, dNe, dIn, dNotIn, dAbs, dInt1, w_int_i, w_int_b, dIter, dIterRev, dRng1, dRng2, dAppend, dExtend, dPop, dReverse, dIsi, dTupleRev, dListRev, dEqv_int, dEqv_L, dEqv_run, dEqv_W, dEqv_L0, dEqv_W0, dEqv_bl, dCallK, dEqv_0L, dEnum, dListG, dGSeq, dGYield, dGFor, dGNext, w_divmod,   dstart, p_get0, p_gets0, p_set0, p_sets0, p_get1, p_gets1, p_set1, p_sets1, p_get2, p_gets2, p_set2, p_sets2, p_get3, p_gets3, p_set3, p_sets3, p_get4, p_gets4, p_set4, p_sets4, p_get5, p_gets5, p_set5, p_sets5, p_get6, p_gets6, p_set6, p_sets6, p_get7, p_gets7, p_set7, p_sets7, p_get8, p_gets8, p_set8, p_sets8, p_get9, p_gets9, p_set9, p_sets9, p_get10, p_gets10, p_set10, p_sets10, p_get11, p_gets11, p_set11, p_sets11, p_get12, p_gets12, p_set12, p_sets12, p_get13, p_gets13, p_set13, p_sets13, p_get14, p_gets14, p_set14, p_sets14, p_get15, p_gets15, p_set15, p_sets15, p_get16, p_gets16, p_set16, p_sets16, p_get17, p_gets17, p_set17, p_sets17, p_get18, p_gets18, p_set18, p_sets18, p_get19, p_gets19, p_set19, p_sets19, p_get20, p_gets20, p_set20, p_sets20, p_get21, p_gets21, p_set21, p_sets21, p_get22, p_gets22, p_set22, p_sets22, p_get23, p_gets23, p_set23, p_sets23, p_get24, p_gets24, p_set24, p_sets24, p_get25, p_gets25, p_set25, p_sets25, p_app, p_setapp, p_self, p_ne, p_item_r, p_setIx_r, ex_pool, List.append_assoc, List.length_append, List.length_set, Nat.add_assoc, Nat.add_sub_cancel, List.map_cons, List.cons_append, List.nil_append, List.length_cons, List.length_nil, List.replicate, List.getElem?_cons_zero, List.getElem?_cons_succ, List.set_cons_zero, List.set_cons_succ, Nat.reduceAdd, Nat.reduceSub, Nat.reduceLeDiff, Int.reduceNeg, Int.reduceToNat, decide_eq_true_eq, decide_eq_false_iff_not, if_true, if_false, ite_true, ite_false, true_and, and_true, Bool.not_true, Bool.not_false, Bool.false_eq_true, reduceCtorEq, decide_true, decide_false, not_false_eq_true, bne_iff_ne, ne_eq, Bool.not_eq_true', Option.map_some, Option.map_none, ixN30, ixN31, ixN32, atI_zero, atI_one, atI_two, List.set_set,   item_run0, item_run1, dgTup_run, tup_run, tup_W1, ty_run, ty_L, ty_W, getLastIx, List.dropLast_concat, List.isEmpty_cons, List.isEmpty_nil, isEmpty_snoc, okOf, len_W, add_W, w_stp, w_mkh, w_isn, w_notn, w_nonN, w_nonW, w_nonL, w_nonI, w_nonT, w_nonR, w_nonB, Bool.not_true, Bool.not_false, w_addL, w_lenL, w_sl_dn, w_sl_dnN, w_it_up, w_it_upN, w_it_0, sl_to, sl_from, List.length_map, List.map_nil, List.reverse_nil, w_add_i, w_add_t, w_add_s, w_add_r, w_mul_i, w_ii, w_i0, w_int_i, w_int_b, w_min, w_max, w_mulT_i, w_mulT_t, w_mulT_W, w_gK11, w_star, w_star_t, w_star_W, w_mark, w_extT, w_extT_W, w_neg, w_ix, w_len_t, w_len_l, w_len_r, w_list_t, w_list_l, w_list_r, w_list_W, w_tuple_t, w_tuple_l, w_tuple_r, w_tuple_W, w_tup_W, w_item_t, w_item_l, w_items_t, w_items_l, w_items_W, w_items_r, w_tru_b, w_tru_i, w_tru_t, w_tru_W, w_tru_l, w_tru_n, w_tru_r, w_gtup, w_gcons, w_gnil, w_revOf, w_rev_r, w_rev_l, w_sl_t, w_sl_l, w_sl_r, w_ty_n, w_ty_b, w_ty_i, w_ty_s, w_ty_t, w_ty_l, w_snoc, w_app, w_end, w_endN, w_endN2, w_dl, w_nilmap, w_emp, w_beq0, w_sl_toN, w_sl_fromN, w_cut_tail, w_isi_int_int, w_isi_bool_int, w_isi_str_int, w_isi_tuple_int, w_isi_list_int, w_isi_NoneType_int, w_isi_int_bool, w_isi_bool_bool, w_isi_str_bool, w_isi_tuple_bool, w_isi_list_bool, w_isi_NoneType_bool, w_isi_int_str, w_isi_bool_str, w_isi_str_str, w_isi_tuple_str, w_isi_list_str, w_isi_NoneType_str, w_isi_int_tuple, w_isi_bool_tuple, w_isi_str_tuple, w_isi_tuple_tuple, w_isi_list_tuple, w_isi_NoneType_tuple, w_isi_int_list, w_isi_bool_list, w_isi_str_list, w_isi_tuple_list, w_isi_list_list, w_isi_NoneType_list, *])
local macro_rules | `(tactic| walk_at "w") => `(tactic| try simp only [zs_0, zs_1, zs_2, zs_3, zs_4, zs_5, zs_6, zs_7, zs_8, zs_9, zs_10, zs_11, zs_12, zs_13, zs_14, zs_15, zs_16, Int.reduceLT, Int.reduceLE, Nat.reduceLT, Nat.zero_le, Int.reduceSub, Int.reduceAdd, Int.reduceMul, Int.reducePow, Int.reduceNe, Nat.reduceEqDiff, Int.reduceEq, dSeq, dSet, dIfS, dRet, dRetN, dDrop, dAsg, dAug, dPar, dNext, dCont, dBreak, dFor, dgName, dgSub, dOp, dUn, dVar, dC, dB, dTruth, dAnd, dOr, dNot, dAndV, dOrV, dNotV, dIf, dCall, dCB, dBM, dTup, dLst, dCons, dNil, dSlice, dPart, dNoPart, dLc, dLc2, dYes, dwipe, dPut, dWhile,   dSub, dPow, dFdiv, dMod, dLt, dLe, dGt, dGe, dEq, dNe, dIn, dNotIn, dAbs, dInt1, w_int_i, w_int_b, dIter, dIterRev, dRng1, dRng2, dAppend, dExtend, dPop, dReverse, dIsi, dTupleRev, dListRev, dEqv_int, dEqv_L, dEqv_run, dEqv_W, dEqv_L0, dEqv_W0, dEqv_bl, dCallK, dEqv_0L, dEnum, dListG, dGSeq, dGYield, dGFor, dGNext, w_divmod,   dstart, p_get0, p_gets0, p_set0, p_sets0, p_get1, p_gets1, p_set1, p_sets1, p_get2, p_gets2, p_set2, p_sets2, p_get3, p_gets3, p_set3, p_sets3, p_get4, p_gets4, p_set4, p_sets4, p_get5, p_gets5, p_set5, p_sets5, p_get6, p_gets6, p_set6, p_sets6, p_get7, p_gets7, p_set7, p_sets7, p_get8, p_gets8, p_set8, p_sets8, p_get9, p_gets9, p_set9, p_sets9, p_get10, p_gets10, p_set10, p_sets10, p_get11, p_gets11, p_set11, p_sets11, p_get12, p_gets12, p_set12, p_sets12, p_get13, p_gets13, p_set13, p_sets13, p_get14, p_gets14, p_set14, p_sets14, p_get15, p_gets15, p_set15, p_sets15, p_get16, p_gets16, p_set16, p_sets16, p_get17, p_gets17, p_set17, p_sets17, p_get18, p_gets18, p_set18, p_sets18, p_get19, p_gets19, p_set19, p_sets19, p_get20, p_gets20, p_set20, p_sets20, p_get21, p_gets21, p_set21, p_sets21, p_get22, p_gets22, p_set22, p_sets22, p_get23, p_gets23, p_set23, p_sets23, p_get24, p_gets24, p_set24, p_sets24, p_get25, p_gets25, p_set25, p_sets25, p_app, p_setapp, p_self, p_ne, p_item_r, p_setIx_r, ex_pool, List.append_assoc, List.length_append, List.length_set, Nat.add_assoc, Nat.add_sub_cancel, List.map_cons, List.cons_append, List.nil_append, List.length_cons, List.length_nil, List.replicate, List.getElem?_cons_zero, List.getElem?_cons_succ, List.set_cons_zero, List.set_cons_succ, Nat.reduceAdd, Nat.reduceSub, Nat.reduceLeDiff, Int.reduceNeg, Int.reduceToNat, decide_eq_true_eq, decide_eq_false_iff_not, if_true, if_false, ite_true, ite_false, true_and, and_true, Bool.not_true, Bool.not_false, Bool.false_eq_true, reduceCtorEq, decide_true, decide_false, not_false_eq_true, bne_iff_ne, ne_eq, Bool.not_eq_true', Option.map_some, Option.map_none, ixN30, ixN31, ixN32, atI_zero, atI_one, atI_two, List.set_set,   item_run0, item_run1, dgTup_run, tup_run, tup_W1, ty_run, ty_L, ty_W, getLastIx, List.dropLast_concat, List.isEmpty_cons, List.isEmpty_nil, isEmpty_snoc, okOf, len_W, add_W, w_stp, w_mkh, w_isn, w_notn, w_nonN, w_nonW, w_nonL, w_nonI, w_nonT, w_nonR, w_nonB, Bool.not_true, Bool.not_false, w_addL, w_lenL, w_sl_dn, w_sl_dnN, w_it_up, w_it_upN, w_it_0, sl_to, sl_from, List.length_map, List.map_nil, List.reverse_nil, w_add_i, w_add_t, w_add_s, w_add_r, w_mul_i, w_ii, w_i0, w_int_i, w_int_b, w_min, w_max, w_mulT_i, w_mulT_t, w_mulT_W, w_gK11, w_star, w_star_t, w_star_W, w_mark, w_extT, w_extT_W, w_neg, w_ix, w_len_t, w_len_l, w_len_r, w_list_t, w_list_l, w_list_r, w_list_W, w_tuple_t, w_tuple_l, w_tuple_r, w_tuple_W, w_tup_W, w_item_t, w_item_l, w_items_t, w_items_l, w_items_W, w_items_r, w_tru_b, w_tru_i, w_tru_t, w_tru_W, w_tru_l, w_tru_n, w_tru_r, w_gtup, w_gcons, w_gnil, w_revOf, w_rev_r, w_rev_l, w_sl_t, w_sl_l, w_sl_r, w_ty_n, w_ty_b, w_ty_i, w_ty_s, w_ty_t, w_ty_l, w_snoc, w_app, w_end, w_endN, w_endN2, w_dl, w_nilmap, w_emp, w_beq0, w_sl_toN, w_sl_fromN, w_cut_tail, w_isi_int_int, w_isi_bool_int, w_isi_str_int, w_isi_tuple_int, w_isi_list_int, w_isi_NoneType_int, w_isi_int_bool, w_isi_bool_bool, w_isi_str_bool, w_isi_tuple_bool, w_isi_list_bool, w_isi_NoneType_bool, w_isi_int_str, w_isi_bool_str, w_isi_str_str, w_isi_tuple_str, w_isi_list_str, w_isi_NoneType_str, w_isi_int_tuple, w_isi_bool_tuple, w_isi_str_tuple, w_isi_tuple_tuple, w_isi_list_tuple, w_isi_NoneType_tuple, w_isi_int_list, w_isi_bool_list, w_isi_str_list, w_isi_tuple_list, w_isi_list_list, w_isi_NoneType_list, *])

/-! reduced -/
abbrev N_reduced : List Str := ["pairs", "runs", "letter", "exponent", "total"]
def g_reduced_0 : DTG := (dgTup 2 (dgCons (dgName 2) (dgCons (dgName 3) dgNil)))
def b_reduced_0 : DTS :=
  (dSeq (dSet 4 (dVar 3))
  (dSeq (dIfS (dAnd (dTruth (dVar 1)) (dB (dOp dEq (dOp dIx (dOp dIx (dVar 1) (dUn dNeg (dC (.int 1)))) (dC (.int 0))) (dVar 2)))) (dSet 4 (dOp dAdd (dOp dIx (dBM dPop (dVar 1) dNil) (dC (.int 1))) (dVar 3))) dNext)
  (dIfS (dB (dOp dNe (dVar 4) (dC (.int 0)))) (dDrop (dBM dAppend (dVar 1) (dCons (dTup (dCons (dVar 2) (dCons (dVar 4) dNil))) dNil))) dNext)))
theorem ug_reduced_0 {x env st Q} : g_reduced_0 x env st Q = (dgTup 2 (dgCons (dgName 2) (dgCons (dgName 3) dgNil))) x env st Q := rfl
theorem ub_reduced_0 {n d env st} : b_reduced_0 n d env st = (dSeq (dSet 4 (dVar 3))
  (dSeq (dIfS (dAnd (dTruth (dVar 1)) (dB (dOp dEq (dOp dIx (dOp dIx (dVar 1) (dUn dNeg (dC (.int 1)))) (dC (.int 0))) (dVar 2)))) (dSet 4 (dOp dAdd (dOp dIx (dBM dPop (dVar 1) dNil) (dC (.int 1))) (dVar 3))) dNext)
  (dIfS (dB (dOp dNe (dVar 4) (dC (.int 0)))) (dDrop (dBM dAppend (dVar 1) (dCons (dTup (dCons (dVar 2) (dCons (dVar 4) dNil))) dNil))) dNext))) n d env st := rfl
def r_reduced : DTS :=
  (dSeq (dSet 1 (dLst dNil))
  (dSeq (dFor (dIter (dVar 0)) g_reduced_0 b_reduced_0)
  (dRet (dCB dTupleOf (dCons (dVar 1) dNil)))))
def sp_reduced : DSp := fun ds st Q => ∃ (x : D) (ps : Word), ds = [x] ∧ dItems st x = some (ps.map dRun) ∧ ps.length ≤ 1000000 ∧ Q (dW (red ps)) st
theorem lp_reduced {m : Nat} {d : DEnds} {x : D} {st : Store} {items : List D} (hok : ∀ l, okOf x items (st ++ l)) : ∀ (rest R : Word) (a b c : Option D), R.length + rest.length ≤ 1000000 →
    (∀ a b c, d.nx [some x, some (.ref st.length), a, b, c] (st ++ [.lst ((rest.foldl (fun s r => Wd.cons r s) R).reverse.map dRun)])) →
    dLoop g_reduced_0 b_reduced_0 m d (okOf x items) (rest.map dRun) [some x, some (.ref st.length), a, b, c] (st ++ [.lst (R.reverse.map dRun)])
  | [], R, a, b, c, hl, h => ⟨hok _, h _ _ _⟩
  | (l, e) :: rest, [], a, b, c, hl, h => by
    have ih := fun R' (hr : R'.length ≤ 1) a b c => lp_reduced hok rest R' a b c (m := m) (d := d) (by simp at hl; omega)
    refine ⟨hok _, ?_⟩
    rw [ug_reduced_0]
    walk_at "d"
    rw [ub_reduced_0]
    walk_at "d"
    split
    · exact ⟨by decide, small_line' (by decide), ih [(l, e)] (by simp) _ _ _ (fun a b c => by
        have := h a b c
        rwa [List.foldl_cons, c0, if_neg (by assumption)] at this)⟩
    · rename_i he
      exact ih [] (by simp) _ _ _ (fun a b c => by
        have := h a b c
        rwa [List.foldl_cons, c0, if_pos (by simpa using he)] at this)
  | (l, e) :: rest, (l', e') :: R, a, b, c, hl, h => by
    have hl' : R.length + 1 + (rest.length + 1) ≤ 1000000 := hl
    have ih := fun R' (hr : R'.length ≤ R.length + 2) a b c => lp_reduced hok rest R' a b c (m := m) (d := d) (by omega)
    refine ⟨hok _, ?_⟩
    rw [List.reverse_cons, ug_reduced_0]
    walk_at "d"
    rw [ub_reduced_0]
    walk_at "d"
    have hs : R.reverse.length < sizeLine := small_line' (by rw [List.length_reverse]; omega)
    have hs' : (R.reverse ++ [(l', e')]).length < sizeLine := small_line' (by rw [List.length_append, List.length_reverse]; simp; omega)
    split
    · rename_i hll
      subst hll
      split
      · rename_i he
        rw [← List.reverse_cons]
        refine ⟨by decide, hs, ih ((l', e' + e) :: R) (by simp) _ _ _ (fun a b c => ?_)⟩
        have := h a b c
        rwa [List.foldl_cons, c1, if_pos rfl, if_neg (by omega), show e + e' = e' + e by omega] at this
      · rename_i he
        refine ih R (by simp) _ _ _ (fun a b c => ?_)
        have := h a b c
        rwa [List.foldl_cons, c1, if_pos rfl, if_pos (by omega)] at this
    · rename_i hll
      rw [← List.reverse_cons]
      split
      · rename_i he
        rw [← List.reverse_cons] at hs' ⊢
        refine ⟨by decide, hs', ih ((l, e) :: (l', e') :: R) (by simp) _ _ _ (fun a b c => ?_)⟩
        have := h a b c
        rwa [List.foldl_cons, c1, if_neg hll, if_neg he] at this
      · rename_i he
        refine ih ((l', e') :: R) (by simp) _ _ _ (fun a b c => ?_)
        have := h a b c
        rwa [List.foldl_cons, c1, if_neg hll, if_pos (by simpa using he)] at this
theorem read_reduced : ∀ ds st Q, Wf st → D.lts st.length ds → sp_reduced ds st Q → r_reduced st.length { nx := fun _ st' => Ret st.length Q .non st', rt := Ret st.length Q } (dstart N_reduced ds) st := by
  intro ds st Q wf wl h
  obtain ⟨x, ps, rfl, hx, hl, q⟩ := h
  have hx' : ∀ l, dItems (st ++ l) x = some (ps.map dRun) := fun l => dItems_app hx
  have hok : ∀ l, okOf x (ps.map dRun) (st ++ l) := fun l => ok_app hx
  unfold r_reduced N_reduced
  walk_at "d"
  rw [hx']
  refine ⟨Nat.zero_le _, lp_reduced hok ps [] _ _ _ (by simpa using hl) fun a b c => ?_⟩
  rw [red_left]
  walk_at "d"
  exact ret_app rfl wf lt_W q

theorem len_reduced : ∀ ds s Q, sp_reduced ds s Q → ds.length = 1 := by
  intro ds s Q h
  unfold sp_reduced at h
  repeat (obtain ⟨_, h⟩ := h)
  subst_vars
  rfl
/-! inverse -/
abbrev N_inverse : List Str := ["word", "letter", "exponent"]

def r_inverse : DTS :=
  (dRet (dCB dTupleOf (dCons (dLc (dIterRev (dVar 0)) (dgTup 2 (dgCons (dgName 1) (dgCons (dgName 2) dgNil))) dYes (dTup (dCons (dVar 1) (dCons (dUn dNeg (dVar 2)) dNil))) [1, 2]) dNil)))
def sp_inverse : DSp := fun ds st Q => ∃ (w : Word), ds = [dW w] ∧ w.length ≤ 1000000 ∧ Q (dW (inv w)) st
theorem lp_inverse {st : Store} {fin : Store → Prop} {a : Option D} {ok : Store → Prop} (hok : ∀ s, ok s) : ∀ (ps acc : Word), acc.length + ps.length ≤ 1000000 → fin (st ++ [.lst ((acc ++ ps.map fun r => (r.1, -r.2)).map dRun)]) →
    dLcL (dgTup 2 (dgCons (dgName 1) (dgCons (dgName 2) dgNil))) dYes (dTup (dCons (dVar 1) (dCons (dUn dNeg (dVar 2)) dNil))) ok [a, none, none] st.length fin (ps.map dRun) (st ++ [.lst (acc.map dRun)])
  | [], acc, hl, h => ⟨hok _, by rwa [List.map_nil, List.append_nil] at h⟩
  | r :: ps, acc, hl, h => by
    have hl' : acc.length + (ps.length + 1) ≤ 1000000 := hl
    refine ⟨hok _, ?_⟩
    walk_at "d"
    refine ⟨by decide, small_line' (by omega), lp_inverse hok ps _ (by simp; omega) ?_⟩
    rw [List.append_assoc]
    exact h
theorem read_inverse : ∀ ds st Q, Wf st → D.lts st.length ds → sp_inverse ds st Q → r_inverse st.length { nx := fun _ st' => Ret st.length Q .non st', rt := Ret st.length Q } (dstart N_inverse ds) st := by
  intro ds st Q wf wl h
  obtain ⟨w, rfl, hl, q⟩ := h
  unfold r_inverse N_inverse
  walk_at "d"
  unfold dW
  dsimp only
  rw [← List.map_reverse]
  refine lp_inverse (st := st) (fun _ => trivial) w.reverse [] (by simpa using hl) ?_
  walk_at "d"
  rw [List.map_reverse]
  exact ret_app rfl wf lt_W q

theorem len_inverse : ∀ ds s Q, sp_inverse ds s Q → ds.length = 1 := by
  intro ds s Q h
  unfold sp_inverse at h
  repeat (obtain ⟨_, h⟩ := h)
  subst_vars
  rfl
/-! length -/
abbrev N_length : List Str := ["word", "_", "exponent"]

def r_length : DTS :=
  (dRet (dCB dSum (dCons (dLc (dIter (dVar 0)) (dgTup 2 (dgCons (dgName 1) (dgCons (dgName 2) dgNil))) dYes (dCB dAbs (dCons (dVar 2) dNil)) [1, 2]) dNil)))
def sp_length : DSp := fun ds st Q => ∃ (w : Word), ds = [dW w] ∧ w.length ≤ 1000000 ∧ Q (.int (size w : Nat)) st
def absl (w : Word) : List Int := w.map fun r => ((r.2.natAbs : Nat) : Int)
theorem absl_sum (w : Word) : (absl w).sum = (size w : Nat) := by
  induction w with
  | nil => rfl
  | cons r w ih =>
    unfold absl at ih ⊢
    rw [List.map_cons, List.sum_cons, ih, size_cons]
    omega
theorem lp_length {st : Store} {ok fin : Store → Prop} {a : Option D} (hok : ∀ s, ok s) : ∀ (ps : Word) (acc : List Int), acc.length + ps.length ≤ 1000000 → fin (st ++ [.lst ((acc ++ absl ps).map D.int)]) →
    dLcL (dgTup 2 (dgCons (dgName 1) (dgCons (dgName 2) dgNil))) dYes (dCB dAbs (dCons (dVar 2) dNil)) ok [a, none, none] st.length fin (ps.map dRun) (st ++ [.lst (acc.map D.int)])
  | [], acc, hl, h => ⟨hok _, by
    have e : absl [] = [] := rfl
    rwa [e, List.append_nil] at h⟩
  | (l, e) :: ps, acc, hl, h => by
    have hl' : acc.length + (ps.length + 1) ≤ 1000000 := hl
    refine ⟨hok _, ?_⟩
    walk_at "d"
    have e2 : (if e < 0 then -e else e) = (e.natAbs : Nat) := by split <;> omega
    rw [e2]
    refine ⟨small_line' (by omega), lp_length hok ps _ (by simp; omega) ?_⟩
    rw [List.append_assoc]
    exact h
theorem read_length : ∀ ds st Q, Wf st → D.lts st.length ds → sp_length ds st Q → r_length st.length { nx := fun _ st' => Ret st.length Q .non st', rt := Ret st.length Q } (dstart N_length ds) st := by
  intro ds st Q wf wl h
  obtain ⟨w, rfl, hl, q⟩ := h
  unfold r_length N_length
  walk_at "d"
  refine lp_length (st := st) (fun _ => trivial) w [] (by simpa using hl) ?_
  refine dSum_ref get_end ?_
  rw [List.nil_append, absl_sum]
  exact ret_app rfl wf trivial q

theorem len_length : ∀ ds s Q, sp_length ds s Q → ds.length = 1 := by
  intro ds s Q h
  unfold sp_length at h
  repeat (obtain ⟨_, h⟩ := h)
  subst_vars
  rfl
/-! spell -/
abbrev N_spell : List Str := ["word", "letter", "exponent", "_"]
def g_spell_1 : DTG := (dgName 3)
def b_spell_1 : DTGn :=
  (dGSeq (dGYield (dTup (dCons (dVar 1) (dCons (dIf (dB (dOp dGt (dVar 2) (dC (.int 0)))) (dC (.int 1)) (dUn dNeg (dC (.int 1)))) dNil))))
  dGNext)
theorem ug_spell_1 {x env st Q} : g_spell_1 x env st Q = (dgName 3) x env st Q := rfl
theorem ub_spell_1 {d ds env st} : b_spell_1 d ds env st = (dGSeq (dGYield (dTup (dCons (dVar 1) (dCons (dIf (dB (dOp dGt (dVar 2) (dC (.int 0)))) (dC (.int 1)) (dUn dNeg (dC (.int 1)))) dNil))))
  dGNext) d ds env st := rfl
def g_spell_0 : DTG := (dgTup 2 (dgCons (dgName 1) (dgCons (dgName 2) dgNil)))
def b_spell_0 : DTGn :=
  (dGSeq (dGFor (dRng1 (dCons (dCB dAbs (dCons (dVar 2) dNil)) dNil)) g_spell_1 b_spell_1)
  dGNext)
theorem ug_spell_0 {x env st Q} : g_spell_0 x env st Q = (dgTup 2 (dgCons (dgName 1) (dgCons (dgName 2) dgNil))) x env st Q := rfl
theorem ub_spell_0 {d ds env st} : b_spell_0 d ds env st = (dGSeq (dGFor (dRng1 (dCons (dCB dAbs (dCons (dVar 2) dNil)) dNil)) g_spell_1 b_spell_1)
  dGNext) d ds env st := rfl
def r_spell : DTGn :=
  (dGSeq (dGFor (dIter (dVar 0)) g_spell_0 b_spell_0)
  dGNext)
def sp_spell : DSpG := fun ds st Q => ∃ (w : Word), ds = [dW w] ∧ size w ≤ 1000000 ∧ Q ((spelled w).map dRun) st
theorem lp1_spell {d : DGEnds} {S : Store} {w : Word} {l : Letter} {e : Int} : ∀ (n : Nat) (i : Int) (acc : Word) (x : Option D), acc.length + n ≤ 1000000 →
    (∀ x, d.nx ((acc ++ List.replicate n (l, if e < 0 then -1 else 1)).map dRun) [some (dW w), some (dL l), some (.int e), x] S) → e ≠ 0 →
    dGLoop g_spell_1 b_spell_1 d (fun _ => True) (rangeD i n) (acc.map dRun) [some (dW w), some (dL l), some (.int e), x] S
  | 0, i, acc, x, hl, h, he => ⟨trivial, by
    have := h x
    simpa using this⟩
  | n + 1, i, acc, x, hl, h, he => by
    have ih := fun x => lp1_spell (d := d) (S := S) (w := w) (l := l) (e := e) n (i + 1) (acc ++ [(l, if e < 0 then -1 else 1)]) x (by simp; omega) (by
      intro x
      have := h x
      rwa [List.replicate_succ, List.append_cons] at this) he
    clear h
    refine ⟨trivial, ?_⟩
    rw [ug_spell_1]
    walk_at "d"
    rw [ub_spell_1]
    have hsz : (acc.map dRun).length < sizeLine := small_line' (by rw [List.length_map]; omega)
    unfold dGSeq dGYield dGNext
    refine ⟨hsz, ?_⟩
    walk_at "d"
    have ih' := ih (some (.int i))
    by_cases h0 : 0 < e
    · rw [if_pos h0]
      rw [if_neg (show ¬ e < 0 by omega)] at ih'
      walk_at "d"
      refine ⟨by decide, ?_⟩
      exact ih'
    · rw [if_neg h0]
      rw [if_pos (show e < 0 by omega)] at ih'
      walk_at "d"
      refine ⟨by decide, ?_⟩
      exact ih'
theorem lp0_spell {d : DGEnds} {S : Store} {w : Word} {ok : Store → Prop} (hok : ok S) : ∀ (rest acc : Word) (x y z : Option D), acc.length + size rest ≤ 1000000 →
    (∀ x y z, d.nx ((acc ++ spelled rest).map dRun) [some (dW w), x, y, z] S) →
    dGLoop g_spell_0 b_spell_0 d ok (rest.map dRun) (acc.map dRun) [some (dW w), x, y, z] S
  | [], acc, x, y, z, hl, h => ⟨hok, by
    have := h x y z
    rwa [show spelled ([] : Word) = [] from rfl, List.append_nil] at this⟩
  | (l, e) :: rest, acc, x, y, z, hl, h => by
    rw [size_cons] at hl
    dsimp only at hl
    have ih := fun x y z => lp0_spell (d := d) (w := w) hok rest (acc ++ spell1 (l, e)) x y z (by
      rw [List.length_append]
      unfold spell1
      rw [List.length_replicate]
      dsimp only
      omega) (by
      intro x y z
      have := h x y z
      unfold spelled at this ⊢
      rwa [List.flatMap_cons, ← List.append_assoc] at this)
    clear h
    refine ⟨hok, ?_⟩
    rw [ug_spell_0]
    walk_at "d"
    rw [ub_spell_0]
    unfold dGSeq dGFor dGNext
    walk_at "d"
    have e2 : (if e < 0 then -e else e) = (e.natAbs : Nat) := by split <;> omega
    rw [e2, Int.toNat_natCast]
    refine ⟨⟨by omega, by omega⟩, ?_⟩
    by_cases he : e = 0
    · subst he
      have e0 : acc ++ spell1 (l, 0) = acc := by simp [spell1]
      rw [e0] at ih
      exact ⟨trivial, ih _ _ _⟩
    · exact lp1_spell e.natAbs 0 acc _ (by omega) (fun x => ih _ _ _) he
theorem read_spell : ∀ ds st Q, Wf st → D.lts st.length ds → sp_spell ds st Q → r_spell { nx := fun out _ st' => Q out st', rt := fun _ _ _ => False } [] (dstart N_spell ds) st := by
  intro ds st Q wf wl h
  obtain ⟨w, rfl, hl, q⟩ := h
  unfold r_spell N_spell dGSeq dGFor dGNext
  walk_at "d"
  exact lp0_spell (ok := fun _ => True) trivial w [] none none none (by simpa using hl) fun x y z => q

theorem len_spell : ∀ ds s Q, sp_spell ds s Q → ds.length = 1 := by
  intro ds s Q h
  unfold sp_spell at h
  repeat (obtain ⟨_, h⟩ := h)
  subst_vars
  rfl
/-! is_cyclically_reduced -/
abbrev N_is_cyclically_reduced : List Str := ["word", "first_letter", "first", "last_letter", "last"]

def r_is_cyclically_reduced : DTS :=
  (dSeq (dIfS (dB (dOp dLt (dCB dLen (dCons (dVar 0) dNil)) (dC (.int 2)))) (dRet (dC (.bl true))) dNext)
  (dSeq (dAsg (dOp dIx (dVar 0) (dC (.int 0))) (dgTup 2 (dgCons (dgName 1) (dgCons (dgName 2) dgNil))))
  (dSeq (dAsg (dOp dIx (dVar 0) (dUn dNeg (dC (.int 1)))) (dgTup 2 (dgCons (dgName 3) (dgCons (dgName 4) dgNil))))
  (dRet (dOrV (dOp dNe (dVar 1) (dVar 3)) (dOp dEq (dOp dGt (dVar 2) (dC (.int 0))) (dOp dGt (dVar 4) (dC (.int 0)))))))))
def sp_is_cyclically_reduced : DSp := fun ds st Q => ∃ (w : Word), ds = [dW w] ∧ Q (.bl (cycb w)) st
theorem read_is_cyclically_reduced : ∀ ds st Q, Wf st → D.lts st.length ds → sp_is_cyclically_reduced ds st Q → r_is_cyclically_reduced st.length { nx := fun _ st' => Ret st.length Q .non st', rt := Ret st.length Q } (dstart N_is_cyclically_reduced ds) st := by
  intro ds st Q wf wl h
  obtain ⟨w, rfl, q⟩ := h
  have fin : Ret st.length Q (.bl (cycb w)) st := ret_eq rfl wf trivial q
  clear q
  unfold r_is_cyclically_reduced N_is_cyclically_reduced
  by_cases hs : w.length < 2
  · have nn : (w.length : Int) < 2 := by omega
    rw [cycb_small hs] at fin
    walk_at "e"
  · obtain ⟨⟨l, f⟩, m, ⟨l', e⟩, rfl⟩ := ends (w := w) (by omega)
    have nn : ¬ (((l, f) :: (m ++ [(l', e)]) : Word).length : Int) < 2 := by omega
    have i0 : dItem st (dW ((l, f) :: (m ++ [(l', e)]))) 0 = some (dRun (l, f)) := item_WN (n := 0) rfl
    have i1 : dItem st (dW ((l, f) :: (m ++ [(l', e)]))) (-1) = some (dRun (l', e)) := by
      rw [← List.cons_append]
      exact item_lastW
    rw [cycb_ends] at fin
    walk_at "d"
    rw [List.length_cons] at nn
    rw [if_neg nn]
    simp only [i0]
    walk_at "d"
    simp only [i1]
    walk_at "d"
    split
    · rename_i hl
      have : (decide ((l, f).1 ≠ (l', e).1) || (decide (0 < (l, f).2) == decide (0 < (l', e).2))) = true := by simp [hl]
      rwa [this] at fin
    · rename_i hl
      have : (decide ((l, f).1 ≠ (l', e).1) || (decide (0 < (l, f).2) == decide (0 < (l', e).2))) = (decide (0 < f) == decide (0 < e)) := by
        have : l = l' := by simpa using hl
        subst this
        simp
      rwa [this] at fin

theorem len_is_cyclically_reduced : ∀ ds s Q, sp_is_cyclically_reduced ds s Q → ds.length = 1 := by
  intro ds s Q h
  unfold sp_is_cyclically_reduced at h
  repeat (obtain ⟨_, h⟩ := h)
  subst_vars
  rfl
/-! _law_pool -/
abbrev N__law_pool : List Str := ["script", "place", "cell", "seed"]

def r__law_pool : DTS :=
  (dSeq (dSet 2 (dC (.int 0)))
  (dSeq (dIfS (dB (dOp dLt (dVar 1) (dCB dLen (dCons (dVar 0) dNil)))) (dSet 2 (dCB dAbs (dCons (dCB dInt1 (dCons (dOp dIx (dVar 0) (dVar 1)) dNil)) dNil))) dNext)
  (dSeq (dSet 3 (dOp dAdd (dOp dAdd (dOp dMod (dCB dInt1 (dCons (dVar 2) dNil)) (dC (.int 2147483563))) (dOp dMul (dC (.int 7919)) (dVar 1))) (dC (.int 1))))
  (dSeq (dIfS (dB (dOp dLt (dVar 2) (dOp dPow (dC (.int 10)) (dC (.int 18))))) (dSet 2 (dC (.int 0))) dNext)
  (dRet (dLst (dCons (dVar 2) (dCons (dC (.int 0)) (dCons (dVar 3) dNil)))))))))
def sp__law_pool : DSp := fun ds st Q => ∃ (ns : List Int) (p : Int), ds = [.rol (ns.map D.int), .int p] ∧ 0 ≤ p ∧ p ≤ 100 ∧ ns.length ≤ 63 ∧ ∀ p : Pool, Q (.ref st.length) (st ++ [p.1])
theorem read__law_pool : ∀ ds st Q, Wf st → D.lts st.length ds → sp__law_pool ds st Q → r__law_pool st.length { nx := fun _ st' => Ret st.length Q .non st', rt := Ret st.length Q } (dstart N__law_pool ds) st := by
  intro ds st Q wf wl h
  obtain ⟨ns, p, rfl, h0, h1, hl, q⟩ := h
  have fin : ∀ c n s : Int, 0 ≤ c → 3 ≤ sizeLine ∧ Ret st.length Q (.ref st.length) (st ++ [.lst [.int c, .int n, .int s]]) := fun c n s hc =>
    ⟨by decide, ret_cell rfl wf (Nat.le_refl _) get_end (IsPool.lt ⟨c, n, s, rfl, hc⟩) (q ⟨_, c, n, s, rfl, hc⟩)⟩
  have cm : CMulA 7919 p := CMulA.left (by decide) (by decide)
  have cp : CPow 10 18 := ⟨by decide, by decide, by decide⟩
  have c3 : (2147483563 : Int) ≠ 0 := by decide
  unfold r__law_pool N__law_pool
  walk_at "d"
  split
  · rename_i hp
    rw [atI_nn h0 (by rw [List.length_map]; exact hp), List.getElem?_map, List.getElem?_eq_getElem (by omega)]
    walk_at "d"
    refine ⟨c3, cm, cp, ?_⟩
    repeat' split
    all_goals exact fin _ _ _ (by omega)
  · refine ⟨c3, cm, cp, ?_⟩
    repeat' split
    all_goals exact fin _ _ _ (by omega)

theorem len__law_pool : ∀ ds s Q, sp__law_pool ds s Q → ds.length = 2 := by
  intro ds s Q h
  unfold sp__law_pool at h
  repeat (obtain ⟨_, h⟩ := h)
  subst_vars
  rfl
/-! _law_draw -/
abbrev N__law_draw : List Str := ["pool", "many", "value", "mixed"]

def r__law_draw : DTS :=
  (dSeq (dIfS (dB (dOp dGt (dOp dIx (dVar 0) (dC (.int 0))) (dC (.int 0)))) (dSeq (dSet 2 (dOp dMod (dCB dInt1 (dCons (dOp dIx (dVar 0) (dC (.int 0))) dNil)) (dVar 1)))
  (dSeq (dAsg (dOp dFdiv (dCB dInt1 (dCons (dOp dIx (dVar 0) (dC (.int 0))) dNil)) (dVar 1)) (dgSub (dVar 0) (dC (.int 0))))
  (dRet (dVar 2)))) dNext)
  (dSeq (dAsg (dOp dAdd (dOp dIx (dVar 0) (dC (.int 1))) (dC (.int 1))) (dgSub (dVar 0) (dC (.int 1))))
  (dSeq (dSet 3 (dOp dMod (dCB dInt1 (dCons (dOp dAdd (dOp dMul (dOp dIx (dVar 0) (dC (.int 2))) (dC (.int 48271))) (dOp dMul (dOp dIx (dVar 0) (dC (.int 1))) (dC (.int 69621)))) dNil)) (dC (.int 2147483647))))
  (dSeq (dSet 3 (dOp dMod (dCB dInt1 (dCons (dOp dAdd (dOp dMul (dVar 3) (dVar 3)) (dOp dMul (dOp dIx (dVar 0) (dC (.int 1))) (dC (.int 7919)))) dNil)) (dC (.int 2147483629))))
  (dSeq (dSet 3 (dOp dMod (dCB dInt1 (dCons (dOp dAdd (dOp dMul (dVar 3) (dVar 3)) (dOp dIx (dVar 0) (dC (.int 2)))) dNil)) (dC (.int 2147483587))))
  (dRet (dOp dMod (dCB dInt1 (dCons (dVar 3) dNil)) (dVar 1))))))))
def sp__law_draw : DSp := fun ds st Q => ∃ (k : Nat) (m : Int) (p : Pool), ds = [.ref k, .int m] ∧ st[k]? = some p.1 ∧ 0 < m ∧ m ≤ 10 ^ 30 ∧ ∀ v (p' : Pool), 0 ≤ v → v < m → Q (.int v) (st.set k p'.1)
theorem draw_eq {k : Nat} {m : Int} {st : Store} {Q : DQ} : sp__law_draw [.ref k, .int m] st Q = ∃ p : Pool, st[k]? = some p.1 ∧ 0 < m ∧ m ≤ 10 ^ 30 ∧ ∀ v (p' : Pool), 0 ≤ v → v < m → Q (.int v) (st.set k p'.1) := by
  apply propext
  constructor
  · rintro ⟨k, m, p, e, h⟩
    cases e
    exact ⟨p, h⟩
  · rintro ⟨p, h⟩
    exact ⟨k, m, p, rfl, h⟩
theorem fmod_pos {a b : Int} (h : 0 < b) : 0 ≤ a.fmod b ∧ a.fmod b < b := by
  rw [Int.fmod_eq_emod_of_nonneg a (by omega)]
  exact ⟨Int.emod_nonneg a (by omega), Int.emod_lt_of_pos a h⟩
theorem sq_m {a b : Int} (h0 : 0 < b) (h1 : b < 2 ^ 63) : CMulA (a.fmod b) (a.fmod b) := by
  have := fmod_pos (a := a) h0
  exact CMulA.left (by omega) (by omega)
theorem log2_m {m : Int} (h0 : 0 < m) (h1 : m ≤ 10 ^ 30) : CDivA a m := by
  refine .inr ⟨h0, ?_⟩
  have h2 : m.natAbs < 2 ^ 100 := by
    have : (10 : Int) ^ 30 < 2 ^ 100 := by decide
    omega
  have := PySem.Flt.log2_lt_of (show 0 < 100 by decide) h2
  omega
theorem read__law_draw : ∀ ds st Q, Wf st → D.lts st.length ds → sp__law_draw ds st Q → r__law_draw st.length { nx := fun _ st' => Ret st.length Q .non st', rt := Ret st.length Q } (dstart N__law_draw ds) st := by
  intro ds st Q wf wl h
  obtain ⟨k, m, ⟨o, c, n, s, rfl, hc⟩, rfl, ho, h0, h1, q⟩ := h
  have fin : ∀ (v c n s : Int), 0 ≤ v → v < m → 0 ≤ c → Ret st.length Q (.int v) (st.set k (.lst [.int c, .int n, .int s])) := fun v c n s a b hc =>
    ret_eq (by rw [List.length_set]) (wf.set (IsPool.lt ⟨c, n, s, rfl, hc⟩)) trivial (q v ⟨_, c, n, s, rfl, hc⟩ a b)
  have i0 : ∀ i, dItem st (.ref k) i = atI [.int c, .int n, .int s] i := fun i => item_ref ho
  have i1 : ∀ xs i, dItem (st.set k (.lst xs)) (.ref k) i = atI xs i := fun xs i => item_ref (set_get ho)
  have s0 : ∀ i v, dSetIx st (.ref k) i v = (ixN 3 i).map fun j => st.set k (.lst ([D.int c, .int n, .int s].set j v)) := fun i v => setIx_ref ho
  have s1 : ∀ xs i v, dSetIx (st.set k (.lst xs)) (.ref k) i v = (ixN xs.length i).map fun j => st.set k (.lst (xs.set j v)) := fun xs i v => by rw [setIx_ref (set_get ho)]; simp only [List.set_set]
  clear ho q
  unfold r__law_draw N__law_draw
  walk_at "e"
  split
  · rename_i hp
    refine ⟨by omega, log2_m h0 h1, fin _ _ _ _ (fmod_pos h0).1 (fmod_pos h0).2 ?_⟩
    rw [Int.fdiv_eq_ediv_of_nonneg c (by omega)]
    exact Int.ediv_nonneg hc (by omega)
  · refine ⟨CMulA.right (by decide) (by decide), CMulA.right (by decide) (by decide), by decide, ?_, CMulA.right (by decide) (by decide), by decide, ?_, by decide, by omega, fin _ _ _ _ (fmod_pos h0).1 (fmod_pos h0).2 hc⟩
    all_goals exact sq_m (by decide) (by decide)

theorem len__law_draw : ∀ ds s Q, sp__law_draw ds s Q → ds.length = 2 := by
  intro ds s Q h
  unfold sp__law_draw at h
  repeat (obtain ⟨_, h⟩ := h)
  subst_vars
  rfl
/-! _law_reduce -/
abbrev N__law_reduce : List Str := ["runs", "rows", "run", "total"]
def g__law_reduce_0 : DTG := (dgName 2)
def b__law_reduce_0 : DTS :=
  (dSeq (dSet 3 (dOp dIx (dVar 2) (dC (.int 1))))
  (dSeq (dIfS (dAnd (dB (dOp dGt (dCB dLen (dCons (dVar 1) dNil)) (dC (.int 0)))) (dB (dOp dEq (dOp dIx (dOp dIx (dVar 1) (dUn dNeg (dC (.int 1)))) (dC (.int 0))) (dOp dIx (dVar 2) (dC (.int 0)))))) (dSeq (dSet 3 (dOp dAdd (dVar 3) (dOp dIx (dOp dIx (dVar 1) (dUn dNeg (dC (.int 1)))) (dC (.int 1)))))
  (dDrop (dBM dPop (dVar 1) dNil))) dNext)
  (dIfS (dB (dOp dNe (dVar 3) (dC (.int 0)))) (dDrop (dBM dAppend (dVar 1) (dCons (dTup (dCons (dOp dIx (dVar 2) (dC (.int 0))) (dCons (dVar 3) dNil))) dNil))) dNext)))
theorem ug__law_reduce_0 {x env st Q} : g__law_reduce_0 x env st Q = (dgName 2) x env st Q := rfl
theorem ub__law_reduce_0 {n d env st} : b__law_reduce_0 n d env st = (dSeq (dSet 3 (dOp dIx (dVar 2) (dC (.int 1))))
  (dSeq (dIfS (dAnd (dB (dOp dGt (dCB dLen (dCons (dVar 1) dNil)) (dC (.int 0)))) (dB (dOp dEq (dOp dIx (dOp dIx (dVar 1) (dUn dNeg (dC (.int 1)))) (dC (.int 0))) (dOp dIx (dVar 2) (dC (.int 0)))))) (dSeq (dSet 3 (dOp dAdd (dVar 3) (dOp dIx (dOp dIx (dVar 1) (dUn dNeg (dC (.int 1)))) (dC (.int 1)))))
  (dDrop (dBM dPop (dVar 1) dNil))) dNext)
  (dIfS (dB (dOp dNe (dVar 3) (dC (.int 0)))) (dDrop (dBM dAppend (dVar 1) (dCons (dTup (dCons (dOp dIx (dVar 2) (dC (.int 0))) (dCons (dVar 3) dNil))) dNil))) dNext))) n d env st := rfl
def r__law_reduce : DTS :=
  (dSeq (dSet 1 (dLst dNil))
  (dSeq (dFor (dIter (dVar 0)) g__law_reduce_0 b__law_reduce_0)
  (dRet (dCB dTupleOf (dCons (dVar 1) dNil)))))
def sp__law_reduce : DSp := fun ds st Q => ∃ (x : D) (ps : Word), ds = [x] ∧ dItems st x = some (ps.map dRun) ∧ ps.length ≤ 10000000 ∧ Q (dW (red ps)) st
theorem lp__law_reduce {m : Nat} {d : DEnds} {x : D} {st : Store} {items : List D} (hok : ∀ l, okOf x items (st ++ l)) : ∀ (rest R : Word) (a b : Option D), R.length + rest.length ≤ 10000000 →
    (∀ a b, d.nx [some x, some (.ref st.length), a, b] (st ++ [.lst ((rest.foldl (fun s r => Wd.cons r s) R).reverse.map dRun)])) →
    dLoop g__law_reduce_0 b__law_reduce_0 m d (okOf x items) (rest.map dRun) [some x, some (.ref st.length), a, b] (st ++ [.lst (R.reverse.map dRun)])
  | [], R, a, b, hl, h => ⟨hok _, h _ _⟩
  | (l, e) :: rest, [], a, b, hl, h => by
    have ih := fun R' (hr : R'.length ≤ 1) a b => lp__law_reduce hok rest R' a b (m := m) (d := d) (by simp at hl; omega)
    refine ⟨hok _, ?_⟩
    rw [ug__law_reduce_0]
    walk_at "d"
    rw [ub__law_reduce_0]
    have nn : ¬ ((0 : Int) < ((0 : Nat) : Int)) := by omega
    walk_at "d"
    rw [if_neg nn]
    split
    · exact ⟨by decide, small_line' (by decide), ih [(l, e)] (by simp) _ _ (fun a b => by
        have := h a b
        rwa [List.foldl_cons, c0, if_neg (by assumption)] at this)⟩
    · rename_i he
      exact ih [] (by simp) _ _ (fun a b => by
        have := h a b
        rwa [List.foldl_cons, c0, if_pos (by simpa using he)] at this)
  | (l, e) :: rest, (l', e') :: R, a, b, hl, h => by
    have hl' : R.length + 1 + (rest.length + 1) ≤ 10000000 := hl
    have ih := fun R' (hr : R'.length ≤ R.length + 2) a b => lp__law_reduce hok rest R' a b (m := m) (d := d) (by omega)
    refine ⟨hok _, ?_⟩
    rw [List.reverse_cons, ug__law_reduce_0]
    walk_at "d"
    rw [ub__law_reduce_0]
    have nn : (0 : Int) < (((R.reverse ++ [(l', e')]).length : Nat) : Int) := by rw [List.length_append, List.length_singleton]; omega
    walk_at "d"
    rw [if_pos nn]
    have hs : R.reverse.length < sizeLine := small_line' (by rw [List.length_reverse]; omega)
    have hs' : (R.reverse ++ [(l', e')]).length < sizeLine := small_line' (by rw [List.length_append, List.length_reverse]; simp; omega)
    split
    · rename_i hll
      subst hll
      split
      · rename_i he
        rw [← List.reverse_cons]
        refine ⟨by decide, hs, ih ((l', e + e') :: R) (by simp) _ _ (fun a b => ?_)⟩
        have := h a b
        rwa [List.foldl_cons, c1, if_pos rfl, if_neg he] at this
      · rename_i he
        refine ih R (by simp) _ _ (fun a b => ?_)
        have := h a b
        rwa [List.foldl_cons, c1, if_pos rfl, if_pos (by simpa using he)] at this
    · rename_i hll
      rw [← List.reverse_cons]
      split
      · rename_i he
        rw [← List.reverse_cons] at hs' ⊢
        refine ⟨by decide, hs', ih ((l, e) :: (l', e') :: R) (by simp) _ _ (fun a b => ?_)⟩
        have := h a b
        rwa [List.foldl_cons, c1, if_neg hll, if_neg he] at this
      · rename_i he
        refine ih ((l', e') :: R) (by simp) _ _ (fun a b => ?_)
        have := h a b
        rwa [List.foldl_cons, c1, if_neg hll, if_pos (by simpa using he)] at this
theorem read__law_reduce : ∀ ds st Q, Wf st → D.lts st.length ds → sp__law_reduce ds st Q → r__law_reduce st.length { nx := fun _ st' => Ret st.length Q .non st', rt := Ret st.length Q } (dstart N__law_reduce ds) st := by
  intro ds st Q wf wl h
  obtain ⟨x, ps, rfl, hx, hl, q⟩ := h
  have hx' : ∀ l, dItems (st ++ l) x = some (ps.map dRun) := fun l => dItems_app hx
  have hok : ∀ l, okOf x (ps.map dRun) (st ++ l) := fun l => ok_app hx
  unfold r__law_reduce N__law_reduce
  walk_at "d"
  rw [hx']
  refine ⟨Nat.zero_le _, lp__law_reduce hok ps [] _ _ (by simpa using hl) fun a b => ?_⟩
  rw [red_left]
  walk_at "d"
  exact ret_app rfl wf lt_W q

theorem len__law_reduce : ∀ ds s Q, sp__law_reduce ds s Q → ds.length = 1 := by
  intro ds s Q h
  unfold sp__law_reduce at h
  repeat (obtain ⟨_, h⟩ := h)
  subst_vars
  rfl
/-! _law_back -/
abbrev N__law_back : List Str := ["word", "run"]

def r__law_back : DTS :=
  (dRet (dCB dTupleOf (dCons (dLc (dIterRev (dCB dListOf (dCons (dVar 0) dNil))) (dgName 1) dYes (dTup (dCons (dOp dIx (dVar 1) (dC (.int 0))) (dCons (dOp dSub (dC (.int 0)) (dOp dIx (dVar 1) (dC (.int 1)))) dNil))) [1]) dNil)))
def sp__law_back : DSp := fun ds st Q => ∃ (x : D) (ps : Word), ds = [x] ∧ IsSeq st x (ps.map dRun) ∧ ps.length ≤ 1000000 ∧ Q (dW (inv ps)) st
theorem lp__law_back {st : Store} {ok fin : Store → Prop} {a : Option D} (hok : ∀ l, ok (st ++ l)) : ∀ (ps acc : Word), acc.length + ps.length ≤ 1000000 → fin (st ++ [.lst ((acc ++ ps.map fun r => (r.1, -r.2)).map dRun)]) →
    dLcL (dgName 1) dYes (dTup (dCons (dOp dIx (dVar 1) (dC (.int 0))) (dCons (dOp dSub (dC (.int 0)) (dOp dIx (dVar 1) (dC (.int 1)))) dNil))) ok [a, none] st.length fin (ps.map dRun) (st ++ [.lst (acc.map dRun)])
  | [], acc, hl, h => ⟨hok _, by rwa [List.map_nil, List.append_nil] at h⟩
  | r :: ps, acc, hl, h => by
    have hl' : acc.length + (ps.length + 1) ≤ 1000000 := hl
    refine ⟨hok _, ?_⟩
    walk_at "d"
    refine ⟨by decide, small_line' (by omega), lp__law_back hok ps _ (by simp; omega) ?_⟩
    rw [Int.zero_sub, List.append_assoc]
    exact h
theorem read__law_back : ∀ ds st Q, Wf st → D.lts st.length ds → sp__law_back ds st Q → r__law_back st.length { nx := fun _ st' => Ret st.length Q .non st', rt := Ret st.length Q } (dstart N__law_back ds) st := by
  intro ds st Q wf wl h
  obtain ⟨x, ps, rfl, hx, hl, q⟩ := h
  unfold r__law_back N__law_back
  walk_at "d"
  rw [list_seq hx]
  walk_at "d"
  rw [← List.map_reverse]
  refine lp__law_back (st := st ++ [O.lst (ps.map dRun)]) (fun l => get_app get_end) ps.reverse [] (by simpa using hl) ?_
  walk_at "d"
  rw [List.map_reverse]
  rw [List.append_assoc]
  exact ret_app rfl wf lt_W q

theorem len__law_back : ∀ ds s Q, sp__law_back ds s Q → ds.length = 1 := by
  intro ds s Q h
  unfold sp__law_back at h
  repeat (obtain ⟨_, h⟩ := h)
  subst_vars
  rfl
/-! _law_size -/
abbrev N__law_size : List Str := ["word", "run"]

def r__law_size : DTS :=
  (dRet (dCB dSum (dCons (dLc (dIter (dVar 0)) (dgName 1) dYes (dCB dAbs (dCons (dOp dIx (dVar 1) (dC (.int 1))) dNil)) [1]) dNil)))
def sp__law_size : DSp := fun ds st Q => ∃ (w : Word), ds = [dW w] ∧ w.length ≤ 1000000 ∧ Q (.int (size w : Nat)) st
def absI (i : Int) : Int := if i < 0 then -i else i
theorem sum_abs (w : Word) : (w.map fun r => absI r.2).sum = (size w : Nat) := by
  induction w with
  | nil => rfl
  | cons r w ih =>
    rw [List.map_cons, List.sum_cons, ih, size_cons]
    unfold absI
    split <;> omega
theorem lp__law_size {st : Store} {ok fin : Store → Prop} {a : Option D} (hok : ∀ s, ok s) : ∀ (ps : Word) (acc : List Int), acc.length + ps.length ≤ 1000000 → fin (st ++ [.lst ((acc ++ ps.map fun r => absI r.2).map D.int)]) →
    dLcL (dgName 1) dYes (dCB dAbs (dCons (dOp dIx (dVar 1) (dC (.int 1))) dNil)) ok [a, none] st.length fin (ps.map dRun) (st ++ [.lst (acc.map D.int)])
  | [], acc, hl, h => ⟨hok _, by rwa [List.map_nil, List.append_nil] at h⟩
  | r :: ps, acc, hl, h => by
    have hl' : acc.length + (ps.length + 1) ≤ 1000000 := hl
    refine ⟨hok _, ?_⟩
    walk_at "d"
    refine ⟨small_line' (by omega), ?_⟩
    refine lp__law_size hok ps _ (by simp; omega) ?_
    rw [List.append_assoc]
    exact h
theorem read__law_size : ∀ ds st Q, Wf st → D.lts st.length ds → sp__law_size ds st Q → r__law_size st.length { nx := fun _ st' => Ret st.length Q .non st', rt := Ret st.length Q } (dstart N__law_size ds) st := by
  intro ds st Q wf wl h
  obtain ⟨w, rfl, hl, q⟩ := h
  unfold r__law_size N__law_size
  walk_at "d"
  refine lp__law_size (st := st) (fun _ => trivial) w [] (by simpa using hl) ?_
  refine dSum_ref get_end ?_
  rw [List.nil_append, sum_abs]
  exact ret_app rfl wf trivial q

theorem len__law_size : ∀ ds s Q, sp__law_size ds s Q → ds.length = 1 := by
  intro ds s Q h
  unfold sp__law_size at h
  repeat (obtain ⟨_, h⟩ := h)
  subst_vars
  rfl
/-! _law_spelled -/
abbrev N__law_spelled : List Str := ["word", "rows", "run", "sign", "k"]
def g__law_spelled_1 : DTG := (dgName 4)
def b__law_spelled_1 : DTS :=
  (dDrop (dBM dAppend (dVar 1) (dCons (dTup (dCons (dOp dIx (dVar 2) (dC (.int 0))) (dCons (dVar 3) dNil))) dNil)))
theorem ug__law_spelled_1 {x env st Q} : g__law_spelled_1 x env st Q = (dgName 4) x env st Q := rfl
theorem ub__law_spelled_1 {n d env st} : b__law_spelled_1 n d env st = (dDrop (dBM dAppend (dVar 1) (dCons (dTup (dCons (dOp dIx (dVar 2) (dC (.int 0))) (dCons (dVar 3) dNil))) dNil))) n d env st := rfl
def g__law_spelled_0 : DTG := (dgName 2)
def b__law_spelled_0 : DTS :=
  (dSeq (dSet 3 (dC (.int 1)))
  (dSeq (dIfS (dB (dOp dLt (dOp dIx (dVar 2) (dC (.int 1))) (dC (.int 0)))) (dSet 3 (dOp dSub (dC (.int 0)) (dC (.int 1)))) dNext)
  (dFor (dRng1 (dCons (dCB dMin (dCons (dCB dAbs (dCons (dOp dIx (dVar 2) (dC (.int 1))) dNil)) (dCons (dC (.int 1000000)) dNil))) dNil)) g__law_spelled_1 b__law_spelled_1)))
theorem ug__law_spelled_0 {x env st Q} : g__law_spelled_0 x env st Q = (dgName 2) x env st Q := rfl
theorem ub__law_spelled_0 {n d env st} : b__law_spelled_0 n d env st = (dSeq (dSet 3 (dC (.int 1)))
  (dSeq (dIfS (dB (dOp dLt (dOp dIx (dVar 2) (dC (.int 1))) (dC (.int 0)))) (dSet 3 (dOp dSub (dC (.int 0)) (dC (.int 1)))) dNext)
  (dFor (dRng1 (dCons (dCB dMin (dCons (dCB dAbs (dCons (dOp dIx (dVar 2) (dC (.int 1))) dNil)) (dCons (dC (.int 1000000)) dNil))) dNil)) g__law_spelled_1 b__law_spelled_1))) n d env st := rfl
def r__law_spelled : DTS :=
  (dSeq (dSet 1 (dLst dNil))
  (dSeq (dFor (dIter (dVar 0)) g__law_spelled_0 b__law_spelled_0)
  (dRet (dVar 1))))
def sp__law_spelled : DSp := fun ds st Q => ∃ (w : Word), ds = [dW w] ∧ size w ≤ 1000000 ∧ Q (.ref st.length) (st ++ [.lst ((spelled w).map dRun)])
theorem lp1__law_spelled {m : Nat} {d : DEnds} {S : Store} {x0 : Option D} {l : Letter} {e s : Int} : ∀ (n : Nat) (i : Int) (acc : Word) (x : Option D), acc.length + n ≤ 1000000 →
    (∀ x, d.nx [x0, some (.ref S.length), some (dRun (l, e)), some (.int s), x] (S ++ [.lst ((acc ++ List.replicate n (l, s)).map dRun)])) →
    dLoop g__law_spelled_1 b__law_spelled_1 m d (fun _ => True) (rangeD i n) [x0, some (.ref S.length), some (dRun (l, e)), some (.int s), x] (S ++ [.lst (acc.map dRun)])
  | 0, i, acc, x, hl, h => ⟨trivial, by
    have := h x
    rwa [List.replicate_zero, List.append_nil] at this⟩
  | n + 1, i, acc, x, hl, h => by
    refine ⟨trivial, ?_⟩
    rw [ug__law_spelled_1]
    walk_at "d"
    rw [ub__law_spelled_1]
    walk_at "d"
    refine ⟨by decide, small_line' (by omega), lp1__law_spelled n (i + 1) _ _ (by rw [List.length_append, List.length_singleton]; omega) ?_⟩
    intro x
    have := h x
    rw [List.replicate_succ] at this
    rw [List.append_assoc]
    exact this
theorem lp0__law_spelled {m : Nat} {d : DEnds} {S : Store} {x0 : Option D} {ok : Store → Prop} (hok : ∀ s, ok s) : ∀ (rest acc : Word) (x y z : Option D), acc.length + (spelled rest).length ≤ 1000000 →
    (∀ x y z, d.nx [x0, some (.ref S.length), x, y, z] (S ++ [.lst ((acc ++ spelled rest).map dRun)])) →
    dLoop g__law_spelled_0 b__law_spelled_0 m d ok (rest.map dRun) [x0, some (.ref S.length), x, y, z] (S ++ [.lst (acc.map dRun)])
  | [], acc, x, y, z, hl, h => ⟨hok _, by
    have := h x y z
    have e : spelled ([] : Word) = [] := rfl
    rwa [e, List.append_nil] at this⟩
  | (l, e) :: rest, acc, x, y, z, hl, h => by
    have e1 : spelled ((l, e) :: rest) = List.replicate e.natAbs (l, if e < 0 then (-1 : Int) else 1) ++ spelled rest := rfl
    rw [e1] at h hl
    rw [List.length_append, List.length_replicate] at hl
    refine ⟨hok _, ?_⟩
    rw [ug__law_spelled_0]
    walk_at "d"
    rw [ub__law_spelled_0]
    have ih : ∀ s, s = (if e < 0 then (-1 : Int) else 1) → ∀ x, dLoop g__law_spelled_0 b__law_spelled_0 m d ok (rest.map dRun) [x0, some (.ref S.length), some (dRun (l, e)), some (.int s), x] (S ++ [.lst ((acc ++ List.replicate e.natAbs (l, s)).map dRun)]) := fun s hs x =>
      lp0__law_spelled hok rest _ _ _ _ (by rw [List.length_append, List.length_replicate]; omega) (by
        subst hs
        intro x y z
        have := h x y z
        rwa [← List.append_assoc] at this)
    clear h
    walk_at "d"
    by_cases he : e < 0
    · have e2 : (if (1000000 : Int) < -e then (1000000 : Int) else -e) = (e.natAbs : Nat) := by rw [if_neg (by omega)]; omega
      simp only [he, if_true] at ih ⊢
      rw [e2, Int.toNat_natCast]
      exact ⟨⟨by omega, by omega⟩, lp1__law_spelled _ _ _ _ (by omega) (ih (0 - 1) rfl)⟩
    · have e2 : (if (1000000 : Int) < e then (1000000 : Int) else e) = (e.natAbs : Nat) := by rw [if_neg (by omega)]; omega
      simp only [he, if_false] at ih ⊢
      rw [e2, Int.toNat_natCast]
      exact ⟨⟨by omega, by omega⟩, lp1__law_spelled _ _ _ _ (by omega) (ih 1 rfl)⟩
theorem read__law_spelled : ∀ ds st Q, Wf st → D.lts st.length ds → sp__law_spelled ds st Q → r__law_spelled st.length { nx := fun _ st' => Ret st.length Q .non st', rt := Ret st.length Q } (dstart N__law_spelled ds) st := by
  intro ds st Q wf wl h
  obtain ⟨w, rfl, hl, q⟩ := h
  unfold r__law_spelled N__law_spelled
  walk_at "d"
  refine ⟨Nat.zero_le _, lp0__law_spelled (S := st) (fun _ => trivial) w [] none none none (by rw [List.length_nil, len_spelled]; omega) fun x y z => ?_⟩
  walk_at "d"
  exact ret_cell rfl wf (Nat.le_refl _) get_end (lt_runs _) q

theorem len__law_spelled : ∀ ds s Q, sp__law_spelled ds s Q → ds.length = 1 := by
  intro ds s Q h
  unfold sp__law_spelled at h
  repeat (obtain ⟨_, h⟩ := h)
  subst_vars
  rfl
/-! _law_is_whole -/
abbrev N__law_is_whole : List Str := ["value"]

def r__law_is_whole : DTS :=
  (dRet (dAndV (dCB dIsi (dCons (dVar 0) (dCons (dC (.ty "int")) dNil))) (dNotV (dCB dIsi (dCons (dVar 0) (dCons (dC (.ty "bool")) dNil))))))
def sp__law_is_whole : DSp := fun ds st Q => ∃ (i : Int), ds = [.int i] ∧ Q (.bl true) st
theorem read__law_is_whole : ∀ ds st Q, Wf st → D.lts st.length ds → sp__law_is_whole ds st Q → r__law_is_whole st.length { nx := fun _ st' => Ret st.length Q .non st', rt := Ret st.length Q } (dstart N__law_is_whole ds) st := by
  intro ds st Q wf wl h
  obtain ⟨i, rfl, q⟩ := h
  unfold r__law_is_whole N__law_is_whole
  walk_at "d"
  exact ret_eq rfl wf trivial q

theorem len__law_is_whole : ∀ ds s Q, sp__law_is_whole ds s Q → ds.length = 1 := by
  intro ds s Q h
  unfold sp__law_is_whole at h
  repeat (obtain ⟨_, h⟩ := h)
  subst_vars
  rfl
/-! multiply_all -/
abbrev N_multiply_all : List Str := ["words", "word", "run"]

def r_multiply_all : DTS :=
  (dRet (dCall sp_reduced (dCons (dLc2 (dIter (dVar 0)) (dgName 1) dYes (dIter (dVar 1)) (dgName 2) dYes (dVar 2) [1, 2] [2]) dNil)))
def sp_multiply_all : DSp := fun ds st Q => ∃ (x : D) (ws : List Word), ds = [x] ∧ dItems st x = some (ws.map dW) ∧ ws.flatten.length ≤ 1000000 ∧ Q (dW (red ws.flatten)) st
theorem lp_multiply_all_i {st : Store} {ok nx : Store → Prop} {a b : Option D} (hok : ∀ l, ok (st ++ l)) : ∀ (rs acc : Word) (c : Option D), acc.length + rs.length ≤ 1000000 → nx (st ++ [.lst ((acc ++ rs).map dRun)]) →
    dLcI (dgName 2) dYes (dVar 2) ok [a, b, c] st.length nx (rs.map dRun) (st ++ [.lst (acc.map dRun)])
  | [], acc, c, hl, h => ⟨hok _, by rwa [List.append_nil] at h⟩
  | r :: rs, acc, c, hl, h => by
    have hl' : acc.length + (rs.length + 1) ≤ 1000000 := hl
    refine ⟨hok _, ?_⟩
    walk_at "d"
    refine ⟨small_line' (by omega), lp_multiply_all_i hok rs (acc ++ [r]) _ (by simp; omega) ?_⟩
    rwa [List.append_assoc]
theorem lp_multiply_all {st : Store} {ok fin : Store → Prop} {a : Option D} (hok : ∀ l, ok (st ++ l)) : ∀ (ws : List Word) (acc : Word) (b : Option D), acc.length + ws.flatten.length ≤ 1000000 → fin (st ++ [.lst ((acc ++ ws.flatten).map dRun)]) →
    dLcO (dgName 1) dYes (dIter (dVar 1)) (dgName 2) dYes (dVar 2) [2] ok [a, b, none] st.length fin (ws.map dW) (st ++ [.lst (acc.map dRun)])
  | [], acc, b, hl, h => ⟨hok _, by rwa [List.flatten_nil, List.append_nil] at h⟩
  | w :: ws, acc, b, hl, h => by
    rw [List.flatten_cons, List.length_append] at hl
    refine ⟨hok _, ?_⟩
    walk_at "d"
    refine lp_multiply_all_i (fun _ => trivial) w acc _ (by omega) (lp_multiply_all hok ws (acc ++ w) _ (by rw [List.length_append]; omega) ?_)
    rwa [List.append_assoc]
theorem read_multiply_all : ∀ ds st Q, Wf st → D.lts st.length ds → sp_multiply_all ds st Q → r_multiply_all st.length { nx := fun _ st' => Ret st.length Q .non st', rt := Ret st.length Q } (dstart N_multiply_all ds) st := by
  intro ds st Q wf wl h
  obtain ⟨x, ws, rfl, hx, hl, q⟩ := h
  have hok : ∀ l, okOf x (ws.map dW) (st ++ l) := fun l => ok_app hx
  unfold r_multiply_all N_multiply_all
  walk_at "d"
  rw [hx]
  refine lp_multiply_all hok ws [] _ (by simpa using hl) ?_
  exact ⟨_, ws.flatten, rfl, w_items_ref get_end, hl, ret_app rfl wf lt_W q⟩

theorem len_multiply_all : ∀ ds s Q, sp_multiply_all ds s Q → ds.length = 1 := by
  intro ds s Q h
  unfold sp_multiply_all at h
  repeat (obtain ⟨_, h⟩ := h)
  subst_vars
  rfl
/-! power -/
abbrev N_power : List Str := ["word", "exponent", "letter", "count", "base"]

def r_power : DTS :=
  (dSeq (dIfS (dOr (dB (dOp dEq (dVar 0) (dTup dNil))) (dB (dOp dEq (dVar 1) (dC (.int 0))))) (dRet (dTup dNil)) dNext)
  (dSeq (dIfS (dB (dOp dEq (dCB dLen (dCons (dVar 0) dNil)) (dC (.int 1)))) (dSeq (dAsg (dOp dIx (dVar 0) (dC (.int 0))) (dgTup 2 (dgCons (dgName 2) (dgCons (dgName 3) dgNil))))
  (dRet (dTup (dCons (dTup (dCons (dVar 2) (dCons (dOp dMul (dVar 3) (dVar 1)) dNil))) dNil)))) dNext)
  (dSeq (dSet 4 (dIf (dB (dOp dGt (dVar 1) (dC (.int 0)))) (dVar 0) (dCall sp_inverse (dCons (dVar 0) dNil))))
  (dRet (dCall sp_reduced (dCons (dOp dMulT (dVar 4) (dCB dAbs (dCons (dVar 1) dNil))) dNil))))))
def sp_power : DSp := fun ds st Q => ∃ (w : Word) (e : Int), ds = [dW w, .int e] ∧ Red w ∧ -(2 ^ 64) < e ∧ e < 2 ^ 64 ∧ (w.length ≤ 1 ∨ (e.natAbs ≤ 1000 ∧ w.length ≤ 1000)) ∧ Q (dW (pw w e)) st
theorem len_power : ∀ ds s Q, sp_power ds s Q → ds.length = 2 := by
  intro ds s Q ⟨u, v, e, _⟩
  subst e
  rfl
theorem read_power : ∀ ds st Q, Wf st → D.lts st.length ds → sp_power ds st Q → r_power st.length { nx := fun _ st' => Ret st.length Q .non st', rt := Ret st.length Q } (dstart N_power ds) st := by
  intro ds st Q wf wl h
  obtain ⟨w, e, rfl, hr, he0, he1, hl, q⟩ := h
  have fin : ∀ v, v = pw w e → Ret st.length Q (dW v) st := fun v hv => by
    subst hv
    exact ret_eq rfl wf lt_W q
  clear q wl
  unfold r_power N_power
  rcases w with _ | ⟨⟨l, c⟩, _ | ⟨r2, w⟩⟩
  · walk_at "d"
    refine ⟨Nat.zero_le _, ?_⟩
    exact ⟨Nat.zero_le _, fin [] (pw_nil e).symm⟩
  · have i0 : dItem st (dW [(l, c)]) 0 = some (dRun (l, c)) := item_WN (n := 0) rfl
    walk_at "d"
    refine ⟨Nat.zero_le _, ?_⟩
    by_cases he : e = 0
    · subst he
      simp only [reduceCtorEq, if_false, if_true]
      exact ⟨Nat.zero_le _, fin [] rfl⟩
    · simp only [reduceCtorEq, if_false, he, i0]
      walk_at "d"
      rw [if_pos (by omega)]
      exact ⟨CMulA.right he0 he1, by decide, by decide, fin _ (pw_single hr.1 he).symm⟩
  · have nn : ¬ (((w.length + 1 + 1 : Nat) : Int) = 1) := by omega
    have hl' : e.natAbs ≤ 1000 ∧ w.length + 1 + 1 ≤ 1000 := by
      rcases hl with h | h
      · simp at h
      · exact h
    walk_at "d"
    refine ⟨Nat.zero_le _, ?_⟩
    by_cases he : e = 0
    · subst he
      simp only [reduceCtorEq, if_false, if_true]
      exact ⟨Nat.zero_le _, fin [] rfl⟩
    · simp only [reduceCtorEq, if_false, he]
      rw [if_neg nn]
      generalize ew : ((l, c) :: r2 :: w : Word) = v at *
      have hv : v.length = w.length + 1 + 1 := by rw [← ew]; rfl
      have hne : v ≠ [] := by rw [← ew]; simp
      split
      · rename_i hp
        have e1 : (if e < 0 then -e else e) = e := if_neg (by omega)
        rw [e1]
        refine ⟨by omega, by omega, by omega, _, _, rfl, rfl, ?_, ?_⟩
        · show (rep _ v).length ≤ _
          rw [len_rep]
          exact Nat.le_trans (Nat.mul_le_mul (show _ ≤ 1000 by omega) (show _ ≤ 1000 by omega)) (by decide)
        · refine fin _ ?_
          unfold pw
          rw [if_pos hp, show e.toNat = e.natAbs by omega]
          rfl
      · rename_i hp
        refine ⟨v, rfl, by omega, ?_⟩
        have e1 : (if e < 0 then -e else e) = -e := if_pos (by omega)
        walk_at "d"
        rw [e1]
        refine ⟨?_, by omega, by omega, by rw [len_inv]; omega, _, _, rfl, rfl, ?_, ?_⟩
        · intro h0
          have := congrArg List.length h0
          rw [len_inv, hv] at this
          simp at this
        · show (rep _ (inv v)).length ≤ _
          rw [len_rep, len_inv]
          exact Nat.le_trans (Nat.mul_le_mul (show _ ≤ 1000 by omega) (show _ ≤ 1000 by omega)) (by decide)
        · refine fin _ ?_
          unfold pw
          rw [if_neg hp, show (-e).toNat = e.natAbs by omega]
          rfl

/-! core_of -/
abbrev N_core_of : List Str := ["word", "outer", "start", "end", "core", "letter", "first", "last", "taken"]
def g_core_of_0 : DTT := (dAnd (dB (dOp dGt (dOp dSub (dVar 3) (dVar 2)) (dC (.int 1)))) (dAnd (dB (dOp dEq (dOp dIx (dOp dIx (dVar 0) (dVar 2)) (dC (.int 0))) (dOp dIx (dOp dIx (dVar 0) (dOp dSub (dVar 3) (dC (.int 1)))) (dC (.int 0))))) (dB (dOp dEq (dOp dIx (dOp dIx (dVar 0) (dVar 2)) (dC (.int 1))) (dUn dNeg (dOp dIx (dOp dIx (dVar 0) (dOp dSub (dVar 3) (dC (.int 1)))) (dC (.int 1))))))))
def b_core_of_0 : DTS :=
  (dSeq (dDrop (dBM dAppend (dVar 1) (dCons (dOp dIx (dVar 0) (dVar 2)) dNil)))
  (dSeq (dAug 2 (dC (.int 1)) (dI0 fun i j => .int (i + j)))
  (dAug 3 (dC (.int 1)) (dI0 fun i j => .int (i - j)))))
theorem ug_core_of_0 {env st Q} : g_core_of_0 env st Q = (dAnd (dB (dOp dGt (dOp dSub (dVar 3) (dVar 2)) (dC (.int 1)))) (dAnd (dB (dOp dEq (dOp dIx (dOp dIx (dVar 0) (dVar 2)) (dC (.int 0))) (dOp dIx (dOp dIx (dVar 0) (dOp dSub (dVar 3) (dC (.int 1)))) (dC (.int 0))))) (dB (dOp dEq (dOp dIx (dOp dIx (dVar 0) (dVar 2)) (dC (.int 1))) (dUn dNeg (dOp dIx (dOp dIx (dVar 0) (dOp dSub (dVar 3) (dC (.int 1)))) (dC (.int 1)))))))) env st Q := rfl
theorem ub_core_of_0 {n d env st} : b_core_of_0 n d env st = (dSeq (dDrop (dBM dAppend (dVar 1) (dCons (dOp dIx (dVar 0) (dVar 2)) dNil)))
  (dSeq (dAug 2 (dC (.int 1)) (dI0 fun i j => .int (i + j)))
  (dAug 3 (dC (.int 1)) (dI0 fun i j => .int (i - j))))) n d env st := rfl
def r_core_of : DTS :=
  (dSeq (dSet 1 (dLst dNil))
  (dSeq (dSet 2 (dC (.int 0)))
  (dSeq (dSet 3 (dCB dLen (dCons (dVar 0) dNil)))
  (dSeq (dWhile g_core_of_0 b_core_of_0)
  (dSeq (dSet 4 (dSlice (dVar 0) (dPart (dVar 2)) (dPart (dVar 3))))
  (dSeq (dIfS (dNot (dTruth (dCall sp_is_cyclically_reduced (dCons (dVar 4) dNil)))) (dSeq (dAsg (dOp dIx (dVar 4) (dC (.int 0))) (dgTup 2 (dgCons (dgName 5) (dgCons (dgName 6) dgNil))))
  (dSeq (dSet 7 (dOp dIx (dOp dIx (dVar 4) (dUn dNeg (dC (.int 1)))) (dC (.int 1))))
  (dSeq (dSet 8 (dIf (dB (dOp dLt (dCB dAbs (dCons (dVar 6) dNil)) (dCB dAbs (dCons (dVar 7) dNil)))) (dVar 6) (dUn dNeg (dVar 7))))
  (dSeq (dDrop (dBM dAppend (dVar 1) (dCons (dTup (dCons (dVar 5) (dCons (dVar 8) dNil))) dNil)))
  (dSet 4 (dCall sp_reduced (dCons (dLst (dCons (dTup (dCons (dVar 5) (dCons (dOp dSub (dVar 6) (dVar 8)) dNil))) (dStar (dSlice (dVar 4) (dPart (dC (.int 1))) (dPart (dUn dNeg (dC (.int 1))))) (dCons (dTup (dCons (dVar 5) (dCons (dOp dAdd (dVar 7) (dVar 8)) dNil))) dNil)))) dNil))))))) dNext)
  (dRet (dTup (dCons (dCB dTupleOf (dCons (dVar 1) dNil)) (dCons (dVar 4) dNil))))))))))
def sp_core_of : DSp := fun ds st Q => ∃ (w : Word), ds = [dW w] ∧ Red w ∧ w.length ≤ 10000 ∧ ∀ o c : Word, Core w o c → o.length ≤ w.length → c.length ≤ w.length → Q (.tup [dW o, dW c]) st
theorem len_inv' (p : Word) : (inv p).length = p.length := len_inv p
theorem lp_core_of {m : Nat} {d : DEnds} {w : Word} {S : Store} (hl : w.length ≤ 10000)
    (h : ∀ p k : Word, w = p ++ (k ++ inv p) → (k.length ≤ 1 ∨ ∃ a m b, k = a :: (m ++ [b]) ∧ ¬ (a.1 = b.1 ∧ a.2 = -b.2)) →
      d.nx [some (dW w), some (.ref S.length), some (.int (p.length : Nat)), some (.int ((p.length + k.length : Nat) : Int)), none, none, none, none, none] (S ++ [.lst (p.map dRun)])) :
    ∀ (f : Nat) (p k : Word), k.length ≤ f → w = p ++ (k ++ inv p) →
      dWh g_core_of_0 b_core_of_0 m d (f + 1) [some (dW w), some (.ref S.length), some (.int (p.length : Nat)), some (.int ((p.length + k.length : Nat) : Int)), none, none, none, none, none] (S ++ [.lst (p.map dRun)])
  | f, p, k, hf, e => by
    have hpl : p.length + k.length + p.length = w.length := by
      rw [e, List.length_append, List.length_append, len_inv]
      omega
    rw [dWh_step, ug_core_of_0]
    by_cases hs : k.length ≤ 1
    · have nn : ¬ (1 : Int) < ((p.length + k.length : Nat) : Int) - ((p.length : Nat) : Int) := by omega
      walk_at "d"
      rw [if_neg nn]
      exact h p k e (.inl hs)
    · have nn : (1 : Int) < ((p.length + k.length : Nat) : Int) - ((p.length : Nat) : Int) := by omega
      obtain ⟨⟨l, x⟩, mid, ⟨l', y⟩, rfl⟩ := ends (w := k) (by omega)
      have hk : ((l, x) :: (mid ++ [(l', y)]) : Word).length = mid.length + 2 := by simp
      obtain ⟨g, rfl⟩ : ∃ g, f = g + 2 := ⟨f - 2, by omega⟩
      have i0 : w[p.length]? = some (l, x) := by
        rw [e, List.getElem?_append_right (Nat.le_refl _), Nat.sub_self]
        rfl
      have i1 : w[p.length + mid.length + 1]? = some (l', y) := by
        rw [e, List.getElem?_append_right (by omega), show p.length + mid.length + 1 - p.length = mid.length + 1 by omega]
        show ((mid ++ [(l', y)]) ++ inv p)[mid.length]? = _
        rw [List.append_assoc, List.getElem?_append_right (Nat.le_refl _), Nat.sub_self]
        rfl
      have j0 : ∀ st, dItem st (dW w) ((p.length : Nat) : Int) = some (dRun (l, x)) := fun st => item_WN i0
      have j1 : ∀ st, dItem st (dW w) (((p.length + ((l, x) :: (mid ++ [(l', y)]) : Word).length : Nat) : Int) - 1) = some (dRun (l', y)) := fun st => by
        rw [hk, show (((p.length + (mid.length + 2) : Nat) : Int) - 1) = ((p.length + mid.length + 1 : Nat) : Int) by omega]
        exact item_WN i1
      generalize hn : ((l, x) :: (mid ++ [(l', y)]) : Word).length = n at *
      walk_at "d"
      simp only [j0, j1]
      walk_at "d"
      rw [if_pos nn]
      have hsz : p.length < sizeLine := small_line' (by omega)
      by_cases hc : l = l' ∧ x = -y
      · obtain ⟨rfl, rfl⟩ := hc
        rw [ub_core_of_0]
        simp only [if_true, decide_true]
        walk_at "d"
        simp only [j0]
        walk_at "d"
        refine ⟨hsz, ?_⟩
        have ih := lp_core_of (m := m) hl h (g + 1) (p ++ [(l, -y)]) mid (by omega) (by
          rw [e, inv_app, inv_one, Int.neg_neg]
          simp)
        rw [List.length_append, List.length_singleton] at ih
        rw [show ((p.length : Nat) : Int) + 1 = ((p.length + 1 : Nat) : Int) by omega, show ((p.length + n : Nat) : Int) - 1 = ((p.length + 1 + mid.length : Nat) : Int) by omega]
        exact ih
      · have hx := h p _ e (.inr ⟨_, _, _, rfl, hc⟩)
        rw [hn] at hx
        by_cases h1 : l = l'
        · have h2 : ¬ x = -y := fun h2 => hc ⟨h1, h2⟩
          subst h1
          simp only [h2, if_true, if_false, decide_true, decide_false, Bool.false_eq_true]
          exact hx
        · simp only [h1, if_false, decide_false, Bool.false_eq_true]
          exact hx
theorem read_core_of : ∀ ds st Q, Wf st → D.lts st.length ds → sp_core_of ds st Q → r_core_of st.length { nx := fun _ st' => Ret st.length Q .non st', rt := Ret st.length Q } (dstart N_core_of ds) st := by
  intro ds st Q wf wl h
  obtain ⟨w, rfl, hr, hl, q⟩ := h
  have fin : ∀ (o c : Word) l, Core w o c → o.length ≤ w.length → c.length ≤ w.length → Ret st.length Q (.tup [dW o, dW c]) (st ++ l) := fun o c l h1 h2 h3 => ret_app rfl wf ⟨lt_W, lt_W, trivial⟩ (q o c h1 h2 h3)
  clear q wl
  unfold r_core_of N_core_of
  walk_at "d"
  refine ⟨Nat.zero_le _, w.length + 1, ?_⟩
  rw [show ((w.length : Nat) : Int) = (((([] : Word).length + w.length : Nat)) : Int) by simp]
  refine lp_core_of (S := st) hl (fun p k e hk => ?_) w.length [] w (Nat.le_refl _) (by simp [inv])
  have hpl : p.length + k.length + p.length = w.length := by
    rw [e, List.length_append, List.length_append, len_inv]
    omega
  have hcut : ∀ st Q, dSl (dW w) (some ((p.length : Nat) : Int)) (some ((p.length + k.length : Nat) : Int)) st Q = Q (dW k) st := fun st Q => by
    rw [sl_midW (by omega) (by omega), e, List.drop_left, Nat.add_sub_cancel_left, List.take_left]
  have hlk : k.length ≤ 10000 := by omega
  walk_at "d"
  rw [hcut]
  refine ⟨k, rfl, ?_⟩
  walk_at "d"
  by_cases hc : cycb k = true
  · have f1 := fun l => fin p k l (core_done hr e hc) (by omega) (by omega)
    rw [if_neg (by rw [hc]; simp)]
    try walk_at "d"
    exact ⟨by decide, f1 _⟩
  · obtain ⟨⟨l, x⟩, mid, ⟨l', y⟩, rfl, hne⟩ : ∃ a m b, k = a :: (m ++ [b]) ∧ ¬ (a.1 = b.1 ∧ a.2 = -b.2) := by
      rcases hk with h1 | h1
      · exact absurd (cycb_small (by omega)) hc
      · exact h1
    have hc' : cycb ((l, x) :: (mid ++ [(l', y)])) = false := by simpa using hc
    rw [cycb_ends] at hc'
    simp only [Bool.or_eq_false_iff, decide_eq_false_iff_not, ne_eq, Classical.not_not] at hc'
    obtain ⟨rfl, hs⟩ := hc'
    have hs' : ¬ (0 < x ↔ 0 < y) := by
      intro hh
      simp [hh] at hs
    have hxy : x ≠ -y := fun hh => hne ⟨rfl, hh⟩
    have ct := core_taken hr e hs' hxy
    have hk2 : ((l, x) :: (mid ++ [(l, y)]) : Word).length = mid.length + 2 := by simp
    rw [hk2] at hpl hlk
    have lr := len_red ((l, x - taken x y) :: (mid ++ [(l, y + taken x y)]))
    rw [List.length_cons, List.length_append, List.length_singleton] at lr
    have f1 := fun l' => fin _ _ l' ct (by rw [List.length_append, List.length_singleton]; omega) (by omega)
    have i0 : ∀ st, dItem st (dW ((l, x) :: (mid ++ [(l, y)]))) 0 = some (dRun (l, x)) := fun st => item_WN (n := 0) rfl
    have i1 : ∀ st, dItem st (dW ((l, x) :: (mid ++ [(l, y)]))) (-1) = some (dRun (l, y)) := fun st => by
      rw [← List.cons_append]
      exact item_lastW
    have i2 : ∀ st Q, dSl (dW ((l, x) :: (mid ++ [(l, y)]))) (some 1) (some (-1)) st Q = Q (dW mid) st := fun st Q => sl_innerW
    rw [if_pos (by simpa using hc)]
    clear hc hs hne fin
    walk_at "d"
    simp only [i0]
    walk_at "d"
    simp only [i1]
    walk_at "d"
    simp only [i2]
    walk_at "d"
    have key : ∀ t : Int, t = taken x y → 2 ≤ sizeLine ∧ p.length < sizeLine ∧ 2 ≤ sizeLine ∧ 2 ≤ sizeLine ∧ (mid ++ [(l, y + t)]).length + 1 ≤ sizeLine ∧
              sp_reduced [D.ref (List.length (st ++ [O.lst (List.map dRun (p ++ [(l, t)]))]))]
                (st ++ [O.lst (List.map dRun (p ++ [(l, t)]))] ++ [O.lst (dRun (l, x - t) :: List.map dRun (mid ++ [(l, y + t)]))])
                fun x st1 =>
                match st1[List.length st]? with
                | some (O.lst xs) => 2 ≤ sizeLine ∧ Ret (List.length st) Q (D.tup [D.tup xs, x]) st1
                | x => False := by
      rintro t rfl
      refine ⟨by decide, small_line' (by omega), by decide, by decide, small_line (by rw [List.length_append, List.length_singleton]; omega), _, (l, x - taken x y) :: (mid ++ [(l, y + taken x y)]), rfl, w_items_ref get_end, by rw [List.length_cons, List.length_append, List.length_singleton]; omega, ?_⟩
      show match (st ++ [O.lst (List.map dRun (p ++ [(l, taken x y)]))] ++ [O.lst (dRun (l, x - taken x y) :: List.map dRun (mid ++ [(l, y + taken x y)]))])[st.length]? with
        | some (O.lst xs) => 2 ≤ sizeLine ∧ Ret (List.length st) Q (D.tup [D.tup xs, dW (red ((l, x - taken x y) :: (mid ++ [(l, y + taken x y)])))]) _
        | _ => False
      rw [p_app (by simp), get_end]
      exact ⟨by decide, by rw [List.append_assoc]; exact f1 _⟩
    have cc : ((if x < 0 then -x else x) < (if y < 0 then -y else y)) ↔ x.natAbs < y.natAbs := by split <;> split <;> omega
    by_cases hh : x.natAbs < y.natAbs
    · rw [if_pos (cc.mpr hh)]
      exact key x (by unfold taken; rw [if_pos hh])
    · rw [if_neg (fun h => hh (cc.mp h))]
      exact key (-y) (by unfold taken; rw [if_neg hh])

theorem len_core_of : ∀ ds s Q, sp_core_of ds s Q → ds.length = 1 := by
  intro ds s Q h
  unfold sp_core_of at h
  repeat (obtain ⟨_, h⟩ := h)
  subst_vars
  rfl
/-! _law_join -/
abbrev N__law_join : List Str := ["first", "second"]

def r__law_join : DTS :=
  (dRet (dCall sp__law_reduce (dCons (dOp dAdd (dCB dListOf (dCons (dVar 0) dNil)) (dCB dListOf (dCons (dVar 1) dNil))) dNil)))
def sp__law_join : DSp := fun ds st Q => ∃ (x y : D) (u v : Word), ds = [x, y] ∧ IsSeq st x (u.map dRun) ∧ IsSeq st y (v.map dRun) ∧ u.length + v.length ≤ 10000000 ∧ Q (dW (red (u ++ v))) st
theorem len__law_join : ∀ ds s Q, sp__law_join ds s Q → ds.length = 2 := by
  intro ds s Q ⟨u, v, _, _, e, _⟩
  subst e
  rfl
theorem read__law_join : ∀ ds st Q, Wf st → D.lts st.length ds → sp__law_join ds st Q → r__law_join st.length { nx := fun _ st' => Ret st.length Q .non st', rt := Ret st.length Q } (dstart N__law_join ds) st := by
  intro ds st Q wf wl h
  obtain ⟨x, y, u, v, rfl, hx, hy, hl, q⟩ := h
  have h1 := fun Q => list_seq (Q := Q) hx
  have h2 := fun Q => list_seq (Q := Q) (hy.app (s2 := [O.lst (u.map dRun)]))
  unfold r__law_join N__law_join
  walk_at "d"
  rw [h1, h2, w_add_r, p_app (by simp), get_end, get_end]
  walk_at "d"
  refine ⟨small_line (by omega), _, u ++ v, rfl, w_items_ref get_end, by rw [List.length_append]; exact hl, ?_⟩
  rw [List.append_assoc, List.append_assoc]
  exact ret_app rfl wf lt_W q

/-! _law_times -/
abbrev N__law_times : List Str := ["word", "times", "part", "rows", "k"]
def g__law_times_0 : DTG := (dgName 4)
def b__law_times_0 : DTS :=
  (dDrop (dBM dExtend (dVar 3) (dCons (dVar 2) dNil)))
theorem ug__law_times_0 {x env st Q} : g__law_times_0 x env st Q = (dgName 4) x env st Q := rfl
theorem ub__law_times_0 {n d env st} : b__law_times_0 n d env st = (dDrop (dBM dExtend (dVar 3) (dCons (dVar 2) dNil))) n d env st := rfl
def r__law_times : DTS :=
  (dSeq (dSet 2 (dCB dListOf (dCons (dVar 0) dNil)))
  (dSeq (dIfS (dB (dOp dLt (dVar 1) (dC (.int 0)))) (dSet 2 (dCB dListOf (dCons (dCall sp__law_back (dCons (dVar 0) dNil)) dNil))) dNext)
  (dSeq (dSet 3 (dLst dNil))
  (dSeq (dFor (dRng1 (dCons (dCB dMin (dCons (dCB dAbs (dCons (dVar 1) dNil)) (dCons (dC (.int 1000000)) dNil))) dNil)) g__law_times_0 b__law_times_0)
  (dRet (dCall sp__law_reduce (dCons (dVar 3) dNil)))))))
def sp__law_times : DSp := fun ds st Q => ∃ (w : Word) (e : Int), ds = [dW w, .int e] ∧ w.length ≤ 1000000 ∧ e.natAbs ≤ 1000000 ∧ e.natAbs * w.length ≤ 10000000 ∧ Q (dW (pw w e)) st
theorem len__law_times : ∀ ds s Q, sp__law_times ds s Q → ds.length = 2 := by
  intro ds s Q ⟨u, v, e, _⟩
  subst e
  rfl
theorem lp__law_times {m : Nat} {d : DEnds} {S : Store} {a b : Option D} {k : Nat} {part : Word} (hk : S[k]? = some (.lst (part.map dRun))) : ∀ (n : Nat) (i : Int) (c : Nat) (x : Option D), (c + n) * part.length ≤ 10000000 →
    (∀ x, d.nx [a, b, some (.ref k), some (.ref S.length), x] (S ++ [.lst ((rep (c + n) part).map dRun)])) →
    dLoop g__law_times_0 b__law_times_0 m d (fun _ => True) (rangeD i n) [a, b, some (.ref k), some (.ref S.length), x] (S ++ [.lst ((rep c part).map dRun)])
  | 0, i, c, x, hc, h => ⟨trivial, h x⟩
  | n + 1, i, c, x, hc, h => by
    refine ⟨trivial, ?_⟩
    rw [ug__law_times_0]
    walk_at "d"
    rw [ub__law_times_0]
    have hk' := lt_of_get hk
    have hsz : (rep c part).length + part.length ≤ sizeLine := by
      refine small_line ?_
      rw [len_rep]
      have h1 : c * part.length + part.length = (c + 1) * part.length := by rw [Nat.succ_mul]
      have h2 : (c + 1) * part.length ≤ (c + (n + 1)) * part.length := Nat.mul_le_mul_right _ (by omega)
      omega
    have e1 : rep c part ++ part = rep (c + 1) part := by
      clear hsz h hc
      induction c with
      | zero => simp [rep]
      | succ c ih => rw [rep_succ, List.append_assoc, ih, ← rep_succ]
    walk_at "p"
    exact lp__law_times hk n (i + 1) (c + 1) _ (by rw [show c + 1 + n = c + (n + 1) by omega]; exact hc) (by rw [show c + 1 + n = c + (n + 1) by omega]; exact h)
theorem read__law_times : ∀ ds st Q, Wf st → D.lts st.length ds → sp__law_times ds st Q → r__law_times st.length { nx := fun _ st' => Ret st.length Q .non st', rt := Ret st.length Q } (dstart N__law_times ds) st := by
  intro ds st Q wf wl h
  obtain ⟨w, e, rfl, hl, he, hb, q⟩ := h
  have fin : ∀ v l, v = pw w e → Ret st.length Q (dW v) (st ++ l) := fun v l hv => by
    subst hv
    exact ret_app rfl wf lt_W q
  clear q wl
  unfold r__law_times N__law_times
  walk_at "p"
  split
  · rename_i hn
    refine ⟨_, w, rfl, .W, hl, ?_⟩
    have e1 : (if (1000000 : Int) < -e then (1000000 : Int) else -e) = (e.natAbs : Nat) := by split <;> omega
    walk_at "p"
    refine ⟨Nat.zero_le _, ⟨by omega, by omega⟩, ?_⟩
    have e2 : st.length + 2 = (st ++ [O.lst (w.map dRun), .lst ((inv w).map dRun)]).length := by simp
    have e3 : st ++ [O.lst (w.map dRun), .lst ((inv w).map dRun), .lst []] = (st ++ [O.lst (w.map dRun), .lst ((inv w).map dRun)]) ++ [.lst ((rep 0 (inv w)).map dRun)] := by simp [rep]
    rw [e2, e3, Int.toNat_natCast]
    refine lp__law_times (S := st ++ [.lst (w.map dRun), .lst ((inv w).map dRun)]) p_get1 _ 0 0 none (by rw [len_inv, Nat.zero_add]; exact hb) fun x => ?_
    clear e2 e3
    walk_at "p"
    refine ⟨_, rep (0 + e.natAbs) (inv w), rfl, w_items_ref p_get2, by rw [len_rep, len_inv, Nat.zero_add]; exact hb, ?_⟩
    refine fin _ _ ?_
    unfold pw
    rw [if_neg (by omega), Nat.zero_add]
  · rename_i hn
    have e1 : (if (1000000 : Int) < e then (1000000 : Int) else e) = (e.natAbs : Nat) := by split <;> omega
    refine ⟨Nat.zero_le _, ?_⟩
    rw [e1]
    refine ⟨⟨by omega, by omega⟩, ?_⟩
    have e2 : st.length + 1 = (st ++ [O.lst (w.map dRun)]).length := by simp
    have e3 : st ++ [O.lst (w.map dRun), .lst []] = (st ++ [O.lst (w.map dRun)]) ++ [.lst ((rep 0 w).map dRun)] := by simp [rep]
    rw [e2, e3, Int.toNat_natCast]
    refine lp__law_times (S := st ++ [.lst (w.map dRun)]) p_get0 _ 0 0 none (by rw [Nat.zero_add]; exact hb) fun x => ?_
    clear e2 e3
    walk_at "p"
    refine ⟨_, rep (0 + e.natAbs) w, rfl, w_items_ref p_get1, by rw [len_rep, Nat.zero_add]; exact hb, ?_⟩
    refine fin _ _ ?_
    rw [Nat.zero_add]
    unfold pw
    by_cases h0 : 0 < e
    · rw [if_pos h0]
    · have : e = 0 := by omega
      subst this
      rfl

/-! _law_core -/
abbrev N__law_core : List Str := ["word", "rows", "low", "high", "k"]
def g__law_core_0 : DTG := (dgName 4)
def b__law_core_0 : DTS :=
  (dIfS (dAnd (dB (dOp dGt (dOp dSub (dVar 3) (dVar 2)) (dC (.int 1)))) (dAnd (dB (dOp dEq (dOp dIx (dOp dIx (dVar 1) (dVar 2)) (dC (.int 0))) (dOp dIx (dOp dIx (dVar 1) (dOp dSub (dVar 3) (dC (.int 1)))) (dC (.int 0))))) (dB (dOp dEq (dOp dAdd (dOp dIx (dOp dIx (dVar 1) (dVar 2)) (dC (.int 1))) (dOp dIx (dOp dIx (dVar 1) (dOp dSub (dVar 3) (dC (.int 1)))) (dC (.int 1)))) (dC (.int 0)))))) (dSeq (dSet 2 (dOp dAdd (dVar 2) (dC (.int 1))))
  (dSet 3 (dOp dSub (dVar 3) (dC (.int 1))))) dNext)
theorem ug__law_core_0 {x env st Q} : g__law_core_0 x env st Q = (dgName 4) x env st Q := rfl
theorem ub__law_core_0 {n d env st} : b__law_core_0 n d env st = (dIfS (dAnd (dB (dOp dGt (dOp dSub (dVar 3) (dVar 2)) (dC (.int 1)))) (dAnd (dB (dOp dEq (dOp dIx (dOp dIx (dVar 1) (dVar 2)) (dC (.int 0))) (dOp dIx (dOp dIx (dVar 1) (dOp dSub (dVar 3) (dC (.int 1)))) (dC (.int 0))))) (dB (dOp dEq (dOp dAdd (dOp dIx (dOp dIx (dVar 1) (dVar 2)) (dC (.int 1))) (dOp dIx (dOp dIx (dVar 1) (dOp dSub (dVar 3) (dC (.int 1)))) (dC (.int 1)))) (dC (.int 0)))))) (dSeq (dSet 2 (dOp dAdd (dVar 2) (dC (.int 1))))
  (dSet 3 (dOp dSub (dVar 3) (dC (.int 1))))) dNext) n d env st := rfl
def r__law_core : DTS :=
  (dSeq (dSet 1 (dCall sp__law_spelled (dCons (dVar 0) dNil)))
  (dSeq (dSet 2 (dC (.int 0)))
  (dSeq (dSet 3 (dCB dLen (dCons (dVar 1) dNil)))
  (dSeq (dFor (dRng1 (dCons (dCB dLen (dCons (dVar 1) dNil)) dNil)) g__law_core_0 b__law_core_0)
  (dRet (dTup (dCons (dCall sp__law_reduce (dCons (dSlice (dVar 1) dNoPart (dPart (dVar 2))) dNil)) (dCons (dCall sp__law_reduce (dCons (dSlice (dVar 1) (dPart (dVar 2)) (dPart (dVar 3))) dNil)) dNil))))))))
def sp__law_core : DSp := fun ds st Q => ∃ (w : Word), ds = [dW w] ∧ Red w ∧ size w ≤ 1000 ∧ ∀ o c : Word, Core w o c → Q (.tup [dW o, dW c]) st
theorem lp__law_core {S : Store} {O C : Word} {x0 : Option D} {m : Nat} {d : DEnds} {k : Nat} (hX : (O ++ (C ++ inv O)).length ≤ 1000) (hC : Fr (C ++ C)) (hc : C ≠ []) (hk : S[k]? = some (.lst ((O ++ (C ++ inv O)).map dRun)))
    (h : ∀ x, d.nx [x0, some (.ref k), some (.int O.length), some (.int ((O ++ C).length : Nat)), x] S) :
    ∀ (g : Nat) (i : Int) (j : Nat) (x : Option D), j ≤ O.length → O.length ≤ j + g → dLoop g__law_core_0 b__law_core_0 m d (fun _ => True) (rangeD i g) [x0, some (.ref k), some (.int j), some (.int (((O ++ (C ++ inv O)).length : Int) - j)), x] S
  | 0, i, j, x, h1, h2 => ⟨trivial, by
    have e1 : j = O.length := by omega
    have e2 : (((O ++ (C ++ inv O)).length : Int) - j) = ((O ++ C).length : Nat) := by
      rw [e1, List.length_append, List.length_append, List.length_append, len_inv]
      omega
    rw [e2, e1]
    exact h x⟩
  | g + 1, i, j, x, h1, h2 => by
    refine ⟨trivial, ?_⟩
    have ih := fun j x => lp__law_core (x0 := x0) (m := m) hX hC hc hk h g (i + 1) j x
    clear h
    have hCl : 0 < C.length := List.length_pos_iff.mpr hc
    have e : (O ++ (C ++ inv O)).length = O.length + (C.length + O.length) := by rw [List.length_append, List.length_append, len_inv]
    rw [ug__law_core_0]
    walk_at "d"
    rw [ub__law_core_0]
    rw [e] at ih ⊢
    have en : (((O.length + (C.length + O.length) : Nat) : Int) - j - 1) = ((O.length + (C.length + O.length) - j - 1 : Nat) : Int) := by omega
    by_cases hj : j < O.length
    · obtain ⟨a, g1, g2⟩ := strip_go (C := C) hj
      rw [e] at g2
      have g1' := at_run g1
      have g2' := at_run g2
      have en2 : (((O.length + (C.length + O.length) : Nat) : Int) - j - 1) = (((O.length + (C.length + O.length) : Nat) : Int) - ((j + 1 : Nat) : Int)) := by omega
      have fin := ih (j + 1) (some (.int i)) (by omega) (by omega)
      rw [← en2] at fin
      have c1 : (1 : Int) < ((O.length + (C.length + O.length) : Nat) : Int) - j - j := by omega
      have c2 : a.2 + -a.2 = 0 := by omega
      have c3 : (j : Int) + 1 = ((j + 1 : Nat) : Int) := by omega
      rw [en] at fin
      clear ih en2 e
      walk_at "p"
      first | done | (rw [if_pos c1, c3]; exact fin) | (rw [c3]; exact fin)
    · obtain ⟨a, b, g1, g2, g3⟩ := strip_stop (O := O) hC hc
      have hjO : j = O.length := by omega
      subst hjO
      rw [e] at g2
      have g1' := at_run g1
      have g2' := at_run g2
      have fin := ih O.length (some (.int i)) (by omega) (by omega)
      clear ih
      walk_at "p"
      split
      · split
        · rename_i q1
          split
          · rename_i q2
            exact absurd ⟨q1, q2⟩ g3
          · first | trivial | exact fin
        · first | trivial | exact fin
      · first | trivial | exact fin
theorem read__law_core : ∀ ds st Q, Wf st → D.lts st.length ds → sp__law_core ds st Q → r__law_core st.length { nx := fun _ st' => Ret st.length Q .non st', rt := Ret st.length Q } (dstart N__law_core ds) st := by
  intro ds st Q wf wl h
  obtain ⟨w, rfl, hw, hs, q⟩ := h
  unfold r__law_core N__law_core
  have hl := len_spelled w
  by_cases hn : w = []
  · subst hn
    have hc : Core ([] : Word) [] [] := core_done trivial rfl rfl
    have q' := q [] [] hc
    walk_at "p"
    refine ⟨[], rfl, by decide, ?_⟩
    walk_at "p"
    refine ⟨by decide, trivial, ?_⟩
    walk_at "p"
    refine ⟨_, [], rfl, w_items_ref p_get1, by decide, ?_⟩
    walk_at "p"
    refine ⟨_, [], rfl, w_items_ref p_get2, by decide, ?_⟩
    exact ⟨by decide, ret_app rfl wf ⟨lt_W, lt_W, trivial⟩ q'⟩
  obtain ⟨o, c, hc⟩ := core_ex w.length w [] w (Nat.le_refl _) hw (by simp [inv])
  have q' := q o c hc
  clear q
  have hsl := hc.spell.1
  have hC := cyc_fr hc.rc hc.cy
  have hcn : spelled c ≠ [] := fun hh => core_ne hc hn ((spelled_nil_iff hc.rc).mp hh)
  have ro : red (spelled o) = o := by rw [red_spelled, red_of hc.ro]
  have rc : red (spelled c) = c := by rw [red_spelled, red_of hc.rc]
  walk_at "p"
  refine ⟨w, rfl, by omega, ?_⟩
  rw [← hl] at hs
  rw [hsl] at hs ⊢
  clear hsl hl hc
  generalize spelled o = O at *
  generalize spelled c = C at *
  walk_at "p"
  have e : (O ++ (C ++ inv O)).length = O.length + (C.length + O.length) := by rw [List.length_append, List.length_append, len_inv]
  have hio : (inv O).length = O.length := len_inv O
  refine ⟨by omega, ?_⟩
  have key := lp__law_core (S := st ++ [.lst ((O ++ (C ++ inv O)).map dRun)]) (x0 := some (dW w)) (m := st.length + 1) (d := {
        nx :=
          dRet
            (dTup
              (dCons (dCall sp__law_reduce (dCons (dSlice (dVar 1) dNoPart (dPart (dVar 2))) dNil))
                (dCons (dCall sp__law_reduce (dCons (dSlice (dVar 1) (dPart (dVar 2)) (dPart (dVar 3))) dNil)) dNil)))
            (List.length st) { nx := fun x st' => Ret (List.length st) Q D.non st', rt := Ret (List.length st) Q },
        rt := Ret (List.length st) Q }) hs hC hcn p_get0 (fun x => ?_) (O ++ (C ++ inv O)).length 0 0 none (Nat.zero_le _) (by omega)
  · have e0 : (((O ++ (C ++ inv O)).length : Nat) : Int) - ((0 : Nat) : Int) = (((O ++ (C ++ inv O)).length : Nat) : Int) := by omega
    rw [e0] at key
    rw [Int.toNat_natCast]
    simp only [List.length_append] at key ⊢
    exact key
  · walk_at "p"
    rw [e] at hs
    refine ⟨_, O, rfl, w_items_ref (xs := O.map dRun) ?_, by omega, ?_⟩
    · rw [cut_to, ← List.map_take, List.take_left]
      exact p_get1
    walk_at "p"
    refine ⟨_, C, rfl, w_items_ref (xs := C.map dRun) ?_, by omega, ?_⟩
    · have : cutD ((O ++ (C ++ inv O)).map dRun) (some (O.length : Nat)) (some ((O.length + C.length : Nat) : Int)) = C.map dRun := by
        rw [cut_any (by rw [List.length_map, e]; omega), ← List.map_drop, ← List.map_take, List.drop_left, Nat.add_sub_cancel_left, List.take_left]
      rw [← this]
      exact p_get2
    rw [rc]
    exact ⟨by decide, ret_app rfl wf ⟨lt_W, lt_W, trivial⟩ q'⟩

theorem len__law_core : ∀ ds s Q, sp__law_core ds s Q → ds.length = 1 := by
  intro ds s Q h
  unfold sp__law_core at h
  repeat (obtain ⟨_, h⟩ := h)
  subst_vars
  rfl
/-! _law_full -/
abbrev N__law_full : List Str := ["pool", "alphabet", "size", "rows", "k", "one", "sign"]
def g__law_full_0 : DTG := (dgName 4)
def b__law_full_0 : DTS :=
  (dSeq (dSet 5 (dOp dIx (dVar 1) (dCall sp__law_draw (dCons (dVar 0) (dCons (dCB dLen (dCons (dVar 1) dNil)) dNil)))))
  (dSeq (dSet 6 (dOp dSub (dC (.int 1)) (dOp dMul (dC (.int 2)) (dCall sp__law_draw (dCons (dVar 0) (dCons (dC (.int 2)) dNil))))))
  (dSeq (dIfS (dAnd (dB (dOp dGt (dCB dLen (dCons (dVar 3) dNil)) (dC (.int 0)))) (dB (dOp dEq (dOp dIx (dOp dIx (dVar 3) (dUn dNeg (dC (.int 1)))) (dC (.int 0))) (dVar 5)))) (dSet 6 (dOp dIx (dOp dIx (dVar 3) (dUn dNeg (dC (.int 1)))) (dC (.int 1)))) dNext)
  (dDrop (dBM dAppend (dVar 3) (dCons (dTup (dCons (dVar 5) (dCons (dVar 6) dNil))) dNil))))))
theorem ug__law_full_0 {x env st Q} : g__law_full_0 x env st Q = (dgName 4) x env st Q := rfl
theorem ub__law_full_0 {n d env st} : b__law_full_0 n d env st = (dSeq (dSet 5 (dOp dIx (dVar 1) (dCall sp__law_draw (dCons (dVar 0) (dCons (dCB dLen (dCons (dVar 1) dNil)) dNil)))))
  (dSeq (dSet 6 (dOp dSub (dC (.int 1)) (dOp dMul (dC (.int 2)) (dCall sp__law_draw (dCons (dVar 0) (dCons (dC (.int 2)) dNil))))))
  (dSeq (dIfS (dAnd (dB (dOp dGt (dCB dLen (dCons (dVar 3) dNil)) (dC (.int 0)))) (dB (dOp dEq (dOp dIx (dOp dIx (dVar 3) (dUn dNeg (dC (.int 1)))) (dC (.int 0))) (dVar 5)))) (dSet 6 (dOp dIx (dOp dIx (dVar 3) (dUn dNeg (dC (.int 1)))) (dC (.int 1)))) dNext)
  (dDrop (dBM dAppend (dVar 3) (dCons (dTup (dCons (dVar 5) (dCons (dVar 6) dNil))) dNil)))))) n d env st := rfl
def r__law_full : DTS :=
  (dSeq (dSet 3 (dLst dNil))
  (dSeq (dFor (dRng1 (dCons (dVar 2) dNil)) g__law_full_0 b__law_full_0)
  (dRet (dCall sp__law_reduce (dCons (dVar 3) dNil)))))
def Full (ls : List Letter) (rows : Word) : Prop := (∀ r ∈ rows, r.1 ∈ ls ∧ (r.2 = 1 ∨ r.2 = -1)) ∧ size (red rows) = rows.length ∧ (∀ x, rows.getLast? = some x → ∃ A e, red rows = A ++ [(x.1, e)] ∧ (0 < e ↔ 0 < x.2)) ∧ (∀ r ∈ red rows, r.1 ∈ ls)
theorem full_step {ls : List Letter} {rows : Word} {l : Letter} {s : Int} (h : Full ls rows) (hl : l ∈ ls) (hs : s = 1 ∨ s = -1) (hx : ∀ x, rows.getLast? = some x → x.1 = l → s = x.2) : Full ls (rows ++ [(l, s)]) := by
  obtain ⟨h1, h2, h3, h4⟩ := h
  have hred : ∃ A e, red (rows ++ [(l, s)]) = A ++ [(l, e)] ∧ (0 < e ↔ 0 < s) ∧ size (A ++ [(l, e)]) = rows.length + 1 ∧ ∀ r ∈ A, r.1 ∈ ls := by
    have e0 : red (rows ++ [(l, s)]) = red (red rows ++ [(l, s)]) := (red_red_app _ _).symm
    rcases List.eq_nil_or_concat rows with rfl | ⟨rows', x, rfl⟩
    · refine ⟨[], s, ?_, Iff.rfl, ?_, by simp⟩
      · exact red_of ⟨by simp only; omega, by simp, trivial⟩
      · simp only [List.nil_append, size_cons, size_nil, List.length_nil]
        omega
    · rw [List.concat_eq_append] at *
      obtain ⟨A, e, eA, hsg⟩ := h3 x (by simp)
      have hA : Red (A ++ [(x.1, e)]) := by rw [← eA]; exact Red.red
      have he : e ≠ 0 := hA.right.1
      have hAl : ∀ r ∈ A, r.1 ∈ ls := fun r hr => h4 r (by rw [eA]; simp [hr])
      rw [e0, eA]
      rw [eA] at h2
      by_cases hxl : x.1 = l
      · have hsx := hx x (by simp) hxl
        rw [hxl] at hA h2 ⊢
        have e2 : A ++ [(l, e)] ++ [(l, s)] = A ++ (l, e) :: (l, s) :: [] := by simp
        rw [e2, meet_eq]
        have hr : Red (A ++ (l, e + s) :: []) := Red.mid (f := e) hA ⟨he, by simp, trivial⟩ (by omega)
        rw [red_of hr]
        refine ⟨A, e + s, rfl, by omega, ?_, hAl⟩
        simp only [size_app, size_cons, size_nil] at h2 ⊢
        omega
      · have hr : Red ((A ++ [(x.1, e)]) ++ [(l, s)]) := Red.app hA ⟨by simp only; omega, by simp, trivial⟩ fun a b ha hb => by
          rw [List.getLast?_concat] at ha
          cases ha
          cases hb
          exact hxl
        rw [red_of hr]
        refine ⟨A ++ [(x.1, e)], s, rfl, Iff.rfl, ?_, fun r hr => ?_⟩
        · simp only [size_app, size_cons, size_nil] at h2 ⊢
          omega
        · exact h4 r (by rw [eA]; exact hr)
  obtain ⟨A, e, e1, e2, e3, e4⟩ := hred
  refine ⟨fun r hr => ?_, ?_, fun x hx' => ?_, fun r hr => ?_⟩
  · rcases List.mem_append.mp hr with hr | hr
    · exact h1 r hr
    · rw [List.mem_singleton] at hr
      subst hr
      exact ⟨hl, hs⟩
  · rw [e1, e3, List.length_append, List.length_singleton]
  · rw [List.getLast?_concat] at hx'
    cases hx'
    exact ⟨A, e, e1, e2⟩
  · rw [e1] at hr
    rcases List.mem_append.mp hr with hr | hr
    · exact e4 r hr
    · rw [List.mem_singleton] at hr
      subst hr
      exact hl
theorem full_nil {ls : List Letter} : Full ls [] := by
  refine ⟨?_, rfl, ?_, ?_⟩
  · intro r hr
    cases hr
  · intro x hx
    cases hx
  · intro r hr
    cases hr
def sp__law_full : DSp := fun ds st Q => ∃ (k a : Nat) (ls : List Letter) (n : Int) (p : Pool), ds = [.ref k, .ref a, .int n] ∧ st[k]? = some p.1 ∧ st[a]? = some (.lst (ls.map dL)) ∧
  ls ≠ [] ∧ ls.length ≤ 1000 ∧ 0 ≤ n ∧ n ≤ 100000 ∧ ∀ (w : Word) (p' : Pool), Red w → w.length ≤ n.toNat → size w = n.toNat → (∀ r ∈ w, r.1 ∈ ls) → Q (dW w) (st.set k p'.1)
theorem lp__law_full {S : Store} {k a : Nat} {ls : List Letter} {n : Int} (hk : k < S.length) (ha : S[a]? = some (.lst (ls.map dL))) (hka : k ≠ a) (hls : ls ≠ []) (hll : ls.length ≤ 1000) (hm : 0 ≤ n) (hm1 : n ≤ 100000) {m : Nat} {d : DEnds}
    (h : ∀ (M : Word) (p : Pool) x y z, M.length = n.toNat → Full ls M → d.nx [some (.ref k), some (.ref a), some (.int n), some (.ref S.length), x, y, z] (S.set k p.1 ++ [.lst (M.map dRun)])) :
    ∀ (items : List D) (M : Word) (p : Pool) x y z, M.length + items.length = n.toNat → Full ls M →
      dLoop g__law_full_0 b__law_full_0 m d (fun _ => True) items [some (.ref k), some (.ref a), some (.int n), some (.ref S.length), x, y, z] (S.set k p.1 ++ [.lst (M.map dRun)])
  | [], M, p, x, y, z, hl, hw => ⟨trivial, h M p x y z (by simpa using hl) hw⟩
  | i :: items, M, p, x, y, z, hl, hw => by
    refine ⟨trivial, ?_⟩
    have hlM : M.length + (items.length + 1) = n.toNat := hl
    have ih := lp__law_full (m := m) hk ha hka hls hll hm hm1 h items
    clear h
    have ha' := lt_of_get ha
    have dr := @draw_eq
    rw [ug__law_full_0]
    walk_at "d"
    rw [ub__law_full_0]
    have fin : ∀ (p : Pool) (l : Letter) (e : Int) x y z, Full ls (M ++ [(l, e)]) → M.length < sizeLine ∧
        dLoop g__law_full_0 b__law_full_0 m d (fun _ => True) items [some (.ref k), some (.ref a), some (.int n), some (.ref S.length), x, y, z] (S.set k p.1 ++ [.lst ((M ++ [(l, e)]).map dRun)]) :=
      fun p l e x y z h1 => ⟨small_line' (by omega), ih _ p _ _ _ (by rw [List.length_append, List.length_singleton]; omega) h1⟩
    clear ih
    have hl0 : 0 < ls.length := List.length_pos_iff.mpr hls
    have b3 : (1000 : Int) ≤ 10 ^ 30 := by decide
    rcases List.eq_nil_or_concat M with rfl | ⟨M', ⟨l', e'⟩, rfl⟩
    · have nn : ¬ (0 : Int) < ((0 : Nat) : Int) := by omega
      walk_at "p"
      refine ⟨by omega, by omega, fun v p1 h0 h1 => ?_⟩
      obtain ⟨l, hl1, e1⟩ := at_map (f := dL) h0 h1
      simp only [e1]
      refine ⟨by decide, by omega, fun u p2 h2 h3 => ⟨CMulA.left (by decide) (by decide), by decide, ?_⟩⟩
      exact fin p2 l (1 - 2 * u) _ _ _ (full_step hw hl1 (by omega) (fun x hx => by simp at hx))
    · simp only [List.concat_eq_append] at *
      have nn : (0 : Int) < (((M'.length + 1) : Nat) : Int) := by omega
      walk_at "p"
      refine ⟨by omega, by omega, fun v p1 h0 h1 => ?_⟩
      obtain ⟨l, hl1, e1⟩ := at_map (f := dL) h0 h1
      simp only [e1]
      refine ⟨by decide, by omega, fun u p2 h2 h3 => ⟨CMulA.left (by decide) (by decide), ?_⟩⟩
      walk_at "d"
      have hlast := hw.1 (l', e') (by simp)
      split
      · rename_i hll
        refine ⟨by decide, ?_⟩
        have := fin p2 l e' (some i) (some (dL l)) (some (.int e')) (full_step hw hl1 hlast.2 (fun x hx hxl => by
          rw [List.getLast?_concat] at hx
          cases hx
          rfl))
        simp only [List.length_append, List.length_singleton] at this
        exact this
      · rename_i hll
        refine ⟨by decide, ?_⟩
        have := fin p2 l (1 - 2 * u) (some i) (some (dL l)) (some (.int (1 - 2 * u))) (full_step hw hl1 (by omega) (fun x hx hxl => by
          rw [List.getLast?_concat] at hx
          cases hx
          exact absurd hxl hll))
        simp only [List.length_append, List.length_singleton] at this
        exact this
theorem read__law_full : ∀ ds st Q, Wf st → D.lts st.length ds → sp__law_full ds st Q → r__law_full st.length { nx := fun _ st' => Ret st.length Q .non st', rt := Ret st.length Q } (dstart N__law_full ds) st := by
  intro ds st Q wf wl h
  obtain ⟨k, a, ls, n, p, rfl, hp, ha, hls, hll, hm, hm1, q⟩ := h
  have hk := lt_of_get hp
  unfold r__law_full N__law_full
  walk_at "p"
  refine ⟨Nat.zero_le _, ⟨by omega, by omega⟩, ?_⟩
  have key := lp__law_full (m := st.length + 1) (d := { nx := dRet (dCall sp__law_reduce (dCons (dVar 3) dNil)) st.length { nx := fun x st' => Ret st.length Q D.non st', rt := Ret st.length Q }, rt := Ret st.length Q }) hk ha (pool_ne hp ha dL_ne) hls hll hm hm1 (fun M p2 x y z a1 a2 => by
    walk_at "p"
    refine ⟨_, M, rfl, w_items_ref p_gets0, by omega, ?_⟩
    exact ret_app (by rw [List.length_set]) (wf.set p2.lt) lt_W (q (red M) p2 Red.red (Nat.le_trans (len_red M) (by omega)) (by rw [a2.2.1, a1]) a2.2.2.2)) (rangeD 0 n.toNat) [] p none none none (by rw [rangeD_len]; simp) full_nil
  rw [p_fix hp] at key
  exact key

theorem len__law_full : ∀ ds s Q, sp__law_full ds s Q → ds.length = 3 := by
  intro ds s Q h
  unfold sp__law_full at h
  repeat (obtain ⟨_, h⟩ := h)
  subst_vars
  rfl
/-! _law_is_letter -/
abbrev N__law_is_letter : List Str := ["value", "item"]
def g__law_is_letter_0 : DTG := (dgName 1)
def b__law_is_letter_0 : DTS :=
  (dIfS (dNot (dTruth (dCall sp__law_is_whole (dCons (dVar 1) dNil)))) (dRet (dC (.bl false))) dNext)
theorem ug__law_is_letter_0 {x env st Q} : g__law_is_letter_0 x env st Q = (dgName 1) x env st Q := rfl
theorem ub__law_is_letter_0 {n d env st} : b__law_is_letter_0 n d env st = (dIfS (dNot (dTruth (dCall sp__law_is_whole (dCons (dVar 1) dNil)))) (dRet (dC (.bl false))) dNext) n d env st := rfl
def r__law_is_letter : DTS :=
  (dSeq (dIfS (dOr (dNot (dTruth (dCB dIsi (dCons (dVar 0) (dCons (dC (.ty "tuple")) dNil))))) (dOr (dB (dOp dEq (dCB dLen (dCons (dVar 0) dNil)) (dC (.int 0)))) (dNot (dTruth (dCB dIsi (dCons (dOp dIx (dVar 0) (dC (.int 0))) (dCons (dC (.ty "str")) dNil))))))) (dRet (dC (.bl false))) dNext)
  (dSeq (dFor (dIter (dSlice (dVar 0) (dPart (dC (.int 1))) dNoPart)) g__law_is_letter_0 b__law_is_letter_0)
  (dRet (dC (.bl true)))))
def sp__law_is_letter : DSp := fun ds st Q => ∃ (l : Letter), ds = [dL l] ∧ Q (.bl true) st
theorem lp__law_is_letter {m : Nat} {d : DEnds} {x : D} {st : Store} {ok : Store → Prop} (hok : ok st) : ∀ (hs : List Int) (a : Option D), (∀ a, d.nx [some x, a] st) →
    dLoop g__law_is_letter_0 b__law_is_letter_0 m d ok (hs.map D.int) [some x, a] st
  | [], a, h => ⟨hok, h _⟩
  | i :: hs, a, h => by
    refine ⟨hok, ?_⟩
    rw [ug__law_is_letter_0]
    walk_at "d"
    rw [ub__law_is_letter_0]
    walk_at "d"
    refine ⟨i, rfl, ?_⟩
    walk_at "d"
    exact lp__law_is_letter hok hs _ h
theorem read__law_is_letter : ∀ ds st Q, Wf st → D.lts st.length ds → sp__law_is_letter ds st Q → r__law_is_letter st.length { nx := fun _ st' => Ret st.length Q .non st', rt := Ret st.length Q } (dstart N__law_is_letter ds) st := by
  intro ds st Q wf wl h
  obtain ⟨⟨n, hs⟩, rfl, q⟩ := h
  unfold r__law_is_letter N__law_is_letter
  unfold dL
  have e : ¬ (((hs.length + 1 : Nat) : Int) = 0) := by omega
  walk_at "d"
  rw [if_neg e]
  refine lp__law_is_letter trivial hs _ fun a => ?_
  walk_at "d"
  exact ret_eq rfl wf trivial q

theorem len__law_is_letter : ∀ ds s Q, sp__law_is_letter ds s Q → ds.length = 1 := by
  intro ds s Q h
  unfold sp__law_is_letter at h
  repeat (obtain ⟨_, h⟩ := h)
  subst_vars
  rfl
/-! _law_root_exponent -/
abbrev N__law_root_exponent : List Str := ["rule", "rows", "best", "many", "part"]
def g__law_root_exponent_0 : DTG := (dgName 3)
def b__law_root_exponent_0 : DTS :=
  (dSeq (dSet 4 (dOp dFdiv (dCB dLen (dCons (dVar 1) dNil)) (dVar 3)))
  (dIfS (dAnd (dB (dOp dEq (dOp dMul (dVar 4) (dVar 3)) (dCB dLen (dCons (dVar 1) dNil)))) (dB (dOp dEq (dOp dMul (dSlice (dVar 1) dNoPart (dPart (dVar 4))) (dVar 3)) (dVar 1)))) (dSet 2 (dVar 3)) dNext))
theorem ug__law_root_exponent_0 {x env st Q} : g__law_root_exponent_0 x env st Q = (dgName 3) x env st Q := rfl
theorem ub__law_root_exponent_0 {n d env st} : b__law_root_exponent_0 n d env st = (dSeq (dSet 4 (dOp dFdiv (dCB dLen (dCons (dVar 1) dNil)) (dVar 3)))
  (dIfS (dAnd (dB (dOp dEq (dOp dMul (dVar 4) (dVar 3)) (dCB dLen (dCons (dVar 1) dNil)))) (dB (dOp dEq (dOp dMul (dSlice (dVar 1) dNoPart (dPart (dVar 4))) (dVar 3)) (dVar 1)))) (dSet 2 (dVar 3)) dNext)) n d env st := rfl
def r__law_root_exponent : DTS :=
  (dSeq (dSet 1 (dCall sp__law_spelled (dCons (dVar 0) dNil)))
  (dSeq (dSet 2 (dC (.int 1)))
  (dSeq (dFor (dRng2 (dCons (dC (.int 2)) (dCons (dOp dAdd (dCB dLen (dCons (dVar 1) dNil)) (dC (.int 1))) dNil))) g__law_root_exponent_0 b__law_root_exponent_0)
  (dRet (dVar 2)))))
def sp__law_root_exponent : DSp := fun ds st Q => ∃ (c : Word) (p m : Nat), ds = [dW c] ∧ c ≠ [] ∧ Red c ∧ size c ≤ 1000 ∧ Per (spelled c) p m ∧ Q (.int m) st
theorem per_many {X : Word} {p m many : Nat} (hXn : X ≠ []) (hp : Per X p m) (h0 : 0 < many) (hd : many ∣ X.length) (he : rep many (X.take (X.length / many)) = X) : many ≤ m := by
  obtain ⟨part, hpart⟩ := hd
  have hXl : 0 < X.length := List.length_pos_iff.mpr hXn
  have hq : X.length / many = part := by rw [hpart, Nat.mul_div_cancel_left _ h0]
  rw [hq] at he
  have hpart0 : 0 < part := by
    rcases Nat.eq_zero_or_pos part with hh | hh
    · rw [hh, Nat.mul_zero] at hpart
      omega
    · exact hh
  have hple : part ≤ X.length := by
    rw [hpart]
    exact Nat.le_mul_of_pos_left part h0
  have hlt : (X.take part).length = part := by rw [List.length_take]; omega
  obtain ⟨k, rfl⟩ : ∃ k, many = k + 1 := ⟨many - 1, by omega⟩
  have hr : rot part X = X := by
    have := rep_rot (U := X.take part) k
    rw [hlt, he] at this
    exact this
  have hpp : p ≤ part := Nat.le_of_dvd hpart0 (hp.dvd hXn hple hr)
  rcases Nat.lt_or_ge m (k + 1) with hh | hh
  · have h1 := hp.len
    have h2 : m * p ≤ m * part := Nat.mul_le_mul_left _ hpp
    have h3 : (m + 1) * part ≤ (k + 1) * part := Nat.mul_le_mul_right _ hh
    rw [Nat.add_mul m 1 part, Nat.one_mul] at h3
    omega
  · exact hh
theorem many_per {X : Word} {p m : Nat} (hXn : X ≠ []) (hp : Per X p m) : m ∣ X.length ∧ rep m (X.take (X.length / m)) = X ∧ 0 < m := by
  have hXl : 0 < X.length := List.length_pos_iff.mpr hXn
  have hl := hp.len
  have hm0 : 0 < m := by
    rcases Nat.eq_zero_or_pos m with h0 | h0
    · rw [h0, Nat.zero_mul] at hl
      omega
    · exact h0
  refine ⟨⟨p, hl⟩, ?_, hm0⟩
  rw [hl, Nat.mul_div_cancel_left _ hm0]
  exact (rot_rep hp.pos hl hp.rt hXn).symm
theorem lp__law_root_exponent {S : Store} {X : Word} {p m : Nat} {n : Nat} {d : DEnds} {x0 : Option D} (hX : X.length ≤ 1000) (hXn : X ≠ []) (hp : Per X p m)
    (h : ∀ (l : Store) x y, d.nx [x0, some (.ref S.length), some (.int m), x, y] (S ++ .lst (X.map dRun) :: l)) :
    ∀ (g many best : Nat) (l : Store) x y, 1 ≤ many → many + g = X.length + 1 → (m < many → best = m) → dLoop g__law_root_exponent_0 b__law_root_exponent_0 n d (fun _ => True) (rangeD many g) [x0, some (.ref S.length), some (.int best), x, y] (S ++ .lst (X.map dRun) :: l)
  | 0, many, best, l, x, y, h1, h2, h4 => ⟨trivial, by
    obtain ⟨a1, a2, a3⟩ := many_per hXn hp
    have := Nat.le_of_dvd (List.length_pos_iff.mpr hXn) a1
    rw [h4 (by omega)]
    exact h l x y⟩
  | g + 1, many, best, l, x, y, h1, h2, h4 => by
    refine ⟨trivial, ?_⟩
    have ih := fun best l x y => lp__law_root_exponent (n := n) (x0 := x0) hX hXn hp h g (many + 1) best l x y (by omega) (by omega)
    clear h
    have hdv : ((X.length : Nat) : Int).fdiv (many : Int) = ((X.length / many : Nat) : Int) := by
      rw [Int.fdiv_eq_ediv_of_nonneg _ (by omega), Int.natCast_ediv]
    have hle : X.length / many ≤ X.length := Nat.div_le_self _ _
    have e1 : ((many : Int) + 1) = ((many + 1 : Nat) : Int) := by omega
    rw [ug__law_root_exponent_0]
    walk_at "d"
    rw [ub__law_root_exponent_0]
    walk_at "p"
    refine ⟨cdivA_small (by omega) (by omega), (by
      generalize X.length / many = qv at hle
      exact CMulA.left (by omega) (by omega)), ?_⟩
    by_cases hd : many ∣ X.length
    · have hmul : X.length / many * many = X.length := Nat.div_mul_cancel hd
      rw [if_pos (by rw [← Int.natCast_mul, hmul])]
      have ecut : cutD (X.map dRun) none (some ((X.length / many : Nat) : Int)) = (X.take (X.length / many)).map dRun := by rw [cut_to, ← List.map_take]
      rw [ecut, w_mulR (a := (X.take (X.length / many)).map dRun) (by
        have : S ++ O.lst (X.map dRun) :: (l ++ [O.lst ((X.take (X.length / many)).map dRun)]) = (S ++ O.lst (X.map dRun) :: l) ++ [O.lst ((X.take (X.length / many)).map dRun)] := by simp
        rw [this]
        have e2 : S.length + (l.length + 1) = (S ++ O.lst (X.map dRun) :: l).length := by simp
        rw [e2]
        exact get_end)]
      have erep : (List.replicate ((many : Int).toNat) ((X.take (X.length / many)).map dRun)).flatten = (rep many (X.take (X.length / many))).map dRun := by
        unfold rep
        rw [List.map_flatten, List.map_replicate, Int.toNat_natCast]
      have hlt : (X.take (X.length / many)).length = X.length / many := by rw [List.length_take]; omega
      refine ⟨by omega, by omega, small_line (by rw [List.length_map, hlt, Int.toNat_natCast, hmul]; omega), ?_⟩
      rw [erep]
      have hcell : ∀ Z : O, (S ++ O.lst (X.map dRun) :: (l ++ [O.lst ((X.take (X.length / many)).map dRun)]) ++ [Z])[(S ++ O.lst (X.map dRun) :: (l ++ [O.lst ((X.take (X.length / many)).map dRun)])).length]? = some Z := fun Z => get_end
      have hcell0 : ∀ Z : O, (S ++ O.lst (X.map dRun) :: (l ++ [O.lst ((X.take (X.length / many)).map dRun)]) ++ [Z])[S.length]? = some (O.lst (X.map dRun)) := fun Z => by
        rw [List.append_assoc, List.cons_append]
        exact p_get0
      rw [dEqv_runs (hcell _) (hcell0 _)]
      by_cases hr : rep many (X.take (X.length / many)) = X
      · have hmm := per_many hXn hp (by omega) hd hr
        rw [decide_eq_true hr]
        have := ih many (l ++ [O.lst ((X.take (X.length / many)).map dRun)] ++ [O.lst ((rep many (X.take (X.length / many))).map dRun)]) (some (.int many)) (some (.int (X.length / many : Nat))) (fun hh => by omega)
        simp only [List.append_assoc, List.cons_append] at this ⊢
        exact this
      · rw [decide_eq_false hr]
        have := ih best (l ++ [O.lst ((X.take (X.length / many)).map dRun)] ++ [O.lst ((rep many (X.take (X.length / many))).map dRun)]) (some (.int many)) (some (.int (X.length / many : Nat))) (fun hh => by
          by_cases hm : m = many
          · subst hm
            exact absurd (many_per hXn hp).2.1 hr
          · exact h4 (by omega))
        simp only [List.append_assoc, List.cons_append] at this ⊢
        exact this
    · rw [if_neg (fun hh => hd ⟨X.length / many, by
        rw [← Int.natCast_mul] at hh
        rw [Nat.mul_comm]
        omega⟩)]
      exact ih best l _ _ (fun hh => by
        by_cases hm : m = many
        · subst hm
          exact absurd (many_per hXn hp).1 hd
        · exact h4 (by omega))
theorem read__law_root_exponent : ∀ ds st Q, Wf st → D.lts st.length ds → sp__law_root_exponent ds st Q → r__law_root_exponent st.length { nx := fun _ st' => Ret st.length Q .non st', rt := Ret st.length Q } (dstart N__law_root_exponent ds) st := by
  intro ds st Q wf wl h
  obtain ⟨c, p, m, rfl, hn, hc, hs, hp, q⟩ := h
  unfold r__law_root_exponent N__law_root_exponent
  have hl := len_spelled c
  have hcn : spelled c ≠ [] := fun hh => hn ((spelled_nil_iff hc).mp hh)
  have hpos : 0 < (spelled c).length := List.length_pos_iff.mpr hcn
  walk_at "p"
  refine ⟨c, rfl, by omega, ?_⟩
  rw [← hl] at hs
  clear hl
  walk_at "p"
  refine ⟨⟨by omega, by omega, by omega, by omega⟩, ?_⟩
  have key := lp__law_root_exponent (S := st) (n := st.length + 1) (x0 := some (dW c)) (d := {
        nx :=
          dRet (dVar 2) (List.length st)
            { nx := fun x st' => Ret (List.length st) Q D.non st', rt := Ret (List.length st) Q },
        rt := Ret (List.length st) Q }) hs hcn hp (fun l x y => by
          walk_at "d"
          exact ret_app rfl wf trivial q) ((((spelled c).length : Int) + 1 - 2).toNat) 2 1 [] none none (by decide) (by omega) (fun hm => by
            have := (many_per hcn hp).2.2
            omega)
  exact key

theorem len__law_root_exponent : ∀ ds s Q, sp__law_root_exponent ds s Q → ds.length = 1 := by
  intro ds s Q h
  unfold sp__law_root_exponent at h
  repeat (obtain ⟨_, h⟩ := h)
  subst_vars
  rfl
/-! _law_alphabet -/
abbrev N__law_alphabet : List Str := ["pool", "most", "names", "depth", "far", "near", "rows", "k", "row", "j", "height", "place"]
def g__law_alphabet_1 : DTG := (dgName 9)
def b__law_alphabet_1 : DTS :=
  (dGc (dSeq (dSet 10 (dOp dIx (dLst (dCons (dOp dSub (dC (.int 0)) (dC (.int 2))) (dCons (dOp dSub (dC (.int 0)) (dC (.int 1))) (dCons (dC (.int 0)) (dCons (dC (.int 2)) (dCons (dC (.int 10)) dNil)))))) (dCall sp__law_draw (dCons (dVar 0) (dCons (dC (.int 5)) dNil)))))
  (dSeq (dIfS (dB (dOp dEq (dVar 4) (dC (.int 1)))) (dSet 10 (dOp dSub (dCall sp__law_draw (dCons (dVar 0) (dCons (dC (.int 1999999999)) dNil))) (dC (.int 999999999)))) dNext)
  (dDrop (dBM dAppend (dVar 8) (dCons (dVar 10) dNil))))))
theorem ug__law_alphabet_1 {x env st Q} : g__law_alphabet_1 x env st Q = (dgName 9) x env st Q := rfl
theorem ub__law_alphabet_1 {n d env st} : b__law_alphabet_1 n d env st = (dGc (dSeq (dSet 10 (dOp dIx (dLst (dCons (dOp dSub (dC (.int 0)) (dC (.int 2))) (dCons (dOp dSub (dC (.int 0)) (dC (.int 1))) (dCons (dC (.int 0)) (dCons (dC (.int 2)) (dCons (dC (.int 10)) dNil)))))) (dCall sp__law_draw (dCons (dVar 0) (dCons (dC (.int 5)) dNil)))))
  (dSeq (dIfS (dB (dOp dEq (dVar 4) (dC (.int 1)))) (dSet 10 (dOp dSub (dCall sp__law_draw (dCons (dVar 0) (dCons (dC (.int 1999999999)) dNil))) (dC (.int 999999999)))) dNext)
  (dDrop (dBM dAppend (dVar 8) (dCons (dVar 10) dNil)))))) n d env st := rfl
def g__law_alphabet_0 : DTG := (dgName 7)
def b__law_alphabet_0 : DTS :=
  (dGc (dSeq (dSet 8 (dLst (dCons (dOp dIx (dVar 2) (dCall sp__law_draw (dCons (dVar 0) (dCons (dC (.int 26)) dNil)))) dNil)))
  (dSeq (dFor (dRng1 (dCons (dVar 3) dNil)) g__law_alphabet_1 b__law_alphabet_1)
  (dSeq (dIfS (dAnd (dB (dOp dEq (dVar 5) (dC (.int 1)))) (dB (dOp dGt (dCB dLen (dCons (dVar 6) dNil)) (dC (.int 0))))) (dSeq (dSet 11 (dCall sp__law_draw (dCons (dVar 0) (dCons (dOp dAdd (dVar 3) (dC (.int 1))) dNil))))
  (dSet 8 (dOp dAdd (dOp dAdd (dCB dListOf (dCons (dSlice (dOp dIx (dVar 6) (dC (.int 0))) dNoPart (dPart (dVar 11))) dNil)) (dLst (dCons (dOp dIx (dVar 8) (dVar 11)) dNil))) (dCB dListOf (dCons (dSlice (dOp dIx (dVar 6) (dC (.int 0))) (dPart (dOp dAdd (dVar 11) (dC (.int 1)))) dNoPart) dNil))))) dNext)
  (dIfS (dB (dOp dNotIn (dCB dTupleOf (dCons (dVar 8) dNil)) (dVar 6))) (dDrop (dBM dAppend (dVar 6) (dCons (dCB dTupleOf (dCons (dVar 8) dNil)) dNil))) dNext)))))
theorem ug__law_alphabet_0 {x env st Q} : g__law_alphabet_0 x env st Q = (dgName 7) x env st Q := rfl
theorem ub__law_alphabet_0 {n d env st} : b__law_alphabet_0 n d env st = (dGc (dSeq (dSet 8 (dLst (dCons (dOp dIx (dVar 2) (dCall sp__law_draw (dCons (dVar 0) (dCons (dC (.int 26)) dNil)))) dNil)))
  (dSeq (dFor (dRng1 (dCons (dVar 3) dNil)) g__law_alphabet_1 b__law_alphabet_1)
  (dSeq (dIfS (dAnd (dB (dOp dEq (dVar 5) (dC (.int 1)))) (dB (dOp dGt (dCB dLen (dCons (dVar 6) dNil)) (dC (.int 0))))) (dSeq (dSet 11 (dCall sp__law_draw (dCons (dVar 0) (dCons (dOp dAdd (dVar 3) (dC (.int 1))) dNil))))
  (dSet 8 (dOp dAdd (dOp dAdd (dCB dListOf (dCons (dSlice (dOp dIx (dVar 6) (dC (.int 0))) dNoPart (dPart (dVar 11))) dNil)) (dLst (dCons (dOp dIx (dVar 8) (dVar 11)) dNil))) (dCB dListOf (dCons (dSlice (dOp dIx (dVar 6) (dC (.int 0))) (dPart (dOp dAdd (dVar 11) (dC (.int 1)))) dNoPart) dNil))))) dNext)
  (dIfS (dB (dOp dNotIn (dCB dTupleOf (dCons (dVar 8) dNil)) (dVar 6))) (dDrop (dBM dAppend (dVar 6) (dCons (dCB dTupleOf (dCons (dVar 8) dNil)) dNil))) dNext))))) n d env st := rfl
def r__law_alphabet : DTS :=
  (dSeq (dSet 2 (dC (.str (Str.ofString "abcdefghijklmnopqrstuvwxyz"))))
  (dSeq (dSet 3 (dOp dIx (dLst (dCons (dC (.int 0)) (dCons (dC (.int 0)) (dCons (dC (.int 0)) (dCons (dC (.int 0)) (dCons (dC (.int 1)) (dCons (dC (.int 1)) (dCons (dC (.int 2)) (dCons (dC (.int 3)) (dCons (dC (.int 4)) dNil)))))))))) (dCall sp__law_draw (dCons (dVar 0) (dCons (dC (.int 9)) dNil)))))
  (dSeq (dSet 4 (dCall sp__law_draw (dCons (dVar 0) (dCons (dC (.int 3)) dNil))))
  (dSeq (dSet 5 (dCall sp__law_draw (dCons (dVar 0) (dCons (dC (.int 2)) dNil))))
  (dSeq (dSet 6 (dLst dNil))
  (dSeq (dFor (dRng1 (dCons (dOp dAdd (dC (.int 1)) (dCall sp__law_draw (dCons (dVar 0) (dCons (dVar 1) dNil)))) dNil)) g__law_alphabet_0 b__law_alphabet_0)
  (dRet (dVar 6))))))))
def Lok (dep : Nat) (l : Letter) : Prop := l.hs.length = dep ∧ 97 ≤ l.nm.val ∧ l.nm.val ≤ 122 ∧ ∀ h ∈ l.hs, -(10 ^ 9) < h ∧ h < 10 ^ 9
def Alpha (ls : List Letter) : Prop := ls.Nodup ∧ ∃ dep, dep ≤ 4 ∧ ∀ l ∈ ls, Lok dep l
def sp__law_alphabet : DSp := fun ds st Q => ∃ (k : Nat) (m : Int) (p : Pool), ds = [.ref k, .int m] ∧ st[k]? = some p.1 ∧ 0 < m ∧ m ≤ 1000 ∧ ∀ (ls : List Letter) (p' : Pool), ls ≠ [] → ls.length ≤ m.toNat → Alpha ls → Q (.ref st.length) (st.set k p'.1 ++ [.lst (ls.map dL)])
theorem names_at {st : Store} {v : Int} (h0 : 0 ≤ v) (h1 : v < 26) : ∃ c : Fin 128, 97 ≤ c.val ∧ c.val ≤ 122 ∧ dItem st (.str (Str.ofString "abcdefghijklmnopqrstuvwxyz")) v = some (.str ⟨#[c.val]⟩) := by
  obtain ⟨n, rfl⟩ : ∃ n : Nat, v = n := ⟨v.toNat, by omega⟩
  have h : n < 26 := by omega
  refine ⟨⟨97 + n, by omega⟩, by show 97 ≤ 97 + n; omega, by show 97 + n ≤ 122; omega, ?_⟩
  have hs : (Str.ofString "abcdefghijklmnopqrstuvwxyz").length ≤ sizeLine := by decide
  show (if (Str.ofString "abcdefghijklmnopqrstuvwxyz").length ≤ sizeLine then (atI (Str.ofString "abcdefghijklmnopqrstuvwxyz").cps.toList (n : Int)).map fun c => D.str ⟨#[c]⟩ else none) = _
  rw [if_pos hs]
  have key : ∀ n : Fin 26, (Str.ofString "abcdefghijklmnopqrstuvwxyz").cps.toList[n.val]? = some (97 + n.val) := by decide
  have hl : (Str.ofString "abcdefghijklmnopqrstuvwxyz").cps.toList.length = 26 := by decide
  rw [atI_nn (by omega) (by rw [hl]; omega), Int.toNat_natCast, key ⟨n, h⟩]
  rfl
/-- the row of heights -/
theorem lp1__law_alphabet {S : Store} {k : Nat} {m far near K : Int} {nmz : D} {dep : Nat} {c : Fin 128} {G : O} {ls : List Letter} {d : DEnds} (hk : k < S.length) (wf : Wf S) (hG : G.lt (S.length + 3)) (hpl : nmz.lt (S.length + 3))
    (h : ∀ (hs : List Int) (p : Pool) (x : Option D) (y : Option D) (l : Store), (∀ h ∈ hs, -(10 ^ 9) < h ∧ h < 10 ^ 9) → hs.length = dep → l.length ≤ 1 →
      d.nx [some (.ref k), some (.int m), some nmz, some (.int dep), some (.int far), some (.int near), some (.ref (S.length + 1)), some (.int K), some (.ref (S.length + 2)), x, y, none] (S.set k p.1 ++ G :: .lst (ls.map dL) :: .lst (.str ⟨#[c.val]⟩ :: hs.map D.int) :: l)) :
    ∀ (n : Nat) (i : Int) (hs : List Int) (p : Pool) (x y : Option D) (l : Store), hs.length + n = dep → dep ≤ 4 → (∀ h ∈ hs, -(10 ^ 9) < h ∧ h < 10 ^ 9) → l.length ≤ 1 →
      dLoop g__law_alphabet_1 b__law_alphabet_1 (S.length + 3) d (fun _ => True) (rangeD i n) [some (.ref k), some (.int m), some nmz, some (.int dep), some (.int far), some (.int near), some (.ref (S.length + 1)), some (.int K), some (.ref (S.length + 2)), x, y, none] (S.set k p.1 ++ G :: .lst (ls.map dL) :: .lst (.str ⟨#[c.val]⟩ :: hs.map D.int) :: l)
  | 0, i, hs, p, x, y, l, hn, hd, hb, hl => ⟨trivial, h hs p x y l hb hn hl⟩
  | n + 1, i, hs, p, x, y, l, hn, hd, hb, hl => by
    have ih := fun hs p x y l => lp1__law_alphabet (m := m) (far := far) (near := near) (K := K) hk wf hG hpl h n (i + 1) hs p x y l
    clear h
    refine ⟨trivial, ?_⟩
    rw [ug__law_alphabet_1]
    walk_at "d"
    rw [ub__law_alphabet_1]
    have dr := @draw_eq
    have e1 : ∀ p : Pool, S.set k p.1 ++ G :: .lst (ls.map dL) :: .lst (.str ⟨#[c.val]⟩ :: hs.map D.int) :: l = (S.set k p.1 ++ [G, .lst (ls.map dL), .lst (.str ⟨#[c.val]⟩ :: hs.map D.int)]) ++ l := fun p => by simp
    rw [e1]
    refine gc_drop (env0 := [some (.ref k), some (.int m), some nmz, some (.int dep), some (.int far), some (.int near), some (.ref (S.length + 1)), some (.int K), some (.ref (S.length + 2)), some (.int i), none, none]) (by simp) ?_ ?_ ?_
    · refine (wf.set p.lt).apps ?_
      intro o ho
      simp only [List.mem_cons, List.not_mem_nil, or_false] at ho
      rw [List.length_set]
      rcases ho with rfl | rfl | rfl
      · exact hG
      · exact lt_Ls ls
      · exact ⟨trivial, lt_ints hs⟩
    · have hpl' : nmz.lt (S.length + 3) := hpl
      simp [EnvOk, D.lt, hpl']
      omega
    clear e1
    have fin : ∀ (v : Int) (p : Pool) (y : Option D) (l : Store), -(10 ^ 9) < v → v < 10 ^ 9 → l.length ≤ 1 → hs.length + 1 < sizeLine ∧
      dLoop g__law_alphabet_1 b__law_alphabet_1 (S.length + 3) d (fun _ => True) (rangeD (i + 1) n) [some (.ref k), some (.int m), some nmz, some (.int dep), some (.int far), some (.int near), some (.ref (S.length + 1)), some (.int K), some (.ref (S.length + 2)), some (.int i), y, none] (S.set k p.1 ++ G :: .lst (ls.map dL) :: .lst (.str ⟨#[c.val]⟩ :: (hs ++ [v]).map D.int) :: l) := fun v p y l h1 h2 h3 =>
        ⟨small_line' (by omega), ih _ p _ y l (by rw [List.length_append, List.length_singleton]; omega) hd (fun x hx => by
          rcases List.mem_append.mp hx with hx | hx
          · exact hb x hx
          · rw [List.mem_singleton] at hx; subst hx; exact ⟨h1, h2⟩) h3⟩
    clear ih
    walk_at "p"
    refine ⟨by decide, by decide, by decide, fun v p1 h0 h1 => ?_⟩
    obtain ⟨z, hz, e⟩ := at_map (f := D.int) (xs := [0 - 2, 0 - 1, 0, 2, 10]) h0 h1
    simp only [List.map_cons, List.map_nil] at e
    simp only [e]
    have hz' : -(10 ^ 9) < z ∧ z < 10 ^ 9 := by
      simp at hz
      omega
    have e9 : (1999999999 : Int) ≤ 10 ^ 30 := by decide
    split
    · refine ⟨by decide, e9, fun v p2 h2 h3 => ?_⟩
      exact fin (v - 999999999) p2 _ _ (by omega) (by omega) (by exact Nat.le_refl 1)
    · rw [w_snoc]
      exact fin z p1 _ _ hz'.1 hz'.2 (by exact Nat.le_refl 1)
def lc (l : Letter) : List D := .str ⟨#[l.nm.val]⟩ :: l.hs.map D.int
theorem mix {dep : Nat} {l0 l1 : Letter} {j : Int} (h0 : 0 ≤ j) (h1 : j < dep + 1) (k0 : Lok dep l0) (k1 : Lok dep l1) : ∃ l2 y, Lok dep l2 ∧ atI (lc l1) j = some y ∧ (lc l0).take j.toNat ++ y :: (lc l0).drop (j + 1).toNat = lc l2 := by
  obtain ⟨n0, hs0⟩ := l0
  obtain ⟨n1, hs1⟩ := l1
  obtain ⟨a1, a2, a3, a4⟩ := k0
  obtain ⟨b1, b2, b3, b4⟩ := k1
  dsimp only at a1 a2 a3 a4 b1 b2 b3 b4
  obtain ⟨n, rfl⟩ : ∃ n : Nat, j = n := ⟨j.toNat, by omega⟩
  have hn : n < dep + 1 := by omega
  have e0 : atI (lc ⟨n1, hs1⟩) (n : Int) = (lc ⟨n1, hs1⟩)[n]? := by
    rw [atI_nn h0 (by unfold lc; rw [List.length_cons, List.length_map, b1]; omega), Int.toNat_natCast]
  rw [e0, Int.toNat_natCast, show ((n : Int) + 1).toNat = n + 1 by omega]
  cases n with
  | zero => exact ⟨⟨n1, hs0⟩, _, ⟨a1, b2, b3, a4⟩, rfl, rfl⟩
  | succ n =>
    have hn0 : n < hs0.length := by omega
    have hn1 : n < hs1.length := by omega
    refine ⟨⟨n0, hs0.set n hs1[n]⟩, .int hs1[n], ⟨by rw [List.length_set]; exact a1, a2, a3, fun h hh => ?_⟩, ?_, ?_⟩
    · rcases List.mem_or_eq_of_mem_set hh with hh | rfl
      · exact a4 h hh
      · exact b4 _ (List.getElem_mem hn1)
    · unfold lc
      rw [List.getElem?_cons_succ, List.getElem?_map, List.getElem?_eq_getElem hn1]
      rfl
    · unfold lc
      rw [List.take_succ_cons, List.drop_succ_cons, ← List.map_take, ← List.map_drop, List.set_eq_take_append_cons_drop, if_pos hn0, List.map_append, List.map_cons, List.cons_append]
theorem lp0__law_alphabet {S : Store} {k : Nat} {m far near : Int} {dep : Nat} {G : O} {d : DEnds} (hk : k < S.length) (wf : Wf S) (hG : ∀ n, G.lt n) (hd : dep ≤ 4) (hm : m ≤ 1000)
    (h : ∀ (ls : List Letter) (p : Pool) (a b c d' e : Option D) (l : Store), ls.length ≤ m.toNat → ls ≠ [] → ls.Nodup → (∀ l ∈ ls, Lok dep l) →
      d.nx [some (.ref k), some (.int m), some (.str (Str.ofString "abcdefghijklmnopqrstuvwxyz")), some (.int dep), some (.int far), some (.int near), some (.ref (S.length + 1)), a, b, c, d', e] (S.set k p.1 ++ G :: .lst (ls.map dL) :: l)) :
    ∀ (n : Nat) (i : Int) (ls : List Letter) (p : Pool) (a b c d' e : Option D) (l : Store), ls.length + n ≤ m.toNat → (n = 0 → ls ≠ []) → ls.Nodup → (∀ l ∈ ls, Lok dep l) →
      dLoop g__law_alphabet_0 b__law_alphabet_0 (S.length + 2) d (fun _ => True) (rangeD i n) [some (.ref k), some (.int m), some (.str (Str.ofString "abcdefghijklmnopqrstuvwxyz")), some (.int dep), some (.int far), some (.int near), some (.ref (S.length + 1)), a, b, c, d', e] (S.set k p.1 ++ G :: .lst (ls.map dL) :: l)
  | 0, i, ls, p, a, b, c, d', e, l, hn, h0, hN, hL => ⟨trivial, h ls p a b c d' e l hn (h0 rfl) hN hL⟩
  | n + 1, i, ls, p, a, b, c, d', e, l, hn, h0, hN, hL => by
    have ih := fun ls p a b c d' e l => lp0__law_alphabet (far := far) (near := near) hk wf hG hd hm h n (i + 1) ls p a b c d' e l
    clear h
    refine ⟨trivial, ?_⟩
    rw [ug__law_alphabet_0]
    walk_at "d"
    rw [ub__law_alphabet_0]
    have dr := @draw_eq
    have e1 : ∀ p : Pool, S.set k p.1 ++ G :: .lst (ls.map dL) :: l = (S.set k p.1 ++ [G, .lst (ls.map dL)]) ++ l := fun p => by simp
    rw [e1]
    refine gc_drop (env0 := [some (.ref k), some (.int m), some (.str (Str.ofString "abcdefghijklmnopqrstuvwxyz")), some (.int dep), some (.int far), some (.int near), some (.ref (S.length + 1)), some (.int i), none, none, none, none]) (by simp) ?_ ?_ ?_
    · refine (wf.set p.lt).apps ?_
      intro o ho
      simp only [List.mem_cons, List.not_mem_nil, or_false] at ho
      rw [List.length_set]
      rcases ho with rfl | rfl
      · exact hG _
      · exact lt_Ls ls
    · simp [EnvOk, D.lt]
      omega
    clear e1
    have fin : ∀ (x : Letter) (p : Pool) (a b c d' : Option D) (l : Store), Lok dep x → if ¬ x ∈ ls then ls.length < sizeLine ∧ dLoop g__law_alphabet_0 b__law_alphabet_0 (S.length + 2) d (fun _ => True) (rangeD (i + 1) n) [some (.ref k), some (.int m), some (.str (Str.ofString "abcdefghijklmnopqrstuvwxyz")), some (.int dep), some (.int far), some (.int near), some (.ref (S.length + 1)), some (.int i), a, b, c, d'] (S.set k p.1 ++ G :: .lst ((ls ++ [x]).map dL) :: l)
      else dLoop g__law_alphabet_0 b__law_alphabet_0 (S.length + 2) d (fun _ => True) (rangeD (i + 1) n) [some (.ref k), some (.int m), some (.str (Str.ofString "abcdefghijklmnopqrstuvwxyz")), some (.int dep), some (.int far), some (.int near), some (.ref (S.length + 1)), some (.int i), a, b, c, d'] (S.set k p.1 ++ G :: .lst (ls.map dL) :: l) := by
      intro x p a b c d' l hx
      split
      · rename_i hm1
        refine ⟨small_line' (by omega), ih _ _ _ _ _ _ _ _ (by rw [List.length_append, List.length_singleton]; omega) (fun _ => by simp) ?_ ?_⟩
        · rw [List.nodup_append]
          refine ⟨hN, by simp, fun a ha b hb => ?_⟩
          rw [List.mem_singleton] at hb
          subst hb
          rintro rfl
          exact hm1 ha
        · intro y hy
          rcases List.mem_append.mp hy with hy | hy
          · exact hL y hy
          · rw [List.mem_singleton] at hy; subst hy; exact hx
      · rename_i hm1
        refine ih _ _ _ _ _ _ _ _ (by omega) (fun _ he => ?_) hN hL
        subst he
        exact hm1 (by simp)
    clear ih
    have hmem : ∀ (p : Pool) l x, dMem (S.set k p.1 ++ G :: .lst (ls.map dL) :: l) (dL x) (.ref (S.length + 1)) = some (decide (x ∈ ls)) := fun p l x => mem_L p_gets1
    walk_at "p"
    refine ⟨by decide, by decide, fun v p1 h1 h2 => ?_⟩
    obtain ⟨c, hc1, hc2, hc⟩ := names_at (st := S.set k p1.1 ++ [G, .lst (ls.map dL)]) h1 h2
    simp only [hc]
    refine ⟨by decide, ⟨by omega, by omega⟩, ?_⟩
    refine lp1__law_alphabet (c := c) (nmz := .str (Str.ofString "abcdefghijklmnopqrstuvwxyz")) hk wf (hG _) trivial ?_ _ 0 [] p1 _ _ [] (by simp) hd (by simp) (by simp)
    intro hs p2 x y l hb hlen hl
    have hx : Lok dep ⟨c, hs⟩ := ⟨hlen, hc1, hc2, hb⟩
    have e2 : (.str ⟨#[c.val]⟩ :: hs.map D.int : List D) = lc ⟨c, hs⟩ := rfl
    rw [e2]
    have e3 : ∀ x, D.tup (lc x) = dL x := fun _ => rfl
    have e4 : ∀ x lo hi st Q, dSl (dL x) lo hi st Q = Q (.tup (cutD (lc x) lo hi)) st := fun _ _ _ _ _ => rfl
    have e5 : ∀ x st Q, dTupleOf [dL x] st Q = Q (dL x) st := fun _ _ _ => rfl
    generalize Letter.mk c hs = x1 at hx
    clear e2 hb hlen
    by_cases hnr : near = 1 ∧ 0 < ls.length
    · obtain ⟨hn1, hl0⟩ := hnr
      subst hn1
      have nn : (0 : Int) < (ls.length : Int) := by omega
      obtain ⟨x0, hm0, e0⟩ := at_map (f := dL) (xs := ls) (v := 0) (by omega) nn
      have hx0 := hL x0 hm0
      have b3 : (1001 : Int) ≤ 10 ^ 30 := by decide
      have ll : ∀ x, Lok dep x → (lc x).length = dep + 1 := fun x hx => by unfold lc; rw [List.length_cons, List.length_map, hx.1]
      have go : ∀ (v : Int), 0 ≤ v → v < dep + 1 → ∃ l2 y, Lok dep l2 ∧ atI (lc x1) v = some y ∧ cutD (lc x0) none (some v) = (lc x0).take v.toNat ∧ cutD (lc x0) (some (v + 1)) none = (lc x0).drop (v + 1).toNat ∧ (lc x0).take v.toNat ++ y :: (lc x0).drop (v + 1).toNat = lc l2 ∧ ((lc x0).take v.toNat).length + 1 ≤ sizeLine ∧ ((lc x0).take v.toNat).length + 1 + ((lc x0).drop (v + 1).toNat).length ≤ sizeLine := by
        intro v h1 h2
        obtain ⟨l2, y, k1, k2, k3⟩ := mix h1 h2 hx0 hx
        refine ⟨l2, y, k1, k2, cut_toI h1, cut_fromI (by omega), k3, small_line ?_, small_line ?_⟩
        · rw [List.length_take, ll x0 hx0]; omega
        · rw [List.length_take, List.length_drop, ll x0 hx0]; omega
      have z1 : 1 ≤ sizeLine := by decide
      rcases l with _ | ⟨q1, _ | ⟨q2, l⟩⟩
      · walk_at "p"
        refine ⟨by omega, by omega, fun v p3 h3 h4 => ?_⟩
        obtain ⟨l2, y, k1, k2, k3, k4, k5, k6, k7⟩ := go v h3 h4
        have fin' := fun a b c d l => fin l2 p3 a b c d l k1
        clear fin go
        walk_at "p"
        rw [← Nat.add_assoc]
        exact k7
      · walk_at "p"
        refine ⟨by omega, by omega, fun v p3 h3 h4 => ?_⟩
        obtain ⟨l2, y, k1, k2, k3, k4, k5, k6, k7⟩ := go v h3 h4
        have fin' := fun a b c d l => fin l2 p3 a b c d l k1
        clear fin go
        walk_at "p"
        rw [← Nat.add_assoc]
        exact k7
      · simp at hl
    · have fin' := fin x1 p2 (some (.ref (S.length + 2))) x y none (.lst (lc x1) :: l) hx
      clear fin
      walk_at "p"
      split
      · split
        · exact absurd ⟨by assumption, by omega⟩ hnr
        · trivial
      · trivial
theorem read__law_alphabet : ∀ ds st Q, Wf st → D.lts st.length ds → sp__law_alphabet ds st Q → r__law_alphabet st.length { nx := fun _ st' => Ret st.length Q .non st', rt := Ret st.length Q } (dstart N__law_alphabet ds) st := by
  intro ds st Q wf wl h
  obtain ⟨k, m, p, rfl, hp, hm0, hm, q⟩ := h
  have hk := lt_of_get hp
  have dr := @draw_eq
  unfold r__law_alphabet N__law_alphabet
  walk_at "p"
  have b3 : (1001 : Int) ≤ 10 ^ 30 := by decide
  refine ⟨by decide, by decide, by omega, fun v p1 h0 h1 => ?_⟩
  obtain ⟨z, hz, e⟩ := at_map (f := D.int) (xs := [0, 0, 0, 0, 1, 1, 2, 3, 4]) h0 h1
  simp only [List.map_cons, List.map_nil] at e
  simp only [e]
  obtain ⟨dep, rfl, hdep⟩ : ∃ dep : Nat, z = dep ∧ dep ≤ 4 := by
    simp at hz
    exact ⟨z.toNat, by omega, by omega⟩
  refine ⟨by decide, by omega, fun far p2 h2 h3 => ⟨by decide, by omega, fun near p3 h4 h5 => ⟨Nat.zero_le _, by omega, fun v p4 h6 h7 => ⟨⟨by omega, by omega⟩, ?_⟩⟩⟩⟩
  refine lp0__law_alphabet (G := .lst ([0, 0, 0, 0, 1, 1, 2, 3, 4].map D.int)) hk wf (fun n => lt_ints _) hdep hm ?_ _ 0 [] p4 _ _ _ _ _ [] (by simp; omega) (by omega) (by simp) (by simp)
  intro ls p5 a b c d' e l a1 a2 a3 a4
  walk_at "p"
  exact ret_cell (by rw [List.length_set]) (wf.set p5.lt) (by rw [List.length_set]; omega) p_gets1 (lt_Ls ls) (q ls p5 a2 a1 ⟨a3, dep, hdep, a4⟩)
theorem len__law_alphabet : ∀ ds s Q, sp__law_alphabet ds s Q → ds.length = 2 := by
  intro ds s Q ⟨u, v, w, e, _⟩
  subst e
  rfl

/-! _law_power_is -/
abbrev N__law_power_is : List Str := ["actual", "due"]

def r__law_power_is : DTS :=
  (dSeq (dIfS (dB (dOp dIsN (dVar 1) (dC .non))) (dRet (dOp dIsN (dVar 0) (dC .non))) dNext)
  (dRet (dAndV (dCall sp__law_is_whole (dCons (dVar 0) dNil)) (dOp dEq (dVar 0) (dVar 1)))))
def sp__law_power_is : DSp := fun ds st Q => ((∃ k : Int, ds = [.int k, .int k]) ∨ ds = [.non, .non]) ∧ Q (.bl true) st
theorem len__law_power_is : ∀ ds s Q, sp__law_power_is ds s Q → ds.length = 2 := by
  intro ds s Q ⟨h, _⟩
  rcases h with ⟨k, e⟩ | e <;> subst e <;> rfl
theorem read__law_power_is : ∀ ds st Q, Wf st → D.lts st.length ds → sp__law_power_is ds st Q → r__law_power_is st.length { nx := fun _ st' => Ret st.length Q .non st', rt := Ret st.length Q } (dstart N__law_power_is ds) st := by
  intro ds st Q wf wl h
  obtain ⟨h, q⟩ := h
  unfold r__law_power_is N__law_power_is
  rcases h with ⟨k, rfl⟩ | rfl
  · walk_at "d"
    refine ⟨k, rfl, ?_⟩
    walk_at "d"
    exact ret_eq rfl wf trivial q
  · walk_at "d"
    exact ret_eq rfl wf trivial q

/-! conjugated -/
abbrev N_conjugated : List Str := ["word", "by"]

def r_conjugated : DTS :=
  (dRet (dCall sp_multiply_all (dCons (dLst (dCons (dVar 1) (dCons (dVar 0) (dCons (dCall sp_inverse (dCons (dVar 1) dNil)) dNil)))) dNil)))
def sp_conjugated : DSp := fun ds st Q => ∃ (w t : Word), ds = [dW w, dW t] ∧ w.length + 2 * t.length ≤ 1000000 ∧ Q (dW (red (t ++ (w ++ inv t)))) st
theorem len_conjugated : ∀ ds s Q, sp_conjugated ds s Q → ds.length = 2 := by
  intro ds s Q ⟨u, v, e, _⟩
  subst e
  rfl
theorem read_conjugated : ∀ ds st Q, Wf st → D.lts st.length ds → sp_conjugated ds st Q → r_conjugated st.length { nx := fun _ st' => Ret st.length Q .non st', rt := Ret st.length Q } (dstart N_conjugated ds) st := by
  intro ds st Q wf wl h
  obtain ⟨w, t, rfl, hl, q⟩ := h
  unfold r_conjugated N_conjugated
  walk_at "d"
  refine ⟨t, rfl, by omega, ?_⟩
  walk_at "d"
  refine ⟨by decide, _, [t, w, inv t], rfl, w_items_ref get_end, ?_, ?_⟩
  · simp only [List.flatten_cons, List.flatten_nil, List.append_nil, List.length_append, len_inv]
    omega
  · simp only [List.flatten_cons, List.flatten_nil, List.append_nil]
    exact ret_app rfl wf lt_W q

/-! exponent_of -/
abbrev N_exponent_of : List Str := ["word", "base", "base_outer", "base_core", "outer", "core", "count", "rest", "exponent"]
def g_exponent_of_0 : DTG := (dgName 8)
def b_exponent_of_0 : DTS :=
  (dIfS (dB (dOp dEq (dCall sp_power (dCons (dVar 3) (dCons (dVar 8) dNil))) (dVar 5))) (dRet (dVar 8)) dNext)
theorem ug_exponent_of_0 {x env st Q} : g_exponent_of_0 x env st Q = (dgName 8) x env st Q := rfl
theorem ub_exponent_of_0 {n d env st} : b_exponent_of_0 n d env st = (dIfS (dB (dOp dEq (dCall sp_power (dCons (dVar 3) (dCons (dVar 8) dNil))) (dVar 5))) (dRet (dVar 8)) dNext) n d env st := rfl
def r_exponent_of : DTS :=
  (dSeq (dIfS (dB (dOp dEq (dVar 0) (dTup dNil))) (dRet (dC (.int 0))) dNext)
  (dSeq (dAsg (dCall sp_core_of (dCons (dVar 1) dNil)) (dgTup 2 (dgCons (dgName 2) (dgCons (dgName 3) dgNil))))
  (dSeq (dAsg (dCall sp_core_of (dCons (dVar 0) dNil)) (dgTup 2 (dgCons (dgName 4) (dgCons (dgName 5) dgNil))))
  (dSeq (dAsg (dCB dDivmod (dCons (dCall sp_length (dCons (dVar 5) dNil)) (dCons (dCall sp_length (dCons (dVar 3) dNil)) dNil))) (dgTup 2 (dgCons (dgName 6) (dgCons (dgName 7) dgNil))))
  (dSeq (dIfS (dOr (dB (dOp dNe (dVar 4) (dVar 2))) (dB (dOp dNe (dVar 7) (dC (.int 0))))) (dRet (dC .non)) dNext)
  (dSeq (dIfS (dAnd (dB (dOp dGt (dCB dLen (dCons (dVar 3) dNil)) (dC (.int 1)))) (dB (dOp dGt (dVar 6) (dCB dLen (dCons (dVar 5) dNil))))) (dRet (dC .non)) dNext)
  (dSeq (dFor (dIter (dTup (dCons (dVar 6) (dCons (dUn dNeg (dVar 6)) dNil)))) g_exponent_of_0 b_exponent_of_0)
  (dRet (dC .non)))))))))
def sp_exponent_of : DSp := fun ds st Q => ∃ (w b : Word), ds = [dW w, dW b] ∧ Red w ∧ Red b ∧ b ≠ [] ∧ size w ≤ 1000 ∧ size b ≤ 1000 ∧ (∀ k : Int, pw b k = w → Q (.int k) st) ∧ ((∀ k : Int, pw b k ≠ w) → Q .non st)
theorem rep_runs {c : Word} (hr : Red c) (hc : cycb c = true) (h2 : 2 ≤ c.length) : ∀ n, n ≤ (red (rep n c)).length
  | 0 => Nat.zero_le _
  | 1 => by
    have : rep 1 c = c := rep_one c
    rw [this, red_of hr]
    omega
  | n + 2 => by
    have hn : c ≠ [] := by
      rintro rfl
      simp at h2
    have ih := rep_runs hr hc h2 (n + 1)
    obtain ⟨f, B, e1, e2⟩ := rep_cyc hr hc hn n
    rw [rep_succ, ← red_app_red, e1]
    rw [e1, List.length_cons] at ih
    obtain ⟨x, mid, y, hxy⟩ := ends h2
    have hh : c.head hn = x := by
      subst hxy
      rfl
    rw [hh] at e1 e2 ⊢
    rw [hxy, cycb_ends] at hc
    have hA : Red ((x :: mid) ++ [y]) := by rw [List.cons_append, ← hxy]; exact hr
    have hB : Red ((x.1, f) :: B) := by rw [← e1]; exact Red.red
    have ec : c = (x :: mid) ++ [y] := by rw [hxy]; rfl
    by_cases hxy1 : x.1 = y.1
    · have hs : (0 < x.2 ↔ 0 < y.2) := by
        simp only [hxy1, ne_eq, not_true_eq_false, decide_false, Bool.false_or, beq_iff_eq, decide_eq_decide] at hc
        exact hc
      have hx0 : x.2 ≠ 0 := hA.left.1
      have hy0 : y.2 ≠ 0 := hA.right.1
      have hf0 : f ≠ 0 := hB.1
      have e3 : c ++ (x.1, f) :: B = (x :: mid) ++ (y.1, y.2) :: (y.1, f) :: B := by rw [ec, hxy1]; simp
      rw [hxy1] at hB
      have e4 : Red ((x :: mid) ++ (y.1, y.2 + f) :: B) := Red.mid (e := y.2) (f := f) hA hB (by omega)
      rw [e3, meet_eq, red_of e4, List.length_append, List.length_cons, List.length_cons]
      omega
    · have e4 : Red (((x :: mid) ++ [y]) ++ (x.1, f) :: B) := Red.app hA hB fun a b ha hb => by
        rw [List.getLast?_concat] at ha
        cases ha
        cases hb
        exact fun z => hxy1 z.symm
      rw [ec, red_of e4, List.length_append, List.length_append, List.length_cons, List.length_singleton, List.length_cons]
      omega
theorem pw_runs {c : Word} (hr : Red c) (hc : cycb c = true) (h2 : 2 ≤ c.length) (e : Int) : e.natAbs ≤ (pw c e).length := by
  unfold pw
  split
  · exact rep_runs hr hc h2 _
  · refine rep_runs hr.inv ?_ (by rw [len_inv]; exact h2) _
    refine fr_cyc hr.inv ?_
    rw [spelled_inv hr.nz]
    exact cyc_inv (cyc_fr hr hc)
theorem read_exponent_of : ∀ ds st Q, Wf st → D.lts st.length ds → sp_exponent_of ds st Q → r_exponent_of st.length { nx := fun _ st' => Ret st.length Q .non st', rt := Ret st.length Q } (dstart N_exponent_of ds) st := by
  intro ds st Q wf wl h
  obtain ⟨w, b, rfl, hw, hb, hn, hs, hs2, q1, q2⟩ := h
  have lw := len_le hw
  have lb := len_le hb
  unfold r_exponent_of N_exponent_of
  have e0 : D.tup [] = dW [] := rfl
  walk_at "p"
  refine ⟨by decide, ?_⟩
  by_cases hwn : w = []
  · rw [if_pos hwn]
    exact ret_eq rfl wf trivial (q1 0 (by rw [hwn]; exact pw_zero b))
  · rw [if_neg hwn]
    refine ⟨b, rfl, hb, by omega, fun o c hc h1 h2 => ?_⟩
    walk_at "p"
    refine ⟨w, rfl, hw, by omega, fun o' c' hc' h1' h2' => ?_⟩
    walk_at "p"
    refine ⟨c', rfl, by omega, c, rfl, by omega, ?_⟩
    walk_at "p"
    have hcn : c ≠ [] := core_ne hc hn
    have hcs : 0 < size c := size_pos hc.rc hcn
    have hsz := hc.sz
    have hsz' := hc'.sz
    have fwd : ∀ k : Int, pw b k = w → o' = o ∧ c' = pw c k ∧ size c' = k.natAbs * size c := fun k hk => by
      have k0 : k ≠ 0 := by
        rintro rfl
        rw [pw_zero] at hk
        exact hwn hk.symm
      have h3 := core_pw hc hcn k0
      rw [hk] at h3
      obtain ⟨a1, a2⟩ := core_unique hc' h3
      exact ⟨a1, a2, by rw [a2, size_pw_cyc hc.rc hc.cy]⟩
    have bwd : ∀ e : Int, o' = o → pw c e = c' → pw b e = w := fun e a1 a2 => by
      rw [← hc.eq, pw_conj, a2, ← a1, hc'.eq]
    refine ⟨⟨by omega, by omega⟩, ?_⟩
    by_cases ho : o' = o
    · rw [if_neg (fun h => h ho)]
      by_cases hm : ((size c' : Nat) : Int) % (size c : Nat) = 0
      · rw [if_neg (fun h => h hm)]
        obtain ⟨cnt, hcnt⟩ : ∃ cnt : Nat, size c' = cnt * size c := by
          have : size c ∣ size c' := Nat.dvd_of_mod_eq_zero (by rw [← Int.natCast_emod] at hm; omega)
          obtain ⟨t, ht⟩ := this
          exact ⟨t, by rw [ht, Nat.mul_comm]⟩
        have hdv : ((size c' : Nat) : Int) / (size c : Nat) = (cnt : Int) := by
          rw [hcnt, Int.natCast_mul, Int.mul_ediv_cancel _ (by omega)]
        have abs : ∀ k : Int, pw b k = w → k.natAbs = cnt := fun k hk => by
          have h3 := (fwd k hk).2.2
          rw [hcnt] at h3
          exact (Nat.eq_of_mul_eq_mul_right hcs h3).symm
        have hc1000 : cnt ≤ 1000 := by
          have : cnt ≤ cnt * size c := Nat.le_mul_of_pos_right cnt hcs
          omega
        rw [hdv]
        have loop : dLoop g_exponent_of_0 b_exponent_of_0 (List.length st)
                {
                  nx :=
                    dRet (dC D.non) (List.length st)
                      { nx := fun x st' => Ret (List.length st) Q D.non st', rt := Ret (List.length st) Q },
                  rt := Ret (List.length st) Q }
                (okOf (D.tup [D.int cnt, D.int (-cnt)])
                  [D.int cnt, D.int (-cnt)])
                [D.int cnt, D.int (-cnt)]
                [some (dW w), some (dW b), some (dW o), some (dW c), some (dW o'), some (dW c'),
                  some (D.int cnt), some (D.int (((size c' : Nat) : Int) % (size c : Nat))), none]
                st := by
          refine ⟨trivial, ?_⟩
          rw [ug_exponent_of_0]
          walk_at "d"
          rw [ub_exponent_of_0]
          walk_at "d"
          refine ⟨c, cnt, rfl, hc.rc, by omega, by omega, .inr ⟨by omega, by omega⟩, ?_⟩
          walk_at "d"
          split
          · rename_i e
            exact ret_eq rfl wf trivial (q1 _ (bwd _ ho e))
          · rename_i e
            refine ⟨trivial, ?_⟩
            rw [ug_exponent_of_0]
            walk_at "d"
            rw [ub_exponent_of_0]
            walk_at "d"
            refine ⟨c, -cnt, rfl, hc.rc, by omega, by omega, .inr ⟨by omega, by omega⟩, ?_⟩
            walk_at "d"
            split
            · rename_i e'
              exact ret_eq rfl wf trivial (q1 _ (bwd _ ho e'))
            · rename_i e'
              refine ⟨trivial, ?_⟩
              walk_at "d"
              refine ret_eq rfl wf trivial (q2 fun k hk => ?_)
              have h3 := abs k hk
              have h4 := (fwd k hk).2.1
              have : k = cnt ∨ k = -(cnt : Int) := by omega
              rcases this with rfl | rfl
              · exact e h4.symm
              · exact e' h4.symm
        split
        · rename_i hlen
          split
          · rename_i hlt
            refine ret_eq rfl wf trivial (q2 fun k hk => ?_)
            have h3 := pw_runs hc.rc hc.cy (by omega) k
            rw [← (fwd k hk).2.1, abs k hk] at h3
            omega
          · exact ⟨by decide, loop⟩
        · exact ⟨by decide, loop⟩
      · rw [if_pos hm]
        refine ret_eq rfl wf trivial (q2 fun k hk => hm ?_)
        rw [(fwd k hk).2.2, Int.natCast_mul, Int.mul_emod_left]
    · rw [if_pos ho]
      exact ret_eq rfl wf trivial (q2 fun k hk => ho (fwd k hk).1)

theorem len_exponent_of : ∀ ds s Q, sp_exponent_of ds s Q → ds.length = 2 := by
  intro ds s Q h
  unfold sp_exponent_of at h
  repeat (obtain ⟨_, h⟩ := h)
  subst_vars
  rfl
/-! _law_is_word -/
abbrev N__law_is_word : List Str := ["value", "last", "run"]
def g__law_is_word_0 : DTG := (dgName 2)
def b__law_is_word_0 : DTS :=
  (dSeq (dIfS (dOr (dNot (dTruth (dCB dIsi (dCons (dVar 2) (dCons (dC (.ty "tuple")) dNil))))) (dB (dOp dNe (dCB dLen (dCons (dVar 2) dNil)) (dC (.int 2))))) (dRet (dC (.bl false))) dNext)
  (dSeq (dIfS (dOr (dNot (dTruth (dCall sp__law_is_letter (dCons (dOp dIx (dVar 2) (dC (.int 0))) dNil)))) (dNot (dTruth (dCall sp__law_is_whole (dCons (dOp dIx (dVar 2) (dC (.int 1))) dNil))))) (dRet (dC (.bl false))) dNext)
  (dSeq (dIfS (dOr (dB (dOp dEq (dOp dIx (dVar 2) (dC (.int 1))) (dC (.int 0)))) (dB (dOp dEq (dOp dIx (dVar 2) (dC (.int 0))) (dVar 1)))) (dRet (dC (.bl false))) dNext)
  (dSet 1 (dOp dIx (dVar 2) (dC (.int 0)))))))
theorem ug__law_is_word_0 {x env st Q} : g__law_is_word_0 x env st Q = (dgName 2) x env st Q := rfl
theorem ub__law_is_word_0 {n d env st} : b__law_is_word_0 n d env st = (dSeq (dIfS (dOr (dNot (dTruth (dCB dIsi (dCons (dVar 2) (dCons (dC (.ty "tuple")) dNil))))) (dB (dOp dNe (dCB dLen (dCons (dVar 2) dNil)) (dC (.int 2))))) (dRet (dC (.bl false))) dNext)
  (dSeq (dIfS (dOr (dNot (dTruth (dCall sp__law_is_letter (dCons (dOp dIx (dVar 2) (dC (.int 0))) dNil)))) (dNot (dTruth (dCall sp__law_is_whole (dCons (dOp dIx (dVar 2) (dC (.int 1))) dNil))))) (dRet (dC (.bl false))) dNext)
  (dSeq (dIfS (dOr (dB (dOp dEq (dOp dIx (dVar 2) (dC (.int 1))) (dC (.int 0)))) (dB (dOp dEq (dOp dIx (dVar 2) (dC (.int 0))) (dVar 1)))) (dRet (dC (.bl false))) dNext)
  (dSet 1 (dOp dIx (dVar 2) (dC (.int 0))))))) n d env st := rfl
def r__law_is_word : DTS :=
  (dSeq (dIfS (dNot (dTruth (dCB dIsi (dCons (dVar 0) (dCons (dC (.ty "tuple")) dNil))))) (dRet (dC (.bl false))) dNext)
  (dSeq (dSet 1 (dTup dNil))
  (dSeq (dFor (dIter (dVar 0)) g__law_is_word_0 b__law_is_word_0)
  (dRet (dC (.bl true))))))
def sp__law_is_word : DSp := fun ds st Q => ∃ (w : Word), ds = [dW w] ∧ Red w ∧ Q (.bl true) st
theorem lp__law_is_word {m : Nat} {d : DEnds} {x : D} {st : Store} {ok : Store → Prop} (hok : ok st) : ∀ (w : Word) (y : D) (a : Option D), Red w → (∀ r ∈ w.head?, dEqv st (dL r.1) y = some false) → (∀ y a, d.nx [some x, some y, a] st) →
    dLoop g__law_is_word_0 b__law_is_word_0 m d ok (w.map dRun) [some x, some y, a] st
  | [], y, a, hr, hy, h => ⟨hok, h _ _⟩
  | (l, e) :: w, y, a, hr, hy, h => by
    have h1 := hy (l, e) rfl
    have he : e ≠ 0 := hr.1
    refine ⟨hok, ?_⟩
    rw [ug__law_is_word_0]
    walk_at "d"
    rw [ub__law_is_word_0]
    walk_at "d"
    have h2 : dLen [dRun (l, e)] st = fun Q => Q (.int 2) st := rfl
    simp only [h2]
    walk_at "d"
    refine ⟨l, rfl, ?_⟩
    walk_at "d"
    refine ⟨e, rfl, ?_⟩
    walk_at "d"
    rw [if_neg he]
    simp only [h1]
    walk_at "d"
    refine lp__law_is_word hok w _ _ hr.2.2 (fun r hr' => ?_) h
    rw [dEqv_L]
    have := hr.2.1 r hr'
    simpa using this
theorem read__law_is_word : ∀ ds st Q, Wf st → D.lts st.length ds → sp__law_is_word ds st Q → r__law_is_word st.length { nx := fun _ st' => Ret st.length Q .non st', rt := Ret st.length Q } (dstart N__law_is_word ds) st := by
  intro ds st Q wf wl h
  obtain ⟨w, rfl, hr, q⟩ := h
  unfold r__law_is_word N__law_is_word
  walk_at "d"
  refine ⟨Nat.zero_le _, lp__law_is_word trivial w _ _ hr (fun r _ => dEqv_L0 _) fun y a => ?_⟩
  walk_at "d"
  exact ret_eq rfl wf trivial q

theorem len__law_is_word : ∀ ds s Q, sp__law_is_word ds s Q → ds.length = 1 := by
  intro ds s Q h
  unfold sp__law_is_word at h
  repeat (obtain ⟨_, h⟩ := h)
  subst_vars
  rfl
/-! _law_between -/
abbrev N__law_between : List Str := ["outer", "inner"]

def r__law_between : DTS :=
  (dRet (dCall sp__law_join (dCons (dCall sp__law_join (dCons (dVar 0) (dCons (dVar 1) dNil))) (dCons (dCall sp__law_back (dCons (dVar 0) dNil)) dNil))))
def sp__law_between : DSp := fun ds st Q => ∃ (o w : Word), ds = [dW o, dW w] ∧ w.length + 2 * o.length ≤ 100000 ∧ Q (dW (red (o ++ (w ++ inv o)))) st
theorem len__law_between : ∀ ds s Q, sp__law_between ds s Q → ds.length = 2 := by
  intro ds s Q ⟨u, v, e, _⟩
  subst e
  rfl
theorem read__law_between : ∀ ds st Q, Wf st → D.lts st.length ds → sp__law_between ds st Q → r__law_between st.length { nx := fun _ st' => Ret st.length Q .non st', rt := Ret st.length Q } (dstart N__law_between ds) st := by
  intro ds st Q wf wl h
  obtain ⟨t, w, rfl, hl, q⟩ := h
  unfold r__law_between N__law_between
  walk_at "d"
  have h1 := len_red (t ++ w)
  rw [List.length_append] at h1
  refine ⟨_, _, t, w, rfl, .W, .W, by omega, _, t, rfl, .W, by omega, _, _, red (t ++ w), inv t, rfl, .W, .W, by rw [len_inv]; omega, ?_⟩
  rw [red_red_app, List.append_assoc]
  exact ret_eq rfl wf lt_W q

/-! _law_base -/
abbrev N__law_base : List Str := ["pool", "alphabet", "rooted", "way"]

def r__law_base : DTS :=
  (dSeq (dSet 3 (dCall sp__law_draw (dCons (dVar 0) (dCons (dC (.int 5)) dNil))))
  (dSeq (dIfS (dB (dOp dEq (dVar 3) (dC (.int 1)))) (dRet (dVar 2)) dNext)
  (dSeq (dIfS (dB (dOp dEq (dVar 3) (dC (.int 2)))) (dRet (dCall sp__law_join (dCons (dVar 2) (dCons (dVar 2) dNil)))) dNext)
  (dSeq (dIfS (dB (dOp dEq (dVar 3) (dC (.int 3)))) (dRet (dCall sp__law_back (dCons (dVar 2) dNil))) dNext)
  (dSeq (dIfS (dB (dOp dEq (dVar 3) (dC (.int 4)))) (dRet (dTup (dCons (dTup (dCons (dOp dIx (dVar 1) (dCall sp__law_draw (dCons (dVar 0) (dCons (dCB dLen (dCons (dVar 1) dNil)) dNil)))) (dCons (dOp dSub (dC (.int 1)) (dOp dMul (dC (.int 2)) (dCall sp__law_draw (dCons (dVar 0) (dCons (dC (.int 2)) dNil))))) dNil))) dNil))) dNext)
  (dRet (dCall sp__law_full (dCons (dVar 0) (dCons (dVar 1) (dCons (dOp dAdd (dC (.int 1)) (dCall sp__law_draw (dCons (dVar 0) (dCons (dC (.int 12)) dNil)))) dNil))))))))))
def sp__law_base : DSp := fun ds st Q => ∃ (k a : Nat) (ls : List Letter) (r : Word) (p : Pool), ds = [.ref k, .ref a, dW r] ∧ st[k]? = some p.1 ∧ st[a]? = some (.lst (ls.map dL)) ∧
  ls ≠ [] ∧ ls.length ≤ 1000 ∧ Red r ∧ r ≠ [] ∧ size r ≤ 100 ∧ ∀ (b : Word) (p' : Pool), Red b → b ≠ [] → size b ≤ 200 → Q (dW b) (st.set k p'.1)
theorem read__law_base : ∀ ds st Q, Wf st → D.lts st.length ds → sp__law_base ds st Q → r__law_base st.length { nx := fun _ st' => Ret st.length Q .non st', rt := Ret st.length Q } (dstart N__law_base ds) st := by
  intro ds st Q wf wl h
  obtain ⟨k, a, ls, r, p, rfl, hp, ha, hls, hll, hr, hrn, hrs, q⟩ := h
  have hk := lt_of_get hp
  have ha' := lt_of_get ha
  have hka := pool_ne hp ha dL_ne
  have dr := @draw_eq
  have b3 : (1002 : Int) ≤ 10 ^ 30 := by decide
  have fin : ∀ (b : Word) (p : Pool), Red b → b ≠ [] → size b ≤ 200 → Ret st.length Q (dW b) (st.set k p.1) := fun b p h1 h2 h3 => ret_eq (by rw [List.length_set]) (wf.set p.lt) lt_W (q b p h1 h2 h3)
  unfold r__law_base N__law_base
  walk_at "p"
  refine ⟨by decide, by decide, fun v p1 v0 v1 => ?_⟩
  have lr := len_le hr
  split
  · exact fin r p1 hr hrn (by omega)
  · split
    · refine ⟨_, _, r, r, rfl, .W, .W, by omega, ?_⟩
      have e : red (r ++ r) = pw r 2 := by
        have := pw_add r 1 1
        rw [pw_one hr] at this
        exact this
      refine fin _ p1 Red.red (by rw [e]; exact pw_ne hr hrn (by decide)) ?_
      have := size_red (r ++ r)
      rw [size_app] at this
      omega
    · split
      · refine ⟨_, r, rfl, .W, by omega, fin _ p1 hr.inv (fun hh => hrn ?_) (by rw [size_inv]; omega)⟩
        have := congrArg Wd.inv hh
        rw [inv_inv] at this
        exact this
      · split
        · have hl0 : 0 < ls.length := List.length_pos_iff.mpr hls
          refine ⟨by omega, by omega, fun j p2 j0 j1 => ?_⟩
          obtain ⟨l, hl1, e1⟩ := at_map (f := dL) (xs := ls) j0 j1
          simp only [e1]
          refine ⟨by decide, by decide, fun s p3 s0 s1 => ⟨CMulA.left (by decide) (by decide), by decide, by decide, ?_⟩⟩
          exact fin [(l, 1 - 2 * s)] p3 ⟨by show 1 - 2 * s ≠ 0; omega, by simp, trivial⟩ (by simp) (by rw [size_cons, size_nil]; show (1 - 2 * s).natAbs + 0 ≤ 200; omega)
        · refine ⟨by decide, by decide, fun j p2 j0 j1 => ?_⟩
          refine ⟨k, a, ls, 1 + j, p2, rfl, List.getElem?_set_self hk, by rw [List.getElem?_set_ne hka]; exact ha, hls, hll, by omega, by omega, fun c p3 c1 c2 c3 c4 => ?_⟩
          rw [List.set_set]
          refine fin c p3 c1 (fun hh => ?_) (by omega)
          rw [hh, size_nil] at c3
          omega

theorem len__law_base : ∀ ds s Q, sp__law_base ds s Q → ds.length = 3 := by
  intro ds s Q h
  unfold sp__law_base at h
  repeat (obtain ⟨_, h⟩ := h)
  subst_vars
  rfl
/-! _law_power_due -/
abbrev N__law_power_due : List Str := ["word", "base", "made", "k"]
def g__law_power_due_0 : DTG := (dgName 3)
def b__law_power_due_0 : DTS :=
  (dSeq (dIfS (dB (dOp dEq (dVar 2) (dVar 0))) (dRet (dVar 3)) dNext)
  (dSeq (dIfS (dB (dOp dEq (dVar 2) (dCall sp__law_back (dCons (dVar 0) dNil)))) (dRet (dOp dSub (dC (.int 0)) (dVar 3))) dNext)
  (dSeq (dIfS (dB (dOp dGt (dCall sp__law_size (dCons (dVar 2) dNil)) (dCall sp__law_size (dCons (dVar 0) dNil)))) (dRet (dC .non)) dNext)
  (dSet 2 (dCall sp__law_join (dCons (dVar 2) (dCons (dVar 1) dNil)))))))
theorem ug__law_power_due_0 {x env st Q} : g__law_power_due_0 x env st Q = (dgName 3) x env st Q := rfl
theorem ub__law_power_due_0 {n d env st} : b__law_power_due_0 n d env st = (dSeq (dIfS (dB (dOp dEq (dVar 2) (dVar 0))) (dRet (dVar 3)) dNext)
  (dSeq (dIfS (dB (dOp dEq (dVar 2) (dCall sp__law_back (dCons (dVar 0) dNil)))) (dRet (dOp dSub (dC (.int 0)) (dVar 3))) dNext)
  (dSeq (dIfS (dB (dOp dGt (dCall sp__law_size (dCons (dVar 2) dNil)) (dCall sp__law_size (dCons (dVar 0) dNil)))) (dRet (dC .non)) dNext)
  (dSet 2 (dCall sp__law_join (dCons (dVar 2) (dCons (dVar 1) dNil))))))) n d env st := rfl
def r__law_power_due : DTS :=
  (dSeq (dSet 2 (dTup dNil))
  (dSeq (dFor (dRng1 (dCons (dC (.int 62)) dNil)) g__law_power_due_0 b__law_power_due_0)
  (dRet (dC .non))))
def sp__law_power_due : DSp := fun ds st Q => ∃ (w b : Word), ds = [dW w, dW b] ∧ Red w ∧ Red b ∧ b ≠ [] ∧ size w ≤ 1000 ∧ size b ≤ 1000 ∧ (∀ k : Int, pw b k = w → k.natAbs ≤ 61) ∧ (∀ k : Int, pw b k = w → Q (.int k) st) ∧ ((∀ k : Int, pw b k ≠ w) → Q .non st)
theorem lp__law_power_due {S : Store} {w b o c : Word} (hw : Red w) (hb : Red b) (hc : Core b o c) (hn : b ≠ []) (hs : size w ≤ 1000) (hs2 : size b ≤ 1000) (hk : ∀ k : Int, pw b k = w → k.natAbs ≤ 61) {n : Nat} {d : DEnds}
    (h : (∀ k : Int, pw b k ≠ w) → ∀ x y, d.nx [some (dW w), some (dW b), x, y] S) (h1 : ∀ k : Int, pw b k = w → d.rt (.int k) S) (h2 : (∀ k : Int, pw b k ≠ w) → d.rt .non S) :
    ∀ (g k : Nat) x, k + g = 62 → (∀ j : Int, j.natAbs < k → pw b j ≠ w) → dLoop g__law_power_due_0 b__law_power_due_0 n d (fun _ => True) (rangeD k g) [some (dW w), some (dW b), some (dW (pw b k)), x] S
  | 0, k, x, hg, hj => ⟨trivial, h (fun j hh => hj j (by have := hk j hh; omega) hh) _ _⟩
  | g + 1, k, x, hg, hj => by
    refine ⟨trivial, ?_⟩
    have ih := lp__law_power_due (n := n) hw hb hc hn hs hs2 hk h h1 h2 g (k + 1)
    clear h
    have lw := len_le hw
    have lb := len_le hb
    have hcn := core_ne hc hn
    have hsz := hc.sz
    have hss : size (pw b k) ≤ 2 * size o + k * size c := by
      by_cases h0 : k = 0
      · subst h0
        exact Nat.zero_le _
      · have := size_pw_core hc hcn (e := (k : Int)) (by omega)
        rw [Int.natAbs_natCast] at this
        omega
    have hkc : k * size c ≤ 61 * 1000 := Nat.mul_le_mul (by omega) (by omega)
    have lm := len_le (w := pw b k) Red.pw
    rw [ug__law_power_due_0]
    walk_at "d"
    rw [ub__law_power_due_0]
    walk_at "d"
    have hinv : pw b (-(k : Int)) = inv (pw b k) := inv_of Red.pw Red.pw (by rw [pw_add, show -(k : Int) + k = 0 by omega, pw_zero])
    split
    · rename_i e
      exact h1 _ e
    · rename_i e1
      refine ⟨_, w, rfl, .W, by omega, ?_⟩
      walk_at "d"
      split
      · rename_i e2
        refine h1 _ ?_
        rw [show (0 : Int) - k = -(k : Int) by omega, hinv, e2, inv_inv]
      · rename_i e2
        have hj' : ∀ j : Int, j.natAbs < k + 1 → pw b j ≠ w := fun j hh e => by
          by_cases hlt : j.natAbs < k
          · exact hj j hlt e
          · have : j = k ∨ j = -(k : Int) := by omega
            rcases this with rfl | rfl
            · exact e1 e
            · refine e2 ?_
              rw [← e, hinv, inv_inv]
        refine ⟨_, rfl, by omega, ?_⟩
        refine ⟨_, rfl, by omega, ?_⟩
        walk_at "d"
        split
        · rename_i hgt
          refine h2 fun j e => ?_
          have hkj : ¬ j.natAbs < k + 1 := fun hh => hj' j hh e
          have h5 := size_pw_core hc hcn (e := j) (by omega)
          rw [e] at h5
          have h6 : k * size c ≤ j.natAbs * size c := Nat.mul_le_mul_right _ (by omega)
          omega
        · refine ⟨_, _, pw b k, b, rfl, .W, .W, by omega, ?_⟩
          have e3 : red (pw b k ++ b) = pw b ((k + 1 : Nat) : Int) := by
            have := pw_add b k 1
            rw [pw_one hb] at this
            rw [this]
            rfl
          rw [e3]
          exact ih _ (by omega) hj'
theorem read__law_power_due : ∀ ds st Q, Wf st → D.lts st.length ds → sp__law_power_due ds st Q → r__law_power_due st.length { nx := fun _ st' => Ret st.length Q .non st', rt := Ret st.length Q } (dstart N__law_power_due ds) st := by
  intro ds st Q wf wl h
  obtain ⟨w, b, rfl, hw, hb, hn, hs, hs2, hk, q1, q2⟩ := h
  have hsub : b ≠ [] := hn
  unfold r__law_power_due N__law_power_due
  have e0 : D.tup [] = dW (pw b (0 : Nat)) := rfl
  walk_at "d"
  obtain ⟨o, c, hc⟩ := core_ex b.length b [] b (Nat.le_refl _) hb (by simp [inv])
  refine ⟨by decide, by decide, ?_⟩
  rw [e0]
  have f1 : ∀ k : Int, pw b k = w → Ret st.length Q (.int k) st := fun k e => ret_eq rfl wf trivial (q1 k e)
  have f2 : (∀ k : Int, pw b k ≠ w) → Ret st.length Q .non st := fun e => ret_eq rfl wf trivial (q2 e)
  refine lp__law_power_due hw hb hc hn hs hs2 hk (fun hN x y => ?_) f1 f2 62 0 none rfl (fun j hh => absurd hh (Nat.not_lt_zero _))
  walk_at "d"
  exact f2 hN

theorem len__law_power_due : ∀ ds s Q, sp__law_power_due ds s Q → ds.length = 2 := by
  intro ds s Q h
  unfold sp__law_power_due at h
  repeat (obtain ⟨_, h⟩ := h)
  subst_vars
  rfl
/-! _law_second -/
abbrev N__law_second : List Str := ["pool", "alphabet", "first", "rooted", "way", "rows", "letter", "made", "place"]
def t__law_second_4 : DTS :=
  (dSeq (dIfS (dB (dOp dGt (dCall sp__law_size (dCons (dVar 7) dNil)) (dC (.int 60)))) (dRet (dTup dNil)) dNext)
  (dRet (dVar 7)))
theorem ut__law_second_4 {n d env st} : t__law_second_4 n d env st = (dSeq (dIfS (dB (dOp dGt (dCall sp__law_size (dCons (dVar 7) dNil)) (dC (.int 60)))) (dRet (dTup dNil)) dNext)
  (dRet (dVar 7))) n d env st := rfl
def r__law_second : DTS :=
  (dSeq (dSet 4 (dCall sp__law_draw (dCons (dVar 0) (dCons (dC (.int 9)) dNil))))
  (dSeq (dSet 5 (dCall sp__law_spelled (dCons (dVar 2) dNil)))
  (dSeq (dSet 6 (dTup (dCons (dOp dIx (dVar 1) (dCall sp__law_draw (dCons (dVar 0) (dCons (dCB dLen (dCons (dVar 1) dNil)) dNil)))) (dCons (dOp dSub (dC (.int 1)) (dOp dMul (dC (.int 2)) (dCall sp__law_draw (dCons (dVar 0) (dCons (dC (.int 2)) dNil))))) dNil))))
  (dSeq (dIfS (dB (dOp dLt (dVar 4) (dC (.int 3)))) (dSet 7 (dCall sp__law_times (dCons (dVar 3) (dCons (dOp dSub (dCall sp__law_draw (dCons (dVar 0) (dCons (dC (.int 9)) dNil))) (dC (.int 4))) dNil)))) (dIfS (dB (dOp dEq (dVar 4) (dC (.int 3)))) (dSet 7 (dCall sp__law_reduce (dCons (dOp dAdd (dVar 5) (dLst (dCons (dVar 6) dNil))) dNil))) (dIfS (dB (dOp dEq (dVar 4) (dC (.int 4)))) (dSet 7 (dCall sp__law_reduce (dCons (dOp dAdd (dLst (dCons (dVar 6) dNil)) (dVar 5)) dNil))) (dIfS (dAnd (dB (dOp dEq (dVar 4) (dC (.int 5)))) (dB (dOp dGt (dCB dLen (dCons (dVar 5) dNil)) (dC (.int 1))))) (dSeq (dSet 8 (dCall sp__law_draw (dCons (dVar 0) (dCons (dOp dSub (dCB dLen (dCons (dVar 5) dNil)) (dC (.int 1))) dNil))))
  (dSet 7 (dCall sp__law_reduce (dCons (dOp dAdd (dOp dAdd (dSlice (dVar 5) dNoPart (dPart (dVar 8))) (dLst (dCons (dOp dIx (dVar 5) (dOp dAdd (dVar 8) (dC (.int 1)))) (dCons (dOp dIx (dVar 5) (dVar 8)) dNil)))) (dSlice (dVar 5) (dPart (dOp dAdd (dVar 8) (dC (.int 2)))) dNoPart)) dNil)))) (dIfS (dB (dOp dEq (dVar 4) (dC (.int 6)))) (dSet 7 (dOp dIx (dCall sp__law_core (dCons (dVar 2) dNil)) (dC (.int 1)))) (dIfS (dB (dOp dEq (dVar 4) (dC (.int 7)))) (dSet 7 (dCall sp__law_between (dCons (dCall sp__law_full (dCons (dVar 0) (dCons (dVar 1) (dCons (dOp dAdd (dC (.int 1)) (dCall sp__law_draw (dCons (dVar 0) (dCons (dC (.int 3)) dNil)))) dNil)))) (dCons (dVar 2) dNil)))) (dSet 7 (dCall sp__law_full (dCons (dVar 0) (dCons (dVar 1) (dCons (dCall sp__law_draw (dCons (dVar 0) (dCons (dC (.int 61)) dNil))) dNil)))))))))))
  t__law_second_4))))
def sp__law_second : DSp := fun ds st Q => ∃ (k a : Nat) (ls : List Letter) (f r : Word) (p : Pool), ds = [.ref k, .ref a, dW f, dW r] ∧ st[k]? = some p.1 ∧ st[a]? = some (.lst (ls.map dL)) ∧
  ls ≠ [] ∧ ls.length ≤ 1000 ∧ Red f ∧ size f ≤ 200 ∧ Red r ∧ size r ≤ 100 ∧ ∀ (b : Word) (p' : Pool), Red b → size b ≤ 60 → Q (dW b) (st.set k p'.1)
theorem tl4_second {st : Store} {Q : DQ} {k : Nat} {p : Pool} {M : Word} {x0 x1 x2 x3 x4 x5 x6 x8 : Option D} (wf : Wf st) (hM : Red M) (hMl : M.length ≤ 100000) (q : ∀ (b : Word) (p' : Pool), Red b → size b ≤ 60 → Q (dW b) (st.set k p'.1)) (l : Store) :
    t__law_second_4 st.length { nx := fun _ st' => Ret st.length Q .non st', rt := Ret st.length Q } [x0, x1, x2, x3, x4, x5, x6, some (dW M), x8] (st.set k p.1 ++ l) := by
  rw [ut__law_second_4]
  have e0 : D.tup [] = dW [] := rfl
  walk_at "d"
  refine ⟨M, rfl, by omega, ?_⟩
  walk_at "d"
  split
  · rw [e0]
    exact ⟨by decide, ret_app (by rw [List.length_set]) (wf.set p.lt) lt_W (q [] p trivial (Nat.zero_le _))⟩
  · exact ret_app (by rw [List.length_set]) (wf.set p.lt) lt_W (q M p hM (by omega))
theorem read__law_second : ∀ ds st Q, Wf st → D.lts st.length ds → sp__law_second ds st Q → r__law_second st.length { nx := fun _ st' => Ret st.length Q .non st', rt := Ret st.length Q } (dstart N__law_second ds) st := by
  intro ds st Q wf wl h
  obtain ⟨k, a, ls, f, r, p, rfl, hp, ha, hls, hll, hf, hfs, hr, hrs, q⟩ := h
  have hk := lt_of_get hp
  have ha' := lt_of_get ha
  have hka := pool_ne hp ha dL_ne
  have dr := @draw_eq
  have b3 : (1002 : Int) ≤ 10 ^ 30 := by decide
  have lf := len_spelled f
  have fin := fun (p : Pool) (M : Word) x0 x1 x2 x3 x4 x5 x6 x8 h1 h2 l => tl4_second (k := k) (p := p) (M := M) (x0 := x0) (x1 := x1) (x2 := x2) (x3 := x3) (x4 := x4) (x5 := x5) (x6 := x6) (x8 := x8) wf h1 h2 q l
  have lr := len_le hr
  have lf' := len_le hf
  have gk : ∀ p : Pool, (st.set k p.1)[k]? = some p.1 := fun p => List.getElem?_set_self hk
  have ga : ∀ p : Pool, (st.set k p.1)[a]? = some (.lst (ls.map dL)) := fun p => by rw [List.getElem?_set_ne hka]; exact ha
  clear q
  unfold r__law_second N__law_second
  walk_at "p"
  refine ⟨by decide, by decide, fun v p1 v0 v1 => ?_⟩
  refine ⟨f, rfl, by omega, ?_⟩
  walk_at "p"
  have hl0 : 0 < ls.length := List.length_pos_iff.mpr hls
  refine ⟨by omega, by omega, fun j p2 j0 j1 => ?_⟩
  obtain ⟨lt, hl1, e1⟩ := at_map (f := dL) (xs := ls) j0 j1
  simp only [e1]
  refine ⟨by decide, by decide, fun s p3 s0 s1 => ⟨CMulA.left (by decide) (by decide), by decide, ?_⟩⟩
  have hX : (spelled f).length ≤ 200 := by omega
  have full : ∀ (n : Int), 0 ≤ n → n ≤ 1000 → ∀ (p : Pool) (l : Store) Q', (∀ (w : Word) (p' : Pool), Red w → w.length ≤ n.toNat → Q' (dW w) (st.set k p'.1 ++ l)) → sp__law_full [D.ref k, D.ref a, D.int n] (st.set k p.1 ++ l) Q' := fun n n0 n1 p l Q' q => ⟨k, a, ls, n, p, rfl, get_app (gk _), get_app (ga _), hls, hll, n0, by omega, fun w p' w1 w2 w3 w4 => by
    rw [p_setapp (by rw [List.length_set]; exact hk), List.set_set]
    exact q w p' w1 w2⟩
  have rest : if v = 6 then
        sp__law_core [dW f] (List.set st k p3.val ++ [O.lst (List.map dRun (spelled f))]) fun x st1 =>
          match dItem st1 x 1 with
          | some d => t__law_second_4 (List.length st) { nx := fun x st' => Ret (List.length st) Q D.non st', rt := Ret (List.length st) Q } [some (D.ref k), some (D.ref a), some (dW f), some (dW r), some (D.int v), some (D.ref (List.length st)), some (D.tup [dL lt, D.int (1 - 2 * s)]), some d, none] st1
          | none => False
      else
        if v = 7 then
          (0 : Int) < 3 ∧ (3 : Int) ≤ 10 ^ 30 ∧ ∀ (v_1 : Int) (p' : Pool), 0 ≤ v_1 → v_1 < 3 →
            sp__law_full [D.ref k, D.ref a, D.int (1 + v_1)] (List.set st k p'.val ++ [O.lst (List.map dRun (spelled f))]) fun x st1 =>
              sp__law_between [x, dW f] st1 fun x_1 st1 => t__law_second_4 (List.length st) { nx := fun x st' => Ret (List.length st) Q D.non st', rt := Ret (List.length st) Q } [some (D.ref k), some (D.ref a), some (dW f), some (dW r), some (D.int v), some (D.ref (List.length st)), some (D.tup [dL lt, D.int (1 - 2 * s)]), some x_1, none] st1
        else
          (0 : Int) < 61 ∧ (61 : Int) ≤ 10 ^ 30 ∧ ∀ (v_1 : Int) (p' : Pool), 0 ≤ v_1 → v_1 < 61 →
            sp__law_full [D.ref k, D.ref a, D.int v_1] (List.set st k p'.val ++ [O.lst (List.map dRun (spelled f))]) fun x st1 =>
              t__law_second_4 (List.length st) { nx := fun x st' => Ret (List.length st) Q D.non st', rt := Ret (List.length st) Q } [some (D.ref k), some (D.ref a), some (dW f), some (dW r), some (D.int v), some (D.ref (List.length st)), some (D.tup [dL lt, D.int (1 - 2 * s)]), some x, none] st1 := by
    split
    · refine ⟨f, rfl, hf, by omega, fun o c hc => ?_⟩
      walk_at "d"
      have := hc.sz
      have lc := len_le hc.rc
      exact fin p3 c _ _ _ _ _ _ _ _ hc.rc (by omega) _
    · split
      · refine ⟨by decide, by decide, fun z p4 z0 z1 => ?_⟩
        refine full _ (by omega) (by omega) _ _ _ fun w p5 w1 w2 => ?_
        refine ⟨w, f, rfl, by omega, ?_⟩
        have l1 := len_red (w ++ (f ++ inv w))
        rw [List.length_append, List.length_append, len_inv] at l1
        exact fin p5 _ _ _ _ _ _ _ _ _ Red.red (by omega) _
      · refine ⟨by decide, by decide, fun z p4 z0 z1 => ?_⟩
        refine full _ (by omega) (by omega) _ _ _ fun w p5 w1 w2 => ?_
        exact fin p5 _ _ _ _ _ _ _ _ _ w1 (by omega) _
  have rd : ∀ (Y : Word) (l : Store) (i : Nat) x5 x6 x8, Y.length ≤ 1000 → (st.set k p3.1 ++ l)[i]? = some (.lst (Y.map dRun)) → sp__law_reduce [.ref i] (st.set k p3.1 ++ l) fun x st1 => t__law_second_4 (List.length st) { nx := fun x st' => Ret (List.length st) Q D.non st', rt := Ret (List.length st) Q } [some (D.ref k), some (D.ref a), some (dW f), some (dW r), some (D.int v), x5, x6, some x, x8] st1 := fun Y l i x5 x6 x8 h1 h2 => by
    refine ⟨_, Y, rfl, w_items_ref h2, by omega, ?_⟩
    have := len_red Y
    exact fin p3 _ _ _ _ _ _ _ _ _ Red.red (by omega) _
  split
  · refine ⟨by decide, by decide, fun z p4 z0 z1 => ?_⟩
    have e1 : (z - 4).natAbs ≤ 4 := by omega
    have e2 : (z - 4).natAbs * r.length ≤ 4 * 100 := Nat.mul_le_mul e1 (by omega)
    refine ⟨r, z - 4, rfl, by omega, by omega, by omega, ?_⟩
    have l3 := len_pw r (z - 4)
    exact fin p4 _ _ _ _ _ _ _ _ _ Red.pw (by omega) _
  · split
    · refine ⟨by decide, small_line (by omega), ?_⟩
      rw [tup_run, w_snoc]
      exact rd _ _ _ _ _ _ (by rw [List.length_append, List.length_singleton]; omega) p_gets2
    · split
      · refine ⟨by decide, small_line (by omega), ?_⟩
        have : D.tup [dL lt, D.int (1 - 2 * s)] :: (spelled f).map dRun = ((lt, 1 - 2 * s) :: spelled f).map dRun := rfl
        rw [this]
        exact rd _ _ _ _ _ _ (by rw [List.length_cons]; omega) p_gets2
      · split
        · split
          · refine ⟨by omega, by omega, fun z p4 z0 z1 => ?_⟩
            obtain ⟨i, rfl⟩ : ∃ i : Nat, z = i := ⟨z.toNat, by omega⟩
            have g1 : (spelled f)[i]? = some ((spelled f)[i]'(by omega)) := List.getElem?_eq_getElem (by omega)
            have g2 : (spelled f)[i + 1]? = some ((spelled f)[i + 1]'(by omega)) := List.getElem?_eq_getElem (by omega)
            have g1' := at_run g1
            have g2' := at_run g2
            rw [show ((i + 1 : Nat) : Int) = (i : Int) + 1 by omega] at g2'
            simp only [g1', g2', cut_to, cut_fromI (show (0 : Int) ≤ (i : Int) + 2 by omega), ← List.map_take, ← List.map_drop, List.length_map, List.length_take, List.length_drop]
            refine ⟨by decide, small_line (by omega), small_line (by omega), ?_⟩
            generalize (spelled f)[i]'(by omega) = A at *
            generalize (spelled f)[i + 1]'(by omega) = B at *
            have : List.map dRun ((spelled f).take i) ++ dRun B :: dRun A :: List.map dRun ((spelled f).drop ((i : Int) + 2).toNat) = ((spelled f).take i ++ B :: A :: (spelled f).drop ((i : Int) + 2).toNat).map dRun := by simp
            rw [this]
            refine ⟨_, (spelled f).take i ++ B :: A :: (spelled f).drop ((i : Int) + 2).toNat, rfl, w_items_ref p_gets5, by simp only [List.length_append, List.length_cons, List.length_take, List.length_drop]; omega, ?_⟩
            have := len_red ((spelled f).take i ++ B :: A :: (spelled f).drop ((i : Int) + 2).toNat)
            simp only [List.length_append, List.length_cons, List.length_take, List.length_drop] at this
            exact fin p4 _ _ _ _ _ _ _ _ _ Red.red (by omega) _
          · exact rest
        · exact rest

theorem len__law_second : ∀ ds s Q, sp__law_second ds s Q → ds.length = 4 := by
  intro ds s Q h
  unfold sp__law_second at h
  repeat (obtain ⟨_, h⟩ := h)
  subst_vars
  rfl
/-! _law_rooted -/
abbrev N__law_rooted : List Str := ["word", "told"]

def r__law_rooted : DTS :=
  (dSeq (dIfS (dOr (dNot (dTruth (dCB dIsi (dCons (dVar 1) (dCons (dC (.ty "tuple")) dNil))))) (dB (dOp dNe (dCB dLen (dCons (dVar 1) dNil)) (dC (.int 2))))) (dRet (dC (.bl false))) dNext)
  (dSeq (dIfS (dOr (dNot (dTruth (dCall sp__law_is_word (dCons (dOp dIx (dVar 1) (dC (.int 0))) dNil)))) (dNot (dTruth (dCall sp__law_is_whole (dCons (dOp dIx (dVar 1) (dC (.int 1))) dNil))))) (dRet (dC (.bl false))) dNext)
  (dSeq (dIfS (dB (dOp dNe (dOp dIx (dVar 1) (dC (.int 1))) (dCall sp__law_root_exponent (dCons (dOp dIx (dCall sp__law_core (dCons (dVar 0) dNil)) (dC (.int 1))) dNil)))) (dRet (dC (.bl false))) dNext)
  (dRet (dOp dEq (dCall sp__law_times (dCons (dOp dIx (dVar 1) (dC (.int 0))) (dCons (dOp dIx (dVar 1) (dC (.int 1))) dNil))) (dVar 0))))))
def sp__law_rooted : DSp := fun ds st Q => ∃ (w o c : Word) (p m : Nat), ds = [dW w, .tup [dW (rootW o c p), .int m]] ∧ Root w o c p m ∧ size w ≤ 1000 ∧ Q (.bl true) st
/-- how long the root is -/
theorem root_small {w o c : Word} {p m : Nat} (h : Root w o c p m) : (rootW o c p).length ≤ size w ∧ m ≤ size w ∧ size (rootW o c p) ≤ size w ∧ 0 < m := by
  have hsz := h.core.sz
  have lo := len_le h.core.ro
  have hl := len_spelled c
  have hp := h.per.len
  have hpos := h.per.pos
  have hm0 : 0 < m := (many_per h.cn h.per).2.2
  have hmp : m ≤ m * p := Nat.le_mul_of_pos_right m hpos
  have hs : size (rootW o c p) ≤ size w := by
    unfold rootW
    refine Nat.le_trans (size_red _) ?_
    rw [size_app, size_app, size_inv]
    have h1 := size_red ((spelled c).take p)
    have h2 : size ((spelled c).take p) ≤ size c := by
      rw [size_lt (fun r hr => Lt.spelled c r (List.mem_of_mem_take hr)), List.length_take]
      omega
    omega
  have := len_le (w := rootW o c p) Red.red
  exact ⟨by omega, by omega, hs, hm0⟩
theorem read__law_rooted : ∀ ds st Q, Wf st → D.lts st.length ds → sp__law_rooted ds st Q → r__law_rooted st.length { nx := fun _ st' => Ret st.length Q .non st', rt := Ret st.length Q } (dstart N__law_rooted ds) st := by
  intro ds st Q wf wl h
  obtain ⟨w, o, c, p, m, rfl, hr, hs, q⟩ := h
  unfold r__law_rooted N__law_rooted
  walk_at "p"
  obtain ⟨r1, r2, r3, r4⟩ := root_small hr
  have hw : Red w := by rw [← hr.core.eq]; exact Red.red
  have z2 : ¬ ¬ ((2 : Nat) : Int) = 2 := fun h => h rfl
  rw [if_neg z2]
  refine ⟨_, rfl, Red.red, ?_⟩
  walk_at "d"
  refine ⟨_, rfl, ?_⟩
  walk_at "d"
  refine ⟨w, rfl, hw, hs, fun o' c' hc' => ?_⟩
  obtain ⟨rfl, rfl⟩ := core_unique hr.core hc'
  walk_at "d"
  have hcs := hr.core.sz
  refine ⟨c, p, m, rfl, fun hh => hr.cn ((spelled_nil_iff hr.core.rc).mpr hh), hr.core.rc, by omega, hr.per, ?_⟩
  walk_at "d"
  have hmr : m * (rootW o c p).length ≤ 1000 * 1000 := Nat.mul_le_mul (by omega) (by omega)
  refine ⟨_, m, rfl, by omega, by omega, by rw [Int.natAbs_natCast]; omega, ?_⟩
  rw [hr.pw]
  walk_at "d"
  exact ret_eq rfl wf trivial q

theorem len__law_rooted : ∀ ds s Q, sp__law_rooted ds s Q → ds.length = 2 := by
  intro ds s Q h
  unfold sp__law_rooted at h
  repeat (obtain ⟨_, h⟩ := h)
  subst_vars
  rfl
/-! rotation -/
abbrev N_rotation : List Str := ["word", "count", "letters"]

def r_rotation : DTS :=
  (dSeq (dSet 2 (dListG sp_spell (dCons (dVar 0) dNil)))
  (dRet (dCall sp_reduced (dCons (dOp dAdd (dSlice (dVar 2) (dPart (dVar 1)) dNoPart) (dSlice (dVar 2) dNoPart (dPart (dVar 1)))) dNil))))
def sp_rotation : DSp := fun ds st Q => ∃ (w : Word) (j : Nat), ds = [dW w, .int j] ∧ size w ≤ 1000 ∧ Q (dW (red (rot j (spelled w)))) st
theorem read_rotation : ∀ ds st Q, Wf st → D.lts st.length ds → sp_rotation ds st Q → r_rotation st.length { nx := fun _ st' => Ret st.length Q .non st', rt := Ret st.length Q } (dstart N_rotation ds) st := by
  intro ds st Q wf wl h
  obtain ⟨w, j, rfl, hs, q⟩ := h
  unfold r_rotation N_rotation
  have hl := len_spelled w
  walk_at "p"
  refine ⟨w, rfl, by omega, ?_⟩
  walk_at "p"
  have e1 : cutD ((spelled w).map dRun) (some (j : Int)) none ++ cutD ((spelled w).map dRun) none (some (j : Int)) = (rot j (spelled w)).map dRun := by
    rw [cut_from, cut_to]
    unfold rot
    rw [List.map_append, List.map_drop, List.map_take]
  have e2 : (cutD ((spelled w).map dRun) (some (j : Int)) none).length + (cutD ((spelled w).map dRun) none (some (j : Int))).length ≤ 1000 := by
    rw [← List.length_append, e1, List.length_map, rot_len]
    omega
  rw [e1]
  refine ⟨small_line (by omega), _, rot j (spelled w), rfl, w_items_ref p_get3, by rw [rot_len]; omega, ?_⟩
  exact ret_app rfl wf lt_W q

theorem len_rotation : ∀ ds s Q, sp_rotation ds s Q → ds.length = 2 := by
  intro ds s Q h
  unfold sp_rotation at h
  repeat (obtain ⟨_, h⟩ := h)
  subst_vars
  rfl
/-! root -/
abbrev N_root : List Str := ["word", "outer", "core", "letters", "size"]
def g_root_0 : DTT := (dOr (dB (dOp dNe (dOp dMod (dCB dLen (dCons (dVar 3) dNil)) (dVar 4)) (dC (.int 0)))) (dB (dOp dNe (dCall sp_rotation (dCons (dVar 2) (dCons (dVar 4) dNil))) (dVar 2))))
def b_root_0 : DTS :=
  (dAug 4 (dC (.int 1)) (dI0 fun i j => .int (i + j)))
theorem ug_root_0 {env st Q} : g_root_0 env st Q = (dOr (dB (dOp dNe (dOp dMod (dCB dLen (dCons (dVar 3) dNil)) (dVar 4)) (dC (.int 0)))) (dB (dOp dNe (dCall sp_rotation (dCons (dVar 2) (dCons (dVar 4) dNil))) (dVar 2)))) env st Q := rfl
theorem ub_root_0 {n d env st} : b_root_0 n d env st = (dAug 4 (dC (.int 1)) (dI0 fun i j => .int (i + j))) n d env st := rfl
def r_root : DTS :=
  (dSeq (dAsg (dCall sp_core_of (dCons (dVar 0) dNil)) (dgTup 2 (dgCons (dgName 1) (dgCons (dgName 2) dgNil))))
  (dSeq (dSet 3 (dListG sp_spell (dCons (dVar 2) dNil)))
  (dSeq (dSet 4 (dC (.int 1)))
  (dSeq (dWhile g_root_0 b_root_0)
  (dRet (dTup (dCons (dCallK 1 1 sp_conjugated (dCons (dCall sp_reduced (dCons (dSlice (dVar 3) dNoPart (dPart (dVar 4))) dNil)) dNil) (dCons (dVar 1) dNil)) (dCons (dOp dFdiv (dCB dLen (dCons (dVar 3) dNil)) (dVar 4)) dNil))))))))
def sp_root : DSp := fun ds st Q => ∃ (w : Word), ds = [dW w] ∧ Red w ∧ w ≠ [] ∧ size w ≤ 1000 ∧ ∀ (o c : Word) (p m : Nat), Root w o c p m → Q (.tup [dW (rootW o c p), .int m]) st
theorem lp_root {m : Nat} {d : DEnds} {st : Store} {w o : Option D} {c : Word} (hc : Red c) (hcy : cycb c = true) (hcn : spelled c ≠ []) (hs : size c ≤ 1000)
    (h : ∀ p k : Nat, Per (spelled c) p k → d.nx [w, o, some (dW c), some (.ref st.length), some (.int p)] (st ++ [.lst ((spelled c).map dRun)])) :
    ∀ (f s : Nat), 0 < s → s ≤ (spelled c).length → (spelled c).length - s < f → (∀ q, 0 < q → q < s → (q ∣ (spelled c).length) → rot q (spelled c) ≠ spelled c) →
      dWh g_root_0 b_root_0 m d f [w, o, some (dW c), some (.ref st.length), some (.int s)] (st ++ [.lst ((spelled c).map dRun)])
  | 0, s, h1, h2, h3, h4 => by omega
  | f + 1, s, h1, h2, h3, h4 => by
    have ih := lp_root (m := m) (d := d) (w := w) (o := o) hc hcy hcn hs h f (s + 1) (by omega)
    have hl := len_spelled c
    have heq : red (rot s (spelled c)) = c ↔ rot s (spelled c) = spelled c := by
      have hr : Fr (rot s (spelled c) ++ rot s (spelled c)) := rot_cyc (cyc_fr hc hcy) h2
      have lr : Lt (rot s (spelled c)) := fun r hr => by
        unfold rot at hr
        rcases List.mem_append.mp hr with hr | hr
        · exact Lt.spelled c r (List.mem_of_mem_drop hr)
        · exact Lt.spelled c r (List.mem_of_mem_take hr)
      constructor
      · intro e
        rw [← spelled_of lr hr.left, e]
      · intro e
        rw [e, red_spelled, red_of hc]
    rw [dWh_step, ug_root_0]
    walk_at "d"
    have e0 : ((((spelled c).length : Nat) : Int).fmod s = 0) ↔ s ∣ (spelled c).length := by
      rw [Int.fmod_eq_emod_of_nonneg _ (by omega), ← Int.natCast_emod]
      constructor
      · intro hh
        exact Nat.dvd_of_mod_eq_zero (by omega)
      · intro hh
        have := Nat.mod_eq_zero_of_dvd hh
        omega
    refine ⟨by omega, ?_⟩
    have next : ¬ (s ∣ (spelled c).length ∧ rot s (spelled c) = spelled c) → b_root_0 m { nx := dWh g_root_0 b_root_0 m d f, rt := d.rt, bk := d.nx, ct := dWh g_root_0 b_root_0 m d f }
        [w, o, some (dW c), some (D.ref (List.length st)), some (D.int s)] (st ++ [O.lst (List.map dRun (spelled c))]) := by
      intro hno
      have hlt : s < (spelled c).length := by
        rcases Nat.lt_or_ge s (spelled c).length with hh | hh
        · exact hh
        · have : s = (spelled c).length := by omega
          exact absurd ⟨by rw [this]; exact Nat.dvd_refl _, by rw [this]; exact rot_all _⟩ hno
      have := ih (by omega) (by omega) fun q q1 q2 q3 q4 => by
        by_cases hq : q = s
        · subst hq
          exact hno ⟨q3, q4⟩
        · exact h4 q q1 (by omega) q3 q4
      rw [ub_root_0]
      walk_at "d"
      rw [show (s : Int) + 1 = ((s + 1 : Nat) : Int) by omega]
      exact this
    by_cases hd : s ∣ (spelled c).length
    · rw [if_neg (fun hh => hh (e0.mpr hd))]
      refine ⟨c, s, rfl, by omega, ?_⟩
      walk_at "d"
      by_cases hr : rot s (spelled c) = spelled c
      · have hrr := heq.mpr hr
        simp only [hrr, decide_true]
        obtain ⟨k, hk⟩ := hd
        exact h s k ⟨h1, by rw [hk, Nat.mul_comm], hr, h4⟩
      · have hrr : ¬ red (rot s (spelled c)) = c := fun hh => hr (heq.mp hh)
        simp only [hrr, decide_false]
        exact next fun hh => hr hh.2
    · rw [if_pos (fun hh => hd (e0.mp hh))]
      exact next fun hh => hd hh.1
theorem read_root : ∀ ds st Q, Wf st → D.lts st.length ds → sp_root ds st Q → r_root st.length { nx := fun _ st' => Ret st.length Q .non st', rt := Ret st.length Q } (dstart N_root ds) st := by
  intro ds st Q wf wl h
  obtain ⟨w, rfl, hw, hn, hs, q⟩ := h
  unfold r_root N_root
  walk_at "p"
  have lw := len_le hw
  refine ⟨w, rfl, hw, by omega, fun o c hc h1 h2 => ?_⟩
  walk_at "p"
  have hsz := hc.sz
  refine ⟨c, rfl, by omega, ?_⟩
  walk_at "p"
  have hcn : spelled c ≠ [] := fun hh => core_ne hc hn ((spelled_nil_iff hc.rc).mp hh)
  have hl := len_spelled c
  have hpos : 0 < (spelled c).length := List.length_pos_iff.mpr hcn
  refine ⟨(spelled c).length, lp_root hc.rc hc.cy hcn (by omega) (fun p k hp => ?_) _ 1 (by decide) (by omega) (by omega) (fun q q1 q2 => by omega)⟩
  walk_at "p"
  have lo := len_le hc.ro
  have hkl := hp.len
  have tl : ((spelled c).take p).length ≤ (spelled c).length := by rw [List.length_take]; omega
  have t2 := len_red ((spelled c).take p)
  refine ⟨_, (spelled c).take p, rfl, by rw [cut_to, ← List.map_take]; exact w_items_ref p_get1, by omega, ?_⟩
  refine ⟨_, o, rfl, by omega, ?_⟩
  have hdv : (((spelled c).length : Nat) : Int).fdiv (p : Int) = (k : Int) := by
    rw [Int.fdiv_eq_ediv_of_nonneg _ (by omega), hkl, Int.natCast_mul, Int.mul_ediv_cancel _ (by have := hp.pos; omega)]
  rw [hl] at hdv
  walk_at "p"
  refine ⟨cdivA_small (by have := hp.pos; omega) (by have : p ≤ k * p := (by
    rcases Nat.eq_zero_or_pos k with h0 | h0
    · rw [h0, Nat.zero_mul] at hkl
      omega
    · exact Nat.le_mul_of_pos_left p h0)
                                                     omega), by decide, ?_⟩
  exact ret_app rfl wf lt_Wi (q o c p k ⟨hc, hn, hp⟩)

theorem len_root : ∀ ds s Q, sp_root ds s Q → ds.length = 1 := by
  intro ds s Q h
  unfold sp_root at h
  repeat (obtain ⟨_, h⟩ := h)
  subst_vars
  rfl
/-! law -/
abbrev N_law : List Str := ["script", "pool", "alphabet", "outer", "rooted", "first", "second", "base", "told", "many"]
def t_law_16 : DTS :=
  (dSeq (dSet 9 (dCall sp_exponent_of (dCons (dVar 6) (dCons (dOp dIx (dVar 8) (dC (.int 0))) dNil))))
  (dSeq (dIfS (dB (dOp dNe (dCall sp__law_join (dCons (dVar 5) (dCons (dVar 6) dNil))) (dCall sp__law_join (dCons (dVar 6) (dCons (dVar 5) dNil))))) (dIfS (dB (dOp dNotN (dVar 9) (dC .non))) (dRet (dC (.bl false))) dNext) (dIfS (dOr (dNot (dTruth (dCall sp__law_is_whole (dCons (dVar 9) dNil)))) (dOr (dB (dOp dGt (dCB dAbs (dCons (dVar 9) dNil)) (dC (.int 60)))) (dB (dOp dNe (dCall sp__law_times (dCons (dOp dIx (dVar 8) (dC (.int 0))) (dCons (dVar 9) dNil))) (dVar 6))))) (dRet (dC (.bl false))) dNext))
  (dSeq (dIfS (dNot (dTruth (dCall sp__law_power_is (dCons (dCall sp_exponent_of (dCons (dVar 6) (dCons (dVar 7) dNil))) (dCons (dCall sp__law_power_due (dCons (dVar 6) (dCons (dVar 7) dNil))) dNil))))) (dRet (dC (.bl false))) dNext)
  (dRet (dCall sp__law_power_is (dCons (dCall sp_exponent_of (dCons (dVar 5) (dCons (dVar 7) dNil))) (dCons (dCall sp__law_power_due (dCons (dVar 5) (dCons (dVar 7) dNil))) dNil)))))))
theorem ut_law_16 {n d env st} : t_law_16 n d env st = (dSeq (dSet 9 (dCall sp_exponent_of (dCons (dVar 6) (dCons (dOp dIx (dVar 8) (dC (.int 0))) dNil))))
  (dSeq (dIfS (dB (dOp dNe (dCall sp__law_join (dCons (dVar 5) (dCons (dVar 6) dNil))) (dCall sp__law_join (dCons (dVar 6) (dCons (dVar 5) dNil))))) (dIfS (dB (dOp dNotN (dVar 9) (dC .non))) (dRet (dC (.bl false))) dNext) (dIfS (dOr (dNot (dTruth (dCall sp__law_is_whole (dCons (dVar 9) dNil)))) (dOr (dB (dOp dGt (dCB dAbs (dCons (dVar 9) dNil)) (dC (.int 60)))) (dB (dOp dNe (dCall sp__law_times (dCons (dOp dIx (dVar 8) (dC (.int 0))) (dCons (dVar 9) dNil))) (dVar 6))))) (dRet (dC (.bl false))) dNext))
  (dSeq (dIfS (dNot (dTruth (dCall sp__law_power_is (dCons (dCall sp_exponent_of (dCons (dVar 6) (dCons (dVar 7) dNil))) (dCons (dCall sp__law_power_due (dCons (dVar 6) (dCons (dVar 7) dNil))) dNil))))) (dRet (dC (.bl false))) dNext)
  (dRet (dCall sp__law_power_is (dCons (dCall sp_exponent_of (dCons (dVar 5) (dCons (dVar 7) dNil))) (dCons (dCall sp__law_power_due (dCons (dVar 5) (dCons (dVar 7) dNil))) dNil))))))) n d env st := rfl
def t_law_10 : DTS :=
  (dSeq (dSet 8 (dCall sp_root (dCons (dVar 5) dNil)))
  (dSeq (dIfS (dOr (dNot (dTruth (dCall sp__law_rooted (dCons (dVar 5) (dCons (dVar 8) dNil))))) (dNot (dTruth (dCall sp__law_rooted (dCons (dCall sp__law_back (dCons (dVar 5) dNil)) (dCons (dCall sp_root (dCons (dCall sp__law_back (dCons (dVar 5) dNil)) dNil)) dNil)))))) (dRet (dC (.bl false))) dNext)
  (dSeq (dIfS (dNot (dTruth (dCall sp__law_rooted (dCons (dOp dIx (dVar 8) (dC (.int 0))) (dCons (dCall sp_root (dCons (dOp dIx (dVar 8) (dC (.int 0))) dNil)) dNil))))) (dRet (dC (.bl false))) dNext)
  (dSeq (dIfS (dNot (dTruth (dCall sp__law_power_is (dCons (dCall sp_exponent_of (dCons (dVar 5) (dCons (dOp dIx (dVar 8) (dC (.int 0))) dNil))) (dCons (dOp dIx (dVar 8) (dC (.int 1))) dNil))))) (dRet (dC (.bl false))) dNext)
  (dSeq (dIfS (dNot (dTruth (dCall sp__law_power_is (dCons (dCall sp_exponent_of (dCons (dCall sp__law_back (dCons (dVar 5) dNil)) (dCons (dOp dIx (dVar 8) (dC (.int 0))) dNil))) (dCons (dOp dSub (dC (.int 0)) (dOp dIx (dVar 8) (dC (.int 1)))) dNil))))) (dRet (dC (.bl false))) dNext)
  (dSeq (dIfS (dNot (dTruth (dCall sp__law_power_is (dCons (dCall sp_exponent_of (dCons (dTup dNil) (dCons (dOp dIx (dVar 8) (dC (.int 0))) dNil))) (dCons (dC (.int 0)) dNil))))) (dRet (dC (.bl false))) dNext)
  t_law_16))))))
theorem ut_law_10 {n d env st} : t_law_10 n d env st = (dSeq (dSet 8 (dCall sp_root (dCons (dVar 5) dNil)))
  (dSeq (dIfS (dOr (dNot (dTruth (dCall sp__law_rooted (dCons (dVar 5) (dCons (dVar 8) dNil))))) (dNot (dTruth (dCall sp__law_rooted (dCons (dCall sp__law_back (dCons (dVar 5) dNil)) (dCons (dCall sp_root (dCons (dCall sp__law_back (dCons (dVar 5) dNil)) dNil)) dNil)))))) (dRet (dC (.bl false))) dNext)
  (dSeq (dIfS (dNot (dTruth (dCall sp__law_rooted (dCons (dOp dIx (dVar 8) (dC (.int 0))) (dCons (dCall sp_root (dCons (dOp dIx (dVar 8) (dC (.int 0))) dNil)) dNil))))) (dRet (dC (.bl false))) dNext)
  (dSeq (dIfS (dNot (dTruth (dCall sp__law_power_is (dCons (dCall sp_exponent_of (dCons (dVar 5) (dCons (dOp dIx (dVar 8) (dC (.int 0))) dNil))) (dCons (dOp dIx (dVar 8) (dC (.int 1))) dNil))))) (dRet (dC (.bl false))) dNext)
  (dSeq (dIfS (dNot (dTruth (dCall sp__law_power_is (dCons (dCall sp_exponent_of (dCons (dCall sp__law_back (dCons (dVar 5) dNil)) (dCons (dOp dIx (dVar 8) (dC (.int 0))) dNil))) (dCons (dOp dSub (dC (.int 0)) (dOp dIx (dVar 8) (dC (.int 1)))) dNil))))) (dRet (dC (.bl false))) dNext)
  (dSeq (dIfS (dNot (dTruth (dCall sp__law_power_is (dCons (dCall sp_exponent_of (dCons (dTup dNil) (dCons (dOp dIx (dVar 8) (dC (.int 0))) dNil))) (dCons (dC (.int 0)) dNil))))) (dRet (dC (.bl false))) dNext)
  t_law_16)))))) n d env st := rfl
def t_law_8 : DTS :=
  (dSeq (dSet 6 (dCall sp__law_second (dCons (dCall sp__law_pool (dCons (dVar 0) (dCons (dC (.int 2)) dNil))) (dCons (dVar 2) (dCons (dVar 5) (dCons (dVar 4) dNil))))))
  (dSeq (dSet 7 (dCall sp__law_base (dCons (dCall sp__law_pool (dCons (dVar 0) (dCons (dC (.int 3)) dNil))) (dCons (dVar 2) (dCons (dVar 4) dNil)))))
  t_law_10))
theorem ut_law_8 {n d env st} : t_law_8 n d env st = (dSeq (dSet 6 (dCall sp__law_second (dCons (dCall sp__law_pool (dCons (dVar 0) (dCons (dC (.int 2)) dNil))) (dCons (dVar 2) (dCons (dVar 5) (dCons (dVar 4) dNil))))))
  (dSeq (dSet 7 (dCall sp__law_base (dCons (dCall sp__law_pool (dCons (dVar 0) (dCons (dC (.int 3)) dNil))) (dCons (dVar 2) (dCons (dVar 4) dNil)))))
  t_law_10)) n d env st := rfl
def t_law_3 : DTS :=
  (dSeq (dSet 1 (dCall sp__law_pool (dCons (dVar 0) (dCons (dC (.int 1)) dNil))))
  (dSeq (dSet 3 (dCall sp__law_full (dCons (dVar 1) (dCons (dVar 2) (dCons (dCall sp__law_draw (dCons (dVar 1) (dCons (dC (.int 5)) dNil))) dNil)))))
  (dSeq (dSet 4 (dCall sp__law_between (dCons (dVar 3) (dCons (dCall sp__law_full (dCons (dVar 1) (dCons (dVar 2) (dCons (dOp dAdd (dC (.int 1)) (dCall sp__law_draw (dCons (dVar 1) (dCons (dC (.int 6)) dNil)))) dNil)))) dNil))))
  (dSeq (dSet 5 (dCall sp__law_times (dCons (dVar 4) (dCons (dOp dAdd (dC (.int 1)) (dCall sp__law_draw (dCons (dVar 1) (dCons (dC (.int 6)) dNil)))) dNil))))
  (dSeq (dIfS (dB (dOp dEq (dCall sp__law_draw (dCons (dVar 1) (dCons (dC (.int 3)) dNil))) (dC (.int 2)))) (dSet 5 (dCall sp__law_full (dCons (dVar 1) (dCons (dVar 2) (dCons (dOp dAdd (dC (.int 1)) (dCall sp__law_draw (dCons (dVar 1) (dCons (dC (.int 60)) dNil)))) dNil))))) dNext)
  t_law_8)))))
theorem ut_law_3 {n d env st} : t_law_3 n d env st = (dSeq (dSet 1 (dCall sp__law_pool (dCons (dVar 0) (dCons (dC (.int 1)) dNil))))
  (dSeq (dSet 3 (dCall sp__law_full (dCons (dVar 1) (dCons (dVar 2) (dCons (dCall sp__law_draw (dCons (dVar 1) (dCons (dC (.int 5)) dNil))) dNil)))))
  (dSeq (dSet 4 (dCall sp__law_between (dCons (dVar 3) (dCons (dCall sp__law_full (dCons (dVar 1) (dCons (dVar 2) (dCons (dOp dAdd (dC (.int 1)) (dCall sp__law_draw (dCons (dVar 1) (dCons (dC (.int 6)) dNil)))) dNil)))) dNil))))
  (dSeq (dSet 5 (dCall sp__law_times (dCons (dVar 4) (dCons (dOp dAdd (dC (.int 1)) (dCall sp__law_draw (dCons (dVar 1) (dCons (dC (.int 6)) dNil)))) dNil))))
  (dSeq (dIfS (dB (dOp dEq (dCall sp__law_draw (dCons (dVar 1) (dCons (dC (.int 3)) dNil))) (dC (.int 2)))) (dSet 5 (dCall sp__law_full (dCons (dVar 1) (dCons (dVar 2) (dCons (dOp dAdd (dC (.int 1)) (dCall sp__law_draw (dCons (dVar 1) (dCons (dC (.int 60)) dNil)))) dNil))))) dNext)
  t_law_8))))) n d env st := rfl
def r_law : DTS :=
  (dSeq (dSet 1 (dCall sp__law_pool (dCons (dVar 0) (dCons (dC (.int 0)) dNil))))
  (dSeq (dSet 2 (dCall sp__law_alphabet (dCons (dVar 1) (dCons (dC (.int 3)) dNil))))
  (dSeq (dIfS (dB (dOp dEq (dCall sp__law_draw (dCons (dVar 1) (dCons (dC (.int 6)) dNil))) (dC (.int 1)))) (dSet 2 (dOp dAdd (dVar 2) (dLst (dCons (dTup (dCons (dC (.str (Str.ofString "!"))) dNil)) dNil)))) dNext)
  t_law_3)))
def sp_law : DSp := DL.spLaw
theorem len_law : ∀ ds s Q, sp_law ds s Q → ds.length = 1 := by
  intro ds s Q ⟨ns, e, _⟩
  subst e
  rfl
theorem pow_abs {b w o c : Word} {k : Int} (hb : Red b) (hn : b ≠ []) (e : pw b k = w) (h : Core w o c) : k.natAbs ≤ size c := by
  by_cases k0 : k = 0
  · subst k0
    exact Nat.zero_le _
  obtain ⟨ob, cb, hc⟩ := core_ex b.length b [] b (Nat.le_refl _) hb (by simp [inv])
  have hcn := core_ne hc hn
  have h1 := core_pw hc hcn k0
  rw [e] at h1
  obtain ⟨_, e2⟩ := core_unique h h1
  rw [e2, size_pw_cyc hc.rc hc.cy]
  exact Nat.le_mul_of_pos_right _ (size_pos hc.rc hcn)
structure Firsts (f : Word) : Prop where
  r : Red f
  n : f ≠ []
  s : size f ≤ 200
  k : ∀ o c : Word, Core f o c → size c ≤ 60
theorem ask_is {T : Store} {K : DQ} {w b : Word} {k : Int} (hw : Red w) (hb : Red b) (hn : b ≠ []) (h1 : size w ≤ 1000) (h2 : size b ≤ 1000) (e : pw b k = w) (q : K (.int k) T) : sp_exponent_of [dW w, dW b] T K :=
  ⟨w, b, rfl, hw, hb, hn, h1, h2, fun j ej => by
    rw [pw_inj hb hn (ej.trans e.symm)]
    exact q, fun hN => absurd e (hN k)⟩
theorem due_is {T : Store} {K : DQ} {w b : Word} (hw : Red w) (hb : Red b) (hn : b ≠ []) (h1 : size w ≤ 1000) (h2 : size b ≤ 1000) (hk : ∀ o c : Word, Core w o c → size c ≤ 60) (q : K (.bl true) T) : 
    sp_exponent_of [dW w, dW b] T fun x st1 => sp__law_power_due [dW w, dW b] st1 fun y st2 => sp__law_power_is [x, y] st2 K := by
  have hk' : ∀ k : Int, pw b k = w → k.natAbs ≤ 61 := fun k e => by
    obtain ⟨o, c, hc⟩ := core_ex w.length w [] w (Nat.le_refl _) hw (by simp [inv])
    have := pow_abs hb hn e hc
    have := hk o c hc
    omega
  refine ⟨w, b, rfl, hw, hb, hn, h1, h2, fun j ej => ?_, fun hN => ?_⟩
  · refine ⟨w, b, rfl, hw, hb, hn, h1, h2, hk', fun i ei => ?_, fun hN => absurd ej (hN j)⟩
    rw [pw_inj hb hn (ei.trans ej.symm)]
    exact ⟨.inl ⟨_, rfl⟩, q⟩
  · exact ⟨w, b, rfl, hw, hb, hn, h1, h2, hk', fun i ei => absurd ei (hN i), fun _ => ⟨.inr rfl, q⟩⟩
theorem tl16_law {T : Store} {n : Nat} {d : DEnds} {f v b o c : Word} {p m : Nat} {x0 x1 x2 x3 x4 : Option D} (hf : Firsts f) (hv : Red v) (hvs : size v ≤ 60) (hb : Red b) (hbn : b ≠ []) (hbs : size b ≤ 200) (h : Root f o c p m) (fin : d.rt (.bl true) T) :
    t_law_16 n d [x0, x1, x2, x3, x4, some (dW f), some (dW v), some (dW b), some (.tup [dW (rootW o c p), .int m]), none] T := by
  have lf := len_le hf.r
  have lv := len_le hv
  have hfs := hf.s
  obtain ⟨r1, r2, r3, r4⟩ := root_small h
  have hr : Red (rootW o c p) := Red.red
  have hrn := h.ne'
  have hvk : ∀ o c : Word, Core v o c → size c ≤ 60 := fun o c hc => by
    have := hc.sz
    omega
  have last : sp_exponent_of [dW v, dW b] T fun x st1 => sp__law_power_due [dW v, dW b] st1 fun y st2 => sp__law_power_is [x, y] st2 fun x st1 =>
      dTru x st1 fun c st1 => if c = false then d.rt (.bl false) st1 else
      sp_exponent_of [dW f, dW b] st1 fun x st1 => sp__law_power_due [dW f, dW b] st1 fun y st2 => sp__law_power_is [x, y] st2 d.rt := by
    refine due_is hv hb hbn (by omega) (by omega) hvk ?_
    walk_at "d"
    exact due_is hf.r hb hbn (by omega) (by omega) hf.k fin
  rw [ut_law_16]
  walk_at "p"
  refine ⟨v, _, rfl, hv, hr, hrn, by omega, by omega, fun k ek => ?_, fun hN => ?_⟩
  · have hk60 : k.natAbs ≤ 60 := by
      obtain ⟨ov, cv, hcv⟩ := core_ex v.length v [] v (Nat.le_refl _) hv (by simp [inv])
      have := pow_abs hr hrn ek hcv
      have := hvk ov cv hcv
      omega
    have hcom : red (f ++ v) = red (v ++ f) := by
      rw [← ek]
      have e1 : red (f ++ pw (rootW o c p) k) = pw (rootW o c p) (m + k) := by
        rw [← pw_add, h.pw]
      have e2 : red (pw (rootW o c p) k ++ f) = pw (rootW o c p) (k + m) := by
        rw [← pw_add, h.pw]
      rw [e1, e2]
      congr 1
      omega
    have habs : ¬ (60 < if k < 0 then -k else k) := by
      split <;> omega
    have hkr : k.natAbs * (rootW o c p).length ≤ 60 * 200 := Nat.mul_le_mul hk60 (by omega)
    walk_at "p"
    refine ⟨_, _, f, v, rfl, .W, .W, by omega, _, _, v, f, rfl, .W, .W, by omega, ?_⟩
    rw [hcom]
    walk_at "d"
    refine ⟨k, rfl, ?_⟩
    walk_at "d"
    try rw [if_neg habs]
    refine ⟨_, k, rfl, by omega, by omega, by omega, ?_⟩
    rw [ek]
    walk_at "d"
    exact last
  · have hcom : ¬ red (f ++ v) = red (v ++ f) := fun e => by
      obtain ⟨k, hk⟩ := h.com hv e.symm
      exact hN k hk
    walk_at "p"
    refine ⟨_, _, f, v, rfl, .W, .W, by omega, _, _, v, f, rfl, .W, .W, by omega, ?_⟩
    walk_at "d"
    rw [if_pos hcom]
    exact last
theorem tl10_law {T : Store} {n : Nat} {d : DEnds} {f v b : Word} {x0 x1 x2 x3 x4 : Option D} (hf : Firsts f) (hv : Red v) (hvs : size v ≤ 60) (hb : Red b) (hbn : b ≠ []) (hbs : size b ≤ 200) (fin : d.rt (.bl true) T) :
    t_law_10 n d [x0, x1, x2, x3, x4, some (dW f), some (dW v), some (dW b), none, none] T := by
  have lf := len_le hf.r
  have lv := len_le hv
  have hfs := hf.s
  rw [ut_law_10]
  walk_at "p"
  refine ⟨f, rfl, hf.r, hf.n, by omega, fun o c p m h => ?_⟩
  obtain ⟨r1, r2, r3, r4⟩ := root_small h
  have hr : Red (rootW o c p) := Red.red
  have hrn := h.ne'
  have hfi : inv f ≠ [] := fun hh => hf.n (by have := congrArg inv hh; rw [inv_inv] at this; exact this)
  have e0 : D.tup [] = dW [] := rfl
  have hfinv : pw (rootW o c p) (-(m : Int)) = inv f := by
    have := h.pw
    refine inv_of Red.pw hf.r ?_
    rw [← this, pw_add, show -(m : Int) + m = 0 by omega, pw_zero]
  walk_at "p"
  refine ⟨f, o, c, p, m, rfl, h, by omega, ?_⟩
  walk_at "d"
  refine ⟨_, f, rfl, .W, by omega, _, f, rfl, .W, by omega, ?_⟩
  refine ⟨inv f, rfl, hf.r.inv, hfi, by rw [size_inv]; omega, fun o' c' p' m' h' => ?_⟩
  refine ⟨inv f, o', c', p', m', rfl, h', by rw [size_inv]; omega, ?_⟩
  walk_at "d"
  refine ⟨_, rfl, hr, hrn, by omega, fun o' c' p' m' h' => ?_⟩
  refine ⟨_, o', c', p', m', rfl, h', by omega, ?_⟩
  walk_at "d"
  refine ask_is hf.r hr hrn (by omega) (by omega) h.pw ⟨.inl ⟨_, rfl⟩, ?_⟩
  walk_at "d"
  refine ⟨_, f, rfl, .W, by omega, ?_⟩
  refine ask_is hf.r.inv hr hrn (by rw [size_inv]; omega) (by omega) hfinv ⟨.inl ⟨_, by rw [show (0 : Int) - m = -(m : Int) by omega]⟩, ?_⟩
  walk_at "d"
  refine ⟨by decide, ?_⟩
  refine ask_is (w := []) trivial hr hrn (by decide) (by omega) (pw_zero _) ⟨.inl ⟨_, rfl⟩, ?_⟩
  walk_at "d"
  exact tl16_law hf hv hvs hb hbn hbs h fin
theorem tl8_law {T : Store} {n : Nat} {d : DEnds} {f r : Word} {ls : List Letter} {ns : List Int} {a : Nat} {x1 x3 : Option D} (hl : ns.length ≤ 63) (ha : T[a]? = some (.lst (ls.map dL))) (hls : ls ≠ []) (hll : ls.length ≤ 900) (hf : Firsts f) (hr : Red r) (hrn : r ≠ []) (hrs : size r ≤ 14) (fin : ∀ l, d.rt (.bl true) (T ++ l)) :
    t_law_8 n d [some (.rol (ns.map D.int)), x1, some (.ref a), x3, some (dW r), some (dW f), none, none, none, none] T := by
  have hfs := hf.s
  rw [ut_law_8]
  walk_at "p"
  refine ⟨ns, 2, rfl, by decide, by decide, hl, fun p1 => ?_⟩
  refine ⟨T.length, a, ls, f, r, p1, rfl, p_get0, get_app ha, hls, by omega, hf.r, hfs, hr, by omega, fun v p2 v1 v2 => ?_⟩
  walk_at "p"
  refine ⟨ns, 3, rfl, by decide, by decide, hl, fun p3 => ?_⟩
  walk_at "p"
  refine ⟨T.length + 1, a, ls, r, p3, rfl, p_get1, get_app ha, hls, by omega, hr, hrn, by omega, fun b p4 b1 b2 b3 => ?_⟩
  walk_at "p"
  exact tl10_law hf v1 v2 b1 b2 b3 (fin _)
theorem tl3_law {T : Store} {n : Nat} {d : DEnds} {ls : List Letter} {ns : List Int} {a : Nat} {x1 : Option D} (hl : ns.length ≤ 63) (ha : T[a]? = some (.lst (ls.map dL))) (hls : ls ≠ []) (hll : ls.length ≤ 900) (fin : ∀ l, d.rt (.bl true) (T ++ l)) :
    t_law_3 n d [some (.rol (ns.map D.int)), x1, some (.ref a), none, none, none, none, none, none, none] T := by
  have dr := @draw_eq
  have b3 : (1001 : Int) ≤ 10 ^ 30 := by decide
  rw [ut_law_3]
  walk_at "p"
  refine ⟨ns, 1, rfl, by decide, by decide, hl, fun p1 => ?_⟩
  walk_at "p"
  refine ⟨by decide, by decide, fun u p2 u0 u1 => ?_⟩
  refine ⟨T.length, a, ls, u, p2, rfl, p_get0, get_app ha, hls, by omega, by omega, by omega, fun o p3 o1 o2 o3 o4 => ?_⟩
  walk_at "p"
  refine ⟨by decide, by decide, fun s p4 s0 s1 => ?_⟩
  refine ⟨T.length, a, ls, 1 + s, p4, rfl, p_get0, get_app ha, hls, by omega, by omega, by omega, fun i p5 i1 i2 i3 i4 => ?_⟩
  have lo := len_le o1
  have li := len_le i1
  walk_at "p"
  refine ⟨o, i, rfl, by omega, ?_⟩
  have hin : i ≠ [] := by
    rintro rfl
    rw [size_nil] at i3
    omega
  have hrn : red (o ++ (i ++ inv o)) ≠ [] := conj_ne i1 hin
  have hrs : size (red (o ++ (i ++ inv o))) ≤ 14 := by
    have := size_red (o ++ (i ++ inv o))
    rw [size_app, size_app, size_inv] at this
    omega
  have hrl := len_le (w := red (o ++ (i ++ inv o))) Red.red
  walk_at "p"
  refine ⟨by decide, by decide, fun m p6 m0 m1 => ?_⟩
  have hm6 : (1 + m).natAbs ≤ 6 := by omega
  have hml : (1 + m).natAbs * (red (o ++ (i ++ inv o))).length ≤ 6 * 14 := Nat.mul_le_mul hm6 (by omega)
  refine ⟨_, 1 + m, rfl, by omega, by omega, by omega, ?_⟩
  walk_at "p"
  refine ⟨by decide, by decide, fun z p7 z0 z1 => ?_⟩
  split
  · refine ⟨by decide, by decide, fun y p8 y0 y1 => ?_⟩
    refine ⟨T.length, a, ls, 1 + y, p8, rfl, p_get0, get_app ha, hls, by omega, by omega, by omega, fun f p9 f1 f2 f3 f4 => ?_⟩
    rw [p_set0]
    refine tl8_law hl (get_app ha) hls hll ⟨f1, fun hh => ?_, by omega, fun o c hc => ?_⟩ Red.red hrn hrs fun l => ?_
    · rw [hh, size_nil] at f3
      omega
    · have := hc.sz
      omega
    · rw [List.append_assoc]
      exact fin _
  · have hpw : pw (red (o ++ (i ++ inv o))) (1 + m) = red (o ++ (pw i (1 + m) ++ inv o)) := pw_conj o i (1 + m)
    have hps : size (pw i (1 + m)) ≤ 36 := by
      have h4 : ∀ k, size (rep k i) = k * size i := fun k => by
        induction k with
        | zero => simp [rep, size_nil]
        | succ k ih => rw [rep_succ, size_app, ih, Nat.add_mul, Nat.one_mul, Nat.add_comm]
      obtain ⟨k, hk⟩ : ∃ k : Nat, 1 + m = k := ⟨(1 + m).toNat, by omega⟩
      rw [hk, pw_nat]
      have h5 := size_red (rep k i)
      rw [h4] at h5
      have h6 : k * size i ≤ 6 * 6 := Nat.mul_le_mul (by omega) (by omega)
      omega
    refine tl8_law hl (get_app ha) hls hll ⟨Red.pw, pw_ne Red.red hrn (by omega), ?_, fun o' c hc => ?_⟩ Red.red hrn hrs fun l => ?_
    · rw [hpw]
      have := size_red (o ++ (pw i (1 + m) ++ inv o))
      rw [size_app, size_app, size_inv] at this
      omega
    · have := core_small hpw hc
      omega
    · rw [List.append_assoc]
      exact fin _
theorem read_law : ∀ ds st Q, Wf st → D.lts st.length ds → sp_law ds st Q → r_law st.length { nx := fun _ st' => Ret st.length Q .non st', rt := Ret st.length Q } (dstart N_law ds) st := by
  intro ds st Q wf wl h
  obtain ⟨ns, rfl, hl, q⟩ := h
  have dr := @draw_eq
  have fin : ∀ l : Store, Ret st.length Q (.bl true) (st ++ l) := fun l => ret_app rfl wf trivial (q st)
  have b3 : (1001 : Int) ≤ 10 ^ 30 := by decide
  clear q
  unfold r_law N_law
  walk_at "p"
  refine ⟨ns, 0, rfl, by decide, by decide, hl, fun p0 => ?_⟩
  walk_at "p"
  refine ⟨st.length, 3, p0, rfl, p_get0, by decide, by decide, fun ls p1 ls1 ls2 ls3 => ?_⟩
  have l6 : ls.length ≤ 3 := ls2
  walk_at "p"
  refine ⟨by decide, by omega, fun v p2 h0 h1 => ?_⟩
  split
  · refine ⟨by decide, by decide, small_line (by omega), ?_⟩
    have e1 : (Str.ofString "!") = ⟨#[33]⟩ := by decide
    refine tl3_law (ls := ls ++ [mk]) hl p_get3 (by simp) (by simp; omega) fun l => ?_
    rw [List.append_assoc]
    exact fin _
  · refine tl3_law (ls := ls) hl p_get1 ls1 (by omega) fun l => ?_
    rw [List.append_assoc]
    exact fin _

end K06
namespace K06
open PySem PySem.Spec L2 DL
def topS (i : Nat) : Stmt := PySem.Challenge.pw_onelaw_k06_roots.main.body.getD i (.Pass ⟨0, 0, 0, 0⟩)
abbrev s_reduced : Stmt := topS 1
theorem sc_reduced : FnScope N_reduced ["pairs"] (defScope s_reduced) := ⟨rfl, rfl, rfl, by decide +kernel, rfl, by decide +kernel, by decide +kernel⟩
abbrev s_multiply_all : Stmt := topS 2
theorem sc_multiply_all : FnScope N_multiply_all ["words"] (defScope s_multiply_all) := ⟨rfl, rfl, rfl, by decide +kernel, rfl, by decide +kernel, by decide +kernel⟩
abbrev s_inverse : Stmt := topS 3
theorem sc_inverse : FnScope N_inverse ["word"] (defScope s_inverse) := ⟨rfl, rfl, rfl, by decide +kernel, rfl, by decide +kernel, by decide +kernel⟩
abbrev s_power : Stmt := topS 4
theorem sc_power : FnScope N_power ["word", "exponent"] (defScope s_power) := ⟨rfl, rfl, rfl, by decide +kernel, rfl, by decide +kernel, by decide +kernel⟩
abbrev s_conjugated : Stmt := topS 5
theorem sc_conjugated : FnScope N_conjugated ["word", "by"] (defScope s_conjugated) := ⟨rfl, rfl, rfl, by decide +kernel, rfl, by decide +kernel, by decide +kernel⟩
abbrev s_length : Stmt := topS 6
theorem sc_length : FnScope N_length ["word"] (defScope s_length) := ⟨rfl, rfl, rfl, by decide +kernel, rfl, by decide +kernel, by decide +kernel⟩
abbrev s_spell : Stmt := topS 7
theorem sc_spell : GScope N_spell ["word"] (defScope s_spell) := ⟨rfl, rfl, rfl, by decide +kernel, rfl, by decide +kernel, by decide +kernel⟩
abbrev s_is_cyclically_reduced : Stmt := topS 9
theorem sc_is_cyclically_reduced : FnScope N_is_cyclically_reduced ["word"] (defScope s_is_cyclically_reduced) := ⟨rfl, rfl, rfl, by decide +kernel, rfl, by decide +kernel, by decide +kernel⟩
abbrev s_core_of : Stmt := topS 10
theorem sc_core_of : FnScope N_core_of ["word"] (defScope s_core_of) := ⟨rfl, rfl, rfl, by decide +kernel, rfl, by decide +kernel, by decide +kernel⟩
abbrev s_rotation : Stmt := topS 11
theorem sc_rotation : FnScope N_rotation ["word", "count"] (defScope s_rotation) := ⟨rfl, rfl, rfl, by decide +kernel, rfl, by decide +kernel, by decide +kernel⟩
abbrev s_root : Stmt := topS 12
theorem sc_root : FnScope N_root ["word"] (defScope s_root) := ⟨rfl, rfl, rfl, by decide +kernel, rfl, by decide +kernel, by decide +kernel⟩
abbrev s_exponent_of : Stmt := topS 13
theorem sc_exponent_of : FnScope N_exponent_of ["word", "base"] (defScope s_exponent_of) := ⟨rfl, rfl, rfl, by decide +kernel, rfl, by decide +kernel, by decide +kernel⟩
abbrev s__law_pool : Stmt := topS 15
theorem sc__law_pool : FnScope N__law_pool ["script", "place"] (defScope s__law_pool) := ⟨rfl, rfl, rfl, by decide +kernel, rfl, by decide +kernel, by decide +kernel⟩
abbrev s__law_draw : Stmt := topS 16
theorem sc__law_draw : FnScope N__law_draw ["pool", "many"] (defScope s__law_draw) := ⟨rfl, rfl, rfl, by decide +kernel, rfl, by decide +kernel, by decide +kernel⟩
abbrev s__law_reduce : Stmt := topS 17
theorem sc__law_reduce : FnScope N__law_reduce ["runs"] (defScope s__law_reduce) := ⟨rfl, rfl, rfl, by decide +kernel, rfl, by decide +kernel, by decide +kernel⟩
abbrev s__law_join : Stmt := topS 18
theorem sc__law_join : FnScope N__law_join ["first", "second"] (defScope s__law_join) := ⟨rfl, rfl, rfl, by decide +kernel, rfl, by decide +kernel, by decide +kernel⟩
abbrev s__law_back : Stmt := topS 19
theorem sc__law_back : FnScope N__law_back ["word"] (defScope s__law_back) := ⟨rfl, rfl, rfl, by decide +kernel, rfl, by decide +kernel, by decide +kernel⟩
abbrev s__law_times : Stmt := topS 20
theorem sc__law_times : FnScope N__law_times ["word", "times"] (defScope s__law_times) := ⟨rfl, rfl, rfl, by decide +kernel, rfl, by decide +kernel, by decide +kernel⟩
abbrev s__law_size : Stmt := topS 21
theorem sc__law_size : FnScope N__law_size ["word"] (defScope s__law_size) := ⟨rfl, rfl, rfl, by decide +kernel, rfl, by decide +kernel, by decide +kernel⟩
abbrev s__law_spelled : Stmt := topS 22
theorem sc__law_spelled : FnScope N__law_spelled ["word"] (defScope s__law_spelled) := ⟨rfl, rfl, rfl, by decide +kernel, rfl, by decide +kernel, by decide +kernel⟩
abbrev s__law_core : Stmt := topS 23
theorem sc__law_core : FnScope N__law_core ["word"] (defScope s__law_core) := ⟨rfl, rfl, rfl, by decide +kernel, rfl, by decide +kernel, by decide +kernel⟩
abbrev s__law_full : Stmt := topS 24
theorem sc__law_full : FnScope N__law_full ["pool", "alphabet", "size"] (defScope s__law_full) := ⟨rfl, rfl, rfl, by decide +kernel, rfl, by decide +kernel, by decide +kernel⟩
abbrev s__law_is_whole : Stmt := topS 25
theorem sc__law_is_whole : FnScope N__law_is_whole ["value"] (defScope s__law_is_whole) := ⟨rfl, rfl, rfl, by decide +kernel, rfl, by decide +kernel, by decide +kernel⟩
abbrev s__law_is_letter : Stmt := topS 26
theorem sc__law_is_letter : FnScope N__law_is_letter ["value"] (defScope s__law_is_letter) := ⟨rfl, rfl, rfl, by decide +kernel, rfl, by decide +kernel, by decide +kernel⟩
abbrev s__law_is_word : Stmt := topS 27
theorem sc__law_is_word : FnScope N__law_is_word ["value"] (defScope s__law_is_word) := ⟨rfl, rfl, rfl, by decide +kernel, rfl, by decide +kernel, by decide +kernel⟩
abbrev s__law_root_exponent : Stmt := topS 28
theorem sc__law_root_exponent : FnScope N__law_root_exponent ["rule"] (defScope s__law_root_exponent) := ⟨rfl, rfl, rfl, by decide +kernel, rfl, by decide +kernel, by decide +kernel⟩
abbrev s__law_alphabet : Stmt := topS 29
theorem sc__law_alphabet : FnScope N__law_alphabet ["pool", "most"] (defScope s__law_alphabet) := ⟨rfl, rfl, rfl, by decide +kernel, rfl, by decide +kernel, by decide +kernel⟩
abbrev s__law_between : Stmt := topS 30
theorem sc__law_between : FnScope N__law_between ["outer", "inner"] (defScope s__law_between) := ⟨rfl, rfl, rfl, by decide +kernel, rfl, by decide +kernel, by decide +kernel⟩
abbrev s__law_second : Stmt := topS 31
theorem sc__law_second : FnScope N__law_second ["pool", "alphabet", "first", "rooted"] (defScope s__law_second) := ⟨rfl, rfl, rfl, by decide +kernel, rfl, by decide +kernel, by decide +kernel⟩
abbrev s__law_base : Stmt := topS 32
theorem sc__law_base : FnScope N__law_base ["pool", "alphabet", "rooted"] (defScope s__law_base) := ⟨rfl, rfl, rfl, by decide +kernel, rfl, by decide +kernel, by decide +kernel⟩
abbrev s__law_power_due : Stmt := topS 33
theorem sc__law_power_due : FnScope N__law_power_due ["word", "base"] (defScope s__law_power_due) := ⟨rfl, rfl, rfl, by decide +kernel, rfl, by decide +kernel, by decide +kernel⟩
abbrev s__law_power_is : Stmt := topS 34
theorem sc__law_power_is : FnScope N__law_power_is ["actual", "due"] (defScope s__law_power_is) := ⟨rfl, rfl, rfl, by decide +kernel, rfl, by decide +kernel, by decide +kernel⟩
abbrev s__law_rooted : Stmt := topS 35
theorem sc__law_rooted : FnScope N__law_rooted ["word", "told"] (defScope s__law_rooted) := ⟨rfl, rfl, rfl, by decide +kernel, rfl, by decide +kernel, by decide +kernel⟩
abbrev s_law : Stmt := topS 36
theorem sc_law : FnScope N_law ["script"] (defScope s_law) := ⟨rfl, rfl, rfl, by decide +kernel, rfl, by decide +kernel, by decide +kernel⟩
section
variable {P : Program} {w : World} {K : PySem.W.Frag} {mg : Str → Option Value} {base : Heap} {f : Addr} {fd : FuncData}
theorem ok_reduced (F : Fun K "reduced" "reduced" s_reduced f fd) (z_tuple : mg "tuple" = none) :
    FnOk P w K mg base CX0 1 f fd ["pairs"] (spOf K sp_reduced) :=
  Fun.okD F sc_reduced len_reduced fun cdv A outer s H E hr => have nd := sc_reduced.nd; ⟨_, r_reduced,
 (sss_cons (ss_set (i := 1) nd rfl (.inl rfl) (se_lst sa_nil))
 (sss_cons (ss_for PassesOwn.never rfl (si_iter (sv 0)) (sg_tup rfl (sgs_cons (sg_name (i := 2) nd rfl (.inl rfl)) (sgs_cons (sg_name (i := 3) nd rfl (.inl rfl)) sgs_nil)))
 (sss_cons (ss_set (i := 4) nd rfl (.inl rfl) (sv 3))
 (sss_cons (ss_if (SW.st (sw_and (st_truth (sv 1)) (sw_and1 (st_cmp (so_eq hr) (se_ix (se_ix (sv 1) (se_un su_neg se_int) (fun _ _ => rfl)) se_int (fun _ _ => rfl)) (sv 2) (nomark _)))))
 (sss_one (ss_set (i := 4) nd rfl (.inl rfl) (se_op so_add (se_ix (se_pop (sv 1)) se_int (fun _ _ => rfl)) (sv 3))))
 sss_nil)
 (sss_one (ss_if (st_cmp (so_ne hr) (sv 4) se_int (nomark _))
 (sss_one (ss_expr (se_append (sv 1) (sa_cons (se_tup (sa_cons (sv 2) (sa_cons (sv 4) sa_nil))) sa_nil))))
 sss_nil)))))
 (sss_one (ss_ret (se_callTy sc_tuple (by rfl) z_tuple (by decide +kernel) (sa_cons (sv 1) sa_nil)))))), read_reduced⟩
theorem ok_inverse (F : Fun K "inverse" "inverse" s_inverse f fd) (z_reversed : mg "reversed" = none) (z_tuple : mg "tuple" = none) :
    FnOk P w K mg base CX0 1 f fd ["word"] (spOf K sp_inverse) :=
  Fun.okD F sc_inverse len_inverse fun cdv A outer s H E hr => have nd := sc_inverse.nd; ⟨_, r_inverse,
 (sss_one (ss_ret (se_callTy sc_tuple (by rfl) z_tuple (by decide +kernel) (sa_cons (se_lc (own := [("letter", 1), ("exponent", 2)]) rfl nd (si_rev (by rfl) z_reversed (sv 0)) (blkOk_by (N := N_inverse) (sc := defScope s_inverse) (by decide +kernel)) (own_tup (owns_cons mono_name (own_name (by decide)) (owns_cons mono_name (own_name (by decide)) owns_nil))) (fun _ _ _ _ _ => (sg_tup rfl (sgs_cons (sg_name (i := 1) nd rfl (by first | exact .inl rfl | exact .inr rfl)) (sgs_cons (sg_name (i := 2) nd rfl (by first | exact .inl rfl | exact .inr rfl)) sgs_nil)))) (fun _ _ _ _ _ => sts_nil) (fun _ _ _ _ _ => (se_tup (sa_cons (sv 1) (sa_cons (se_un su_neg (sv 2)) sa_nil))))) sa_nil)))), read_inverse⟩
theorem ok_length (F : Fun K "length" "length" s_length f fd) (z_abs : mg "abs" = none) (z_sum : mg "sum" = none) :
    FnOk P w K mg base CX0 1 f fd ["word"] (spOf K sp_length) :=
  Fun.okD F sc_length len_length fun cdv A outer s H E hr => have nd := sc_length.nd; ⟨_, r_length,
 (sss_one (ss_ret (se_callB (sc_sum rfl) (by rfl) z_sum (by decide +kernel) (sa_cons (se_lc (own := [("_", 1), ("exponent", 2)]) rfl nd (si_iter (sv 0)) (blkOk_by (N := N_length) (sc := defScope s_length) (by decide +kernel)) (own_tup (owns_cons mono_name (own_name (by decide)) (owns_cons mono_name (own_name (by decide)) owns_nil))) (fun _ _ _ _ _ => (sg_tup rfl (sgs_cons (sg_name (i := 1) nd rfl (by first | exact .inl rfl | exact .inr rfl)) (sgs_cons (sg_name (i := 2) nd rfl (by first | exact .inl rfl | exact .inr rfl)) sgs_nil)))) (fun _ _ _ _ _ => sts_nil) (fun _ _ _ _ _ => (se_callB sc_abs (by rfl) z_abs (by decide +kernel) (sa_cons (sv 2) sa_nil)))) sa_nil)))), read_length⟩
theorem ok_spell (F : Fun K "spell" "spell" s_spell f fd) (z_abs : mg "abs" = none) (z_range : mg "range" = none) :
    GFn P w K mg base 1 f fd ["word"] (spGOf K sp_spell) :=
  Fun.okG F sc_spell len_spell fun cdv A outer s H E pn hr => have nd := sc_spell.nd; ⟨_, r_spell,
 (sgs_cons' (sg_for owns_gcx rfl (si_iter (sv 0)) (sg_tup rfl (sgs_cons (sg_name (i := 1) nd rfl (.inl rfl)) (sgs_cons (sg_name (i := 2) nd rfl (.inl rfl)) sgs_nil)))
 (sgs_cons' (sg_for owns_gcx rfl (si_range1 (by rfl) z_range (sa_cons (se_callB sc_abs (by rfl) z_abs (by decide +kernel) (sa_cons (sv 2) sa_nil)) sa_nil)) (sg_name (i := 3) nd rfl (.inl rfl))
 (sgs_cons' (sg_yield (se_tup (sa_cons (sv 1) (sa_cons (se_if (st_cmp so_gt (sv 2) se_int (nomark _)) se_int (se_un su_neg se_int)) sa_nil))))
 sgs_nil'))
 sgs_nil'))
 sgs_nil'), read_spell⟩
theorem ok_is_cyclically_reduced (F : Fun K "is_cyclically_reduced" "is_cyclically_reduced" s_is_cyclically_reduced f fd) (z_len : mg "len" = none) :
    FnOk P w K mg base CX0 1 f fd ["word"] (spOf K sp_is_cyclically_reduced) :=
  Fun.okD F sc_is_cyclically_reduced len_is_cyclically_reduced fun cdv A outer s H E hr => have nd := sc_is_cyclically_reduced.nd; ⟨_, r_is_cyclically_reduced,
 (sss_cons (ss_if (st_cmp so_lt (se_callB sc_len (by rfl) z_len (by decide +kernel) (sa_cons (sv 0) sa_nil)) se_int (nomark _))
 (sss_one (ss_ret se_bl))
 sss_nil)
 (sss_cons (ss_asg (se_ix (sv 0) se_int (fun _ _ => rfl)) (sg_tup rfl (sgs_cons (sg_name (i := 1) nd rfl (.inl rfl)) (sgs_cons (sg_name (i := 2) nd rfl (.inl rfl)) sgs_nil))))
 (sss_cons (ss_asg (se_ix (sv 0) (se_un su_neg se_int) (fun _ _ => rfl)) (sg_tup rfl (sgs_cons (sg_name (i := 3) nd rfl (.inl rfl)) (sgs_cons (sg_name (i := 4) nd rfl (.inl rfl)) sgs_nil))))
 (sss_one (ss_ret (se_or (se_cmp (so_ne hr) (sv 1) (sv 3) (nomark _)) (se_one (se_cmp (so_eq hr) (se_cmp so_gt (sv 2) se_int (nomark _)) (se_cmp so_gt (sv 4) se_int (nomark _)) (nomark _))))))))), read_is_cyclically_reduced⟩
theorem ok__law_pool (F : Fun K "_law_pool" "_law_pool" s__law_pool f fd) (z_len : mg "len" = none) (z_int : mg "int" = none) (z_abs : mg "abs" = none) :
    FnOk P w K mg base CX0 1 f fd ["script", "place"] (spOf K sp__law_pool) :=
  Fun.okD F sc__law_pool len__law_pool fun cdv A outer s H E hr => have nd := sc__law_pool.nd; ⟨_, r__law_pool,
 (sss_cons (ss_set (i := 2) nd rfl (.inl rfl) se_int)
 (sss_cons (ss_if (st_cmp so_lt (sv 1) (se_callB sc_len (by rfl) z_len (by decide +kernel) (sa_cons (sv 0) sa_nil)) (nomark _))
 (sss_one (ss_set (i := 2) nd rfl (.inl rfl) (se_callB sc_abs (by rfl) z_abs (by decide +kernel) (sa_cons (se_callTy sc_int1 (by rfl) z_int (by decide +kernel) (sa_cons (se_ix (sv 0) (sv 1) (fun _ _ => rfl)) sa_nil)) sa_nil))))
 sss_nil)
 (sss_cons (ss_set (i := 3) nd rfl (.inl rfl) (se_op so_add (se_op so_add (se_op so_mod (se_callTy sc_int1 (by rfl) z_int (by decide +kernel) (sa_cons (sv 2) sa_nil)) se_int) (se_op so_mul se_int (sv 1))) se_int))
 (sss_cons (ss_if (st_cmp so_lt (sv 2) (se_op so_pow se_int se_int) (nomark _))
 (sss_one (ss_set (i := 2) nd rfl (.inl rfl) se_int))
 sss_nil)
 (sss_one (ss_ret (se_lst (sa_cons (sv 2) (sa_cons se_int (sa_cons (sv 3) sa_nil)))))))))), read__law_pool⟩
theorem ok__law_draw (F : Fun K "_law_draw" "_law_draw" s__law_draw f fd) (z_int : mg "int" = none) :
    FnOk P w K mg base CX0 1 f fd ["pool", "many"] (spOf K sp__law_draw) :=
  Fun.okD F sc__law_draw len__law_draw fun cdv A outer s H E hr => have nd := sc__law_draw.nd; ⟨_, r__law_draw,
 (sss_cons (ss_if (st_cmp so_gt (se_ix (sv 0) se_int (fun _ _ => rfl)) se_int (nomark _))
 (sss_cons (ss_set (i := 2) nd rfl (.inl rfl) (se_op so_mod (se_callTy sc_int1 (by rfl) z_int (by decide +kernel) (sa_cons (se_ix (sv 0) se_int (fun _ _ => rfl)) sa_nil)) (sv 1)))
 (sss_cons (ss_asg (se_op so_fdiv (se_callTy sc_int1 (by rfl) z_int (by decide +kernel) (sa_cons (se_ix (sv 0) se_int (fun _ _ => rfl)) sa_nil)) (sv 1)) (sg_sub (sv 0) se_int))
 (sss_one (ss_ret (sv 2)))))
 sss_nil)
 (sss_cons (ss_asg (se_op so_add (se_ix (sv 0) se_int (fun _ _ => rfl)) se_int) (sg_sub (sv 0) se_int))
 (sss_cons (ss_set (i := 3) nd rfl (.inl rfl) (se_op so_mod (se_callTy sc_int1 (by rfl) z_int (by decide +kernel) (sa_cons (se_op so_add (se_op so_mul (se_ix (sv 0) se_int (fun _ _ => rfl)) se_int) (se_op so_mul (se_ix (sv 0) se_int (fun _ _ => rfl)) se_int)) sa_nil)) se_int))
 (sss_cons (ss_set (i := 3) nd rfl (.inl rfl) (se_op so_mod (se_callTy sc_int1 (by rfl) z_int (by decide +kernel) (sa_cons (se_op so_add (se_op so_mul (sv 3) (sv 3)) (se_op so_mul (se_ix (sv 0) se_int (fun _ _ => rfl)) se_int)) sa_nil)) se_int))
 (sss_cons (ss_set (i := 3) nd rfl (.inl rfl) (se_op so_mod (se_callTy sc_int1 (by rfl) z_int (by decide +kernel) (sa_cons (se_op so_add (se_op so_mul (sv 3) (sv 3)) (se_ix (sv 0) se_int (fun _ _ => rfl))) sa_nil)) se_int))
 (sss_one (ss_ret (se_op so_mod (se_callTy sc_int1 (by rfl) z_int (by decide +kernel) (sa_cons (sv 3) sa_nil)) (sv 1))))))))), read__law_draw⟩
theorem ok__law_reduce (F : Fun K "_law_reduce" "_law_reduce" s__law_reduce f fd) (z_len : mg "len" = none) (z_tuple : mg "tuple" = none) :
    FnOk P w K mg base CX0 1 f fd ["runs"] (spOf K sp__law_reduce) :=
  Fun.okD F sc__law_reduce len__law_reduce fun cdv A outer s H E hr => have nd := sc__law_reduce.nd; ⟨_, r__law_reduce,
 (sss_cons (ss_set (i := 1) nd rfl (.inl rfl) (se_lst sa_nil))
 (sss_cons (ss_for PassesOwn.never rfl (si_iter (sv 0)) (sg_name (i := 2) nd rfl (.inl rfl))
 (sss_cons (ss_set (i := 3) nd rfl (.inl rfl) (se_ix (sv 2) se_int (fun _ _ => rfl)))
 (sss_cons (ss_if (SW.st (sw_and (st_cmp so_gt (se_callB sc_len (by rfl) z_len (by decide +kernel) (sa_cons (sv 1) sa_nil)) se_int (nomark _)) (sw_and1 (st_cmp (so_eq hr) (se_ix (se_ix (sv 1) (se_un su_neg se_int) (fun _ _ => rfl)) se_int (fun _ _ => rfl)) (se_ix (sv 2) se_int (fun _ _ => rfl)) (nomark _)))))
 (sss_cons (ss_set (i := 3) nd rfl (.inl rfl) (se_op so_add (sv 3) (se_ix (se_ix (sv 1) (se_un su_neg se_int) (fun _ _ => rfl)) se_int (fun _ _ => rfl))))
 (sss_one (ss_expr (se_pop (sv 1)))))
 sss_nil)
 (sss_one (ss_if (st_cmp (so_ne hr) (sv 3) se_int (nomark _))
 (sss_one (ss_expr (se_append (sv 1) (sa_cons (se_tup (sa_cons (se_ix (sv 2) se_int (fun _ _ => rfl)) (sa_cons (sv 3) sa_nil))) sa_nil))))
 sss_nil)))))
 (sss_one (ss_ret (se_callTy sc_tuple (by rfl) z_tuple (by decide +kernel) (sa_cons (sv 1) sa_nil)))))), read__law_reduce⟩
theorem ok__law_back (F : Fun K "_law_back" "_law_back" s__law_back f fd) (z_list : mg "list" = none) (z_reversed : mg "reversed" = none) (z_tuple : mg "tuple" = none) :
    FnOk P w K mg base CX0 1 f fd ["word"] (spOf K sp__law_back) :=
  Fun.okD F sc__law_back len__law_back fun cdv A outer s H E hr => have nd := sc__law_back.nd; ⟨_, r__law_back,
 (sss_one (ss_ret (se_callTy sc_tuple (by rfl) z_tuple (by decide +kernel) (sa_cons (se_lc (own := [("run", 1)]) rfl nd (si_rev (by rfl) z_reversed (se_callTy sc_list (by rfl) z_list (by decide +kernel) (sa_cons (sv 0) sa_nil))) (blkOk_by (N := N__law_back) (sc := defScope s__law_back) (by decide +kernel)) (own_name (by decide)) (fun _ _ _ _ _ => (sg_name (i := 1) nd rfl (by first | exact .inl rfl | exact .inr rfl))) (fun _ _ _ _ _ => sts_nil) (fun _ _ _ _ _ => (se_tup (sa_cons (se_ix (sv 1) se_int (fun _ _ => rfl)) (sa_cons (se_op so_sub se_int (se_ix (sv 1) se_int (fun _ _ => rfl))) sa_nil))))) sa_nil)))), read__law_back⟩
theorem ok__law_size (F : Fun K "_law_size" "_law_size" s__law_size f fd) (z_abs : mg "abs" = none) (z_sum : mg "sum" = none) :
    FnOk P w K mg base CX0 1 f fd ["word"] (spOf K sp__law_size) :=
  Fun.okD F sc__law_size len__law_size fun cdv A outer s H E hr => have nd := sc__law_size.nd; ⟨_, r__law_size,
 (sss_one (ss_ret (se_callB (sc_sum rfl) (by rfl) z_sum (by decide +kernel) (sa_cons (se_lc (own := [("run", 1)]) rfl nd (si_iter (sv 0)) (blkOk_by (N := N__law_size) (sc := defScope s__law_size) (by decide +kernel)) (own_name (by decide)) (fun _ _ _ _ _ => (sg_name (i := 1) nd rfl (by first | exact .inl rfl | exact .inr rfl))) (fun _ _ _ _ _ => sts_nil) (fun _ _ _ _ _ => (se_callB sc_abs (by rfl) z_abs (by decide +kernel) (sa_cons (se_ix (sv 1) se_int (fun _ _ => rfl)) sa_nil)))) sa_nil)))), read__law_size⟩
theorem ok__law_spelled (F : Fun K "_law_spelled" "_law_spelled" s__law_spelled f fd) (z_abs : mg "abs" = none) (z_min : mg "min" = none) (z_range : mg "range" = none) :
    FnOk P w K mg base CX0 1 f fd ["word"] (spOf K sp__law_spelled) :=
  Fun.okD F sc__law_spelled len__law_spelled fun cdv A outer s H E hr => have nd := sc__law_spelled.nd; ⟨_, r__law_spelled,
 (sss_cons (ss_set (i := 1) nd rfl (.inl rfl) (se_lst sa_nil))
 (sss_cons (ss_for PassesOwn.never rfl (si_iter (sv 0)) (sg_name (i := 2) nd rfl (.inl rfl))
 (sss_cons (ss_set (i := 3) nd rfl (.inl rfl) se_int)
 (sss_cons (ss_if (st_cmp so_lt (se_ix (sv 2) se_int (fun _ _ => rfl)) se_int (nomark _))
 (sss_one (ss_set (i := 3) nd rfl (.inl rfl) (se_op so_sub se_int se_int)))
 sss_nil)
 (sss_one (ss_for PassesOwn.never rfl (si_range1 (by rfl) z_range (sa_cons (se_callB (sc_min rfl) (by rfl) z_min (by decide +kernel) (sa_cons (se_callB sc_abs (by rfl) z_abs (by decide +kernel) (sa_cons (se_ix (sv 2) se_int (fun _ _ => rfl)) sa_nil)) (sa_cons se_int sa_nil))) sa_nil)) (sg_name (i := 4) nd rfl (.inl rfl))
 (sss_one (ss_expr (se_append (sv 1) (sa_cons (se_tup (sa_cons (se_ix (sv 2) se_int (fun _ _ => rfl)) (sa_cons (sv 3) sa_nil))) sa_nil)))))))))
 (sss_one (ss_ret (sv 1))))), read__law_spelled⟩
theorem ok__law_is_whole (F : Fun K "_law_is_whole" "_law_is_whole" s__law_is_whole f fd) (z_int : mg "int" = none) (z_isinstance : mg "isinstance" = none) (z_bool : mg "bool" = none) :
    FnOk P w K mg base CX0 1 f fd ["value"] (spOf K sp__law_is_whole) :=
  Fun.okD F sc__law_is_whole len__law_is_whole fun cdv A outer s H E hr => have nd := sc__law_is_whole.nd; ⟨_, r__law_is_whole,
 (sss_one (ss_ret (se_and (se_callB sc_isi (by rfl) z_isinstance (by decide +kernel) (sa_cons (sv 0) (sa_cons (se_bltn (n := "int") (by rfl) z_int (by decide +kernel) rfl) sa_nil))) (se_one (se_not (se_callB sc_isi (by rfl) z_isinstance (by decide +kernel) (sa_cons (sv 0) (sa_cons (se_bltn (n := "bool") (by rfl) z_bool (by decide +kernel) rfl) sa_nil)))))))), read__law_is_whole⟩
theorem ok_multiply_all (F : Fun K "multiply_all" "multiply_all" s_multiply_all f fd) {f_reduced : Addr} {fd_reduced : FuncData} (G_reduced : FnOk P w K mg base CX0 1 f_reduced fd_reduced ["pairs"] (spOf K sp_reduced)) (m_reduced : mg "reduced" = some (.ref f_reduced)) (k_reduced : PySem.W.keepIn K (.ref f_reduced) = true) (b_reduced : Binds K fd_reduced ["pairs"] []) :
    FnOk P w K mg base CX0 2 f fd ["words"] (spOf K sp_multiply_all) :=
  Fun.okD F sc_multiply_all len_multiply_all fun cdv A outer s H E hr => have nd := sc_multiply_all.nd; ⟨_, r_multiply_all,
 (sss_one (ss_ret (se_call G_reduced (hr.mono (by decide)) (by rfl) m_reduced k_reduced b_reduced (sa_cons (se_lc2 (own := [("word", 1), ("run", 2)]) (vs1 := [2]) rfl nd (si_iter (sv 0)) (blkOk_by (N := N_multiply_all) (sc := defScope s_multiply_all) (by decide +kernel)) (by decide) (own_name (by decide)) (own_name (by decide)) (fun _ _ _ _ _ => (sg_name (i := 1) nd rfl (by first | exact .inl rfl | exact .inr rfl))) (fun _ _ _ _ _ => sts_nil) (fun _ _ _ _ _ => (si_iter (sv 1))) (fun _ _ _ _ _ => (sg_name (i := 2) nd rfl (by first | exact .inl rfl | exact .inr rfl))) (fun _ _ _ _ _ => sts_nil) (fun _ _ _ _ _ => (sv 2))) sa_nil)))), read_multiply_all⟩
theorem ok_power (F : Fun K "power" "power" s_power f fd) {f_inverse : Addr} {fd_inverse : FuncData} (G_inverse : FnOk P w K mg base CX0 1 f_inverse fd_inverse ["word"] (spOf K sp_inverse)) (m_inverse : mg "inverse" = some (.ref f_inverse)) (k_inverse : PySem.W.keepIn K (.ref f_inverse) = true) (b_inverse : Binds K fd_inverse ["word"] []) {f_reduced : Addr} {fd_reduced : FuncData} (G_reduced : FnOk P w K mg base CX0 1 f_reduced fd_reduced ["pairs"] (spOf K sp_reduced)) (m_reduced : mg "reduced" = some (.ref f_reduced)) (k_reduced : PySem.W.keepIn K (.ref f_reduced) = true) (b_reduced : Binds K fd_reduced ["pairs"] []) (z_len : mg "len" = none) (z_abs : mg "abs" = none) :
    FnOk P w K mg base CX0 2 f fd ["word", "exponent"] (spOf K sp_power) :=
  Fun.okD F sc_power len_power fun cdv A outer s H E hr => have nd := sc_power.nd; ⟨_, r_power,
 (sss_cons (ss_if (SW.st (sw_or (st_cmp (so_eq hr) (sv 0) (se_tup sa_nil) (nomark _)) (sw_or1 (st_cmp (so_eq hr) (sv 1) se_int (nomark _)))))
 (sss_one (ss_ret (se_tup sa_nil)))
 sss_nil)
 (sss_cons (ss_if (st_cmp (so_eq hr) (se_callB sc_len (by rfl) z_len (by decide +kernel) (sa_cons (sv 0) sa_nil)) se_int (nomark _))
 (sss_cons (ss_asg (se_ix (sv 0) se_int (fun _ _ => rfl)) (sg_tup rfl (sgs_cons (sg_name (i := 2) nd rfl (.inl rfl)) (sgs_cons (sg_name (i := 3) nd rfl (.inl rfl)) sgs_nil))))
 (sss_one (ss_ret (se_tup (sa_cons (se_tup (sa_cons (sv 2) (sa_cons (se_op so_mul (sv 3) (sv 1)) sa_nil))) sa_nil)))))
 sss_nil)
 (sss_cons (ss_set (i := 4) nd rfl (.inl rfl) (se_if (st_cmp so_gt (sv 1) se_int (nomark _)) (sv 0) (se_call G_inverse (hr.mono (by decide)) (by rfl) m_inverse k_inverse b_inverse (sa_cons (sv 0) sa_nil))))
 (sss_one (ss_ret (se_call G_reduced (hr.mono (by decide)) (by rfl) m_reduced k_reduced b_reduced (sa_cons (se_op so_mulT (sv 4) (se_callB sc_abs (by rfl) z_abs (by decide +kernel) (sa_cons (sv 1) sa_nil))) sa_nil))))))), read_power⟩
theorem ok_core_of (F : Fun K "core_of" "core_of" s_core_of f fd) {f_is_cyclically_reduced : Addr} {fd_is_cyclically_reduced : FuncData} (G_is_cyclically_reduced : FnOk P w K mg base CX0 1 f_is_cyclically_reduced fd_is_cyclically_reduced ["word"] (spOf K sp_is_cyclically_reduced)) (m_is_cyclically_reduced : mg "is_cyclically_reduced" = some (.ref f_is_cyclically_reduced)) (k_is_cyclically_reduced : PySem.W.keepIn K (.ref f_is_cyclically_reduced) = true) (b_is_cyclically_reduced : Binds K fd_is_cyclically_reduced ["word"] []) {f_reduced : Addr} {fd_reduced : FuncData} (G_reduced : FnOk P w K mg base CX0 1 f_reduced fd_reduced ["pairs"] (spOf K sp_reduced)) (m_reduced : mg "reduced" = some (.ref f_reduced)) (k_reduced : PySem.W.keepIn K (.ref f_reduced) = true) (b_reduced : Binds K fd_reduced ["pairs"] []) (z_len : mg "len" = none) (z_abs : mg "abs" = none) (z_tuple : mg "tuple" = none) :
    FnOk P w K mg base CX0 2 f fd ["word"] (spOf K sp_core_of) :=
  Fun.okD F sc_core_of len_core_of fun cdv A outer s H E hr => have nd := sc_core_of.nd; ⟨_, r_core_of,
 (sss_cons (ss_set (i := 1) nd rfl (.inl rfl) (se_lst sa_nil))
 (sss_cons (ss_set (i := 2) nd rfl (.inl rfl) se_int)
 (sss_cons (ss_set (i := 3) nd rfl (.inl rfl) (se_callB sc_len (by rfl) z_len (by decide +kernel) (sa_cons (sv 0) sa_nil)))
 (sss_cons (ss_while PassesOwn.never (SW.st (sw_and (st_cmp so_gt (se_op so_sub (sv 3) (sv 2)) se_int (nomark _)) (sw_and (st_cmp (so_eq hr) (se_ix (se_ix (sv 0) (sv 2) (fun _ _ => rfl)) se_int (fun _ _ => rfl)) (se_ix (se_ix (sv 0) (se_op so_sub (sv 3) se_int) (fun _ _ => rfl)) se_int (fun _ _ => rfl)) (nomark _)) (sw_and1 (st_cmp (so_eq hr) (se_ix (se_ix (sv 0) (sv 2) (fun _ _ => rfl)) se_int (fun _ _ => rfl)) (se_un su_neg (se_ix (se_ix (sv 0) (se_op so_sub (sv 3) se_int) (fun _ _ => rfl)) se_int (fun _ _ => rfl))) (nomark _))))))
 (sss_cons (ss_expr (se_append (sv 1) (sa_cons (se_ix (sv 0) (sv 2) (fun _ _ => rfl)) sa_nil)))
 (sss_cons (ss_aug (i := 2) nd rfl (.inl rfl) se_int si_add)
 (sss_one (ss_aug (i := 3) nd rfl (.inl rfl) se_int si_sub)))))
 (sss_cons (ss_set (i := 4) nd rfl (.inl rfl) (se_slice (sv 0) (so_some (sv 2)) (so_some (sv 3))))
 (sss_cons (ss_if (st_not (st_truth (se_call G_is_cyclically_reduced (hr.mono (by decide)) (by rfl) m_is_cyclically_reduced k_is_cyclically_reduced b_is_cyclically_reduced (sa_cons (sv 4) sa_nil))))
 (sss_cons (ss_asg (se_ix (sv 4) se_int (fun _ _ => rfl)) (sg_tup rfl (sgs_cons (sg_name (i := 5) nd rfl (.inl rfl)) (sgs_cons (sg_name (i := 6) nd rfl (.inl rfl)) sgs_nil))))
 (sss_cons (ss_set (i := 7) nd rfl (.inl rfl) (se_ix (se_ix (sv 4) (se_un su_neg se_int) (fun _ _ => rfl)) se_int (fun _ _ => rfl)))
 (sss_cons (ss_set (i := 8) nd rfl (.inl rfl) (se_if (st_cmp so_lt (se_callB sc_abs (by rfl) z_abs (by decide +kernel) (sa_cons (sv 6) sa_nil)) (se_callB sc_abs (by rfl) z_abs (by decide +kernel) (sa_cons (sv 7) sa_nil)) (nomark _)) (sv 6) (se_un su_neg (sv 7))))
 (sss_cons (ss_expr (se_append (sv 1) (sa_cons (se_tup (sa_cons (sv 5) (sa_cons (sv 8) sa_nil))) sa_nil)))
 (sss_one (ss_set (i := 4) nd rfl (.inl rfl) (se_call G_reduced (hr.mono (by decide)) (by rfl) m_reduced k_reduced b_reduced (sa_cons (se_lst (sa_cons (se_tup (sa_cons (sv 5) (sa_cons (se_op so_sub (sv 6) (sv 8)) sa_nil))) (sa_star (se_slice (sv 4) (so_some se_int) (so_some (se_un su_neg se_int))) (sa_cons (se_tup (sa_cons (sv 5) (sa_cons (se_op so_add (sv 7) (sv 8)) sa_nil))) sa_nil)))) sa_nil))))))))
 sss_nil)
 (sss_one (ss_ret (se_tup (sa_cons (se_callTy sc_tuple (by rfl) z_tuple (by decide +kernel) (sa_cons (sv 1) sa_nil)) (sa_cons (sv 4) sa_nil))))))))))), read_core_of⟩
theorem ok__law_join (F : Fun K "_law_join" "_law_join" s__law_join f fd) {f__law_reduce : Addr} {fd__law_reduce : FuncData} (G__law_reduce : FnOk P w K mg base CX0 1 f__law_reduce fd__law_reduce ["runs"] (spOf K sp__law_reduce)) (m__law_reduce : mg "_law_reduce" = some (.ref f__law_reduce)) (k__law_reduce : PySem.W.keepIn K (.ref f__law_reduce) = true) (b__law_reduce : Binds K fd__law_reduce ["runs"] []) (z_list : mg "list" = none) :
    FnOk P w K mg base CX0 2 f fd ["first", "second"] (spOf K sp__law_join) :=
  Fun.okD F sc__law_join len__law_join fun cdv A outer s H E hr => have nd := sc__law_join.nd; ⟨_, r__law_join,
 (sss_one (ss_ret (se_call G__law_reduce (hr.mono (by decide)) (by rfl) m__law_reduce k__law_reduce b__law_reduce (sa_cons (se_op so_add (se_callTy sc_list (by rfl) z_list (by decide +kernel) (sa_cons (sv 0) sa_nil)) (se_callTy sc_list (by rfl) z_list (by decide +kernel) (sa_cons (sv 1) sa_nil))) sa_nil)))), read__law_join⟩
theorem ok__law_times (F : Fun K "_law_times" "_law_times" s__law_times f fd) {f__law_back : Addr} {fd__law_back : FuncData} (G__law_back : FnOk P w K mg base CX0 1 f__law_back fd__law_back ["word"] (spOf K sp__law_back)) (m__law_back : mg "_law_back" = some (.ref f__law_back)) (k__law_back : PySem.W.keepIn K (.ref f__law_back) = true) (b__law_back : Binds K fd__law_back ["word"] []) {f__law_reduce : Addr} {fd__law_reduce : FuncData} (G__law_reduce : FnOk P w K mg base CX0 1 f__law_reduce fd__law_reduce ["runs"] (spOf K sp__law_reduce)) (m__law_reduce : mg "_law_reduce" = some (.ref f__law_reduce)) (k__law_reduce : PySem.W.keepIn K (.ref f__law_reduce) = true) (b__law_reduce : Binds K fd__law_reduce ["runs"] []) (z_list : mg "list" = none) (z_abs : mg "abs" = none) (z_min : mg "min" = none) (z_range : mg "range" = none) :
    FnOk P w K mg base CX0 2 f fd ["word", "times"] (spOf K sp__law_times) :=
  Fun.okD F sc__law_times len__law_times fun cdv A outer s H E hr => have nd := sc__law_times.nd; ⟨_, r__law_times,
 (sss_cons (ss_set (i := 2) nd rfl (.inl rfl) (se_callTy sc_list (by rfl) z_list (by decide +kernel) (sa_cons (sv 0) sa_nil)))
 (sss_cons (ss_if (st_cmp so_lt (sv 1) se_int (nomark _))
 (sss_one (ss_set (i := 2) nd rfl (.inl rfl) (se_callTy sc_list (by rfl) z_list (by decide +kernel) (sa_cons (se_call G__law_back (hr.mono (by decide)) (by rfl) m__law_back k__law_back b__law_back (sa_cons (sv 0) sa_nil)) sa_nil))))
 sss_nil)
 (sss_cons (ss_set (i := 3) nd rfl (.inl rfl) (se_lst sa_nil))
 (sss_cons (ss_for PassesOwn.never rfl (si_range1 (by rfl) z_range (sa_cons (se_callB (sc_min rfl) (by rfl) z_min (by decide +kernel) (sa_cons (se_callB sc_abs (by rfl) z_abs (by decide +kernel) (sa_cons (sv 1) sa_nil)) (sa_cons se_int sa_nil))) sa_nil)) (sg_name (i := 4) nd rfl (.inl rfl))
 (sss_one (ss_expr (se_extend (sv 3) (sa_cons (sv 2) sa_nil)))))
 (sss_one (ss_ret (se_call G__law_reduce (hr.mono (by decide)) (by rfl) m__law_reduce k__law_reduce b__law_reduce (sa_cons (sv 3) sa_nil)))))))), read__law_times⟩
theorem ok__law_core (F : Fun K "_law_core" "_law_core" s__law_core f fd) {f__law_spelled : Addr} {fd__law_spelled : FuncData} (G__law_spelled : FnOk P w K mg base CX0 1 f__law_spelled fd__law_spelled ["word"] (spOf K sp__law_spelled)) (m__law_spelled : mg "_law_spelled" = some (.ref f__law_spelled)) (k__law_spelled : PySem.W.keepIn K (.ref f__law_spelled) = true) (b__law_spelled : Binds K fd__law_spelled ["word"] []) {f__law_reduce : Addr} {fd__law_reduce : FuncData} (G__law_reduce : FnOk P w K mg base CX0 1 f__law_reduce fd__law_reduce ["runs"] (spOf K sp__law_reduce)) (m__law_reduce : mg "_law_reduce" = some (.ref f__law_reduce)) (k__law_reduce : PySem.W.keepIn K (.ref f__law_reduce) = true) (b__law_reduce : Binds K fd__law_reduce ["runs"] []) (z_len : mg "len" = none) (z_range : mg "range" = none) :
    FnOk P w K mg base CX0 2 f fd ["word"] (spOf K sp__law_core) :=
  Fun.okD F sc__law_core len__law_core fun cdv A outer s H E hr => have nd := sc__law_core.nd; ⟨_, r__law_core,
 (sss_cons (ss_set (i := 1) nd rfl (.inl rfl) (se_call G__law_spelled (hr.mono (by decide)) (by rfl) m__law_spelled k__law_spelled b__law_spelled (sa_cons (sv 0) sa_nil)))
 (sss_cons (ss_set (i := 2) nd rfl (.inl rfl) se_int)
 (sss_cons (ss_set (i := 3) nd rfl (.inl rfl) (se_callB sc_len (by rfl) z_len (by decide +kernel) (sa_cons (sv 1) sa_nil)))
 (sss_cons (ss_for PassesOwn.never rfl (si_range1 (by rfl) z_range (sa_cons (se_callB sc_len (by rfl) z_len (by decide +kernel) (sa_cons (sv 1) sa_nil)) sa_nil)) (sg_name (i := 4) nd rfl (.inl rfl))
 (sss_one (ss_if (SW.st (sw_and (st_cmp so_gt (se_op so_sub (sv 3) (sv 2)) se_int (nomark _)) (sw_and (st_cmp (so_eq hr) (se_ix (se_ix (sv 1) (sv 2) (fun _ _ => rfl)) se_int (fun _ _ => rfl)) (se_ix (se_ix (sv 1) (se_op so_sub (sv 3) se_int) (fun _ _ => rfl)) se_int (fun _ _ => rfl)) (nomark _)) (sw_and1 (st_cmp (so_eq hr) (se_op so_add (se_ix (se_ix (sv 1) (sv 2) (fun _ _ => rfl)) se_int (fun _ _ => rfl)) (se_ix (se_ix (sv 1) (se_op so_sub (sv 3) se_int) (fun _ _ => rfl)) se_int (fun _ _ => rfl))) se_int (nomark _))))))
 (sss_cons (ss_set (i := 2) nd rfl (.inl rfl) (se_op so_add (sv 2) se_int))
 (sss_one (ss_set (i := 3) nd rfl (.inl rfl) (se_op so_sub (sv 3) se_int))))
 sss_nil)))
 (sss_one (ss_ret (se_tup (sa_cons (se_call G__law_reduce (hr.mono (by decide)) (by rfl) m__law_reduce k__law_reduce b__law_reduce (sa_cons (se_slice (sv 1) so_none (so_some (sv 2))) sa_nil)) (sa_cons (se_call G__law_reduce (hr.mono (by decide)) (by rfl) m__law_reduce k__law_reduce b__law_reduce (sa_cons (se_slice (sv 1) (so_some (sv 2)) (so_some (sv 3))) sa_nil)) sa_nil))))))))), read__law_core⟩
theorem ok__law_full (F : Fun K "_law_full" "_law_full" s__law_full f fd) {f__law_draw : Addr} {fd__law_draw : FuncData} (G__law_draw : FnOk P w K mg base CX0 1 f__law_draw fd__law_draw ["pool", "many"] (spOf K sp__law_draw)) (m__law_draw : mg "_law_draw" = some (.ref f__law_draw)) (k__law_draw : PySem.W.keepIn K (.ref f__law_draw) = true) (b__law_draw : Binds K fd__law_draw ["pool", "many"] []) {f__law_reduce : Addr} {fd__law_reduce : FuncData} (G__law_reduce : FnOk P w K mg base CX0 1 f__law_reduce fd__law_reduce ["runs"] (spOf K sp__law_reduce)) (m__law_reduce : mg "_law_reduce" = some (.ref f__law_reduce)) (k__law_reduce : PySem.W.keepIn K (.ref f__law_reduce) = true) (b__law_reduce : Binds K fd__law_reduce ["runs"] []) (z_range : mg "range" = none) (z_len : mg "len" = none) :
    FnOk P w K mg base CX0 2 f fd ["pool", "alphabet", "size"] (spOf K sp__law_full) :=
  Fun.okD F sc__law_full len__law_full fun cdv A outer s H E hr => have nd := sc__law_full.nd; ⟨_, r__law_full,
 (sss_cons (ss_set (i := 3) nd rfl (.inl rfl) (se_lst sa_nil))
 (sss_cons (ss_for PassesOwn.never rfl (si_range1 (by rfl) z_range (sa_cons (sv 2) sa_nil)) (sg_name (i := 4) nd rfl (.inl rfl))
 (sss_cons (ss_set (i := 5) nd rfl (.inl rfl) (se_ix (sv 1) (se_call G__law_draw (hr.mono (by decide)) (by rfl) m__law_draw k__law_draw b__law_draw (sa_cons (sv 0) (sa_cons (se_callB sc_len (by rfl) z_len (by decide +kernel) (sa_cons (sv 1) sa_nil)) sa_nil))) (fun _ _ => rfl)))
 (sss_cons (ss_set (i := 6) nd rfl (.inl rfl) (se_op so_sub se_int (se_op so_mul se_int (se_call G__law_draw (hr.mono (by decide)) (by rfl) m__law_draw k__law_draw b__law_draw (sa_cons (sv 0) (sa_cons se_int sa_nil))))))
 (sss_cons (ss_if (SW.st (sw_and (st_cmp so_gt (se_callB sc_len (by rfl) z_len (by decide +kernel) (sa_cons (sv 3) sa_nil)) se_int (nomark _)) (sw_and1 (st_cmp (so_eq hr) (se_ix (se_ix (sv 3) (se_un su_neg se_int) (fun _ _ => rfl)) se_int (fun _ _ => rfl)) (sv 5) (nomark _)))))
 (sss_one (ss_set (i := 6) nd rfl (.inl rfl) (se_ix (se_ix (sv 3) (se_un su_neg se_int) (fun _ _ => rfl)) se_int (fun _ _ => rfl))))
 sss_nil)
 (sss_one (ss_expr (se_append (sv 3) (sa_cons (se_tup (sa_cons (sv 5) (sa_cons (sv 6) sa_nil))) sa_nil))))))))
 (sss_one (ss_ret (se_call G__law_reduce (hr.mono (by decide)) (by rfl) m__law_reduce k__law_reduce b__law_reduce (sa_cons (sv 3) sa_nil)))))), read__law_full⟩
theorem ok__law_is_letter (F : Fun K "_law_is_letter" "_law_is_letter" s__law_is_letter f fd) {f__law_is_whole : Addr} {fd__law_is_whole : FuncData} (G__law_is_whole : FnOk P w K mg base CX0 1 f__law_is_whole fd__law_is_whole ["value"] (spOf K sp__law_is_whole)) (m__law_is_whole : mg "_law_is_whole" = some (.ref f__law_is_whole)) (k__law_is_whole : PySem.W.keepIn K (.ref f__law_is_whole) = true) (b__law_is_whole : Binds K fd__law_is_whole ["value"] []) (z_tuple : mg "tuple" = none) (z_isinstance : mg "isinstance" = none) (z_len : mg "len" = none) (z_str : mg "str" = none) :
    FnOk P w K mg base CX0 2 f fd ["value"] (spOf K sp__law_is_letter) :=
  Fun.okD F sc__law_is_letter len__law_is_letter fun cdv A outer s H E hr => have nd := sc__law_is_letter.nd; ⟨_, r__law_is_letter,
 (sss_cons (ss_if (SW.st (sw_or (st_not (st_truth (se_callB sc_isi (by rfl) z_isinstance (by decide +kernel) (sa_cons (sv 0) (sa_cons (se_bltn (n := "tuple") (by rfl) z_tuple (by decide +kernel) rfl) sa_nil))))) (sw_or (st_cmp (so_eq hr) (se_callB sc_len (by rfl) z_len (by decide +kernel) (sa_cons (sv 0) sa_nil)) se_int (nomark _)) (sw_or1 (st_not (st_truth (se_callB sc_isi (by rfl) z_isinstance (by decide +kernel) (sa_cons (se_ix (sv 0) se_int (fun _ _ => rfl)) (sa_cons (se_bltn (n := "str") (by rfl) z_str (by decide +kernel) rfl) sa_nil)))))))))
 (sss_one (ss_ret se_bl))
 sss_nil)
 (sss_cons (ss_for PassesOwn.never rfl (si_iter (se_slice (sv 0) (so_some se_int) so_none)) (sg_name (i := 1) nd rfl (.inl rfl))
 (sss_one (ss_if (st_not (st_truth (se_call G__law_is_whole (hr.mono (by decide)) (by rfl) m__law_is_whole k__law_is_whole b__law_is_whole (sa_cons (sv 1) sa_nil))))
 (sss_one (ss_ret se_bl))
 sss_nil)))
 (sss_one (ss_ret se_bl)))), read__law_is_letter⟩
theorem ok__law_root_exponent (F : Fun K "_law_root_exponent" "_law_root_exponent" s__law_root_exponent f fd) {f__law_spelled : Addr} {fd__law_spelled : FuncData} (G__law_spelled : FnOk P w K mg base CX0 1 f__law_spelled fd__law_spelled ["word"] (spOf K sp__law_spelled)) (m__law_spelled : mg "_law_spelled" = some (.ref f__law_spelled)) (k__law_spelled : PySem.W.keepIn K (.ref f__law_spelled) = true) (b__law_spelled : Binds K fd__law_spelled ["word"] []) (z_len : mg "len" = none) (z_range : mg "range" = none) :
    FnOk P w K mg base CX0 2 f fd ["rule"] (spOf K sp__law_root_exponent) :=
  Fun.okD F sc__law_root_exponent len__law_root_exponent fun cdv A outer s H E hr => have nd := sc__law_root_exponent.nd; ⟨_, r__law_root_exponent,
 (sss_cons (ss_set (i := 1) nd rfl (.inl rfl) (se_call G__law_spelled (hr.mono (by decide)) (by rfl) m__law_spelled k__law_spelled b__law_spelled (sa_cons (sv 0) sa_nil)))
 (sss_cons (ss_set (i := 2) nd rfl (.inl rfl) se_int)
 (sss_cons (ss_for PassesOwn.never rfl (si_range2 (by rfl) z_range (sa_cons se_int (sa_cons (se_op so_add (se_callB sc_len (by rfl) z_len (by decide +kernel) (sa_cons (sv 1) sa_nil)) se_int) sa_nil))) (sg_name (i := 3) nd rfl (.inl rfl))
 (sss_cons (ss_set (i := 4) nd rfl (.inl rfl) (se_op so_fdiv (se_callB sc_len (by rfl) z_len (by decide +kernel) (sa_cons (sv 1) sa_nil)) (sv 3)))
 (sss_one (ss_if (SW.st (sw_and (st_cmp (so_eq hr) (se_op so_mul (sv 4) (sv 3)) (se_callB sc_len (by rfl) z_len (by decide +kernel) (sa_cons (sv 1) sa_nil)) (nomark _)) (sw_and1 (st_cmp (so_eq hr) (se_op so_mul (se_slice (sv 1) so_none (so_some (sv 4))) (sv 3)) (sv 1) (nomark _)))))
 (sss_one (ss_set (i := 2) nd rfl (.inl rfl) (sv 3)))
 sss_nil))))
 (sss_one (ss_ret (sv 2)))))), read__law_root_exponent⟩
theorem ok__law_alphabet (F : Fun K "_law_alphabet" "_law_alphabet" s__law_alphabet f fd) {f__law_draw : Addr} {fd__law_draw : FuncData} (G__law_draw : FnOk P w K mg base CX0 1 f__law_draw fd__law_draw ["pool", "many"] (spOf K sp__law_draw)) (m__law_draw : mg "_law_draw" = some (.ref f__law_draw)) (k__law_draw : PySem.W.keepIn K (.ref f__law_draw) = true) (b__law_draw : Binds K fd__law_draw ["pool", "many"] []) (z_range : mg "range" = none) (z_len : mg "len" = none) (z_list : mg "list" = none) (z_tuple : mg "tuple" = none) :
    FnOk P w K mg base CX0 2 f fd ["pool", "most"] (spOf K sp__law_alphabet) :=
  Fun.okD F sc__law_alphabet len__law_alphabet fun cdv A outer s H E hr => have nd := sc__law_alphabet.nd; ⟨_, r__law_alphabet,
 (sss_cons (ss_set (i := 2) nd rfl (.inl rfl) se_str)
 (sss_cons (ss_set (i := 3) nd rfl (.inl rfl) (se_ix (se_lst (sa_cons se_int (sa_cons se_int (sa_cons se_int (sa_cons se_int (sa_cons se_int (sa_cons se_int (sa_cons se_int (sa_cons se_int (sa_cons se_int sa_nil)))))))))) (se_call G__law_draw (hr.mono (by decide)) (by rfl) m__law_draw k__law_draw b__law_draw (sa_cons (sv 0) (sa_cons se_int sa_nil))) (fun _ _ => rfl)))
 (sss_cons (ss_set (i := 4) nd rfl (.inl rfl) (se_call G__law_draw (hr.mono (by decide)) (by rfl) m__law_draw k__law_draw b__law_draw (sa_cons (sv 0) (sa_cons se_int sa_nil))))
 (sss_cons (ss_set (i := 5) nd rfl (.inl rfl) (se_call G__law_draw (hr.mono (by decide)) (by rfl) m__law_draw k__law_draw b__law_draw (sa_cons (sv 0) (sa_cons se_int sa_nil))))
 (sss_cons (ss_set (i := 6) nd rfl (.inl rfl) (se_lst sa_nil))
 (sss_cons (ss_for PassesOwn.never rfl (si_range1 (by rfl) z_range (sa_cons (se_op so_add se_int (se_call G__law_draw (hr.mono (by decide)) (by rfl) m__law_draw k__law_draw b__law_draw (sa_cons (sv 0) (sa_cons (sv 1) sa_nil)))) sa_nil)) (sg_name (i := 7) nd rfl (.inl rfl))
 (sss_gc (sss_cons (ss_set (i := 8) nd rfl (.inl rfl) (se_lst (sa_cons (se_ix (sv 2) (se_call G__law_draw (hr.mono (by decide)) (by rfl) m__law_draw k__law_draw b__law_draw (sa_cons (sv 0) (sa_cons se_int sa_nil))) (fun _ _ => rfl)) sa_nil)))
 (sss_cons (ss_for PassesOwn.never rfl (si_range1 (by rfl) z_range (sa_cons (sv 3) sa_nil)) (sg_name (i := 9) nd rfl (.inl rfl))
 (sss_gc (sss_cons (ss_set (i := 10) nd rfl (.inl rfl) (se_ix (se_lst (sa_cons (se_op so_sub se_int se_int) (sa_cons (se_op so_sub se_int se_int) (sa_cons se_int (sa_cons se_int (sa_cons se_int sa_nil)))))) (se_call G__law_draw (hr.mono (by decide)) (by rfl) m__law_draw k__law_draw b__law_draw (sa_cons (sv 0) (sa_cons se_int sa_nil))) (fun _ _ => rfl)))
 (sss_cons (ss_if (st_cmp (so_eq hr) (sv 4) se_int (nomark _))
 (sss_one (ss_set (i := 10) nd rfl (.inl rfl) (se_op so_sub (se_call G__law_draw (hr.mono (by decide)) (by rfl) m__law_draw k__law_draw b__law_draw (sa_cons (sv 0) (sa_cons se_int sa_nil))) se_int)))
 sss_nil)
 (sss_one (ss_expr (se_append (sv 8) (sa_cons (sv 10) sa_nil))))))))
 (sss_cons (ss_if (SW.st (sw_and (st_cmp (so_eq hr) (sv 5) se_int (nomark _)) (sw_and1 (st_cmp so_gt (se_callB sc_len (by rfl) z_len (by decide +kernel) (sa_cons (sv 6) sa_nil)) se_int (nomark _)))))
 (sss_cons (ss_set (i := 11) nd rfl (.inl rfl) (se_call G__law_draw (hr.mono (by decide)) (by rfl) m__law_draw k__law_draw b__law_draw (sa_cons (sv 0) (sa_cons (se_op so_add (sv 3) se_int) sa_nil))))
 (sss_one (ss_set (i := 8) nd rfl (.inl rfl) (se_op so_add (se_op so_add (se_callTy sc_list (by rfl) z_list (by decide +kernel) (sa_cons (se_slice (se_ix (sv 6) se_int (fun _ _ => rfl)) so_none (so_some (sv 11))) sa_nil)) (se_lst (sa_cons (se_ix (sv 8) (sv 11) (fun _ _ => rfl)) sa_nil))) (se_callTy sc_list (by rfl) z_list (by decide +kernel) (sa_cons (se_slice (se_ix (sv 6) se_int (fun _ _ => rfl)) (so_some (se_op so_add (sv 11) se_int)) so_none) sa_nil))))))
 sss_nil)
 (sss_one (ss_if (st_cmp (so_notIn hr) (se_callTy sc_tuple (by rfl) z_tuple (by decide +kernel) (sa_cons (sv 8) sa_nil)) (sv 6) (by rfl))
 (sss_one (ss_expr (se_append (sv 6) (sa_cons (se_callTy sc_tuple (by rfl) z_tuple (by decide +kernel) (sa_cons (sv 8) sa_nil)) sa_nil))))
 sss_nil)))))))
 (sss_one (ss_ret (sv 6))))))))), read__law_alphabet⟩
theorem ok__law_power_is (F : Fun K "_law_power_is" "_law_power_is" s__law_power_is f fd) {f__law_is_whole : Addr} {fd__law_is_whole : FuncData} (G__law_is_whole : FnOk P w K mg base CX0 1 f__law_is_whole fd__law_is_whole ["value"] (spOf K sp__law_is_whole)) (m__law_is_whole : mg "_law_is_whole" = some (.ref f__law_is_whole)) (k__law_is_whole : PySem.W.keepIn K (.ref f__law_is_whole) = true) (b__law_is_whole : Binds K fd__law_is_whole ["value"] []) :
    FnOk P w K mg base CX0 2 f fd ["actual", "due"] (spOf K sp__law_power_is) :=
  Fun.okD F sc__law_power_is len__law_power_is fun cdv A outer s H E hr => have nd := sc__law_power_is.nd; ⟨_, r__law_power_is,
 (sss_cons (ss_if (st_cmp so_isN (sv 1) se_non (nomark _))
 (sss_one (ss_ret (se_cmp so_isN (sv 0) se_non (nomark _))))
 sss_nil)
 (sss_one (ss_ret (se_and (se_call G__law_is_whole (hr.mono (by decide)) (by rfl) m__law_is_whole k__law_is_whole b__law_is_whole (sa_cons (sv 0) sa_nil)) (se_one (se_cmp (so_eq hr) (sv 0) (sv 1) (nomark _))))))), read__law_power_is⟩
theorem ok_conjugated (F : Fun K "conjugated" "conjugated" s_conjugated f fd) {f_multiply_all : Addr} {fd_multiply_all : FuncData} (G_multiply_all : FnOk P w K mg base CX0 2 f_multiply_all fd_multiply_all ["words"] (spOf K sp_multiply_all)) (m_multiply_all : mg "multiply_all" = some (.ref f_multiply_all)) (k_multiply_all : PySem.W.keepIn K (.ref f_multiply_all) = true) (b_multiply_all : Binds K fd_multiply_all ["words"] []) {f_inverse : Addr} {fd_inverse : FuncData} (G_inverse : FnOk P w K mg base CX0 1 f_inverse fd_inverse ["word"] (spOf K sp_inverse)) (m_inverse : mg "inverse" = some (.ref f_inverse)) (k_inverse : PySem.W.keepIn K (.ref f_inverse) = true) (b_inverse : Binds K fd_inverse ["word"] []) :
    FnOk P w K mg base CX0 3 f fd ["word", "by"] (spOf K sp_conjugated) :=
  Fun.okD F sc_conjugated len_conjugated fun cdv A outer s H E hr => have nd := sc_conjugated.nd; ⟨_, r_conjugated,
 (sss_one (ss_ret (se_call G_multiply_all (hr.mono (by decide)) (by rfl) m_multiply_all k_multiply_all b_multiply_all (sa_cons (se_lst (sa_cons (sv 1) (sa_cons (sv 0) (sa_cons (se_call G_inverse (hr.mono (by decide)) (by rfl) m_inverse k_inverse b_inverse (sa_cons (sv 1) sa_nil)) sa_nil)))) sa_nil)))), read_conjugated⟩
theorem ok_exponent_of (F : Fun K "exponent_of" "exponent_of" s_exponent_of f fd) {f_core_of : Addr} {fd_core_of : FuncData} (G_core_of : FnOk P w K mg base CX0 2 f_core_of fd_core_of ["word"] (spOf K sp_core_of)) (m_core_of : mg "core_of" = some (.ref f_core_of)) (k_core_of : PySem.W.keepIn K (.ref f_core_of) = true) (b_core_of : Binds K fd_core_of ["word"] []) {f_length : Addr} {fd_length : FuncData} (G_length : FnOk P w K mg base CX0 1 f_length fd_length ["word"] (spOf K sp_length)) (m_length : mg "length" = some (.ref f_length)) (k_length : PySem.W.keepIn K (.ref f_length) = true) (b_length : Binds K fd_length ["word"] []) {f_power : Addr} {fd_power : FuncData} (G_power : FnOk P w K mg base CX0 2 f_power fd_power ["word", "exponent"] (spOf K sp_power)) (m_power : mg "power" = some (.ref f_power)) (k_power : PySem.W.keepIn K (.ref f_power) = true) (b_power : Binds K fd_power ["word", "exponent"] []) (z_divmod : mg "divmod" = none) (z_len : mg "len" = none) :
    FnOk P w K mg base CX0 3 f fd ["word", "base"] (spOf K sp_exponent_of) :=
  Fun.okD F sc_exponent_of len_exponent_of fun cdv A outer s H E hr => have nd := sc_exponent_of.nd; ⟨_, r_exponent_of,
 (sss_cons (ss_if (st_cmp (so_eq hr) (sv 0) (se_tup sa_nil) (nomark _))
 (sss_one (ss_ret se_int))
 sss_nil)
 (sss_cons (ss_asg (se_call G_core_of (hr.mono (by decide)) (by rfl) m_core_of k_core_of b_core_of (sa_cons (sv 1) sa_nil)) (sg_tup rfl (sgs_cons (sg_name (i := 2) nd rfl (.inl rfl)) (sgs_cons (sg_name (i := 3) nd rfl (.inl rfl)) sgs_nil))))
 (sss_cons (ss_asg (se_call G_core_of (hr.mono (by decide)) (by rfl) m_core_of k_core_of b_core_of (sa_cons (sv 0) sa_nil)) (sg_tup rfl (sgs_cons (sg_name (i := 4) nd rfl (.inl rfl)) (sgs_cons (sg_name (i := 5) nd rfl (.inl rfl)) sgs_nil))))
 (sss_cons (ss_asg (se_callB sc_divmod (by rfl) z_divmod (by decide +kernel) (sa_cons (se_call G_length (hr.mono (by decide)) (by rfl) m_length k_length b_length (sa_cons (sv 5) sa_nil)) (sa_cons (se_call G_length (hr.mono (by decide)) (by rfl) m_length k_length b_length (sa_cons (sv 3) sa_nil)) sa_nil))) (sg_tup rfl (sgs_cons (sg_name (i := 6) nd rfl (.inl rfl)) (sgs_cons (sg_name (i := 7) nd rfl (.inl rfl)) sgs_nil))))
 (sss_cons (ss_if (SW.st (sw_or (st_cmp (so_ne hr) (sv 4) (sv 2) (nomark _)) (sw_or1 (st_cmp (so_ne hr) (sv 7) se_int (nomark _)))))
 (sss_one (ss_ret se_non))
 sss_nil)
 (sss_cons (ss_if (SW.st (sw_and (st_cmp so_gt (se_callB sc_len (by rfl) z_len (by decide +kernel) (sa_cons (sv 3) sa_nil)) se_int (nomark _)) (sw_and1 (st_cmp so_gt (sv 6) (se_callB sc_len (by rfl) z_len (by decide +kernel) (sa_cons (sv 5) sa_nil)) (nomark _)))))
 (sss_one (ss_ret se_non))
 sss_nil)
 (sss_cons (ss_for PassesOwn.never rfl (si_iter (se_tup (sa_cons (sv 6) (sa_cons (se_un su_neg (sv 6)) sa_nil)))) (sg_name (i := 8) nd rfl (.inl rfl))
 (sss_one (ss_if (st_cmp (so_eq hr) (se_call G_power (hr.mono (by decide)) (by rfl) m_power k_power b_power (sa_cons (sv 3) (sa_cons (sv 8) sa_nil))) (sv 5) (nomark _))
 (sss_one (ss_ret (sv 8)))
 sss_nil)))
 (sss_one (ss_ret se_non))))))))), read_exponent_of⟩
theorem ok__law_is_word (F : Fun K "_law_is_word" "_law_is_word" s__law_is_word f fd) {f__law_is_letter : Addr} {fd__law_is_letter : FuncData} (G__law_is_letter : FnOk P w K mg base CX0 2 f__law_is_letter fd__law_is_letter ["value"] (spOf K sp__law_is_letter)) (m__law_is_letter : mg "_law_is_letter" = some (.ref f__law_is_letter)) (k__law_is_letter : PySem.W.keepIn K (.ref f__law_is_letter) = true) (b__law_is_letter : Binds K fd__law_is_letter ["value"] []) {f__law_is_whole : Addr} {fd__law_is_whole : FuncData} (G__law_is_whole : FnOk P w K mg base CX0 1 f__law_is_whole fd__law_is_whole ["value"] (spOf K sp__law_is_whole)) (m__law_is_whole : mg "_law_is_whole" = some (.ref f__law_is_whole)) (k__law_is_whole : PySem.W.keepIn K (.ref f__law_is_whole) = true) (b__law_is_whole : Binds K fd__law_is_whole ["value"] []) (z_tuple : mg "tuple" = none) (z_isinstance : mg "isinstance" = none) (z_len : mg "len" = none) :
    FnOk P w K mg base CX0 3 f fd ["value"] (spOf K sp__law_is_word) :=
  Fun.okD F sc__law_is_word len__law_is_word fun cdv A outer s H E hr => have nd := sc__law_is_word.nd; ⟨_, r__law_is_word,
 (sss_cons (ss_if (st_not (st_truth (se_callB sc_isi (by rfl) z_isinstance (by decide +kernel) (sa_cons (sv 0) (sa_cons (se_bltn (n := "tuple") (by rfl) z_tuple (by decide +kernel) rfl) sa_nil)))))
 (sss_one (ss_ret se_bl))
 sss_nil)
 (sss_cons (ss_set (i := 1) nd rfl (.inl rfl) (se_tup sa_nil))
 (sss_cons (ss_for PassesOwn.never rfl (si_iter (sv 0)) (sg_name (i := 2) nd rfl (.inl rfl))
 (sss_cons (ss_if (SW.st (sw_or (st_not (st_truth (se_callB sc_isi (by rfl) z_isinstance (by decide +kernel) (sa_cons (sv 2) (sa_cons (se_bltn (n := "tuple") (by rfl) z_tuple (by decide +kernel) rfl) sa_nil))))) (sw_or1 (st_cmp (so_ne hr) (se_callB sc_len (by rfl) z_len (by decide +kernel) (sa_cons (sv 2) sa_nil)) se_int (nomark _)))))
 (sss_one (ss_ret se_bl))
 sss_nil)
 (sss_cons (ss_if (SW.st (sw_or (st_not (st_truth (se_call G__law_is_letter (hr.mono (by decide)) (by rfl) m__law_is_letter k__law_is_letter b__law_is_letter (sa_cons (se_ix (sv 2) se_int (fun _ _ => rfl)) sa_nil)))) (sw_or1 (st_not (st_truth (se_call G__law_is_whole (hr.mono (by decide)) (by rfl) m__law_is_whole k__law_is_whole b__law_is_whole (sa_cons (se_ix (sv 2) se_int (fun _ _ => rfl)) sa_nil)))))))
 (sss_one (ss_ret se_bl))
 sss_nil)
 (sss_cons (ss_if (SW.st (sw_or (st_cmp (so_eq hr) (se_ix (sv 2) se_int (fun _ _ => rfl)) se_int (nomark _)) (sw_or1 (st_cmp (so_eq hr) (se_ix (sv 2) se_int (fun _ _ => rfl)) (sv 1) (nomark _)))))
 (sss_one (ss_ret se_bl))
 sss_nil)
 (sss_one (ss_set (i := 1) nd rfl (.inl rfl) (se_ix (sv 2) se_int (fun _ _ => rfl))))))))
 (sss_one (ss_ret se_bl))))), read__law_is_word⟩
theorem ok__law_between (F : Fun K "_law_between" "_law_between" s__law_between f fd) {f__law_join : Addr} {fd__law_join : FuncData} (G__law_join : FnOk P w K mg base CX0 2 f__law_join fd__law_join ["first", "second"] (spOf K sp__law_join)) (m__law_join : mg "_law_join" = some (.ref f__law_join)) (k__law_join : PySem.W.keepIn K (.ref f__law_join) = true) (b__law_join : Binds K fd__law_join ["first", "second"] []) {f__law_back : Addr} {fd__law_back : FuncData} (G__law_back : FnOk P w K mg base CX0 1 f__law_back fd__law_back ["word"] (spOf K sp__law_back)) (m__law_back : mg "_law_back" = some (.ref f__law_back)) (k__law_back : PySem.W.keepIn K (.ref f__law_back) = true) (b__law_back : Binds K fd__law_back ["word"] []) :
    FnOk P w K mg base CX0 3 f fd ["outer", "inner"] (spOf K sp__law_between) :=
  Fun.okD F sc__law_between len__law_between fun cdv A outer s H E hr => have nd := sc__law_between.nd; ⟨_, r__law_between,
 (sss_one (ss_ret (se_call G__law_join (hr.mono (by decide)) (by rfl) m__law_join k__law_join b__law_join (sa_cons (se_call G__law_join (hr.mono (by decide)) (by rfl) m__law_join k__law_join b__law_join (sa_cons (sv 0) (sa_cons (sv 1) sa_nil))) (sa_cons (se_call G__law_back (hr.mono (by decide)) (by rfl) m__law_back k__law_back b__law_back (sa_cons (sv 0) sa_nil)) sa_nil))))), read__law_between⟩
theorem ok__law_base (F : Fun K "_law_base" "_law_base" s__law_base f fd) {f__law_draw : Addr} {fd__law_draw : FuncData} (G__law_draw : FnOk P w K mg base CX0 1 f__law_draw fd__law_draw ["pool", "many"] (spOf K sp__law_draw)) (m__law_draw : mg "_law_draw" = some (.ref f__law_draw)) (k__law_draw : PySem.W.keepIn K (.ref f__law_draw) = true) (b__law_draw : Binds K fd__law_draw ["pool", "many"] []) {f__law_join : Addr} {fd__law_join : FuncData} (G__law_join : FnOk P w K mg base CX0 2 f__law_join fd__law_join ["first", "second"] (spOf K sp__law_join)) (m__law_join : mg "_law_join" = some (.ref f__law_join)) (k__law_join : PySem.W.keepIn K (.ref f__law_join) = true) (b__law_join : Binds K fd__law_join ["first", "second"] []) {f__law_back : Addr} {fd__law_back : FuncData} (G__law_back : FnOk P w K mg base CX0 1 f__law_back fd__law_back ["word"] (spOf K sp__law_back)) (m__law_back : mg "_law_back" = some (.ref f__law_back)) (k__law_back : PySem.W.keepIn K (.ref f__law_back) = true) (b__law_back : Binds K fd__law_back ["word"] []) {f__law_full : Addr} {fd__law_full : FuncData} (G__law_full : FnOk P w K mg base CX0 2 f__law_full fd__law_full ["pool", "alphabet", "size"] (spOf K sp__law_full)) (m__law_full : mg "_law_full" = some (.ref f__law_full)) (k__law_full : PySem.W.keepIn K (.ref f__law_full) = true) (b__law_full : Binds K fd__law_full ["pool", "alphabet", "size"] []) (z_len : mg "len" = none) :
    FnOk P w K mg base CX0 3 f fd ["pool", "alphabet", "rooted"] (spOf K sp__law_base) :=
  Fun.okD F sc__law_base len__law_base fun cdv A outer s H E hr => have nd := sc__law_base.nd; ⟨_, r__law_base,
 (sss_cons (ss_set (i := 3) nd rfl (.inl rfl) (se_call G__law_draw (hr.mono (by decide)) (by rfl) m__law_draw k__law_draw b__law_draw (sa_cons (sv 0) (sa_cons se_int sa_nil))))
 (sss_cons (ss_if (st_cmp (so_eq hr) (sv 3) se_int (nomark _))
 (sss_one (ss_ret (sv 2)))
 sss_nil)
 (sss_cons (ss_if (st_cmp (so_eq hr) (sv 3) se_int (nomark _))
 (sss_one (ss_ret (se_call G__law_join (hr.mono (by decide)) (by rfl) m__law_join k__law_join b__law_join (sa_cons (sv 2) (sa_cons (sv 2) sa_nil)))))
 sss_nil)
 (sss_cons (ss_if (st_cmp (so_eq hr) (sv 3) se_int (nomark _))
 (sss_one (ss_ret (se_call G__law_back (hr.mono (by decide)) (by rfl) m__law_back k__law_back b__law_back (sa_cons (sv 2) sa_nil))))
 sss_nil)
 (sss_cons (ss_if (st_cmp (so_eq hr) (sv 3) se_int (nomark _))
 (sss_one (ss_ret (se_tup (sa_cons (se_tup (sa_cons (se_ix (sv 1) (se_call G__law_draw (hr.mono (by decide)) (by rfl) m__law_draw k__law_draw b__law_draw (sa_cons (sv 0) (sa_cons (se_callB sc_len (by rfl) z_len (by decide +kernel) (sa_cons (sv 1) sa_nil)) sa_nil))) (fun _ _ => rfl)) (sa_cons (se_op so_sub se_int (se_op so_mul se_int (se_call G__law_draw (hr.mono (by decide)) (by rfl) m__law_draw k__law_draw b__law_draw (sa_cons (sv 0) (sa_cons se_int sa_nil))))) sa_nil))) sa_nil))))
 sss_nil)
 (sss_one (ss_ret (se_call G__law_full (hr.mono (by decide)) (by rfl) m__law_full k__law_full b__law_full (sa_cons (sv 0) (sa_cons (sv 1) (sa_cons (se_op so_add se_int (se_call G__law_draw (hr.mono (by decide)) (by rfl) m__law_draw k__law_draw b__law_draw (sa_cons (sv 0) (sa_cons se_int sa_nil)))) sa_nil))))))))))), read__law_base⟩
theorem ok__law_power_due (F : Fun K "_law_power_due" "_law_power_due" s__law_power_due f fd) {f__law_back : Addr} {fd__law_back : FuncData} (G__law_back : FnOk P w K mg base CX0 1 f__law_back fd__law_back ["word"] (spOf K sp__law_back)) (m__law_back : mg "_law_back" = some (.ref f__law_back)) (k__law_back : PySem.W.keepIn K (.ref f__law_back) = true) (b__law_back : Binds K fd__law_back ["word"] []) {f__law_size : Addr} {fd__law_size : FuncData} (G__law_size : FnOk P w K mg base CX0 1 f__law_size fd__law_size ["word"] (spOf K sp__law_size)) (m__law_size : mg "_law_size" = some (.ref f__law_size)) (k__law_size : PySem.W.keepIn K (.ref f__law_size) = true) (b__law_size : Binds K fd__law_size ["word"] []) {f__law_join : Addr} {fd__law_join : FuncData} (G__law_join : FnOk P w K mg base CX0 2 f__law_join fd__law_join ["first", "second"] (spOf K sp__law_join)) (m__law_join : mg "_law_join" = some (.ref f__law_join)) (k__law_join : PySem.W.keepIn K (.ref f__law_join) = true) (b__law_join : Binds K fd__law_join ["first", "second"] []) (z_range : mg "range" = none) :
    FnOk P w K mg base CX0 3 f fd ["word", "base"] (spOf K sp__law_power_due) :=
  Fun.okD F sc__law_power_due len__law_power_due fun cdv A outer s H E hr => have nd := sc__law_power_due.nd; ⟨_, r__law_power_due,
 (sss_cons (ss_set (i := 2) nd rfl (.inl rfl) (se_tup sa_nil))
 (sss_cons (ss_for PassesOwn.never rfl (si_range1 (by rfl) z_range (sa_cons se_int sa_nil)) (sg_name (i := 3) nd rfl (.inl rfl))
 (sss_cons (ss_if (st_cmp (so_eq hr) (sv 2) (sv 0) (nomark _))
 (sss_one (ss_ret (sv 3)))
 sss_nil)
 (sss_cons (ss_if (st_cmp (so_eq hr) (sv 2) (se_call G__law_back (hr.mono (by decide)) (by rfl) m__law_back k__law_back b__law_back (sa_cons (sv 0) sa_nil)) (nomark _))
 (sss_one (ss_ret (se_op so_sub se_int (sv 3))))
 sss_nil)
 (sss_cons (ss_if (st_cmp so_gt (se_call G__law_size (hr.mono (by decide)) (by rfl) m__law_size k__law_size b__law_size (sa_cons (sv 2) sa_nil)) (se_call G__law_size (hr.mono (by decide)) (by rfl) m__law_size k__law_size b__law_size (sa_cons (sv 0) sa_nil)) (nomark _))
 (sss_one (ss_ret se_non))
 sss_nil)
 (sss_one (ss_set (i := 2) nd rfl (.inl rfl) (se_call G__law_join (hr.mono (by decide)) (by rfl) m__law_join k__law_join b__law_join (sa_cons (sv 2) (sa_cons (sv 1) sa_nil)))))))))
 (sss_one (ss_ret se_non)))), read__law_power_due⟩
theorem ok__law_second (F : Fun K "_law_second" "_law_second" s__law_second f fd) {f__law_draw : Addr} {fd__law_draw : FuncData} (G__law_draw : FnOk P w K mg base CX0 1 f__law_draw fd__law_draw ["pool", "many"] (spOf K sp__law_draw)) (m__law_draw : mg "_law_draw" = some (.ref f__law_draw)) (k__law_draw : PySem.W.keepIn K (.ref f__law_draw) = true) (b__law_draw : Binds K fd__law_draw ["pool", "many"] []) {f__law_spelled : Addr} {fd__law_spelled : FuncData} (G__law_spelled : FnOk P w K mg base CX0 1 f__law_spelled fd__law_spelled ["word"] (spOf K sp__law_spelled)) (m__law_spelled : mg "_law_spelled" = some (.ref f__law_spelled)) (k__law_spelled : PySem.W.keepIn K (.ref f__law_spelled) = true) (b__law_spelled : Binds K fd__law_spelled ["word"] []) {f__law_times : Addr} {fd__law_times : FuncData} (G__law_times : FnOk P w K mg base CX0 2 f__law_times fd__law_times ["word", "times"] (spOf K sp__law_times)) (m__law_times : mg "_law_times" = some (.ref f__law_times)) (k__law_times : PySem.W.keepIn K (.ref f__law_times) = true) (b__law_times : Binds K fd__law_times ["word", "times"] []) {f__law_reduce : Addr} {fd__law_reduce : FuncData} (G__law_reduce : FnOk P w K mg base CX0 1 f__law_reduce fd__law_reduce ["runs"] (spOf K sp__law_reduce)) (m__law_reduce : mg "_law_reduce" = some (.ref f__law_reduce)) (k__law_reduce : PySem.W.keepIn K (.ref f__law_reduce) = true) (b__law_reduce : Binds K fd__law_reduce ["runs"] []) {f__law_core : Addr} {fd__law_core : FuncData} (G__law_core : FnOk P w K mg base CX0 2 f__law_core fd__law_core ["word"] (spOf K sp__law_core)) (m__law_core : mg "_law_core" = some (.ref f__law_core)) (k__law_core : PySem.W.keepIn K (.ref f__law_core) = true) (b__law_core : Binds K fd__law_core ["word"] []) {f__law_between : Addr} {fd__law_between : FuncData} (G__law_between : FnOk P w K mg base CX0 3 f__law_between fd__law_between ["outer", "inner"] (spOf K sp__law_between)) (m__law_between : mg "_law_between" = some (.ref f__law_between)) (k__law_between : PySem.W.keepIn K (.ref f__law_between) = true) (b__law_between : Binds K fd__law_between ["outer", "inner"] []) {f__law_full : Addr} {fd__law_full : FuncData} (G__law_full : FnOk P w K mg base CX0 2 f__law_full fd__law_full ["pool", "alphabet", "size"] (spOf K sp__law_full)) (m__law_full : mg "_law_full" = some (.ref f__law_full)) (k__law_full : PySem.W.keepIn K (.ref f__law_full) = true) (b__law_full : Binds K fd__law_full ["pool", "alphabet", "size"] []) {f__law_size : Addr} {fd__law_size : FuncData} (G__law_size : FnOk P w K mg base CX0 1 f__law_size fd__law_size ["word"] (spOf K sp__law_size)) (m__law_size : mg "_law_size" = some (.ref f__law_size)) (k__law_size : PySem.W.keepIn K (.ref f__law_size) = true) (b__law_size : Binds K fd__law_size ["word"] []) (z_len : mg "len" = none) :
    FnOk P w K mg base CX0 4 f fd ["pool", "alphabet", "first", "rooted"] (spOf K sp__law_second) :=
  Fun.okD F sc__law_second len__law_second fun cdv A outer s H E hr => have nd := sc__law_second.nd; ⟨_, r__law_second,
 (sss_cons (ss_set (i := 4) nd rfl (.inl rfl) (se_call G__law_draw (hr.mono (by decide)) (by rfl) m__law_draw k__law_draw b__law_draw (sa_cons (sv 0) (sa_cons se_int sa_nil))))
 (sss_cons (ss_set (i := 5) nd rfl (.inl rfl) (se_call G__law_spelled (hr.mono (by decide)) (by rfl) m__law_spelled k__law_spelled b__law_spelled (sa_cons (sv 2) sa_nil)))
 (sss_cons (ss_set (i := 6) nd rfl (.inl rfl) (se_tup (sa_cons (se_ix (sv 1) (se_call G__law_draw (hr.mono (by decide)) (by rfl) m__law_draw k__law_draw b__law_draw (sa_cons (sv 0) (sa_cons (se_callB sc_len (by rfl) z_len (by decide +kernel) (sa_cons (sv 1) sa_nil)) sa_nil))) (fun _ _ => rfl)) (sa_cons (se_op so_sub se_int (se_op so_mul se_int (se_call G__law_draw (hr.mono (by decide)) (by rfl) m__law_draw k__law_draw b__law_draw (sa_cons (sv 0) (sa_cons se_int sa_nil))))) sa_nil))))
 (sss_cons (ss_if (st_cmp so_lt (sv 4) se_int (nomark _))
 (sss_one (ss_set (i := 7) nd rfl (.inl rfl) (se_call G__law_times (hr.mono (by decide)) (by rfl) m__law_times k__law_times b__law_times (sa_cons (sv 3) (sa_cons (se_op so_sub (se_call G__law_draw (hr.mono (by decide)) (by rfl) m__law_draw k__law_draw b__law_draw (sa_cons (sv 0) (sa_cons se_int sa_nil))) se_int) sa_nil)))))
 (sss_one (ss_if (st_cmp (so_eq hr) (sv 4) se_int (nomark _))
 (sss_one (ss_set (i := 7) nd rfl (.inl rfl) (se_call G__law_reduce (hr.mono (by decide)) (by rfl) m__law_reduce k__law_reduce b__law_reduce (sa_cons (se_op so_add (sv 5) (se_lst (sa_cons (sv 6) sa_nil))) sa_nil))))
 (sss_one (ss_if (st_cmp (so_eq hr) (sv 4) se_int (nomark _))
 (sss_one (ss_set (i := 7) nd rfl (.inl rfl) (se_call G__law_reduce (hr.mono (by decide)) (by rfl) m__law_reduce k__law_reduce b__law_reduce (sa_cons (se_op so_add (se_lst (sa_cons (sv 6) sa_nil)) (sv 5)) sa_nil))))
 (sss_one (ss_if (SW.st (sw_and (st_cmp (so_eq hr) (sv 4) se_int (nomark _)) (sw_and1 (st_cmp so_gt (se_callB sc_len (by rfl) z_len (by decide +kernel) (sa_cons (sv 5) sa_nil)) se_int (nomark _)))))
 (sss_cons (ss_set (i := 8) nd rfl (.inl rfl) (se_call G__law_draw (hr.mono (by decide)) (by rfl) m__law_draw k__law_draw b__law_draw (sa_cons (sv 0) (sa_cons (se_op so_sub (se_callB sc_len (by rfl) z_len (by decide +kernel) (sa_cons (sv 5) sa_nil)) se_int) sa_nil))))
 (sss_one (ss_set (i := 7) nd rfl (.inl rfl) (se_call G__law_reduce (hr.mono (by decide)) (by rfl) m__law_reduce k__law_reduce b__law_reduce (sa_cons (se_op so_add (se_op so_add (se_slice (sv 5) so_none (so_some (sv 8))) (se_lst (sa_cons (se_ix (sv 5) (se_op so_add (sv 8) se_int) (fun _ _ => rfl)) (sa_cons (se_ix (sv 5) (sv 8) (fun _ _ => rfl)) sa_nil)))) (se_slice (sv 5) (so_some (se_op so_add (sv 8) se_int)) so_none)) sa_nil)))))
 (sss_one (ss_if (st_cmp (so_eq hr) (sv 4) se_int (nomark _))
 (sss_one (ss_set (i := 7) nd rfl (.inl rfl) (se_ix (se_call G__law_core (hr.mono (by decide)) (by rfl) m__law_core k__law_core b__law_core (sa_cons (sv 2) sa_nil)) se_int (fun _ _ => rfl))))
 (sss_one (ss_if (st_cmp (so_eq hr) (sv 4) se_int (nomark _))
 (sss_one (ss_set (i := 7) nd rfl (.inl rfl) (se_call G__law_between (hr.mono (by decide)) (by rfl) m__law_between k__law_between b__law_between (sa_cons (se_call G__law_full (hr.mono (by decide)) (by rfl) m__law_full k__law_full b__law_full (sa_cons (sv 0) (sa_cons (sv 1) (sa_cons (se_op so_add se_int (se_call G__law_draw (hr.mono (by decide)) (by rfl) m__law_draw k__law_draw b__law_draw (sa_cons (sv 0) (sa_cons se_int sa_nil)))) sa_nil)))) (sa_cons (sv 2) sa_nil)))))
 (sss_one (ss_set (i := 7) nd rfl (.inl rfl) (se_call G__law_full (hr.mono (by decide)) (by rfl) m__law_full k__law_full b__law_full (sa_cons (sv 0) (sa_cons (sv 1) (sa_cons (se_call G__law_draw (hr.mono (by decide)) (by rfl) m__law_draw k__law_draw b__law_draw (sa_cons (sv 0) (sa_cons se_int sa_nil))) sa_nil)))))))))))))))))
 (sss_cons (ss_if (st_cmp so_gt (se_call G__law_size (hr.mono (by decide)) (by rfl) m__law_size k__law_size b__law_size (sa_cons (sv 7) sa_nil)) se_int (nomark _))
 (sss_one (ss_ret (se_tup sa_nil)))
 sss_nil)
 (sss_one (ss_ret (sv 7)))))))), read__law_second⟩
theorem ok__law_rooted (F : Fun K "_law_rooted" "_law_rooted" s__law_rooted f fd) {f__law_is_word : Addr} {fd__law_is_word : FuncData} (G__law_is_word : FnOk P w K mg base CX0 3 f__law_is_word fd__law_is_word ["value"] (spOf K sp__law_is_word)) (m__law_is_word : mg "_law_is_word" = some (.ref f__law_is_word)) (k__law_is_word : PySem.W.keepIn K (.ref f__law_is_word) = true) (b__law_is_word : Binds K fd__law_is_word ["value"] []) {f__law_is_whole : Addr} {fd__law_is_whole : FuncData} (G__law_is_whole : FnOk P w K mg base CX0 1 f__law_is_whole fd__law_is_whole ["value"] (spOf K sp__law_is_whole)) (m__law_is_whole : mg "_law_is_whole" = some (.ref f__law_is_whole)) (k__law_is_whole : PySem.W.keepIn K (.ref f__law_is_whole) = true) (b__law_is_whole : Binds K fd__law_is_whole ["value"] []) {f__law_root_exponent : Addr} {fd__law_root_exponent : FuncData} (G__law_root_exponent : FnOk P w K mg base CX0 2 f__law_root_exponent fd__law_root_exponent ["rule"] (spOf K sp__law_root_exponent)) (m__law_root_exponent : mg "_law_root_exponent" = some (.ref f__law_root_exponent)) (k__law_root_exponent : PySem.W.keepIn K (.ref f__law_root_exponent) = true) (b__law_root_exponent : Binds K fd__law_root_exponent ["rule"] []) {f__law_core : Addr} {fd__law_core : FuncData} (G__law_core : FnOk P w K mg base CX0 2 f__law_core fd__law_core ["word"] (spOf K sp__law_core)) (m__law_core : mg "_law_core" = some (.ref f__law_core)) (k__law_core : PySem.W.keepIn K (.ref f__law_core) = true) (b__law_core : Binds K fd__law_core ["word"] []) {f__law_times : Addr} {fd__law_times : FuncData} (G__law_times : FnOk P w K mg base CX0 2 f__law_times fd__law_times ["word", "times"] (spOf K sp__law_times)) (m__law_times : mg "_law_times" = some (.ref f__law_times)) (k__law_times : PySem.W.keepIn K (.ref f__law_times) = true) (b__law_times : Binds K fd__law_times ["word", "times"] []) (z_tuple : mg "tuple" = none) (z_isinstance : mg "isinstance" = none) (z_len : mg "len" = none) :
    FnOk P w K mg base CX0 4 f fd ["word", "told"] (spOf K sp__law_rooted) :=
  Fun.okD F sc__law_rooted len__law_rooted fun cdv A outer s H E hr => have nd := sc__law_rooted.nd; ⟨_, r__law_rooted,
 (sss_cons (ss_if (SW.st (sw_or (st_not (st_truth (se_callB sc_isi (by rfl) z_isinstance (by decide +kernel) (sa_cons (sv 1) (sa_cons (se_bltn (n := "tuple") (by rfl) z_tuple (by decide +kernel) rfl) sa_nil))))) (sw_or1 (st_cmp (so_ne hr) (se_callB sc_len (by rfl) z_len (by decide +kernel) (sa_cons (sv 1) sa_nil)) se_int (nomark _)))))
 (sss_one (ss_ret se_bl))
 sss_nil)
 (sss_cons (ss_if (SW.st (sw_or (st_not (st_truth (se_call G__law_is_word (hr.mono (by decide)) (by rfl) m__law_is_word k__law_is_word b__law_is_word (sa_cons (se_ix (sv 1) se_int (fun _ _ => rfl)) sa_nil)))) (sw_or1 (st_not (st_truth (se_call G__law_is_whole (hr.mono (by decide)) (by rfl) m__law_is_whole k__law_is_whole b__law_is_whole (sa_cons (se_ix (sv 1) se_int (fun _ _ => rfl)) sa_nil)))))))
 (sss_one (ss_ret se_bl))
 sss_nil)
 (sss_cons (ss_if (st_cmp (so_ne hr) (se_ix (sv 1) se_int (fun _ _ => rfl)) (se_call G__law_root_exponent (hr.mono (by decide)) (by rfl) m__law_root_exponent k__law_root_exponent b__law_root_exponent (sa_cons (se_ix (se_call G__law_core (hr.mono (by decide)) (by rfl) m__law_core k__law_core b__law_core (sa_cons (sv 0) sa_nil)) se_int (fun _ _ => rfl)) sa_nil)) (nomark _))
 (sss_one (ss_ret se_bl))
 sss_nil)
 (sss_one (ss_ret (se_cmp (so_eq hr) (se_call G__law_times (hr.mono (by decide)) (by rfl) m__law_times k__law_times b__law_times (sa_cons (se_ix (sv 1) se_int (fun _ _ => rfl)) (sa_cons (se_ix (sv 1) se_int (fun _ _ => rfl)) sa_nil))) (sv 0) (nomark _))))))), read__law_rooted⟩
theorem ok_rotation (F : Fun K "rotation" "rotation" s_rotation f fd) {f_spell : Addr} {fd_spell : FuncData} (G_spell : GFn P w K mg base 1 f_spell fd_spell ["word"] (spGOf K sp_spell)) (m_spell : mg "spell" = some (.ref f_spell)) (k_spell : PySem.W.keepIn K (.ref f_spell) = true) (b_spell : Binds K fd_spell ["word"] []) {f_reduced : Addr} {fd_reduced : FuncData} (G_reduced : FnOk P w K mg base CX0 1 f_reduced fd_reduced ["pairs"] (spOf K sp_reduced)) (m_reduced : mg "reduced" = some (.ref f_reduced)) (k_reduced : PySem.W.keepIn K (.ref f_reduced) = true) (b_reduced : Binds K fd_reduced ["pairs"] []) (z_list : mg "list" = none) :
    FnOk P w K mg base CX0 5 f fd ["word", "count"] (spOf K sp_rotation) :=
  Fun.okD F sc_rotation len_rotation fun cdv A outer s H E hr => have nd := sc_rotation.nd; ⟨_, r_rotation,
 (sss_cons (ss_set (i := 2) nd rfl (.inl rfl) (se_listG G_spell (hr.mono (by decide)) (by rfl) m_spell k_spell b_spell (by rfl) z_list (sa_cons (sv 0) sa_nil)))
 (sss_one (ss_ret (se_call G_reduced (hr.mono (by decide)) (by rfl) m_reduced k_reduced b_reduced (sa_cons (se_op so_add (se_slice (sv 2) (so_some (sv 1)) so_none) (se_slice (sv 2) so_none (so_some (sv 1)))) sa_nil))))), read_rotation⟩
theorem ok_root (F : Fun K "root" "root" s_root f fd) {f_core_of : Addr} {fd_core_of : FuncData} (G_core_of : FnOk P w K mg base CX0 2 f_core_of fd_core_of ["word"] (spOf K sp_core_of)) (m_core_of : mg "core_of" = some (.ref f_core_of)) (k_core_of : PySem.W.keepIn K (.ref f_core_of) = true) (b_core_of : Binds K fd_core_of ["word"] []) {f_spell : Addr} {fd_spell : FuncData} (G_spell : GFn P w K mg base 1 f_spell fd_spell ["word"] (spGOf K sp_spell)) (m_spell : mg "spell" = some (.ref f_spell)) (k_spell : PySem.W.keepIn K (.ref f_spell) = true) (b_spell : Binds K fd_spell ["word"] []) {f_rotation : Addr} {fd_rotation : FuncData} (G_rotation : FnOk P w K mg base CX0 5 f_rotation fd_rotation ["word", "count"] (spOf K sp_rotation)) (m_rotation : mg "rotation" = some (.ref f_rotation)) (k_rotation : PySem.W.keepIn K (.ref f_rotation) = true) (b_rotation : Binds K fd_rotation ["word", "count"] []) {f_conjugated : Addr} {fd_conjugated : FuncData} (G_conjugated : FnOk P w K mg base CX0 3 f_conjugated fd_conjugated ["word", "by"] (spOf K sp_conjugated)) (m_conjugated : mg "conjugated" = some (.ref f_conjugated)) (k_conjugated : PySem.W.keepIn K (.ref f_conjugated) = true) (b_conjugated : KBinds K fd_conjugated ["word", "by"] ["by"] (gK 1 1) (gK 1 1)) {f_reduced : Addr} {fd_reduced : FuncData} (G_reduced : FnOk P w K mg base CX0 1 f_reduced fd_reduced ["pairs"] (spOf K sp_reduced)) (m_reduced : mg "reduced" = some (.ref f_reduced)) (k_reduced : PySem.W.keepIn K (.ref f_reduced) = true) (b_reduced : Binds K fd_reduced ["pairs"] []) (z_list : mg "list" = none) (z_len : mg "len" = none) :
    FnOk P w K mg base CX0 6 f fd ["word"] (spOf K sp_root) :=
  Fun.okD F sc_root len_root fun cdv A outer s H E hr => have nd := sc_root.nd; ⟨_, r_root,
 (sss_cons (ss_asg (se_call G_core_of (hr.mono (by decide)) (by rfl) m_core_of k_core_of b_core_of (sa_cons (sv 0) sa_nil)) (sg_tup rfl (sgs_cons (sg_name (i := 1) nd rfl (.inl rfl)) (sgs_cons (sg_name (i := 2) nd rfl (.inl rfl)) sgs_nil))))
 (sss_cons (ss_set (i := 3) nd rfl (.inl rfl) (se_listG G_spell (hr.mono (by decide)) (by rfl) m_spell k_spell b_spell (by rfl) z_list (sa_cons (sv 2) sa_nil)))
 (sss_cons (ss_set (i := 4) nd rfl (.inl rfl) se_int)
 (sss_cons (ss_while PassesOwn.never (SW.st (sw_or (st_cmp (so_ne hr) (se_op so_mod (se_callB sc_len (by rfl) z_len (by decide +kernel) (sa_cons (sv 3) sa_nil)) (sv 4)) se_int (nomark _)) (sw_or1 (st_cmp (so_ne hr) (se_call G_rotation (hr.mono (by decide)) (by rfl) m_rotation k_rotation b_rotation (sa_cons (sv 2) (sa_cons (sv 4) sa_nil))) (sv 2) (nomark _)))))
 (sss_one (ss_aug (i := 4) nd rfl (.inl rfl) se_int si_add)))
 (sss_one (ss_ret (se_tup (sa_cons (se_callK G_conjugated (hr.mono (by decide)) (by rfl) m_conjugated k_conjugated b_conjugated (sa_cons (se_call G_reduced (hr.mono (by decide)) (by rfl) m_reduced k_reduced b_reduced (sa_cons (se_slice (sv 3) so_none (so_some (sv 4))) sa_nil)) sa_nil) (sk_cons (sv 1) sk_nil)) (sa_cons (se_op so_fdiv (se_callB sc_len (by rfl) z_len (by decide +kernel) (sa_cons (sv 3) sa_nil)) (sv 4)) sa_nil))))))))), read_root⟩
theorem ok_law (F : Fun K "law" "law" s_law f fd) {f__law_pool : Addr} {fd__law_pool : FuncData} (G__law_pool : FnOk P w K mg base CX0 1 f__law_pool fd__law_pool ["script", "place"] (spOf K sp__law_pool)) (m__law_pool : mg "_law_pool" = some (.ref f__law_pool)) (k__law_pool : PySem.W.keepIn K (.ref f__law_pool) = true) (b__law_pool : Binds K fd__law_pool ["script", "place"] []) {f__law_alphabet : Addr} {fd__law_alphabet : FuncData} (G__law_alphabet : FnOk P w K mg base CX0 2 f__law_alphabet fd__law_alphabet ["pool", "most"] (spOf K sp__law_alphabet)) (m__law_alphabet : mg "_law_alphabet" = some (.ref f__law_alphabet)) (k__law_alphabet : PySem.W.keepIn K (.ref f__law_alphabet) = true) (b__law_alphabet : Binds K fd__law_alphabet ["pool", "most"] []) {f__law_draw : Addr} {fd__law_draw : FuncData} (G__law_draw : FnOk P w K mg base CX0 1 f__law_draw fd__law_draw ["pool", "many"] (spOf K sp__law_draw)) (m__law_draw : mg "_law_draw" = some (.ref f__law_draw)) (k__law_draw : PySem.W.keepIn K (.ref f__law_draw) = true) (b__law_draw : Binds K fd__law_draw ["pool", "many"] []) {f__law_full : Addr} {fd__law_full : FuncData} (G__law_full : FnOk P w K mg base CX0 2 f__law_full fd__law_full ["pool", "alphabet", "size"] (spOf K sp__law_full)) (m__law_full : mg "_law_full" = some (.ref f__law_full)) (k__law_full : PySem.W.keepIn K (.ref f__law_full) = true) (b__law_full : Binds K fd__law_full ["pool", "alphabet", "size"] []) {f__law_between : Addr} {fd__law_between : FuncData} (G__law_between : FnOk P w K mg base CX0 3 f__law_between fd__law_between ["outer", "inner"] (spOf K sp__law_between)) (m__law_between : mg "_law_between" = some (.ref f__law_between)) (k__law_between : PySem.W.keepIn K (.ref f__law_between) = true) (b__law_between : Binds K fd__law_between ["outer", "inner"] []) {f__law_times : Addr} {fd__law_times : FuncData} (G__law_times : FnOk P w K mg base CX0 2 f__law_times fd__law_times ["word", "times"] (spOf K sp__law_times)) (m__law_times : mg "_law_times" = some (.ref f__law_times)) (k__law_times : PySem.W.keepIn K (.ref f__law_times) = true) (b__law_times : Binds K fd__law_times ["word", "times"] []) {f__law_second : Addr} {fd__law_second : FuncData} (G__law_second : FnOk P w K mg base CX0 4 f__law_second fd__law_second ["pool", "alphabet", "first", "rooted"] (spOf K sp__law_second)) (m__law_second : mg "_law_second" = some (.ref f__law_second)) (k__law_second : PySem.W.keepIn K (.ref f__law_second) = true) (b__law_second : Binds K fd__law_second ["pool", "alphabet", "first", "rooted"] []) {f__law_base : Addr} {fd__law_base : FuncData} (G__law_base : FnOk P w K mg base CX0 3 f__law_base fd__law_base ["pool", "alphabet", "rooted"] (spOf K sp__law_base)) (m__law_base : mg "_law_base" = some (.ref f__law_base)) (k__law_base : PySem.W.keepIn K (.ref f__law_base) = true) (b__law_base : Binds K fd__law_base ["pool", "alphabet", "rooted"] []) {f_root : Addr} {fd_root : FuncData} (G_root : FnOk P w K mg base CX0 6 f_root fd_root ["word"] (spOf K sp_root)) (m_root : mg "root" = some (.ref f_root)) (k_root : PySem.W.keepIn K (.ref f_root) = true) (b_root : Binds K fd_root ["word"] []) {f__law_rooted : Addr} {fd__law_rooted : FuncData} (G__law_rooted : FnOk P w K mg base CX0 4 f__law_rooted fd__law_rooted ["word", "told"] (spOf K sp__law_rooted)) (m__law_rooted : mg "_law_rooted" = some (.ref f__law_rooted)) (k__law_rooted : PySem.W.keepIn K (.ref f__law_rooted) = true) (b__law_rooted : Binds K fd__law_rooted ["word", "told"] []) {f__law_back : Addr} {fd__law_back : FuncData} (G__law_back : FnOk P w K mg base CX0 1 f__law_back fd__law_back ["word"] (spOf K sp__law_back)) (m__law_back : mg "_law_back" = some (.ref f__law_back)) (k__law_back : PySem.W.keepIn K (.ref f__law_back) = true) (b__law_back : Binds K fd__law_back ["word"] []) {f__law_power_is : Addr} {fd__law_power_is : FuncData} (G__law_power_is : FnOk P w K mg base CX0 2 f__law_power_is fd__law_power_is ["actual", "due"] (spOf K sp__law_power_is)) (m__law_power_is : mg "_law_power_is" = some (.ref f__law_power_is)) (k__law_power_is : PySem.W.keepIn K (.ref f__law_power_is) = true) (b__law_power_is : Binds K fd__law_power_is ["actual", "due"] []) {f_exponent_of : Addr} {fd_exponent_of : FuncData} (G_exponent_of : FnOk P w K mg base CX0 3 f_exponent_of fd_exponent_of ["word", "base"] (spOf K sp_exponent_of)) (m_exponent_of : mg "exponent_of" = some (.ref f_exponent_of)) (k_exponent_of : PySem.W.keepIn K (.ref f_exponent_of) = true) (b_exponent_of : Binds K fd_exponent_of ["word", "base"] []) {f__law_join : Addr} {fd__law_join : FuncData} (G__law_join : FnOk P w K mg base CX0 2 f__law_join fd__law_join ["first", "second"] (spOf K sp__law_join)) (m__law_join : mg "_law_join" = some (.ref f__law_join)) (k__law_join : PySem.W.keepIn K (.ref f__law_join) = true) (b__law_join : Binds K fd__law_join ["first", "second"] []) {f__law_is_whole : Addr} {fd__law_is_whole : FuncData} (G__law_is_whole : FnOk P w K mg base CX0 1 f__law_is_whole fd__law_is_whole ["value"] (spOf K sp__law_is_whole)) (m__law_is_whole : mg "_law_is_whole" = some (.ref f__law_is_whole)) (k__law_is_whole : PySem.W.keepIn K (.ref f__law_is_whole) = true) (b__law_is_whole : Binds K fd__law_is_whole ["value"] []) {f__law_power_due : Addr} {fd__law_power_due : FuncData} (G__law_power_due : FnOk P w K mg base CX0 3 f__law_power_due fd__law_power_due ["word", "base"] (spOf K sp__law_power_due)) (m__law_power_due : mg "_law_power_due" = some (.ref f__law_power_due)) (k__law_power_due : PySem.W.keepIn K (.ref f__law_power_due) = true) (b__law_power_due : Binds K fd__law_power_due ["word", "base"] []) (z_abs : mg "abs" = none) :
    FnOk P w K mg base CX0 7 f fd ["script"] (spOf K sp_law) :=
  Fun.okD F sc_law len_law fun cdv A outer s H E hr => have nd := sc_law.nd; ⟨_, r_law,
 (sss_cons (ss_set (i := 1) nd rfl (.inl rfl) (se_call G__law_pool (hr.mono (by decide)) (by rfl) m__law_pool k__law_pool b__law_pool (sa_cons (sv 0) (sa_cons se_int sa_nil))))
 (sss_cons (ss_set (i := 2) nd rfl (.inl rfl) (se_call G__law_alphabet (hr.mono (by decide)) (by rfl) m__law_alphabet k__law_alphabet b__law_alphabet (sa_cons (sv 1) (sa_cons se_int sa_nil))))
 (sss_cons (ss_if (st_cmp (so_eq hr) (se_call G__law_draw (hr.mono (by decide)) (by rfl) m__law_draw k__law_draw b__law_draw (sa_cons (sv 1) (sa_cons se_int sa_nil))) se_int (nomark _))
 (sss_one (ss_set (i := 2) nd rfl (.inl rfl) (se_op so_add (sv 2) (se_lst (sa_cons (se_tup (sa_cons se_str sa_nil)) sa_nil)))))
 sss_nil)
 (sss_cons (ss_set (i := 1) nd rfl (.inl rfl) (se_call G__law_pool (hr.mono (by decide)) (by rfl) m__law_pool k__law_pool b__law_pool (sa_cons (sv 0) (sa_cons se_int sa_nil))))
 (sss_cons (ss_set (i := 3) nd rfl (.inl rfl) (se_call G__law_full (hr.mono (by decide)) (by rfl) m__law_full k__law_full b__law_full (sa_cons (sv 1) (sa_cons (sv 2) (sa_cons (se_call G__law_draw (hr.mono (by decide)) (by rfl) m__law_draw k__law_draw b__law_draw (sa_cons (sv 1) (sa_cons se_int sa_nil))) sa_nil)))))
 (sss_cons (ss_set (i := 4) nd rfl (.inl rfl) (se_call G__law_between (hr.mono (by decide)) (by rfl) m__law_between k__law_between b__law_between (sa_cons (sv 3) (sa_cons (se_call G__law_full (hr.mono (by decide)) (by rfl) m__law_full k__law_full b__law_full (sa_cons (sv 1) (sa_cons (sv 2) (sa_cons (se_op so_add se_int (se_call G__law_draw (hr.mono (by decide)) (by rfl) m__law_draw k__law_draw b__law_draw (sa_cons (sv 1) (sa_cons se_int sa_nil)))) sa_nil)))) sa_nil))))
 (sss_cons (ss_set (i := 5) nd rfl (.inl rfl) (se_call G__law_times (hr.mono (by decide)) (by rfl) m__law_times k__law_times b__law_times (sa_cons (sv 4) (sa_cons (se_op so_add se_int (se_call G__law_draw (hr.mono (by decide)) (by rfl) m__law_draw k__law_draw b__law_draw (sa_cons (sv 1) (sa_cons se_int sa_nil)))) sa_nil))))
 (sss_cons (ss_if (st_cmp (so_eq hr) (se_call G__law_draw (hr.mono (by decide)) (by rfl) m__law_draw k__law_draw b__law_draw (sa_cons (sv 1) (sa_cons se_int sa_nil))) se_int (nomark _))
 (sss_one (ss_set (i := 5) nd rfl (.inl rfl) (se_call G__law_full (hr.mono (by decide)) (by rfl) m__law_full k__law_full b__law_full (sa_cons (sv 1) (sa_cons (sv 2) (sa_cons (se_op so_add se_int (se_call G__law_draw (hr.mono (by decide)) (by rfl) m__law_draw k__law_draw b__law_draw (sa_cons (sv 1) (sa_cons se_int sa_nil)))) sa_nil))))))
 sss_nil)
 (sss_cons (ss_set (i := 6) nd rfl (.inl rfl) (se_call G__law_second (hr.mono (by decide)) (by rfl) m__law_second k__law_second b__law_second (sa_cons (se_call G__law_pool (hr.mono (by decide)) (by rfl) m__law_pool k__law_pool b__law_pool (sa_cons (sv 0) (sa_cons se_int sa_nil))) (sa_cons (sv 2) (sa_cons (sv 5) (sa_cons (sv 4) sa_nil))))))
 (sss_cons (ss_set (i := 7) nd rfl (.inl rfl) (se_call G__law_base (hr.mono (by decide)) (by rfl) m__law_base k__law_base b__law_base (sa_cons (se_call G__law_pool (hr.mono (by decide)) (by rfl) m__law_pool k__law_pool b__law_pool (sa_cons (sv 0) (sa_cons se_int sa_nil))) (sa_cons (sv 2) (sa_cons (sv 4) sa_nil)))))
 (sss_cons (ss_set (i := 8) nd rfl (.inl rfl) (se_call G_root (hr.mono (by decide)) (by rfl) m_root k_root b_root (sa_cons (sv 5) sa_nil)))
 (sss_cons (ss_if (SW.st (sw_or (st_not (st_truth (se_call G__law_rooted (hr.mono (by decide)) (by rfl) m__law_rooted k__law_rooted b__law_rooted (sa_cons (sv 5) (sa_cons (sv 8) sa_nil))))) (sw_or1 (st_not (st_truth (se_call G__law_rooted (hr.mono (by decide)) (by rfl) m__law_rooted k__law_rooted b__law_rooted (sa_cons (se_call G__law_back (hr.mono (by decide)) (by rfl) m__law_back k__law_back b__law_back (sa_cons (sv 5) sa_nil)) (sa_cons (se_call G_root (hr.mono (by decide)) (by rfl) m_root k_root b_root (sa_cons (se_call G__law_back (hr.mono (by decide)) (by rfl) m__law_back k__law_back b__law_back (sa_cons (sv 5) sa_nil)) sa_nil)) sa_nil))))))))
 (sss_one (ss_ret se_bl))
 sss_nil)
 (sss_cons (ss_if (st_not (st_truth (se_call G__law_rooted (hr.mono (by decide)) (by rfl) m__law_rooted k__law_rooted b__law_rooted (sa_cons (se_ix (sv 8) se_int (fun _ _ => rfl)) (sa_cons (se_call G_root (hr.mono (by decide)) (by rfl) m_root k_root b_root (sa_cons (se_ix (sv 8) se_int (fun _ _ => rfl)) sa_nil)) sa_nil)))))
 (sss_one (ss_ret se_bl))
 sss_nil)
 (sss_cons (ss_if (st_not (st_truth (se_call G__law_power_is (hr.mono (by decide)) (by rfl) m__law_power_is k__law_power_is b__law_power_is (sa_cons (se_call G_exponent_of (hr.mono (by decide)) (by rfl) m_exponent_of k_exponent_of b_exponent_of (sa_cons (sv 5) (sa_cons (se_ix (sv 8) se_int (fun _ _ => rfl)) sa_nil))) (sa_cons (se_ix (sv 8) se_int (fun _ _ => rfl)) sa_nil)))))
 (sss_one (ss_ret se_bl))
 sss_nil)
 (sss_cons (ss_if (st_not (st_truth (se_call G__law_power_is (hr.mono (by decide)) (by rfl) m__law_power_is k__law_power_is b__law_power_is (sa_cons (se_call G_exponent_of (hr.mono (by decide)) (by rfl) m_exponent_of k_exponent_of b_exponent_of (sa_cons (se_call G__law_back (hr.mono (by decide)) (by rfl) m__law_back k__law_back b__law_back (sa_cons (sv 5) sa_nil)) (sa_cons (se_ix (sv 8) se_int (fun _ _ => rfl)) sa_nil))) (sa_cons (se_op so_sub se_int (se_ix (sv 8) se_int (fun _ _ => rfl))) sa_nil)))))
 (sss_one (ss_ret se_bl))
 sss_nil)
 (sss_cons (ss_if (st_not (st_truth (se_call G__law_power_is (hr.mono (by decide)) (by rfl) m__law_power_is k__law_power_is b__law_power_is (sa_cons (se_call G_exponent_of (hr.mono (by decide)) (by rfl) m_exponent_of k_exponent_of b_exponent_of (sa_cons (se_tup sa_nil) (sa_cons (se_ix (sv 8) se_int (fun _ _ => rfl)) sa_nil))) (sa_cons se_int sa_nil)))))
 (sss_one (ss_ret se_bl))
 sss_nil)
 (sss_cons (ss_set (i := 9) nd rfl (.inl rfl) (se_call G_exponent_of (hr.mono (by decide)) (by rfl) m_exponent_of k_exponent_of b_exponent_of (sa_cons (sv 6) (sa_cons (se_ix (sv 8) se_int (fun _ _ => rfl)) sa_nil))))
 (sss_cons (ss_if (st_cmp (so_ne hr) (se_call G__law_join (hr.mono (by decide)) (by rfl) m__law_join k__law_join b__law_join (sa_cons (sv 5) (sa_cons (sv 6) sa_nil))) (se_call G__law_join (hr.mono (by decide)) (by rfl) m__law_join k__law_join b__law_join (sa_cons (sv 6) (sa_cons (sv 5) sa_nil))) (nomark _))
 (sss_one (ss_if (st_cmp so_notN (sv 9) se_non (nomark _))
 (sss_one (ss_ret se_bl))
 sss_nil))
 (sss_one (ss_if (SW.st (sw_or (st_not (st_truth (se_call G__law_is_whole (hr.mono (by decide)) (by rfl) m__law_is_whole k__law_is_whole b__law_is_whole (sa_cons (sv 9) sa_nil)))) (sw_or (st_cmp so_gt (se_callB sc_abs (by rfl) z_abs (by decide +kernel) (sa_cons (sv 9) sa_nil)) se_int (nomark _)) (sw_or1 (st_cmp (so_ne hr) (se_call G__law_times (hr.mono (by decide)) (by rfl) m__law_times k__law_times b__law_times (sa_cons (se_ix (sv 8) se_int (fun _ _ => rfl)) (sa_cons (sv 9) sa_nil))) (sv 6) (nomark _))))))
 (sss_one (ss_ret se_bl))
 sss_nil)))
 (sss_cons (ss_if (st_not (st_truth (se_call G__law_power_is (hr.mono (by decide)) (by rfl) m__law_power_is k__law_power_is b__law_power_is (sa_cons (se_call G_exponent_of (hr.mono (by decide)) (by rfl) m_exponent_of k_exponent_of b_exponent_of (sa_cons (sv 6) (sa_cons (sv 7) sa_nil))) (sa_cons (se_call G__law_power_due (hr.mono (by decide)) (by rfl) m__law_power_due k__law_power_due b__law_power_due (sa_cons (sv 6) (sa_cons (sv 7) sa_nil))) sa_nil)))))
 (sss_one (ss_ret se_bl))
 sss_nil)
 (sss_one (ss_ret (se_call G__law_power_is (hr.mono (by decide)) (by rfl) m__law_power_is k__law_power_is b__law_power_is (sa_cons (se_call G_exponent_of (hr.mono (by decide)) (by rfl) m_exponent_of k_exponent_of b_exponent_of (sa_cons (sv 5) (sa_cons (sv 7) sa_nil))) (sa_cons (se_call G__law_power_due (hr.mono (by decide)) (by rfl) m__law_power_due k__law_power_due b__law_power_due (sa_cons (sv 5) (sa_cons (sv 7) sa_nil))) sa_nil)))))))))))))))))))))))), read_law⟩
end
theorem all_mk {l : PySem.W.OpenLaw} {w : World} {K : PySem.W.Frag} {h : Heap} {mg : Str → Option Value} {fa : Addr} (X : K.In h) (G : h.Ns mainGlobals mg) (hfa : mg "law" = some (.ref fa))
    {f_reduced : Addr} {od_reduced an_reduced : Option Addr} {sl_reduced : Array (Option Value)} {oc_reduced kV_reduced dc_reduced pm_reduced cd_reduced ct_reduced : Value}
    {f_multiply_all : Addr} {od_multiply_all an_multiply_all : Option Addr} {sl_multiply_all : Array (Option Value)} {oc_multiply_all kV_multiply_all dc_multiply_all pm_multiply_all cd_multiply_all ct_multiply_all : Value}
    {f_inverse : Addr} {od_inverse an_inverse : Option Addr} {sl_inverse : Array (Option Value)} {oc_inverse kV_inverse dc_inverse pm_inverse cd_inverse ct_inverse : Value}
    {f_power : Addr} {od_power an_power : Option Addr} {sl_power : Array (Option Value)} {oc_power kV_power dc_power pm_power cd_power ct_power : Value}
    {f_conjugated : Addr} {od_conjugated an_conjugated : Option Addr} {sl_conjugated : Array (Option Value)} {oc_conjugated kV_conjugated dc_conjugated pm_conjugated cd_conjugated ct_conjugated : Value}
    {f_length : Addr} {od_length an_length : Option Addr} {sl_length : Array (Option Value)} {oc_length kV_length dc_length pm_length cd_length ct_length : Value}
    {f_spell : Addr} {od_spell an_spell : Option Addr} {sl_spell : Array (Option Value)} {oc_spell kV_spell dc_spell pm_spell cd_spell ct_spell : Value}
    {f_is_cyclically_reduced : Addr} {od_is_cyclically_reduced an_is_cyclically_reduced : Option Addr} {sl_is_cyclically_reduced : Array (Option Value)} {oc_is_cyclically_reduced kV_is_cyclically_reduced dc_is_cyclically_reduced pm_is_cyclically_reduced cd_is_cyclically_reduced ct_is_cyclically_reduced : Value}
    {f_core_of : Addr} {od_core_of an_core_of : Option Addr} {sl_core_of : Array (Option Value)} {oc_core_of kV_core_of dc_core_of pm_core_of cd_core_of ct_core_of : Value}
    {f_rotation : Addr} {od_rotation an_rotation : Option Addr} {sl_rotation : Array (Option Value)} {oc_rotation kV_rotation dc_rotation pm_rotation cd_rotation ct_rotation : Value}
    {f_root : Addr} {od_root an_root : Option Addr} {sl_root : Array (Option Value)} {oc_root kV_root dc_root pm_root cd_root ct_root : Value}
    {f_exponent_of : Addr} {od_exponent_of an_exponent_of : Option Addr} {sl_exponent_of : Array (Option Value)} {oc_exponent_of kV_exponent_of dc_exponent_of pm_exponent_of cd_exponent_of ct_exponent_of : Value}
    {f__law_pool : Addr} {od__law_pool an__law_pool : Option Addr} {sl__law_pool : Array (Option Value)} {oc__law_pool kV__law_pool dc__law_pool pm__law_pool cd__law_pool ct__law_pool : Value}
    {f__law_draw : Addr} {od__law_draw an__law_draw : Option Addr} {sl__law_draw : Array (Option Value)} {oc__law_draw kV__law_draw dc__law_draw pm__law_draw cd__law_draw ct__law_draw : Value}
    {f__law_reduce : Addr} {od__law_reduce an__law_reduce : Option Addr} {sl__law_reduce : Array (Option Value)} {oc__law_reduce kV__law_reduce dc__law_reduce pm__law_reduce cd__law_reduce ct__law_reduce : Value}
    {f__law_join : Addr} {od__law_join an__law_join : Option Addr} {sl__law_join : Array (Option Value)} {oc__law_join kV__law_join dc__law_join pm__law_join cd__law_join ct__law_join : Value}
    {f__law_back : Addr} {od__law_back an__law_back : Option Addr} {sl__law_back : Array (Option Value)} {oc__law_back kV__law_back dc__law_back pm__law_back cd__law_back ct__law_back : Value}
    {f__law_times : Addr} {od__law_times an__law_times : Option Addr} {sl__law_times : Array (Option Value)} {oc__law_times kV__law_times dc__law_times pm__law_times cd__law_times ct__law_times : Value}
    {f__law_size : Addr} {od__law_size an__law_size : Option Addr} {sl__law_size : Array (Option Value)} {oc__law_size kV__law_size dc__law_size pm__law_size cd__law_size ct__law_size : Value}
    {f__law_spelled : Addr} {od__law_spelled an__law_spelled : Option Addr} {sl__law_spelled : Array (Option Value)} {oc__law_spelled kV__law_spelled dc__law_spelled pm__law_spelled cd__law_spelled ct__law_spelled : Value}
    {f__law_core : Addr} {od__law_core an__law_core : Option Addr} {sl__law_core : Array (Option Value)} {oc__law_core kV__law_core dc__law_core pm__law_core cd__law_core ct__law_core : Value}
    {f__law_full : Addr} {od__law_full an__law_full : Option Addr} {sl__law_full : Array (Option Value)} {oc__law_full kV__law_full dc__law_full pm__law_full cd__law_full ct__law_full : Value}
    {f__law_is_whole : Addr} {od__law_is_whole an__law_is_whole : Option Addr} {sl__law_is_whole : Array (Option Value)} {oc__law_is_whole kV__law_is_whole dc__law_is_whole pm__law_is_whole cd__law_is_whole ct__law_is_whole : Value}
    {f__law_is_letter : Addr} {od__law_is_letter an__law_is_letter : Option Addr} {sl__law_is_letter : Array (Option Value)} {oc__law_is_letter kV__law_is_letter dc__law_is_letter pm__law_is_letter cd__law_is_letter ct__law_is_letter : Value}
    {f__law_is_word : Addr} {od__law_is_word an__law_is_word : Option Addr} {sl__law_is_word : Array (Option Value)} {oc__law_is_word kV__law_is_word dc__law_is_word pm__law_is_word cd__law_is_word ct__law_is_word : Value}
    {f__law_root_exponent : Addr} {od__law_root_exponent an__law_root_exponent : Option Addr} {sl__law_root_exponent : Array (Option Value)} {oc__law_root_exponent kV__law_root_exponent dc__law_root_exponent pm__law_root_exponent cd__law_root_exponent ct__law_root_exponent : Value}
    {f__law_alphabet : Addr} {od__law_alphabet an__law_alphabet : Option Addr} {sl__law_alphabet : Array (Option Value)} {oc__law_alphabet kV__law_alphabet dc__law_alphabet pm__law_alphabet cd__law_alphabet ct__law_alphabet : Value}
    {f__law_between : Addr} {od__law_between an__law_between : Option Addr} {sl__law_between : Array (Option Value)} {oc__law_between kV__law_between dc__law_between pm__law_between cd__law_between ct__law_between : Value}
    {f__law_second : Addr} {od__law_second an__law_second : Option Addr} {sl__law_second : Array (Option Value)} {oc__law_second kV__law_second dc__law_second pm__law_second cd__law_second ct__law_second : Value}
    {f__law_base : Addr} {od__law_base an__law_base : Option Addr} {sl__law_base : Array (Option Value)} {oc__law_base kV__law_base dc__law_base pm__law_base cd__law_base ct__law_base : Value}
    {f__law_power_due : Addr} {od__law_power_due an__law_power_due : Option Addr} {sl__law_power_due : Array (Option Value)} {oc__law_power_due kV__law_power_due dc__law_power_due pm__law_power_due cd__law_power_due ct__law_power_due : Value}
    {f__law_power_is : Addr} {od__law_power_is an__law_power_is : Option Addr} {sl__law_power_is : Array (Option Value)} {oc__law_power_is kV__law_power_is dc__law_power_is pm__law_power_is cd__law_power_is ct__law_power_is : Value}
    {f__law_rooted : Addr} {od__law_rooted an__law_rooted : Option Addr} {sl__law_rooted : Array (Option Value)} {oc__law_rooted kV__law_rooted dc__law_rooted pm__law_rooted cd__law_rooted ct__law_rooted : Value}
    {f_law : Addr} {od_law an_law : Option Addr} {sl_law : Array (Option Value)} {oc_law kV_law dc_law pm_law cd_law ct_law : Value}
    (a_reduced : PySem.W.nsIn K mainGlobals "reduced" = some (some (.ref f_reduced))) (l_reduced : K.lookup f_reduced = some ⟨oc_reduced, od_reduced, .func (PySem.W.fnOf "reduced" "reduced" (defArgs s_reduced) (defBody s_reduced) (defScope s_reduced) .none kV_reduced dc_reduced pm_reduced an_reduced cd_reduced ct_reduced), sl_reduced⟩) (c_reduced : PySem.W.codeIn K cd_reduced "reduced" = true) (k_reduced : PySem.W.keepIn K (.ref f_reduced) = true)
    (a_multiply_all : PySem.W.nsIn K mainGlobals "multiply_all" = some (some (.ref f_multiply_all))) (l_multiply_all : K.lookup f_multiply_all = some ⟨oc_multiply_all, od_multiply_all, .func (PySem.W.fnOf "multiply_all" "multiply_all" (defArgs s_multiply_all) (defBody s_multiply_all) (defScope s_multiply_all) .none kV_multiply_all dc_multiply_all pm_multiply_all an_multiply_all cd_multiply_all ct_multiply_all), sl_multiply_all⟩) (c_multiply_all : PySem.W.codeIn K cd_multiply_all "multiply_all" = true) (k_multiply_all : PySem.W.keepIn K (.ref f_multiply_all) = true)
    (a_inverse : PySem.W.nsIn K mainGlobals "inverse" = some (some (.ref f_inverse))) (l_inverse : K.lookup f_inverse = some ⟨oc_inverse, od_inverse, .func (PySem.W.fnOf "inverse" "inverse" (defArgs s_inverse) (defBody s_inverse) (defScope s_inverse) .none kV_inverse dc_inverse pm_inverse an_inverse cd_inverse ct_inverse), sl_inverse⟩) (c_inverse : PySem.W.codeIn K cd_inverse "inverse" = true) (k_inverse : PySem.W.keepIn K (.ref f_inverse) = true)
    (a_power : PySem.W.nsIn K mainGlobals "power" = some (some (.ref f_power))) (l_power : K.lookup f_power = some ⟨oc_power, od_power, .func (PySem.W.fnOf "power" "power" (defArgs s_power) (defBody s_power) (defScope s_power) .none kV_power dc_power pm_power an_power cd_power ct_power), sl_power⟩) (c_power : PySem.W.codeIn K cd_power "power" = true) (k_power : PySem.W.keepIn K (.ref f_power) = true)
    (a_conjugated : PySem.W.nsIn K mainGlobals "conjugated" = some (some (.ref f_conjugated))) (l_conjugated : K.lookup f_conjugated = some ⟨oc_conjugated, od_conjugated, .func (PySem.W.fnOf "conjugated" "conjugated" (defArgs s_conjugated) (defBody s_conjugated) (defScope s_conjugated) .none kV_conjugated dc_conjugated pm_conjugated an_conjugated cd_conjugated ct_conjugated), sl_conjugated⟩) (c_conjugated : PySem.W.codeIn K cd_conjugated "conjugated" = true) (k_conjugated : PySem.W.keepIn K (.ref f_conjugated) = true)
    (a_length : PySem.W.nsIn K mainGlobals "length" = some (some (.ref f_length))) (l_length : K.lookup f_length = some ⟨oc_length, od_length, .func (PySem.W.fnOf "length" "length" (defArgs s_length) (defBody s_length) (defScope s_length) .none kV_length dc_length pm_length an_length cd_length ct_length), sl_length⟩) (c_length : PySem.W.codeIn K cd_length "length" = true) (k_length : PySem.W.keepIn K (.ref f_length) = true)
    (a_spell : PySem.W.nsIn K mainGlobals "spell" = some (some (.ref f_spell))) (l_spell : K.lookup f_spell = some ⟨oc_spell, od_spell, .func (PySem.W.fnOf "spell" "spell" (defArgs s_spell) (defBody s_spell) (defScope s_spell) .none kV_spell dc_spell pm_spell an_spell cd_spell ct_spell), sl_spell⟩) (c_spell : PySem.W.codeIn K cd_spell "spell" = true) (k_spell : PySem.W.keepIn K (.ref f_spell) = true)
    (a_is_cyclically_reduced : PySem.W.nsIn K mainGlobals "is_cyclically_reduced" = some (some (.ref f_is_cyclically_reduced))) (l_is_cyclically_reduced : K.lookup f_is_cyclically_reduced = some ⟨oc_is_cyclically_reduced, od_is_cyclically_reduced, .func (PySem.W.fnOf "is_cyclically_reduced" "is_cyclically_reduced" (defArgs s_is_cyclically_reduced) (defBody s_is_cyclically_reduced) (defScope s_is_cyclically_reduced) .none kV_is_cyclically_reduced dc_is_cyclically_reduced pm_is_cyclically_reduced an_is_cyclically_reduced cd_is_cyclically_reduced ct_is_cyclically_reduced), sl_is_cyclically_reduced⟩) (c_is_cyclically_reduced : PySem.W.codeIn K cd_is_cyclically_reduced "is_cyclically_reduced" = true) (k_is_cyclically_reduced : PySem.W.keepIn K (.ref f_is_cyclically_reduced) = true)
    (a_core_of : PySem.W.nsIn K mainGlobals "core_of" = some (some (.ref f_core_of))) (l_core_of : K.lookup f_core_of = some ⟨oc_core_of, od_core_of, .func (PySem.W.fnOf "core_of" "core_of" (defArgs s_core_of) (defBody s_core_of) (defScope s_core_of) .none kV_core_of dc_core_of pm_core_of an_core_of cd_core_of ct_core_of), sl_core_of⟩) (c_core_of : PySem.W.codeIn K cd_core_of "core_of" = true) (k_core_of : PySem.W.keepIn K (.ref f_core_of) = true)
    (a_rotation : PySem.W.nsIn K mainGlobals "rotation" = some (some (.ref f_rotation))) (l_rotation : K.lookup f_rotation = some ⟨oc_rotation, od_rotation, .func (PySem.W.fnOf "rotation" "rotation" (defArgs s_rotation) (defBody s_rotation) (defScope s_rotation) .none kV_rotation dc_rotation pm_rotation an_rotation cd_rotation ct_rotation), sl_rotation⟩) (c_rotation : PySem.W.codeIn K cd_rotation "rotation" = true) (k_rotation : PySem.W.keepIn K (.ref f_rotation) = true)
    (a_root : PySem.W.nsIn K mainGlobals "root" = some (some (.ref f_root))) (l_root : K.lookup f_root = some ⟨oc_root, od_root, .func (PySem.W.fnOf "root" "root" (defArgs s_root) (defBody s_root) (defScope s_root) .none kV_root dc_root pm_root an_root cd_root ct_root), sl_root⟩) (c_root : PySem.W.codeIn K cd_root "root" = true) (k_root : PySem.W.keepIn K (.ref f_root) = true)
    (a_exponent_of : PySem.W.nsIn K mainGlobals "exponent_of" = some (some (.ref f_exponent_of))) (l_exponent_of : K.lookup f_exponent_of = some ⟨oc_exponent_of, od_exponent_of, .func (PySem.W.fnOf "exponent_of" "exponent_of" (defArgs s_exponent_of) (defBody s_exponent_of) (defScope s_exponent_of) .none kV_exponent_of dc_exponent_of pm_exponent_of an_exponent_of cd_exponent_of ct_exponent_of), sl_exponent_of⟩) (c_exponent_of : PySem.W.codeIn K cd_exponent_of "exponent_of" = true) (k_exponent_of : PySem.W.keepIn K (.ref f_exponent_of) = true)
    (a__law_pool : PySem.W.nsIn K mainGlobals "_law_pool" = some (some (.ref f__law_pool))) (l__law_pool : K.lookup f__law_pool = some ⟨oc__law_pool, od__law_pool, .func (PySem.W.fnOf "_law_pool" "_law_pool" (defArgs s__law_pool) (defBody s__law_pool) (defScope s__law_pool) .none kV__law_pool dc__law_pool pm__law_pool an__law_pool cd__law_pool ct__law_pool), sl__law_pool⟩) (c__law_pool : PySem.W.codeIn K cd__law_pool "_law_pool" = true) (k__law_pool : PySem.W.keepIn K (.ref f__law_pool) = true)
    (a__law_draw : PySem.W.nsIn K mainGlobals "_law_draw" = some (some (.ref f__law_draw))) (l__law_draw : K.lookup f__law_draw = some ⟨oc__law_draw, od__law_draw, .func (PySem.W.fnOf "_law_draw" "_law_draw" (defArgs s__law_draw) (defBody s__law_draw) (defScope s__law_draw) .none kV__law_draw dc__law_draw pm__law_draw an__law_draw cd__law_draw ct__law_draw), sl__law_draw⟩) (c__law_draw : PySem.W.codeIn K cd__law_draw "_law_draw" = true) (k__law_draw : PySem.W.keepIn K (.ref f__law_draw) = true)
    (a__law_reduce : PySem.W.nsIn K mainGlobals "_law_reduce" = some (some (.ref f__law_reduce))) (l__law_reduce : K.lookup f__law_reduce = some ⟨oc__law_reduce, od__law_reduce, .func (PySem.W.fnOf "_law_reduce" "_law_reduce" (defArgs s__law_reduce) (defBody s__law_reduce) (defScope s__law_reduce) .none kV__law_reduce dc__law_reduce pm__law_reduce an__law_reduce cd__law_reduce ct__law_reduce), sl__law_reduce⟩) (c__law_reduce : PySem.W.codeIn K cd__law_reduce "_law_reduce" = true) (k__law_reduce : PySem.W.keepIn K (.ref f__law_reduce) = true)
    (a__law_join : PySem.W.nsIn K mainGlobals "_law_join" = some (some (.ref f__law_join))) (l__law_join : K.lookup f__law_join = some ⟨oc__law_join, od__law_join, .func (PySem.W.fnOf "_law_join" "_law_join" (defArgs s__law_join) (defBody s__law_join) (defScope s__law_join) .none kV__law_join dc__law_join pm__law_join an__law_join cd__law_join ct__law_join), sl__law_join⟩) (c__law_join : PySem.W.codeIn K cd__law_join "_law_join" = true) (k__law_join : PySem.W.keepIn K (.ref f__law_join) = true)
    (a__law_back : PySem.W.nsIn K mainGlobals "_law_back" = some (some (.ref f__law_back))) (l__law_back : K.lookup f__law_back = some ⟨oc__law_back, od__law_back, .func (PySem.W.fnOf "_law_back" "_law_back" (defArgs s__law_back) (defBody s__law_back) (defScope s__law_back) .none kV__law_back dc__law_back pm__law_back an__law_back cd__law_back ct__law_back), sl__law_back⟩) (c__law_back : PySem.W.codeIn K cd__law_back "_law_back" = true) (k__law_back : PySem.W.keepIn K (.ref f__law_back) = true)
    (a__law_times : PySem.W.nsIn K mainGlobals "_law_times" = some (some (.ref f__law_times))) (l__law_times : K.lookup f__law_times = some ⟨oc__law_times, od__law_times, .func (PySem.W.fnOf "_law_times" "_law_times" (defArgs s__law_times) (defBody s__law_times) (defScope s__law_times) .none kV__law_times dc__law_times pm__law_times an__law_times cd__law_times ct__law_times), sl__law_times⟩) (c__law_times : PySem.W.codeIn K cd__law_times "_law_times" = true) (k__law_times : PySem.W.keepIn K (.ref f__law_times) = true)
    (a__law_size : PySem.W.nsIn K mainGlobals "_law_size" = some (some (.ref f__law_size))) (l__law_size : K.lookup f__law_size = some ⟨oc__law_size, od__law_size, .func (PySem.W.fnOf "_law_size" "_law_size" (defArgs s__law_size) (defBody s__law_size) (defScope s__law_size) .none kV__law_size dc__law_size pm__law_size an__law_size cd__law_size ct__law_size), sl__law_size⟩) (c__law_size : PySem.W.codeIn K cd__law_size "_law_size" = true) (k__law_size : PySem.W.keepIn K (.ref f__law_size) = true)
    (a__law_spelled : PySem.W.nsIn K mainGlobals "_law_spelled" = some (some (.ref f__law_spelled))) (l__law_spelled : K.lookup f__law_spelled = some ⟨oc__law_spelled, od__law_spelled, .func (PySem.W.fnOf "_law_spelled" "_law_spelled" (defArgs s__law_spelled) (defBody s__law_spelled) (defScope s__law_spelled) .none kV__law_spelled dc__law_spelled pm__law_spelled an__law_spelled cd__law_spelled ct__law_spelled), sl__law_spelled⟩) (c__law_spelled : PySem.W.codeIn K cd__law_spelled "_law_spelled" = true) (k__law_spelled : PySem.W.keepIn K (.ref f__law_spelled) = true)
    (a__law_core : PySem.W.nsIn K mainGlobals "_law_core" = some (some (.ref f__law_core))) (l__law_core : K.lookup f__law_core = some ⟨oc__law_core, od__law_core, .func (PySem.W.fnOf "_law_core" "_law_core" (defArgs s__law_core) (defBody s__law_core) (defScope s__law_core) .none kV__law_core dc__law_core pm__law_core an__law_core cd__law_core ct__law_core), sl__law_core⟩) (c__law_core : PySem.W.codeIn K cd__law_core "_law_core" = true) (k__law_core : PySem.W.keepIn K (.ref f__law_core) = true)
    (a__law_full : PySem.W.nsIn K mainGlobals "_law_full" = some (some (.ref f__law_full))) (l__law_full : K.lookup f__law_full = some ⟨oc__law_full, od__law_full, .func (PySem.W.fnOf "_law_full" "_law_full" (defArgs s__law_full) (defBody s__law_full) (defScope s__law_full) .none kV__law_full dc__law_full pm__law_full an__law_full cd__law_full ct__law_full), sl__law_full⟩) (c__law_full : PySem.W.codeIn K cd__law_full "_law_full" = true) (k__law_full : PySem.W.keepIn K (.ref f__law_full) = true)
    (a__law_is_whole : PySem.W.nsIn K mainGlobals "_law_is_whole" = some (some (.ref f__law_is_whole))) (l__law_is_whole : K.lookup f__law_is_whole = some ⟨oc__law_is_whole, od__law_is_whole, .func (PySem.W.fnOf "_law_is_whole" "_law_is_whole" (defArgs s__law_is_whole) (defBody s__law_is_whole) (defScope s__law_is_whole) .none kV__law_is_whole dc__law_is_whole pm__law_is_whole an__law_is_whole cd__law_is_whole ct__law_is_whole), sl__law_is_whole⟩) (c__law_is_whole : PySem.W.codeIn K cd__law_is_whole "_law_is_whole" = true) (k__law_is_whole : PySem.W.keepIn K (.ref f__law_is_whole) = true)
    (a__law_is_letter : PySem.W.nsIn K mainGlobals "_law_is_letter" = some (some (.ref f__law_is_letter))) (l__law_is_letter : K.lookup f__law_is_letter = some ⟨oc__law_is_letter, od__law_is_letter, .func (PySem.W.fnOf "_law_is_letter" "_law_is_letter" (defArgs s__law_is_letter) (defBody s__law_is_letter) (defScope s__law_is_letter) .none kV__law_is_letter dc__law_is_letter pm__law_is_letter an__law_is_letter cd__law_is_letter ct__law_is_letter), sl__law_is_letter⟩) (c__law_is_letter : PySem.W.codeIn K cd__law_is_letter "_law_is_letter" = true) (k__law_is_letter : PySem.W.keepIn K (.ref f__law_is_letter) = true)
    (a__law_is_word : PySem.W.nsIn K mainGlobals "_law_is_word" = some (some (.ref f__law_is_word))) (l__law_is_word : K.lookup f__law_is_word = some ⟨oc__law_is_word, od__law_is_word, .func (PySem.W.fnOf "_law_is_word" "_law_is_word" (defArgs s__law_is_word) (defBody s__law_is_word) (defScope s__law_is_word) .none kV__law_is_word dc__law_is_word pm__law_is_word an__law_is_word cd__law_is_word ct__law_is_word), sl__law_is_word⟩) (c__law_is_word : PySem.W.codeIn K cd__law_is_word "_law_is_word" = true) (k__law_is_word : PySem.W.keepIn K (.ref f__law_is_word) = true)
    (a__law_root_exponent : PySem.W.nsIn K mainGlobals "_law_root_exponent" = some (some (.ref f__law_root_exponent))) (l__law_root_exponent : K.lookup f__law_root_exponent = some ⟨oc__law_root_exponent, od__law_root_exponent, .func (PySem.W.fnOf "_law_root_exponent" "_law_root_exponent" (defArgs s__law_root_exponent) (defBody s__law_root_exponent) (defScope s__law_root_exponent) .none kV__law_root_exponent dc__law_root_exponent pm__law_root_exponent an__law_root_exponent cd__law_root_exponent ct__law_root_exponent), sl__law_root_exponent⟩) (c__law_root_exponent : PySem.W.codeIn K cd__law_root_exponent "_law_root_exponent" = true) (k__law_root_exponent : PySem.W.keepIn K (.ref f__law_root_exponent) = true)
    (a__law_alphabet : PySem.W.nsIn K mainGlobals "_law_alphabet" = some (some (.ref f__law_alphabet))) (l__law_alphabet : K.lookup f__law_alphabet = some ⟨oc__law_alphabet, od__law_alphabet, .func (PySem.W.fnOf "_law_alphabet" "_law_alphabet" (defArgs s__law_alphabet) (defBody s__law_alphabet) (defScope s__law_alphabet) .none kV__law_alphabet dc__law_alphabet pm__law_alphabet an__law_alphabet cd__law_alphabet ct__law_alphabet), sl__law_alphabet⟩) (c__law_alphabet : PySem.W.codeIn K cd__law_alphabet "_law_alphabet" = true) (k__law_alphabet : PySem.W.keepIn K (.ref f__law_alphabet) = true)
    (a__law_between : PySem.W.nsIn K mainGlobals "_law_between" = some (some (.ref f__law_between))) (l__law_between : K.lookup f__law_between = some ⟨oc__law_between, od__law_between, .func (PySem.W.fnOf "_law_between" "_law_between" (defArgs s__law_between) (defBody s__law_between) (defScope s__law_between) .none kV__law_between dc__law_between pm__law_between an__law_between cd__law_between ct__law_between), sl__law_between⟩) (c__law_between : PySem.W.codeIn K cd__law_between "_law_between" = true) (k__law_between : PySem.W.keepIn K (.ref f__law_between) = true)
    (a__law_second : PySem.W.nsIn K mainGlobals "_law_second" = some (some (.ref f__law_second))) (l__law_second : K.lookup f__law_second = some ⟨oc__law_second, od__law_second, .func (PySem.W.fnOf "_law_second" "_law_second" (defArgs s__law_second) (defBody s__law_second) (defScope s__law_second) .none kV__law_second dc__law_second pm__law_second an__law_second cd__law_second ct__law_second), sl__law_second⟩) (c__law_second : PySem.W.codeIn K cd__law_second "_law_second" = true) (k__law_second : PySem.W.keepIn K (.ref f__law_second) = true)
    (a__law_base : PySem.W.nsIn K mainGlobals "_law_base" = some (some (.ref f__law_base))) (l__law_base : K.lookup f__law_base = some ⟨oc__law_base, od__law_base, .func (PySem.W.fnOf "_law_base" "_law_base" (defArgs s__law_base) (defBody s__law_base) (defScope s__law_base) .none kV__law_base dc__law_base pm__law_base an__law_base cd__law_base ct__law_base), sl__law_base⟩) (c__law_base : PySem.W.codeIn K cd__law_base "_law_base" = true) (k__law_base : PySem.W.keepIn K (.ref f__law_base) = true)
    (a__law_power_due : PySem.W.nsIn K mainGlobals "_law_power_due" = some (some (.ref f__law_power_due))) (l__law_power_due : K.lookup f__law_power_due = some ⟨oc__law_power_due, od__law_power_due, .func (PySem.W.fnOf "_law_power_due" "_law_power_due" (defArgs s__law_power_due) (defBody s__law_power_due) (defScope s__law_power_due) .none kV__law_power_due dc__law_power_due pm__law_power_due an__law_power_due cd__law_power_due ct__law_power_due), sl__law_power_due⟩) (c__law_power_due : PySem.W.codeIn K cd__law_power_due "_law_power_due" = true) (k__law_power_due : PySem.W.keepIn K (.ref f__law_power_due) = true)
    (a__law_power_is : PySem.W.nsIn K mainGlobals "_law_power_is" = some (some (.ref f__law_power_is))) (l__law_power_is : K.lookup f__law_power_is = some ⟨oc__law_power_is, od__law_power_is, .func (PySem.W.fnOf "_law_power_is" "_law_power_is" (defArgs s__law_power_is) (defBody s__law_power_is) (defScope s__law_power_is) .none kV__law_power_is dc__law_power_is pm__law_power_is an__law_power_is cd__law_power_is ct__law_power_is), sl__law_power_is⟩) (c__law_power_is : PySem.W.codeIn K cd__law_power_is "_law_power_is" = true) (k__law_power_is : PySem.W.keepIn K (.ref f__law_power_is) = true)
    (a__law_rooted : PySem.W.nsIn K mainGlobals "_law_rooted" = some (some (.ref f__law_rooted))) (l__law_rooted : K.lookup f__law_rooted = some ⟨oc__law_rooted, od__law_rooted, .func (PySem.W.fnOf "_law_rooted" "_law_rooted" (defArgs s__law_rooted) (defBody s__law_rooted) (defScope s__law_rooted) .none kV__law_rooted dc__law_rooted pm__law_rooted an__law_rooted cd__law_rooted ct__law_rooted), sl__law_rooted⟩) (c__law_rooted : PySem.W.codeIn K cd__law_rooted "_law_rooted" = true) (k__law_rooted : PySem.W.keepIn K (.ref f__law_rooted) = true)
    (a_law : PySem.W.nsIn K mainGlobals "law" = some (some (.ref f_law))) (l_law : K.lookup f_law = some ⟨oc_law, od_law, .func (PySem.W.fnOf "law" "law" (defArgs s_law) (defBody s_law) (defScope s_law) .none kV_law dc_law pm_law an_law cd_law ct_law), sl_law⟩) (c_law : PySem.W.codeIn K cd_law "law" = true) (k_law : PySem.W.keepIn K (.ref f_law) = true)
    (y_tuple : PySem.W.nsIn K mainGlobals "tuple" = some none)
    (y_reversed : PySem.W.nsIn K mainGlobals "reversed" = some none)
    (y_len : PySem.W.nsIn K mainGlobals "len" = some none)
    (y_abs : PySem.W.nsIn K mainGlobals "abs" = some none)
    (y_sum : PySem.W.nsIn K mainGlobals "sum" = some none)
    (y_range : PySem.W.nsIn K mainGlobals "range" = some none)
    (y_list : PySem.W.nsIn K mainGlobals "list" = some none)
    (y_divmod : PySem.W.nsIn K mainGlobals "divmod" = some none)
    (y_int : PySem.W.nsIn K mainGlobals "int" = some none)
    (y_min : PySem.W.nsIn K mainGlobals "min" = some none)
    (y_isinstance : PySem.W.nsIn K mainGlobals "isinstance" = some none)
    (y_bool : PySem.W.nsIn K mainGlobals "bool" = some none)
    (y_str : PySem.W.nsIn K mainGlobals "str" = some none) :
    ∃ fd : FuncData, (∀ (s : Shared) (v : Value), BindsTo s fd ⟨[v], []⟩ [("script", v)]) ∧ ∀ base : Heap, K.In base → base.Ns mainGlobals mg → FnOk l.prog w K mg base CX0 7 fa fd ["script"] (spOf K sp_law) := by
  have e := hfa.symm.trans (PySem.W.mg_of X G a_law)
  cases e
  have F_reduced := fun_mk (st := s_reduced) l_reduced c_reduced k_reduced
  have b_reduced := F_reduced.binds (ps := ["pairs"]) fun _ _ _ _ _ _ us hl => match us, hl with | [_], _ => rfl
  have m_reduced := PySem.W.mg_of X G a_reduced
  have F_multiply_all := fun_mk (st := s_multiply_all) l_multiply_all c_multiply_all k_multiply_all
  have b_multiply_all := F_multiply_all.binds (ps := ["words"]) fun _ _ _ _ _ _ us hl => match us, hl with | [_], _ => rfl
  have m_multiply_all := PySem.W.mg_of X G a_multiply_all
  have F_inverse := fun_mk (st := s_inverse) l_inverse c_inverse k_inverse
  have b_inverse := F_inverse.binds (ps := ["word"]) fun _ _ _ _ _ _ us hl => match us, hl with | [_], _ => rfl
  have m_inverse := PySem.W.mg_of X G a_inverse
  have F_power := fun_mk (st := s_power) l_power c_power k_power
  have b_power := F_power.binds (ps := ["word", "exponent"]) fun _ _ _ _ _ _ us hl => match us, hl with | [_, _], _ => rfl
  have m_power := PySem.W.mg_of X G a_power
  have F_conjugated := fun_mk (st := s_conjugated) l_conjugated c_conjugated k_conjugated
  have b_conjugated : KBinds K _ ["word", "by"] ["by"] (gK 1 1) (gK 1 1) := kbinds_mk (fd := PySem.W.fnOf "conjugated" "conjugated" (defArgs s_conjugated) (defBody s_conjugated) (defScope s_conjugated) .none kV_conjugated dc_conjugated pm_conjugated an_conjugated cd_conjugated ct_conjugated) rfl rfl (by decide) fun us ws h1 h2 => match us, ws, h1, h2 with | [_], [_], _, _ => rfl
  have m_conjugated := PySem.W.mg_of X G a_conjugated
  have F_length := fun_mk (st := s_length) l_length c_length k_length
  have b_length := F_length.binds (ps := ["word"]) fun _ _ _ _ _ _ us hl => match us, hl with | [_], _ => rfl
  have m_length := PySem.W.mg_of X G a_length
  have F_spell := fun_mk (st := s_spell) l_spell c_spell k_spell
  have b_spell := F_spell.binds (ps := ["word"]) fun _ _ _ _ _ _ us hl => match us, hl with | [_], _ => rfl
  have m_spell := PySem.W.mg_of X G a_spell
  have F_is_cyclically_reduced := fun_mk (st := s_is_cyclically_reduced) l_is_cyclically_reduced c_is_cyclically_reduced k_is_cyclically_reduced
  have b_is_cyclically_reduced := F_is_cyclically_reduced.binds (ps := ["word"]) fun _ _ _ _ _ _ us hl => match us, hl with | [_], _ => rfl
  have m_is_cyclically_reduced := PySem.W.mg_of X G a_is_cyclically_reduced
  have F_core_of := fun_mk (st := s_core_of) l_core_of c_core_of k_core_of
  have b_core_of := F_core_of.binds (ps := ["word"]) fun _ _ _ _ _ _ us hl => match us, hl with | [_], _ => rfl
  have m_core_of := PySem.W.mg_of X G a_core_of
  have F_rotation := fun_mk (st := s_rotation) l_rotation c_rotation k_rotation
  have b_rotation := F_rotation.binds (ps := ["word", "count"]) fun _ _ _ _ _ _ us hl => match us, hl with | [_, _], _ => rfl
  have m_rotation := PySem.W.mg_of X G a_rotation
  have F_root := fun_mk (st := s_root) l_root c_root k_root
  have b_root := F_root.binds (ps := ["word"]) fun _ _ _ _ _ _ us hl => match us, hl with | [_], _ => rfl
  have m_root := PySem.W.mg_of X G a_root
  have F_exponent_of := fun_mk (st := s_exponent_of) l_exponent_of c_exponent_of k_exponent_of
  have b_exponent_of := F_exponent_of.binds (ps := ["word", "base"]) fun _ _ _ _ _ _ us hl => match us, hl with | [_, _], _ => rfl
  have m_exponent_of := PySem.W.mg_of X G a_exponent_of
  have F__law_pool := fun_mk (st := s__law_pool) l__law_pool c__law_pool k__law_pool
  have b__law_pool := F__law_pool.binds (ps := ["script", "place"]) fun _ _ _ _ _ _ us hl => match us, hl with | [_, _], _ => rfl
  have m__law_pool := PySem.W.mg_of X G a__law_pool
  have F__law_draw := fun_mk (st := s__law_draw) l__law_draw c__law_draw k__law_draw
  have b__law_draw := F__law_draw.binds (ps := ["pool", "many"]) fun _ _ _ _ _ _ us hl => match us, hl with | [_, _], _ => rfl
  have m__law_draw := PySem.W.mg_of X G a__law_draw
  have F__law_reduce := fun_mk (st := s__law_reduce) l__law_reduce c__law_reduce k__law_reduce
  have b__law_reduce := F__law_reduce.binds (ps := ["runs"]) fun _ _ _ _ _ _ us hl => match us, hl with | [_], _ => rfl
  have m__law_reduce := PySem.W.mg_of X G a__law_reduce
  have F__law_join := fun_mk (st := s__law_join) l__law_join c__law_join k__law_join
  have b__law_join := F__law_join.binds (ps := ["first", "second"]) fun _ _ _ _ _ _ us hl => match us, hl with | [_, _], _ => rfl
  have m__law_join := PySem.W.mg_of X G a__law_join
  have F__law_back := fun_mk (st := s__law_back) l__law_back c__law_back k__law_back
  have b__law_back := F__law_back.binds (ps := ["word"]) fun _ _ _ _ _ _ us hl => match us, hl with | [_], _ => rfl
  have m__law_back := PySem.W.mg_of X G a__law_back
  have F__law_times := fun_mk (st := s__law_times) l__law_times c__law_times k__law_times
  have b__law_times := F__law_times.binds (ps := ["word", "times"]) fun _ _ _ _ _ _ us hl => match us, hl with | [_, _], _ => rfl
  have m__law_times := PySem.W.mg_of X G a__law_times
  have F__law_size := fun_mk (st := s__law_size) l__law_size c__law_size k__law_size
  have b__law_size := F__law_size.binds (ps := ["word"]) fun _ _ _ _ _ _ us hl => match us, hl with | [_], _ => rfl
  have m__law_size := PySem.W.mg_of X G a__law_size
  have F__law_spelled := fun_mk (st := s__law_spelled) l__law_spelled c__law_spelled k__law_spelled
  have b__law_spelled := F__law_spelled.binds (ps := ["word"]) fun _ _ _ _ _ _ us hl => match us, hl with | [_], _ => rfl
  have m__law_spelled := PySem.W.mg_of X G a__law_spelled
  have F__law_core := fun_mk (st := s__law_core) l__law_core c__law_core k__law_core
  have b__law_core := F__law_core.binds (ps := ["word"]) fun _ _ _ _ _ _ us hl => match us, hl with | [_], _ => rfl
  have m__law_core := PySem.W.mg_of X G a__law_core
  have F__law_full := fun_mk (st := s__law_full) l__law_full c__law_full k__law_full
  have b__law_full := F__law_full.binds (ps := ["pool", "alphabet", "size"]) fun _ _ _ _ _ _ us hl => match us, hl with | [_, _, _], _ => rfl
  have m__law_full := PySem.W.mg_of X G a__law_full
  have F__law_is_whole := fun_mk (st := s__law_is_whole) l__law_is_whole c__law_is_whole k__law_is_whole
  have b__law_is_whole := F__law_is_whole.binds (ps := ["value"]) fun _ _ _ _ _ _ us hl => match us, hl with | [_], _ => rfl
  have m__law_is_whole := PySem.W.mg_of X G a__law_is_whole
  have F__law_is_letter := fun_mk (st := s__law_is_letter) l__law_is_letter c__law_is_letter k__law_is_letter
  have b__law_is_letter := F__law_is_letter.binds (ps := ["value"]) fun _ _ _ _ _ _ us hl => match us, hl with | [_], _ => rfl
  have m__law_is_letter := PySem.W.mg_of X G a__law_is_letter
  have F__law_is_word := fun_mk (st := s__law_is_word) l__law_is_word c__law_is_word k__law_is_word
  have b__law_is_word := F__law_is_word.binds (ps := ["value"]) fun _ _ _ _ _ _ us hl => match us, hl with | [_], _ => rfl
  have m__law_is_word := PySem.W.mg_of X G a__law_is_word
  have F__law_root_exponent := fun_mk (st := s__law_root_exponent) l__law_root_exponent c__law_root_exponent k__law_root_exponent
  have b__law_root_exponent := F__law_root_exponent.binds (ps := ["rule"]) fun _ _ _ _ _ _ us hl => match us, hl with | [_], _ => rfl
  have m__law_root_exponent := PySem.W.mg_of X G a__law_root_exponent
  have F__law_alphabet := fun_mk (st := s__law_alphabet) l__law_alphabet c__law_alphabet k__law_alphabet
  have b__law_alphabet := F__law_alphabet.binds (ps := ["pool", "most"]) fun _ _ _ _ _ _ us hl => match us, hl with | [_, _], _ => rfl
  have m__law_alphabet := PySem.W.mg_of X G a__law_alphabet
  have F__law_between := fun_mk (st := s__law_between) l__law_between c__law_between k__law_between
  have b__law_between := F__law_between.binds (ps := ["outer", "inner"]) fun _ _ _ _ _ _ us hl => match us, hl with | [_, _], _ => rfl
  have m__law_between := PySem.W.mg_of X G a__law_between
  have F__law_second := fun_mk (st := s__law_second) l__law_second c__law_second k__law_second
  have b__law_second := F__law_second.binds (ps := ["pool", "alphabet", "first", "rooted"]) fun _ _ _ _ _ _ us hl => match us, hl with | [_, _, _, _], _ => rfl
  have m__law_second := PySem.W.mg_of X G a__law_second
  have F__law_base := fun_mk (st := s__law_base) l__law_base c__law_base k__law_base
  have b__law_base := F__law_base.binds (ps := ["pool", "alphabet", "rooted"]) fun _ _ _ _ _ _ us hl => match us, hl with | [_, _, _], _ => rfl
  have m__law_base := PySem.W.mg_of X G a__law_base
  have F__law_power_due := fun_mk (st := s__law_power_due) l__law_power_due c__law_power_due k__law_power_due
  have b__law_power_due := F__law_power_due.binds (ps := ["word", "base"]) fun _ _ _ _ _ _ us hl => match us, hl with | [_, _], _ => rfl
  have m__law_power_due := PySem.W.mg_of X G a__law_power_due
  have F__law_power_is := fun_mk (st := s__law_power_is) l__law_power_is c__law_power_is k__law_power_is
  have b__law_power_is := F__law_power_is.binds (ps := ["actual", "due"]) fun _ _ _ _ _ _ us hl => match us, hl with | [_, _], _ => rfl
  have m__law_power_is := PySem.W.mg_of X G a__law_power_is
  have F__law_rooted := fun_mk (st := s__law_rooted) l__law_rooted c__law_rooted k__law_rooted
  have b__law_rooted := F__law_rooted.binds (ps := ["word", "told"]) fun _ _ _ _ _ _ us hl => match us, hl with | [_, _], _ => rfl
  have m__law_rooted := PySem.W.mg_of X G a__law_rooted
  have F_law := fun_mk (st := s_law) l_law c_law k_law
  have z_tuple := PySem.W.mg_none_of X G y_tuple
  have z_reversed := PySem.W.mg_none_of X G y_reversed
  have z_len := PySem.W.mg_none_of X G y_len
  have z_abs := PySem.W.mg_none_of X G y_abs
  have z_sum := PySem.W.mg_none_of X G y_sum
  have z_range := PySem.W.mg_none_of X G y_range
  have z_list := PySem.W.mg_none_of X G y_list
  have z_divmod := PySem.W.mg_none_of X G y_divmod
  have z_int := PySem.W.mg_none_of X G y_int
  have z_min := PySem.W.mg_none_of X G y_min
  have z_isinstance := PySem.W.mg_none_of X G y_isinstance
  have z_bool := PySem.W.mg_none_of X G y_bool
  have z_str := PySem.W.mg_none_of X G y_str
  refine ⟨PySem.W.fnOf "law" "law" (defArgs s_law) (defBody s_law) (defScope s_law) .none kV_law dc_law pm_law an_law cd_law ct_law, fun s v => .of_eq rfl, fun base _ _ => ?_⟩
  have G_reduced := ok_reduced (P := l.prog) (w := w) (mg := mg) (base := base) F_reduced z_tuple
  have G_inverse := ok_inverse (P := l.prog) (w := w) (mg := mg) (base := base) F_inverse z_reversed z_tuple
  have G_length := ok_length (P := l.prog) (w := w) (mg := mg) (base := base) F_length z_abs z_sum
  have G_spell := ok_spell (P := l.prog) (w := w) (mg := mg) (base := base) F_spell z_abs z_range
  have G_is_cyclically_reduced := ok_is_cyclically_reduced (P := l.prog) (w := w) (mg := mg) (base := base) F_is_cyclically_reduced z_len
  have G__law_pool := ok__law_pool (P := l.prog) (w := w) (mg := mg) (base := base) F__law_pool z_len z_int z_abs
  have G__law_draw := ok__law_draw (P := l.prog) (w := w) (mg := mg) (base := base) F__law_draw z_int
  have G__law_reduce := ok__law_reduce (P := l.prog) (w := w) (mg := mg) (base := base) F__law_reduce z_len z_tuple
  have G__law_back := ok__law_back (P := l.prog) (w := w) (mg := mg) (base := base) F__law_back z_list z_reversed z_tuple
  have G__law_size := ok__law_size (P := l.prog) (w := w) (mg := mg) (base := base) F__law_size z_abs z_sum
  have G__law_spelled := ok__law_spelled (P := l.prog) (w := w) (mg := mg) (base := base) F__law_spelled z_abs z_min z_range
  have G__law_is_whole := ok__law_is_whole (P := l.prog) (w := w) (mg := mg) (base := base) F__law_is_whole z_int z_isinstance z_bool
  have G_multiply_all := ok_multiply_all (P := l.prog) (w := w) (mg := mg) (base := base) F_multiply_all G_reduced m_reduced k_reduced b_reduced
  have G_power := ok_power (P := l.prog) (w := w) (mg := mg) (base := base) F_power G_inverse m_inverse k_inverse b_inverse G_reduced m_reduced k_reduced b_reduced z_len z_abs
  have G_core_of := ok_core_of (P := l.prog) (w := w) (mg := mg) (base := base) F_core_of G_is_cyclically_reduced m_is_cyclically_reduced k_is_cyclically_reduced b_is_cyclically_reduced G_reduced m_reduced k_reduced b_reduced z_len z_abs z_tuple
  have G__law_join := ok__law_join (P := l.prog) (w := w) (mg := mg) (base := base) F__law_join G__law_reduce m__law_reduce k__law_reduce b__law_reduce z_list
  have G__law_times := ok__law_times (P := l.prog) (w := w) (mg := mg) (base := base) F__law_times G__law_back m__law_back k__law_back b__law_back G__law_reduce m__law_reduce k__law_reduce b__law_reduce z_list z_abs z_min z_range
  have G__law_core := ok__law_core (P := l.prog) (w := w) (mg := mg) (base := base) F__law_core G__law_spelled m__law_spelled k__law_spelled b__law_spelled G__law_reduce m__law_reduce k__law_reduce b__law_reduce z_len z_range
  have G__law_full := ok__law_full (P := l.prog) (w := w) (mg := mg) (base := base) F__law_full G__law_draw m__law_draw k__law_draw b__law_draw G__law_reduce m__law_reduce k__law_reduce b__law_reduce z_range z_len
  have G__law_is_letter := ok__law_is_letter (P := l.prog) (w := w) (mg := mg) (base := base) F__law_is_letter G__law_is_whole m__law_is_whole k__law_is_whole b__law_is_whole z_tuple z_isinstance z_len z_str
  have G__law_root_exponent := ok__law_root_exponent (P := l.prog) (w := w) (mg := mg) (base := base) F__law_root_exponent G__law_spelled m__law_spelled k__law_spelled b__law_spelled z_len z_range
  have G__law_alphabet := ok__law_alphabet (P := l.prog) (w := w) (mg := mg) (base := base) F__law_alphabet G__law_draw m__law_draw k__law_draw b__law_draw z_range z_len z_list z_tuple
  have G__law_power_is := ok__law_power_is (P := l.prog) (w := w) (mg := mg) (base := base) F__law_power_is G__law_is_whole m__law_is_whole k__law_is_whole b__law_is_whole
  have G_conjugated := ok_conjugated (P := l.prog) (w := w) (mg := mg) (base := base) F_conjugated G_multiply_all m_multiply_all k_multiply_all b_multiply_all G_inverse m_inverse k_inverse b_inverse
  have G_exponent_of := ok_exponent_of (P := l.prog) (w := w) (mg := mg) (base := base) F_exponent_of G_core_of m_core_of k_core_of b_core_of G_length m_length k_length b_length G_power m_power k_power b_power z_divmod z_len
  have G__law_is_word := ok__law_is_word (P := l.prog) (w := w) (mg := mg) (base := base) F__law_is_word G__law_is_letter m__law_is_letter k__law_is_letter b__law_is_letter G__law_is_whole m__law_is_whole k__law_is_whole b__law_is_whole z_tuple z_isinstance z_len
  have G__law_between := ok__law_between (P := l.prog) (w := w) (mg := mg) (base := base) F__law_between G__law_join m__law_join k__law_join b__law_join G__law_back m__law_back k__law_back b__law_back
  have G__law_base := ok__law_base (P := l.prog) (w := w) (mg := mg) (base := base) F__law_base G__law_draw m__law_draw k__law_draw b__law_draw G__law_join m__law_join k__law_join b__law_join G__law_back m__law_back k__law_back b__law_back G__law_full m__law_full k__law_full b__law_full z_len
  have G__law_power_due := ok__law_power_due (P := l.prog) (w := w) (mg := mg) (base := base) F__law_power_due G__law_back m__law_back k__law_back b__law_back G__law_size m__law_size k__law_size b__law_size G__law_join m__law_join k__law_join b__law_join z_range
  have G__law_second := ok__law_second (P := l.prog) (w := w) (mg := mg) (base := base) F__law_second G__law_draw m__law_draw k__law_draw b__law_draw G__law_spelled m__law_spelled k__law_spelled b__law_spelled G__law_times m__law_times k__law_times b__law_times G__law_reduce m__law_reduce k__law_reduce b__law_reduce G__law_core m__law_core k__law_core b__law_core G__law_between m__law_between k__law_between b__law_between G__law_full m__law_full k__law_full b__law_full G__law_size m__law_size k__law_size b__law_size z_len
  have G__law_rooted := ok__law_rooted (P := l.prog) (w := w) (mg := mg) (base := base) F__law_rooted G__law_is_word m__law_is_word k__law_is_word b__law_is_word G__law_is_whole m__law_is_whole k__law_is_whole b__law_is_whole G__law_root_exponent m__law_root_exponent k__law_root_exponent b__law_root_exponent G__law_core m__law_core k__law_core b__law_core G__law_times m__law_times k__law_times b__law_times z_tuple z_isinstance z_len
  have G_rotation := ok_rotation (P := l.prog) (w := w) (mg := mg) (base := base) F_rotation G_spell m_spell k_spell b_spell G_reduced m_reduced k_reduced b_reduced z_list
  have G_root := ok_root (P := l.prog) (w := w) (mg := mg) (base := base) F_root G_core_of m_core_of k_core_of b_core_of G_spell m_spell k_spell b_spell G_rotation m_rotation k_rotation b_rotation G_conjugated m_conjugated k_conjugated b_conjugated G_reduced m_reduced k_reduced b_reduced z_list z_len
  exact ok_law F_law G__law_pool m__law_pool k__law_pool b__law_pool G__law_alphabet m__law_alphabet k__law_alphabet b__law_alphabet G__law_draw m__law_draw k__law_draw b__law_draw G__law_full m__law_full k__law_full b__law_full G__law_between m__law_between k__law_between b__law_between G__law_times m__law_times k__law_times b__law_times G__law_second m__law_second k__law_second b__law_second G__law_base m__law_base k__law_base b__law_base G_root m_root k_root b_root G__law_rooted m__law_rooted k__law_rooted b__law_rooted G__law_back m__law_back k__law_back b__law_back G__law_power_is m__law_power_is k__law_power_is b__law_power_is G_exponent_of m_exponent_of k_exponent_of b_exponent_of G__law_join m__law_join k__law_join b__law_join G__law_is_whole m__law_is_whole k__law_is_whole b__law_is_whole G__law_power_due m__law_power_due k__law_power_due b__law_power_due z_abs
end K06
open PySem PySem.W PyProof.Rows
set_option maxHeartbeats 0 in
theorem PySem.Challenge.cw_onelaw_k06_roots_holds : PySem.Challenge.rw_onelaw_k06_roots.Holds := by
  w_on; o_law; k_head; (case hw => w_witness2)
  k_fill
  refine L2.walk_ofK (l := PySem.Challenge.rw_onelaw_k06_roots) (n := 63) (k := 7) (x := "script") (CX := L2.CX0) (sp := fun K => DL.spOf K K06.sp_law) rfl (by decide) rfl ⟨rfl, by decide, by decide⟩ (fun w h Y => PySem.W.kIn_of Y) ?F (fun K H a ns hl hO hS => DL.sp_law hl hO hS) (fun _ _ _ _ h => h)
  case F =>
    intro w mg fa h KX G hmg
    refine' K06.all_mk KX G hmg ?a_reduced ?l_reduced ?c_reduced ?k_reduced ?a_multiply_all ?l_multiply_all ?c_multiply_all ?k_multiply_all ?a_inverse ?l_inverse ?c_inverse ?k_inverse ?a_power ?l_power ?c_power ?k_power ?a_conjugated ?l_conjugated ?c_conjugated ?k_conjugated ?a_length ?l_length ?c_length ?k_length ?a_spell ?l_spell ?c_spell ?k_spell ?a_is_cyclically_reduced ?l_is_cyclically_reduced ?c_is_cyclically_reduced ?k_is_cyclically_reduced ?a_core_of ?l_core_of ?c_core_of ?k_core_of ?a_rotation ?l_rotation ?c_rotation ?k_rotation ?a_root ?l_root ?c_root ?k_root ?a_exponent_of ?l_exponent_of ?c_exponent_of ?k_exponent_of ?a__law_pool ?l__law_pool ?c__law_pool ?k__law_pool ?a__law_draw ?l__law_draw ?c__law_draw ?k__law_draw ?a__law_reduce ?l__law_reduce ?c__law_reduce ?k__law_reduce ?a__law_join ?l__law_join ?c__law_join ?k__law_join ?a__law_back ?l__law_back ?c__law_back ?k__law_back ?a__law_times ?l__law_times ?c__law_times ?k__law_times ?a__law_size ?l__law_size ?c__law_size ?k__law_size ?a__law_spelled ?l__law_spelled ?c__law_spelled ?k__law_spelled ?a__law_core ?l__law_core ?c__law_core ?k__law_core ?a__law_full ?l__law_full ?c__law_full ?k__law_full ?a__law_is_whole ?l__law_is_whole ?c__law_is_whole ?k__law_is_whole ?a__law_is_letter ?l__law_is_letter ?c__law_is_letter ?k__law_is_letter ?a__law_is_word ?l__law_is_word ?c__law_is_word ?k__law_is_word ?a__law_root_exponent ?l__law_root_exponent ?c__law_root_exponent ?k__law_root_exponent ?a__law_alphabet ?l__law_alphabet ?c__law_alphabet ?k__law_alphabet ?a__law_between ?l__law_between ?c__law_between ?k__law_between ?a__law_second ?l__law_second ?c__law_second ?k__law_second ?a__law_base ?l__law_base ?c__law_base ?k__law_base ?a__law_power_due ?l__law_power_due ?c__law_power_due ?k__law_power_due ?a__law_power_is ?l__law_power_is ?c__law_power_is ?k__law_power_is ?a__law_rooted ?l__law_rooted ?c__law_rooted ?k__law_rooted ?a_law ?l_law ?c_law ?k_law ?y_tuple ?y_reversed ?y_len ?y_abs ?y_sum ?y_range ?y_list ?y_divmod ?y_int ?y_min ?y_isinstance ?y_bool ?y_str
    (case a_reduced => k_is); (case l_reduced => k_is); (case c_reduced => k_is); (case k_reduced => k_is); (case a_multiply_all => k_is); (case l_multiply_all => k_is); (case c_multiply_all => k_is); (case k_multiply_all => k_is); (case a_inverse => k_is); (case l_inverse => k_is); (case c_inverse => k_is); (case k_inverse => k_is); (case a_power => k_is); (case l_power => k_is); (case c_power => k_is); (case k_power => k_is); (case a_conjugated => k_is); (case l_conjugated => k_is); (case c_conjugated => k_is); (case k_conjugated => k_is); (case a_length => k_is); (case l_length => k_is); (case c_length => k_is); (case k_length => k_is); (case a_spell => k_is); (case l_spell => k_is); (case c_spell => k_is); (case k_spell => k_is); (case a_is_cyclically_reduced => k_is); (case l_is_cyclically_reduced => k_is); (case c_is_cyclically_reduced => k_is); (case k_is_cyclically_reduced => k_is); (case a_core_of => k_is); (case l_core_of => k_is); (case c_core_of => k_is); (case k_core_of => k_is); (case a_rotation => k_is); (case l_rotation => k_is); (case c_rotation => k_is); (case k_rotation => k_is); (case a_root => k_is); (case l_root => k_is); (case c_root => k_is); (case k_root => k_is); (case a_exponent_of => k_is); (case l_exponent_of => k_is); (case c_exponent_of => k_is); (case k_exponent_of => k_is); (case a__law_pool => k_is); (case l__law_pool => k_is); (case c__law_pool => k_is); (case k__law_pool => k_is); (case a__law_draw => k_is); (case l__law_draw => k_is); (case c__law_draw => k_is); (case k__law_draw => k_is); (case a__law_reduce => k_is); (case l__law_reduce => k_is); (case c__law_reduce => k_is); (case k__law_reduce => k_is); (case a__law_join => k_is); (case l__law_join => k_is); (case c__law_join => k_is); (case k__law_join => k_is); (case a__law_back => k_is); (case l__law_back => k_is); (case c__law_back => k_is); (case k__law_back => k_is); (case a__law_times => k_is); (case l__law_times => k_is); (case c__law_times => k_is); (case k__law_times => k_is); (case a__law_size => k_is); (case l__law_size => k_is); (case c__law_size => k_is); (case k__law_size => k_is); (case a__law_spelled => k_is); (case l__law_spelled => k_is); (case c__law_spelled => k_is); (case k__law_spelled => k_is); (case a__law_core => k_is); (case l__law_core => k_is); (case c__law_core => k_is); (case k__law_core => k_is); (case a__law_full => k_is); (case l__law_full => k_is); (case c__law_full => k_is); (case k__law_full => k_is); (case a__law_is_whole => k_is); (case l__law_is_whole => k_is); (case c__law_is_whole => k_is); (case k__law_is_whole => k_is); (case a__law_is_letter => k_is); (case l__law_is_letter => k_is); (case c__law_is_letter => k_is); (case k__law_is_letter => k_is); (case a__law_is_word => k_is); (case l__law_is_word => k_is); (case c__law_is_word => k_is); (case k__law_is_word => k_is); (case a__law_root_exponent => k_is); (case l__law_root_exponent => k_is); (case c__law_root_exponent => k_is); (case k__law_root_exponent => k_is); (case a__law_alphabet => k_is); (case l__law_alphabet => k_is); (case c__law_alphabet => k_is); (case k__law_alphabet => k_is); (case a__law_between => k_is); (case l__law_between => k_is); (case c__law_between => k_is); (case k__law_between => k_is); (case a__law_second => k_is); (case l__law_second => k_is); (case c__law_second => k_is); (case k__law_second => k_is); (case a__law_base => k_is); (case l__law_base => k_is); (case c__law_base => k_is); (case k__law_base => k_is); (case a__law_power_due => k_is); (case l__law_power_due => k_is); (case c__law_power_due => k_is); (case k__law_power_due => k_is); (case a__law_power_is => k_is); (case l__law_power_is => k_is); (case c__law_power_is => k_is); (case k__law_power_is => k_is); (case a__law_rooted => k_is); (case l__law_rooted => k_is); (case c__law_rooted => k_is); (case k__law_rooted => k_is); (case a_law => k_is); (case l_law => k_is); (case c_law => k_is); (case k_law => k_is); (case y_tuple => k_is); (case y_reversed => k_is); (case y_len => k_is); (case y_abs => k_is); (case y_sum => k_is); (case y_range => k_is); (case y_list => k_is); (case y_divmod => k_is); (case y_int => k_is); (case y_min => k_is); (case y_isinstance => k_is); (case y_bool => k_is); (case y_str => k_is)
