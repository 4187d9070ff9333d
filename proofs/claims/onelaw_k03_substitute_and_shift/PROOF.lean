import PyProof.Rows.All
import Wide.All
import OpenK.AllK
import Wide.FinOn
import HandS.ForMost
import HandS.Deep
import HandS.Wide
import HandS.TupAny
import HandS.Rev
import HandS.IsInst
import HandS.RevTup
import HandS.Star
import HandS.TupMul
import PySem.Challenge.RW_onelaw_k03_substitute_and_shift
set_option Elab.async false
set_option linter.all false
set_option maxRecDepth 100000
set_option maxHeartbeats 4000000
/-! DL: a layer of plain data over the hand layer: values are trees, lists stand in a numbered store. -/
namespace DL
open PySem PySem.Spec L2

/-- plain data; ref k: the k-th cell of the store; rol: a list that is only read -/
inductive D where
  | non
  | bl (b : Bool)
  | int (i : Int)
  | str (x : Str)
  | ty (n : String)
  | tup (xs : List D)
  | rol (xs : List D)
  | ref (k : Nat)

/-- a list that nobody writes -/
def SqF (K : PySem.W.Frag) (H : Hp) (a : Addr) (xs : List V) : Prop :=
  (∃ o, H a = some (.frz o (.lst xs))) ∨
    ∃ (o : Obj) (its : Array Value) (n : Nat), K.lookup a = some o ∧ o.cls = .type "list" ∧ o.dict = none ∧ o.data = .seq its n ∧ its.size ≤ sizeLine ∧ Vals xs its.toList

mutual
def Rep (K : PySem.W.Frag) (ρ : List Addr) (H : Hp) : D → V → Prop
  | .non, v => v = .non
  | .bl b, v => v = .bl b
  | .int i, v => v = .int i
  | .str x, v => v = .str x
  | .ty n, v => v = .ty n
  | .tup xs, v => ∃ a vs, v = .ref a ∧ SqT K H a vs ∧ Reps K ρ H xs vs
  | .rol xs, v => ∃ a vs, v = .ref a ∧ SqF K H a vs ∧ Reps K ρ H xs vs
  | .ref k, v => ∃ a, ρ[k]? = some a ∧ v = .ref a
def Reps (K : PySem.W.Frag) (ρ : List Addr) (H : Hp) : List D → List V → Prop
  | [], vs => vs = []
  | d :: ds, vs => ∃ v r, vs = v :: r ∧ Rep K ρ H d v ∧ Reps K ρ H ds r
end

structure Keep (ρ ρ' : List Addr) (H H' : Hp) : Prop where
  pre : ∃ t, ρ' = ρ ++ t
  tups : ∀ a xs, H a = some (.tup xs) → H' a = some (.tup xs)
  frzs : ∀ a o u, H a = some (.frz o u) → H' a = some (.frz o u)

section
variable {K : PySem.W.Frag} {ρ ρ' ρ'' : List Addr} {H H' H'' : Hp}
theorem Keep.refl : Keep ρ ρ H H := ⟨⟨[], by simp⟩, fun _ _ h => h, fun _ _ _ h => h⟩
theorem Keep.trans (a : Keep ρ ρ' H H') (b : Keep ρ' ρ'' H' H'') : Keep ρ ρ'' H H'' := by
  obtain ⟨t, rfl⟩ := a.pre
  obtain ⟨u, rfl⟩ := b.pre
  exact ⟨⟨t ++ u, by simp⟩, fun x y h => b.tups x y (a.tups x y h), fun x y z h => b.frzs x y z (a.frzs x y z h)⟩
theorem Keep.get (k : Keep ρ ρ' H H') {i : Nat} {a : Addr} (h : ρ[i]? = some a) : ρ'[i]? = some a := by
  obtain ⟨t, rfl⟩ := k.pre
  rw [List.getElem?_append_left]
  · exact h
  · exact (List.getElem?_eq_some_iff.mp h).1
theorem Keep.sqt (k : Keep ρ ρ' H H') {a : Addr} {xs : List V} (h : SqT K H a xs) : SqT K H' a xs := by
  rcases h with (h | ⟨o, h⟩) | h
  · exact .inl (.inl (k.tups _ _ h))
  · exact .inl (.inr ⟨o, k.frzs _ _ _ h⟩)
  · exact .inr h
theorem Keep.sqf (k : Keep ρ ρ' H H') {a : Addr} {xs : List V} (h : SqF K H a xs) : SqF K H' a xs := by
  rcases h with ⟨o, h⟩ | h
  · exact .inl ⟨o, k.frzs _ _ _ h⟩
  · exact .inr h
mutual
theorem rep_keep (k : Keep ρ ρ' H H') : ∀ (d : D) (v : V), Rep K ρ H d v → Rep K ρ' H' d v
  | .non, _, h => h
  | .bl _, _, h => h
  | .int _, _, h => h
  | .str _, _, h => h
  | .ty _, _, h => h
  | .tup xs, v, h => by
    obtain ⟨a, vs, e, hs, hr⟩ := h
    exact ⟨a, vs, e, k.sqt hs, reps_keep k xs vs hr⟩
  | .rol xs, v, h => by
    obtain ⟨a, vs, e, hs, hr⟩ := h
    exact ⟨a, vs, e, k.sqf hs, reps_keep k xs vs hr⟩
  | .ref i, v, h => by
    obtain ⟨a, hs, e⟩ := h
    exact ⟨a, k.get hs, e⟩
theorem reps_keep (k : Keep ρ ρ' H H') : ∀ (ds : List D) (vs : List V), Reps K ρ H ds vs → Reps K ρ' H' ds vs
  | [], _, h => h
  | d :: ds, vs, h => by
    obtain ⟨v, r, e, h1, h2⟩ := h
    exact ⟨v, r, e, rep_keep k d v h1, reps_keep k ds r h2⟩
end
theorem Rep.keep {d : D} {v : V} (h : Rep K ρ H d v) (k : Keep ρ ρ' H H') : Rep K ρ' H' d v := rep_keep k d v h
theorem Reps.keep {ds : List D} {vs : List V} (h : Reps K ρ H ds vs) (k : Keep ρ ρ' H H') : Reps K ρ' H' ds vs := reps_keep k ds vs h
theorem Reps.nil : Reps K ρ H [] [] := by unfold Reps; rfl
theorem Reps.cons {d : D} {ds : List D} {v : V} {vs : List V} (h : Rep K ρ H d v) (hs : Reps K ρ H ds vs) : Reps K ρ H (d :: ds) (v :: vs) := by unfold Reps; exact ⟨v, vs, rfl, h, hs⟩
theorem Reps.len : ∀ {ds : List D} {vs : List V}, Reps K ρ H ds vs → ds.length = vs.length
  | [], vs, h => by unfold Reps at h; rw [h]; rfl
  | d :: ds, vs, h => by
    unfold Reps at h
    obtain ⟨v, r, rfl, _, h2⟩ := h
    rw [List.length_cons, List.length_cons, Reps.len h2]
theorem Reps.get : ∀ {ds : List D} {vs : List V} {i : Nat} {d : D}, Reps K ρ H ds vs → ds[i]? = some d → ∃ v, vs[i]? = some v ∧ Rep K ρ H d v
  | [], _, _, _, _, e => by simp at e
  | a :: ds, vs, 0, d, h, e => by
    unfold Reps at h
    obtain ⟨v, r, rfl, h1, _⟩ := h
    simp at e
    subst e
    exact ⟨v, rfl, h1⟩
  | a :: ds, vs, i + 1, d, h, e => by
    unfold Reps at h
    obtain ⟨v, r, rfl, _, h2⟩ := h
    simp at e
    obtain ⟨w, e2, h3⟩ := Reps.get h2 e
    exact ⟨w, by simpa using e2, h3⟩
theorem Reps.get2 {ds : List D} {vs : List V} {i : Nat} {v : V} (h : Reps K ρ H ds vs) (e : vs[i]? = some v) : ∃ d, ds[i]? = some d ∧ Rep K ρ H d v := by
  have hl := h.len
  have hi := (List.getElem?_eq_some_iff.mp e).1
  have hd : ds[i]? = some ds[i] := List.getElem?_eq_getElem (by omega)
  obtain ⟨w, e2, r⟩ := h.get hd
  rw [e] at e2
  cases e2
  exact ⟨_, hd, r⟩
theorem Reps.app : ∀ {ds es : List D} {vs ws : List V}, Reps K ρ H ds vs → Reps K ρ H es ws → Reps K ρ H (ds ++ es) (vs ++ ws)
  | [], _, vs, _, h, h' => by unfold Reps at h; rw [h]; exact h'
  | d :: ds, es, vs, ws, h, h' => by
    unfold Reps at h
    obtain ⟨v, r, rfl, h1, h2⟩ := h
    exact Reps.cons h1 (Reps.app h2 h')
theorem Reps.take : ∀ {ds : List D} {vs : List V} (n : Nat), Reps K ρ H ds vs → Reps K ρ H (ds.take n) (vs.take n)
  | _, _, 0, _ => Reps.nil
  | [], vs, n + 1, h => by unfold Reps at h; rw [h]; exact Reps.nil
  | d :: ds, vs, n + 1, h => by
    unfold Reps at h
    obtain ⟨v, r, rfl, h1, h2⟩ := h
    exact Reps.cons h1 (Reps.take n h2)
theorem Reps.drop : ∀ {ds : List D} {vs : List V} (n : Nat), Reps K ρ H ds vs → Reps K ρ H (ds.drop n) (vs.drop n)
  | _, _, 0, h => h
  | [], vs, n + 1, h => by unfold Reps at h; rw [h]; exact Reps.nil
  | d :: ds, vs, n + 1, h => by
    unfold Reps at h
    obtain ⟨v, r, rfl, h1, h2⟩ := h
    exact Reps.drop n h2
theorem Reps.rev : ∀ {ds : List D} {vs : List V}, Reps K ρ H ds vs → Reps K ρ H ds.reverse vs.reverse
  | [], vs, h => by unfold Reps at h; rw [h]; exact Reps.nil
  | d :: ds, vs, h => by
    unfold Reps at h
    obtain ⟨v, r, rfl, h1, h2⟩ := h
    rw [List.reverse_cons, List.reverse_cons]
    exact Reps.app (Reps.rev h2) (Reps.cons h1 Reps.nil)
theorem Reps.set : ∀ {ds : List D} {vs : List V} {d : D} {v : V} (n : Nat), Reps K ρ H ds vs → Rep K ρ H d v → Reps K ρ H (ds.set n d) (vs.set n v)
  | [], vs, _, _, _, h, _ => by unfold Reps at h; rw [h]; exact Reps.nil
  | d :: ds, vs, _, _, 0, h, q => by
    unfold Reps at h
    obtain ⟨v, r, rfl, h1, h2⟩ := h
    exact Reps.cons q h2
  | d :: ds, vs, _, _, n + 1, h, q => by
    unfold Reps at h
    obtain ⟨v, r, rfl, h1, h2⟩ := h
    exact Reps.cons h1 (Reps.set n h2 q)
theorem Reps.dropLast {ds : List D} {vs : List V} (h : Reps K ρ H ds vs) : Reps K ρ H ds.dropLast vs.dropLast := by
  rw [List.dropLast_eq_take, List.dropLast_eq_take, h.len]
  exact h.take _
theorem Reps.eraseIdx : ∀ {ds : List D} {vs : List V} (n : Nat), Reps K ρ H ds vs → Reps K ρ H (ds.eraseIdx n) (vs.eraseIdx n)
  | [], vs, _, h => by unfold Reps at h; rw [h]; exact Reps.nil
  | d :: ds, vs, 0, h => by
    unfold Reps at h
    obtain ⟨v, r, rfl, h1, h2⟩ := h
    exact h2
  | d :: ds, vs, n + 1, h => by
    unfold Reps at h
    obtain ⟨v, r, rfl, h1, h2⟩ := h
    exact Reps.cons h1 (Reps.eraseIdx n h2)
theorem Reps.repl {ds : List D} {vs : List V} (h : Reps K ρ H ds vs) : ∀ k : Nat, Reps K ρ H (List.replicate k ds).flatten (List.replicate k vs).flatten
  | 0 => Reps.nil
  | k + 1 => by
    rw [List.replicate_succ, List.replicate_succ, List.flatten_cons, List.flatten_cons]
    exact Reps.app h (Reps.repl h k)
theorem Reps.ints : ∀ (ns : List Int), Reps K ρ H (ns.map D.int) (ns.map V.int)
  | [] => Reps.nil
  | n :: ns => Reps.cons (by unfold Rep; rfl) (Reps.ints ns)
end

/-! ### the store -/
inductive O where
  | lst (xs : List D)
abbrev Store := List O

section
variable (K : PySem.W.Frag) (ρ : List Addr) (H : Hp)
def RepO (a : Addr) : O → Prop
  | .lst xs => ∃ vs, H a = some (.lst vs) ∧ Reps K ρ H xs vs
structure RelS (st : Store) : Prop where
  len : ρ.length = st.length
  nd : ρ.Nodup
  ob : ∀ (k : Nat) o, st[k]? = some o → ∃ a, ρ[k]? = some a ∧ RepO K ρ H a o
abbrev DEnv := List (Option D)
structure RelE (env : DEnv) (σ : St) : Prop where
  len : env.length = σ.length
  get : ∀ (i : Nat) d, env[i]? = some (some d) → ∃ v, σ[i]? = some (some v) ∧ Rep K ρ H d v
end

section
variable {K : PySem.W.Frag} {ρ ρ' : List Addr} {H H' : Hp} {st : Store} {env : DEnv} {σ : St}
theorem RelE.keep (r : RelE K ρ H env σ) (k : Keep ρ ρ' H H') : RelE K ρ' H' env σ :=
  ⟨r.len, fun i d e => let ⟨v, e2, q⟩ := r.get i d e; ⟨v, e2, q.keep k⟩⟩
theorem RelE.set {d : D} {v : V} (r : RelE K ρ H env σ) (i : Nat) (h : Rep K ρ H d v) : RelE K ρ H (env.set i (some d)) (σ.set i (some v)) := by
  refine ⟨by rw [List.length_set, List.length_set, r.len], fun j e he => ?_⟩
  by_cases hj : i = j
  · subst hj
    by_cases hi : i < env.length
    · rw [List.getElem?_set_self hi] at he
      cases he
      exact ⟨v, List.getElem?_set_self (by rw [← r.len]; exact hi), h⟩
    · rw [List.getElem?_eq_none (by rw [List.length_set]; omega)] at he
      cases he
  · rw [List.getElem?_set_ne hj] at he ⊢
    exact r.get j e he
theorem RelS.at {k : Nat} {a : Addr} {o : O} (r : RelS K ρ H st) (e : ρ[k]? = some a) (h : st[k]? = some o) : RepO K ρ H a o := by
  obtain ⟨b, e2, q⟩ := r.ob k o h
  rw [e] at e2
  cases e2
  exact q
theorem RelS.lst {k : Nat} {a : Addr} {xs : List D} (r : RelS K ρ H st) (e : ρ[k]? = some a) (h : st[k]? = some (.lst xs)) : ∃ vs, H a = some (.lst vs) ∧ Reps K ρ H xs vs := r.at e h
/-- the address of every cell is tracked -/
theorem RelS.tracked {k : Nat} {a : Addr} (r : RelS K ρ H st) (e : ρ[k]? = some a) : ∃ o, H a = some o := by
  have hk := (List.getElem?_eq_some_iff.mp e).1
  have hs : st[k]? = some (st[k]'(by rw [← r.len]; exact hk)) := List.getElem?_eq_getElem _
  have q := r.at e hs
  cases ho : st[k]'(by rw [← r.len]; exact hk) with
  | lst xs =>
    rw [ho] at q
    obtain ⟨vs, e2, _⟩ := q
    exact ⟨_, e2⟩
theorem keep_new {p : Addr} {o : HO} (hp : H p = none) : Keep ρ ρ H (upd H p o) :=
  ⟨⟨[], by simp⟩, fun a xs h => by rw [upd_ne (ne_of_none h hp)]; exact h, fun a ob u h => by rw [upd_ne (ne_of_none h hp)]; exact h⟩
theorem repO_new {p a : Addr} {o : HO} {ob : O} (hp : H p = none) (h : RepO K ρ H a ob) : RepO K ρ (upd H p o) a ob := by
  cases ob with
  | lst xs =>
    obtain ⟨vs, e, r⟩ := h
    exact ⟨vs, by rw [upd_ne (ne_of_none e hp)]; exact e, r.keep (keep_new hp)⟩
/-- an object that is no cell is laid -/
theorem RelS.new {p : Addr} {o : HO} (r : RelS K ρ H st) (hp : H p = none) : RelS K ρ (upd H p o) st :=
  ⟨r.len, r.nd, fun k ob e => let ⟨a, e2, q⟩ := r.ob k ob e; ⟨a, e2, repO_new hp q⟩⟩
theorem repO_keep {a : Addr} {o : O} (h : RepO K ρ H a o) (k : Keep ρ ρ' H H') (e : ∀ u, H a = some u → H' a = some u) : RepO K ρ' H' a o := by
  cases o with
  | lst xs =>
    obtain ⟨vs, e1, r⟩ := h
    exact ⟨vs, e _ e1, r.keep k⟩
theorem keep_cell {p : Addr} {o : HO} (hp : H p = none) : Keep ρ (ρ ++ [p]) H (upd H p o) :=
  ⟨⟨[p], rfl⟩, fun a xs h => by rw [upd_ne (ne_of_none h hp)]; exact h, fun a ob u h => by rw [upd_ne (ne_of_none h hp)]; exact h⟩
/-- a new cell -/
theorem RelS.cell {p : Addr} {vs : List V} {xs : List D} (r : RelS K ρ H st) (hp : H p = none) (h : Reps K ρ H xs vs) : RelS K (ρ ++ [p]) (upd H p (.lst vs)) (st ++ [.lst xs]) := by
  have kp : Keep ρ (ρ ++ [p]) H (upd H p (.lst vs)) := keep_cell hp
  refine ⟨by rw [List.length_append, List.length_append, r.len]; rfl, ?_, fun k o e => ?_⟩
  · rw [List.nodup_append]
    refine ⟨r.nd, by simp, fun a ha b hb => ?_⟩
    have hb' : b = p := by simpa using hb
    subst hb'
    obtain ⟨i, hi⟩ := List.getElem?_of_mem ha
    obtain ⟨o, ho⟩ := r.tracked hi
    exact ne_of_none ho hp
  · by_cases hk : k < st.length
    · rw [List.getElem?_append_left hk] at e
      obtain ⟨a, e2, q⟩ := r.ob k o e
      refine ⟨a, kp.get e2, repO_keep q kp fun u hu => ?_⟩
      rw [upd_ne (ne_of_none hu hp)]
      exact hu
    · have hk2 : k = st.length := by
        have := (List.getElem?_eq_some_iff.mp e).1
        rw [List.length_append, List.length_singleton] at this
        omega
      subst hk2
      rw [List.getElem?_append_right (Nat.le_refl _), Nat.sub_self] at e
      simp at e
      subst e
      refine ⟨p, ?_, vs, upd_same, h.keep kp⟩
      rw [List.getElem?_append_right (by rw [r.len]; exact Nat.le_refl _), r.len, Nat.sub_self]
      rfl
theorem keep_upd {a : Addr} {vs ws : List V} (h : H a = some (.lst vs)) : Keep ρ ρ H (upd H a (.lst ws)) :=
  ⟨⟨[], by simp⟩, fun b xs e => by rw [upd_ne (ne_of e h (by intro z; cases z))]; exact e, fun b ob u e => by rw [upd_ne (ne_of e h (by intro z; cases z))]; exact e⟩
/-- a cell is written -/
theorem RelS.put {k : Nat} {a : Addr} {vs ws : List V} {xs : List D} (r : RelS K ρ H st) (e : ρ[k]? = some a) (ha : H a = some (.lst vs)) (h : Reps K ρ H xs ws) : RelS K ρ (upd H a (.lst ws)) (st.set k (.lst xs)) := by
  have kp : Keep ρ ρ H (upd H a (.lst ws)) := keep_upd ha
  refine ⟨by rw [List.length_set, r.len], r.nd, fun j o q => ?_⟩
  by_cases hj : k = j
  · subst hj
    have hk : k < st.length := by rw [← r.len]; exact (List.getElem?_eq_some_iff.mp e).1
    rw [List.getElem?_set_self hk] at q
    cases q
    exact ⟨a, e, ws, upd_same, h.keep kp⟩
  · rw [List.getElem?_set_ne hj] at q
    obtain ⟨b, e2, q2⟩ := r.ob j o q
    refine ⟨b, e2, repO_keep q2 kp fun u hu => ?_⟩
    rw [upd_ne]
    · exact hu
    · intro z
      subst z
      exact hj (nd_ix r.nd e e2)
end

/-! ### readings over data -/
abbrev DQ := D → Store → Prop
abbrev DTE := DEnv → Store → DQ → Prop
abbrev DTT := DEnv → Store → (Bool → Store → Prop) → Prop
abbrev DTA := DEnv → Store → (List D → Store → Prop) → Prop
def PostE (K : PySem.W.Frag) (ρ : List Addr) (H : Hp) (Q : DQ) : VK := fun v H' => ∃ ρ' d st', Keep ρ ρ' H H' ∧ RelS K ρ' H' st' ∧ Rep K ρ' H' d v ∧ Q d st'
def PostT (K : PySem.W.Frag) (ρ : List Addr) (H : Hp) (Q : Bool → Store → Prop) : Bool → Hp → Prop := fun b H' => ∃ ρ' st', Keep ρ ρ' H H' ∧ RelS K ρ' H' st' ∧ Q b st'
def PostA (K : PySem.W.Frag) (ρ : List Addr) (H : Hp) (Q : List D → Store → Prop) : List V → Hp → Prop := fun vs H' => ∃ ρ' ds st', Keep ρ ρ' H H' ∧ RelS K ρ' H' st' ∧ Reps K ρ' H' ds vs ∧ Q ds st'
def Sim (K : PySem.W.Frag) (t : TE) (te : DTE) : Prop := ∀ ρ env st σ H (Q : DQ) (W : VK), RelS K ρ H st → RelE K ρ H env σ → te env st Q → (∀ v H', PostE K ρ H Q v H' → W v H') → t σ H W
def SimT (K : PySem.W.Frag) (t : TT) (te : DTT) : Prop := ∀ ρ env st σ H (Q : Bool → Store → Prop) (W : Bool → Hp → Prop), RelS K ρ H st → RelE K ρ H env σ → te env st Q → (∀ b H', PostT K ρ H Q b H' → W b H') → t σ H W
def SimA (K : PySem.W.Frag) (t : TA) (te : DTA) : Prop := ∀ ρ env st σ H (Q : List D → Store → Prop) (W : List V → Hp → Prop), RelS K ρ H st → RelE K ρ H env σ → te env st Q → (∀ vs H', PostA K ρ H Q vs H' → W vs H') → t σ H W

structure SE (X : Cx) (e : Expr) (t : TE) (te : DTE) : Prop where
  pe : PE X e t
  sim : Sim X.K t te
structure ST (X : Cx) (e : Expr) (t : TT) (te : DTT) : Prop where
  pt : PT X e t
  sim : SimT X.K t te
structure SW (X : Cx) (e : Expr) (t : TT) (te : DTT) : Prop where
  pw : PW X e t
  sim : SimT X.K t te
structure SA (X : Cx) (es : List Expr) (t : TA) (te : DTA) : Prop where
  pa : PA X es t
  sim : SimA X.K t te

section
variable {K : PySem.W.Frag} {ρ ρ' : List Addr} {H H' : Hp} {st : Store} {Q : DQ} {v : V}
theorem PostE.of {d : D} (r : RelS K ρ H st) (h : Rep K ρ H d v) (q : Q d st) : PostE K ρ H Q v H := ⟨ρ, d, st, Keep.refl, r, h, q⟩
theorem PostE.keep (k : Keep ρ ρ' H H') {H2 : Hp} (h : PostE K ρ' H' Q v H2) : PostE K ρ H Q v H2 := by
  obtain ⟨ρ2, d, st2, k2, r, p, q⟩ := h
  exact ⟨ρ2, d, st2, k.trans k2, r, p, q⟩
theorem PostT.of {Q : Bool → Store → Prop} {b : Bool} (r : RelS K ρ H st) (q : Q b st) : PostT K ρ H Q b H := ⟨ρ, st, Keep.refl, r, q⟩
theorem PostT.keep (k : Keep ρ ρ' H H') {Q : Bool → Store → Prop} {b : Bool} {H2 : Hp} (h : PostT K ρ' H' Q b H2) : PostT K ρ H Q b H2 := by
  obtain ⟨ρ2, st2, k2, r, q⟩ := h
  exact ⟨ρ2, st2, k.trans k2, r, q⟩
theorem PostA.keep (k : Keep ρ ρ' H H') {Q : List D → Store → Prop} {vs : List V} {H2 : Hp} (h : PostA K ρ' H' Q vs H2) : PostA K ρ H Q vs H2 := by
  obtain ⟨ρ2, d, st2, k2, r, p, q⟩ := h
  exact ⟨ρ2, d, st2, k.trans k2, r, p, q⟩
/-- a new tuple as the answer -/
theorem PostE.tup {p : Addr} {ds : List D} {vs : List V} (r : RelS K ρ H st) (hp : H p = none) (h : Reps K ρ H ds vs) (q : Q (.tup ds) st) : PostE K ρ H Q (.ref p) (upd H p (.tup vs)) :=
  ⟨ρ, .tup ds, st, keep_new hp, r.new hp, ⟨p, vs, rfl, .inl (.inl upd_same), h.keep (keep_new hp)⟩, q⟩
/-- a new list as the answer -/
theorem PostE.lst {p : Addr} {ds : List D} {vs : List V} (r : RelS K ρ H st) (hp : H p = none) (h : Reps K ρ H ds vs) (q : Q (.ref st.length) (st ++ [.lst ds])) : PostE K ρ H Q (.ref p) (upd H p (.lst vs)) :=
  ⟨ρ ++ [p], .ref st.length, st ++ [.lst ds], keep_cell hp, r.cell hp h, ⟨p, by rw [List.getElem?_append_right (by rw [r.len]; exact Nat.le_refl _), r.len, Nat.sub_self]; rfl, rfl⟩, q⟩
end

/-- the written part of a context -/
class HasK (X : Cx) (K : outParam PySem.W.Frag) : Prop where
  eq : X.K = K
instance {CX : CXT} {P : Program} {w : World} {K : PySem.W.Frag} {mg : Str → Option Value} {base : Heap} {N : List Str} {qual : Str} {scope : Scope} {f : Addr} {cd : Value} {A : Around} {outer : List Env} {s : Shared} {H : Hp} {E : XK} : HasK (cxOf CX P w K mg base N qual scope f cd A outer s H E) K := ⟨rfl⟩
instance {X : Cx} {K : PySem.W.Frag} {E : Value → Shared → Prop} [h : HasK X K] : HasK (X.wish E) K := ⟨h.eq⟩
instance {X : Cx} {K : PySem.W.Frag} {s : Shared} {H : Hp} {scope : Scope} {cenv : PySem.Env} {fp : List Addr} [h : HasK X K] : HasK (X.blk s H scope cenv fp) K := ⟨h.eq⟩

/-! ### names, constants -/
def dVar (i : Nat) : DTE := fun env st Q => match env[i]? with
  | some (some d) => Q d st
  | _ => False
def dC (d : D) : DTE := fun _ st Q => Q d st
section
variable {X : Cx}
theorem sim_var {K : PySem.W.Frag} {i : Nat} : Sim K (tVar i) (dVar i) := by
  intro ρ env st σ H Q W r re h w
  unfold dVar at h
  split at h
  · rename_i d e
    obtain ⟨v, e2, q⟩ := re.get i d e
    exact ⟨v, e2, w v H (.of r q h)⟩
  · exact h.elim
theorem sv (i : Nat) {x : Str} {pos : Pos} (hN : X.N[i]? = some x := by rfl) (hv : Vis X.env.scope x := by first | exact Or.inl rfl | exact Or.inr (Or.inl rfl) | exact Or.inr (Or.inr rfl)) (hd : (x == ("__debug__" : Str)) = false := by decide)
    (hcd : (x == ("__classdict__" : Str)) = false := by decide) : SE X (.Name x pos) (tVar i) (dVar i) := ⟨pe_var hN hv hd hcd, sim_var⟩
theorem sim_c {K : PySem.W.Frag} {d : D} {v : V} (h : ∀ ρ H, Rep K ρ H d v) : Sim K (tC v) (dC d) := by
  intro ρ env st σ H Q W r re q w
  exact w v H (.of r (h ρ H) q)
theorem se_int {i j pos} : SE X (.Constant (.int i) j pos) (tC (.int i)) (dC (.int i)) := ⟨pe_int, sim_c fun _ _ => by unfold Rep; rfl⟩
theorem se_bl {b j pos} : SE X (.Constant (.bool b) j pos) (tC (.bl b)) (dC (.bl b)) := ⟨pe_bl, sim_c fun _ _ => by unfold Rep; rfl⟩
theorem se_non {j pos} : SE X (.Constant .none j pos) (tC .non) (dC .non) := ⟨pe_non, sim_c fun _ _ => by unfold Rep; rfl⟩
theorem se_str {x j pos} : SE X (.Constant (.str x) j pos) (tC (.str x)) (dC (.str x)) := ⟨pe_str, sim_c fun _ _ => by unfold Rep; rfl⟩
theorem se_glob {x : Str} {d : D} {v : V} {u : Value} {pos : Pos} (hg : Gl X x) (hm : X.mg x = some u) (r : RelV v u) (h : ∀ ρ H, Rep X.K ρ H d v) (hd : (x == ("__debug__" : Str)) = false := by decide) : SE X (.Name x pos) (tC v) (dC d) := ⟨pe_glob hg hm r hd, sim_c h⟩
theorem se_bltn {x : Str} {n : String} {u : Value} {pos : Pos} (hg : Gl X x) (hm : X.mg x = none) (hv : bootBuiltins x = some u) (r : RelV (.ty n) u) (hn : x ≠ "__name__" := by decide) (hd : (x == ("__debug__" : Str)) = false := by decide) : SE X (.Name x pos) (tC (.ty n)) (dC (.ty n)) :=
  ⟨pe_bltn hg hm hv r hn hd, sim_c fun _ _ => by unfold Rep; rfl⟩
end

/-! ### operators -/
abbrev DR2 := D → D → Store → DQ → Prop
abbrev DR1 := D → Store → DQ → Prop
abbrev DRA := List D → Store → DQ → Prop
def SimR2 (K : PySem.W.Frag) (r : R2) (rd : DR2) : Prop := ∀ ρ st H x y dx dy (Q : DQ) (W : VK), RelS K ρ H st → Rep K ρ H dx x → Rep K ρ H dy y → rd dx dy st Q → (∀ v H', PostE K ρ H Q v H' → W v H') → r x y H W
def SimR1 (K : PySem.W.Frag) (r : V → Hp → VK → Prop) (rd : DR1) : Prop := ∀ ρ st H x dx (Q : DQ) (W : VK), RelS K ρ H st → Rep K ρ H dx x → rd dx st Q → (∀ v H', PostE K ρ H Q v H' → W v H') → r x H W
def SimRA (K : PySem.W.Frag) (r : List V → Hp → VK → Prop) (rd : DRA) : Prop := ∀ ρ st H xs dxs (Q : DQ) (W : VK), RelS K ρ H st → Reps K ρ H dxs xs → rd dxs st Q → (∀ v H', PostE K ρ H Q v H' → W v H') → r xs H W
def dOp (rd : DR2) (da db : DTE) : DTE := fun env st Q => da env st fun x st1 => db env st1 fun y st2 => rd x y st2 Q
def dUn (rd : DR1) (da : DTE) : DTE := fun env st Q => da env st fun x st1 => rd x st1 Q
theorem sim_op {K : PySem.W.Frag} {r : R2} {rd : DR2} {ta tb : TE} {da db : DTE} (hr : SimR2 K r rd) (ha : Sim K ta da) (hb : Sim K tb db) : Sim K (tOp r ta tb) (dOp rd da db) := by
  intro ρ env st σ H Q W rs re h w
  refine ha ρ env st σ H _ _ rs re h fun x H1 ⟨ρ1, dx, st1, k1, r1, px, q1⟩ => ?_
  refine hb ρ1 env st1 σ H1 _ _ r1 (re.keep k1) q1 fun y H2 ⟨ρ2, dy, st2, k2, r2, py, q2⟩ => ?_
  exact hr ρ2 st2 H2 x y dx dy Q W r2 (px.keep k2) py q2 fun v H' p => w v H' ((p.keep k2).keep k1)
theorem sim_un {K : PySem.W.Frag} {r : V → Hp → VK → Prop} {rd : DR1} {ta : TE} {da : DTE} (hr : SimR1 K r rd) (ha : Sim K ta da) : Sim K (tUn r ta) (dUn rd da) := by
  intro ρ env st σ H Q W rs re h w
  refine ha ρ env st σ H _ _ rs re h fun x H1 ⟨ρ1, dx, st1, k1, r1, px, q1⟩ => ?_
  exact hr ρ1 st1 H1 x dx Q W r1 px q1 fun v H' p => w v H' (p.keep k1)
/-- an operator with its rule over data -/
structure SOp (X : Cx) (f : Value → Value → Sem Value) (r : R2) (rd : DR2) : Prop where
  op : OpR X f r
  sim : SimR2 X.K r rd
structure SUn (X : Cx) (f : Value → Sem Value) (r : V → Hp → VK → Prop) (rd : DR1) : Prop where
  op : UnR X f r
  sim : SimR1 X.K r rd
section
variable {X : Cx} {a b : Expr} {ta tb : TE} {da db : DTE} {pos : Pos}
theorem se_op {op : Operator} {r : R2} {rd : DR2} (ho : SOp X (binaryOp op) r rd) (ha : SE X a ta da) (hb : SE X b tb db) : SE X (.BinOp a op b pos) (tOp r ta tb) (dOp rd da db) := ⟨pe_op ho.op ha.pe hb.pe, sim_op ho.sim ha.sim hb.sim⟩
theorem se_un {op : UnaryOp} {r : V → Hp → VK → Prop} {rd : DR1} (ho : SUn X (unaryOp op) r rd) (ha : SE X a ta da) : SE X (.UnaryOp op a pos) (tUn r ta) (dUn rd da) := ⟨pe_un ho.op ha.pe, sim_un ho.sim ha.sim⟩
theorem se_cmp {op : CmpOp} {r : R2} {rd : DR2} (ho : SOp X (compareOp op) r rd) (ha : SE X a ta da) (hb : SE X b tb db) (hm : behindInMarks op b = false) : SE X (.Compare a [op] [b] pos) (tOp r ta tb) (dOp rd da db) := ⟨pe_cmpR ho.op ha.pe hb.pe hm, sim_op ho.sim ha.sim hb.sim⟩
end
/-- a test that is a value that must be a bool -/
def dB (te : DTE) : DTT := fun env st Q => te env st fun x st1 => match x with
  | .bl b => Q b st1
  | _ => False
theorem sim_tB {K : PySem.W.Frag} {t : TE} {te : DTE} (h : Sim K t te) : SimT K (tB t) (dB te) := by
  intro ρ env st σ H Q W rs re q w
  refine h ρ env st σ H _ _ rs re q fun x H1 ⟨ρ1, dx, st1, k1, r1, px, q1⟩ => ?_
  cases dx with
  | bl b =>
    have e : x = .bl b := by unfold Rep at px; exact px
    exact ⟨b, e, w b H1 ⟨ρ1, st1, k1, r1, q1⟩⟩
  | _ => exact q1.elim
theorem sim_tTest {K : PySem.W.Frag} {t : TE} {te : DTE} (h : Sim K t te) : SimT K (tTest t) (dB te) := by
  intro ρ env st σ H Q W rs re q w
  refine h ρ env st σ H _ _ rs re q fun x H1 ⟨ρ1, dx, st1, k1, r1, px, q1⟩ => ?_
  cases dx with
  | bl b =>
    have e : x = .bl b := by unfold Rep at px; exact px
    exact ⟨b, e, w b H1 ⟨ρ1, st1, k1, r1, q1⟩⟩
  | _ => exact q1.elim
section
variable {X : Cx} {a b c : Expr} {ta tb tc : TE} {da db dc : DTE} {pos : Pos}
theorem st_cmp {op : CmpOp} {r : R2} {rd : DR2} (ho : SOp X (compareOp op) r rd) (ha : SE X a ta da) (hb : SE X b tb db) (hm : behindInMarks op b = false) : ST X (.Compare a [op] [b] pos) (tTest (tOp r ta tb)) (dB (dOp rd da db)) := ⟨pt_cmpR ho.op ha.pe hb.pe hm, sim_tTest (sim_op ho.sim ha.sim hb.sim)⟩
theorem st_val {e : Expr} {t : TE} {te : DTE} (h : SE X e t te) (he : ∀ whole, isTrue e X.env whole = (do let v ← whole; standAt e.pos; holding [v] (truthy v)) := by intro _; rfl) : ST X e (tB t) (dB te) := ⟨pt_val h.pe he, sim_tB h.sim⟩
end
/-! ### truth -/
def dTru (x : D) (st : Store) (Q : Bool → Store → Prop) : Prop := match x with
  | .non => Q false st
  | .bl b => Q b st
  | .int i => Q (i != 0) st
  | .str z => z.length ≤ sizeLine ∧ Q (z.length != 0) st
  | .tup xs => Q (!xs.isEmpty) st
  | .rol xs => Q (!xs.isEmpty) st
  | .ref k => match st[k]? with
    | some (.lst xs) => Q (!xs.isEmpty) st
    | _ => False
  | .ty _ => False
def dTruth (te : DTE) : DTT := fun env st Q => te env st fun x st1 => dTru x st1 Q
end DL

namespace DL
open PySem PySem.Spec L2

/-! ### truth, and, or, not -/
theorem sim_truth {K : PySem.W.Frag} {t : TE} {te : DTE} (h : Sim K t te) : SimT K (fun σ H Q => t σ H fun x H' => ∃ k, TruV K x H' k ∧ Q k H') (dTruth te) := by
  intro ρ env st σ H Q W rs re q w
  refine h ρ env st σ H _ _ rs re q fun x H1 ⟨ρ1, dx, st1, k1, r1, px, q1⟩ => ?_
  have fin : ∀ k, TruV K x H1 k → Q k st1 → ∃ k, TruV K x H1 k ∧ W k H1 := fun k a b => ⟨k, a, w k H1 ⟨ρ1, st1, k1, r1, b⟩⟩
  cases dx with
  | non =>
    obtain rfl : x = .non := by unfold Rep at px; exact px
    exact fin false rfl q1
  | bl b =>
    obtain rfl : x = .bl b := by unfold Rep at px; exact px
    exact fin b rfl q1
  | int i =>
    obtain rfl : x = .int i := by unfold Rep at px; exact px
    exact fin _ rfl q1
  | str z =>
    obtain rfl : x = .str z := by unfold Rep at px; exact px
    obtain ⟨hz, q1⟩ := q1
    refine fin (z.length != 0) ⟨hz, ?_⟩ q1
    rw [Bool.eq_iff_iff]
    simp
  | tup xs =>
    unfold Rep at px
    obtain ⟨a, vs, rfl, hs, hr⟩ := px
    refine fin (!xs.isEmpty) (.inr (.inl ⟨vs, hs, ?_⟩)) q1
    have hl := hr.len
    cases xs <;> cases vs <;> first | rfl | (simp at hl)
  | rol xs =>
    unfold Rep at px
    obtain ⟨a, vs, rfl, hs, hr⟩ := px
    refine fin (!xs.isEmpty) (.inl ⟨vs, ?_, ?_⟩) q1
    · rcases hs with ⟨o, h⟩ | h
      · exact .inl (.inr ⟨o, h⟩)
      · exact .inr h
    · have hl := hr.len
      cases xs <;> cases vs <;> first | rfl | (simp at hl)
  | ref k =>
    unfold Rep at px
    obtain ⟨a, ha, rfl⟩ := px
    unfold dTru at q1
    dsimp only at q1
    split at q1
    · rename_i xs e
      obtain ⟨vs, hv, hr⟩ := r1.lst ha e
      refine fin (!xs.isEmpty) (.inl ⟨vs, SqL.of hv, ?_⟩) q1
      have hl := hr.len
      cases xs <;> cases vs <;> first | rfl | (simp at hl)
    · exact q1.elim
  | ty n => exact q1.elim
theorem sqf_l {K : PySem.W.Frag} {H : Hp} {a : Addr} {xs : List V} (h : SqF K H a xs) : SqL K H a xs := by
  rcases h with ⟨o, h⟩ | h
  · exact .inl (.inr ⟨o, h⟩)
  · exact .inr h
section
variable {X : Cx} {a b : Expr} {ta tb : TE} {da db : DTE} {pos : Pos} {tA tB' : TT} {dA dB' : DTT} {rest : List Expr}
theorem st_truth {K : PySem.W.Frag} [hk : HasK X K] {e : Expr} {t : TE} {te : DTE} (h : SE X e t te) (he : ∀ whole, isTrue e X.env whole = (do let v ← whole; standAt e.pos; holding [v] (truthy v)) := by intro _; rfl) :
    ST X e (fun σ H Q => t σ H fun x H' => ∃ k, TruV K x H' k ∧ Q k H') (dTruth te) := by
  obtain rfl := hk.eq
  exact ⟨pt_truth h.pe he, sim_truth h.sim⟩
def dAnd (t u : DTT) : DTT := fun env st Q => t env st fun c st1 => if c = true then u env st1 Q else Q false st1
def dOr (t u : DTT) : DTT := fun env st Q => t env st fun c st1 => if c = true then Q true st1 else u env st1 Q
def dNot (t : DTT) : DTT := fun env st Q => t env st fun c st1 => Q (!c) st1
theorem sw_and1 (ha : ST X a tA dA) : SW X (.BoolOp .And [a] pos) tA dA := ⟨pw_and1 ha.pt, ha.sim⟩
theorem sw_or1 (ha : ST X a tA dA) : SW X (.BoolOp .Or [a] pos) tA dA := ⟨pw_or1 ha.pt, ha.sim⟩
theorem sim_and {K : PySem.W.Frag} {t u : TT} {d e : DTT} (h : SimT K t d) (h' : SimT K u e) : SimT K (tAnd t u) (dAnd d e) := by
  intro ρ env st σ H Q W rs re q w
  refine h ρ env st σ H _ _ rs re q fun c H1 ⟨ρ1, st1, k1, r1, q1⟩ => ?_
  cases c with
  | true =>
    rw [if_pos rfl] at q1 ⊢
    exact h' ρ1 env st1 σ H1 Q W r1 (re.keep k1) q1 fun b H2 p => w b H2 (p.keep k1)
  | false =>
    rw [if_neg Bool.false_ne_true] at q1 ⊢
    exact w false H1 ⟨ρ1, st1, k1, r1, q1⟩
theorem sim_or {K : PySem.W.Frag} {t u : TT} {d e : DTT} (h : SimT K t d) (h' : SimT K u e) : SimT K (tOr t u) (dOr d e) := by
  intro ρ env st σ H Q W rs re q w
  refine h ρ env st σ H _ _ rs re q fun c H1 ⟨ρ1, st1, k1, r1, q1⟩ => ?_
  cases c with
  | true =>
    rw [if_pos rfl] at q1 ⊢
    exact w true H1 ⟨ρ1, st1, k1, r1, q1⟩
  | false =>
    rw [if_neg Bool.false_ne_true] at q1 ⊢
    exact h' ρ1 env st1 σ H1 Q W r1 (re.keep k1) q1 fun b H2 p => w b H2 (p.keep k1)
theorem sim_not {K : PySem.W.Frag} {t : TT} {d : DTT} (h : SimT K t d) : SimT K (tNot t) (dNot d) := by
  intro ρ env st σ H Q W rs re q w
  exact h ρ env st σ H _ _ rs re q fun c H1 ⟨ρ1, st1, k1, r1, q1⟩ => w _ H1 ⟨ρ1, st1, k1, r1, q1⟩
theorem sw_and (ha : ST X a tA dA) (hb : SW X (.BoolOp .And (b :: rest) pos) tB' dB') : SW X (.BoolOp .And (a :: b :: rest) pos) (tAnd tA tB') (dAnd dA dB') := ⟨pw_and ha.pt hb.pw, sim_and ha.sim hb.sim⟩
theorem sw_or (ha : ST X a tA dA) (hb : SW X (.BoolOp .Or (b :: rest) pos) tB' dB') : SW X (.BoolOp .Or (a :: b :: rest) pos) (tOr tA tB') (dOr dA dB') := ⟨pw_or ha.pt hb.pw, sim_or ha.sim hb.sim⟩
theorem SW.st {e : Expr} {t : TT} {d : DTT} (h : SW X e t d) : ST X e t d := ⟨h.pw.pt, h.sim⟩
theorem st_not (ha : ST X a tA dA) : ST X (.UnaryOp .Not a pos) (tNot tA) (dNot dA) := ⟨pt_not ha.pt, sim_not ha.sim⟩
def dAndV (da db : DTE) : DTE := fun env st Q => da env st fun x st1 => match x with
  | .bl c => if c = true then db env st1 Q else Q (.bl false) st1
  | _ => False
def dOrV (da db : DTE) : DTE := fun env st Q => da env st fun x st1 => match x with
  | .bl c => if c = true then Q (.bl true) st1 else db env st1 Q
  | _ => False
def dNotV (da : DTE) : DTE := fun env st Q => da env st fun x st1 => match x with
  | .bl c => Q (.bl (!c)) st1
  | _ => False
theorem rep_bl {K : PySem.W.Frag} {ρ : List Addr} {H : Hp} {b : Bool} {v : V} (h : Rep K ρ H (.bl b) v) : v = .bl b := by unfold Rep at h; exact h
theorem rep_int {K : PySem.W.Frag} {ρ : List Addr} {H : Hp} {b : Int} {v : V} (h : Rep K ρ H (.int b) v) : v = .int b := by unfold Rep at h; exact h
theorem rep_str {K : PySem.W.Frag} {ρ : List Addr} {H : Hp} {b : Str} {v : V} (h : Rep K ρ H (.str b) v) : v = .str b := by unfold Rep at h; exact h
theorem rep_non {K : PySem.W.Frag} {ρ : List Addr} {H : Hp} {v : V} (h : Rep K ρ H .non v) : v = .non := by unfold Rep at h; exact h
theorem rep_ty {K : PySem.W.Frag} {ρ : List Addr} {H : Hp} {b : String} {v : V} (h : Rep K ρ H (.ty b) v) : v = .ty b := by unfold Rep at h; exact h
theorem rep_ref {K : PySem.W.Frag} {ρ : List Addr} {H : Hp} {k : Nat} {v : V} (h : Rep K ρ H (.ref k) v) : ∃ a, ρ[k]? = some a ∧ v = .ref a := by unfold Rep at h; exact h
theorem rep_tup {K : PySem.W.Frag} {ρ : List Addr} {H : Hp} {xs : List D} {v : V} (h : Rep K ρ H (.tup xs) v) : ∃ a vs, v = .ref a ∧ SqT K H a vs ∧ Reps K ρ H xs vs := by unfold Rep at h; exact h
theorem rep_rol {K : PySem.W.Frag} {ρ : List Addr} {H : Hp} {xs : List D} {v : V} (h : Rep K ρ H (.rol xs) v) : ∃ a vs, v = .ref a ∧ SqF K H a vs ∧ Reps K ρ H xs vs := by unfold Rep at h; exact h
theorem Rep.bl {K : PySem.W.Frag} {ρ : List Addr} {H : Hp} (b : Bool) : Rep K ρ H (.bl b) (.bl b) := by unfold Rep; rfl
theorem Rep.int {K : PySem.W.Frag} {ρ : List Addr} {H : Hp} (b : Int) : Rep K ρ H (.int b) (.int b) := by unfold Rep; rfl
theorem Rep.str {K : PySem.W.Frag} {ρ : List Addr} {H : Hp} (b : Str) : Rep K ρ H (.str b) (.str b) := by unfold Rep; rfl
theorem Rep.non {K : PySem.W.Frag} {ρ : List Addr} {H : Hp} : Rep K ρ H .non .non := by unfold Rep; rfl
theorem Rep.tup {K : PySem.W.Frag} {ρ : List Addr} {H : Hp} {a : Addr} {xs : List D} {vs : List V} (h : SqT K H a vs) (r : Reps K ρ H xs vs) : Rep K ρ H (.tup xs) (.ref a) := by unfold Rep; exact ⟨a, vs, rfl, h, r⟩
theorem Rep.ref {K : PySem.W.Frag} {ρ : List Addr} {H : Hp} {a : Addr} {k : Nat} (h : ρ[k]? = some a) : Rep K ρ H (.ref k) (.ref a) := by unfold Rep; exact ⟨a, h, rfl⟩
theorem se_one {op} {t : TE} {d : DTE} (h : SE X a t d) : SE X (.BoolOp op [a] pos) t d := ⟨pe_one h.pe, h.sim⟩
theorem se_and (ha : SE X a ta da) (hb : SE X (.BoolOp .And (b :: rest) pos) tb db) : SE X (.BoolOp .And (a :: b :: rest) pos) (tAndV ta tb) (dAndV da db) := by
  refine ⟨pe_and ha.pe hb.pe, fun ρ env st σ H Q W rs re q w => ?_⟩
  refine ha.sim ρ env st σ H _ _ rs re q fun x H1 ⟨ρ1, dx, st1, k1, r1, px, q1⟩ => ?_
  cases dx with
  | bl c =>
    refine ⟨c, rep_bl px, ?_⟩
    cases c with
    | true =>
      rw [if_pos rfl]
      exact hb.sim ρ1 env st1 σ H1 Q W r1 (re.keep k1) (by simpa using q1) fun b H2 p => w b H2 (p.keep k1)
    | false =>
      rw [if_neg Bool.false_ne_true]
      exact w _ H1 ⟨ρ1, .bl false, st1, k1, r1, .bl _, by simpa using q1⟩
  | _ => exact q1.elim
theorem se_or (ha : SE X a ta da) (hb : SE X (.BoolOp .Or (b :: rest) pos) tb db) : SE X (.BoolOp .Or (a :: b :: rest) pos) (tOrV ta tb) (dOrV da db) := by
  refine ⟨pe_or ha.pe hb.pe, fun ρ env st σ H Q W rs re q w => ?_⟩
  refine ha.sim ρ env st σ H _ _ rs re q fun x H1 ⟨ρ1, dx, st1, k1, r1, px, q1⟩ => ?_
  cases dx with
  | bl c =>
    refine ⟨c, rep_bl px, ?_⟩
    cases c with
    | true =>
      rw [if_pos rfl]
      exact w _ H1 ⟨ρ1, .bl true, st1, k1, r1, .bl _, by simpa using q1⟩
    | false =>
      rw [if_neg Bool.false_ne_true]
      exact hb.sim ρ1 env st1 σ H1 Q W r1 (re.keep k1) (by simpa using q1) fun b H2 p => w b H2 (p.keep k1)
  | _ => exact q1.elim
theorem se_not (ha : SE X a ta da) : SE X (.UnaryOp .Not a pos) (tNotV ta) (dNotV da) := by
  refine ⟨pe_not ha.pe, fun ρ env st σ H Q W rs re q w => ?_⟩
  refine ha.sim ρ env st σ H _ _ rs re q fun x H1 ⟨ρ1, dx, st1, k1, r1, px, q1⟩ => ?_
  cases dx with
  | bl c => exact ⟨c, rep_bl px, w _ H1 ⟨ρ1, .bl (!c), st1, k1, r1, .bl _, q1⟩⟩
  | _ => exact q1.elim
def dIf (t : DTT) (da db : DTE) : DTE := fun env st Q => t env st fun c st1 => if c = true then da env st1 Q else db env st1 Q
theorem se_if {c : Expr} (hc : ST X c tA dA) (ha : SE X a ta da) (hb : SE X b tb db) : SE X (.IfExp c a b pos) (tIf tA ta tb) (dIf dA da db) := by
  refine ⟨pe_ifExp hc.pt ha.pe hb.pe, fun ρ env st σ H Q W rs re q w => ?_⟩
  refine hc.sim ρ env st σ H _ _ rs re q fun c H1 ⟨ρ1, st1, k1, r1, q1⟩ => ?_
  cases c with
  | true =>
    rw [if_pos rfl] at q1 ⊢
    exact ha.sim ρ1 env st1 σ H1 Q W r1 (re.keep k1) q1 fun b H2 p => w b H2 (p.keep k1)
  | false =>
    rw [if_neg Bool.false_ne_true] at q1 ⊢
    exact hb.sim ρ1 env st1 σ H1 Q W r1 (re.keep k1) q1 fun b H2 p => w b H2 (p.keep k1)
end

/-! ### arithmetic -/
def dII (C : Int → Int → Prop) (g : Int → Int → D) : DR2 := fun x y st Q => match x, y with
  | .int i, .int j => C i j ∧ Q (g i j) st
  | _, _ => False
theorem sim_ii {K : PySem.W.Frag} {C : Int → Int → Prop} {g : Int → Int → Int} : SimR2 K (rI C fun i j => .int (g i j)) (dII C fun i j => .int (g i j)) := by
  intro ρ st H x y dx dy Q W rs px py q w
  cases dx with
  | int i =>
    cases dy with
    | int j => exact ⟨i, j, rep_int px, rep_int py, q.1, w _ H (.of rs (.int _) q.2)⟩
    | _ => exact q.elim
  | _ => exact q.elim
def dI0 (g : Int → Int → D) : DR2 := fun x y st Q => match x, y with
  | .int i, .int j => Q (g i j) st
  | _, _ => False
theorem sim_i0 {K : PySem.W.Frag} {g : Int → Int → Int} : SimR2 K (rI0 fun i j => .int (g i j)) (dI0 fun i j => .int (g i j)) := by
  intro ρ st H x y dx dy Q W rs px py q w
  cases dx with
  | int i =>
    cases dy with
    | int j => exact ⟨i, j, rep_int px, rep_int py, w _ H (.of rs (.int _) q)⟩
    | _ => exact q.elim
  | _ => exact q.elim
theorem sim_b0 {K : PySem.W.Frag} {g : Int → Int → Bool} : SimR2 K (rI0 fun i j => .bl (g i j)) (dI0 fun i j => .bl (g i j)) := by
  intro ρ st H x y dx dy Q W rs px py q w
  cases dx with
  | int i =>
    cases dy with
    | int j => exact ⟨i, j, rep_int px, rep_int py, w _ H (.of rs (.bl _) q)⟩
    | _ => exact q.elim
  | _ => exact q.elim
theorem OpR.or {X : Cx} {f : Value → Value → Sem Value} {r r' : R2} (h : OpR X f r) (h' : OpR X f r') : OpR X f (fun x y H Q => r x y H Q ∨ r' x y H Q) := by
  intro pins s σ H x y v u Q I rx ry q
  rcases q with q | q
  · exact h pins s σ H x y v u Q I rx ry q
  · exact h' pins s σ H x y v u Q I rx ry q
def dSub : DR2 := dI0 fun i j => .int (i - j)
def dLt : DR2 := dI0 fun i j => .bl (decide (i < j))
def dLe : DR2 := dI0 fun i j => .bl (decide (i ≤ j))
def dGt : DR2 := dI0 fun i j => .bl (decide (j < i))
def dGe : DR2 := dI0 fun i j => .bl (decide (j ≤ i))
def CMulA (i j : Int) : Prop := CMul i j ∨ CMulW i j
def dPow : DR2 := dII CPow fun i j => .int (i ^ j.toNat)
def CDivA (i j : Int) : Prop := CDivN i j ∨ CDivW i j
def dFdiv : DR2 := dII CDivA fun i j => .int (i.fdiv j)
def dMod : DR2 := dII (fun _ j => j ≠ 0) fun i j => .int (i.fmod j)
def dNeg : DR1 := fun x st Q => match x with
  | .int i => Q (.int (-i)) st
  | _ => False
section
variable {X : Cx}
theorem so_sub : SOp X (binaryOp .Sub) (rI0 fun i j => .int (i - j)) dSub := ⟨op_sub, sim_i0⟩
theorem so_lt : SOp X (compareOp .Lt) (rI0 fun i j => .bl (decide (i < j))) dLt := ⟨op_lt, sim_b0⟩
theorem so_le : SOp X (compareOp .LtE) (rI0 fun i j => .bl (decide (i ≤ j))) dLe := ⟨op_le, sim_b0⟩
theorem so_gt : SOp X (compareOp .Gt) (rI0 fun i j => .bl (decide (j < i))) dGt := ⟨op_gt, sim_b0⟩
theorem so_ge : SOp X (compareOp .GtE) (rI0 fun i j => .bl (decide (j ≤ i))) dGe := ⟨op_ge, sim_b0⟩
theorem so_pow : SOp X (binaryOp .Pow) (rI CPow fun i j => .int (i ^ j.toNat)) dPow := ⟨op_pow, sim_ii⟩
theorem so_mod : SOp X (binaryOp .Mod) (rI (fun _ j => j ≠ 0) fun i j => .int (i.fmod j)) dMod := ⟨op_modN, sim_ii⟩
theorem op_fdivA : OpR X (binaryOp .FloorDiv) (rI CDivA fun i j => .int (i.fdiv j)) := by
  intro pins s σ H x y v u Q I rx ry h
  obtain ⟨i, j, rfl, rfl, hc, q⟩ := h
  rcases hc with hc | hc
  · exact op_fdivN pins s σ H _ _ v u Q I rx ry ⟨i, j, rfl, rfl, hc, q⟩
  · refine op_fdivW pins s σ H _ _ v u Q I rx ry ⟨i, j, rfl, rfl, hc, ?_⟩
    show Q (.int (i / j)) H
    rw [← Int.fdiv_eq_ediv_of_nonneg i (Int.le_of_lt hc.1)]
    exact q
theorem so_fdiv : SOp X (binaryOp .FloorDiv) (rI CDivA fun i j => .int (i.fdiv j)) dFdiv := ⟨op_fdivA, sim_ii⟩
theorem su_neg : SUn X (unaryOp .USub) (rU fun i => .int (-i)) dNeg := by
  refine ⟨un_neg, fun ρ st H x dx Q W rs px q w => ?_⟩
  cases dx with
  | int i => exact ⟨i, rep_int px, w _ H (.of rs (.int _) q)⟩
  | _ => exact q.elim
end

/-! ### + and * -/
def dAdd : DR2 := fun x y st Q => match x, y with
  | .int i, .int j => Q (.int (i + j)) st
  | .tup a, .tup b => a.length + b.length ≤ sizeLine ∧ Q (.tup (a ++ b)) st
  | .ref k, .ref l => match st[k]?, st[l]? with
    | some (.lst a), some (.lst b) => a.length + b.length ≤ sizeLine ∧ Q (.ref st.length) (st ++ [.lst (a ++ b)])
    | _, _ => False
  | .str a, .str b => a.length + b.length ≤ sizeLine ∧ Q (.str (a ++ b)) st
  | _, _ => False
def rAddAll (K : PySem.W.Frag) : R2 := fun x y H Q => ((rI0 fun i j => .int (i + j)) x y H Q ∨ rCatA K x y H Q) ∨ (rCat x y H Q ∨ (∃ i j, x = .str i ∧ y = .str j ∧ i.length + j.length ≤ sizeLine ∧ Q (.str (i ++ j)) H))
theorem sim_add {K : PySem.W.Frag} : SimR2 K (rAddAll K) dAdd := by
  intro ρ st H x y dx dy Q W rs px py q w
  cases dx with
  | int i =>
    cases dy with
    | int j => exact .inl (.inl ⟨i, j, rep_int px, rep_int py, w _ H (.of rs (.int _) q)⟩)
    | _ => exact q.elim
  | str i =>
    cases dy with
    | str j => exact .inr (.inr ⟨i, j, rep_str px, rep_str py, q.1, w _ H (.of rs (.str _) q.2)⟩)
    | _ => exact q.elim
  | tup a =>
    cases dy with
    | tup b =>
      obtain ⟨p, vs, rfl, h1, r1⟩ := rep_tup px
      obtain ⟨p2, ws, rfl, h2, r2⟩ := rep_tup py
      obtain ⟨hz, q⟩ := q
      refine .inl (.inr ⟨p, p2, vs, ws, rfl, rfl, h1, h2, by rw [← r1.len, ← r2.len]; exact hz, fun e => ?_, fun _ e => ?_, fun _ _ p3 hp => ?_⟩)
      · refine w _ H (.of rs (d := .tup (a ++ b)) (.tup h2 ?_) q)
        rw [e] at r1
        have : a = [] := List.eq_nil_of_length_eq_zero (by rw [r1.len]; rfl)
        rw [this]
        exact r2
      · refine w _ H (.of rs (d := .tup (a ++ b)) (.tup h1 ?_) q)
        rw [e] at r2
        have : b = [] := List.eq_nil_of_length_eq_zero (by rw [r2.len]; rfl)
        rw [this, List.append_nil]
        exact r1
      · exact w _ _ (.tup rs hp (r1.app r2) q)
    | _ => exact q.elim
  | ref k =>
    cases dy with
    | ref l =>
      obtain ⟨p, h1, rfl⟩ := rep_ref px
      obtain ⟨p2, h2, rfl⟩ := rep_ref py
      unfold dAdd at q
      dsimp only at q
      split at q
      · rename_i a b e1 e2
        obtain ⟨vs, hv, r1⟩ := rs.lst h1 e1
        obtain ⟨ws, hw, r2⟩ := rs.lst h2 e2
        obtain ⟨hz, q⟩ := q
        exact .inr (.inl ⟨p, p2, vs, ws, rfl, rfl, hv, hw, by rw [← r1.len, ← r2.len]; exact hz, fun p3 hp => w _ _ (.lst rs hp (r1.app r2) q)⟩)
      · exact q.elim
    | _ => exact q.elim
  | _ => exact q.elim
theorem so_add {X : Cx} {K : PySem.W.Frag} [hk : HasK X K] : SOp X (binaryOp .Add) (rAddAll K) dAdd := by
  obtain rfl := hk.eq
  exact ⟨.or (.or op_add op_catA) (.or op_cat op_add_str), sim_add⟩
def dMul : DR2 := fun x y st Q => match x, y with
  | .int i, .int j => CMulA i j ∧ Q (.int (i * j)) st
  | .ref k, .int n => match st[k]? with
    | some (.lst a) => -(2 ^ 63) ≤ n ∧ n < 2 ^ 63 ∧ a.length * n.toNat ≤ sizeLine ∧ Q (.ref st.length) (st ++ [.lst (List.replicate n.toNat a).flatten])
    | _ => False
  | _, _ => False
def rMulAll : R2 := fun x y H Q => ((rI CMul fun i j => .int (i * j)) x y H Q ∨ (rI CMulW fun i j => .int (i * j)) x y H Q) ∨ rRep x y H Q
theorem sim_mul {K : PySem.W.Frag} : SimR2 K rMulAll dMul := by
  intro ρ st H x y dx dy Q W rs px py q w
  cases dx with
  | int i =>
    cases dy with
    | int j =>
      rcases q.1 with c | c
      · exact .inl (.inl ⟨i, j, rep_int px, rep_int py, c, w _ H (.of rs (.int _) q.2)⟩)
      · exact .inl (.inr ⟨i, j, rep_int px, rep_int py, c, w _ H (.of rs (.int _) q.2)⟩)
    | _ => exact q.elim
  | ref k =>
    cases dy with
    | int n =>
      obtain ⟨p, h1, rfl⟩ := rep_ref px
      obtain rfl := rep_int py
      unfold dMul at q
      dsimp only at q
      split at q
      · rename_i a e1
        obtain ⟨vs, hv, r1⟩ := rs.lst h1 e1
        obtain ⟨b1, b2, hz, q⟩ := q
        exact .inr ⟨p, n, vs, rfl, rfl, hv, b1, b2, by rw [← r1.len]; exact hz, fun p3 hp => w _ _ (.lst rs hp (r1.repl _) q)⟩
      · exact q.elim
    | _ => exact q.elim
  | _ => exact q.elim
theorem so_mul {X : Cx} : SOp X (binaryOp .Mult) rMulAll dMul := ⟨.or (.or op_mul op_mulW) op_rep, sim_mul⟩

/-! ### ==, in -/
mutual
def D.py : D → PyData
  | .non => .none
  | .bl b => .bool b
  | .int i => .int i
  | .str x => .str x
  | .tup xs => .tuple (D.pys xs)
  | .rol xs => .list (D.pys xs)
  | .ty _ => .none
  | .ref _ => .none
def D.pys : List D → List PyData
  | [] => []
  | d :: ds => d.py :: D.pys ds
end
/-- no cell in it, and at most so deep -/
def D.fl : Nat → D → Bool
  | _, .non => true
  | _, .bl _ => true
  | _, .int _ => true
  | _, .str x => PyData.strOk x
  | 0, _ => false
  | n + 1, .tup xs => xs.all (D.fl n)
  | n + 1, .rol xs => xs.all (D.fl n)
  | _, .ty _ => false
  | _, .ref _ => false
theorem pys_map : ∀ ds : List D, D.pys ds = ds.map D.py
  | [] => rfl
  | d :: ds => by rw [D.pys, pys_map ds]; rfl
theorem fl_dp {K : PySem.W.Frag} {ρ : List Addr} {H : Hp} : ∀ (n : Nat) (d : D) (v : V), d.fl n = true → Rep K ρ H d v → Dp K H v d.py := by
  intro n
  induction n with
  | zero =>
    intro d v h r
    cases d with
    | non => rw [rep_non r]; exact .non
    | bl b => rw [rep_bl r]; exact .bl b
    | int i => rw [rep_int r]; exact .int i
    | str x => rw [rep_str r]; exact .str x
    | _ => simp [D.fl] at h
  | succ n ih =>
    have all : ∀ (ds : List D) (vs : List V), ds.all (D.fl n) = true → Reps K ρ H ds vs → DpAll K H vs (D.pys ds) := by
      intro ds
      induction ds with
      | nil =>
        intro vs _ r
        unfold Reps at r
        rw [r]
        exact .nil
      | cons d ds ih2 =>
        intro vs h r
        unfold Reps at r
        obtain ⟨v, w, rfl, r1, r2⟩ := r
        rw [List.all_cons, Bool.and_eq_true] at h
        exact .cons (ih d v h.1 r1) (ih2 w h.2 r2)
    intro d v h r
    cases d with
    | non => rw [rep_non r]; exact .non
    | bl b => rw [rep_bl r]; exact .bl b
    | int i => rw [rep_int r]; exact .int i
    | str x => rw [rep_str r]; exact .str x
    | tup xs =>
      obtain ⟨a, vs, rfl, hs, hr⟩ := rep_tup r
      exact .tup hs (all xs vs h hr)
    | rol xs =>
      obtain ⟨a, vs, rfl, hs, hr⟩ := rep_rol r
      exact .lst (sqf_l hs) (all xs vs h hr)
    | _ => simp [D.fl] at h
theorem fl_lay : ∀ (n : Nat) (d : D), d.fl n = true → d.py.canLay0 = true ∧ d.py.depth ≤ n := by
  intro n
  induction n with
  | zero =>
    intro d h
    cases d <;> first | (simp [D.fl] at h; done) | (simp [D.py, PyData.canLay0, PyData.depth]; done) | (simp [D.py, PyData.canLay0, PyData.depth]; simpa [D.fl] using h)
  | succ n ih =>
    have all : ∀ ds : List D, ds.all (D.fl n) = true → PyData.canLayAll0 (D.pys ds) = true ∧ PyData.depthAll (D.pys ds) ≤ n := by
      intro ds
      induction ds with
      | nil => intro _; simp [D.pys, PyData.canLayAll0, PyData.depthAll]
      | cons d ds ih2 =>
        intro h
        rw [List.all_cons, Bool.and_eq_true] at h
        obtain ⟨a1, a2⟩ := ih d h.1
        obtain ⟨b1, b2⟩ := ih2 h.2
        rw [D.pys, PyData.canLayAll0, PyData.depthAll]
        exact ⟨by rw [a1, b1]; rfl, by omega⟩
    intro d h
    cases d with
    | tup xs =>
      obtain ⟨a1, a2⟩ := all xs h
      rw [D.py, PyData.canLay0, PyData.depth]
      exact ⟨a1, by omega⟩
    | rol xs =>
      obtain ⟨a1, a2⟩ := all xs h
      rw [D.py, PyData.canLay0, PyData.depth]
      exact ⟨a1, by omega⟩
    | ty _ => simp [D.fl] at h
    | ref _ => simp [D.fl] at h
    | str x => simp [D.py, PyData.canLay0, PyData.depth]; simpa [D.fl] using h
    | _ => simp [D.py, PyData.canLay0, PyData.depth]
theorem fl_shaped {n : Nat} {d : D} (h : d.fl n = true) (hn : n ≤ 64) : SeqAt.shaped d.py = true := by
  obtain ⟨a, b⟩ := fl_lay n d h
  unfold SeqAt.shaped
  rw [a, decide_eq_true (by omega)]
  rfl
theorem fl_shapeds {n : Nat} {ds : List D} (h : ds.all (D.fl n) = true) (hn : n < 64) : SeqAt.shaped (.list (D.pys ds)) = true := by
  have q : (D.rol ds).fl (n + 1) = true := h
  exact fl_shaped (d := .rol ds) q (by omega)
/-- what == sees -/
def pyd (st : Store) (d : D) : Option PyData := if d.fl 8 = true then some d.py else match d with
  | .ref k => match st[k]? with
    | some (.lst xs) => if xs.all (D.fl 8) = true then some (.list (D.pys xs)) else none
    | _ => none
  | _ => none
theorem pyd_dp {K : PySem.W.Frag} {ρ : List Addr} {H : Hp} {st : Store} {d : D} {v : V} {p : PyData} (r : RelS K ρ H st) (h : Rep K ρ H d v) (e : pyd st d = some p) : Dp K H v p ∧ SeqAt.shaped p = true := by
  unfold pyd at e
  split at e
  · rename_i hf
    cases e
    exact ⟨fl_dp 8 d v hf h, fl_shaped hf (by omega)⟩
  · split at e
    · rename_i k hn
      obtain ⟨a, ha, rfl⟩ := rep_ref h
      split at e
      · rename_i xs ex
        split at e
        · rename_i hall
          cases e
          obtain ⟨vs, hv, hr⟩ := r.lst ha ex
          refine ⟨.lst (SqL.of hv) ?_, fl_shapeds hall (by omega)⟩
          have all : ∀ (ds : List D) (vs : List V), ds.all (D.fl 8) = true → Reps K ρ H ds vs → DpAll K H vs (D.pys ds) := by
            intro ds
            induction ds with
            | nil =>
              intro vs _ r
              unfold Reps at r
              rw [r]
              exact .nil
            | cons d ds ih2 =>
              intro vs h r
              unfold Reps at r
              obtain ⟨v, w, rfl, r1, r2⟩ := r
              rw [List.all_cons, Bool.and_eq_true] at h
              exact .cons (fl_dp 8 d v h.1 r1) (ih2 w h.2 r2)
          exact all xs vs hall hr
        · cases e
      · cases e
    · cases e
def dEqv (st : Store) (x y : D) : Option Bool := match pyd st x, pyd st y with
  | some a, some b => some (PyData.eqv a b)
  | _, _ => none
def dEq : DR2 := fun x y st Q => match dEqv st x y with
  | some b => Q (.bl b) st
  | none => False
def dNe : DR2 := fun x y st Q => match dEqv st x y with
  | some b => Q (.bl (!b)) st
  | none => False
theorem sim_eq {K : PySem.W.Frag} : SimR2 K (rEqD K) dEq := by
  intro ρ st H x y dx dy Q W rs px py q w
  unfold dEq dEqv at q
  split at q
  · rename_i b e
    split at e
    · rename_i p1 p2 e1 e2
      cases e
      obtain ⟨a1, a2⟩ := pyd_dp rs px e1
      obtain ⟨b1, b2⟩ := pyd_dp rs py e2
      exact ⟨p1, p2, a1, b1, a2, b2, w _ H (.of rs (.bl _) q)⟩
    · cases e
  · exact q.elim
theorem sim_ne {K : PySem.W.Frag} : SimR2 K (rNeD K) dNe := by
  intro ρ st H x y dx dy Q W rs px py q w
  unfold dNe dEqv at q
  split at q
  · rename_i b e
    split at e
    · rename_i p1 p2 e1 e2
      cases e
      obtain ⟨a1, a2⟩ := pyd_dp rs px e1
      obtain ⟨b1, b2⟩ := pyd_dp rs py e2
      exact ⟨p1, p2, a1, b1, a2, b2, w _ H (.of rs (.bl _) q)⟩
    · cases e
  · exact q.elim
section
variable {X : Cx}
theorem so_eq {K : PySem.W.Frag} [hk : HasK X K] {k : Nat} (hr : Room k X.A) : SOp X (compareOp .Eq) (rEqD K) dEq := by
  obtain rfl := hk.eq
  exact ⟨op_eqD hr.units, sim_eq⟩
theorem so_ne {K : PySem.W.Frag} [hk : HasK X K] {k : Nat} (hr : Room k X.A) : SOp X (compareOp .NotEq) (rNeD K) dNe := by
  obtain rfl := hk.eq
  exact ⟨op_neD hr.units, sim_ne⟩
end
/-- x in l, l a list of flat data; x in a text -/
def dMem (st : Store) (x y : D) : Option Bool := match y with
  | .ref k => match st[k]? with
    | some (.lst xs) => if x.fl 8 = true ∧ xs.all (D.fl 8) = true then some (xs.any fun z => PyData.eqv z.py x.py) else none
    | _ => none
  | .str b => match x with
    | .str a => some (!(Builtin.Str.occurrences b a 0 b.length 1).isEmpty)
    | _ => none
  | _ => none
def dIn : DR2 := fun x y st Q => match dMem st x y with
  | some b => Q (.bl b) st
  | none => False
def dNotIn : DR2 := fun x y st Q => match dMem st x y with
  | some b => Q (.bl (!b)) st
  | none => False
def rInA (K : PySem.W.Frag) : R2 := fun x y H Q => rInD K x y H Q ∨ (∃ i j, x = .str i ∧ y = .str j ∧ Q (.bl (!(Builtin.Str.occurrences j i 0 j.length 1).isEmpty)) H)
def rNotInA (K : PySem.W.Frag) : R2 := fun x y H Q => rNotInD K x y H Q ∨ (∃ i j, x = .str i ∧ y = .str j ∧ Q (.bl (!(!(Builtin.Str.occurrences j i 0 j.length 1).isEmpty))) H)
theorem any_pys (p : D) : ∀ xs : List D, ((D.pys xs).any fun z => PyData.eqv z p.py) = xs.any fun z => PyData.eqv z.py p.py
  | [] => rfl
  | x :: xs => by rw [D.pys, List.any_cons, List.any_cons, any_pys p xs]
theorem dp_list {K : PySem.W.Frag} {ρ : List Addr} {H : Hp} {ds : List D} {vs : List V} {a : Addr} (hv : H a = some (.lst vs)) (h : ds.all (D.fl 8) = true) (r : Reps K ρ H ds vs) : Dp K H (.ref a) (.list (D.pys ds)) := by
  refine .lst (SqL.of hv) ?_
  clear hv
  induction ds generalizing vs with
  | nil =>
    unfold Reps at r
    rw [r]
    exact .nil
  | cons d ds ih =>
    unfold Reps at r
    obtain ⟨v, w, rfl, r1, r2⟩ := r
    rw [List.all_cons, Bool.and_eq_true] at h
    exact .cons (fl_dp 8 d v h.1 r1) (ih h.2 r2)
theorem sim_in {K : PySem.W.Frag} : SimR2 K (rInA K) dIn := by
  intro ρ st H x y dx dy Q W rs px py q w
  unfold dIn dMem at q
  split at q
  · rename_i b e
    cases dy with
    | ref k =>
      dsimp only at e
      obtain ⟨a, ha, rfl⟩ := rep_ref py
      split at e
      · rename_i xs ex
        split at e
        · rename_i hf
          cases e
          obtain ⟨vs, hv, hr⟩ := rs.lst ha ex
          refine .inl ⟨dx.py, D.pys xs, fl_dp 8 dx x hf.1 px, dp_list hv hf.2 hr, fl_shaped hf.1 (by omega), fl_shapeds hf.2 (by omega), ?_⟩
          rw [any_pys]
          exact w _ H (.of rs (.bl _) q)
        · cases e
      · cases e
    | str j =>
      cases dx with
      | str i =>
        cases e
        exact .inr ⟨i, j, rep_str px, rep_str py, w _ H (.of rs (.bl _) q)⟩
      | _ => cases e
    | _ => cases e
  · exact q.elim
theorem sim_notIn {K : PySem.W.Frag} : SimR2 K (rNotInA K) dNotIn := by
  intro ρ st H x y dx dy Q W rs px py q w
  unfold dNotIn dMem at q
  split at q
  · rename_i b e
    cases dy with
    | ref k =>
      dsimp only at e
      obtain ⟨a, ha, rfl⟩ := rep_ref py
      split at e
      · rename_i xs ex
        split at e
        · rename_i hf
          cases e
          obtain ⟨vs, hv, hr⟩ := rs.lst ha ex
          refine .inl ⟨dx.py, D.pys xs, fl_dp 8 dx x hf.1 px, dp_list hv hf.2 hr, fl_shaped hf.1 (by omega), fl_shapeds hf.2 (by omega), ?_⟩
          rw [any_pys]
          exact w _ H (.of rs (.bl _) q)
        · cases e
      · cases e
    | str j =>
      cases dx with
      | str i =>
        cases e
        exact .inr ⟨i, j, rep_str px, rep_str py, w _ H (.of rs (.bl _) q)⟩
      | _ => cases e
    | _ => cases e
  · exact q.elim
section
variable {X : Cx}
theorem so_in {K : PySem.W.Frag} [hk : HasK X K] {k : Nat} (hr : Room k X.A) : SOp X (compareOp .In) (rInA K) dIn := by
  obtain rfl := hk.eq
  exact ⟨.or (op_inD (by have := hr.un; omega)) op_in_str, sim_in⟩
theorem so_notIn {K : PySem.W.Frag} [hk : HasK X K] {k : Nat} (hr : Room k X.A) : SOp X (compareOp .NotIn) (rNotInA K) dNotIn := by
  obtain rfl := hk.eq
  exact ⟨.or (op_notInD (by have := hr.un; omega)) op_notin_str, sim_notIn⟩
def D.isNon : D → Bool
  | .non => true
  | _ => false
def dIsN : DR2 := fun x y st Q => match y with
  | .non => Q (.bl x.isNon) st
  | _ => False
def dNotN : DR2 := fun x y st Q => match y with
  | .non => Q (.bl (!x.isNon)) st
  | _ => False
theorem rep_isN {K : PySem.W.Frag} {ρ : List Addr} {H : Hp} {d : D} {v : V} (h : Rep K ρ H d v) : decide (v = .non) = d.isNon := by
  cases d with
  | non => rw [rep_non h]; rfl
  | bl b => rw [rep_bl h]; rfl
  | int b => rw [rep_int h]; rfl
  | str b => rw [rep_str h]; rfl
  | ty b => rw [rep_ty h]; rfl
  | tup xs => obtain ⟨a, vs, rfl, _⟩ := rep_tup h; rfl
  | rol xs => obtain ⟨a, vs, rfl, _⟩ := rep_rol h; rfl
  | ref k => obtain ⟨a, _, rfl⟩ := rep_ref h; rfl
theorem so_isN : SOp X (compareOp .Is) (fun x y H Q => y = .non ∧ Q (.bl (decide (x = .non))) H) dIsN := by
  refine ⟨op_isN, fun ρ st H x y dx dy Q W rs px py q w => ?_⟩
  cases dy with
  | non =>
    refine ⟨rep_non py, ?_⟩
    rw [rep_isN px]
    exact w _ H (.of rs (.bl _) q)
  | _ => exact q.elim
theorem so_notN : SOp X (compareOp .IsNot) (fun x y H Q => y = .non ∧ Q (.bl (!decide (x = .non))) H) dNotN := by
  refine ⟨op_notN, fun ρ st H x y dx dy Q W rs px py q w => ?_⟩
  cases dy with
  | non =>
    refine ⟨rep_non py, ?_⟩
    rw [rep_isN px]
    exact w _ H (.of rs (.bl _) q)
  | _ => exact q.elim
end
end DL

namespace DL
open PySem PySem.Spec L2

/-! ### arguments, displays, calls -/
def dNil : DTA := fun _ st Q => Q [] st
def dCons (da : DTE) (dr : DTA) : DTA := fun env st Q => da env st fun x st1 => dr env st1 fun xs st2 => Q (x :: xs) st2
def dTup (da : DTA) : DTE := fun env st Q => da env st fun xs st1 => xs.length ≤ sizeLine ∧ Q (.tup xs) st1
def dLst (da : DTA) : DTE := fun env st Q => da env st fun xs st1 => xs.length ≤ sizeLine ∧ Q (.ref st1.length) (st1 ++ [.lst xs])
section
variable {X : Cx} {e : Expr} {es : List Expr} {te : TE} {t : TA} {de : DTE} {da : DTA} {pos : Pos}
theorem sa_nil : SA X [] tNil dNil := ⟨pa_nil, fun ρ env st σ H Q W rs re q w => w [] H ⟨ρ, [], st, Keep.refl, rs, Reps.nil, q⟩⟩
theorem sa_cons (ha : SE X e te de) (hr : SA X es t da) (hs : starEach (e :: es) X.env = (false, eval e X.env) :: starEach es X.env := by rfl) : SA X (e :: es) (tCons te t) (dCons de da) := by
  refine ⟨pa_cons ha.pe hr.pa hs, fun ρ env st σ H Q W rs re q w => ?_⟩
  refine ha.sim ρ env st σ H _ _ rs re q fun x H1 ⟨ρ1, dx, st1, k1, r1, px, q1⟩ => ?_
  refine hr.sim ρ1 env st1 σ H1 _ _ r1 (re.keep k1) q1 fun xs H2 ⟨ρ2, dxs, st2, k2, r2, pxs, q2⟩ => ?_
  exact w (x :: xs) H2 ⟨ρ2, dx :: dxs, st2, k1.trans k2, r2, .cons (px.keep k2) pxs, q2⟩
theorem se_tup {x1} (h : SA X es t da) : SE X (.Tuple es x1 pos) (tTup t) (dTup da) := by
  refine ⟨pe_tup h.pa, fun ρ env st σ H Q W rs re q w => ?_⟩
  refine h.sim ρ env st σ H _ _ rs re q fun xs H1 ⟨ρ1, ds, st1, k1, r1, px, q1⟩ => ?_
  exact ⟨by rw [← px.len]; exact q1.1, fun p hp => w _ _ ((PostE.tup r1 hp px q1.2).keep k1)⟩
theorem se_lst (h : SA X es t da) : SE X (.List es pos) (tLst t) (dLst da) := by
  refine ⟨pe_lst h.pa, fun ρ env st σ H Q W rs re q w => ?_⟩
  refine h.sim ρ env st σ H _ _ rs re q fun xs H1 ⟨ρ1, ds, st1, k1, r1, px, q1⟩ => ?_
  exact ⟨by rw [← px.len]; exact q1.1, fun p hp => w _ _ ((PostE.lst r1 hp px q1.2).keep k1)⟩
end
/-- a def's promise over data -/
abbrev DSp := List D → Store → DQ → Prop
def spOf (K : PySem.W.Frag) (dsp : DSp) : Sp := fun vs H Q _ => ∃ ρ ds st QD, RelS K ρ H st ∧ Reps K ρ H ds vs ∧ dsp ds st QD ∧ ∀ v H', PostE K ρ H QD v H' → Q v H'
def dCall (dsp : DSp) (da : DTA) : DTE := fun env st Q => da env st fun ds st1 => dsp ds st1 Q
section
variable {X : Cx} {k : Nat} {f : Addr} {fd : FuncData} {ps : List Str} {dsp : DSp} {x : Str} {p pos : Pos} {e : Expr} {es : List Expr} {t : TA} {da : DTA}
theorem sim_call {K : PySem.W.Frag} (h : SimA K t da) : Sim K (tCall (spOf K dsp) [] E0 t) (dCall dsp da) := by
  intro ρ env st σ H Q W rs re q w
  refine h ρ env st σ H _ _ rs re q fun xs H1 ⟨ρ1, ds, st1, k1, r1, px, q1⟩ => ?_
  rw [List.append_nil]
  exact ⟨ρ1, ds, st1, Q, r1, px, q1, fun v H' pq => w v H' (pq.keep k1)⟩
theorem se_call {K : PySem.W.Frag} [hK : HasK X K] (F : FnOk X.prog X.w K X.mg X.base CX0 k f fd ps (spOf K dsp)) (hr : Room k X.A) (hg : Gl X x) (hm : X.mg x = some (.ref f)) (hk : PySem.W.keepIn K (.ref f) = true) (hb : Binds K fd ps [])
    (ha : SA X (e :: es) t da) (hdb : (x == ("__debug__" : Str)) = false := by decide) (he : starEach (e :: es) X.env = (false, eval e X.env) :: starEach es X.env := by rfl) (hpl : (backTo pos (starEach es X.env)).any (·.1) = false := by rfl) :
    SE X (.Call (.Name x p) (e :: es) [] pos) (tCall (spOf K dsp) [] E0 t) (dCall dsp da) := by
  obtain rfl := hK.eq
  exact ⟨pe_call F hr hg hm hk hb .nil pass0 ha.pa hdb he hpl, sim_call ha.sim⟩
theorem se_call0 {K : PySem.W.Frag} [hK : HasK X K] (F : FnOk X.prog X.w K X.mg X.base CX0 k f fd ps (spOf K dsp)) (hr : Room k X.A) (hg : Gl X x) (hm : X.mg x = some (.ref f)) (hk : PySem.W.keepIn K (.ref f) = true) (hb : Binds K fd ps [])
    (hdb : (x == ("__debug__" : Str)) = false := by decide) : SE X (.Call (.Name x p) [] [] pos) (tCall (spOf K dsp) [] E0 tNil) (dCall dsp dNil) := by
  obtain rfl := hK.eq
  exact ⟨pe_call0 F hr hg hm hk hb .nil pass0 hdb, sim_call (sa_nil (X := X)).sim⟩
end
/-! ### built-ins by name -/
structure SCl (X : Cx) (f : Value) (r : List V → Hp → VK → Prop) (rd : DRA) : Prop where
  cr : CallR X f r
  sim : SimRA X.K r rd
def dCB (rd : DRA) (da : DTA) : DTE := fun env st Q => da env st fun ds st1 => rd ds st1 Q
theorem sim_cb {K : PySem.W.Frag} {r : List V → Hp → VK → Prop} {rd : DRA} {t : TA} {da : DTA} (hr : SimRA K r rd) (h : SimA K t da) : Sim K (tCB r t) (dCB rd da) := by
  intro ρ env st σ H Q W rs re q w
  refine h ρ env st σ H _ _ rs re q fun xs H1 ⟨ρ1, ds, st1, k1, r1, px, q1⟩ => ?_
  exact hr ρ1 st1 H1 xs ds Q W r1 px q1 fun v H' p => w v H' (p.keep k1)
section
variable {X : Cx} {x : Str} {p pos : Pos} {e : Expr} {es : List Expr} {t : TA} {da : DTA} {id T : String} {r : List V → Hp → VK → Prop} {rd : DRA}
theorem se_callB (hc : SCl X (.builtin id) r rd) (hg : Gl X x) (hm : X.mg x = none) (hv : bootBuiltins x = some (.builtin id)) (ha : SA X (e :: es) t da) (hn : x ≠ "__name__" := by decide) (hdb : (x == ("__debug__" : Str)) = false := by decide)
    (he : starEach (e :: es) X.env = (false, eval e X.env) :: starEach es X.env := by rfl) (hpl : (backTo pos (starEach es X.env)).any (·.1) = false := by rfl) : SE X (.Call (.Name x p) (e :: es) [] pos) (tCB r t) (dCB rd da) := ⟨pe_callB hc.cr hg hm hv ha.pa hn hdb he hpl, sim_cb hc.sim ha.sim⟩
theorem se_callTy (hc : SCl X (.type T) r rd) (hg : Gl X x) (hm : X.mg x = none) (hv : bootBuiltins x = some (.type T)) (ha : SA X (e :: es) t da) (hn : x ≠ "__name__" := by decide) (hdb : (x == ("__debug__" : Str)) = false := by decide)
    (he : starEach (e :: es) X.env = (false, eval e X.env) :: starEach es X.env := by rfl) (hpl : (backTo pos (starEach es X.env)).any (·.1) = false := by rfl) : SE X (.Call (.Name x p) (e :: es) [] pos) (tCB r t) (dCB rd da) := ⟨pe_callTy hc.cr hg hm hv ha.pa hn hdb he hpl, sim_cb hc.sim ha.sim⟩
end
theorem Reps.one {K : PySem.W.Frag} {ρ : List Addr} {H : Hp} {d : D} {vs : List V} (h : Reps K ρ H [d] vs) : ∃ v, vs = [v] ∧ Rep K ρ H d v := by
  unfold Reps at h
  obtain ⟨v, r, rfl, h1, h2⟩ := h
  unfold Reps at h2
  exact ⟨v, by rw [h2], h1⟩
theorem Reps.two {K : PySem.W.Frag} {ρ : List Addr} {H : Hp} {d e : D} {vs : List V} (h : Reps K ρ H [d, e] vs) : ∃ v w, vs = [v, w] ∧ Rep K ρ H d v ∧ Rep K ρ H e w := by
  unfold Reps at h
  obtain ⟨v, r, rfl, h1, h2⟩ := h
  obtain ⟨w, rfl, h3⟩ := h2.one
  exact ⟨v, w, rfl, h1, h3⟩
def dLen : DRA := fun ds st Q => match ds with
  | [.tup xs] => Q (.int xs.length) st
  | [.rol xs] => Q (.int xs.length) st
  | [.str z] => z.length ≤ sizeLine ∧ Q (.int z.length) st
  | [.ref k] => match st[k]? with
    | some (.lst xs) => Q (.int xs.length) st
    | _ => False
  | _ => False
section
variable {X : Cx}
theorem sc_len {K : PySem.W.Frag} [hk : HasK X K] : SCl X (.builtin "len") (fun xs H Q => ∃ x n, xs = [x] ∧ LenV K x H n ∧ Q (.int n) H) dLen := by
  obtain rfl := hk.eq
  refine ⟨call_len, fun ρ st H xs dxs Q W rs px q w => ?_⟩
  unfold dLen at q
  split at q
  · rename_i ys
    obtain ⟨v, rfl, r⟩ := px.one
    obtain ⟨a, vs, rfl, hs, hr⟩ := rep_tup r
    exact ⟨_, ys.length, rfl, .inr ⟨vs, hs, hr.len⟩, w _ H (.of rs (.int _) q)⟩
  · rename_i ys
    obtain ⟨v, rfl, r⟩ := px.one
    obtain ⟨a, vs, rfl, hs, hr⟩ := rep_rol r
    exact ⟨_, ys.length, rfl, .inl ⟨vs, sqf_l hs, hr.len⟩, w _ H (.of rs (.int _) q)⟩
  · rename_i z
    obtain ⟨v, rfl, r⟩ := px.one
    obtain rfl := rep_str r
    exact ⟨_, z.length, rfl, ⟨q.1, rfl⟩, w _ H (.of rs (.int _) q.2)⟩
  · rename_i k
    obtain ⟨v, rfl, r⟩ := px.one
    obtain ⟨a, ha, rfl⟩ := rep_ref r
    split at q
    · rename_i ys e
      obtain ⟨vs, hv, hr⟩ := rs.lst ha e
      exact ⟨_, ys.length, rfl, .inl ⟨vs, SqL.of hv, hr.len⟩, w _ H (.of rs (.int _) q)⟩
    · exact q.elim
  · exact q.elim
def dAbs : DRA := fun ds st Q => match ds with
  | [.int i] => Q (.int (if i < 0 then -i else i)) st
  | _ => False
theorem sc_abs : SCl X (.builtin "abs") (fun xs H Q => ∃ i, xs = [.int i] ∧ Q (.int (if i < 0 then -i else i)) H) dAbs := by
  refine ⟨call_abs, fun ρ st H xs dxs Q W rs px q w => ?_⟩
  unfold dAbs at q
  split at q
  · rename_i i
    obtain ⟨v, rfl, r⟩ := px.one
    obtain rfl := rep_int r
    exact ⟨i, rfl, w _ H (.of rs (.int _) q)⟩
  · exact q.elim
def D.int? : D → Option Int
  | .int i => some i
  | .bl k => some (if k then 1 else 0)
  | _ => none
def dInt1 : DRA := fun ds st Q => match ds with
  | [x] => match x.int? with
    | some i => Q (.int i) st
    | none => False
  | _ => False
theorem sc_int1 : SCl X (.type "int") (fun xs H Q => (∃ i, xs = [.int i] ∧ Q (.int i) H) ∨ ∃ k, xs = [.bl k] ∧ Q (.int (if k then 1 else 0)) H) dInt1 := by
  refine ⟨call_int1, fun ρ st H xs dxs Q W rs px q w => ?_⟩
  unfold dInt1 at q
  split at q
  · rename_i x
    obtain ⟨v, rfl, r⟩ := px.one
    cases x with
    | int i =>
      obtain rfl := rep_int r
      exact .inl ⟨i, rfl, w _ H (.of rs (.int _) q)⟩
    | bl i =>
      obtain rfl := rep_bl r
      exact .inr ⟨i, rfl, w _ H (.of rs (.int _) q)⟩
    | _ => exact q.elim
  · exact q.elim
/-- list(xs), xs a list or a tuple -/
def dListOf : DRA := fun ds st Q => match ds with
  | [.tup xs] => Q (.ref st.length) (st ++ [.lst xs])
  | [.rol xs] => Q (.ref st.length) (st ++ [.lst xs])
  | [.ref k] => match st[k]? with
    | some (.lst xs) => Q (.ref st.length) (st ++ [.lst xs])
    | _ => False
  | _ => False
theorem sc_list {K : PySem.W.Frag} [hk : HasK X K] : SCl X (.type "list") (fun xs H Q => ∃ p ys, xs = [.ref p] ∧ (SqL K H p ys ∨ SqT K H p ys) ∧ ∀ l, H l = none → Q (.ref l) (upd H l (.lst ys))) dListOf := by
  obtain rfl := hk.eq
  refine ⟨call_list_of, fun ρ st H xs dxs Q W rs px q w => ?_⟩
  unfold dListOf at q
  split at q
  · rename_i ys
    obtain ⟨v, rfl, r⟩ := px.one
    obtain ⟨a, vs, rfl, hs, hr⟩ := rep_tup r
    exact ⟨a, vs, rfl, .inr hs, fun l hl => w _ _ (.lst rs hl hr q)⟩
  · rename_i ys
    obtain ⟨v, rfl, r⟩ := px.one
    obtain ⟨a, vs, rfl, hs, hr⟩ := rep_rol r
    exact ⟨a, vs, rfl, .inl (sqf_l hs), fun l hl => w _ _ (.lst rs hl hr q)⟩
  · rename_i k
    obtain ⟨v, rfl, r⟩ := px.one
    obtain ⟨a, ha, rfl⟩ := rep_ref r
    split at q
    · rename_i ys e
      obtain ⟨vs, hv, hr⟩ := rs.lst ha e
      exact ⟨a, vs, rfl, .inl (SqL.of hv), fun l hl => w _ _ (.lst rs hl hr q)⟩
    · exact q.elim
  · exact q.elim
def dTupleOf : DRA := fun ds st Q => match ds with
  | [.tup xs] => Q (.tup xs) st
  | [.rol xs] => Q (.tup xs) st
  | [.ref k] => match st[k]? with
    | some (.lst xs) => Q (.tup xs) st
    | _ => False
  | _ => False
theorem sc_tuple {K : PySem.W.Frag} [hk : HasK X K] : SCl X (.type "tuple") (fun xs H Q => ∃ p ys, xs = [.ref p] ∧ ((SqL K H p ys ∧ ∀ l, H l = none → Q (.ref l) (upd H l (.tup ys))) ∨ (SqT K H p ys ∧ Q (.ref p) H))) dTupleOf := by
  obtain rfl := hk.eq
  refine ⟨call_tuple_of, fun ρ st H xs dxs Q W rs px q w => ?_⟩
  unfold dTupleOf at q
  split at q
  · rename_i ys
    obtain ⟨v, rfl, r⟩ := px.one
    obtain ⟨a, vs, rfl, hs, hr⟩ := rep_tup r
    exact ⟨a, vs, rfl, .inr ⟨hs, w _ H (.of rs (.tup hs hr) q)⟩⟩
  · rename_i ys
    obtain ⟨v, rfl, r⟩ := px.one
    obtain ⟨a, vs, rfl, hs, hr⟩ := rep_rol r
    exact ⟨a, vs, rfl, .inl ⟨sqf_l hs, fun l hl => w _ _ (.tup rs hl hr q)⟩⟩
  · rename_i k
    obtain ⟨v, rfl, r⟩ := px.one
    obtain ⟨a, ha, rfl⟩ := rep_ref r
    split at q
    · rename_i ys e
      obtain ⟨vs, hv, hr⟩ := rs.lst ha e
      exact ⟨a, vs, rfl, .inl ⟨SqL.of hv, fun l hl => w _ _ (.tup rs hl hr q)⟩⟩
    · exact q.elim
  · exact q.elim
end

/-! ### places and slices -/
def dItem (st : Store) (x : D) (i : Int) : Option D := match x with
  | .tup xs => atI xs i
  | .rol xs => atI xs i
  | .ref k => match st[k]? with
    | some (.lst xs) => atI xs i
    | _ => none
  | .str z => if z.length ≤ sizeLine then (atI z.cps.toList i).map fun c => .str ⟨#[c]⟩ else none
  | _ => none
def dIx : DR2 := fun x y st Q => match y with
  | .int i => match dItem st x i with
    | some d => Q d st
    | none => False
  | _ => False
theorem reps_at {K : PySem.W.Frag} {ρ : List Addr} {H : Hp} {ds : List D} {vs : List V} {i : Int} {d : D} (r : Reps K ρ H ds vs) (h : atI ds i = some d) : ∃ v, atI vs i = some v ∧ Rep K ρ H d v := by
  unfold atI at h ⊢
  rw [← r.len]
  cases e : ixN ds.length i with
  | none => rw [e] at h; cases h
  | some j =>
    rw [e] at h
    exact r.get h
theorem sim_ix {K : PySem.W.Frag} : SimR2 K (rIx K) dIx := by
  intro ρ st H x y dx dy Q W rs px py q w
  cases dy with
  | int i =>
    obtain rfl := rep_int py
    unfold dIx at q
    dsimp only at q
    split at q
    · rename_i d e
      unfold dItem at e
      split at e
      · obtain ⟨a, vs, rfl, hs, hr⟩ := rep_tup px
        obtain ⟨v, hv, rv⟩ := reps_at hr e
        exact .inr (.inl ⟨a, vs, i, v, rfl, rfl, hs, hv, w _ H (.of rs rv q)⟩)
      · obtain ⟨a, vs, rfl, hs, hr⟩ := rep_rol px
        obtain ⟨v, hv, rv⟩ := reps_at hr e
        exact .inl ⟨a, vs, i, v, rfl, rfl, sqf_l hs, hv, w _ H (.of rs rv q)⟩
      · obtain ⟨a, ha, rfl⟩ := rep_ref px
        split at e
        · rename_i ys e2
          obtain ⟨vs, hv, hr⟩ := rs.lst ha e2
          obtain ⟨v, hv2, rv⟩ := reps_at hr e
          exact .inl ⟨a, vs, i, v, rfl, rfl, SqL.of hv, hv2, w _ H (.of rs rv q)⟩
        · cases e
      · rename_i z
        obtain rfl := rep_str px
        split at e
        · rename_i hz
          obtain ⟨c, hc, rfl⟩ := Option.map_eq_some_iff.mp e
          exact .inr (.inr ⟨z, i, c, rfl, rfl, hz, hc, w _ H (.of rs (.str _) q)⟩)
        · cases e
      · cases e
    · exact q.elim
  | _ => exact q.elim
section
variable {X : Cx} {a b : Expr} {ta tb : TE} {da db : DTE} {pos p2 : Pos}
theorem se_ix {K : PySem.W.Frag} [hk : HasK X K] (ha : SE X a ta da) (hb : SE X b tb db) (hs : PlainIx b) : SE X (.Subscript a b pos) (tOp (rIx K) ta tb) (dOp dIx da db) := by
  obtain rfl := hk.eq
  exact ⟨pe_ix ix_seq ha.pe hb.pe hs, sim_op sim_ix ha.sim hb.sim⟩
end
abbrev DTO := DEnv → Store → (Option Int → Store → Prop) → Prop
def SimO (K : PySem.W.Frag) (t : TO) (te : DTO) : Prop := ∀ ρ env st σ H (Q : Option Int → Store → Prop) (W : Option Int → Hp → Prop), RelS K ρ H st → RelE K ρ H env σ → te env st Q → (∀ o H', (∃ ρ' st', Keep ρ ρ' H H' ∧ RelS K ρ' H' st' ∧ Q o st') → W o H') → t σ H W
structure SO (X : Cx) (e : Option Expr) (t : TO) (te : DTO) : Prop where
  po : PO X e t
  sim : SimO X.K t te
def dNoPart : DTO := fun _ st Q => Q none st
def dPart (de : DTE) : DTO := fun env st Q => de env st fun x st1 => match x with
  | .int i => Q (some i) st1
  | _ => False
/-- the slice of a list of data -/
def cutD (xs : List D) (lo hi : Option Int) : List D := (xs.drop (HT.sIx xs.length 0 lo)).take (HT.sIx xs.length xs.length hi - HT.sIx xs.length 0 lo)
def dSl (x : D) (lo hi : Option Int) : Store → DQ → Prop := fun st Q => match x with
  | .tup xs => Q (.tup (cutD xs lo hi)) st
  | .rol xs => Q (.ref st.length) (st ++ [.lst (cutD xs lo hi)])
  | .ref k => match st[k]? with
    | some (.lst xs) => Q (.ref st.length) (st ++ [.lst (cutD xs lo hi)])
    | _ => False
  | .str z => z.length ≤ sizeLine ∧ Q (.str (cutS z lo hi)) st
  | _ => False
def dSlice (de : DTE) (dl dh : DTO) : DTE := fun env st Q => de env st fun x st1 => dl env st1 fun lo st2 => dh env st2 fun hi st3 => dSl x lo hi st3 Q
theorem reps_cut {K : PySem.W.Frag} {ρ : List Addr} {H : Hp} {ds : List D} {vs : List V} (r : Reps K ρ H ds vs) (lo hi : Option Int) : Reps K ρ H (cutD ds lo hi) (cutV vs lo hi) := by
  unfold cutD cutV
  rw [r.len]
  exact (r.drop _).take _
theorem cut_whole (xs : List D) (lo hi : Option Int) (h : HT.sIx xs.length 0 lo = 0 ∧ HT.sIx xs.length xs.length hi = xs.length) : cutD xs lo hi = xs := by
  unfold cutD
  rw [h.1, h.2, List.drop_zero, Nat.sub_zero, List.take_length]
def rSlAll (K : PySem.W.Frag) : V → Option Int → Option Int → Hp → VK → Prop := fun x lo hi H Q => rSlA K x lo hi H Q ∨ (rSlL K x lo hi H Q ∨ rSlS x lo hi H Q)
section
variable {X : Cx} {e : Expr} {lo hi : Option Expr} {te : TE} {tl th : TO} {de : DTE} {dl dh : DTO} {pos p2 : Pos}
theorem so_none : SO X none tNoPart dNoPart := ⟨po_none, fun ρ env st σ H Q W rs re q w => w none H ⟨ρ, st, Keep.refl, rs, q⟩⟩
theorem so_some {x : Expr} (h : SE X x te de) : SO X (some x) (tPart te) (dPart de) := by
  refine ⟨po_some h.pe, fun ρ env st σ H Q W rs re q w => ?_⟩
  refine h.sim ρ env st σ H _ _ rs re q fun x H1 ⟨ρ1, dx, st1, k1, r1, px, q1⟩ => ?_
  cases dx with
  | int i => exact ⟨i, rep_int px, w _ H1 ⟨ρ1, st1, k1, r1, q1⟩⟩
  | _ => exact q1.elim
theorem se_slice {K : PySem.W.Frag} [hk : HasK X K] (he : SE X e te de) (hl : SO X lo tl dl) (hh : SO X hi th dh) : SE X (.Subscript e (.Slice lo hi none p2) pos) (tSl (rSlAll K) te tl th) (dSlice de dl dh) := by
  obtain rfl := hk.eq
  refine ⟨pe_slice (.or sl_tupA (.or sl_list sl_str)) he.pe hl.po hh.po, fun ρ env st σ H Q W rs re q w => ?_⟩
  refine he.sim ρ env st σ H _ _ rs re q fun x H1 ⟨ρ1, dx, st1, k1, r1, px, q1⟩ => ?_
  refine hl.sim ρ1 env st1 σ H1 _ _ r1 (re.keep k1) q1 fun l H2 ⟨ρ2, st2, k2, r2, q2⟩ => ?_
  refine hh.sim ρ2 env st2 σ H2 _ _ r2 ((re.keep k1).keep k2) q2 fun u H3 ⟨ρ3, st3, k3, r3, q3⟩ => ?_
  have px3 := (px.keep k2).keep k3
  have fin : ∀ v H', PostE X.K ρ3 H3 Q v H' → W v H' := fun v H' p => w v H' (((p.keep k3).keep k2).keep k1)
  cases dx with
  | tup xs =>
    obtain ⟨a, vs, rfl, hs, hr⟩ := rep_tup px3
    refine .inl ⟨a, vs, rfl, hs, fun hw => fin _ _ ?_, fun _ p hp => fin _ _ (.tup r3 hp (reps_cut hr l u) q3)⟩
    rw [← hr.len] at hw
    have q4 : Q (.tup (cutD xs l u)) st3 := q3
    rw [cut_whole xs l u hw] at q4
    exact .of r3 px3 q4
  | rol xs =>
    obtain ⟨a, vs, rfl, hs, hr⟩ := rep_rol px3
    exact .inr (.inl ⟨a, vs, rfl, sqf_l hs, fun p hp => fin _ _ (.lst r3 hp (reps_cut hr l u) q3)⟩)
  | ref k =>
    obtain ⟨a, ha, rfl⟩ := rep_ref px3
    unfold dSl at q3
    dsimp only at q3
    split at q3
    · rename_i e2
      obtain ⟨vs, hv, hr⟩ := r3.lst ha e2
      exact .inr (.inl ⟨a, vs, rfl, SqL.of hv, fun p hp => fin _ _ (.lst r3 hp (reps_cut hr l u) q3)⟩)
    · exact q3.elim
  | str z =>
    obtain rfl := rep_str px3
    exact .inr (.inr ⟨z, rfl, q3.1, fin _ _ (.of r3 (.str _) q3.2)⟩)
  | _ => exact q3.elim
end

/-! ### methods of lists -/
abbrev DRM := D → List D → Store → DQ → Prop
def SimRM (K : PySem.W.Frag) (r : V → List V → Hp → VK → Prop) (rd : DRM) : Prop := ∀ ρ st H x dx xs dxs (Q : DQ) (W : VK), RelS K ρ H st → Rep K ρ H dx x → Reps K ρ H dxs xs → rd dx dxs st Q → (∀ v H', PostE K ρ H Q v H' → W v H') → r x xs H W
/-- the receiver is a list of the store -/
def dBM (rd : DRM) (dO : DTE) (da : DTA) : DTE := fun env st Q => dO env st fun x st1 => (match x with
  | .ref k => match st1[k]? with
    | some (.lst _) => True
    | _ => False
  | _ => False) ∧ da env st1 fun xs st2 => rd x xs st2 Q
theorem sim_bm {K : PySem.W.Frag} {r : V → List V → Hp → VK → Prop} {rd : DRM} {to : TE} {t : TA} {dO : DTE} {da : DTA} (hr : SimRM K r rd) (ho : Sim K to dO) (ha : SimA K t da) : Sim K (tBM K "list" r to t) (dBM rd dO da) := by
  intro ρ env st σ H Q W rs re q w
  refine ho ρ env st σ H _ _ rs re q fun x H1 ⟨ρ1, dx, st1, k1, r1, px, q1⟩ => ?_
  obtain ⟨c, q1⟩ := q1
  refine ⟨?_, ?_⟩
  · cases dx with
    | ref k =>
      obtain ⟨a, h, rfl⟩ := rep_ref px
      dsimp only at c
      split at c
      · rename_i ys e
        obtain ⟨vs, hv, _⟩ := r1.lst h e
        exact .inl ⟨rfl, vs, SqL.of hv⟩
      · exact c.elim
    | _ => exact c.elim
  · refine ha ρ1 env st1 σ H1 _ _ r1 (re.keep k1) q1 fun xs H2 ⟨ρ2, ds, st2, k2, r2, pxs, q2⟩ => ?_
    exact hr ρ2 st2 H2 x dx xs ds Q W r2 (px.keep k2) pxs q2 fun v H' p => w v H' ((p.keep k2).keep k1)
theorem sim_bm0 {K : PySem.W.Frag} {r : V → List V → Hp → VK → Prop} {rd : DRM} {to : TE} {dO : DTE} (hr : SimRM K r rd) (ho : Sim K to dO) : Sim K (tBM0 K "list" r to) (dBM rd dO dNil) := by
  intro ρ env st σ H Q W rs re q w
  refine ho ρ env st σ H _ _ rs re q fun x H1 ⟨ρ1, dx, st1, k1, r1, px, q1⟩ => ?_
  obtain ⟨c, q1⟩ := q1
  refine ⟨?_, hr ρ1 st1 H1 x dx [] [] Q W r1 px Reps.nil q1 fun v H' p => w v H' (p.keep k1)⟩
  cases dx with
  | ref k =>
    obtain ⟨a, h, rfl⟩ := rep_ref px
    dsimp only at c
    split at c
    · rename_i ys e
      obtain ⟨vs, hv, _⟩ := r1.lst h e
      exact .inl ⟨rfl, vs, SqL.of hv⟩
    · exact c.elim
  | _ => exact c.elim
section
variable {K : PySem.W.Frag} {ρ : List Addr} {H : Hp} {st : Store} {Q : DQ}
theorem PostE.put {k : Nat} {a : Addr} {v : V} {d : D} {vs ws : List V} {xs : List D} (r : RelS K ρ H st) (e : ρ[k]? = some a) (ha : H a = some (.lst vs)) (h : Reps K ρ H xs ws) (hd : Rep K ρ H d v) (q : Q d (st.set k (.lst xs))) : PostE K ρ H Q v (upd H a (.lst ws)) :=
  ⟨ρ, d, _, keep_upd ha, r.put e ha h, hd.keep (keep_upd ha), q⟩
end
def dAppend : DRM := fun x ds st Q => match x, ds with
  | .ref k, [d] => match st[k]? with
    | some (.lst xs) => xs.length < sizeLine ∧ Q .non (st.set k (.lst (xs ++ [d])))
    | _ => False
  | _, _ => False
theorem sim_append {K : PySem.W.Frag} : SimRM K rAppend dAppend := by
  intro ρ st H x dx xs dxs Q W rs px pxs q w
  unfold dAppend at q
  split at q
  · obtain ⟨a, ha, rfl⟩ := rep_ref px
    obtain ⟨v, rfl, pv⟩ := pxs.one
    split at q
    · rename_i ys e
      obtain ⟨vs, hv, hr⟩ := rs.lst ha e
      exact ⟨a, vs, v, rfl, rfl, hv, by rw [← hr.len]; exact q.1, w _ _ (.put rs ha hv (hr.app (.cons pv .nil)) .non q.2)⟩
    · exact q.elim
  · exact q.elim
def dExtend : DRM := fun x ds st Q => match x, ds with
  | .ref k, [.ref l] => match st[k]?, st[l]? with
    | some (.lst xs), some (.lst ys) => xs.length + ys.length ≤ sizeLine ∧ Q .non (st.set k (.lst (xs ++ ys)))
    | _, _ => False
  | _, _ => False
theorem sim_extend {K : PySem.W.Frag} : SimRM K rExtend dExtend := by
  intro ρ st H x dx xs dxs Q W rs px pxs q w
  unfold dExtend at q
  split at q
  · obtain ⟨a, ha, rfl⟩ := rep_ref px
    obtain ⟨v, rfl, pv⟩ := pxs.one
    obtain ⟨b, hb, rfl⟩ := rep_ref pv
    split at q
    · rename_i xs ys e1 e2
      obtain ⟨vs, hv, hr⟩ := rs.lst ha e1
      obtain ⟨ws, hw, hr2⟩ := rs.lst hb e2
      exact ⟨a, b, vs, ws, rfl, rfl, hv, hw, by rw [← hr.len, ← hr2.len]; exact q.1, w _ _ (.put rs ha hv (hr.app hr2) .non q.2)⟩
    · exact q.elim
  · exact q.elim
def dPop : DRM := fun x ds st Q => match x, ds with
  | .ref k, [] => match st[k]? with
    | some (.lst xs) => match xs[xs.length - 1]? with
      | some d => Q d (st.set k (.lst xs.dropLast))
      | none => False
    | _ => False
  | _, _ => False
theorem sim_pop {K : PySem.W.Frag} : SimRM K rPop dPop := by
  intro ρ st H x dx xs dxs Q W rs px pxs q w
  unfold dPop at q
  split at q
  · obtain ⟨a, ha, rfl⟩ := rep_ref px
    have e0 : xs = [] := by unfold Reps at pxs; exact pxs
    subst e0
    split at q
    · rename_i ys e
      obtain ⟨vs, hv, hr⟩ := rs.lst ha e
      split at q
      · rename_i d e2
        obtain ⟨v, hv2, rv⟩ := hr.get e2
        rw [hr.len] at hv2
        exact ⟨a, vs, v, rfl, rfl, hv, hv2, w _ _ (.put rs ha hv hr.dropLast rv q)⟩
      · exact q.elim
    · exact q.elim
  · exact q.elim
def dReverse : DRM := fun x ds st Q => match x, ds with
  | .ref k, [] => match st[k]? with
    | some (.lst xs) => Q .non (st.set k (.lst xs.reverse))
    | _ => False
  | _, _ => False
theorem sim_reverse {K : PySem.W.Frag} : SimRM K rReverse dReverse := by
  intro ρ st H x dx xs dxs Q W rs px pxs q w
  unfold dReverse at q
  split at q
  · obtain ⟨a, ha, rfl⟩ := rep_ref px
    have e0 : xs = [] := by unfold Reps at pxs; exact pxs
    subst e0
    split at q
    · rename_i ys e
      obtain ⟨vs, hv, hr⟩ := rs.lst ha e
      exact ⟨a, vs, rfl, rfl, hv, w _ _ (.put rs ha hv hr.rev .non q)⟩
    · exact q.elim
  · exact q.elim
section
variable {X : Cx} {o e : Expr} {es : List Expr} {to : TE} {t : TA} {dO : DTE} {da : DTA} {pos apos : Pos} {name : Str} {id : String} {r : V → List V → Hp → VK → Prop} {rd : DRM}
theorem se_append {K : PySem.W.Frag} [hk : HasK X K] (ho : SE X o to dO) (ha : SA X (e :: es) t da) (hbase : attributeBase o "append" X.env (eval o X.env) = eval o X.env := by rfl)
    (hfew : ((backTo pos (starEach (e :: es) X.env)).all (fun x => !x.1) && (backToKw pos (keywordEach [] X.env)).all (fun x => x.1.isSome)
      && decide ((e :: es).length + ([] : List Keyword).length + (if ([] : List Keyword).isEmpty then 0 else 1) < 30)) = true := by rfl)
    (hline : (apos.endLine == pos.line) = true := by rfl) (hs : starEach (e :: es) X.env = (false, eval e X.env) :: starEach es X.env := by rfl) (hplain : (backTo pos (starEach es X.env)).any (·.1) = false := by rfl) :
    SE X (.Call (.Attribute o "append" apos) (e :: es) [] pos) (tBM K "list" rAppend to t) (dBM dAppend dO da) := by
  obtain rfl := hk.eq
  exact ⟨pe_bm PySem.F.plainAttrs_list PySem.F.slot_list_append PySem.F.type_list_append mt_append ho.pe ha.pa hbase hfew hline hs hplain, sim_bm sim_append ho.sim ha.sim⟩
theorem se_extend {K : PySem.W.Frag} [hk : HasK X K] (ho : SE X o to dO) (ha : SA X (e :: es) t da) (hbase : attributeBase o "extend" X.env (eval o X.env) = eval o X.env := by rfl)
    (hfew : ((backTo pos (starEach (e :: es) X.env)).all (fun x => !x.1) && (backToKw pos (keywordEach [] X.env)).all (fun x => x.1.isSome)
      && decide ((e :: es).length + ([] : List Keyword).length + (if ([] : List Keyword).isEmpty then 0 else 1) < 30)) = true := by rfl)
    (hline : (apos.endLine == pos.line) = true := by rfl) (hs : starEach (e :: es) X.env = (false, eval e X.env) :: starEach es X.env := by rfl) (hplain : (backTo pos (starEach es X.env)).any (·.1) = false := by rfl) :
    SE X (.Call (.Attribute o "extend" apos) (e :: es) [] pos) (tBM K "list" rExtend to t) (dBM dExtend dO da) := by
  obtain rfl := hk.eq
  exact ⟨pe_bm PySem.F.plainAttrs_list PySem.F.slot_list_extend PySem.F.type_list_extend mt_extend ho.pe ha.pa hbase hfew hline hs hplain, sim_bm sim_extend ho.sim ha.sim⟩
theorem se_pop {K : PySem.W.Frag} [hk : HasK X K] (ho : SE X o to dO) (hbase : attributeBase o "pop" X.env (eval o X.env) = eval o X.env := by rfl) (hline : (apos.endLine == pos.line) = true := by rfl) :
    SE X (.Call (.Attribute o "pop" apos) [] [] pos) (tBM0 K "list" rPop to) (dBM dPop dO dNil) := by
  obtain rfl := hk.eq
  exact ⟨pe_bm0 PySem.F.plainAttrs_list PySem.F.slot_list_pop PySem.F.type_list_pop mt_pop ho.pe hbase hline, sim_bm0 sim_pop ho.sim⟩
theorem se_reverse {K : PySem.W.Frag} [hk : HasK X K] (ho : SE X o to dO) (hbase : attributeBase o "reverse" X.env (eval o X.env) = eval o X.env := by rfl) (hline : (apos.endLine == pos.line) = true := by rfl) :
    SE X (.Call (.Attribute o "reverse" apos) [] [] pos) (tBM0 K "list" rReverse to) (dBM dReverse dO dNil) := by
  obtain rfl := hk.eq
  exact ⟨pe_bm0 PySem.F.plainAttrs_list PySem.F.slot_list_reverse PySem.F.type_list_reverse mt_reverse ho.pe hbase hline, sim_bm0 sim_reverse ho.sim⟩
end
end DL

namespace DL
open PySem PySem.Spec L2

/-! ### statements. n: so many cells of the store must stay -/
structure DEnds where
  nx : DEnv → Store → Prop
  rt : DQ
  bk : DEnv → Store → Prop := fun _ _ => False
  ct : DEnv → Store → Prop := fun _ _ => False
abbrev DTS := Nat → DEnds → DEnv → Store → Prop
structure EndsOk (K : PySem.W.Frag) (ρ : List Addr) (H : Hp) (d : DEnds) (W : Ends) : Prop where
  nx : ∀ σ' H' ρ' env' st', Keep ρ ρ' H H' → RelS K ρ' H' st' → RelE K ρ' H' env' σ' → d.nx env' st' → W.nx σ' H'
  rt : ∀ v H' ρ' x st', Keep ρ ρ' H H' → RelS K ρ' H' st' → Rep K ρ' H' x v → d.rt x st' → W.rt v H'
  bk : ∀ σ' H' ρ' env' st', Keep ρ ρ' H H' → RelS K ρ' H' st' → RelE K ρ' H' env' σ' → d.bk env' st' → W.bk σ' H'
  ct : ∀ σ' H' ρ' env' st', Keep ρ ρ' H H' → RelS K ρ' H' st' → RelE K ρ' H' env' σ' → d.ct env' st' → W.ct σ' H'
def SimS (K : PySem.W.Frag) (t : TS) (ts : DTS) : Prop := ∀ n ρ env st σ H (d : DEnds) (W : Ends), n ≤ ρ.length → RelS K ρ H st → RelE K ρ H env σ → ts n d env st → EndsOk K (ρ.take n) H d W → t W σ H
structure SS (X : Cx) (s : Stmt) (t : TS) (ts : DTS) : Prop where
  ps : PS X s t
  sim : SimS X.K t ts
structure SSs (X : Cx) (s : List Stmt) (t : TS) (ts : DTS) : Prop where
  pss : PSs X s t
  sim : SimS X.K t ts
section
variable {K : PySem.W.Frag} {ρ ρ' : List Addr} {H H' : Hp} {d : DEnds} {W : Ends} {n m : Nat}
theorem Keep.take (k : Keep ρ ρ' H H') (n : Nat) : Keep (ρ.take n) ρ' H H' := by
  obtain ⟨t, rfl⟩ := k.pre
  refine ⟨⟨ρ.drop n ++ t, ?_⟩, k.tups, k.frzs⟩
  rw [← List.append_assoc, List.take_append_drop]
theorem Keep.take2 (k : Keep ρ ρ' H H') (hn : n ≤ ρ.length) : Keep (ρ.take n) (ρ'.take n) H H' := by
  obtain ⟨t, rfl⟩ := k.pre
  refine ⟨⟨[], ?_⟩, k.tups, k.frzs⟩
  rw [List.append_nil, List.take_append_of_le_length hn]
theorem Keep.len (k : Keep ρ ρ' H H') : ρ.length ≤ ρ'.length := by
  obtain ⟨t, rfl⟩ := k.pre
  rw [List.length_append]
  omega
theorem EndsOk.adv (e : EndsOk K ρ H d W) (k : Keep ρ ρ' H H') : EndsOk K ρ' H' d W :=
  ⟨fun σ' H2 ρ2 env' st' k2 => e.nx σ' H2 ρ2 env' st' (k.trans k2), fun v H2 ρ2 x st' k2 => e.rt v H2 ρ2 x st' (k.trans k2),
    fun σ' H2 ρ2 env' st' k2 => e.bk σ' H2 ρ2 env' st' (k.trans k2), fun σ' H2 ρ2 env' st' k2 => e.ct σ' H2 ρ2 env' st' (k.trans k2)⟩
/-- behind an expression -/
theorem EndsOk.go (e : EndsOk K (ρ.take n) H d W) (k : Keep ρ ρ' H H') (hn : n ≤ ρ.length) : EndsOk K (ρ'.take n) H' d W := e.adv (k.take2 hn)
theorem Keep.of_take (hn : n ≤ ρ.length) : Keep (ρ.take n) ρ H H := (Keep.refl (ρ := ρ) (H := H)).take n
end

def dNext : DTS := fun _ d env st => d.nx env st
def dSeq (t u : DTS) : DTS := fun n d env st => t n { d with nx := u n d } env st
section
variable {X : Cx} {st : Stmt} {rest : List Stmt} {t u : TS} {ts us : DTS} {e : Expr} {te : TE} {de : DTE} {pos : Pos}
theorem sim_next {K : PySem.W.Frag} : SimS K tNext dNext := fun n ρ env st σ H d W hn rs re q w => w.nx σ H ρ env st (Keep.of_take hn) rs re q
theorem sss_nil : SSs X [] tNext dNext := ⟨pss_nil, sim_next⟩
theorem sim_seq {K : PySem.W.Frag} {t u : TS} {ts us : DTS} (h1 : SimS K t ts) (h2 : SimS K u us) : SimS K (tSeq t u) (dSeq ts us) := by
  intro n ρ env st σ H d W hn rs re q w
  refine h1 n ρ env st σ H _ _ hn rs re q ⟨fun σ' H' ρ' env' st' k rs' re' q' => ?_, w.rt, w.bk, w.ct⟩
  have hl : n ≤ ρ'.length := by
    have := k.len
    rw [List.length_take] at this
    omega
  refine h2 n ρ' env' st' σ' H' d W hl rs' re' q' ?_
  have e : ρ'.take n = ρ.take n := by
    obtain ⟨t, rfl⟩ := k.pre
    rw [List.take_append_of_le_length (by rw [List.length_take]; omega), List.take_take, Nat.min_self]
  rw [e]
  exact w.adv ⟨⟨[], by simp⟩, k.tups, k.frzs⟩
theorem sss_cons (h1 : SS X st t ts) (h2 : SSs X rest u us) : SSs X (st :: rest) (tSeq t u) (dSeq ts us) := ⟨pss_cons h1.ps h2.pss, sim_seq h1.sim h2.sim⟩
theorem sss_one (h1 : SS X st t ts) : SSs X [st] t ts := ⟨pss_one h1.ps, h1.sim⟩
def dBreak : DTS := fun _ d env st => d.bk env st
def dCont : DTS := fun _ d env st => d.ct env st
theorem ss_pass : SS X (.Pass pos) tNext dNext := ⟨ps_pass, sim_next⟩
theorem ss_break : SS X (.Break pos) tBreak dBreak := ⟨ps_break, fun n ρ env st σ H d W hn rs re q w => w.bk σ H ρ env st (Keep.of_take hn) rs re q⟩
theorem ss_continue : SS X (.Continue pos) tCont dCont := ⟨ps_continue, fun n ρ env st σ H d W hn rs re q w => w.ct σ H ρ env st (Keep.of_take hn) rs re q⟩
def dDrop (de : DTE) : DTS := fun _ d env st => de env st fun _ st1 => d.nx env st1
theorem ss_expr (he : SE X e te de) (hs : swapsWith e none pos.line X.env = pure false := by rfl) : SS X (.Expr e pos) (tDrop te) (dDrop de) := by
  refine ⟨ps_expr he.pe hs, fun n ρ env st σ H d W hn rs re q w => ?_⟩
  exact he.sim ρ env st σ H _ _ rs re q fun v H1 ⟨ρ1, dx, st1, k1, r1, px, q1⟩ => w.nx σ H1 ρ1 env st1 (k1.take n) r1 (re.keep k1) q1
def dRet (de : DTE) : DTS := fun _ d env st => de env st d.rt
theorem ss_ret (he : SE X e te de) : SS X (.Return (some e) pos) (tRet te) (dRet de) := by
  refine ⟨ps_ret he.pe, fun n ρ env st σ H d W hn rs re q w => ?_⟩
  exact he.sim ρ env st σ H _ _ rs re q fun v H1 ⟨ρ1, dx, st1, k1, r1, px, q1⟩ => w.rt v H1 ρ1 dx st1 (k1.take n) r1 px q1
def dRetN : DTS := fun _ d _ st => d.rt .non st
theorem ss_retN : SS X (.Return none pos) tRetN dRetN := ⟨ps_retN, fun n ρ env st σ H d W hn rs re q w => w.rt .non H ρ .non st (Keep.of_take hn) rs .non q⟩
def dIfS (c : DTT) (t u : DTS) : DTS := fun n d env st => c env st fun b st1 => if b = true then t n d env st1 else u n d env st1
theorem ss_if {c : Expr} {a b : List Stmt} {tc : TT} {dc : DTT} (hc : ST X c tc dc) (ha : SSs X a t ts) (hb : SSs X b u us) : SS X (.If c a b pos) (tIfS tc t u) (dIfS dc ts us) := by
  refine ⟨ps_if hc.pt ha.pss hb.pss, fun n ρ env st σ H d W hn rs re q w => ?_⟩
  refine hc.sim ρ env st σ H _ _ rs re q fun c H1 ⟨ρ1, st1, k1, r1, q1⟩ => ?_
  have hl : n ≤ ρ1.length := Nat.le_trans hn k1.len
  cases c with
  | true =>
    rw [if_pos rfl] at q1 ⊢
    exact ha.sim n ρ1 env st1 σ H1 d W hl r1 (re.keep k1) q1 (w.go k1 hn)
  | false =>
    rw [if_neg Bool.false_ne_true] at q1 ⊢
    exact hb.sim n ρ1 env st1 σ H1 d W hl r1 (re.keep k1) q1 (w.go k1 hn)
theorem ss_never {s : Stmt} : SS X s tNever (fun _ _ _ _ => False) := ⟨ps_never, fun n ρ env st σ H d W hn rs re q w => q.elim⟩
end

/-! ### targets -/
abbrev DTG := D → DEnv → Store → (DEnv → Store → Prop) → Prop
abbrev DTGs := List D → DEnv → Store → (DEnv → Store → Prop) → Prop
def SimG (K : PySem.W.Frag) (g : TG) (dg : DTG) : Prop := ∀ ρ env st σ H x dx (Q : DEnv → Store → Prop) (W : L2.St → Hp → Prop), RelS K ρ H st → RelE K ρ H env σ → Rep K ρ H dx x → dg dx env st Q →
  (∀ σ' H' ρ' env' st', Keep ρ ρ' H H' → RelS K ρ' H' st' → RelE K ρ' H' env' σ' → Q env' st' → W σ' H') → g x σ H W
def SimGs (K : PySem.W.Frag) (g : TGs) (dg : DTGs) : Prop := ∀ ρ env st σ H xs dxs (Q : DEnv → Store → Prop) (W : L2.St → Hp → Prop), RelS K ρ H st → RelE K ρ H env σ → Reps K ρ H dxs xs → dg dxs env st Q →
  (∀ σ' H' ρ' env' st', Keep ρ ρ' H H' → RelS K ρ' H' st' → RelE K ρ' H' env' σ' → Q env' st' → W σ' H') → g xs σ H W
structure SG (X : Cx) (e : Expr) (g : TG) (dg : DTG) : Prop where
  pg : PG X e g
  sim : SimG X.K g dg
structure SGs (X : Cx) (e : List Expr) (g : TGs) (dg : DTGs) : Prop where
  pgs : PGs X e g
  sim : SimGs X.K g dg
def dgName (i : Nat) : DTG := fun x env st Q => Q (env.set i (some x)) st
def dgNil : DTGs := fun xs env st Q => match xs with
  | [] => Q env st
  | _ => False
def dgCons (t : DTG) (u : DTGs) : DTGs := fun xs env st Q => match xs with
  | x :: r => t x env st fun env' st' => u r env' st' Q
  | [] => False
def dgTup (n : Nat) (t : DTGs) : DTG := fun x env st Q => match x with
  | .tup xs => xs.length = n ∧ t xs env st Q
  | _ => False
/-- o[i] = v, o a list of the store -/
def dSetIx (st : Store) (o : D) (i : Int) (v : D) : Option Store := match o with
  | .ref k => match st[k]? with
    | some (.lst xs) => (ixN xs.length i).map fun j => st.set k (.lst (xs.set j v))
    | _ => none
  | _ => none
def dgSub (dO di : DTE) : DTG := fun x env st Q => dO env st fun o st1 => di env st1 fun i st2 => match i with
  | .int z => match dSetIx st2 o z x with
    | some st3 => Q env st3
    | none => False
  | _ => False
section
variable {X : Cx} {pos : Pos}
theorem sim_gname {K : PySem.W.Frag} {i : Nat} : SimG K (gName i) (dgName i) := fun ρ env st σ H x dx Q W rs re px q w => w _ H ρ _ st Keep.refl rs (re.set i px) q
theorem sg_name {i : Nat} {x : Str} (hN : X.N.Nodup) (hi : X.N[i]? = some x) (hx : Loc X.env.scope x) (hf : X.fn x = true ∨ X.env.scope.names.lookup x = some .local := by first | exact .inl rfl | exact .inr rfl | assumption) : SG X (.Name x pos) (gName i) (dgName i) := ⟨pg_name hN hi hx hf, sim_gname⟩
theorem sgs_nil : SGs X [] gNil dgNil := by
  refine ⟨pgs_nil, fun ρ env st σ H xs dxs Q W rs re px q w => ?_⟩
  cases dxs with
  | nil => exact ⟨by unfold Reps at px; exact px, w σ H ρ env st Keep.refl rs re q⟩
  | cons _ _ => exact q.elim
theorem sgs_cons {e : Expr} {es : List Expr} {t : TG} {u : TGs} {dt : DTG} {du : DTGs} (h1 : SG X e t dt) (h2 : SGs X es u du) (hs : (assignEach (e :: es) X.env).map (·.2) = assign e X.env :: (assignEach es X.env).map (·.2) := by rfl) : SGs X (e :: es) (gCons t u) (dgCons dt du) := by
  refine ⟨pgs_cons h1.pg h2.pgs hs, fun ρ env st σ H xs dxs Q W rs re px q w => ?_⟩
  cases dxs with
  | nil => exact q.elim
  | cons x r =>
    unfold Reps at px
    obtain ⟨v, vr, rfl, p1, p2⟩ := px
    refine ⟨v, vr, rfl, h1.sim ρ env st σ H v x _ _ rs re p1 q fun σ' H' ρ' env' st' k rs' re' q' => ?_⟩
    exact h2.sim ρ' env' st' σ' H' vr r Q W rs' re' (p2.keep k) q' fun σ2 H2 ρ2 env2 st2 k2 => w σ2 H2 ρ2 env2 st2 (k.trans k2)
theorem sg_tup {K : PySem.W.Frag} [hk : HasK X K] {es : List Expr} {k : Nat} {t : TGs} {n : Nat} {dt : DTGs} (hc : X.calm = true) (h : SGs X es t dt) (hn : (assignEach es X.env).length = n := by rfl) (hst : (assignEach es X.env).findIdx? (·.1) = none := by rfl) : SG X (.Tuple es k pos) (gTup K n t) (dgTup n dt) := by
  obtain rfl := hk.eq
  refine ⟨pg_tup hc h.pgs hn hst, fun ρ env st σ H x dx Q W rs re px q w => ?_⟩
  cases dx with
  | tup xs =>
    obtain ⟨a, vs, rfl, hs, hr⟩ := rep_tup px
    exact ⟨a, vs, rfl, hs, by rw [← hr.len]; exact q.1, h.sim ρ env st σ H vs xs Q W rs re hr q.2 w⟩
  | _ => exact q.elim
theorem sg_sub {o i : Expr} {to ti : TE} {dO di : DTE} (ho : SE X o to dO) (hi : SE X i ti di)
    (ha : ∀ v, assign (.Subscript o i pos) X.env v = (do
      let ov ← holding [v] (eval o X.env)
      let iv ← holding [v, ov] (eval i X.env)
      standAt pos
      holding [v, ov, iv] (setItem ov iv v)
      release [v, ov, iv] []) := by intro _; rfl) : SG X (.Subscript o i pos) (gSub to ti rSetL) (dgSub dO di) := by
  refine ⟨pg_sub ho.pe hi.pe set_list ha, fun ρ env st σ H x dx Q W rs re px q w => ?_⟩
  refine ho.sim ρ env st σ H _ _ rs re q fun ov H1 ⟨ρ1, d1, st1, k1, r1, p1, q1⟩ => ?_
  refine hi.sim ρ1 env st1 σ H1 _ _ r1 (re.keep k1) q1 fun iv H2 ⟨ρ2, d2, st2, k2, r2, p2, q2⟩ => ?_
  cases d2 with
  | int z =>
    obtain rfl := rep_int p2
    dsimp only at q2
    split at q2
    · rename_i st3 e
      unfold dSetIx at e
      split at e
      · obtain ⟨a, ha, rfl⟩ := rep_ref (p1.keep k2)
        split at e
        · rename_i xs e2
          obtain ⟨j, hj, rfl⟩ := Option.map_eq_some_iff.mp e
          obtain ⟨vs, hv, hr⟩ := r2.lst ha e2
          have px2 := (px.keep k1).keep k2
          have hr2 := hr.set (d := dx) (v := x) j px2
          refine ⟨a, vs, z, j, rfl, rfl, hv, by rw [← hr.len]; exact hj, ?_⟩
          have kk := keep_upd (ρ := ρ2) (ws := vs.set j x) hv
          exact w σ _ ρ2 env _ ((k1.trans k2).trans kk) (r2.put ha hv hr2) (((re.keep k1).keep k2).keep kk) q2
        · cases e
      · cases e
    · exact q2.elim
  | _ => exact q2.elim
end
def dAsg (de : DTE) (dg : DTG) : DTS := fun _ d env st => de env st fun x st1 => dg x env st1 d.nx
def dSet (i : Nat) (de : DTE) : DTS := fun _ d env st => de env st fun x st1 => d.nx (env.set i (some x)) st1
theorem sim_asg {K : PySem.W.Frag} {te : TE} {de : DTE} {g : TG} {dg : DTG} (he : Sim K te de) (hg : SimG K g dg) : SimS K (tAsg te g) (dAsg de dg) := by
  intro n ρ env st σ H d W hn rs re q w
  refine he ρ env st σ H _ _ rs re q fun v H1 ⟨ρ1, dx, st1, k1, r1, px, q1⟩ => ?_
  exact hg ρ1 env st1 σ H1 v dx d.nx W.nx r1 (re.keep k1) px q1 fun σ' H' ρ' env' st' k => w.nx σ' H' ρ' env' st' ((k1.trans k).take n)
section
variable {X : Cx} {pos : Pos}
theorem ss_asg {tg e : Expr} {te : TE} {g : TG} {de : DTE} {dg : DTG} (he : SE X e te de) (hg : SG X tg g dg) (hs : swapsWithSole [tg] e pos.line X.env = pure false := by rfl) (hw : swappedStores [tg] e X.env = pure none := by rfl)
    (h1 : (assignEach [tg] X.env).map (·.2) = [assign tg X.env] := by rfl) : SS X (.Assign [tg] e pos) (tAsg te g) (dAsg de dg) := ⟨ps_asg he.pe hg.pg hs hw h1, sim_asg he.sim hg.sim⟩
theorem ss_set {i : Nat} {x : Str} {e : Expr} {te : TE} {de : DTE} {pos' : Pos} (hN : X.N.Nodup) (hi : X.N[i]? = some x) (hx : Loc X.env.scope x) (he : SE X e te de) (hs : swapsWith e (some (.Name x pos')) pos.line X.env = pure false := by rfl) (hf : X.fn x = true ∨ X.env.scope.names.lookup x = some .local := by first | exact .inl rfl | exact .inr rfl | assumption) :
    SS X (.Assign [.Name x pos'] e pos) (tAsg te (gName i)) (dSet i de) := ⟨ps_set hN hi hx he.pe hs hf, sim_asg he.sim sim_gname⟩
/-- a, b = x, y -/
def dPar (i j : Nat) (da : DTA) : DTS := fun _ d env st => da env st fun xs st1 => match xs with
  | [x, y] => d.nx ((env.set i (some x)).set j (some y)) st1
  | _ => False
theorem ss_par {i j : Nat} {x y : Str} {a b : Expr} {ta : TA} {da : DTA} {px py pt : Pos} {kt k2 pt2} (hc : X.calm = true) (hN : X.N.Nodup) (hi : X.N[i]? = some x) (hj : X.N[j]? = some y) (hij : i ≠ j)
    (hx : X.env.scope.names.lookup x = some .local) (hy : X.env.scope.names.lookup y = some .local) (ha : SA X [a, b] ta da)
    (hw : swappedStores [.Tuple [.Name x px, .Name y py] kt pt] (.Tuple [a, b] k2 pt2) X.env = pure (some [x, y]))
    (hs : swapsWithSole [.Tuple [.Name x px, .Name y py] kt pt] (.Tuple [a, b] k2 pt2) pos.line X.env = pure false := by rfl) :
    SS X (.Assign [.Tuple [.Name x px, .Name y py] kt pt] (.Tuple [a, b] k2 pt2) pos) (tPar i j ta) (dPar i j da) := by
  refine ⟨ps_par hc hN hi hj hij hx hy ha.pa hw hs, fun n ρ env st σ H d W hn rs re q w => ?_⟩
  refine ha.sim ρ env st σ H _ _ rs re q fun vs H1 ⟨ρ1, ds, st1, k1, r1, px, q1⟩ => ?_
  dsimp only at q1
  split at q1
  · obtain ⟨v, u, rfl, p1, p2⟩ := px.two
    exact ⟨v, u, rfl, w.nx _ H1 ρ1 _ st1 (k1.take n) r1 (((re.keep k1).set i p1).set j p2) q1⟩
  · exact q1.elim
/-- name op= e -/
structure SIp (X : Cx) (op : Operator) (r : TIp) (rd : DR2) : Prop where
  ip : PIp X op r
  sim : SimR2 X.K r rd
def dAug (i : Nat) (de : DTE) (rd : DR2) : DTS := fun _ d env st => match env[i]? with
  | some (some x) => de env st fun y st1 => rd x y st1 fun z st2 => d.nx (env.set i (some z)) st2
  | _ => False
theorem ss_aug {i : Nat} {x : Str} {e : Expr} {te : TE} {de : DTE} {op : Operator} {ti : TIp} {rd : DR2} {pos' : Pos} (hN : X.N.Nodup) (hi : X.N[i]? = some x) (hx : Loc X.env.scope x) (he : SE X e te de) (ho : SIp X op ti rd) (hf : X.fn x = true ∨ X.env.scope.names.lookup x = some .local := by first | exact .inl rfl | exact .inr rfl | assumption) :
    SS X (.AugAssign (.Name x pos') op e pos) (tAug i te ti) (dAug i de rd) := by
  refine ⟨ps_aug hN hi hx he.pe ho.ip hf, fun n ρ env st σ H d W hn rs re q w => ?_⟩
  unfold dAug at q
  split at q
  · rename_i dx e1
    obtain ⟨v, e2, px⟩ := re.get i dx e1
    refine ⟨v, e2, he.sim ρ env st σ H _ _ rs re q fun y H1 ⟨ρ1, dy, st1, k1, r1, py, q1⟩ => ?_⟩
    refine ho.sim ρ1 st1 H1 v y dx dy _ _ r1 (px.keep k1) py q1 fun z H2 ⟨ρ2, dz, st2, k2, r2, pz, q2⟩ => ?_
    exact w.nx _ H2 ρ2 _ st2 ((k1.trans k2).take n) r2 (((re.keep k1).keep k2).set i pz) q2
  · exact q.elim
theorem si_add : SIp X .Add (ipI fun i j => i + j) (dI0 fun i j => .int (i + j)) := ⟨ip_add, sim_i0⟩
theorem si_sub : SIp X .Sub (ipI fun i j => i - j) (dI0 fun i j => .int (i - j)) := ⟨ip_sub, sim_i0⟩
end

/-! ### what is walked -/
structure WalksD (K : PySem.W.Frag) (ρ : List Addr) (H : Hp) (J : It) (items : List D) (ok : Store → Prop) : Prop where
  go : ∀ i ρ' H' st', i < items.length → Keep ρ ρ' H H' → RelS K ρ' H' st' → ok st' → J.go i H'
  yld : ∀ i x ρ' H' H2 st', i < items.length → Keep ρ ρ' H H' → RelS K ρ' H' st' → ok st' → J.yld i H' x H2 → Same H' H2 ∧ ∃ d, items[i]? = some d ∧ Rep K ρ' H2 d x
  stop : ∀ i ρ' H' st', items.length ≤ i → Keep ρ ρ' H H' → RelS K ρ' H' st' → ok st' → J.stop i H'
abbrev DTI := DEnv → Store → (List D → (Store → Prop) → Store → Prop) → Prop
def SimI (K : PySem.W.Frag) (wi : TI) (di : DTI) : Prop := ∀ ρ env st σ H (R : List D → (Store → Prop) → Store → Prop) (W : It → Hp → Prop), RelS K ρ H st → RelE K ρ H env σ → di env st R →
  (∀ J H' ρ' items ok st', Keep ρ ρ' H H' → RelS K ρ' H' st' → WalksD K ρ' H' J items ok → R items ok st' → W J H') → wi σ H W
structure SI (X : Cx) (tg e : Expr) (wi : TI) (di : DTI) : Prop where
  pi : PI X tg e wi
  sim : SimI X.K wi di
theorem same_keep {ρ : List Addr} {H H' : Hp} (s : Same H H') : Keep ρ ρ H H' := ⟨⟨[], by simp⟩, fun a xs h => s a _ h, fun a o u h => s a _ h⟩
theorem RelS.same {K : PySem.W.Frag} {ρ : List Addr} {H H' : Hp} {st : Store} (r : RelS K ρ H st) (s : Same H H') : RelS K ρ H' st :=
  ⟨r.len, r.nd, fun k o e => let ⟨a, e2, q⟩ := r.ob k o e; ⟨a, e2, repO_keep q (same_keep s) fun u h => s a u h⟩⟩
/-- a list, a tuple or a text is walked -/
def okOf (x : D) (items : List D) : Store → Prop := fun st => match x with
  | .ref k => st[k]? = some (.lst items)
  | _ => True
def dItems (st : Store) (x : D) : Option (List D) := match x with
  | .tup xs => some xs
  | .rol xs => some xs
  | .ref k => match st[k]? with
    | some (.lst xs) => some xs
    | _ => none
  | .str z => some (z.cps.toList.map fun c => D.str ⟨#[c]⟩)
  | _ => none
def dIter (de : DTE) : DTI := fun env st R => de env st fun x st1 => match dItems st1 x with
  | some items => R items (okOf x items) st1
  | none => False
def dIterRev (de : DTE) : DTI := fun env st R => de env st fun x st1 => match x with
  | .str _ => False
  | _ => match dItems st1 x with
    | some items => R items.reverse (okOf x items) st1
    | none => False
def iSeq (K : PySem.W.Frag) (te : TE) : TI := fun σ H R => te σ H fun x H1 => (∃ a, x = .ref a ∧ ((∃ xs, SqL K H1 a xs) ∧ R (Itl K a) H1 ∨ (∃ xs, SqT K H1 a xs) ∧ R (Itt K a) H1)) ∨ ∃ z, x = .str z ∧ R (Its z) H1
theorem pi_seq {X : Cx} {tg l : Expr} {tl : TE} (hl : PE X l tl) : PI X tg l (iSeq X.K tl) := by
  refine ⟨fun pins s σ H R I h => ?_⟩
  refine thn (hl.run pins s σ H _ I h) fun v s1 ⟨x, H1, I1, r1, q1⟩ => ?_
  rcases q1 with ⟨a, rfl, ⟨⟨xs, hq⟩, q⟩ | ⟨⟨xs, hq⟩, q⟩⟩ | ⟨z, rfl, q⟩
  · cases r1
    obtain ⟨its, rv, p, hz⟩ := I1.list hq
    refine PySem.wpAny_pyIter_list p.isList ?_
    refine ⟨s1.heap.objs.size, [s1.heap.objs.size], _, _, H1, rfl, I1.kept (t' := s1.toks) fun b o e => Heap.get?_push_of_some _ e, turn_list a _, ⟨_, Heap.get?_push_size _ rfl, rfl, rfl⟩, fun b hb => ?_, q⟩
    have e : b = s1.heap.objs.size := by simpa using hb
    subst e
    exact I1.fpOk (Nat.le_refl _) (I1.hok.fresh (Nat.le_refl _))
  · cases r1
    obtain ⟨its, rv, p, hz⟩ := I1.tuple hq
    refine PySem.wpAny_pyIter_tuple (show s1.heap.IsTuple a its.toArray from p) ?_
    refine ⟨s1.heap.objs.size, [s1.heap.objs.size], _, _, H1, rfl, I1.kept (t' := s1.toks) fun b o e => Heap.get?_push_of_some _ e, turn_tuple a _, ⟨_, Heap.get?_push_size _ rfl, rfl, rfl⟩, fun b hb => ?_, q⟩
    have e : b = s1.heap.objs.size := by simpa using hb
    subst e
    exact I1.fpOk (Nat.le_refl _) (I1.hok.fresh (Nat.le_refl _))
  · obtain ⟨t, rfl⟩ := r1
    cases ha : z.cps.all (· < 128)
    · exact wpAny_pyIter_wide ha (pi_one (tk := s1.toks) I1 _ (turn_str _ z t "str_iterator" (.inr rfl)) ⟨_, Heap.get?_push_size _ rfl, rfl, rfl⟩ q)
    · exact wpAny_pyIter_ascii ha (pi_one (tk := s1.toks) I1 _ (turn_str _ z t "str_ascii_iterator" (.inl rfl)) ⟨_, Heap.get?_push_size _ rfl, rfl, rfl⟩ q)
section
variable {K : PySem.W.Frag} {ρ : List Addr} {H : Hp}
/-- where the walked list stands at each turn: items by a rule -/
theorem walks_at {a : Addr} {x : D} {items : List D} {st : Store} (r : RelS K ρ H st) (px : Rep K ρ H x (.ref a)) (e : dItems st x = some items) (hx : ∀ z, x ≠ .str z) :
    (∃ vs, SqL K H a vs ∧ ∀ ρ' H' st', Keep ρ ρ' H H' → RelS K ρ' H' st' → okOf x items st' → ∃ vs', SqL K H' a vs' ∧ Reps K ρ' H' items vs') ∨
    (∃ vs, SqT K H a vs ∧ ∀ ρ' H' st', Keep ρ ρ' H H' → RelS K ρ' H' st' → okOf x items st' → ∃ vs', SqT K H' a vs' ∧ Reps K ρ' H' items vs') := by
  cases x with
  | tup xs =>
    cases e
    obtain ⟨b, vs, e2, hs, hr⟩ := rep_tup px
    cases e2
    exact .inr ⟨vs, hs, fun ρ' H' st' k _ _ => ⟨vs, k.sqt hs, hr.keep k⟩⟩
  | rol xs =>
    cases e
    obtain ⟨b, vs, e2, hs, hr⟩ := rep_rol px
    cases e2
    exact .inl ⟨vs, sqf_l hs, fun ρ' H' st' k _ _ => ⟨vs, sqf_l (k.sqf hs), hr.keep k⟩⟩
  | ref n =>
    obtain ⟨b, hb, e2⟩ := rep_ref px
    cases e2
    unfold dItems at e
    dsimp only at e
    split at e
    · rename_i xs e3
      cases e
      obtain ⟨vs, hv, hr⟩ := r.lst hb e3
      refine .inl ⟨vs, SqL.of hv, fun ρ' H' st' k rs' ok => ?_⟩
      obtain ⟨ws, hw, hr2⟩ := rs'.lst (k.get hb) ok
      exact ⟨ws, SqL.of hw, hr2⟩
    · cases e
  | str z => exact absurd rfl (hx z)
  | _ => cases e
theorem sim_iter {tl : TE} {de : DTE} (h : Sim K tl de) : SimI K (iSeq K tl) (dIter de) := by
  intro ρ env st σ H R W rs re q w
  refine h ρ env st σ H _ _ rs re q fun x H1 ⟨ρ1, dx, st1, k1, r1, px, q1⟩ => ?_
  dsimp only at q1
  split at q1
  · rename_i items e
    by_cases hx : ∃ z, dx = .str z
    · obtain ⟨z, rfl⟩ := hx
      obtain rfl := rep_str px
      cases e
      refine .inr ⟨z, rfl, w (Its z) H1 ρ1 _ _ st1 k1 r1 ⟨fun i ρ' H' st' hi _ _ _ => ?_, fun i x ρ' H' H2 st' hi k r _ y => ?_, fun i ρ' H' st' hi _ _ _ => ?_⟩ q1⟩
      · rw [List.length_map, Array.length_toList] at hi
        exact hi
      · obtain ⟨rfl, c, hc, rfl⟩ := y
        exact ⟨Same.refl _, .str ⟨#[c]⟩, by rw [List.getElem?_map, Array.getElem?_toList, hc]; rfl, .str _⟩
      · rw [List.length_map, Array.length_toList] at hi
        exact hi
    · have hx' : ∀ z, dx ≠ .str z := fun z e => hx ⟨z, e⟩
      have hv : ∃ a, x = .ref a := by
        cases dx with
        | tup xs => obtain ⟨a, vs, rfl, _⟩ := rep_tup px; exact ⟨a, rfl⟩
        | rol xs => obtain ⟨a, vs, rfl, _⟩ := rep_rol px; exact ⟨a, rfl⟩
        | ref xs => obtain ⟨a, _, rfl⟩ := rep_ref px; exact ⟨a, rfl⟩
        | str z => exact absurd rfl (hx' z)
        | _ => cases e
      obtain ⟨a, rfl⟩ := hv
      rcases walks_at r1 px e hx' with ⟨vs, hs, at_⟩ | ⟨vs, hs, at_⟩
      · refine .inl ⟨a, rfl, .inl ⟨⟨vs, hs⟩, w (Itl K a) H1 ρ1 _ _ st1 k1 r1 ⟨fun i ρ' H' st' hi k r ok => ?_, fun i x ρ' H' H2 st' hi k r ok y => ?_, fun i ρ' H' st' hi k r ok => ?_⟩ q1⟩⟩
        · obtain ⟨ws, hw, hr⟩ := at_ ρ' H' st' k r ok
          exact ⟨ws, ws[i]'(by rw [← hr.len]; exact hi), hw, List.getElem?_eq_getElem _⟩
        · obtain ⟨ws, hw, hr⟩ := at_ ρ' H' st' k r ok
          obtain ⟨rfl, hy⟩ := y
          obtain ⟨d, hd, rd⟩ := hr.get2 (hy ws hw)
          exact ⟨Same.refl _, d, hd, rd⟩
        · obtain ⟨ws, hw, hr⟩ := at_ ρ' H' st' k r ok
          exact ⟨ws, hw, by rw [← hr.len]; exact hi⟩
      · refine .inl ⟨a, rfl, .inr ⟨⟨vs, hs⟩, w (Itt K a) H1 ρ1 _ _ st1 k1 r1 ⟨fun i ρ' H' st' hi k r ok => ?_, fun i x ρ' H' H2 st' hi k r ok y => ?_, fun i ρ' H' st' hi k r ok => ?_⟩ q1⟩⟩
        · obtain ⟨ws, hw, hr⟩ := at_ ρ' H' st' k r ok
          exact ⟨ws, ws[i]'(by rw [← hr.len]; exact hi), hw, List.getElem?_eq_getElem _⟩
        · obtain ⟨ws, hw, hr⟩ := at_ ρ' H' st' k r ok
          obtain ⟨rfl, hy⟩ := y
          obtain ⟨d, hd, rd⟩ := hr.get2 (hy ws hw)
          exact ⟨Same.refl _, d, hd, rd⟩
        · obtain ⟨ws, hw, hr⟩ := at_ ρ' H' st' k r ok
          exact ⟨ws, hw, by rw [← hr.len]; exact hi⟩
  · exact q1.elim
theorem sim_iterRev {tl : TE} {de : DTE} (h : Sim K tl de) : SimI K (RT.iRevA K tl) (dIterRev de) := by
  intro ρ env st σ H R W rs re q w
  refine h ρ env st σ H _ _ rs re q fun x H1 ⟨ρ1, dx, st1, k1, r1, px, q1⟩ => ?_
  have hx' : ∀ z, dx ≠ .str z := fun z e => by subst e; exact q1
  have q1' : match dItems st1 dx with
    | some items => R items.reverse (okOf dx items) st1
    | none => False := by
    cases dx with
    | str z => exact absurd rfl (hx' z)
    | _ => exact q1
  split at q1'
  · rename_i items e
    have hv : ∃ a, x = .ref a := by
      cases dx with
      | tup xs => obtain ⟨a, vs, rfl, _⟩ := rep_tup px; exact ⟨a, rfl⟩
      | rol xs => obtain ⟨a, vs, rfl, _⟩ := rep_rol px; exact ⟨a, rfl⟩
      | ref xs => obtain ⟨a, _, rfl⟩ := rep_ref px; exact ⟨a, rfl⟩
      | str z => exact absurd rfl (hx' z)
      | _ => cases e
    obtain ⟨a, rfl⟩ := hv
    have ok1 : okOf dx items st1 := by
      cases dx with
      | ref n =>
        unfold dItems at e
        dsimp only at e
        split at e
        · rename_i xs e3
          cases e
          exact e3
        · cases e
      | _ => trivial
    have rget : ∀ {ws : List V} {i : Nat} {x : V} {ρ' : List Addr} {H' : Hp}, Reps K ρ' H' items ws → i < ws.length → ws[ws.length - 1 - i]? = some x → ∃ d, items.reverse[i]? = some d ∧ Rep K ρ' H' d x := fun {ws i x ρ' H'} hr hi hx => by
      obtain ⟨d, hd, rd⟩ := hr.get2 hx
      refine ⟨d, ?_, rd⟩
      rw [List.getElem?_reverse (by rw [hr.len]; exact hi), hr.len]
      exact hd
    rcases walks_at r1 px e hx' with ⟨vs, hs, at_⟩ | ⟨vs, hs, at_⟩
    · obtain ⟨us, hu, ru⟩ := at_ ρ1 H1 st1 Keep.refl r1 ok1
      refine ⟨a, us, rfl, .inl ⟨hu, w (Itv K a us.length) H1 ρ1 _ _ st1 k1 r1 ⟨fun i ρ' H' st' hi k r ok => ?_, fun i x ρ' H' H2 st' hi k r ok y => ?_, fun i ρ' H' st' hi k r ok => ?_⟩ q1'⟩⟩
      · obtain ⟨ws, hw, hr⟩ := at_ ρ' H' st' k r ok
        have e1 := ru.len
        have e2 := hr.len
        rw [List.length_reverse] at hi
        exact ⟨by omega, ws, ws[us.length - 1 - i]'(by omega), hw, List.getElem?_eq_getElem _⟩
      · obtain ⟨ws, hw, hr⟩ := at_ ρ' H' st' k r ok
        obtain ⟨rfl, hy⟩ := y
        have e1 := ru.len
        have e2 := hr.len
        rw [List.length_reverse] at hi
        exact ⟨Same.refl _, rget hr (by omega) (by rw [← e2, e1]; exact hy ws hw)⟩
      · have e1 := ru.len
        rw [List.length_reverse] at hi
        show us.length ≤ i
        omega
    · obtain ⟨us, hu, ru⟩ := at_ ρ1 H1 st1 Keep.refl r1 ok1
      refine ⟨a, us, rfl, .inr ⟨hu, w (RT.ItvT K a us.length) H1 ρ1 _ _ st1 k1 r1 ⟨fun i ρ' H' st' hi k r ok => ?_, fun i x ρ' H' H2 st' hi k r ok y => ?_, fun i ρ' H' st' hi k r ok => ?_⟩ q1'⟩⟩
      · obtain ⟨ws, hw, hr⟩ := at_ ρ' H' st' k r ok
        have e1 := ru.len
        have e2 := hr.len
        rw [List.length_reverse] at hi
        exact ⟨by omega, ws, ws[us.length - 1 - i]'(by omega), hw, List.getElem?_eq_getElem _⟩
      · obtain ⟨ws, hw, hr⟩ := at_ ρ' H' st' k r ok
        obtain ⟨rfl, hy⟩ := y
        have e1 := ru.len
        have e2 := hr.len
        rw [List.length_reverse] at hi
        exact ⟨Same.refl _, rget hr (by omega) (by rw [← e2, e1]; exact hy ws hw)⟩
      · have e1 := ru.len
        rw [List.length_reverse] at hi
        show us.length ≤ i
        omega
  · exact q1'.elim
end
end DL

namespace DL
open PySem PySem.Spec L2

section
variable {X : Cx} {tg e : Expr} {te : TE} {de : DTE} {p pos : Pos}
theorem si_iter {K : PySem.W.Frag} [hk : HasK X K] (h : SE X e te de) : SI X tg e (iSeq K te) (dIter de) := by
  obtain rfl := hk.eq
  exact ⟨pi_seq h.pe, sim_iter h.sim⟩
theorem si_rev {K : PySem.W.Frag} [hk : HasK X K] (hg : Gl X "reversed") (hm : X.mg "reversed" = none) (h : SE X e te de) (hs : starEach [e] X.env = (false, eval e X.env) :: starEach [] X.env := by rfl) : SI X tg (.Call (.Name "reversed" p) [e] [] pos) (RT.iRevA K te) (dIterRev de) := by
  obtain rfl := hk.eq
  exact ⟨RT.pi_revA hg hm h.pe hs, sim_iterRev h.sim⟩
end
/-! ### ranges -/
def rangeD (lo : Int) : Nat → List D
  | 0 => []
  | n + 1 => .int lo :: rangeD (lo + 1) n
theorem rangeD_len : ∀ (n : Nat) (lo : Int), (rangeD lo n).length = n
  | 0, _ => rfl
  | n + 1, lo => by rw [rangeD, List.length_cons, rangeD_len n]
theorem rangeD_get : ∀ (n : Nat) (lo : Int) (i : Nat), i < n → (rangeD lo n)[i]? = some (.int (lo + i))
  | 0, _, i, h => absurd h (Nat.not_lt_zero i)
  | n + 1, lo, 0, _ => by
    rw [rangeD]
    simp
  | n + 1, lo, i + 1, h => by
    rw [rangeD, List.getElem?_cons_succ, rangeD_get n (lo + 1) i (by omega)]
    congr 2
    omega
theorem walks_range {K : PySem.W.Frag} {ρ : List Addr} {H : Hp} (lo : Int) (n : Nat) : WalksD K ρ H (Itr lo n) (rangeD lo n) fun _ => True :=
  ⟨fun i ρ' H' st' hi _ _ _ => by rw [rangeD_len] at hi; exact hi, fun i x ρ' H' H2 st' hi _ _ _ y => by
    obtain ⟨rfl, rfl⟩ := y
    rw [rangeD_len] at hi
    exact ⟨Same.refl _, _, rangeD_get n lo i hi, .int _⟩, fun i ρ' H' st' hi _ _ _ => by rw [rangeD_len] at hi; exact hi⟩
def dRng1 (da : DTA) : DTI := fun env st R => da env st fun xs st1 => match xs with
  | [.int j] => (-(2 ^ 62) ≤ j ∧ j < 2 ^ 62) ∧ R (rangeD 0 j.toNat) (fun _ => True) st1
  | _ => False
def dRng2 (da : DTA) : DTI := fun env st R => da env st fun xs st1 => match xs with
  | [.int i, .int j] => (-(2 ^ 62) ≤ i ∧ i < 2 ^ 62 ∧ -(2 ^ 62) ≤ j ∧ j < 2 ^ 62) ∧ R (rangeD i (j - i).toNat) (fun _ => True) st1
  | _ => False
section
variable {X : Cx} {tg a b : Expr} {ta : TA} {da : DTA} {p pos : Pos}
theorem si_range1 (hg : Gl X "range") (hm : X.mg "range" = none) (h : SA X [a] ta da) (hs : starEach [a] X.env = [(false, eval a X.env)] := by rfl) : SI X tg (.Call (.Name "range" p) [a] [] pos) (iRng1 ta) (dRng1 da) := by
  refine ⟨pi_range1 hg hm h.pa hs, fun ρ env st σ H R W rs re q w => ?_⟩
  refine h.sim ρ env st σ H _ _ rs re q fun vs H1 ⟨ρ1, ds, st1, k1, r1, px, q1⟩ => ?_
  dsimp only at q1
  split at q1
  · rename_i j
    obtain ⟨v, rfl, pv⟩ := px.one
    obtain rfl := rep_int pv
    exact ⟨j, rfl, q1.1.1, q1.1.2, w _ H1 ρ1 _ _ st1 k1 r1 (walks_range 0 _) q1.2⟩
  · exact q1.elim
theorem si_range2 (hg : Gl X "range") (hm : X.mg "range" = none) (h : SA X [a, b] ta da) (hs : starEach [a, b] X.env = [(false, eval a X.env), (false, eval b X.env)] := by rfl) (hs2 : starEach [b] X.env = [(false, eval b X.env)] := by rfl) : SI X tg (.Call (.Name "range" p) [a, b] [] pos) (iRng2 ta) (dRng2 da) := by
  refine ⟨pi_range2 hg hm h.pa hs hs2, fun ρ env st σ H R W rs re q w => ?_⟩
  refine h.sim ρ env st σ H _ _ rs re q fun vs H1 ⟨ρ1, ds, st1, k1, r1, px, q1⟩ => ?_
  dsimp only at q1
  split at q1
  · rename_i i j
    obtain ⟨v, u, rfl, pv, pu⟩ := px.two
    obtain rfl := rep_int pv
    obtain rfl := rep_int pu
    exact ⟨i, j, rfl, q1.1, w _ H1 ρ1 _ _ st1 k1 r1 (walks_range i _) q1.2⟩
  · exact q1.elim
end

/-! ### for -/
def dLoop (dg : DTG) (tb : DTS) (m : Nat) (d : DEnds) (ok : Store → Prop) : List D → DEnv → Store → Prop
  | [] => fun env st => ok st ∧ d.nx env st
  | x :: r => fun env st => ok st ∧ dg x env st fun env' st' => tb m { d with nx := dLoop dg tb m d ok r, ct := dLoop dg tb m d ok r, bk := d.nx } env' st'
def dFor (di : DTI) (dg : DTG) (tb : DTS) : DTS := fun _ d env st => di env st fun items ok st1 => dLoop dg tb st1.length d ok items env st1
theorem dLoop_ok {dg : DTG} {tb : DTS} {m : Nat} {d : DEnds} {ok : Store → Prop} {items : List D} {env : DEnv} {st : Store} (h : dLoop dg tb m d ok items env st) : ok st := by
  cases items <;> exact h.1
theorem sim_for {K : PySem.W.Frag} {wi : TI} {g : TG} {t : TS} {di : DTI} {dg : DTG} {tb : DTS} (hi : SimI K wi di) (hg : SimG K g dg) (hb : SimS K t tb) : SimS K (tFor wi g t) (dFor di dg tb) := by
  intro n ρ env st σ H d W hn rs re q w
  refine hi ρ env st σ H _ _ rs re q fun J H1 ρ1 items ok st1 k1 r1 wk q1 => ?_
  -- the anchor: the loop's beginning
  have kn : Keep (ρ.take n) ρ1 H H1 := k1.take n
  refine ⟨fun i m σ' H' => m = items.length - i ∧ i ≤ items.length ∧ ∃ ρ' env' st', Keep ρ1 ρ' H1 H' ∧ RelS K ρ' H' st' ∧ RelE K ρ' H' env' σ' ∧ dLoop dg tb st1.length d ok (items.drop i) env' st',
    ⟨items.length, rfl, Nat.zero_le _, ρ1, env, st1, Keep.refl, r1, re.keep k1, q1⟩, fun i m σ' H' hW => ?_⟩
  obtain ⟨rfl, hi, ρ', env', st', k', rs', re', q'⟩ := hW
  by_cases hlt : i < items.length
  · refine .inr ⟨wk.go i ρ' H' st' hlt k' rs' (dLoop_ok q'), fun σ2 H2 => i + 1 ≤ items.length ∧ ∃ ρ2 env2 st2, Keep ρ1 ρ2 H1 H2 ∧ RelS K ρ2 H2 st2 ∧ RelE K ρ2 H2 env2 σ2 ∧ dLoop dg tb st1.length d ok (items.drop (i + 1)) env2 st2, fun σ2 H2 h2 => ?_, fun x H2 hy => ?_⟩
    · exact ⟨items.length - (i + 1), by omega, rfl, h2⟩
    · have hok := dLoop_ok q'
      obtain ⟨sm, dx, hd, rd⟩ := wk.yld i x ρ' H' H2 st' hlt k' rs' hok hy
      rw [List.drop_eq_getElem_cons hlt] at q'
      have e : items[i] = dx := by
        rw [List.getElem?_eq_getElem hlt] at hd
        exact Option.some.inj hd
      rw [e] at q'
      obtain ⟨_, q'⟩ := q'
      have k2 : Keep ρ' ρ' H' H2 := same_keep sm
      refine hg ρ' env' st' σ' H2 x dx _ _ (rs'.same sm) (re'.keep k2) rd q' fun σ3 H3 ρ3 env3 st3 k3 rs3 re3 q3 => ?_
      have k13 : Keep ρ1 ρ3 H1 H3 := (k'.trans k2).trans k3
      have hl : st1.length ≤ ρ3.length := by rw [← r1.len]; exact k13.len
      have e3 : ρ3.take st1.length = ρ1 := by
        obtain ⟨t, rfl⟩ := k13.pre
        rw [← r1.len, List.take_append_of_le_length (Nat.le_refl _), List.take_length]
      have k31 : ∀ {ρ4 : List Addr} {H4 : Hp}, Keep (ρ3.take st1.length) ρ4 H3 H4 → Keep ρ1 ρ4 H1 H4 := fun {ρ4 H4} k4 => by
        rw [e3] at k4
        exact ⟨k4.pre, fun a xs h => k4.tups a xs (k13.tups a xs h), fun a o u h => k4.frzs a o u (k13.frzs a o u h)⟩
      refine hb st1.length ρ3 env3 st3 σ3 H3 _ _ hl rs3 re3 q3 ⟨fun σ4 H4 ρ4 env4 st4 k4 rs4 re4 q4 => ?_, fun v H4 ρ4 y st4 k4 rs4 re4 q4 => ?_, fun σ4 H4 ρ4 env4 st4 k4 rs4 re4 q4 => ?_, fun σ4 H4 ρ4 env4 st4 k4 rs4 re4 q4 => ?_⟩
      · exact ⟨hlt, ρ4, env4, st4, k31 k4, rs4, re4, q4⟩
      · exact w.rt v H4 ρ4 y st4 (kn.trans (k31 k4)) rs4 re4 q4
      · exact w.nx σ4 H4 ρ4 env4 st4 (kn.trans (k31 k4)) rs4 re4 q4
      · exact ⟨hlt, ρ4, env4, st4, k31 k4, rs4, re4, q4⟩
  · have e : items.drop i = [] := List.drop_eq_nil_of_le (by omega)
    have hok := dLoop_ok q'
    rw [e] at q'
    exact .inl ⟨wk.stop i ρ' H' st' (by omega) k' rs' hok, w.nx σ' H' ρ' env' st' (kn.trans k') rs' re' q'.2⟩
/-! ### while -/
def dWh (c : DTT) (tb : DTS) (n : Nat) (d : DEnds) : Nat → DEnv → Store → Prop
  | 0 => fun _ _ => False
  | f + 1 => fun env st => c env st fun b st1 => if b = true then tb n { d with nx := dWh c tb n d f, ct := dWh c tb n d f, bk := d.nx } env st1 else d.nx env st1
def dWhile (c : DTT) (tb : DTS) : DTS := fun n d env st => ∃ f, dWh c tb n d f env st
theorem sim_while {K : PySem.W.Frag} {tc : TT} {t : TS} {c : DTT} {tb : DTS} (hc : SimT K tc c) (hb : SimS K t tb) : SimS K (tWhile tc t) (dWhile c tb) := by
  intro n ρ env st σ H d W hn rs re q w
  obtain ⟨f0, q⟩ := q
  refine ⟨fun m σ' H' => ∃ ρ' env' st', Keep (ρ.take n) ρ' H H' ∧ RelS K ρ' H' st' ∧ RelE K ρ' H' env' σ' ∧ dWh c tb n d m env' st', ⟨f0, ρ, env, st, Keep.of_take hn, rs, re, q⟩, fun m σ' H' hW => ?_⟩
  obtain ⟨ρ', env', st', k', rs', re', q'⟩ := hW
  cases m with
  | zero => exact q'.elim
  | succ f =>
    refine hc ρ' env' st' σ' H' _ _ rs' re' q' fun b H2 ⟨ρ2, st2, k2, rs2, q2⟩ => ?_
    have k12 := k'.trans k2
    cases b with
    | false =>
      rw [if_neg Bool.false_ne_true] at q2 ⊢
      exact w.nx σ' H2 ρ2 env' st2 k12 rs2 (re'.keep k2) q2
    | true =>
      rw [if_pos rfl] at q2 ⊢
      refine ⟨fun σ3 H3 => ∃ ρ3 env3 st3, Keep (ρ.take n) ρ3 H H3 ∧ RelS K ρ3 H3 st3 ∧ RelE K ρ3 H3 env3 σ3 ∧ dWh c tb n d f env3 st3, fun σ3 H3 h3 => ⟨f, Nat.lt_succ_self f, h3⟩, ?_⟩
      have hl : n ≤ ρ2.length := by
        have := k12.len
        rw [List.length_take] at this
        omega
      have e2 : ρ2.take n = ρ.take n := by
        obtain ⟨t, rfl⟩ := k12.pre
        rw [List.take_append_of_le_length (by rw [List.length_take]; omega), List.take_take, Nat.min_self]
      have kk : ∀ {ρ4 : List Addr} {H4 : Hp}, Keep (ρ2.take n) ρ4 H2 H4 → Keep (ρ.take n) ρ4 H H4 := fun {ρ4 H4} k4 => by
        rw [e2] at k4
        exact ⟨k4.pre, fun a xs h => k4.tups a xs (k12.tups a xs h), fun a o u h => k4.frzs a o u (k12.frzs a o u h)⟩
      exact hb n ρ2 env' st2 σ' H2 _ _ hl rs2 (re'.keep k2) q2 ⟨fun σ4 H4 ρ4 env4 st4 k4 rs4 re4 q4 => ⟨ρ4, env4, st4, kk k4, rs4, re4, q4⟩, fun v H4 ρ4 y st4 k4 rs4 re4 q4 => w.rt v H4 ρ4 y st4 (kk k4) rs4 re4 q4,
        fun σ4 H4 ρ4 env4 st4 k4 rs4 re4 q4 => w.nx σ4 H4 ρ4 env4 st4 (kk k4) rs4 re4 q4, fun σ4 H4 ρ4 env4 st4 k4 rs4 re4 q4 => ⟨ρ4, env4, st4, kk k4, rs4, re4, q4⟩⟩
section
variable {X : Cx} {pos : Pos}
theorem ss_for {tg iter : Expr} {body : List Stmt} {wi : TI} {g : TG} {t : TS} {di : DTI} {dg : DTG} {tb : DTS} (hp : PassesOwn (model X.prog X.w) X.A X.env X.xe) (hc : X.calm = true) (hi : SI X tg iter wi di) (hg : SG X tg g dg) (hb : SSs X body t tb)
    (hs : ∀ x, foldedSetIterable iter X.env x = pure x := by intro _; rfl) : SS X (.For tg iter body [] pos) (tFor wi g t) (dFor di dg tb) := ⟨ps_for hp hc hi.pi hg.pg hb.pss hs, sim_for hi.sim hg.sim hb.sim⟩
theorem ss_while {c : Expr} {body : List Stmt} {tc : TT} {t : TS} {dc : DTT} {tb : DTS} (hp : PassesOwn (model X.prog X.w) X.A X.env X.xe) (hc : ST X c tc dc) (hb : SSs X body t tb) : SS X (.While c body [] pos) (tWhile tc t) (dWhile dc tb) := ⟨ps_while hp hc.pt hb.pss, sim_while hc.sim hb.sim⟩
end

/-! ### list comprehensions -/
def dwipe (env : DEnv) : List Nat → DEnv
  | [] => env
  | v :: vs => (dwipe env vs).set v none
theorem relE_wipe {K : PySem.W.Frag} {ρ : List Addr} {H : Hp} {env : DEnv} {σ : L2.St} (r : RelE K ρ H env σ) : ∀ vs : List Nat, RelE K ρ H (dwipe env vs) (wipe σ vs)
  | [] => r
  | v :: vs => by
    have ih := relE_wipe r vs
    unfold dwipe wipe
    refine ⟨by rw [List.length_set, List.length_set, ih.len], fun i d e => ?_⟩
    by_cases hi : v = i
    · subst hi
      by_cases hv : v < (dwipe env vs).length
      · rw [List.getElem?_set_self hv] at e
        cases e
      · rw [List.getElem?_eq_none (by rw [List.length_set]; omega)] at e
        cases e
    · rw [List.getElem?_set_ne hi] at e ⊢
      exact ih.get i d e
structure STs (X : Cx) (ifs : List Expr) (t : TT) (dt : DTT) : Prop where
  pts : PTs X ifs t
  sim : SimT X.K t dt
def dYes : DTT := fun _ st Q => Q true st
theorem sts_nil {X : Cx} : STs X [] tYes dYes := ⟨pts_nil, fun ρ env st σ H Q W rs re q w => w true H ⟨ρ, st, Keep.refl, rs, q⟩⟩
theorem sts_one {X : Cx} {c : Expr} {t : TT} {dt : DTT} (h : ST X c t dt) : STs X [c] t dt := ⟨pts_one h.pt, h.sim⟩
/-- a target that stores only the names at vs -/
def Own (g : TG) (vs : List Nat) : Prop := ∀ x σ H (W : L2.St → Hp → Prop), g x σ H W → g x σ H fun σ2 H2 => wipe σ2 vs = wipe σ vs ∧ W σ2 H2
def OwnS (g : TGs) (vs : List Nat) : Prop := ∀ xs σ H (W : L2.St → Hp → Prop), g xs σ H W → g xs σ H fun σ2 H2 => wipe σ2 vs = wipe σ vs ∧ W σ2 H2
theorem wipe_get {σ : L2.St} {j : Nat} : ∀ {vs : List Nat}, (wipe σ vs)[j]? = if j ∈ vs ∧ j < σ.length then some none else σ[j]?
  | [] => by simp [wipe]
  | v :: vs => by
    have ih := wipe_get (σ := σ) (j := j) (vs := vs)
    unfold wipe
    by_cases hv : v = j
    · subst hv
      by_cases hl : v < σ.length
      · rw [List.getElem?_set_self (by rw [wipe_length]; exact hl), if_pos ⟨List.mem_cons_self, hl⟩]
      · rw [List.getElem?_eq_none (by rw [List.length_set, wipe_length]; omega), if_neg (fun z => hl z.2), List.getElem?_eq_none (by omega)]
    · rw [List.getElem?_set_ne hv, ih]
      by_cases hm : j ∈ vs ∧ j < σ.length
      · rw [if_pos hm, if_pos ⟨List.mem_cons_of_mem _ hm.1, hm.2⟩]
      · rw [if_neg hm, if_neg]
        rintro ⟨z, z2⟩
        rcases List.mem_cons.mp z with z | z
        · exact hv z.symm
        · exact hm ⟨z, z2⟩
theorem wipe_set {σ : L2.St} {i : Nat} {v : Option V} {vs : List Nat} (h : i ∈ vs) : wipe (σ.set i v) vs = wipe σ vs := by
  apply List.ext_getElem?
  intro j
  rw [wipe_get, wipe_get, List.length_set]
  by_cases hj : j ∈ vs ∧ j < σ.length
  · rw [if_pos hj, if_pos hj]
  · rw [if_neg hj, if_neg hj]
    by_cases e : i = j
    · subst e
      have : ¬ i < σ.length := fun z => hj ⟨h, z⟩
      rw [List.getElem?_eq_none (by rw [List.length_set]; omega), List.getElem?_eq_none (by omega)]
    · rw [List.getElem?_set_ne e]
theorem wipe_wipe {σ : L2.St} {vs : List Nat} : wipe (wipe σ vs) vs = wipe σ vs := by
  apply List.ext_getElem?
  intro j
  rw [wipe_get, wipe_get, wipe_length]
  by_cases hj : j ∈ vs ∧ j < σ.length
  · rw [if_pos hj, if_pos hj]
  · rw [if_neg hj, if_neg hj]
theorem own_name {i : Nat} {vs : List Nat} (h : i ∈ vs) : Own (gName i) vs := fun x σ H W q => ⟨wipe_set h, q⟩
theorem owns_nil {vs : List Nat} : OwnS gNil vs := fun xs σ H W q => ⟨q.1, rfl, q.2⟩
theorem owns_cons {t : TG} {u : TGs} {vs : List Nat} (mono : ∀ x σ H W W', (∀ σ2 H2, W σ2 H2 → W' σ2 H2) → t x σ H W → t x σ H W') (ht : Own t vs) (hu : OwnS u vs) : OwnS (gCons t u) vs := by
  intro xs σ H W q
  obtain ⟨v, r, e, q⟩ := q
  refine ⟨v, r, e, ?_⟩
  have q2 := ht v σ H _ q
  refine mono v σ H _ _ (fun σ2 H2 ⟨e1, q3⟩ => ?_) q2
  have q4 := hu r σ2 H2 W q3
  rw [e1] at q4
  exact q4
theorem mono_name {i : Nat} : ∀ x σ H W W', (∀ σ2 H2, W σ2 H2 → W' σ2 H2) → gName i x σ H W → gName i x σ H W' := fun _ _ _ _ _ m q => m _ _ q
theorem own_tup {K : PySem.W.Frag} {n : Nat} {t : TGs} {vs : List Nat} (ht : OwnS t vs) : Own (gTup K n t) vs := fun x σ H W ⟨a, xs, e, hs, hl, q⟩ => ⟨a, xs, e, hs, hl, ht xs σ H W q⟩
/-- one more element -/
def dPut (k : Nat) (y : D) (st : Store) (nx : Store → Prop) : Prop := match st[k]? with
  | some (.lst acc) => acc.length < sizeLine ∧ nx (st.set k (.lst (acc ++ [y])))
  | _ => False
/-- the elements, from the left; the new list is the cell k -/
def dLcL (dg : DTG) (tt : DTT) (te : DTE) (ok : Store → Prop) (env : DEnv) (k : Nat) (fin : Store → Prop) : List D → Store → Prop
  | [] => fun st => ok st ∧ fin st
  | x :: r => fun st => ok st ∧ dg x env st fun env' st' => tt env' st' fun b st2 =>
      if b = true then te env' st2 fun y st3 => dPut k y st3 (dLcL dg tt te ok env k fin r) else dLcL dg tt te ok env k fin r st2
def dLc (di : DTI) (dg : DTG) (tt : DTT) (te : DTE) (vs : List Nat) : DTE := fun env st Q => di env st fun items ok st1 => dLcL dg tt te ok (dwipe env vs) st1.length (fun st2 => Q (.ref st1.length) st2) items (st1 ++ [.lst []])
theorem dLcL_ok {dg : DTG} {tt : DTT} {te : DTE} {ok : Store → Prop} {env : DEnv} {k : Nat} {fin : Store → Prop} {items : List D} {st : Store} (h : dLcL dg tt te ok env k fin items st) : ok st := by
  cases items <;> exact h.1
theorem sim_put {K : PySem.W.Frag} {ρ : List Addr} {H : Hp} {k : Nat} {p : Addr} {y : D} {v : V} {st : Store} {nx : Store → Prop} {W : Hp → Prop} (r : RelS K ρ H st) (hp : ρ[k]? = some p) (hv : Rep K ρ H y v) (h : dPut k y st nx)
    (w : ∀ H' st', Keep ρ ρ H H' → RelS K ρ H' st' → nx st' → W H') : ∃ acc, H p = some (.lst acc) ∧ acc.length < sizeLine ∧ W (upd H p (.lst (acc ++ [v]))) := by
  unfold dPut at h
  split at h
  · rename_i acc e
    obtain ⟨vs, hvs, hr⟩ := r.lst hp e
    exact ⟨vs, hvs, by rw [← hr.len]; exact h.1, w _ _ (keep_upd hvs) (r.put hp hvs (hr.app (.cons hv .nil))) h.2⟩
  · exact h.elim
theorem sim_lc {K : PySem.W.Frag} {wi : TI} {g : TG} {tt : TT} {te : TE} {di : DTI} {dg : DTG} {dt : DTT} {de : DTE} {vs : List Nat} (hi : SimI K wi di) (hg : SimG K g dg) (ho : Own g vs) (ht : SimT K tt dt) (he : Sim K te de) : Sim K (tLc wi g tt te vs) (dLc di dg dt de vs) := by
  intro ρ env st σ H Q W rs re q w
  refine hi ρ env st σ H _ _ rs re q fun J H1 ρ1 items ok st1 k1 r1 wk q1 => ?_
  intro p hp
  have kp : Keep ρ1 (ρ1 ++ [p]) H1 (upd H1 p (.lst [])) := keep_cell hp
  have gp : (ρ1 ++ [p])[st1.length]? = some p := by
    rw [List.getElem?_append_right (by rw [r1.len]; exact Nat.le_refl _), r1.len, Nat.sub_self]
    rfl
  refine ⟨fun i m H' => m = items.length - i ∧ i ≤ items.length ∧ ∃ ρ' st', Keep (ρ1 ++ [p]) ρ' (upd H1 p (.lst [])) H' ∧ RelS K ρ' H' st' ∧ dLcL dg dt de ok (dwipe env vs) st1.length (fun st2 => Q (.ref st1.length) st2) (items.drop i) st',
    ⟨items.length, rfl, Nat.zero_le _, _, _, Keep.refl, r1.cell hp Reps.nil, q1⟩, fun i m H' hW => ?_⟩
  obtain ⟨rfl, hi, ρ', st', k', rs', q'⟩ := hW
  have hok := dLcL_ok q'
  have kk := kp.trans k'
  have gp' := k'.get gp
  by_cases hlt : i < items.length
  · refine .inr ⟨wk.go i ρ' H' st' hlt kk rs' hok, fun H2 => ∃ ρ2 st2, Keep (ρ1 ++ [p]) ρ2 (upd H1 p (.lst [])) H2 ∧ RelS K ρ2 H2 st2 ∧ dLcL dg dt de ok (dwipe env vs) st1.length (fun st2 => Q (.ref st1.length) st2) (items.drop (i + 1)) st2,
      fun H2 h2 => ⟨items.length - (i + 1), by omega, rfl, hlt, h2⟩, fun x H2 hy => ?_⟩
    obtain ⟨sm, dx, hd, rd⟩ := wk.yld i x ρ' H' H2 st' hlt kk rs' hok hy
    rw [List.drop_eq_getElem_cons hlt] at q'
    have e : items[i] = dx := by
      rw [List.getElem?_eq_getElem hlt] at hd
      exact Option.some.inj hd
    rw [e] at q'
    obtain ⟨_, q'⟩ := q'
    have k2 : Keep ρ' ρ' H' H2 := same_keep sm
    have re2 : RelE K ρ' H2 (dwipe env vs) (wipe σ vs) := relE_wipe (((re.keep k1).keep kk).keep k2) vs
    have tgt := hg ρ' (dwipe env vs) st' (wipe σ vs) H2 x dx _ (fun σ3 H3 => tt σ3 H3 fun b H4 => if b = true then te σ3 H4 fun y H5 => ∃ acc, H5 p = some (.lst acc) ∧ acc.length < sizeLine ∧ ∃ ρ2 st2, Keep (ρ1 ++ [p]) ρ2 (upd H1 p (.lst [])) (upd H5 p (.lst (acc ++ [y]))) ∧ RelS K ρ2 (upd H5 p (.lst (acc ++ [y]))) st2 ∧ dLcL dg dt de ok (dwipe env vs) st1.length (fun st2 => Q (.ref st1.length) st2) (items.drop (i + 1)) st2 else ∃ ρ2 st2, Keep (ρ1 ++ [p]) ρ2 (upd H1 p (.lst [])) H4 ∧ RelS K ρ2 H4 st2 ∧ dLcL dg dt de ok (dwipe env vs) st1.length (fun st2 => Q (.ref st1.length) st2) (items.drop (i + 1)) st2)
      (rs'.same sm) re2 rd q' fun σ3 H3 ρ3 env3 st3 k3 rs3 re3 q3 => ?_
    · have := ho x (wipe σ vs) H2 _ tgt
      rw [wipe_wipe] at this
      exact this
    · refine ht ρ3 env3 st3 σ3 H3 _ _ rs3 re3 q3 fun b H4 ⟨ρ4, st4, k4, rs4, q4⟩ => ?_
      have k14 := ((k'.trans k2).trans k3).trans k4
      cases b with
      | false =>
        rw [if_neg Bool.false_ne_true] at q4 ⊢
        exact ⟨ρ4, st4, k14, rs4, q4⟩
      | true =>
        rw [if_pos rfl] at q4 ⊢
        refine he ρ4 env3 st4 σ3 H4 _ _ rs4 (re3.keep k4) q4 fun y H5 ⟨ρ5, dy, st5, k5, rs5, py, q5⟩ => ?_
        exact sim_put (W := fun Hz => ∃ ρ2 st2, Keep (ρ1 ++ [p]) ρ2 (upd H1 p (.lst [])) Hz ∧ RelS K ρ2 Hz st2 ∧ dLcL dg dt de ok (dwipe env vs) st1.length (fun st2 => Q (.ref st1.length) st2) (items.drop (i + 1)) st2) rs5 ((k14.trans k5).get gp) py q5 fun H6 st6 k6 rs6 q6 => ⟨ρ5, st6, (k14.trans k5).trans k6, rs6, q6⟩
  · have e : items.drop i = [] := List.drop_eq_nil_of_le (by omega)
    rw [e] at q'
    exact .inl ⟨wk.stop i ρ' H' st' (by omega) kk rs' hok, w _ H' ⟨ρ', .ref st1.length, st', k1.trans kk, rs', .ref gp', q'.2⟩⟩
/-! two clauses -/
/-- the inner loop's turns, then nx -/
def dLcI (dg : DTG) (tt : DTT) (te : DTE) (ok : Store → Prop) (env : DEnv) (k : Nat) (nx : Store → Prop) : List D → Store → Prop
  | [] => fun st => ok st ∧ nx st
  | x :: r => fun st => ok st ∧ dg x env st fun env' st' => tt env' st' fun b st2 =>
      if b = true then te env' st2 fun y st3 => dPut k y st3 (dLcI dg tt te ok env k nx r) else dLcI dg tt te ok env k nx r st2
def dLcO (dg : DTG) (tt : DTT) (di1 : DTI) (dg1 : DTG) (tt1 : DTT) (te : DTE) (vs1 : List Nat) (ok : Store → Prop) (env : DEnv) (k : Nat) (fin : Store → Prop) : List D → Store → Prop
  | [] => fun st => ok st ∧ fin st
  | x :: r => fun st => ok st ∧ dg x env st fun env' st' => tt env' st' fun b st2 =>
      if b = true then di1 env' st2 fun items1 ok1 st3 => dLcI dg1 tt1 te ok1 (dwipe env' vs1) k (dLcO dg tt di1 dg1 tt1 te vs1 ok env k fin r) items1 st3 else dLcO dg tt di1 dg1 tt1 te vs1 ok env k fin r st2
def dLc2 (di : DTI) (dg : DTG) (tt : DTT) (di1 : DTI) (dg1 : DTG) (tt1 : DTT) (te : DTE) (vs vs1 : List Nat) : DTE := fun env st Q => di env st fun items ok st1 => dLcO dg tt di1 dg1 tt1 te vs1 ok (dwipe env vs) st1.length (fun st2 => Q (.ref st1.length) st2) items (st1 ++ [.lst []])
theorem dLcO_ok {dg : DTG} {tt : DTT} {di1 : DTI} {dg1 : DTG} {tt1 : DTT} {te : DTE} {vs1 : List Nat} {ok : Store → Prop} {env : DEnv} {k : Nat} {fin : Store → Prop} {items : List D} {st : Store} (h : dLcO dg tt di1 dg1 tt1 te vs1 ok env k fin items st) : ok st := by
  cases items <;> exact h.1
theorem dLcI_ok {dg : DTG} {tt : DTT} {te : DTE} {ok : Store → Prop} {env : DEnv} {k : Nat} {fin : Store → Prop} {items : List D} {st : Store} (h : dLcI dg tt te ok env k fin items st) : ok st := by
  cases items <;> exact h.1
theorem sim_lc2 {K : PySem.W.Frag} {wi wi1 : TI} {g g1 : TG} {tt tt1 : TT} {te : TE} {di di1 : DTI} {dg dg1 : DTG} {dt dt1 : DTT} {de : DTE} {vs vs1 : List Nat} (hi : SimI K wi di) (hg : SimG K g dg) (ho : Own g vs) (ht : SimT K tt dt) (hi1 : SimI K wi1 di1) (hg1 : SimG K g1 dg1) (ho1 : Own g1 vs1) (ht1 : SimT K tt1 dt1) (he : Sim K te de) :
    Sim K (tLc2 wi g tt wi1 g1 tt1 te vs vs1) (dLc2 di dg dt di1 dg1 dt1 de vs vs1) := by
  intro ρ env st σ H Q W rs re q w
  refine hi ρ env st σ H _ _ rs re q fun J H1 ρ1 items ok st1 k1 r1 wk q1 => ?_
  intro p hp
  have kp : Keep ρ1 (ρ1 ++ [p]) H1 (upd H1 p (.lst [])) := keep_cell hp
  have gp : (ρ1 ++ [p])[st1.length]? = some p := by
    rw [List.getElem?_append_right (by rw [r1.len]; exact Nat.le_refl _), r1.len, Nat.sub_self]
    rfl
  let R : Nat → Hp → Prop := fun i H' => ∃ ρ' st', Keep (ρ1 ++ [p]) ρ' (upd H1 p (.lst [])) H' ∧ RelS K ρ' H' st' ∧ dLcO dg dt di1 dg1 dt1 de vs1 ok (dwipe env vs) st1.length (fun st2 => Q (.ref st1.length) st2) (items.drop i) st'
  refine ⟨fun i m H' => m = items.length - i ∧ i ≤ items.length ∧ R i H', ⟨items.length, rfl, Nat.zero_le _, _, _, Keep.refl, r1.cell hp Reps.nil, q1⟩, fun i m H' hW => ?_⟩
  obtain ⟨rfl, hi, ρ', st', k', rs', q'⟩ := hW
  have hok := dLcO_ok q'
  have kk := kp.trans k'
  have gp' := k'.get gp
  by_cases hlt : i < items.length
  · refine .inr ⟨wk.go i ρ' H' st' hlt kk rs' hok, R (i + 1), fun H2 h2 => ⟨items.length - (i + 1), by omega, rfl, hlt, h2⟩, fun x H2 hy => ?_⟩
    obtain ⟨sm, dx, hd, rd⟩ := wk.yld i x ρ' H' H2 st' hlt kk rs' hok hy
    rw [List.drop_eq_getElem_cons hlt] at q'
    have e : items[i] = dx := by
      rw [List.getElem?_eq_getElem hlt] at hd
      exact Option.some.inj hd
    rw [e] at q'
    obtain ⟨_, q'⟩ := q'
    have k2 : Keep ρ' ρ' H' H2 := same_keep sm
    have re2 : RelE K ρ' H2 (dwipe env vs) (wipe σ vs) := relE_wipe (((re.keep k1).keep kk).keep k2) vs
    have step : ∀ σ3 H3 ρ3 env3 st3, Keep ρ' ρ3 H2 H3 → RelS K ρ3 H3 st3 → RelE K ρ3 H3 env3 σ3 → (dt env3 st3 fun b st2 =>
        if b = true then di1 env3 st2 fun items1 ok1 st3 => dLcI dg1 dt1 de ok1 (dwipe env3 vs1) st1.length (dLcO dg dt di1 dg1 dt1 de vs1 ok (dwipe env vs) st1.length (fun st2 => Q (.ref st1.length) st2) (items.drop (i + 1))) items1 st3 else dLcO dg dt di1 dg1 dt1 de vs1 ok (dwipe env vs) st1.length (fun st2 => Q (.ref st1.length) st2) (items.drop (i + 1)) st2) →
        tt σ3 H3 fun b H3 => if b = true then wi1 σ3 H3 fun J1 H4 => ∃ W1 : Nat → Nat → Hp → Prop, (∃ m, W1 0 m H4) ∧ ∀ j k H, W1 j k H →
          (J1.stop j H ∧ R (i + 1) H) ∨ (J1.go j H ∧ ∃ Nx1 : Hp → Prop, (∀ H', Nx1 H' → ∃ k', k' < k ∧ W1 (j + 1) k' H') ∧ ∀ x H', J1.yld j H x H' → g1 x (wipe σ3 vs1) H' fun σ4 H5 => wipe σ4 vs1 = wipe σ3 vs1 ∧ tt1 σ4 H5 fun b H6 =>
            if b = true then te σ4 H6 fun y H7 => ∃ acc, H7 p = some (.lst acc) ∧ acc.length < sizeLine ∧ Nx1 (upd H7 p (.lst (acc ++ [y]))) else Nx1 H6) else R (i + 1) H3 := by
      intro σ3 H3 ρ3 env3 st3 k3 rs3 re3 q3
      refine ht ρ3 env3 st3 σ3 H3 _ _ rs3 re3 q3 fun b H4 ⟨ρ4, st4, k4, rs4, q4⟩ => ?_
      have k14 := ((k'.trans k2).trans k3).trans k4
      cases b with
      | false =>
        rw [if_neg Bool.false_ne_true] at q4 ⊢
        exact ⟨ρ4, st4, k14, rs4, q4⟩
      | true =>
        rw [if_pos rfl] at q4 ⊢
        refine hi1 ρ4 env3 st4 σ3 H4 _ _ rs4 (re3.keep k4) q4 fun J1 H5 ρ5 items1 ok1 st5 k5 r5 wk1 q5 => ?_
        have k15 := k14.trans k5
        let R1 : Nat → Hp → Prop := fun j H' => ∃ ρ' st', Keep ρ5 ρ' H5 H' ∧ RelS K ρ' H' st' ∧ dLcI dg1 dt1 de ok1 (dwipe env3 vs1) st1.length (dLcO dg dt di1 dg1 dt1 de vs1 ok (dwipe env vs) st1.length (fun st2 => Q (.ref st1.length) st2) (items.drop (i + 1))) (items1.drop j) st'
        refine ⟨fun j m H' => m = items1.length - j ∧ j ≤ items1.length ∧ R1 j H', ⟨items1.length, rfl, Nat.zero_le _, ρ5, st5, Keep.refl, r5, q5⟩, fun j m H' hW => ?_⟩
        obtain ⟨rfl, hj, ρ6, st6, k6, rs6, q6⟩ := hW
        have hok1 := dLcI_ok q6
        by_cases hjl : j < items1.length
        · refine .inr ⟨wk1.go j ρ6 H' st6 hjl k6 rs6 hok1, R1 (j + 1), fun H2 h2 => ⟨items1.length - (j + 1), by omega, rfl, hjl, h2⟩, fun x H7 hy => ?_⟩
          obtain ⟨sm1, dx1, hd1, rd1⟩ := wk1.yld j x ρ6 H' H7 st6 hjl k6 rs6 hok1 hy
          rw [List.drop_eq_getElem_cons hjl] at q6
          have e1 : items1[j] = dx1 := by
            rw [List.getElem?_eq_getElem hjl] at hd1
            exact Option.some.inj hd1
          rw [e1] at q6
          obtain ⟨_, q6⟩ := q6
          have k7 : Keep ρ6 ρ6 H' H7 := same_keep sm1
          have re7 : RelE K ρ6 H7 (dwipe env3 vs1) (wipe σ3 vs1) := relE_wipe ((((re3.keep k4).keep k5).keep k6).keep k7) vs1
          have tgt := hg1 ρ6 (dwipe env3 vs1) st6 (wipe σ3 vs1) H7 x dx1 _ (fun σ4 H5 => tt1 σ4 H5 fun b H6 => if b = true then te σ4 H6 fun y H7 => ∃ acc, H7 p = some (.lst acc) ∧ acc.length < sizeLine ∧ R1 (j + 1) (upd H7 p (.lst (acc ++ [y]))) else R1 (j + 1) H6)
            (rs6.same sm1) re7 rd1 q6 fun σ8 H8 ρ8 env8 st8 k8 rs8 re8 q8 => ?_
          · have := ho1 x (wipe σ3 vs1) H7 _ tgt
            rw [wipe_wipe] at this
            exact this
          · refine ht1 ρ8 env8 st8 σ8 H8 _ _ rs8 re8 q8 fun b H9 ⟨ρ9, st9, k9, rs9, q9⟩ => ?_
            have k69 := ((k6.trans k7).trans k8).trans k9
            cases b with
            | false =>
              rw [if_neg Bool.false_ne_true] at q9 ⊢
              exact ⟨ρ9, st9, k69, rs9, q9⟩
            | true =>
              rw [if_pos rfl] at q9 ⊢
              refine he ρ9 env8 st9 σ8 H9 _ _ rs9 (re8.keep k9) q9 fun y Ha ⟨ρa, dy, sta, ka, rsa, py, qa⟩ => ?_
              exact sim_put rsa (((k15.trans k69).trans ka).get gp) py qa fun Hb stb kb rsb qb => ⟨ρa, stb, (k69.trans ka).trans kb, rsb, qb⟩
        · have e : items1.drop j = [] := List.drop_eq_nil_of_le (by omega)
          rw [e] at q6
          exact .inl ⟨wk1.stop j ρ6 H' st6 (by omega) k6 rs6 hok1, ρ6, st6, k15.trans k6, rs6, q6.2⟩
    have tgt := hg ρ' (dwipe env vs) st' (wipe σ vs) H2 x dx _ _ (rs'.same sm) re2 rd q' step
    have := ho x (wipe σ vs) H2 _ tgt
    rw [wipe_wipe] at this
    exact this
  · have e : items.drop i = [] := List.drop_eq_nil_of_le (by omega)
    rw [e] at q'
    exact .inl ⟨wk.stop i ρ' H' st' (by omega) kk rs' hok, w _ H' ⟨ρ', .ref st1.length, st', k1.trans kk, rs', .ref gp', q'.2⟩⟩
section
variable {X : Cx} {elt tg iter tg1 iter1 : Expr} {ifs ifs1 : List Expr} {scope : Scope} {own : List (Str × Nat)} {pos : Pos} {wi wi1 : TI} {g g1 : TG} {tt tt1 : TT} {te : TE} {di di1 : DTI} {dg dg1 : DTG} {dt dt1 : DTT} {de : DTE} {vs1 : List Nat}
theorem se_lc (hc : X.calm = true) (hN : X.N.Nodup) (hi : SI X tg iter wi di) (ok : BlkOk X.N X.env.scope scope own) (ho : Own g (own.map (·.2)))
    (hg : ∀ (s : Shared) (H : Hp) (C : Addr) (cl : List (Str × Addr)) (fp : List Addr), SG (X.blk s H scope (compEnvC scope cl C X.env) fp) tg g dg) (ht : ∀ (s : Shared) (H : Hp) (C : Addr) (cl : List (Str × Addr)) (fp : List Addr), STs (X.blk s H scope (compEnvC scope cl C X.env) fp) ifs tt dt)
    (he : ∀ (s : Shared) (H : Hp) (C : Addr) (cl : List (Str × Addr)) (fp : List Addr), SE (X.blk s H scope (compEnvC scope cl C X.env) fp) elt te de) (hs : ∀ x, foldedSetIterable iter X.env x = pure x := by intro _; rfl) :
    SE X (.ListComp elt [⟨tg, iter, ifs, 0⟩] scope pos) (tLc wi g tt te (own.map (·.2))) (dLc di dg dt de (own.map (·.2))) :=
  ⟨pe_lc hc hN hi.pi ok (fun s H C cl fp => (hg s H C cl fp).pg) (fun s H C cl fp => (ht s H C cl fp).pts) (fun s H C cl fp => (he s H C cl fp).pe) hs,
    sim_lc hi.sim (hg ({} : Shared) (fun _ => none) 0 [] []).sim ho (ht ({} : Shared) (fun _ => none) 0 [] []).sim (he ({} : Shared) (fun _ => none) 0 [] []).sim⟩
theorem se_lc2 (hc : X.calm = true) (hN : X.N.Nodup) (hi : SI X tg iter wi di) (ok : BlkOk X.N X.env.scope scope own) (hv : ∀ i ∈ vs1, i ∈ own.map (·.2)) (ho : Own g (own.map (·.2))) (ho1 : Own g1 vs1)
    (hg : ∀ (s : Shared) (H : Hp) (C : Addr) (cl : List (Str × Addr)) (fp : List Addr), SG (X.blk s H scope (compEnvC scope cl C X.env) fp) tg g dg) (ht : ∀ (s : Shared) (H : Hp) (C : Addr) (cl : List (Str × Addr)) (fp : List Addr), STs (X.blk s H scope (compEnvC scope cl C X.env) fp) ifs tt dt)
    (hi1 : ∀ (s : Shared) (H : Hp) (C : Addr) (cl : List (Str × Addr)) (fp : List Addr), SI (X.blk s H scope (compEnvC scope cl C X.env) fp) tg1 iter1 wi1 di1)
    (hg1 : ∀ (s : Shared) (H : Hp) (C : Addr) (cl : List (Str × Addr)) (fp : List Addr), SG (X.blk s H scope (compEnvC scope cl C X.env) fp) tg1 g1 dg1) (ht1 : ∀ (s : Shared) (H : Hp) (C : Addr) (cl : List (Str × Addr)) (fp : List Addr), STs (X.blk s H scope (compEnvC scope cl C X.env) fp) ifs1 tt1 dt1)
    (he : ∀ (s : Shared) (H : Hp) (C : Addr) (cl : List (Str × Addr)) (fp : List Addr), SE (X.blk s H scope (compEnvC scope cl C X.env) fp) elt te de) (hs : ∀ x, foldedSetIterable iter X.env x = pure x := by intro _; rfl) (hs1 : ∀ env x, foldedSetIterable iter1 env x = pure x := by intro _ _; rfl) :
    SE X (.ListComp elt [⟨tg, iter, ifs, 0⟩, ⟨tg1, iter1, ifs1, 0⟩] scope pos) (tLc2 wi g tt wi1 g1 tt1 te (own.map (·.2)) vs1) (dLc2 di dg dt di1 dg1 dt1 de (own.map (·.2)) vs1) :=
  ⟨pe_lc2 hc hN hi.pi ok hv (fun s H C cl fp => (hg s H C cl fp).pg) (fun s H C cl fp => (ht s H C cl fp).pts) (fun s H C cl fp => (hi1 s H C cl fp).pi) (fun s H C cl fp => (hg1 s H C cl fp).pg) (fun s H C cl fp => (ht1 s H C cl fp).pts) (fun s H C cl fp => (he s H C cl fp).pe) hs hs1,
    sim_lc2 hi.sim (hg ({} : Shared) (fun _ => none) 0 [] []).sim ho (ht ({} : Shared) (fun _ => none) 0 [] []).sim (hi1 ({} : Shared) (fun _ => none) 0 [] []).sim (hg1 ({} : Shared) (fun _ => none) 0 [] []).sim ho1 (ht1 ({} : Shared) (fun _ => none) 0 [] []).sim (he ({} : Shared) (fun _ => none) 0 [] []).sim⟩
/-- name = [..] where the model stores within the comprehension's frame -/
theorem ss_setLc {i : Nat} {y : Str} {py : Pos} {spos : Pos} (hc : X.calm = true) (hN : X.N.Nodup) (hy : X.N[i]? = some y) (hyl : X.env.scope.names.lookup y = some .local)
    (hsw : swapsWith (.ListComp elt [⟨tg, iter, ifs, 0⟩] scope pos) (some (.Name y py)) spos.line X.env = pure true) (hi : SI X tg iter wi di) (ok : BlkOk X.N X.env.scope scope own) (ho : Own g (own.map (·.2)))
    (hg : ∀ (s : Shared) (H : Hp) (C : Addr) (cl : List (Str × Addr)) (fp : List Addr), SG (X.blk s H scope (compEnvC scope cl C X.env) fp) tg g dg) (ht : ∀ (s : Shared) (H : Hp) (C : Addr) (cl : List (Str × Addr)) (fp : List Addr), STs (X.blk s H scope (compEnvC scope cl C X.env) fp) ifs tt dt)
    (he : ∀ (s : Shared) (H : Hp) (C : Addr) (cl : List (Str × Addr)) (fp : List Addr), SE (X.blk s H scope (compEnvC scope cl C X.env) fp) elt te de) (hs : ∀ x, foldedSetIterable iter X.env x = pure x := by intro _; rfl) :
    SS X (.Assign [.Name y py] (.ListComp elt [⟨tg, iter, ifs, 0⟩] scope pos) spos) (tAsg (tLc wi g tt te (own.map (·.2))) (gName i)) (dSet i (dLc di dg dt de (own.map (·.2)))) :=
  ⟨ps_setLc hc hN hy hyl hsw hi.pi ok (fun s H C cl fp => (hg s H C cl fp).pg) (fun s H C cl fp => (ht s H C cl fp).pts) (fun s H C cl fp => (he s H C cl fp).pe) hs,
    sim_asg (sim_lc hi.sim (hg ({} : Shared) (fun _ => none) 0 [] []).sim ho (ht ({} : Shared) (fun _ => none) 0 [] []).sim (he ({} : Shared) (fun _ => none) 0 [] []).sim) sim_gname⟩
end
end DL

namespace DL
open PySem PySem.Spec L2

/-! ### cells that nobody needs are forgotten -/
mutual
def D.ren (π : Nat → Nat) : D → D
  | .tup xs => .tup (D.rens π xs)
  | .rol xs => .rol (D.rens π xs)
  | .ref k => .ref (π k)
  | .non => .non
  | .bl b => .bl b
  | .int i => .int i
  | .str x => .str x
  | .ty n => .ty n
def D.rens (π : Nat → Nat) : List D → List D
  | [] => []
  | d :: ds => d.ren π :: D.rens π ds
end
mutual
def D.lt (n : Nat) : D → Prop
  | .tup xs => D.lts n xs
  | .rol xs => D.lts n xs
  | .ref k => k < n
  | .non => True
  | .bl _ => True
  | .int _ => True
  | .str _ => True
  | .ty _ => True
def D.lts (n : Nat) : List D → Prop
  | [] => True
  | d :: ds => d.lt n ∧ D.lts n ds
end
def O.ren (π : Nat → Nat) : O → O
  | .lst xs => .lst (D.rens π xs)
def O.lt (n : Nat) : O → Prop
  | .lst xs => D.lts n xs
def Wf (st : Store) : Prop := ∀ (k : Nat) o, st[k]? = some o → o.lt st.length
section
variable {K : PySem.W.Frag} {ρ ρ0 : List Addr} {H : Hp}
mutual
theorem rep_ren {π : Nat → Nat} {m : Nat} (h : ∀ i, i < m → ρ0[i]? = ρ[π i]?) : ∀ (d : D) (v : V), d.lt m → Rep K ρ H (d.ren π) v → Rep K ρ0 H d v
  | .tup xs, v, hl, r => by
    unfold D.ren at r
    obtain ⟨a, vs, rfl, hs, hr⟩ := rep_tup r
    exact .tup hs (reps_ren h xs vs hl hr)
  | .rol xs, v, hl, r => by
    unfold D.ren at r
    obtain ⟨a, vs, rfl, hs, hr⟩ := rep_rol r
    unfold Rep
    exact ⟨a, vs, rfl, hs, reps_ren h xs vs hl hr⟩
  | .ref k, v, hl, r => by
    unfold D.ren at r
    obtain ⟨a, ha, rfl⟩ := rep_ref r
    exact .ref (by rw [h k hl]; exact ha)
  | .non, v, _, r => by unfold D.ren at r; rw [rep_non r]; exact .non
  | .bl b, v, _, r => by unfold D.ren at r; rw [rep_bl r]; exact .bl b
  | .int b, v, _, r => by unfold D.ren at r; rw [rep_int r]; exact .int b
  | .str b, v, _, r => by unfold D.ren at r; rw [rep_str r]; exact .str b
  | .ty b, v, _, r => by unfold D.ren at r; rw [rep_ty r]; unfold Rep; rfl
theorem reps_ren {π : Nat → Nat} {m : Nat} (h : ∀ i, i < m → ρ0[i]? = ρ[π i]?) : ∀ (ds : List D) (vs : List V), D.lts m ds → Reps K ρ H (D.rens π ds) vs → Reps K ρ0 H ds vs
  | [], vs, _, r => by
    unfold D.rens at r
    exact r
  | d :: ds, vs, hl, r => by
    unfold D.rens at r
    unfold Reps at r
    obtain ⟨v, w, rfl, r1, r2⟩ := r
    exact .cons (rep_ren h d v hl.1 r1) (reps_ren h ds w hl.2 r2)
end
mutual
theorem rep_lt : ∀ (d : D) (v : V), Rep K ρ H d v → d.lt ρ.length
  | .tup xs, v, r => by
    obtain ⟨a, vs, rfl, hs, hr⟩ := rep_tup r
    exact reps_lt xs vs hr
  | .rol xs, v, r => by
    obtain ⟨a, vs, rfl, hs, hr⟩ := rep_rol r
    exact reps_lt xs vs hr
  | .ref k, v, r => by
    obtain ⟨a, ha, rfl⟩ := rep_ref r
    exact (List.getElem?_eq_some_iff.mp ha).1
  | .non, v, _ => trivial
  | .bl b, v, _ => trivial
  | .int b, v, _ => trivial
  | .str b, v, _ => trivial
  | .ty b, v, _ => trivial
theorem reps_lt : ∀ (ds : List D) (vs : List V), Reps K ρ H ds vs → D.lts ρ.length ds
  | [], vs, _ => trivial
  | d :: ds, vs, r => by
    unfold Reps at r
    obtain ⟨v, w, rfl, r1, r2⟩ := r
    exact ⟨rep_lt d v r1, reps_lt ds w r2⟩
end
theorem RelS.wf {st : Store} (r : RelS K ρ H st) : Wf st := fun k o e => by
  obtain ⟨a, _, q⟩ := r.ob k o e
  cases o with
  | lst xs =>
    obtain ⟨vs, _, hr⟩ := q
    rw [← r.len]
    exact reps_lt xs vs hr
end
mutual
theorem ren_id {π : Nat → Nat} {n : Nat} (h : ∀ i, i < n → π i = i) : ∀ d : D, d.lt n → d.ren π = d
  | .tup xs, hl => by unfold D.ren; rw [rens_id h xs hl]
  | .rol xs, hl => by unfold D.ren; rw [rens_id h xs hl]
  | .ref k, hl => by unfold D.ren; rw [h k hl]
  | .non, _ => rfl
  | .bl _, _ => rfl
  | .int _, _ => rfl
  | .str _, _ => rfl
  | .ty _, _ => rfl
theorem rens_id {π : Nat → Nat} {n : Nat} (h : ∀ i, i < n → π i = i) : ∀ ds : List D, D.lts n ds → D.rens π ds = ds
  | [], _ => rfl
  | d :: ds, hl => by unfold D.rens; rw [ren_id h d hl.1, rens_id h ds hl.2]
end
theorem O.ren_id {π : Nat → Nat} {n : Nat} (h : ∀ i, i < n → π i = i) (o : O) (hl : o.lt n) : o.ren π = o := by
  cases o with
  | lst xs =>
    show O.lst (D.rens π xs) = O.lst xs
    rw [rens_id h xs hl]
mutual
theorem D.lt_mono {n m : Nat} (h : n ≤ m) : ∀ d : D, d.lt n → d.lt m
  | .tup xs, hl => D.lts_mono h xs hl
  | .rol xs, hl => D.lts_mono h xs hl
  | .ref k, hl => Nat.lt_of_lt_of_le hl h
  | .non, _ => trivial
  | .bl _, _ => trivial
  | .int _, _ => trivial
  | .str _, _ => trivial
  | .ty _, _ => trivial
theorem D.lts_mono {n m : Nat} (h : n ≤ m) : ∀ ds : List D, D.lts n ds → D.lts m ds
  | [], _ => trivial
  | d :: ds, hl => ⟨D.lt_mono h d hl.1, D.lts_mono h ds hl.2⟩
end
theorem O.lt_mono {n m : Nat} (h : n ≤ m) (o : O) (hl : o.lt n) : o.lt m := by
  cases o with
  | lst xs => exact D.lts_mono h xs hl
theorem lts_iff {n : Nat} : ∀ {ds : List D}, D.lts n ds ↔ ∀ d ∈ ds, d.lt n
  | [] => by simp [D.lts]
  | d :: ds => by
    unfold D.lts
    rw [lts_iff]
    simp
theorem fl_lt {n : Nat} : ∀ (m : Nat) (d : D), d.fl m = true → d.lt n := by
  intro m
  induction m with
  | zero =>
    intro d h
    cases d <;> first | trivial | (simp [D.fl] at h)
  | succ m ih =>
    have all : ∀ ds : List D, ds.all (D.fl m) = true → D.lts n ds := by
      intro ds h
      rw [lts_iff]
      intro d hd
      exact ih d (List.all_eq_true.mp h d hd)
    intro d h
    cases d with
    | tup xs => exact all xs h
    | rol xs => exact all xs h
    | ref _ => simp [D.fl] at h
    | _ => trivial
theorem fls_lt {n m : Nat} {ds : List D} (h : ds.all (D.fl m) = true) : D.lts n ds := by
  rw [lts_iff]
  intro d hd
  exact fl_lt m d (List.all_eq_true.mp h d hd)
structure Gc (n : Nat) (st st0 : Store) (π : Nat → Nat) : Prop where
  fix : ∀ i, i < n → π i = i
  le : n ≤ st0.length
  inj : ∀ i j, i < st0.length → j < st0.length → π i = π j → i = j
  obj : ∀ (i : Nat) o, st0[i]? = some o → st[π i]? = some (o.ren π) ∧ o.lt st0.length
section
variable {K : PySem.W.Frag} {ρ : List Addr} {H : Hp} {n : Nat} {st st0 : Store} {π : Nat → Nat}
theorem Gc.some (g : Gc n st st0 π) {i : Nat} (h : i < st0.length) : ∃ o, st[π i]? = some o := ⟨_, (g.obj i _ (List.getElem?_eq_getElem h)).1⟩
def gcρ (ρ : List Addr) (m : Nat) (π : Nat → Nat) : List Addr := (List.range m).map fun i => ρ.getD (π i) 0
theorem Gc.at (g : Gc n st st0 π) (r : RelS K ρ H st) : ∀ i, i < st0.length → (gcρ ρ st0.length π)[i]? = ρ[π i]? := fun i hi => by
  obtain ⟨o, ho⟩ := g.some hi
  have hl : π i < ρ.length := by rw [r.len]; exact (List.getElem?_eq_some_iff.mp ho).1
  unfold gcρ
  rw [List.getElem?_map, List.getElem?_range hi, Option.map_some, List.getD_eq_getElem?_getD, List.getElem?_eq_getElem hl, Option.getD_some]
theorem gcρ_len {m : Nat} : (gcρ ρ m π).length = m := by unfold gcρ; rw [List.length_map, List.length_range]
theorem Gc.relS (g : Gc n st st0 π) (r : RelS K ρ H st) : RelS K (gcρ ρ st0.length π) H st0 := by
  refine ⟨gcρ_len, ?_, fun k o e => ?_⟩
  · rw [List.nodup_iff_pairwise_ne, List.pairwise_iff_getElem]
    intro i j hi hj hij e
    rw [gcρ_len] at hi hj
    have e1 := g.at r i hi
    have e2 := g.at r j hj
    rw [List.getElem?_eq_getElem (by rw [gcρ_len]; exact hi)] at e1
    rw [List.getElem?_eq_getElem (by rw [gcρ_len]; exact hj)] at e2
    have e3 : π i = π j := nd_ix r.nd e1.symm (by rw [← e2, e])
    have := g.inj i j hi hj e3
    omega
  · have hk := (List.getElem?_eq_some_iff.mp e).1
    obtain ⟨e1, hl⟩ := g.obj k o e
    obtain ⟨a, ha, q⟩ := r.ob (π k) _ e1
    refine ⟨a, by rw [g.at r k hk]; exact ha, ?_⟩
    cases o with
    | lst xs =>
      obtain ⟨vs, hv, hr⟩ := q
      exact ⟨vs, hv, reps_ren (g.at r) xs vs hl hr⟩
theorem Gc.take (g : Gc n st st0 π) (r : RelS K ρ H st) : (gcρ ρ st0.length π).take n = ρ.take n := by
  apply List.ext_getElem?
  intro i
  rw [List.getElem?_take, List.getElem?_take]
  split
  · rename_i hi
    have h0 := g.le
    rw [g.at r i (by omega), g.fix i hi]
  · rfl
theorem Gc.keep (g : Gc n st st0 π) (r : RelS K ρ H st) : Keep (ρ.take n) (gcρ ρ st0.length π) H H := by
  refine ⟨⟨(gcρ ρ st0.length π).drop n, ?_⟩, fun _ _ h => h, fun _ _ _ h => h⟩
  rw [← g.take r, List.take_append_drop]
end
/-- a block that begins by forgetting -/
def dGc (ts : DTS) : DTS := fun n d env st => ∃ env0 st0 π, Gc n st st0 π ∧ env0.length = env.length ∧ (∀ (i : Nat) x, env0[i]? = some (some x) → env[i]? = some (some (x.ren π)) ∧ x.lt st0.length) ∧ ts n d env0 st0
theorem sim_gc {K : PySem.W.Frag} {t : TS} {ts : DTS} (h : SimS K t ts) : SimS K t (dGc ts) := by
  intro n ρ env st σ H d W hn rs re q w
  obtain ⟨env0, st0, π, g, hl, he, q⟩ := q
  refine h n (gcρ ρ st0.length π) env0 st0 σ H d W (by rw [gcρ_len]; exact g.le) (g.relS rs) ⟨by rw [hl]; exact re.len, fun i x e => ?_⟩ q ?_
  · obtain ⟨e2, hlt⟩ := he i x e
    obtain ⟨v, e3, r⟩ := re.get i _ e2
    exact ⟨v, e3, rep_ren (g.at rs) x v hlt r⟩
  · rw [g.take rs]
    exact w
theorem sss_gc {X : Cx} {s : List Stmt} {t : TS} {ts : DTS} (h : SSs X s t ts) : SSs X s t (dGc ts) := ⟨h.pss, sim_gc h.sim⟩
/-- nothing is forgotten -/
theorem gc_id {n : Nat} {ts : DTS} {d : DEnds} {env : DEnv} {st : Store} (hn : n ≤ st.length) (wf : Wf st) (we : ∀ (i : Nat) x, env[i]? = some (some x) → x.lt st.length) (h : ts n d env st) : dGc ts n d env st :=
  ⟨env, st, fun i => i, ⟨fun _ _ => rfl, hn, fun _ _ _ _ e => e, fun i o e => ⟨by rw [O.ren_id (n := st.length) (fun _ _ => rfl) o (wf i o e)]; exact e, wf i o e⟩⟩, rfl, fun i x e => ⟨by rw [ren_id (n := st.length) (fun _ _ => rfl) x (we i x e)]; exact e, we i x e⟩, h⟩
/-- a def's return: what the caller sees -/
def Ret (n : Nat) (Q : DQ) : DQ := fun d st => ∃ d0 st0 π, Gc n st st0 π ∧ d = d0.ren π ∧ d0.lt st0.length ∧ Q d0 st0
/-- flat data, or cells that stay: the new cells are forgotten -/
theorem ret_old {n : Nat} {Q : DQ} {d : D} {st st0 : Store} (hn : n ≤ st0.length) (he : ∀ i, i < st0.length → st[i]? = st0[i]?) (hw : Wf st0) (hd : d.lt st0.length) (h : Q d st0) : Ret n Q d st :=
  ⟨d, st0, fun i => i, ⟨fun _ _ => rfl, hn, fun _ _ _ _ e => e, fun i o e => ⟨by rw [O.ren_id (n := st0.length) (fun _ _ => rfl) o (hw i o e)]; exact (he i (List.getElem?_eq_some_iff.mp e).1).trans e, hw i o e⟩⟩, (ren_id (n := st0.length) (fun _ _ => rfl) d hd).symm, hd, h⟩
/-- one new cell is handed back -/
theorem ret_new {n k : Nat} {Q : DQ} {o : O} {st st0 : Store} (hn : n = st0.length) (hk : n ≤ k) (he : ∀ i, i < st0.length → st[i]? = st0[i]?) (hw : Wf st0) (hd : st[k]? = some o) (ho : o.lt n) (h : Q (.ref n) (st0 ++ [o])) : Ret n Q (.ref k) st := by
  subst hn
  have fx : ∀ i, i < st0.length → (if i < st0.length then i else k) = i := fun i hi => if_pos hi
  refine ⟨.ref st0.length, st0 ++ [o], fun i => if i < st0.length then i else k, ⟨fx, by simp, fun i j hi hj e => ?_, fun i u e => ?_⟩, ?_, ?_, h⟩
  · rw [List.length_append, List.length_singleton] at hi hj
    by_cases h1 : i < st0.length
    · rw [if_pos h1] at e
      by_cases h2 : j < st0.length
      · rw [if_pos h2] at e
        exact e
      · rw [if_neg h2] at e
        omega
    · rw [if_neg h1] at e
      by_cases h2 : j < st0.length
      · rw [if_pos h2] at e
        omega
      · omega
  · by_cases h1 : i < st0.length
    · rw [List.getElem?_append_left h1] at e
      rw [if_pos h1, O.ren_id fx u (hw i u e)]
      exact ⟨(he i h1).trans e, O.lt_mono (by simp) u (hw i u e)⟩
    · have hi : i = st0.length := by
        have := (List.getElem?_eq_some_iff.mp e).1
        rw [List.length_append, List.length_singleton] at this
        omega
      subst hi
      rw [List.getElem?_append_right (Nat.le_refl _), Nat.sub_self] at e
      have e' : o = u := by simpa using e
      subst e'
      rw [if_neg (Nat.lt_irrefl _), O.ren_id fx o ho]
      exact ⟨hd, O.lt_mono (by simp) o ho⟩
  · unfold D.ren
    rw [if_neg (Nat.lt_irrefl _)]
  · show st0.length < (st0 ++ [o]).length
    simp

/-! ### a def by its body -/
def dstart (N : List Str) (ds : List D) : DEnv := ds.map some ++ List.replicate (N.length - ds.length) none
theorem relE_start {K : PySem.W.Frag} {ρ : List Addr} {H : Hp} {N : List Str} {ds : List D} {vs : List V} (r : Reps K ρ H ds vs) : RelE K ρ H (dstart N ds) (L2.start N vs) := by
  unfold dstart L2.start
  refine ⟨by simp [r.len], fun i d e => ?_⟩
  by_cases hi : i < ds.length
  · rw [List.getElem?_append_left (by simpa using hi), List.getElem?_map] at e
    cases e2 : ds[i]? with
    | none => rw [e2] at e; cases e
    | some x =>
      rw [e2] at e
      cases e
      obtain ⟨v, hv, hr⟩ := r.get e2
      exact ⟨v, by rw [List.getElem?_append_left (by rw [List.length_map, ← r.len]; exact hi), List.getElem?_map, hv]; rfl, hr⟩
  · rw [List.getElem?_append_right (by simpa using hi), List.getElem?_replicate] at e
    split at e <;> cases e
section
variable {P : Program} {w : World} {K : PySem.W.Frag} {mg : Str → Option Value} {base : Heap}
theorem Fun.okD {x qual : Str} {st : Stmt} {f : Addr} {fd : FuncData} {N ps : List Str} {k : Nat} {dsp : DSp} (F : Fun K x qual st f fd) (S : FnScope N ps (defScope st)) (len : ∀ ds s Q, dsp ds s Q → ds.length = ps.length)
    (hbody : ∀ (cdv : Value) (A : Around) (outer : List Env) (s : Shared) (H : Hp) (E : XK), Room k (A.deeper (PyProof.Rows.envOfC qual (defScope st) s.heap.objs.size f cdv)) →
      ∃ t ts, SSs (cxOf CX0 P w K mg base N qual (defScope st) f cdv A outer s H E).nox (defBody st) t ts ∧
        ∀ ds st Q, Wf st → D.lts st.length ds → dsp ds st Q → ts st.length { nx := fun _ st' => Ret st.length Q .non st', rt := Ret st.length Q } (dstart N ds) st) : FnOk P w K mg base CX0 (k + 1) f fd ps (spOf K dsp) := by
  refine F.ok S (fun vs H Q E h => ?_) (fun cdv A outer s H vs Q E hr h => ?_)
  · obtain ⟨ρ, ds, st, QD, _, r, q, _⟩ := h
    rw [← r.len]
    exact len ds st QD q
  · obtain ⟨ρ, ds, sto, QD, rs, r, q, wq⟩ := h
    obtain ⟨t, ts, hS, hb⟩ := hbody cdv A outer s H E hr
    refine ⟨t, hS.pss, ?_⟩
    have hl : sto.length ≤ ρ.length := by rw [rs.len]; exact Nat.le_refl _
    refine hS.sim sto.length ρ (dstart N ds) sto (start N vs) H _ _ hl rs (relE_start r) (hb ds sto QD rs.wf (by rw [← rs.len]; exact reps_lt ds vs r) q) ?_
    have et : ρ.take sto.length = ρ := by rw [← rs.len, List.take_length]
    rw [et]
    have fin : ∀ (v : V) (H' : Hp) (ρ' : List Addr) (y : D) (st' : Store), Keep ρ ρ' H H' → RelS K ρ' H' st' → Rep K ρ' H' y v → Ret sto.length QD y st' → Q v H' := fun v H' ρ' y st' k rs' ry q => by
      obtain ⟨d0, st0, π, g, rfl, hlt, q⟩ := q
      refine wq v H' ⟨gcρ ρ' st0.length π, d0, st0, ?_, g.relS rs', rep_ren (g.at rs') d0 v hlt ry, q⟩
      have k2 := g.keep rs'
      have e : ρ'.take sto.length = ρ := by
        obtain ⟨u, rfl⟩ := k.pre
        rw [List.take_append_of_le_length hl, et]
      rw [e] at k2
      exact ⟨k2.pre, k.tups, k.frzs⟩
    exact ⟨fun σ' H' ρ' env' st' k rs' re' q' => fin .non H' ρ' .non st' k rs' .non q', fun v H' ρ' y st' k rs' ry q' => fin v H' ρ' y st' k rs' ry q', fun _ _ _ _ _ _ _ _ z => z.elim, fun _ _ _ _ _ _ _ _ z => z.elim⟩
end
/-! ### the law -/
/-- for a list of at most 63 ints the answer is True -/
def spLaw : DSp := fun ds _ Q => ∃ ns : List Int, ds = [.rol (ns.map D.int)] ∧ ns.length ≤ 63 ∧ ∀ st', Q (.bl true) st'
theorem sp_law {K : PySem.W.Frag} {H : Hp} {a : Addr} {ns : List Int} {E : XK} (hl : ns.length ≤ 63) (hO : Only H) (hS : SqL K H a (ns.map V.int)) : spOf K spLaw [.ref a] H (fun v _ => v = .bl true) E := by
  refine ⟨[], [.rol (ns.map D.int)], [], fun d _ => d = .bl true, ⟨rfl, by simp, fun k o e => by simp at e⟩, .cons ?_ .nil, ⟨ns, rfl, hl, fun _ => rfl⟩, fun v H' h => ?_⟩
  · unfold Rep
    refine ⟨a, ns.map V.int, rfl, ?_, Reps.ints ns⟩
    rcases hS with (h | ⟨o, h⟩) | h
    · rcases hO a with z | ⟨o, xs, z⟩
      · rw [z] at h; cases h
      · rw [z] at h; cases h
    · exact .inl ⟨o, h⟩
    · exact .inr h
  · obtain ⟨_, d, _, _, _, r, rfl⟩ := h
    exact rep_bl r
end DL

/-! list(reversed(list)) -/
namespace RT
open PySem PySem.Spec PyProof.Rows L2
section
variable {prog : Program} {w : World} {A : Around} {E : Value → Shared → Prop} {s : Shared}
theorem call_list_rev {it l : Addr} {items : Array Value} {Q : Value → Shared → Prop} (hh : A.handled = none) (hit : s.heap.IsRevIter it l ((items.size : Int) - 1)) (hl : s.heap.IsList l items) (hne : l ≠ it) (hn : items.size ≤ sizeLine)
    (hQ : ∀ (h' : Heap) (tk : Nat) (acc : Array Value) (c' : Nat), (∀ b o, b ≠ it → s.heap.get? b = some o → h'.get? b = some o) → h'.get? s.heap.objs.size = some { cls := .type "list", dict := none, data := .seq acc c', slots := #[] } →
      ItemsOf (fun i v => items[items.size - 1 - i]? = some v) acc items.size → Q (.ref s.heap.objs.size) { s with heap := h', toks := tk }) :
    wpAny (model prog w) A (call (.type "list") [.ref it]) Q E s := by
  refine callType_codes (Q₁ := fun obj s₁ => obj = .ref s.heap.objs.size ∧ s₁ = { s with heap := s.heap.push { cls := .type "list", data := .seq #[] } }) PySem.F.called_list (PySem.F.typeCall_list_1 _) PySem.F.entry_list_init
    (code_list_new _ ⟨rfl, rfl⟩) fun obj s₁ h₁ => ?_
  obtain ⟨rfl, rfl⟩ := h₁
  have hS : (s.heap.push { cls := .type "list", data := .seq #[] }).get? s.heap.objs.size = some { cls := .type "list", data := .seq #[] } := Heap.get?_push_size _ rfl
  refine ⟨⟨_, hS, rfl⟩, PySem.F.args_list_init_2 _ _, ?_⟩
  have W := (Walks.listRev (prog := prog) (w := w) (A := A.in1.in1) hh it l hne items).toS
  obtain ⟨oi, hoi, _⟩ := id hit
  obtain ⟨ol, hol, _⟩ := id hl
  have hSi : s.heap.objs.size ≠ it := Nat.ne_of_gt (Heap.lt_size hoi)
  have hSl : s.heap.objs.size ≠ l := Nat.ne_of_gt (Heap.lt_size hol)
  have hSf : s.heap.objs.size ∉ [it, l] := by simp only [List.mem_cons, List.not_mem_nil, or_false, not_or]; exact ⟨hSi, hSl⟩
  show wpAny _ _ (do let old ← Builtin.List.listItems (.ref s.heap.objs.size); Builtin.List.listUpdate (.ref s.heap.objs.size) (fun _ => #[]); letGo old.toList.reverse; Builtin.List.listExtendWith (.ref s.heap.objs.size) (.ref it) .none) _ _ _
  refine wpAny_bind ?_
  unfold Builtin.List.listItems
  refine wpAny_bind (wpAny_seqItems hS rfl (wpAny_pure ?_))
  show wpAny _ _ (updateSeq s.heap.objs.size (fun _ => #[]) >>= fun _ => letGo (#[] : Array Value).toList.reverse >>= fun _ => Builtin.List.listExtendWith (.ref s.heap.objs.size) (.ref it) .none) _ _ _
  refine wpAny_bind (wpAny_updateSeq hS rfl ?_)
  have hS₂ := Heap.get?_update_self (Obj.mapSeq (fun _ => (#[] : Array Value))) hS rfl
  have oth : ∀ b o, b ≠ s.heap.objs.size → (s.heap.push { cls := .type "list", data := .seq #[] }).get? b = some o → ((s.heap.push { cls := .type "list", data := .seq #[] }).update s.heap.objs.size (Obj.mapSeq (fun _ => (#[] : Array Value)))).get? b = some o :=
    fun b o hb e => (Heap.get?_update_other _ _ (Ne.symm hb)).trans e
  refine wpAny_bind (wpAny_letGo ?_)
  generalize hH : ((s.heap.push { cls := .type "list", data := .seq #[] }).update s.heap.objs.size (Obj.mapSeq (fun _ => (#[] : Array Value)))) = h2 at hS₂ oth ⊢
  have hit1 : h2.IsRevIter it l ((items.size : Int) - 1) := (hit.at fun o e => oth _ _ hSi.symm (Heap.get?_push_of_some _ e))
  have hl1 : h2.IsList l items := by
    obtain ⟨o, e, r⟩ := hl
    exact ⟨o, oth _ _ hSl.symm (Heap.get?_push_of_some _ e), r⟩
  have hT : ({ s with heap := h2 } : Shared).TypeIs (.ref it) "list_reverseiterator" := Heap.IsRevIter.typeIs (s := { s with heap := h2 }) hit1
  have h1 : Builtin.List.listSameRef (.ref s.heap.objs.size) (.ref it) = false := by simp [Builtin.List.listSameRef, hSi]
  unfold Builtin.List.listExtendWith
  refine wpAny_bind (wpAny_typeOf hT ?_)
  rw [if_neg (by rw [h1]; decide)]
  refine wpAny_bind (wpAny_pyIter_revIter (s := { s with heap := h2 }) hit1 ?_)
  refine wpAny_bind (wpAny_holding ?_)
  unfold Builtin.List.listLengthHint
  refine wpAny_bind (wpAny_specialOf hT nolen_lri ?_)
  show wpAny _ _ (specialOf (Value.ref it) (Str.ofString "__length_hint__") >>= _) _ _ _
  refine wpAny_bind (wpAny_specialOf hT hint_lri ?_)
  generalize hid : ("list_reverseiterator.__length_hint__" : String) = id0
  wp_delta
  rw [show splitId id0 = some ("list_reverseiterator", "__length_hint__") from by subst hid; decide +kernel]
  subst hid
  refine wpAny_bind (wpAny_isInstance (b := true) hT (by rw [isSubtype_type]; kernel_rfl) ?_)
  refine wpAny_pure ?_
  rw [if_neg (by decide)]
  have e0 : ((items.size : Nat) : Int) - 1 - ((0 : Nat) : Int) = (items.size : Int) - 1 := by omega
  refine wpAny_pure ⟨plainId_quiet F.plain_extend_loop _, codeAny_extend_loopS W hn _ hSf _ items.size 0 _ _ _ rfl (Nat.zero_le _) ⟨Nat.zero_le _, by rw [e0]; exact hit1, hl1⟩ hS₂ (ItemsOf.nil _) fun s' acc' c' hm hS' hacc => ?_⟩
  rw [Moved.eq_with hm]
  refine ⟨rfl, hQ s'.heap s'.toks acc' c' (fun b o hb e => hm.heap b o (fun hmem => ?_) (oth b o (Nat.ne_of_lt (Heap.lt_size e)) (Heap.get?_push_of_some _ e))) hS' hacc⟩
  rcases List.mem_cons.mp hmem with e' | hmem
  · exact absurd (Heap.lt_size e) (by rw [e']; exact Nat.lt_irrefl _)
  · exact hb (List.mem_singleton.mp hmem)
end
def tListRev (K : PySem.W.Frag) (te : TE) : TE := fun σ H Q => te σ H fun v H1 => ∃ (a : Addr) (xs : List V), v = .ref a ∧ SqL K H1 a xs ∧ ∀ q, H1 q = none → Q (.ref q) (upd H1 q (.lst xs.reverse))
section
variable {X : Cx}
theorem pe_listRev {e : Expr} {te : TE} {p p2 pos pos2 : Pos} (hc : X.calm = true) (hg : Gl X "list") (hm : X.mg "list" = none) (hg2 : Gl X "reversed") (hm2 : X.mg "reversed" = none) (he : PE X e te)
    (hs : starEach [e] X.env = (false, eval e X.env) :: starEach [] X.env := by rfl)
    (hs2 : starEach [.Call (.Name "reversed" p2) [e] [] pos2] X.env = (false, eval (.Call (.Name "reversed" p2) [e] [] pos2) X.env) :: starEach [] X.env := by rfl) :
    PE X (.Call (.Name "list" p) [.Call (.Name "reversed" p2) [e] [] pos2] [] pos) (tListRev X.K te) := by
  refine ⟨fun pins s σ H Q I h => ?_⟩
  refine Call_ (ld_blt I hg hm boot_list (PyProof.Rows.callWith_type1 (args_cons (Call_ (ld_blt I hg2 hm2 PyProof.Rows.boot_reversed (PyProof.Rows.callWith_type1 (args_cons (thn (he.run pins s σ H _ I h) fun u s1 ⟨v, H1, I1, r1, q1⟩ => args_nil ?_) hs) hs rfl))) hs2) hs2 rfl))
  obtain ⟨a, xs, ev, hq, q⟩ := q1
  subst ev
  obtain rfl : u = Value.ref a := r1
  obtain ⟨its, rv, p', hz⟩ := I1.list hq
  refine call_reversed_list p'.isList (args_nil ?_)
  have k0 : ∀ b o, s1.heap.get? b = some o → (s1.heap.push (revObj a ((its.toArray.size : Int) - 1))).get? b = some o := fun b o e => Heap.get?_push_of_some _ e
  have I2 : Inv X pins σ H1 { s1 with heap := s1.heap.push (revObj a ((its.toArray.size : Int) - 1)) } := I1.kept (t' := s1.toks) k0
  obtain ⟨f0, f1, f2, f3, f4, f5⟩ := I1.fpOk (H' := H1) (b := s1.heap.objs.size) (Nat.le_refl _) (I1.hok.fresh (Nat.le_refl _))
  have hl := p'.isList
  obtain ⟨ol, hol, _⟩ := id hl
  have hne : a ≠ s1.heap.objs.size := Nat.ne_of_lt (Heap.lt_size hol)
  have hn : its.toArray.size ≤ sizeLine := by rw [List.size_toArray, ← rv.length]; exact hz
  refine call_list_rev (s := { s1 with heap := s1.heap.push (revObj a ((its.toArray.size : Int) - 1)) }) (I1.ok.hd hc) ⟨_, Heap.get?_push_size _ rfl, rfl, rfl⟩ (hl.push _) hne hn fun h' tk acc c' hk hS hi => ?_
  have hf : ∀ b ∈ [s1.heap.objs.size], FpOk X pins H1 b := fun b hb => by
    rw [List.mem_singleton.mp hb]
    exact ⟨f0, f1, f2, f3, f4, f5⟩
  have fr : H1 (s1.heap.push (revObj a ((its.toArray.size : Int) - 1))).objs.size = none := I2.hok.fresh (Nat.le_refl _)
  have hlen : xs.reverse.length ≤ sizeLine := by rw [List.length_reverse]; exact hz
  have new : ObjOk X.prog X.w (upd H1 (s1.heap.push (revObj a ((its.toArray.size : Int) - 1))).objs.size (.lst xs.reverse)) h' (s1.heap.push (revObj a ((its.toArray.size : Int) - 1))).objs.size (.lst xs.reverse) := by
    refine ⟨hlen, acc.toList, c', vals_rev rv hi, ?_⟩
    rw [Array.toArray_toList]
    exact hS
  have I4 := I2.turnedNew (t' := tk) (ch := [s1.heap.objs.size]) (h' := h') (fun b o hb e => hk b o (fun z => hb (by rw [z]; exact List.mem_singleton_self _)) e) hf (Nat.le_refl _) new
  exact ⟨.ref _, _, I4, rfl, q _ fr⟩
end
end RT
namespace DL
open PySem PySem.Spec L2
theorem ditems_at {K : PySem.W.Frag} {ρ : List Addr} {H : Hp} {st : Store} {k : Nat} {xs : List D} {v : V} (r : RelS K ρ H st) (px : Rep K ρ H (.ref k) v) (e : st[k]? = some (.lst xs)) : ∃ a vs, v = .ref a ∧ SqL K H a vs ∧ Reps K ρ H xs vs := by
  obtain ⟨a, ha, rfl⟩ := rep_ref px
  obtain ⟨vs, hv, hr⟩ := r.lst ha e
  exact ⟨a, vs, rfl, SqL.of hv, hr⟩
/-- of a list: its items from the end -/
def dRevOf (te : DTE) (fin : List D → Store → DQ → Prop) : DTE := fun env st Q => te env st fun x st1 => match x with
  | .ref k => match st1[k]? with
    | some (.lst xs) => fin xs.reverse st1 Q
    | _ => False
  | .rol xs => fin xs.reverse st1 Q
  | _ => False
def dTupleRev (te : DTE) : DTE := dRevOf te fun xs st Q => Q (.tup xs) st
def dListRev (te : DTE) : DTE := dRevOf te fun xs st Q => Q (.ref st.length) (st ++ [.lst xs])
section
variable {X : Cx} {e : Expr} {te : TE} {de : DTE} {p p2 pos pos2 : Pos}
theorem se_tupRev {K : PySem.W.Frag} [hk : HasK X K] (hc : X.calm = true) (hg : Gl X "tuple") (hm : X.mg "tuple" = none) (hg2 : Gl X "reversed") (hm2 : X.mg "reversed" = none) (he : SE X e te de)
    (hs : starEach [e] X.env = (false, eval e X.env) :: starEach [] X.env := by rfl)
    (hs2 : starEach [.Call (.Name "reversed" p2) [e] [] pos2] X.env = (false, eval (.Call (.Name "reversed" p2) [e] [] pos2) X.env) :: starEach [] X.env := by rfl) :
    SE X (.Call (.Name "tuple" p) [.Call (.Name "reversed" p2) [e] [] pos2] [] pos) (RT.tTupRev K te) (dTupleRev de) := by
  obtain rfl := hk.eq
  refine ⟨RT.pe_tupRev hc hg hm hg2 hm2 he.pe hs hs2, fun ρ env st σ H Q W rs re q w => ?_⟩
  refine he.sim ρ env st σ H _ _ rs re q fun x H1 ⟨ρ1, dx, st1, k1, r1, px, q1⟩ => ?_
  cases dx with
  | ref k =>
    dsimp only at q1
    split at q1
    · rename_i xs e
      obtain ⟨a, vs, rfl, hs, hr⟩ := ditems_at r1 px e
      exact ⟨a, vs, rfl, hs, fun q hq => w _ _ ((PostE.tup r1 hq hr.rev q1).keep k1)⟩
    · exact q1.elim
  | rol xs =>
    obtain ⟨a, vs, rfl, hs, hr⟩ := rep_rol px
    exact ⟨a, vs, rfl, sqf_l hs, fun q hq => w _ _ ((PostE.tup r1 hq hr.rev q1).keep k1)⟩
  | _ => exact q1.elim
theorem se_listRev {K : PySem.W.Frag} [hk : HasK X K] (hc : X.calm = true) (hg : Gl X "list") (hm : X.mg "list" = none) (hg2 : Gl X "reversed") (hm2 : X.mg "reversed" = none) (he : SE X e te de)
    (hs : starEach [e] X.env = (false, eval e X.env) :: starEach [] X.env := by rfl)
    (hs2 : starEach [.Call (.Name "reversed" p2) [e] [] pos2] X.env = (false, eval (.Call (.Name "reversed" p2) [e] [] pos2) X.env) :: starEach [] X.env := by rfl) :
    SE X (.Call (.Name "list" p) [.Call (.Name "reversed" p2) [e] [] pos2] [] pos) (RT.tListRev K te) (dListRev de) := by
  obtain rfl := hk.eq
  refine ⟨RT.pe_listRev hc hg hm hg2 hm2 he.pe hs hs2, fun ρ env st σ H Q W rs re q w => ?_⟩
  refine he.sim ρ env st σ H _ _ rs re q fun x H1 ⟨ρ1, dx, st1, k1, r1, px, q1⟩ => ?_
  cases dx with
  | ref k =>
    dsimp only at q1
    split at q1
    · rename_i xs e
      obtain ⟨a, vs, rfl, hs, hr⟩ := ditems_at r1 px e
      exact ⟨a, vs, rfl, hs, fun q hq => w _ _ ((PostE.lst r1 hq hr.rev q1).keep k1)⟩
    · exact q1.elim
  | rol xs =>
    obtain ⟨a, vs, rfl, hs, hr⟩ := rep_rol px
    exact ⟨a, vs, rfl, sqf_l hs, fun q hq => w _ _ ((PostE.lst r1 hq hr.rev q1).keep k1)⟩
  | _ => exact q1.elim
end
/-! ### isinstance with a built-in class -/
def D.tyName (st : Store) : D → Option String
  | .non => some "NoneType"
  | .bl _ => some "bool"
  | .int _ => some "int"
  | .str _ => some "str"
  | .tup _ => some "tuple"
  | .rol _ => some "list"
  | .ref k => match st[k]? with
    | some (.lst _) => some "list"
    | none => none
  | .ty _ => none
/-- the answer, for the classes that are written here -/
def isiD (t c : String) : Option Bool := match c with
  | "int" => match t with
    | "int" => some true | "bool" => some true | "str" => some false | "tuple" => some false | "list" => some false | "NoneType" => some false
    | _ => none
  | "bool" => match t with
    | "int" => some false | "bool" => some true | "str" => some false | "tuple" => some false | "list" => some false | "NoneType" => some false
    | _ => none
  | "str" => match t with
    | "int" => some false | "bool" => some false | "str" => some true | "tuple" => some false | "list" => some false | "NoneType" => some false
    | _ => none
  | "tuple" => match t with
    | "int" => some false | "bool" => some false | "str" => some false | "tuple" => some true | "list" => some false | "NoneType" => some false
    | _ => none
  | "list" => match t with
    | "int" => some false | "bool" => some false | "str" => some false | "tuple" => some false | "list" => some true | "NoneType" => some false
    | _ => none
  | _ => none
theorem isi_kit : ∀ {t c : String} {b : Bool}, isiD t c = some b → kitB t c = some b := by
  intro t c b h
  unfold isiD at h
  split at h <;> first | (cases h; done) | (split at h <;> first | (cases h; decide +kernel) | cases h)
def dIsi : DRA := fun ds st Q => match ds with
  | [x, .ty c] => match x.tyName st with
    | some t => match isiD t c with
      | some b => Q (.bl b) st
      | none => False
    | none => False
  | _ => False
theorem sqt_tyx {K : PySem.W.Frag} {H : Hp} {a : Addr} {vs : List V} (h : SqT K H a vs) : TyX K H (.ref a) (.type "tuple") := by
  rcases h with (h | ⟨o, h⟩) | ⟨o, its, n, hk, hc, _⟩
  · exact .base (.tup h)
  · exact .fTuple h
  · exact .kTuple hk hc
theorem sql_tyx {K : PySem.W.Frag} {H : Hp} {a : Addr} {vs : List V} (h : SqL K H a vs) : TyX K H (.ref a) (.type "list") := by
  rcases h with (h | ⟨o, h⟩) | ⟨o, its, n, hk, hc, _⟩
  · exact .base (.lst h)
  · exact .base (.frz h)
  · exact .kList hk hc
theorem sc_isi {X : Cx} {K : PySem.W.Frag} [hk : HasK X K] : SCl X (.builtin "isinstance") (rIsi K) dIsi := by
  obtain rfl := hk.eq
  refine ⟨call_isi, fun ρ st H xs dxs Q W rs px q w => ?_⟩
  unfold dIsi at q
  split at q
  · rename_i x c
    obtain ⟨v, u, rfl, p1, p2⟩ := px.two
    obtain rfl := rep_ty p2
    split at q
    · rename_i t ht
      split at q
      · rename_i b hb
        have ty : TyX X.K H v (.type t) := by
          cases x with
          | non => cases ht; rw [rep_non p1]; exact .base .non
          | bl y => cases ht; rw [rep_bl p1]; exact .base (.bl y)
          | int y => cases ht; rw [rep_int p1]; exact .base (.int y)
          | str y => cases ht; rw [rep_str p1]; exact .base (.str y)
          | tup ys => cases ht; obtain ⟨a, vs, rfl, hs, _⟩ := rep_tup p1; exact sqt_tyx hs
          | rol ys => cases ht; obtain ⟨a, vs, rfl, hs, _⟩ := rep_rol p1; exact sql_tyx (sqf_l hs)
          | ref k =>
            unfold D.tyName at ht
            dsimp only at ht
            split at ht
            · rename_i ys e
              cases ht
              obtain ⟨a, vs, rfl, hs, _⟩ := ditems_at rs p1 e
              exact sql_tyx hs
            · cases ht
          | ty n => cases ht
        exact ⟨v, .ty c, .type t, .type c, b, rfl, .ty c, ty, kit_ty (isi_kit hb), w _ H (.of rs (.bl _) q)⟩
      · exact q.elim
    · exact q.elim
  · exact q.elim
end DL

/-! words, and how the layer sees them -/
namespace DL
open PySem PySem.Spec L2
structure Letter where
  nm : Fin 128
  hs : List Int
  deriving DecidableEq
abbrev Run := Letter × Int
abbrev Word := List Run
def dL (l : Letter) : D := .tup (.str ⟨#[l.nm.val]⟩ :: l.hs.map D.int)
def dRun (r : Run) : D := .tup [dL r.1, .int r.2]
def dW (w : Word) : D := .tup (w.map dRun)
theorem strOk1 (n : Fin 128) : PyData.strOk ⟨#[n.val]⟩ = true := by
  unfold PyData.strOk
  have := n.isLt
  simp
  omega
theorem fl_ints (n : Nat) (hs : List Int) : (hs.map D.int).all (D.fl n) = true := by
  rw [List.all_eq_true]
  intro d hd
  obtain ⟨i, _, rfl⟩ := List.mem_map.mp hd
  cases n <;> rfl
theorem fl_L (n : Nat) (l : Letter) : (dL l).fl (n + 1) = true := by
  unfold dL D.fl
  rw [List.all_cons, fl_ints, Bool.and_true]
  cases n <;> exact strOk1 l.nm
theorem fl_run (n : Nat) (r : Run) : (dRun r).fl (n + 2) = true := by
  unfold dRun D.fl
  simp only [List.all_cons, List.all_nil, Bool.and_true, fl_L, Bool.true_and]
  rfl
theorem fl_runs (n : Nat) (w : Word) : (w.map dRun).all (D.fl (n + 2)) = true := by
  rw [List.all_eq_true]
  intro d hd
  obtain ⟨i, _, rfl⟩ := List.mem_map.mp hd
  exact fl_run n i
theorem fl_W (n : Nat) (w : Word) : (dW w).fl (n + 3) = true := by
  unfold dW
  show (w.map dRun).all (D.fl (n + 2)) = true
  exact fl_runs n w
theorem eqv_ints : ∀ hs ks : List Int, PyData.eqvAll (D.pys (hs.map D.int)) (D.pys (ks.map D.int)) = decide (hs = ks)
  | [], [] => by simp [D.pys, PyData.eqvAll]
  | [], k :: ks => by simp [D.pys, PyData.eqvAll]
  | h :: hs, [] => by simp [D.pys, PyData.eqvAll]
  | h :: hs, k :: ks => by
    have ih := eqv_ints hs ks
    simp only [List.map_cons, D.pys, PyData.eqvAll, D.py, PyData.eqv, ih]
    rw [Bool.eq_iff_iff]
    simp
theorem eqv_L (l m : Letter) : PyData.eqv (dL l).py (dL m).py = decide (l = m) := by
  obtain ⟨n, hs⟩ := l
  obtain ⟨k, ks⟩ := m
  unfold dL
  simp only [D.py, D.pys, PyData.eqv, PyData.eqvAll, eqv_ints]
  rw [Bool.eq_iff_iff]
  simp [Fin.ext_iff]
theorem eqv_run (r q : Run) : PyData.eqv (dRun r).py (dRun q).py = decide (r = q) := by
  obtain ⟨l, e⟩ := r
  obtain ⟨m, f⟩ := q
  unfold dRun
  have h := eqv_L l m
  simp only [D.py, D.pys, PyData.eqv, PyData.eqvAll, h, Bool.and_true]
  rw [Bool.eq_iff_iff]
  simp
theorem eqv_runs : ∀ u v : Word, PyData.eqvAll (D.pys (u.map dRun)) (D.pys (v.map dRun)) = decide (u = v)
  | [], [] => by simp [D.pys, PyData.eqvAll]
  | [], k :: ks => by simp [D.pys, PyData.eqvAll]
  | h :: hs, [] => by simp [D.pys, PyData.eqvAll]
  | h :: hs, k :: ks => by
    have ih := eqv_runs hs ks
    have h1 := eqv_run h k
    simp only [List.map_cons, D.pys, PyData.eqvAll, ih, h1]
    rw [Bool.eq_iff_iff]
    simp
theorem eqv_W (u v : Word) : PyData.eqv (dW u).py (dW v).py = decide (u = v) := by
  unfold dW
  simp only [D.py, PyData.eqv, eqv_runs]
theorem pyd_fl {st : Store} {d : D} (h : d.fl 8 = true) : pyd st d = some d.py := by
  unfold pyd
  rw [if_pos h]
theorem dEqv_fl {st : Store} {x y : D} (hx : x.fl 8 = true) (hy : y.fl 8 = true) : dEqv st x y = some (PyData.eqv x.py y.py) := by
  unfold dEqv
  rw [pyd_fl hx, pyd_fl hy]
theorem dEqv_int {st : Store} (i j : Int) : dEqv st (.int i) (.int j) = some (decide (i = j)) := by
  rw [dEqv_fl rfl rfl]
  simp only [D.py, PyData.eqv]
  congr 1
theorem dEqv_L {st : Store} (l m : Letter) : dEqv st (dL l) (dL m) = some (decide (l = m)) := by
  rw [dEqv_fl (fl_L 7 l) (fl_L 7 m), eqv_L]
theorem dEqv_run {st : Store} (l m : Run) : dEqv st (dRun l) (dRun m) = some (decide (l = m)) := by
  rw [dEqv_fl (fl_run 6 l) (fl_run 6 m), eqv_run]
theorem dEqv_W {st : Store} (l m : Word) : dEqv st (dW l) (dW m) = some (decide (l = m)) := by
  rw [dEqv_fl (fl_W 5 l) (fl_W 5 m), eqv_W]
end DL

/-! words as lists of runs: the mathematics -/
namespace Wd
variable {α : Type} [DecidableEq α]
/-- a run put ahead of a reduced word -/
def cons (r : α × Int) : List (α × Int) → List (α × Int)
  | [] => if r.2 = 0 then [] else [r]
  | m :: t => if m.1 = r.1 then (if r.2 + m.2 = 0 then t else (r.1, r.2 + m.2) :: t) else if r.2 = 0 then m :: t else r :: m :: t
def Red : List (α × Int) → Prop
  | [] => True
  | r :: t => r.2 ≠ 0 ∧ (∀ m ∈ t.head?, m.1 ≠ r.1) ∧ Red t
def act (u w : List (α × Int)) : List (α × Int) := u.foldr cons w
def red (u : List (α × Int)) : List (α × Int) := act u []
def inv (u : List (α × Int)) : List (α × Int) := (u.map fun r => (r.1, -r.2)).reverse
theorem c0 (r : α × Int) : cons r [] = if r.2 = 0 then [] else [r] := rfl
theorem c1 (r m : α × Int) (t : List (α × Int)) : cons r (m :: t) = if m.1 = r.1 then (if r.2 + m.2 = 0 then t else (r.1, r.2 + m.2) :: t) else if r.2 = 0 then m :: t else r :: m :: t := rfl
theorem Red.tail {r : α × Int} {t : List (α × Int)} (h : Red (r :: t)) : Red t := h.2.2
theorem Red.cons {r : α × Int} {w : List (α × Int)} (h : Red w) : Red (cons r w) := by
  obtain ⟨l, e⟩ := r
  cases w with
  | nil =>
    first | rw [c0] | rw [c1]
    by_cases he : e = 0
    · rw [if_pos he]
      trivial
    · rw [if_neg he]
      exact ⟨he, by simp, trivial⟩
  | cons m t =>
    first | rw [c0] | rw [c1]
    by_cases hm : m.1 = l
    · rw [if_pos hm]
      by_cases hz : e + m.2 = 0
      · rw [if_pos hz]
        exact h.2.2
      · rw [if_neg hz]
        refine ⟨hz, ?_, h.2.2⟩
        have := h.2.1
        rw [hm] at this
        exact this
    · rw [if_neg hm]
      by_cases he : e = 0
      · rw [if_pos he]
        exact h
      · rw [if_neg he]
        refine ⟨he, ?_, h⟩
        intro x hx
        simp at hx
        subst hx
        exact hm
theorem cons_zero {l : α} {w : List (α × Int)} (h : Red w) : cons (l, 0) w = w := by
  cases w with
  | nil => rfl
  | cons m t =>
    first | rw [c0] | rw [c1]
    by_cases hm : m.1 = l
    · rw [if_pos hm, if_neg (by have := h.1; simpa using this)]
      obtain ⟨a, b⟩ := m
      cases hm
      simp
    · rw [if_neg hm, if_pos rfl]
theorem cons_cons {l : α} {e f : Int} {w : List (α × Int)} (h : Red w) : cons (l, e) (cons (l, f) w) = cons (l, e + f) w := by
  cases w with
  | nil =>
    first | rw [c0] | rw [c1]
    by_cases hf : f = 0
    · subst hf
      simp
    · simp only [hf, if_false, ↓reduceIte]
      rw [c1, c0]
      simp
  | cons m t =>
    obtain ⟨a, b⟩ := m
    by_cases hm : a = l
    · subst hm
      by_cases hz : f + b = 0
      · have e1 : cons (a, f) ((a, b) :: t) = t := by simp [cons, hz]
        rw [e1]
        have hb : e + f + b = e := by omega
        cases t with
        | nil =>
          by_cases he : e = 0
          · simp [cons, he, hz]
          · simp [cons, he, hb]
        | cons q t =>
          have hq : q.1 ≠ a := h.2.1 q (by simp)
          by_cases he : e = 0
          · simp [cons, he, hq, hz]
          · simp [cons, he, hq, hb]
      · have e1 : cons (a, f) ((a, b) :: t) = (a, f + b) :: t := by simp [cons, hz]
        rw [e1]
        have hb : e + (f + b) = e + f + b := by omega
        simp [cons, hb]
    · by_cases hf : f = 0
      · subst hf
        have e1 : cons (l, 0) ((a, b) :: t) = (a, b) :: t := cons_zero h
        rw [e1]
        simp
      · have e1 : cons (l, f) ((a, b) :: t) = (l, f) :: (a, b) :: t := by simp [cons, hm, hf]
        rw [e1]
        by_cases hz : e + f = 0
        · simp [cons, hm, hz]
        · simp [cons, hm, hz]
theorem Red.act {u w : List (α × Int)} (h : Red w) : Red (act u w) := by
  induction u with
  | nil => exact h
  | cons r u ih => exact Red.cons ih
theorem Red.red {u : List (α × Int)} : Red (red u) := Red.act (w := []) trivial
theorem act_app (u v w : List (α × Int)) : act (u ++ v) w = act u (act v w) := List.foldr_append
theorem act_cons {r : α × Int} {u w : List (α × Int)} (h : Red w) : act (cons r u) w = cons r (act u w) := by
  obtain ⟨l, e⟩ := r
  cases u with
  | nil =>
    first | rw [c0] | rw [c1]
    by_cases he : e = 0
    · subst he
      rw [if_pos rfl]
      show w = _
      exact (cons_zero h).symm
    · rw [if_neg he]
      rfl
  | cons m t =>
    obtain ⟨a, b⟩ := m
    have ht : Red (act t w) := Red.act h
    show act (cons (l, e) ((a, b) :: t)) w = cons (l, e) (cons (a, b) (act t w))
    by_cases hm : a = l
    · subst hm
      rw [cons_cons ht]
      by_cases hz : e + b = 0
      · rw [hz, cons_zero ht]
        simp [cons, hz]
      · simp [cons, hz, act]
    · by_cases he : e = 0
      · subst he
        rw [cons_zero (Red.cons ht)]
        simp [cons, hm, act]
      · simp [cons, hm, he, act]
theorem act_red {u w : List (α × Int)} (h : Red w) : act (red u) w = act u w := by
  induction u with
  | nil => rfl
  | cons r u ih =>
    show act (cons r (red u)) w = cons r (act u w)
    rw [act_cons h, ih]
theorem red_of {u : List (α × Int)} (h : Red u) : red u = u := by
  induction u with
  | nil => rfl
  | cons r u ih =>
    show cons r (red u) = r :: u
    rw [ih h.2.2]
    cases u with
    | nil =>
      first | rw [c0] | rw [c1]
      rw [if_neg h.1]
    | cons m t =>
      first | rw [c0] | rw [c1]
      rw [if_neg (h.2.1 m (by simp)), if_neg h.1]
theorem red_app (u v : List (α × Int)) : red (u ++ v) = act u (red v) := act_app u v []
theorem red_red_app (u v : List (α × Int)) : red (red u ++ v) = red (u ++ v) := by
  rw [red_app, red_app, act_red Red.red]
theorem red_app_red (u v : List (α × Int)) : red (u ++ red v) = red (u ++ v) := by
  rw [red_app, red_app, red_of Red.red]
theorem act_inv {u w : List (α × Int)} (h : Red w) : act u (act (inv u) w) = w := by
  induction u generalizing w with
  | nil => rfl
  | cons r u ih =>
    obtain ⟨l, e⟩ := r
    have e1 : inv ((l, e) :: u) = inv u ++ [(l, -e)] := by simp [inv]
    rw [e1, act_app]
    show cons (l, e) (act u (act (inv u) (cons (l, -e) w))) = w
    rw [ih (Red.cons h), cons_cons h, Int.add_right_neg, cons_zero h]
theorem inv_inv (u : List (α × Int)) : inv (inv u) = u := by
  unfold inv
  rw [List.map_reverse, List.reverse_reverse, List.map_map]
  have : ((fun r : α × Int => (r.1, -r.2)) ∘ fun r => (r.1, -r.2)) = id := by
    funext r
    simp
  rw [this, List.map_id]
theorem red_app_inv (u : List (α × Int)) : red (u ++ inv u) = [] := by
  rw [red_app]
  exact act_inv trivial
theorem red_inv_app (u : List (α × Int)) : red (inv u ++ u) = [] := by
  have h := red_app_inv (inv u)
  rw [inv_inv] at h
  exact h
theorem act_cons_rev {r : α × Int} {u w : List (α × Int)} (h : Red w) : act (cons r u).reverse w = act (u.reverse ++ [r]) w := by
  obtain ⟨l, e⟩ := r
  cases u with
  | nil =>
    first | rw [c0] | rw [c1]
    by_cases he : e = 0
    · subst he
      rw [if_pos rfl]
      show w = cons (l, 0) w
      exact (cons_zero h).symm
    · rw [if_neg he]
      rfl
  | cons m t =>
    obtain ⟨a, b⟩ := m
    by_cases hm : a = l
    · subst hm
      have e2 : act (((a, b) :: t).reverse ++ [(a, e)]) w = act t.reverse (cons (a, b + e) w) := by
        rw [List.reverse_cons, act_app, act_app]
        show act t.reverse (cons (a, b) (cons (a, e) w)) = _
        rw [cons_cons h]
      rw [e2]
      by_cases hz : e + b = 0
      · have hz' : b + e = 0 := by omega
        rw [hz', cons_zero h]
        simp [cons, hz]
      · have hz' : b + e = e + b := by omega
        rw [hz']
        have : cons (a, e) ((a, b) :: t) = (a, e + b) :: t := by simp [cons, hz]
        rw [this, List.reverse_cons, act_app]
        rfl
    · by_cases he : e = 0
      · subst he
        have : cons (l, 0) ((a, b) :: t) = (a, b) :: t := by simp [cons, hm]
        rw [this, act_app]
        show _ = act _ (cons (l, 0) w)
        rw [cons_zero h]
      · have : cons (l, e) ((a, b) :: t) = (l, e) :: (a, b) :: t := by simp [cons, hm, he]
        rw [this, List.reverse_cons]
theorem act_red_rev {u w : List (α × Int)} (h : Red w) : act (red u).reverse w = act u.reverse w := by
  induction u generalizing w with
  | nil => rfl
  | cons r u ih =>
    show act (cons r (red u)).reverse w = _
    rw [act_cons_rev h, act_app, ih (w := act [r] w) (Red.act h), List.reverse_cons, act_app]
theorem red_iff {u : List (α × Int)} : Red u ↔ (∀ r ∈ u, r.2 ≠ 0) ∧ ∀ (i : Nat) a b, u[i]? = some a → u[i + 1]? = some b → a.1 ≠ b.1 := by
  induction u with
  | nil => simp [Red]
  | cons r u ih =>
    unfold Red
    rw [ih]
    constructor
    · rintro ⟨h1, h2, h3, h4⟩
      refine ⟨?_, ?_⟩
      · intro x hx
        rcases List.mem_cons.mp hx with rfl | hx
        · exact h1
        · exact h3 x hx
      · intro i a b ha hb
        cases i with
        | zero =>
          simp at ha hb
          subst ha
          exact (h2 b (by rw [List.head?_eq_getElem?]; exact hb)).symm
        | succ i =>
          simp at ha hb
          exact h4 i a b ha hb
    · rintro ⟨h1, h2⟩
      refine ⟨h1 r (by simp), ?_, fun x hx => h1 x (by simp [hx]), fun i a b ha hb => h2 (i + 1) a b (by simpa using ha) (by simpa using hb)⟩
      intro m hm
      rw [List.head?_eq_getElem?] at hm
      exact (h2 0 r m rfl (by simpa using hm)).symm
theorem Red.rev {u : List (α × Int)} (h : Red u) : Red u.reverse := by
  rw [red_iff] at h ⊢
  refine ⟨fun r hr => h.1 r (by simpa using hr), fun i a b ha hb => ?_⟩
  have hi : i + 1 < u.length := by
    have := (List.getElem?_eq_some_iff.mp hb).1
    simpa using this
  rw [List.getElem?_reverse (by omega)] at ha
  rw [List.getElem?_reverse (by omega)] at hb
  refine (h.2 (u.length - 1 - (i + 1)) b a hb ?_).symm
  rw [show u.length - 1 - (i + 1) + 1 = u.length - 1 - i by omega]
  exact ha
theorem red_rev (u : List (α × Int)) : (red u).reverse = red u.reverse := by
  have h := act_red_rev (u := u) (w := []) trivial
  rw [← red_of (Red.rev Red.red)]
  exact h
/-- what the program's loop from the left makes -/
theorem red_left (u : List (α × Int)) : (u.foldl (fun s r => cons r s) []).reverse = red u := by
  have e : u.foldl (fun s r => cons r s) [] = red u.reverse := by
    unfold red act
    rw [List.foldr_reverse]
  rw [e, red_rev, List.reverse_reverse]
theorem len_cons (r : α × Int) (w : List (α × Int)) : (cons r w).length ≤ w.length + 1 := by
  cases w with
  | nil =>
    rw [c0]
    by_cases h : r.2 = 0
    · rw [if_pos h]; simp
    · rw [if_neg h]; simp
  | cons m t =>
    rw [c1]
    split <;> split <;> simp <;> omega
theorem len_red (u : List (α × Int)) : (red u).length ≤ u.length := by
  induction u with
  | nil => exact Nat.le_refl _
  | cons r u ih =>
    have := len_cons r (red u)
    show (cons r (red u)).length ≤ u.length + 1
    omega
theorem Red.take {u : List (α × Int)} (h : Red u) (n : Nat) : Red (u.take n) := by
  rw [red_iff] at h ⊢
  refine ⟨fun r hr => h.1 r (List.mem_of_mem_take hr), fun i a b ha hb => ?_⟩
  rw [List.getElem?_take] at ha hb
  split at ha
  · split at hb
    · exact h.2 i a b ha hb
    · cases hb
  · cases ha
theorem Red.drop {u : List (α × Int)} (h : Red u) (n : Nat) : Red (u.drop n) := by
  rw [red_iff] at h ⊢
  refine ⟨fun r hr => h.1 r (List.mem_of_mem_drop hr), fun i a b ha hb => ?_⟩
  rw [List.getElem?_drop] at ha hb
  exact h.2 (n + i) a b ha hb
theorem Red.inv {u : List (α × Int)} (h : Red u) : Red (inv u) := by
  unfold Wd.inv
  apply Red.rev
  rw [red_iff] at h ⊢
  refine ⟨fun r hr => ?_, fun i a b ha hb => ?_⟩
  · obtain ⟨x, hx, rfl⟩ := List.mem_map.mp hr
    have := h.1 x hx
    show -x.2 ≠ 0
    omega
  · rw [List.getElem?_map] at ha hb
    obtain ⟨x, hx, rfl⟩ := Option.map_eq_some_iff.mp ha
    obtain ⟨y, hy, rfl⟩ := Option.map_eq_some_iff.mp hb
    exact h.2 i x y hx hy
/-- the product at a seam -/
theorem Red.app {u v : List (α × Int)} (hu : Red u) (hv : Red v) (h : ∀ a b, u.getLast? = some a → v.head? = some b → a.1 ≠ b.1) : Red (u ++ v) := by
  rw [red_iff] at hu hv ⊢
  refine ⟨fun r hr => (List.mem_append.mp hr).elim (hu.1 r) (hv.1 r), fun i a b ha hb => ?_⟩
  by_cases h1 : i + 1 < u.length
  · rw [List.getElem?_append_left (by omega)] at ha
    rw [List.getElem?_append_left h1] at hb
    exact hu.2 i a b ha hb
  · rw [List.getElem?_append_right (by omega)] at hb
    by_cases h2 : i < u.length
    · rw [List.getElem?_append_left h2] at ha
      refine h a b ?_ ?_
      · rw [List.getLast?_eq_getElem?, show u.length - 1 = i by omega]
        exact ha
      · rw [List.head?_eq_getElem?, ← hb, show i + 1 - u.length = 0 by omega]
    · rw [List.getElem?_append_right (by omega)] at ha
      refine hv.2 (i - u.length) a b ha ?_
      rw [show i - u.length + 1 = i + 1 - u.length by omega]
      exact hb
theorem Red.seam {A B : List (α × Int)} (h : Red (A ++ B)) {a b : α × Int} (ha : A.getLast? = some a) (hb : B.head? = some b) : a.1 ≠ b.1 := by
  rw [red_iff] at h
  have h0 : 0 < A.length := by
    cases A with
    | nil => simp at ha
    | cons _ _ => simp
  refine h.2 (A.length - 1) a b ?_ ?_
  · rw [List.getElem?_append_left (by omega), ← List.getLast?_eq_getElem?]
    exact ha
  · rw [List.getElem?_append_right (by omega), ← hb, List.head?_eq_getElem?, show A.length - 1 + 1 - A.length = 0 by omega]
theorem Red.left {A B : List (α × Int)} (h : Red (A ++ B)) : Red A := by
  have := h.take A.length
  rwa [List.take_left] at this
theorem Red.right {A B : List (α × Int)} (h : Red (A ++ B)) : Red B := by
  have := h.drop A.length
  rwa [List.drop_left] at this
theorem meet_eq (A B : List (α × Int)) (l : α) (e f : Int) : red (A ++ (l, e) :: (l, f) :: B) = red (A ++ (l, e + f) :: B) := by
  rw [red_app, red_app]
  show act A (cons (l, e) (cons (l, f) (red B))) = act A (cons (l, e + f) (red B))
  rw [cons_cons Red.red]
theorem zero_eq (A B : List (α × Int)) (l : α) : red (A ++ (l, 0) :: B) = red (A ++ B) := by
  rw [red_app, red_app]
  show act A (cons (l, 0) (red B)) = act A (red B)
  rw [cons_zero Red.red]
theorem Red.mid {A B : List (α × Int)} {l : α} {e f t : Int} (h1 : Red (A ++ [(l, e)])) (h2 : Red ((l, f) :: B)) (ht : t ≠ 0) : Red (A ++ (l, t) :: B) := by
  refine Red.app h1.left ⟨ht, h2.2.1, h2.2.2⟩ fun a b ha hb => ?_
  simp at hb
  subst hb
  exact h1.seam ha (b := (l, e)) rfl
end Wd

/-! powers and conjugates -/
namespace Wd
variable {α : Type} [DecidableEq α]
theorem cancel_l (x v : List (α × Int)) : red (inv x ++ (x ++ v)) = red v := by
  rw [red_app, red_app]
  have h := act_inv (u := inv x) (w := red v) Red.red
  rwa [inv_inv] at h
theorem cancel_r (x v : List (α × Int)) : red (x ++ (inv x ++ v)) = red v := by
  rw [red_app, red_app]
  exact act_inv Red.red
/-- the same elements -/
theorem app_congr {a b c d : List (α × Int)} (h : red a = red b) (k : red c = red d) : red (a ++ c) = red (b ++ d) := by
  rw [← red_red_app, h, red_red_app, ← red_app_red, k, red_app_red]
theorem red_red (u : List (α × Int)) : red (red u) = red u := red_of Red.red
def rep (n : Nat) (w : List (α × Int)) : List (α × Int) := (List.replicate n w).flatten
theorem rep_succ (n : Nat) (w : List (α × Int)) : rep (n + 1) w = w ++ rep n w := by
  unfold rep
  rw [List.replicate_succ, List.flatten_cons]
theorem len_rep (n : Nat) (w : List (α × Int)) : (rep n w).length = n * w.length := by
  induction n with
  | zero => simp [rep]
  | succ n ih => rw [rep_succ, List.length_append, ih, Nat.succ_mul, Nat.add_comm]
/-- the power -/
def pw (w : List (α × Int)) (e : Int) : List (α × Int) := red (rep e.natAbs (if 0 < e then w else inv w))
theorem Red.pw {w : List (α × Int)} {e : Int} : Red (pw w e) := Red.red
theorem len_inv (w : List (α × Int)) : (inv w).length = w.length := by
  unfold inv
  rw [List.length_reverse, List.length_map]
theorem len_pw (w : List (α × Int)) (e : Int) : (pw w e).length ≤ e.natAbs * w.length := by
  refine Nat.le_trans (len_red _) ?_
  rw [len_rep]
  split
  · exact Nat.le_refl _
  · rw [len_inv]
    exact Nat.le_refl _
theorem pw_zero (w : List (α × Int)) : pw w 0 = [] := rfl
theorem pw_nat (w : List (α × Int)) (n : Nat) : pw w n = red (rep n w) := by
  unfold pw
  rw [Int.natAbs_natCast]
  split
  · rfl
  · have : n = 0 := by omega
    subst this
    rfl
theorem pw_neg (w : List (α × Int)) (n : Nat) : pw w (-n) = red (rep n (inv w)) := by
  unfold pw
  rw [Int.natAbs_neg, Int.natAbs_natCast, if_neg (by omega)]
theorem pw_up (w : List (α × Int)) (e : Int) : red (w ++ pw w e) = pw w (e + 1) := by
  by_cases h : 0 ≤ e
  · obtain ⟨n, rfl⟩ : ∃ n : Nat, e = n := ⟨e.toNat, by omega⟩
    rw [pw_nat, show ((n : Int) + 1) = ((n + 1 : Nat) : Int) by omega, pw_nat, rep_succ, red_app_red]
  · obtain ⟨n, rfl⟩ : ∃ n : Nat, e = -((n + 1 : Nat) : Int) := ⟨(-e - 1).toNat, by omega⟩
    rw [pw_neg, rep_succ, red_app_red, cancel_r, show -((n + 1 : Nat) : Int) + 1 = -(n : Int) by omega, pw_neg]
theorem pw_down (w : List (α × Int)) (e : Int) : red (inv w ++ pw w e) = pw w (e - 1) := by
  have h := pw_up w (e - 1)
  rw [show e - 1 + 1 = e by omega] at h
  rw [← h, red_app_red, cancel_l]
  exact red_red _
theorem pw_one {w : List (α × Int)} (h : Red w) : pw w 1 = w := by
  have := pw_up w 0
  rw [pw_zero, List.append_nil, red_of h] at this
  exact this.symm
/-- by steps up and down -/
theorem int_steps {P : Int → Prop} (h0 : P 0) (up : ∀ e, P e → P (e + 1)) (down : ∀ e, P e → P (e - 1)) (e : Int) : P e := by
  have hp : ∀ n : Nat, P n := fun n => by
    induction n with
    | zero => exact h0
    | succ n ih => exact up _ ih
  have hn : ∀ n : Nat, P (-n) := fun n => by
    induction n with
    | zero => exact h0
    | succ n ih =>
      have := down _ ih
      rwa [show -(n : Int) - 1 = -((n + 1 : Nat) : Int) by omega] at this
  by_cases h : 0 ≤ e
  · have := hp e.toNat
    rwa [Int.toNat_of_nonneg h] at this
  · have := hn (-e).toNat
    rwa [Int.toNat_of_nonneg (by omega), Int.neg_neg] at this
theorem pw_add (w : List (α × Int)) (a b : Int) : red (pw w a ++ pw w b) = pw w (a + b) := by
  refine int_steps (P := fun a => red (pw w a ++ pw w b) = pw w (a + b)) ?_ (fun e ih => ?_) (fun e ih => ?_) a
  · show red (pw w 0 ++ pw w b) = pw w (0 + b)
    rw [pw_zero, List.nil_append, Int.zero_add]
    exact red_of Red.pw
  · rw [← pw_up, red_red_app, List.append_assoc, ← red_app_red, ih, pw_up]
    congr 1
    omega
  · rw [← pw_down, red_red_app, List.append_assoc, ← red_app_red, ih, pw_down]
    congr 1
    omega
theorem pw_mul (w : List (α × Int)) (a b : Int) : pw (pw w a) b = pw w (a * b) := by
  refine int_steps (P := fun b => pw (pw w a) b = pw w (a * b)) ?_ (fun e ih => ?_) (fun e ih => ?_) b
  · show pw (pw w a) 0 = pw w (a * 0)
    rw [Int.mul_zero, pw_zero, pw_zero]
  · rw [← pw_up, ih, pw_add, Int.mul_add, Int.mul_one, Int.add_comm]
  · rw [← pw_down, ih, show a * e = a + a * (e - 1) by rw [Int.mul_sub, Int.mul_one]; omega, ← pw_add, red_app_red, cancel_l]
    exact red_of Red.pw
theorem pw_conj (t w : List (α × Int)) (e : Int) : pw (red (t ++ (w ++ inv t))) e = red (t ++ (pw w e ++ inv t)) := by
  have key : ∀ e, red (red (t ++ (w ++ inv t)) ++ (t ++ (pw w e ++ inv t))) = red (t ++ (pw w (e + 1) ++ inv t)) := by
    intro e
    rw [red_red_app, List.append_assoc, List.append_assoc]
    refine app_congr rfl ?_
    have h1 : red (inv t ++ (t ++ (pw w e ++ inv t))) = red (pw w e ++ inv t) := cancel_l _ _
    rw [app_congr (rfl : red w = red w) h1, ← List.append_assoc, ← red_red_app, pw_up]
  refine int_steps (P := fun e => pw (red (t ++ (w ++ inv t))) e = red (t ++ (pw w e ++ inv t))) ?_ (fun e ih => ?_) (fun e ih => ?_) e
  · show pw _ 0 = red (t ++ (pw w 0 ++ inv t))
    rw [pw_zero, pw_zero, List.nil_append, red_app_inv]
  · rw [← pw_up, ih, red_app_red, key]
  · rw [← pw_down, ih]
    have h := key (e - 1)
    rw [show e - 1 + 1 = e by omega] at h
    rw [← h, red_app_red, cancel_l]
/-- one run, many times -/
theorem red_rep_one (l : α) (c : Int) (n : Nat) : red (rep n [(l, c)]) = if c * n = 0 then [] else [(l, c * n)] := by
  induction n with
  | zero => simp [rep, red, act]
  | succ n ih =>
    rw [rep_succ]
    show cons (l, c) (red (rep n [(l, c)])) = _
    rw [ih]
    have e : c * ((n + 1 : Nat) : Int) = c + c * n := by
      rw [show ((n + 1 : Nat) : Int) = n + 1 by omega, Int.mul_add, Int.mul_one, Int.add_comm]
    rw [e]
    by_cases h : c * (n : Int) = 0
    · rw [if_pos h, c0, h, Int.add_zero]
    · rw [if_neg h, c1, if_pos rfl]
theorem pw_single {l : α} {c e : Int} (hc : c ≠ 0) (he : e ≠ 0) : pw [(l, c)] e = [(l, c * e)] := by
  by_cases h : 0 ≤ e
  · obtain ⟨n, rfl⟩ : ∃ n : Nat, e = n := ⟨e.toNat, by omega⟩
    rw [pw_nat, red_rep_one, if_neg (Int.mul_ne_zero hc he)]
  · obtain ⟨n, rfl⟩ : ∃ n : Nat, e = -(n : Int) := ⟨(-e).toNat, by omega⟩
    have e1 : inv [(l, c)] = [(l, -c)] := rfl
    have e2 : -c * (n : Int) = c * -(n : Int) := by rw [Int.neg_mul, Int.mul_neg]
    rw [pw_neg, e1, red_rep_one, e2, if_neg (Int.mul_ne_zero hc he)]
theorem pw_nil (e : Int) : pw ([] : List (α × Int)) e = [] := by
  unfold pw
  have e1 : (if 0 < e then ([] : List (α × Int)) else inv []) = [] := by split <;> rfl
  rw [e1]
  have : ∀ n, rep n ([] : List (α × Int)) = [] := fun n => by
    induction n with
    | zero => rfl
    | succ n ih => rw [rep_succ, ih]; rfl
  rw [this]
  rfl
end Wd

/-! sizes, circles, cores -/
namespace Wd
variable {α : Type} [DecidableEq α]
def size (w : List (α × Int)) : Nat := (w.map fun r => r.2.natAbs).sum
theorem size_nil : size ([] : List (α × Int)) = 0 := rfl
theorem size_cons (r : α × Int) (w : List (α × Int)) : size (r :: w) = r.2.natAbs + size w := by
  unfold size
  rw [List.map_cons, List.sum_cons]
theorem size_app (u v : List (α × Int)) : size (u ++ v) = size u + size v := by
  induction u with
  | nil => simp [size_nil]
  | cons r u ih => rw [List.cons_append, size_cons, size_cons, ih]; omega
theorem size_inv (u : List (α × Int)) : size (inv u) = size u := by
  induction u with
  | nil => rfl
  | cons r u ih =>
    have e : inv (r :: u) = inv u ++ [(r.1, -r.2)] := by simp [inv]
    rw [e, size_app, ih, size_cons, size_cons, size_nil]
    simp only [Int.natAbs_neg]
    omega
theorem size_cons_le (r : α × Int) (w : List (α × Int)) : size (cons r w) ≤ r.2.natAbs + size w := by
  cases w with
  | nil =>
    rw [c0]
    split
    · simp [size_nil]
    · simp [size_cons, size_nil]
  | cons m t =>
    rw [c1, size_cons]
    split
    · split
      · omega
      · rw [size_cons]
        simp only
        omega
    · split
      · rw [size_cons]; omega
      · rw [size_cons, size_cons]; omega
theorem size_red (u : List (α × Int)) : size (red u) ≤ size u := by
  induction u with
  | nil => exact Nat.le_refl _
  | cons r u ih =>
    have := size_cons_le r (red u)
    rw [size_cons]
    show size (cons r (red u)) ≤ _
    omega
theorem size_pos {u : List (α × Int)} (h : Red u) (hn : u ≠ []) : 0 < size u := by
  cases u with
  | nil => exact absurd rfl hn
  | cons r u =>
    rw [size_cons]
    have := h.1
    omega
theorem inv_app (u v : List (α × Int)) : inv (u ++ v) = inv v ++ inv u := by simp [inv]
theorem inv_one (l : α) (e : Int) : inv [(l, e)] = [(l, -e)] := rfl
def cycb (w : List (α × Int)) : Bool := match w.head?, w.getLast? with
  | some a, some b => decide (w.length < 2) || (decide (a.1 ≠ b.1) || (decide (0 < a.2) == decide (0 < b.2)))
  | _, _ => true
/-- both ends -/
theorem ends {w : List (α × Int)} (h : 2 ≤ w.length) : ∃ a m b, w = a :: (m ++ [b]) := by
  match w, h with
  | a :: b :: t, _ =>
    rcases List.eq_nil_or_concat (b :: t) with h0 | ⟨m, c, h0⟩
    · cases h0
    · exact ⟨a, m, c, by rw [h0, List.concat_eq_append]⟩
theorem cycb_ends (a b : α × Int) (m : List (α × Int)) : cycb (a :: (m ++ [b])) = (decide (a.1 ≠ b.1) || (decide (0 < a.2) == decide (0 < b.2))) := by
  unfold cycb
  have e1 : (a :: (m ++ [b])).getLast? = some b := by rw [← List.cons_append, List.getLast?_concat]
  rw [e1]
  have : decide ((a :: (m ++ [b])).length < 2) = false := by simp
  simp only [List.head?_cons, this, Bool.false_or]
theorem cycb_small {w : List (α × Int)} (h : w.length < 2) : cycb w = true := by
  match w, h with
  | [], _ => rfl
  | [a], _ => simp [cycb]
theorem size_sq (w : List (α × Int)) (h : Red w) : (decide (size (red (w ++ w)) = 2 * size w)) = cycb w := by
  by_cases hs : w.length < 2
  · rw [cycb_small hs]
    match w, hs with
    | [], _ => rfl
    | [(l, e)], _ =>
      have he : e ≠ 0 := h.1
      have e1 : red ([(l, e)] ++ [(l, e)]) = [(l, e + e)] := by
        show cons (l, e) (cons (l, e) []) = _
        rw [c0, if_neg he, c1, if_pos rfl, if_neg (by simp only; omega)]
      rw [e1]
      simp only [size_cons, size_nil]
      simp
      omega
  · obtain ⟨⟨l, f⟩, m, ⟨l', e⟩, rfl⟩ := ends (w := w) (by omega)
    rw [cycb_ends]
    have hr1 : Red ((l, f) :: (m ++ [(l', e)])) := h
    have hr2 : Red (((l, f) :: m) ++ [(l', e)]) := by rw [List.cons_append]; exact h
    have he : e ≠ 0 := hr2.right.1
    have hf : f ≠ 0 := hr1.1
    by_cases hll : l = l'
    · subst hll
      have e1 : ((l, f) :: (m ++ [(l, e)])) ++ ((l, f) :: (m ++ [(l, e)])) = ((l, f) :: m) ++ (l, e) :: (l, f) :: (m ++ [(l, e)]) := by simp
      rw [e1, meet_eq]
      have e2 : decide ((l, f).1 ≠ (l, e).1) = false := by simp
      rw [e2, Bool.false_or]
      simp only
      by_cases hs : (0 < f ↔ 0 < e)
      · have hr : Red (((l, f) :: m) ++ (l, e + f) :: (m ++ [(l, e)])) := Red.mid hr2 hr1 (by omega)
        rw [red_of hr]
        have : (decide (0 < f) == decide (0 < e)) = true := by simp [hs]
        rw [this]
        simp only [size_app, size_cons, size_nil, decide_eq_true_eq]
        omega
      · have : (decide (0 < f) == decide (0 < e)) = false := by
          rw [Bool.eq_false_iff]
          intro hb
          apply hs
          simpa using hb
        rw [this]
        have := size_red (((l, f) :: m) ++ (l, e + f) :: (m ++ [(l, e)]))
        simp only [size_app, size_cons, size_nil, decide_eq_false_iff_not] at this ⊢
        omega
    · have hr : Red (((l, f) :: (m ++ [(l', e)])) ++ ((l, f) :: (m ++ [(l', e)]))) := Red.app h h fun a b ha hb => by
        rw [← List.cons_append, List.getLast?_concat] at ha
        cases ha
        cases hb
        exact fun z => hll z.symm
      rw [red_of hr]
      have : decide ((l, f).1 ≠ (l', e).1) = true := by simp [hll]
      rw [this, Bool.true_or]
      simp only [size_app, decide_eq_true_eq]
      omega
/-- a word, taken apart -/
structure Core (w o c : List (α × Int)) : Prop where
  ro : Red o
  rc : Red c
  eq : red (o ++ (c ++ inv o)) = w
  sz : size w = 2 * size o + size c
  cy : cycb c = true
theorem core_done {w p k : List (α × Int)} (hw : Red w) (e : w = p ++ (k ++ inv p)) (hc : cycb k = true) : Core w p k := by
  have hw' := hw
  rw [e] at hw'
  refine ⟨hw'.left, hw'.right.left, by rw [← e]; exact red_of hw, ?_, hc⟩
  rw [e, size_app, size_app, size_inv]
  omega
def taken (f e : Int) : Int := if f.natAbs < e.natAbs then f else -e
theorem core_taken {w p mid : List (α × Int)} {l : α} {f e : Int} (hw : Red w) (h : w = p ++ (((l, f) :: (mid ++ [(l, e)])) ++ inv p)) (hs : ¬ (0 < f ↔ 0 < e)) (hne : f ≠ -e) :
    Core w (p ++ [(l, taken f e)]) (red ((l, f - taken f e) :: (mid ++ [(l, e + taken f e)]))) := by
  have hw' := hw
  rw [h] at hw'
  have hk : Red ((l, f) :: (mid ++ [(l, e)])) := hw'.right.left
  have hk2 : Red (((l, f) :: mid) ++ [(l, e)]) := by rw [List.cons_append]; exact hk
  have hf : f ≠ 0 := hk.1
  have he : e ≠ 0 := hk2.right.1
  have hp : Red (p ++ [(l, f)]) := by
    have : p ++ (((l, f) :: (mid ++ [(l, e)])) ++ inv p) = (p ++ [(l, f)]) ++ ((mid ++ [(l, e)]) ++ inv p) := by simp
    rw [this] at hw'
    exact hw'.left
  have ht : taken f e ≠ 0 := by
    unfold taken
    split <;> omega
  obtain ⟨q, mid', rfl⟩ : ∃ q mid', mid = q :: mid' := by
    cases mid with
    | nil => exact absurd rfl (hk.2.1 (l, e) (by simp)).symm
    | cons q m => exact ⟨q, m, rfl⟩
  obtain ⟨m2, z, hz⟩ : ∃ m2 z, q :: mid' = m2 ++ [z] := by
    rcases List.eq_nil_or_concat (q :: mid') with h0 | ⟨m2, z, h0⟩
    · cases h0
    · exact ⟨m2, z, by rw [h0, List.concat_eq_append]⟩
  have hq : q.1 ≠ l := hk.2.1 q (by simp)
  have hzl : z.1 ≠ l := by
    have := hk2.seam (a := z) (b := (l, e)) (by rw [hz, ← List.cons_append, List.getLast?_concat]) rfl
    exact this
  have hmid : Red (q :: mid') := hk.2.2.left
  refine ⟨Red.mid (B := []) (f := f) hp ⟨hf, by simp, trivial⟩ ht, Red.red, ?_, ?_, ?_⟩
  · have e1 : (p ++ [(l, taken f e)]) ++ (red ((l, f - taken f e) :: (q :: mid' ++ [(l, e + taken f e)])) ++ inv (p ++ [(l, taken f e)])) = p ++ ([(l, taken f e)] ++ (red ((l, f - taken f e) :: (q :: mid' ++ [(l, e + taken f e)])) ++ ([(l, -taken f e)] ++ inv p))) := by
      rw [inv_app, inv_one]
      simp
    have e2 : red ([(l, taken f e)] ++ (((l, f - taken f e) :: (q :: mid' ++ [(l, e + taken f e)])) ++ ([(l, -taken f e)] ++ inv p))) = red (((l, f) :: (q :: mid' ++ [(l, e)])) ++ inv p) := by
      have a1 : [(l, taken f e)] ++ (((l, f - taken f e) :: (q :: mid' ++ [(l, e + taken f e)])) ++ ([(l, -taken f e)] ++ inv p)) = [] ++ (l, taken f e) :: (l, f - taken f e) :: (q :: mid' ++ ((l, e + taken f e) :: (l, -taken f e) :: inv p)) := by simp
      rw [a1, meet_eq]
      have a2 : [] ++ (l, taken f e + (f - taken f e)) :: (q :: mid' ++ ((l, e + taken f e) :: (l, -taken f e) :: inv p)) = ((l, f) :: (q :: mid')) ++ ((l, e + taken f e) :: (l, -taken f e) :: inv p) := by
        rw [show taken f e + (f - taken f e) = f by omega]
        simp
      rw [a2, meet_eq, show e + taken f e + -taken f e = e by omega]
      simp
    rw [e1, app_congr (rfl : red p = red p) (app_congr (rfl : red [(l, taken f e)] = _) (red_red_app _ _)), app_congr (rfl : red p = red p) e2, ← h]
    exact red_of hw
  · rw [h]
    simp only [size_app, size_cons, size_nil, size_inv]
    by_cases hlt : f.natAbs < e.natAbs
    · have t1 : taken f e = f := if_pos hlt
      rw [t1, show f - f = 0 by omega]
      have r1 : Red (q :: mid' ++ [(l, e + f)]) := Red.app hmid ⟨by simp only; omega, by simp, trivial⟩ fun a b ha hb => by
        rw [hz] at ha
        simp at ha hb
        subst ha hb
        exact hzl
      have := zero_eq [] (q :: mid' ++ [(l, e + f)]) l
      rw [List.nil_append, List.nil_append] at this
      rw [this, red_of r1]
      simp only [List.cons_append, size_app, size_cons, size_nil]
      omega
    · have t1 : taken f e = -e := if_neg hlt
      rw [t1, show e + -e = 0 by omega]
      have r1 : Red ((l, f - -e) :: (q :: mid')) := ⟨by simp only; omega, by intro x hx; simp at hx; subst hx; exact hq, hmid⟩
      have := zero_eq ((l, f - -e) :: (q :: mid')) [] l
      rw [List.append_nil] at this
      have a3 : (l, f - -e) :: (q :: mid' ++ [(l, 0)]) = ((l, f - -e) :: (q :: mid')) ++ [(l, 0)] := by simp
      rw [a3, this, red_of r1]
      simp only [size_app, size_cons, size_nil]
      omega
  · by_cases hlt : f.natAbs < e.natAbs
    · have t1 : taken f e = f := if_pos hlt
      rw [t1, show f - f = 0 by omega]
      have r1 : Red (q :: mid' ++ [(l, e + f)]) := Red.app hmid ⟨by simp only; omega, by simp, trivial⟩ fun a b ha hb => by
        rw [hz] at ha
        simp at ha hb
        subst ha hb
        exact hzl
      have := zero_eq [] (q :: mid' ++ [(l, e + f)]) l
      rw [List.nil_append, List.nil_append] at this
      rw [this, red_of r1]
      rw [List.cons_append, cycb_ends]
      simp [hq]
    · have t1 : taken f e = -e := if_neg hlt
      rw [t1, show e + -e = 0 by omega]
      have r1 : Red ((l, f - -e) :: (q :: mid')) := ⟨by simp only; omega, by intro x hx; simp at hx; subst hx; exact hq, hmid⟩
      have := zero_eq ((l, f - -e) :: (q :: mid')) [] l
      rw [List.append_nil] at this
      have a3 : (l, f - -e) :: (q :: mid' ++ [(l, 0)]) = ((l, f - -e) :: (q :: mid')) ++ [(l, 0)] := by simp
      rw [a3, this, red_of r1, hz, cycb_ends]
      have : l ≠ z.1 := fun h => hzl h.symm
      simp [this]
end Wd

/-! putting words for a letter; sums -/
namespace Wd
variable {α : Type} [DecidableEq α]
/-- what is put for a run -/
def put (m : α) (im : List (α × Int)) (r : α × Int) : List (α × Int) := if r.1 = m then pw im r.2 else [r]
def sub (m : α) (im w : List (α × Int)) : List (α × Int) := red (w.flatMap (put m im))
theorem put_add (m : α) (im : List (α × Int)) (l : α) (a b : Int) (v : List (α × Int)) : red (put m im (l, a) ++ (put m im (l, b) ++ v)) = red (put m im (l, a + b) ++ v) := by
  unfold put
  by_cases h : l = m
  · simp only [h, if_true]
    rw [← List.append_assoc, ← red_red_app, pw_add]
  · simp only [h, if_false]
    exact meet_eq [] v l a b
theorem put_zero (m : α) (im : List (α × Int)) (l : α) (v : List (α × Int)) : red (put m im (l, 0) ++ v) = red v := by
  unfold put
  by_cases h : l = m
  · simp only [h, if_true, pw_zero, List.nil_append]
  · simp only [h, if_false]
    exact zero_eq [] v l
theorem sub_cons (m : α) (im : List (α × Int)) (r : α × Int) (w : List (α × Int)) : red ((cons r w).flatMap (put m im)) = red (put m im r ++ w.flatMap (put m im)) := by
  obtain ⟨l, e⟩ := r
  cases w with
  | nil =>
    rw [c0]
    by_cases h : e = 0
    · subst h
      rw [if_pos rfl, put_zero]
    · rw [if_neg h]
      simp
  | cons q t =>
    obtain ⟨l', f⟩ := q
    rw [c1]
    by_cases h : l' = l
    · subst h
      simp only [if_true]
      rw [List.flatMap_cons, put_add]
      by_cases hz : e + f = 0
      · rw [if_pos hz, hz, put_zero]
      · rw [if_neg hz, List.flatMap_cons]
    · simp only [h, if_false]
      by_cases hz : e = 0
      · subst hz
        rw [if_pos rfl, put_zero]
      · rw [if_neg hz, List.flatMap_cons]
theorem sub_red (m : α) (im w : List (α × Int)) : sub m im (red w) = sub m im w := by
  unfold sub
  induction w with
  | nil => rfl
  | cons r w ih =>
    show red ((cons r (red w)).flatMap (put m im)) = _
    rw [sub_cons, List.flatMap_cons, ← red_app_red, ih, red_app_red]
theorem sub_app (m : α) (im u v : List (α × Int)) : sub m im (u ++ v) = red (sub m im u ++ sub m im v) := by
  unfold sub
  rw [List.flatMap_append, red_red_app, red_app_red]
theorem sub_nil (m : α) (im : List (α × Int)) : sub m im [] = [] := rfl
theorem inv_of {u v : List (α × Int)} (hu : Red u) (hv : Red v) (h : red (u ++ v) = []) : u = inv v := by
  have h1 : red (u ++ (v ++ inv v)) = red (inv v) := by
    rw [← List.append_assoc, ← red_red_app, h, List.nil_append]
  rw [app_congr (rfl : red u = red u) (show red (v ++ inv v) = red [] from red_app_inv v), List.append_nil, red_of hu, red_of hv.inv] at h1
  exact h1
theorem sub_inv (m : α) (im u : List (α × Int)) : sub m im (inv u) = inv (sub m im u) := by
  refine inv_of Red.red Red.red ?_
  show red (sub m im (inv u) ++ sub m im u) = []
  rw [← sub_app, ← sub_red, red_inv_app]
  rfl
/-- no such letter -/
theorem sub_none {m : α} {im w : List (α × Int)} (h : ∀ r ∈ w, r.1 ≠ m) : w.flatMap (put m im) = w := by
  induction w with
  | nil => rfl
  | cons r w ih =>
    rw [List.flatMap_cons, ih fun x hx => h x (by simp [hx])]
    unfold put
    rw [if_neg (h r (by simp))]
    rfl
theorem sub_self {m : α} {im w : List (α × Int)} (hw : Red w) (h : ∀ r ∈ w, r.1 ≠ m) : sub m im w = w := by
  unfold sub
  rw [sub_none h, red_of hw]
theorem put_nil (m : α) (w : List (α × Int)) : w.flatMap (put m []) = w.filter fun r => decide (r.1 ≠ m) := by
  induction w with
  | nil => rfl
  | cons r w ih =>
    rw [List.flatMap_cons, ih, List.filter_cons]
    unfold put
    by_cases h : r.1 = m
    · rw [if_pos h, pw_nil]
      simp [h]
    · rw [if_neg h]
      simp [h]
theorem flat_congr {f g : α × Int → List (α × Int)} (h : ∀ r, red (f r) = red (g r)) (w : List (α × Int)) : red (w.flatMap f) = red (w.flatMap g) := by
  induction w with
  | nil => rfl
  | cons r w ih =>
    rw [List.flatMap_cons, List.flatMap_cons]
    exact app_congr (h r) ih
theorem cons_mem {r x : α × Int} {w : List (α × Int)} (h : x ∈ cons r w) : x.1 = r.1 ∨ ∃ y ∈ w, y.1 = x.1 := by
  cases w with
  | nil =>
    rw [c0] at h
    split at h
    · cases h
    · simp at h
      exact .inl (by rw [h])
  | cons m t =>
    rw [c1] at h
    split at h
    · split at h
      · exact .inr ⟨x, by simp [h], rfl⟩
      · rcases List.mem_cons.mp h with h | h
        · exact .inl (by rw [h])
        · exact .inr ⟨x, by simp [h], rfl⟩
    · split at h
      · exact .inr ⟨x, h, rfl⟩
      · rcases List.mem_cons.mp h with h | h
        · exact .inl (by rw [h])
        · exact .inr ⟨x, h, rfl⟩
theorem red_mem {u : List (α × Int)} : ∀ {x : α × Int}, x ∈ red u → ∃ y ∈ u, y.1 = x.1 := by
  induction u with
  | nil => intro x h; cases h
  | cons r u ih =>
    intro x h
    rcases cons_mem (w := red u) h with h | ⟨y, hy, e⟩
    · exact ⟨r, by simp, h.symm⟩
    · obtain ⟨z, hz, e2⟩ := ih hy
      exact ⟨z, by simp [hz], e2.trans e⟩
/-- exponent sums -/
def esum (l : α) (w : List (α × Int)) : Int := (w.map fun r => if r.1 = l then r.2 else 0).sum
theorem esum_nil (l : α) : esum l ([] : List (α × Int)) = 0 := rfl
theorem esum_cons (l : α) (r : α × Int) (w : List (α × Int)) : esum l (r :: w) = (if r.1 = l then r.2 else 0) + esum l w := by
  unfold esum
  rw [List.map_cons, List.sum_cons]
theorem esum_app (l : α) (u v : List (α × Int)) : esum l (u ++ v) = esum l u + esum l v := by
  induction u with
  | nil => rw [List.nil_append, esum_nil]; omega
  | cons r u ih => rw [List.cons_append, esum_cons, esum_cons, ih]; omega
theorem esum_c (l : α) (r : α × Int) (w : List (α × Int)) : esum l (cons r w) = (if r.1 = l then r.2 else 0) + esum l w := by
  cases w with
  | nil =>
    rw [c0]
    split
    · rename_i h
      rw [h, esum_nil]
      split <;> rfl
    · rw [esum_cons]
  | cons m t =>
    rw [c1, esum_cons]
    split
    · rename_i h
      rw [h]
      split
      · rename_i hz
        split <;> omega
      · rw [esum_cons]
        simp only
        split <;> omega
    · split
      · rename_i h
        rw [h, esum_cons]
        split <;> omega
      · rw [esum_cons, esum_cons]
theorem esum_red (l : α) (w : List (α × Int)) : esum l (red w) = esum l w := by
  induction w with
  | nil => rfl
  | cons r w ih =>
    show esum l (cons r (red w)) = _
    rw [esum_c, ih, esum_cons]
theorem esum_inv (l : α) (w : List (α × Int)) : esum l (inv w) = -esum l w := by
  induction w with
  | nil => rfl
  | cons r w ih =>
    have e : inv (r :: w) = inv w ++ [(r.1, -r.2)] := by simp [inv]
    rw [e, esum_app, ih, esum_cons, esum_cons, esum_nil]
    simp only
    split <;> omega
theorem esum_pw (l : α) (w : List (α × Int)) (e : Int) : esum l (pw w e) = e * esum l w := by
  refine int_steps (P := fun e => esum l (pw w e) = e * esum l w) ?_ (fun e ih => ?_) (fun e ih => ?_) e
  · show esum l (pw w 0) = 0 * _
    rw [pw_zero, esum_nil, Int.zero_mul]
  · rw [← pw_up, esum_red, esum_app, ih, Int.add_mul, Int.one_mul, Int.add_comm]
  · rw [← pw_down, esum_red, esum_app, ih, esum_inv, Int.sub_mul, Int.one_mul]
    omega
theorem esum_sub {m l : α} (hl : l ≠ m) (im w : List (α × Int)) : esum l (sub m im w) = esum m w * esum l im + esum l (w.filter fun r => decide (r.1 ≠ m)) := by
  unfold sub
  rw [esum_red]
  induction w with
  | nil =>
    rw [List.flatMap_nil, List.filter_nil, esum_nil, esum_nil, Int.zero_mul]
    rfl
  | cons r w ih =>
    rw [List.flatMap_cons, esum_app, ih, List.filter_cons, esum_cons, put]
    by_cases h : r.1 = m
    · simp only [h, if_true, esum_pw, ne_eq, not_true_eq_false, decide_false, Bool.false_eq_true, if_false]
      rw [Int.add_mul]
      omega
    · simp only [h, if_false, ne_eq, not_false_eq_true, decide_true, if_true, esum_cons, esum_nil]
      rw [Int.zero_add]
      omega
/-- the torsion-free law -/
theorem core_ex : ∀ (n : Nat) (w p k : List (α × Int)), k.length ≤ n → Red w → w = p ++ (k ++ inv p) → ∃ o c, Core w o c := by
  intro n
  induction n with
  | zero =>
    intro w p k hk hw e
    have : k = [] := List.length_eq_zero_iff.mp (by omega)
    subst this
    exact ⟨p, [], core_done hw e rfl⟩
  | succ n ih =>
    intro w p k hk hw e
    by_cases hc : cycb k = true
    · exact ⟨p, k, core_done hw e hc⟩
    · obtain ⟨⟨l, f⟩, mid, ⟨l', y⟩, rfl⟩ := ends (w := k) (by
        rcases Nat.lt_or_ge k.length 2 with h | h
        · exact absurd (cycb_small h) hc
        · exact h)
      have hc' : cycb ((l, f) :: (mid ++ [(l', y)])) = false := by simpa using hc
      rw [cycb_ends] at hc'
      simp only [Bool.or_eq_false_iff, decide_eq_false_iff_not, ne_eq, Classical.not_not] at hc'
      obtain ⟨rfl, hs⟩ := hc'
      have hs' : ¬ (0 < f ↔ 0 < y) := by
        intro hh
        simp [hh] at hs
      by_cases hxy : f = -y
      · subst hxy
        refine ih w (p ++ [(l, -y)]) mid (by simp at hk; omega) hw ?_
        rw [e, inv_app, inv_one, Int.neg_neg]
        simp
      · exact ⟨_, _, core_taken hw e hs' hxy⟩
theorem rep_cyc {c : List (α × Int)} (hr : Red c) (hc : cycb c = true) (hn : c ≠ []) : ∀ n, ∃ f B, red (rep (n + 1) c) = ((c.head hn).1, f) :: B ∧ (0 < f ↔ 0 < (c.head hn).2) := by
  intro n
  induction n with
  | zero =>
    rw [rep_succ]
    show ∃ f B, red (c ++ []) = _ ∧ _
    rw [List.append_nil, red_of hr]
    cases c with
    | nil => exact absurd rfl hn
    | cons a t => exact ⟨a.2, t, rfl, Iff.rfl⟩
  | succ n ih =>
    obtain ⟨f, B, e, hs⟩ := ih
    rw [rep_succ, ← red_app_red, e]
    have hR : Red (((c.head hn).1, f) :: B) := by rw [← e]; exact Red.red
    by_cases hl : c.length < 2
    · obtain ⟨a, rfl⟩ : ∃ a, c = [a] := by
        match c, hn, hl with
        | [a], _, _ => exact ⟨a, rfl⟩
      obtain ⟨l, x⟩ := a
      have hx : x ≠ 0 := hr.1
      have hf : f ≠ 0 := hR.1
      simp only [List.head_cons] at hs e ⊢
      have : red ([(l, x)] ++ (l, f) :: B) = red ([] ++ (l, x + f) :: B) := meet_eq [] B l x f
      rw [this, List.nil_append, red_of (show Red ((l, x + f) :: B) from ⟨by simp only; omega, hR.2.1, hR.2.2⟩)]
      exact ⟨x + f, B, rfl, by omega⟩
    · obtain ⟨a, m, b, rfl⟩ := ends (w := c) (by omega)
      rw [cycb_ends] at hc
      simp only [List.head_cons] at hs e hR ⊢
      have hA : Red ((a :: m) ++ [b]) := by rw [List.cons_append]; exact hr
      have hb : b.2 ≠ 0 := hA.right.1
      have hf : f ≠ 0 := hR.1
      by_cases hab : a.1 = b.1
      · have hsg : (0 < a.2 ↔ 0 < b.2) := by
          simp [hab] at hc
          exact hc
        obtain ⟨lb, eb⟩ := b
        simp only at hab hb hsg
        rw [hab]
        have e1 : a :: (m ++ [(lb, eb)]) ++ (lb, f) :: B = (a :: m) ++ (lb, eb) :: (lb, f) :: B := by simp
        rw [hab] at hR
        have hR2 : Red ((a :: m) ++ (lb, eb + f) :: B) := Red.mid hA hR (by omega)
        rw [e1, meet_eq, red_of hR2]
        obtain ⟨la, ea⟩ := a
        simp only at hab
        subst hab
        exact ⟨ea, m ++ (la, eb + f) :: B, rfl, Iff.rfl⟩
      · have hR2 : Red ((a :: (m ++ [b])) ++ (a.1, f) :: B) := Red.app hr hR fun u v hu hv => by
          rw [← List.cons_append, List.getLast?_concat] at hu
          cases hu
          cases hv
          exact fun h => hab h.symm
        rw [red_of hR2]
        exact ⟨a.2, (m ++ [b]) ++ (a.1, f) :: B, rfl, Iff.rfl⟩
theorem pw_ne {w : List (α × Int)} (hw : Red w) (hn : w ≠ []) {e : Int} (he : e ≠ 0) : pw w e ≠ [] := by
  have pos : ∀ (w : List (α × Int)), Red w → w ≠ [] → ∀ n : Nat, pw w ((n + 1 : Nat) : Int) ≠ [] := by
    intro w hw hn n h
    obtain ⟨o, c, hc⟩ := core_ex w.length w [] w (Nat.le_refl _) hw (by simp [inv])
    have hcn : c ≠ [] := by
      rintro rfl
      have := hc.eq
      rw [List.nil_append, red_app_inv] at this
      exact hn this.symm
    have h2 := pw_conj o c ((n + 1 : Nat) : Int)
    rw [hc.eq, h] at h2
    have h3 : red (inv o ++ ((o ++ (pw c ((n + 1 : Nat) : Int) ++ inv o)) ++ o)) = pw c ((n + 1 : Nat) : Int) := by
      rw [List.append_assoc, List.append_assoc, cancel_l, app_congr (rfl : red (pw c ((n + 1 : Nat) : Int)) = _) (show red (inv o ++ o) = red [] from red_inv_app o), List.append_nil]
      exact red_of Red.pw
    have h4 : red (inv o ++ ((o ++ (pw c ((n + 1 : Nat) : Int) ++ inv o)) ++ o)) = [] := by
      rw [app_congr (rfl : red (inv o) = _) (app_congr (show red (o ++ (pw c ((n + 1 : Nat) : Int) ++ inv o)) = red [] from h2.symm) (rfl : red o = _)), List.nil_append, red_inv_app]
    rw [h4, pw_nat] at h3
    obtain ⟨f, B, e, _⟩ := rep_cyc hc.rc hc.cy hcn n
    rw [e] at h3
    cases h3
  by_cases h0 : 0 < e
  · obtain ⟨n, rfl⟩ : ∃ n : Nat, e = ((n + 1 : Nat) : Int) := ⟨(e - 1).toNat, by omega⟩
    exact pos w hw hn n
  · obtain ⟨n, rfl⟩ : ∃ n : Nat, e = -((n + 1 : Nat) : Int) := ⟨(-e - 1).toNat, by omega⟩
    intro h
    have h1 : pw w ((n + 1 : Nat) : Int) = [] := by
      have := pw_add w (-((n + 1 : Nat) : Int)) ((n + 1 : Nat) : Int)
      rw [h, List.nil_append, red_of Red.pw, Int.add_left_neg, pw_zero] at this
      exact this
    exact pos w hw hn n h1
theorem conj_ne {o i : List (α × Int)} (hi : Red i) (hn : i ≠ []) : red (o ++ (i ++ inv o)) ≠ [] := by
  intro h
  have h3 : red (inv o ++ ((o ++ (i ++ inv o)) ++ o)) = i := by
    rw [List.append_assoc, List.append_assoc, cancel_l, app_congr (rfl : red i = _) (show red (inv o ++ o) = red [] from red_inv_app o), List.append_nil]
    exact red_of hi
  have h4 : red (inv o ++ ((o ++ (i ++ inv o)) ++ o)) = [] := by
    rw [app_congr (rfl : red (inv o) = _) (app_congr (show red (o ++ (i ++ inv o)) = red [] from h) (rfl : red o = _)), List.nil_append, red_inv_app]
  rw [h4] at h3
  exact hn h3.symm
end Wd

/-! how many marks -/
namespace Wd
variable {α : Type} [DecidableEq α]
def msz (m : α) (w : List (α × Int)) : Nat := (w.map fun r => if r.1 = m then r.2.natAbs else 0).sum
theorem msz_nil (m : α) : msz m ([] : List (α × Int)) = 0 := rfl
theorem msz_cons (m : α) (r : α × Int) (w : List (α × Int)) : msz m (r :: w) = (if r.1 = m then r.2.natAbs else 0) + msz m w := by
  unfold msz
  rw [List.map_cons, List.sum_cons]
theorem msz_app (m : α) (u v : List (α × Int)) : msz m (u ++ v) = msz m u + msz m v := by
  induction u with
  | nil => rw [List.nil_append, msz_nil]; omega
  | cons r u ih => rw [List.cons_append, msz_cons, msz_cons, ih]; omega
theorem msz_inv (m : α) (w : List (α × Int)) : msz m (inv w) = msz m w := by
  induction w with
  | nil => rfl
  | cons r w ih =>
    have e : inv (r :: w) = inv w ++ [(r.1, -r.2)] := by simp [inv]
    rw [e, msz_app, ih, msz_cons, msz_cons, msz_nil]
    simp only [Int.natAbs_neg]
    omega
theorem msz_c (m : α) (r : α × Int) (w : List (α × Int)) : msz m (cons r w) ≤ (if r.1 = m then r.2.natAbs else 0) + msz m w := by
  cases w with
  | nil =>
    rw [c0]
    split
    · rw [msz_nil]; omega
    · rw [msz_cons]; exact Nat.le_refl _
  | cons q t =>
    rw [c1, msz_cons]
    split
    · rename_i h
      rw [h]
      split
      · omega
      · rw [msz_cons]
        simp only
        split <;> omega
    · split
      · rw [msz_cons]; omega
      · rw [msz_cons, msz_cons]; exact Nat.le_refl _
theorem msz_red (m : α) (w : List (α × Int)) : msz m (red w) ≤ msz m w := by
  induction w with
  | nil => exact Nat.le_refl _
  | cons r w ih =>
    have := msz_c m r (red w)
    rw [msz_cons]
    show msz m (cons r (red w)) ≤ _
    omega
theorem msz_mem {m : α} {w : List (α × Int)} {r : α × Int} (hr : r ∈ w) (h : r.1 = m) : r.2.natAbs ≤ msz m w := by
  induction w with
  | nil => cases hr
  | cons q w ih =>
    rw [msz_cons]
    rcases List.mem_cons.mp hr with rfl | hr
    · rw [if_pos h]; omega
    · have := ih hr; omega
theorem msz_drop (m : α) (w : List (α × Int)) (n : Nat) : msz m (w.drop n) ≤ msz m w := by
  have h := msz_app m (w.take n) (w.drop n)
  rw [List.take_append_drop] at h
  omega
theorem len_flat {m : α} {L : Nat} {f : α × Int → List (α × Int)} (hf : ∀ r, (f r).length ≤ if r.1 = m then r.2.natAbs * L else 1) (w : List (α × Int)) : (w.flatMap f).length ≤ msz m w * L + w.length := by
  induction w with
  | nil => simp
  | cons r w ih =>
    rw [List.flatMap_cons, List.length_append, msz_cons, List.length_cons]
    have := hf r
    split at this
    · rename_i h
      rw [if_pos h, Nat.add_mul]
      omega
    · rename_i h
      rw [if_neg h, Nat.add_mul, Nat.zero_mul]
      omega
theorem len_put (m : α) (im w : List (α × Int)) : (w.flatMap (put m im)).length ≤ msz m w * im.length + w.length := by
  refine len_flat (fun r => ?_) w
  unfold put
  split
  · exact len_pw im r.2
  · exact Nat.le_refl _
theorem esum_abs (m : α) (w : List (α × Int)) : (esum m w).natAbs ≤ msz m w := by
  induction w with
  | nil => exact Nat.le_refl _
  | cons r w ih =>
    rw [esum_cons, msz_cons]
    split <;> omega
end Wd

/-! putting twice -/
namespace Wd
variable {α : Type} [DecidableEq α]
theorem sub_none' {m : α} {im w : List (α × Int)} (h : ∀ r ∈ w, r.1 ≠ m) : sub m im w = red w := by
  unfold sub
  rw [sub_none h]
theorem sub_congr (m : α) (im : List (α × Int)) {u v : List (α × Int)} (h : red u = red v) : sub m im u = sub m im v := by
  rw [← sub_red m im u, h, sub_red]
theorem sub_pw (m : α) (g w : List (α × Int)) (e : Int) : sub m g (pw w e) = pw (sub m g w) e := by
  refine int_steps (P := fun e => sub m g (pw w e) = pw (sub m g w) e) ?_ (fun e ih => ?_) (fun e ih => ?_) e
  · rfl
  · rw [← pw_up, sub_red, sub_app, ih, pw_up]
  · rw [← pw_down, sub_red, sub_app, sub_inv, ih, pw_down]
/-- g for the marks of k, k for the marks of w -/
theorem sub_sub (m : α) (g k w : List (α × Int)) : sub m g (sub m k w) = sub m (sub m g k) w := by
  unfold sub at *
  rw [show red ((red (w.flatMap (put m k))).flatMap (put m g)) = red ((w.flatMap (put m k)).flatMap (put m g)) from sub_red m g _]
  rw [List.flatMap_assoc]
  refine flat_congr (fun r => ?_) w
  unfold put
  by_cases h : r.1 = m
  · rw [if_pos h, if_pos h]
    have e := sub_pw m g k r.2
    unfold sub at e
    have e2 : red (pw (red (k.flatMap (put m g))) r.2) = pw (red (k.flatMap (put m g))) r.2 := red_of Red.pw
    rw [show (fun r : α × Int => if r.1 = m then pw g r.2 else [r]) = put m g from rfl, e, ← e2]
    exact (red_red _).symm
  · rw [if_neg h, if_neg h]
    simp [h]
theorem put_one (m : α) {w : List (α × Int)} (h : ∀ r ∈ w, r.2 ≠ 0) : w.flatMap (put m [(m, 1)]) = w := by
  induction w with
  | nil => rfl
  | cons r w ih =>
    rw [List.flatMap_cons, ih fun x hx => h x (by simp [hx])]
    obtain ⟨l, e⟩ := r
    have he : e ≠ 0 := h (l, e) (by simp)
    unfold put
    by_cases hl : l = m
    · subst hl
      rw [if_pos rfl, pw_single (by omega) he, Int.one_mul]
      rfl
    · rw [if_neg hl]
      rfl
theorem sub_one (m : α) {w : List (α × Int)} (h : Red w) : sub m [(m, 1)] w = w := by
  unfold sub
  rw [put_one m (red_iff.mp h).1, red_of h]
/-- letter by letter -/
def spell1 (r : α × Int) : List (α × Int) := List.replicate r.2.natAbs (r.1, if r.2 < 0 then -1 else 1)
def spelled (w : List (α × Int)) : List (α × Int) := w.flatMap spell1
theorem red_spell1 (r : α × Int) : red (spell1 r) = red [r] := by
  obtain ⟨l, e⟩ := r
  have key : ∀ (s : Int) (n : Nat), List.replicate n (l, s) = rep n [(l, s)] := fun s n => by
    induction n with
    | zero => rfl
    | succ n ih => rw [List.replicate_succ, ih, rep_succ]; rfl
  unfold spell1
  rw [key, red_rep_one]
  simp only
  have e1 : (if e < 0 then (-1 : Int) else 1) * (e.natAbs : Int) = e := by split <;> omega
  rw [e1]
  show _ = cons (l, e) []
  rw [c0]
theorem red_spelled (w : List (α × Int)) : red (spelled w) = red w := by
  unfold spelled
  have h := flat_congr (f := spell1) (g := fun r => [r]) (fun r => red_spell1 r) w
  rw [h]
  congr 1
  induction w with
  | nil => rfl
  | cons r w ih => rw [List.flatMap_cons, ih (flat_congr (fun r => red_spell1 r) w)]; rfl
theorem len_spelled (w : List (α × Int)) : (spelled w).length = size w := by
  induction w with
  | nil => rfl
  | cons r w ih =>
    unfold spelled at ih ⊢
    rw [List.flatMap_cons, List.length_append, ih, size_cons]
    unfold spell1
    rw [List.length_replicate]
theorem len_sub_nil (m : α) (w : List (α × Int)) : (sub m [] w).length ≤ w.length := by
  have h3 := len_red (w.flatMap (put m []))
  unfold sub
  rw [put_nil] at h3 ⊢
  exact Nat.le_trans h3 (List.length_filter_le _ _)
theorem no_sub_nil (m : α) (u : List (α × Int)) : ∀ r ∈ sub m [] u, r.1 ≠ m := by
  intro r hr
  unfold sub at hr
  rw [put_nil] at hr
  obtain ⟨y, hy, e⟩ := red_mem hr
  rw [List.mem_filter] at hy
  rw [← e]
  simpa using hy.2
theorem no_inv {m : α} {u : List (α × Int)} (h : ∀ r ∈ u, r.1 ≠ m) : ∀ r ∈ inv u, r.1 ≠ m := fun r hr => by
  unfold inv at hr
  rw [List.mem_reverse] at hr
  obtain ⟨x, hx, rfl⟩ := List.mem_map.mp hr
  exact h x hx
/-- a word without the letter stays -/
theorem sub_tt (m : α) (g u : List (α × Int)) : sub m g (sub m [] u) = sub m [] u := sub_self Red.red (no_sub_nil m u)
end Wd

/-! equations of words, by the action -/
namespace Wd
variable {α : Type} [DecidableEq α]
theorem red_inv (u : List (α × Int)) : red (inv u) = inv (red u) := by
  refine inv_of Red.red Red.red ?_
  rw [red_red_app, red_app_red]
  exact red_inv_app u
theorem a_red {u w : List (α × Int)} (h : Red w) : act (red u) w = act u w := act_red h
theorem a_ired {u w : List (α × Int)} (h : Red w) : act (inv (red u)) w = act (inv u) w := by rw [← red_inv, act_red h]
theorem a_r {u w : List (α × Int)} (h : Red w) : act u (act (inv u) w) = w := act_inv h
theorem a_l {u w : List (α × Int)} (h : Red w) : act (inv u) (act u w) = w := by
  have := act_inv (u := inv u) (w := w) h
  rwa [inv_inv] at this
theorem a_Red {u w : List (α × Int)} (h : Red w) : Red (act u w) = True := eq_true (Red.act h)
theorem a_nil : Red ([] : List (α × Int)) = True := eq_true trivial
theorem a_e {w : List (α × Int)} : act ([] : List (α × Int)) w = w := rfl
/-- behind one, its target's inverse and the next -/
def aft (m : α) (A B : List (α × Int)) : List (α × Int) := red (A ++ (inv (sub m [] A) ++ B))
def tb (m : α) (im A : List (α × Int)) : List (α × Int) := red (sub m [] A ++ (inv A ++ sub m im A))
theorem by_act {u v : List (α × Int)} (h : act u [] = act v []) : red u = red v := h
theorem to_act {u v : List (α × Int)} (hv : Red v) (h : act u [] = act v []) : red u = v := by
  rw [← red_of hv]
  exact h
theorem sub_aft (m : α) (im A B : List (α × Int)) : sub m im (aft m A B) = red (sub m im A ++ (inv (sub m [] A) ++ sub m im B)) := by
  unfold aft
  rw [sub_red, sub_app, sub_app, sub_inv, sub_tt]
  apply by_act
  simp (config := { maxDischargeDepth := 40 }) only [act_app, a_red, a_ired, a_r, a_l, a_Red, a_nil, a_e, inv_app, inv_inv]
theorem sub_aft_eq {m : α} {im A B : List (α × Int)} (h : sub m im B = sub m [] A) : sub m im (aft m A B) = sub m im A := by
  rw [sub_aft, h]
  apply to_act (v := sub m im A) Red.red
  simp (config := { maxDischargeDepth := 40 }) only [act_app, a_red, a_ired, a_r, a_l, a_Red, a_nil, a_e, inv_app, inv_inv]
theorem tgt_aft (m : α) (A B : List (α × Int)) : sub m [] (aft m A B) = sub m [] B := by
  rw [sub_aft]
  apply to_act (v := sub m [] B) Red.red
  simp (config := { maxDischargeDepth := 40 }) only [act_app, a_red, a_ired, a_r, a_l, a_Red, a_nil, a_e, inv_app, inv_inv]
theorem aft_aft (m : α) (A B C : List (α × Int)) : aft m A (aft m B C) = aft m (aft m A B) C := by
  show red (A ++ (inv (sub m [] A) ++ aft m B C)) = red (aft m A B ++ (inv (sub m [] (aft m A B)) ++ C))
  rw [tgt_aft]
  unfold aft
  apply by_act
  simp (config := { maxDischargeDepth := 40 }) only [act_app, a_red, a_ired, a_r, a_l, a_Red, a_nil, a_e, inv_app, inv_inv]
section
variable {m : α} {im A W : List (α × Int)} (hW : sub m im W = W) (hT : sub m [] W = W) (h : sub m im A = W)
include hW hT h
theorem sub_tb : sub m im (tb m im A) = sub m [] A := by
  unfold tb
  rw [h, sub_red, sub_app, sub_app, sub_tt, sub_inv, h, hW]
  apply to_act (v := sub m [] A) Red.red
  simp (config := { maxDischargeDepth := 40 }) only [act_app, a_red, a_ired, a_r, a_l, a_Red, a_nil, a_e, inv_app, inv_inv]
theorem tgt_tb : sub m [] (tb m im A) = W := by
  have hR : Red W := by rw [← hT]; exact Red.red
  unfold tb
  rw [h, sub_red, sub_app, sub_app, sub_tt, sub_inv, hT]
  apply to_act hR
  simp (config := { maxDischargeDepth := 40 }) only [act_app, a_red, a_ired, a_r, a_l, a_Red, a_nil, a_e, inv_app, inv_inv]
theorem tb_tb (hA : Red A) : tb m im (tb m im A) = A := by
  show red (sub m [] (tb m im A) ++ (inv (tb m im A) ++ sub m im (tb m im A))) = A
  rw [sub_tb hW hT h, tgt_tb hW hT h]
  unfold tb
  rw [h]
  apply to_act hA
  simp (config := { maxDischargeDepth := 40 }) only [act_app, a_red, a_ired, a_r, a_l, a_Red, a_nil, a_e, inv_app, inv_inv]
theorem aft_tb : aft m A (tb m im A) = W := by
  have hR : Red W := by rw [← hT]; exact Red.red
  unfold aft tb
  rw [h]
  apply to_act hR
  simp (config := { maxDischargeDepth := 40 }) only [act_app, a_red, a_ired, a_r, a_l, a_Red, a_nil, a_e, inv_app, inv_inv]
theorem tb_aft : aft m (tb m im A) A = sub m [] A := by
  show red (tb m im A ++ (inv (sub m [] (tb m im A)) ++ A)) = _
  rw [tgt_tb hW hT h]
  unfold tb
  rw [h]
  apply to_act (v := sub m [] A) Red.red
  simp (config := { maxDischargeDepth := 40 }) only [act_app, a_red, a_ired, a_r, a_l, a_Red, a_nil, a_e, inv_app, inv_inv]
end
/-- under a keeper -/
theorem keep_sub {m : α} {g k im : List (α × Int)} (hk : sub m g k = im) (w : List (α × Int)) : sub m g (sub m k w) = sub m im w := by rw [sub_sub, hk]
theorem keep_tgt {m : α} {k : List (α × Int)} (hk : sub m [] k = []) (w : List (α × Int)) : sub m [] (sub m k w) = sub m [] w := by rw [sub_sub, hk]
theorem keep_aft {m : α} {k : List (α × Int)} (hk : sub m [] k = []) (A B : List (α × Int)) : aft m (sub m k A) (sub m k B) = sub m k (aft m A B) := by
  rw [sub_aft]
  unfold aft
  rw [keep_tgt hk]
theorem keep_tb {m : α} {g k im A W : List (α × Int)} (hg : sub m g k = im) (hk : sub m [] k = []) (hW : sub m k W = W) (h : sub m im A = W) : tb m g (sub m k A) = sub m k (tb m im A) := by
  unfold tb
  rw [keep_tgt hk, keep_sub hg, h, sub_red, sub_app, sub_app, sub_inv, sub_tt, hW]
  apply by_act
  simp (config := { maxDischargeDepth := 40 }) only [act_app, a_red, a_ired, a_r, a_l, a_Red, a_nil, a_e, inv_app, inv_inv]
/-! sizes -/
theorem msz_le (m : α) (w : List (α × Int)) : msz m w ≤ size w := by
  induction w with
  | nil => exact Nat.le_refl _
  | cons r w ih =>
    rw [msz_cons, size_cons]
    split <;> omega
theorem len_le {w : List (α × Int)} (h : Red w) : w.length ≤ size w := by
  induction w with
  | nil => exact Nat.le_refl _
  | cons r w ih =>
    have h1 := ih h.2.2
    have h2 := h.1
    rw [size_cons, List.length_cons]
    omega
theorem size_filter (m : α) (w : List (α × Int)) : size (w.filter fun r => decide (r.1 ≠ m)) ≤ size w := by
  induction w with
  | nil => exact Nat.le_refl _
  | cons r w ih =>
    rw [List.filter_cons, size_cons]
    split
    · rw [size_cons]; omega
    · omega
theorem size_tgt (m : α) (w : List (α × Int)) : size (sub m [] w) ≤ size w := by
  unfold sub
  rw [put_nil]
  exact Nat.le_trans (size_red _) (size_filter m w)
theorem size_aft (m : α) (A B : List (α × Int)) : size (aft m A B) ≤ 2 * size A + size B := by
  have h1 := size_red (A ++ (inv (sub m [] A) ++ B))
  rw [size_app, size_app, size_inv] at h1
  have := size_tgt m A
  unfold aft
  omega
end Wd

namespace DL
open PySem PySem.Spec L2 Wd
/-! the store -/
theorem get_app {st l : Store} {k : Nat} {o : O} (h : st[k]? = some o) : (st ++ l)[k]? = some o := by
  rw [List.getElem?_append_left (List.getElem?_eq_some_iff.mp h).1, h]
theorem set_app {st l : Store} {k : Nat} {o o' : O} (h : st[k]? = some o) : (st ++ l).set k o' = st.set k o' ++ l := by
  rw [List.set_append_left _ _ (List.getElem?_eq_some_iff.mp h).1]
theorem get_end {st : Store} {o : O} : (st ++ [o])[st.length]? = some o := by simp
theorem set_end {st : Store} {o o' : O} : (st ++ [o]).set st.length o' = st ++ [o'] := by simp
theorem get_end2 {st : Store} {o u : O} : (st ++ [o, u])[st.length]? = some o := by simp
theorem set_get {st : Store} {k : Nat} {o o' : O} (h : st[k]? = some o) : (st.set k o')[k]? = some o' := by
  rw [List.getElem?_set_self (List.getElem?_eq_some_iff.mp h).1]
theorem set_set {st : Store} {k : Nat} {o o' : O} : (st.set k o).set k o' = st.set k o' := by simp
theorem O.lts_lst {n : Nat} {xs : List D} (h : ∀ d ∈ xs, d.lt n) : O.lt n (.lst xs) := by
  show D.lts n xs
  rw [lts_iff]
  exact h
theorem Wf.set {st : Store} {k : Nat} {o : O} (w : Wf st) (h : o.lt st.length) : Wf (st.set k o) := by
  intro j u e
  rw [List.length_set]
  by_cases hj : k = j
  · subst hj
    by_cases hk : k < st.length
    · rw [List.getElem?_set_self hk] at e
      cases e
      exact h
    · rw [List.getElem?_eq_none (by rw [List.length_set]; omega)] at e
      cases e
  · rw [List.getElem?_set_ne hj] at e
    exact w j u e
theorem Wf.app {st : Store} {o : O} (w : Wf st) (h : o.lt (st.length + 1)) : Wf (st ++ [o]) := by
  intro j u e
  rw [List.length_append, List.length_singleton]
  by_cases hj : j < st.length
  · rw [List.getElem?_append_left hj] at e
    exact O.lt_mono (by omega) u (w j u e)
  · have := (List.getElem?_eq_some_iff.mp e).1
    rw [List.length_append, List.length_singleton] at this
    have : j = st.length := by omega
    subst this
    rw [List.getElem?_append_right (Nat.le_refl _), Nat.sub_self] at e
    simp at e
    subst e
    exact h
/-- the answer leaves the new cells -/
theorem ret_app {n : Nat} {Q : DQ} {d : D} {st0 l : Store} (hn : n = st0.length) (hw : Wf st0) (hd : d.lt n) (h : Q d st0) : Ret n Q d (st0 ++ l) := by
  subst hn
  exact ret_old (Nat.le_refl _) (fun i hi => List.getElem?_append_left hi) hw hd h
theorem ret_eq {n : Nat} {Q : DQ} {d : D} {st0 : Store} (hn : n = st0.length) (hw : Wf st0) (hd : d.lt n) (h : Q d st0) : Ret n Q d st0 := by
  have := ret_app (l := []) hn hw hd h
  rw [List.append_nil] at this
  exact this
/-- the answer is one new cell -/
theorem ret_cell {n k : Nat} {Q : DQ} {o : O} {st0 l : Store} (hn : n = st0.length) (hw : Wf st0) (hk : st0.length ≤ k) (hl : (st0 ++ l)[k]? = some o) (ho : o.lt n) (h : Q (.ref n) (st0 ++ [o])) : Ret n Q (.ref k) (st0 ++ l) := by
  subst hn
  exact ret_new rfl hk (fun i hi => List.getElem?_append_left hi) hw hl ho h
/-! data -/
theorem lt_of_fl {n m : Nat} {d : D} (h : d.fl m = true) : d.lt n := fl_lt m d h
theorem lt_W {n : Nat} {w : Word} : (dW w).lt n := fl_lt 8 _ (fl_W 5 w)
theorem lt_L {n : Nat} {l : Letter} : (dL l).lt n := fl_lt 8 _ (fl_L 7 l)
theorem lt_run {n : Nat} {l : Run} : (dRun l).lt n := fl_lt 8 _ (fl_run 6 l)
theorem lt_runs {n : Nat} (w : List Run) : O.lt n (.lst (w.map dRun)) := O.lts_lst fun d hd => by
  obtain ⟨r, _, rfl⟩ := List.mem_map.mp hd
  exact lt_run
theorem lt_Ls {n : Nat} (w : List Letter) : O.lt n (.lst (w.map dL)) := O.lts_lst fun d hd => by
  obtain ⟨r, _, rfl⟩ := List.mem_map.mp hd
  exact lt_L
theorem lt_Ws {n : Nat} (w : List Word) : O.lt n (.lst (w.map dW)) := O.lts_lst fun d hd => by
  obtain ⟨r, _, rfl⟩ := List.mem_map.mp hd
  exact lt_W
theorem dItems_app {st l : Store} {x : D} {xs : List D} (h : dItems st x = some xs) : dItems (st ++ l) x = some xs := by
  cases x with
  | ref k =>
    unfold dItems at h ⊢
    dsimp only at h ⊢
    split at h
    · rename_i ys e
      rw [get_app e]
      exact h
    · cases h
  | _ => exact h
/-- where a walked thing stands -/
theorem ok_app {st l : Store} {x : D} {xs : List D} (h : dItems st x = some xs) : okOf x xs (st ++ l) := by
  cases x with
  | ref k =>
    unfold dItems at h
    dsimp only at h
    split at h
    · rename_i ys e
      cases h
      exact get_app e
    · cases h
  | _ => trivial
theorem ok_of {st : Store} {x : D} {xs : List D} (h : dItems st x = some xs) : okOf x xs st := by
  have := ok_app (l := []) h
  rw [List.append_nil] at this
  exact this
theorem atI_nn {α : Type} {xs : List α} {i : Int} (h0 : 0 ≤ i) (h1 : i < xs.length) : atI xs i = xs[i.toNat]? := by
  unfold atI ixN
  rw [if_pos h0, if_pos h1]
  rfl
theorem atI_zero {α : Type} {x : α} {xs : List α} : atI (x :: xs) 0 = some x := by
  rw [atI_nn (by omega) (by simp)]
  rfl
theorem atI_one {α : Type} {x y : α} {xs : List α} : atI (x :: y :: xs) 1 = some y := by
  rw [atI_nn (by omega) (by simp; omega)]
  rfl
theorem atI_two {α : Type} {x y z : α} {xs : List α} : atI (x :: y :: z :: xs) 2 = some z := by
  rw [atI_nn (by omega) (by simp; omega)]
  rfl
theorem atI_end {α : Type} (xs : List α) (v : α) : atI (xs ++ [v]) (-1) = some v := atI_last xs v
theorem getLastIx {α : Type} (xs : List α) (v : α) : (xs ++ [v])[(xs ++ [v]).length - 1]? = some v := by simp
theorem item_tup {st : Store} {xs : List D} {i : Int} : dItem st (.tup xs) i = atI xs i := rfl
theorem item_rol {st : Store} {xs : List D} {i : Int} : dItem st (.rol xs) i = atI xs i := rfl
theorem item_ref {st : Store} {k : Nat} {xs : List D} {i : Int} (h : st[k]? = some (.lst xs)) : dItem st (.ref k) i = atI xs i := by
  show (match st[k]? with
    | some (.lst xs) => atI xs i
    | _ => none) = _
  rw [h]
theorem setIx_ref {st : Store} {k : Nat} {xs : List D} {i : Int} {v : D} (h : st[k]? = some (.lst xs)) : dSetIx st (.ref k) i v = (ixN xs.length i).map fun j => st.set k (.lst (xs.set j v)) := by
  show (match st[k]? with
    | some (.lst xs) => (ixN xs.length i).map fun j => st.set k (.lst (xs.set j v))
    | _ => none) = _
  rw [h]
theorem ixN30 : ixN 3 0 = some 0 := rfl
theorem ixN31 : ixN 3 1 = some 1 := rfl
theorem ixN32 : ixN 3 2 = some 2 := rfl
theorem item_run0 {st : Store} {r : Run} : dItem st (dRun r) 0 = some (dL r.1) := atI_zero
theorem item_run1 {st : Store} {r : Run} : dItem st (dRun r) 1 = some (.int r.2) := atI_one
theorem item_W {st : Store} {w : Word} {i : Int} (h0 : 0 ≤ i) (h1 : i < w.length) : ∃ r, w[i.toNat]? = some r ∧ dItem st (dW w) i = some (dRun r) := by
  have hl : i.toNat < w.length := by omega
  refine ⟨w[i.toNat], List.getElem?_eq_getElem hl, ?_⟩
  unfold dW
  rw [item_tup, atI_nn h0 (by rw [List.length_map]; exact h1), List.getElem?_map, List.getElem?_eq_getElem hl]
  rfl
theorem CMulA.left {i j : Int} (h0 : -(2 ^ 64) < i) (h1 : i < 2 ^ 64) : CMulA i j := .inl (.inl ⟨h0, h1⟩)
theorem CMulA.right {i j : Int} (h0 : -(2 ^ 64) < j) (h1 : j < 2 ^ 64) : CMulA i j := .inl (.inr ⟨h0, h1⟩)
theorem small_line {n : Nat} (h : n ≤ 16777216) : n ≤ sizeLine := by rw [sizeLine_eq]; exact h
theorem small_line' {n : Nat} (h : n < 16777216) : n < sizeLine := by rw [sizeLine_eq]; exact h
/-! slices -/
theorem cut_to {xs : List D} {k : Nat} : cutD xs none (some (k : Int)) = xs.take k := by
  unfold cutD
  rw [HT.sIx_none, HT.sIx_nat, List.drop_zero, Nat.sub_zero]
  by_cases h : k ≤ xs.length
  · rw [Nat.min_eq_left h]
  · rw [Nat.min_eq_right (by omega), List.take_length, List.take_of_length_le (by omega)]
theorem cut_from {xs : List D} {k : Nat} : cutD xs (some (k : Int)) none = xs.drop k := by
  unfold cutD
  rw [HT.sIx_none, HT.sIx_nat]
  by_cases h : k ≤ xs.length
  · rw [Nat.min_eq_left h, List.take_of_length_le (by rw [List.length_drop]; omega)]
  · rw [Nat.min_eq_right (by omega), List.drop_eq_nil_of_le (Nat.le_refl _), List.drop_eq_nil_of_le (by omega)]
    simp
theorem cut_toI {xs : List D} {k : Int} (h : 0 ≤ k) : cutD xs none (some k) = xs.take k.toNat := by
  rw [← cut_to, Int.toNat_of_nonneg h]
theorem cut_fromI {xs : List D} {k : Int} (h : 0 ≤ k) : cutD xs (some k) none = xs.drop k.toNat := by
  rw [← cut_from, Int.toNat_of_nonneg h]
/-! pools -/
def IsPool (o : O) : Prop := ∃ c n s : Int, o = .lst [.int c, .int n, .int s] ∧ 0 ≤ c
theorem IsPool.lt {o : O} {n : Nat} (h : IsPool o) : o.lt n := by
  obtain ⟨c, k, s, rfl, _⟩ := h
  exact ⟨trivial, trivial, trivial, trivial⟩
/-! small rules for the readings -/
theorem item_end {st : Store} {xs : List D} {i : Int} : dItem (st ++ [.lst xs]) (.ref st.length) i = atI xs i := item_ref get_end
theorem dgTup_run {t : DTGs} {r : Run} {env : DEnv} {st : Store} {Q : DEnv → Store → Prop} : dgTup 2 t (dRun r) env st Q = t [dL r.1, .int r.2] env st Q := by
  unfold dgTup dRun
  simp
theorem tup_run {l : Letter} {e : Int} : D.tup [dL l, .int e] = dRun (l, e) := rfl
theorem ty_run {st : Store} {r : Run} : D.tyName st (dRun r) = some "tuple" := rfl
theorem ty_L {st : Store} {r : Letter} : D.tyName st (dL r) = some "tuple" := rfl
theorem ty_W {st : Store} {r : Word} : D.tyName st (dW r) = some "tuple" := rfl
theorem dEqv_L0 {st : Store} (l : Letter) : dEqv st (dL l) (.tup []) = some false := by
  rw [dEqv_fl (fl_L 7 l) rfl]
  rfl
theorem item_W' {st : Store} {w : Word} {i : Int} (h0 : 0 ≤ i) (h1 : i < w.length) : dItem st (dW w) i = some (dRun (w[i.toNat]'(by omega))) := by
  obtain ⟨r, h, e⟩ := item_W (st := st) h0 h1
  rw [e, List.getElem?_eq_getElem (by omega)] at *
  cases h
  rfl
theorem isEmpty_snoc {α : Type} (xs : List α) (v : α) : (xs ++ [v]).isEmpty = false := by simp
theorem len_W {w : Word} {st : Store} {Q : DQ} : dLen [dW w] st Q = Q (.int w.length) st := by
  unfold dLen dW
  simp
theorem add_W {u v : Word} {st : Store} {Q : DQ} : dAdd (dW u) (dW v) st Q = (u.length + v.length ≤ sizeLine ∧ Q (dW (u ++ v)) st) := by
  unfold dAdd dW
  simp
theorem sl_to {w : Word} {k : Int} {st : Store} {Q : DQ} (h : 0 ≤ k) : dSl (dW w) none (some k) st Q = Q (dW (w.take k.toNat)) st := by
  unfold dSl dW
  dsimp only
  rw [cut_toI h, List.map_take]
theorem sl_from {w : Word} {k : Int} {st : Store} {Q : DQ} (h : 0 ≤ k) : dSl (dW w) (some k) none st Q = Q (dW (w.drop k.toNat)) st := by
  unfold dSl dW
  dsimp only
  rw [cut_fromI h, List.map_drop]
theorem tup_W1 {r : Run} : D.tup [dRun r] = dW [r] := rfl
end DL

namespace L2
open PySem PySem.Spec PyProof.Rows
theorem tuple_mul1 (l : Addr) (items : Array Value) (n : Nat) (dd : Option Addr) (sl : Array (Option Value)) (x : Int) (u : Tok) (c0 : (decide (x < -(2 ^ 63)) || decide (x ≥ 2 ^ 63)) = false) (c1 : (items.isEmpty || x == 1) = true) :
    Meets (Builtin.«tuple.__mul__» ⟨[.ref l, .int x u], []⟩) (fun _ R s => s.heap.get? l = some { cls := .type "tuple", dict := dd, data := .seq items n, slots := sl } ∧
      R (.ok (.ret (Value.ref l))) s) :=
  .of_wp fun prog w A R s h => by
    obtain ⟨hp, g, d, tk, os⟩ := s
    obtain ⟨hl, h⟩ := h
    have f1 := AutoSeq1.idx_int
    wp_walk using wpAny_loadPart' hl
    repeat (first
      | (refine wpAny_ite_false (decide_eq_false (by rw [c0]; exact Bool.false_ne_true)) ?_; wp_walk using wpAny_loadPart' hl)
      | (refine wpAny_ite_true (decide_eq_true (by rw [c1])) ?_; wp_walk using wpAny_loadPart' hl))
    exact ⟨_, rfl, h⟩
/-- tuple * 1, or of nothing: the tuple itself -/
def rRepT1 (K : PySem.W.Frag) : R2 := fun x y H Q => ∃ l k xs, x = .ref l ∧ y = .int k ∧ SqT K H l xs ∧ k = 1 ∧ Q (.ref l) H
theorem op_repT1 {X : Cx} : OpR X (binaryOp .Mult) (rRepT1 X.K) := by
  intro pins s σ H x y v u Q I rx ry h
  obtain ⟨l, k, xs, rfl, rfl, hT, rfl, q⟩ := h
  cases rx
  obtain ⟨t, rfl⟩ := ry
  obtain ⟨its, r, ⟨⟨cls, dd, data, sl⟩, ho, hc, n, hd⟩, hs⟩ := I.tuple hT
  simp only at hc hd
  subst hc hd
  have c0 : (decide ((1 : Int) < -(2 ^ 63)) || decide ((1 : Int) ≥ 2 ^ 63)) = false := by decide
  have c1 : (its.toArray.isEmpty || (1 : Int) == 1) = true := by simp
  refine wpAny_binaryOp_repeat_ref (T := "tuple") (U := "int") (by decide) ⟨_, ho, rfl⟩ (fun s' => typeIs_int s' 1 t) noFill_tuple_mul F.fills_int_mul F.slot_int_rmul repeat_tuple F.slot_int_index.lookup
    (call_meets F.slot_int_rmul (typeIs_int s 1 t) F.entry_int_rmul (F.args_int_rmul_2 _ _) (int_rmul_tuple 1 t l its.toArray n dd sl)
      ⟨ho, rfl, ⟨_, ho, rfl⟩, call_meets F.slot_tuple_mul ⟨_, ho, rfl⟩ F.entry_tuple_mul (F.args_tuple_mul_2 _ _) (tuple_mul1 l its.toArray n dd sl 1 t c0 c1) ⟨ho, ?_⟩⟩)
  exact ⟨.ref l, H, I, rfl, q⟩
end L2
namespace DL
open PySem PySem.Spec L2
/-! min, max, sum; a star in a display; a tuple many times -/
def dMin : DRA := fun ds st Q => match ds with
  | [.int i, .int j] => Q (.int (if j < i then j else i)) st
  | _ => False
def dMax : DRA := fun ds st Q => match ds with
  | [.int i, .int j] => Q (.int (if j > i then j else i)) st
  | _ => False
theorem sc_min {X : Cx} (hc : X.calm = true) : SCl X (.builtin "min") (fun xs H Q => ∃ i j, xs = [.int i, .int j] ∧ Q (.int (if j < i then j else i)) H) dMin := by
  refine ⟨call_min2 hc, fun ρ st H xs dxs Q W rs px q w => ?_⟩
  unfold dMin at q
  split at q
  · rename_i i j
    obtain ⟨v, u, rfl, r, r'⟩ := px.two
    obtain rfl := rep_int r
    obtain rfl := rep_int r'
    exact ⟨i, j, rfl, w _ H (.of rs (.int _) q)⟩
  · exact q.elim
theorem sc_max {X : Cx} (hc : X.calm = true) : SCl X (.builtin "max") (fun xs H Q => ∃ i j, xs = [.int i, .int j] ∧ Q (.int (if j > i then j else i)) H) dMax := by
  refine ⟨call_max2 hc, fun ρ st H xs dxs Q W rs px q w => ?_⟩
  unfold dMax at q
  split at q
  · rename_i i j
    obtain ⟨v, u, rfl, r, r'⟩ := px.two
    obtain rfl := rep_int r
    obtain rfl := rep_int r'
    exact ⟨i, j, rfl, w _ H (.of rs (.int _) q)⟩
  · exact q.elim
/-- the sum of a list of ints -/
def dSum : DRA := fun ds st Q => ∃ (k : Nat) (ns : List Int), ds = [.ref k] ∧ st[k]? = some (.lst (ns.map D.int)) ∧ Q (.int ns.sum) st
theorem reps_ints {K : PySem.W.Frag} {ρ : List Addr} {H : Hp} : ∀ {ns : List Int} {vs : List V}, Reps K ρ H (ns.map D.int) vs → vs = ns.map V.int
  | [], vs, h => by unfold List.map Reps at h; rw [h]; rfl
  | n :: ns, vs, h => by
    rw [List.map_cons] at h
    unfold Reps at h
    obtain ⟨v, r, rfl, h1, h2⟩ := h
    rw [rep_int h1, reps_ints h2]
    rfl
theorem sc_sum {X : Cx} {K : PySem.W.Frag} [hk : HasK X K] (hc : X.calm = true) : SCl X (.builtin "sum") (rSum K) dSum := by
  obtain rfl := hk.eq
  refine ⟨cr_sum hc, fun ρ st H xs dxs Q W rs px q w => ?_⟩
  obtain ⟨k, ns, rfl, hk, q⟩ := q
  obtain ⟨v, rfl, r⟩ := px.one
  obtain ⟨a, ha, rfl⟩ := rep_ref r
  obtain ⟨vs, hv, hr⟩ := rs.lst ha hk
  obtain rfl := reps_ints hr
  exact ⟨a, ns, rfl, SqL.of hv, w _ H (.of rs (.int _) q)⟩
def dStar (de : DTE) (dr : DTA) : DTA := fun env st Q => de env st fun x st1 => (match x with | .str _ => False | _ => True) ∧ match dItems st1 x with
  | some xs => dr env st1 fun ys st2 => Q (xs ++ ys) st2
  | none => False
section
variable {X : Cx} {e : Expr} {es : List Expr} {te : TE} {t : TA} {de : DTE} {da : DTA} {p pos : Pos}
theorem sa_star {K : PySem.W.Frag} [hk : HasK X K] (he : SE X e te de) (hr : SA X es t da) (hs : starEach (.Starred e p :: es) X.env = (true, eval e X.env) :: starEach es X.env := by rfl) : SA X (.Starred e p :: es) (StX.tStar K te t) (dStar de da) := by
  obtain rfl := hk.eq
  refine ⟨StX.pa_star he.pe hr.pa hs, fun ρ env st σ H Q W rs re q w => ?_⟩
  refine he.sim ρ env st σ H _ _ rs re q fun x H1 ⟨ρ1, dx, st1, k1, r1, px, q1⟩ => ?_
  obtain ⟨hz, q1⟩ := q1
  split at q1
  · rename_i items e1
    have go : ∀ (a : Addr) (vs : List V), (SqT X.K H1 a vs ∨ SqL X.K H1 a vs) → Reps X.K ρ1 H1 items vs → x = .ref a → StX.tStar X.K te t σ H1 W ∨ True := fun _ _ _ _ _ => .inr trivial
    clear go
    have fin : ∀ (a : Addr) (vs : List V), x = .ref a → (SqT X.K H1 a vs ∨ SqL X.K H1 a vs) → Reps X.K ρ1 H1 items vs → ∃ p xs, x = V.ref p ∧ (SqT X.K H1 p xs ∨ SqL X.K H1 p xs) ∧ t σ H1 fun ys H2 => W (xs ++ ys) H2 := by
      intro a vs ea hs hrr
      refine ⟨a, vs, ea, hs, ?_⟩
      refine hr.sim ρ1 env st1 σ H1 _ _ r1 (re.keep k1) q1 fun ys H2 ⟨ρ2, ds, st2, k2, r2, pys, q2⟩ => ?_
      exact w _ H2 ⟨ρ2, _, st2, k1.trans k2, r2, (hrr.keep k2).app pys, q2⟩
    cases dx with
    | tup xs =>
      cases e1
      obtain ⟨a, vs, rfl, hs, hrr⟩ := rep_tup px
      exact fin a vs rfl (.inl hs) hrr
    | rol xs =>
      cases e1
      obtain ⟨a, vs, rfl, hs, hrr⟩ := rep_rol px
      exact fin a vs rfl (.inr (sqf_l hs)) hrr
    | ref n =>
      obtain ⟨a, ha, rfl⟩ := rep_ref px
      unfold dItems at e1
      dsimp only at e1
      split at e1
      · rename_i xs e3
        cases e1
        obtain ⟨vs, hv, hrr⟩ := r1.lst ha e3
        exact fin a vs rfl (.inr (SqL.of hv)) hrr
      · cases e1
    | str z => exact hz.elim
    | _ => cases e1
  · exact q1.elim
end
/-! tuple * int, at least once -/
def dMulT : DR2 := fun x y st Q => match x, y with
  | .tup a, .int n => a ≠ [] ∧ 1 ≤ n ∧ n ≤ 1000 ∧ a.length ≤ 1000 ∧ Q (.tup (List.replicate n.toNat a).flatten) st
  | x, y => dMul x y st Q
def rMulT (K : PySem.W.Frag) : R2 := fun x y H Q => rMulAll x y H Q ∨ (rRepT K x y H Q ∨ rRepT1 K x y H Q)
theorem sim_mulT {K : PySem.W.Frag} : SimR2 K (rMulT K) dMulT := by
  intro ρ st H x y dx dy Q W rs px py q w
  by_cases h : ∃ a n, dx = .tup a ∧ dy = .int n
  · obtain ⟨a, n, rfl, rfl⟩ := h
    obtain ⟨h1, h2, h3, h4, q⟩ := q
    have px' := px
    obtain ⟨l, vs, rfl, hs, hr⟩ := rep_tup px
    obtain rfl := rep_int py
    by_cases hn : n = 1
    · subst hn
      have e : (List.replicate (1 : Int).toNat a).flatten = a := by simp
      rw [e] at q
      exact .inr (.inr ⟨l, 1, vs, rfl, rfl, hs, rfl, w _ _ (.of rs px' q)⟩)
    · refine .inr (.inl ⟨l, n, vs, rfl, rfl, hs, ?_, by omega, h3, by rw [← hr.len]; exact h4, fun p hp => w _ _ (.tup rs hp (hr.repl _) q)⟩)
      rintro rfl
      exact h1 (List.eq_nil_of_length_eq_zero hr.len)
  · have q' : dMul dx dy st Q := by
      cases dx with
      | tup a =>
        cases dy with
        | int n => exact absurd ⟨a, n, rfl, rfl⟩ h
        | _ => exact q
      | _ => exact q
    exact .inl (sim_mul ρ st H x y dx dy Q W rs px py q' w)
theorem so_mulT {X : Cx} {K : PySem.W.Frag} [hk : HasK X K] : SOp X (binaryOp .Mult) (rMulT K) dMulT := by
  obtain rfl := hk.eq
  exact ⟨.or so_mul.op (.or op_repT op_repT1), sim_mulT⟩
/-! f(a, k = b) -/
def gK {α : Type} (n m : Nat) (us ws : List α) : List α := if us.length = n ∧ ws.length = m then us ++ ws else []
structure SK (X : Cx) (kws : List Keyword) (t : TA) (da : DTA) : Prop where
  pk : PK X kws t
  sim : SimA X.K t da
def dCallK (n m : Nat) (dsp : DSp) (da dk : DTA) : DTE := fun env st Q => da env st fun ds st1 => dk env st1 fun zs st2 => dsp (gK n m ds zs) st2 Q
section
variable {X : Cx} {k : Nat} {f : Addr} {fd : FuncData} {ps ks : List Str} {dsp : DSp} {x : Str} {p pos kpos : Pos} {e : Expr} {es : List Expr} {t tk : TA} {te : TE} {de : DTE} {da dk : DTA} {kws : List Keyword} {nm : Option Str} {n m : Nat}
theorem sk_nil : SK X [] tNil dNil := ⟨pk_nil, fun ρ env st σ H Q W rs re q w => w [] H ⟨ρ, [], st, Keep.refl, rs, Reps.nil, q⟩⟩
theorem sk_cons (ha : SE X e te de) (hr : SK X kws t da) : SK X (⟨nm, e, kpos⟩ :: kws) (tCons te t) (dCons de da) := by
  refine ⟨pk_cons ha.pe hr.pk, fun ρ env st σ H Q W rs re q w => ?_⟩
  refine ha.sim ρ env st σ H _ _ rs re q fun x H1 ⟨ρ1, dx, st1, k1, r1, px, q1⟩ => ?_
  refine hr.sim ρ1 env st1 σ H1 _ _ r1 (re.keep k1) q1 fun xs H2 ⟨ρ2, ds, st2, k2, r2, pxs, q2⟩ => ?_
  exact w _ H2 ⟨ρ2, _, st2, k1.trans k2, r2, .cons (px.keep k2) pxs, q2⟩
theorem se_callK {K : PySem.W.Frag} [hK : HasK X K] (F : FnOk X.prog X.w K X.mg X.base CX0 k f fd ps (spOf K dsp)) (hr : Room k X.A) (hg : Gl X x) (hm : X.mg x = some (.ref f)) (hk : PySem.W.keepIn K (.ref f) = true) (hb : KBinds K fd ps ks (gK n m) (gK n m))
    (ha : SA X (e :: es) t da) (hkw : SK X kws tk dk) (hall : (backToKw pos (keywordEach kws X.env)).all (·.1.isSome) = true := by rfl) (hks : (backToKw pos (keywordEach kws X.env)).filterMap (·.1) = ks := by rfl)
    (hdb : (x == ("__debug__" : Str)) = false := by decide) (he : starEach (e :: es) X.env = (false, eval e X.env) :: starEach es X.env := by rfl)
    (hpl : ((backTo pos (starEach (e :: es) X.env)).any (·.1) || (backToKw pos (keywordEach kws X.env)).any (·.1.isNone)) = false := by rfl) :
    SE X (.Call (.Name x p) (e :: es) kws pos) (tCallK (spOf K dsp) (gK n m) E0 t tk) (dCallK n m dsp da dk) := by
  obtain rfl := hK.eq
  refine ⟨pe_callK F hr hg hm hk hb pass0 ha.pa hkw.pk hall hks hdb he hpl, fun ρ env st σ H Q W rs re q w => ?_⟩
  refine ha.sim ρ env st σ H _ _ rs re q fun xs H1 ⟨ρ1, ds, st1, k1, r1, px, q1⟩ => ?_
  refine hkw.sim ρ1 env st1 σ H1 _ _ r1 (re.keep k1) q1 fun zs H2 ⟨ρ2, dz, st2, k2, r2, pz, q2⟩ => ?_
  refine ⟨ρ2, gK n m ds dz, st2, Q, r2, ?_, q2, fun v H' pq => w v H' ((pq.keep k2).keep k1)⟩
  unfold gK
  rw [← px.len, ← pz.len]
  split
  · exact (px.keep k2).app pz
  · exact Reps.nil
end
theorem kbinds_mk {K : PySem.W.Frag} {fd : FuncData} {ps ks : List Str} {n m : Nat} (hn : ps.length = n + m) (hm : ks.length = m) (h0 : 0 < n + m) (h : ∀ us ws : List Value, us.length = n → ws.length = m → bindArgs fd ⟨us, ks.zip ws⟩ = pure (ps.zip (us ++ ws))) : KBinds K fd ps ks (gK n m) (gK n m) := by
  refine ⟨fun s us ws _ hl => ?_, fun {vs us zs ws} r1 r2 => ?_⟩
  · unfold gK at hl ⊢
    split at hl
    · rename_i hc
      rw [if_pos hc]
      exact .of_eq (h us ws hc.1 hc.2)
    · rw [List.length_nil] at hl
      omega
  · unfold gK
    rw [r1.length, r2.length]
    split
    · exact r1.append r2
    · exact .nil
end DL
namespace L2
open PySem PySem.Spec PyProof.Rows
theorem list_extend_tup (l : Addr) (items : Array Value) (n : Nat) (b : Addr) (items2 : Array Value) (n2 : Nat) (dd : Option Addr) (sl : Array (Option Value)) (hs0 : ¬(!items.isEmpty && Builtin.List.listTooLong (items.size + items2.size)) = true) (hs1 : items.size ≤ sizeLine) (hs2 : items.size + items2.size ≤ sizeLine + 1) :
    Meets (Builtin.«list.extend» ⟨[.ref l, .ref b], []⟩) (fun _ R s => s.heap.get? l = some { cls := .type "list", dict := none, data := .seq items n, slots := #[] } ∧ s.heap.get? b = some { cls := .type "tuple", dict := dd, data := .seq items2 n2, slots := sl } ∧ R (.ok (.ret Value.none)) { s with heap := s.heap.update l (Obj.mapSeq fun x => x ++ items2), toks := s.toks }) :=
  .of_wp fun prog w A R s h => by
    obtain ⟨hp, g, d, tk, os⟩ := s; obtain ⟨hl, hb, h⟩ := h; have f1 := AutoSeq1.idx_int; have f2 := AutoSeq1.sub_tuple_tuple; have f3 := AutoSeq1.sub_list_list; have f4 := AutoSeq1.sub_tuple_list; have f5 := AutoSeq1.sub_list_tuple;
    have hz' : (items ++ items2).size ≤ sizeLine + 1 := by rw [Array.size_append]; exact hs2
    wp_walk using (wpAny_updateSeq hl rfl (hz := hs1) (_hz' := hz')), wpAny_loadPart' hl, wpAny_loadPart' hb; exact ⟨_, rfl, h⟩
def rExtT (K : PySem.W.Frag) : V → List V → Hp → VK → Prop := fun x vs H Q => ∃ l b xs zs, x = .ref l ∧ vs = [.ref b] ∧ H l = some (.lst xs) ∧ SqT K H b zs ∧ xs.length + zs.length ≤ sizeLine ∧ Q .non (upd H l (.lst (xs ++ zs)))
theorem mt_extT {X : Cx} : MtM X "list.extend" (rExtT X.K) := by
  intro pins s σ H x vs v us Q I rx rv h
  obtain ⟨l, b, xs, zs, rfl, rfl, hH, hB, hz, q⟩ := h
  cases rx
  obtain ⟨u, rfl, ru⟩ := rv.one
  cases ru
  obtain ⟨z, its, n, r, hl, e⟩ := I.lstM hH
  obtain ⟨its2, r2, ⟨⟨cls, dd, data, sl⟩, ho, hc, n2, hd⟩, hs⟩ := I.tuple hB
  simp only at hc hd
  subst hc hd
  have hl2 : its2.length = zs.length := r2.length.symm
  have hl1 : its.length = xs.length := r.length.symm
  have hsz : its.toArray.size + its2.toArray.size ≤ sizeLine := by rw [List.size_toArray, List.size_toArray]; omega
  have hlong : ¬ (!its.toArray.isEmpty && Builtin.List.listTooLong (its.toArray.size + its2.toArray.size)) = true := by
    rw [notLongL hsz, Bool.and_false]
    exact Bool.false_ne_true
  refine call_meets F.slot_list_extend ⟨_, e, rfl⟩ F.entry_list_extend (F.args_list_extend_2 _ _)
    (list_extend_tup l its.toArray n b its2.toArray n2 dd sl hlong (by rw [List.size_toArray]; omega) (by omega)) ⟨e, ho, ?_⟩
  refine ⟨.non, _, I.lset (its' := its ++ its2) hH e (by simp) (r.append r2) ?_, rfl, q⟩
  rw [List.length_append]
  omega
def rExtA (K : PySem.W.Frag) : V → List V → Hp → VK → Prop := fun x vs H Q => rExtend x vs H Q ∨ rExtT K x vs H Q
theorem mt_extA {X : Cx} : MtM X "list.extend" (rExtA X.K) := by
  intro pins s σ H x vs v us Q I rx rv h
  rcases h with h | h
  · exact mt_extend _ _ _ _ _ _ _ _ _ I rx rv h
  · exact mt_extT _ _ _ _ _ _ _ _ _ I rx rv h
end L2
namespace DL
open PySem PySem.Spec L2
def dExtT : DRM := fun x ds st Q => match x, ds with
  | .ref k, [.tup ys] => match st[k]? with
    | some (.lst xs) => xs.length + ys.length ≤ sizeLine ∧ Q .non (st.set k (.lst (xs ++ ys)))
    | _ => False
  | _, _ => False
theorem sim_extT {K : PySem.W.Frag} : SimRM K (rExtA K) dExtT := by
  intro ρ st H x dx xs dxs Q W rs px pxs q w
  unfold dExtT at q
  split at q
  · obtain ⟨a, ha, rfl⟩ := rep_ref px
    obtain ⟨v, rfl, pv⟩ := pxs.one
    obtain ⟨b, vs2, rfl, hs, hr2⟩ := rep_tup pv
    split at q
    · rename_i ys e1
      obtain ⟨vs, hv, hr⟩ := rs.lst ha e1
      exact .inr ⟨a, b, vs, vs2, rfl, rfl, hv, hs, by rw [← hr.len, ← hr2.len]; exact q.1, w _ _ (.put rs ha hv (hr.app hr2) .non q.2)⟩
    · exact q.elim
  · exact q.elim
section
variable {X : Cx} {o e : Expr} {es : List Expr} {to : TE} {t : TA} {dO : DTE} {da : DTA} {pos apos : Pos}
theorem se_extendT {K : PySem.W.Frag} [hk : HasK X K] (ho : SE X o to dO) (ha : SA X (e :: es) t da) (hbase : attributeBase o "extend" X.env (eval o X.env) = eval o X.env := by rfl)
    (hfew : ((backTo pos (starEach (e :: es) X.env)).all (fun x => !x.1) && (backToKw pos (keywordEach [] X.env)).all (fun x => x.1.isSome)
      && decide ((e :: es).length + ([] : List Keyword).length + (if ([] : List Keyword).isEmpty then 0 else 1) < 30)) = true := by rfl)
    (hline : (apos.endLine == pos.line) = true := by rfl) (hs : starEach (e :: es) X.env = (false, eval e X.env) :: starEach es X.env := by rfl) (hplain : (backTo pos (starEach es X.env)).any (·.1) = false := by rfl) :
    SE X (.Call (.Attribute o "extend" apos) (e :: es) [] pos) (tBM K "list" (rExtA K) to t) (dBM dExtT dO da) := by
  obtain rfl := hk.eq
  exact ⟨pe_bm PySem.F.plainAttrs_list PySem.F.slot_list_extend PySem.F.type_list_extend mt_extA ho.pe ha.pa hbase hfew hline hs hplain, sim_bm sim_extT ho.sim ha.sim⟩
end
end DL

/-! the readings, by what they are given -/
namespace DL
open PySem PySem.Spec L2 Wd
section
variable {st : Store} {Q : DQ} {k l : Nat} {xs ys : List D} {x y : D} {i j : Int} {z u : Str} {env : DEnv} {w v : Word} {QB : Bool → Store → Prop}
theorem w_add_i : dAdd (.int i) (.int j) st Q = Q (.int (i + j)) st := rfl
theorem w_add_t : dAdd (.tup xs) (.tup ys) st Q = (xs.length + ys.length ≤ sizeLine ∧ Q (.tup (xs ++ ys)) st) := rfl
theorem w_add_s : dAdd (.str z) (.str u) st Q = (z.length + u.length ≤ sizeLine ∧ Q (.str (z ++ u)) st) := rfl
theorem w_add_r : dAdd (.ref k) (.ref l) st Q = match st[k]?, st[l]? with
    | some (.lst a), some (.lst b) => a.length + b.length ≤ sizeLine ∧ Q (.ref st.length) (st ++ [.lst (a ++ b)])
    | _, _ => False := rfl
theorem w_mul_i : dMul (.int i) (.int j) st Q = (CMulA i j ∧ Q (.int (i * j)) st) := rfl
theorem w_ii {C : Int → Int → Prop} {g : Int → Int → D} : dII C g (.int i) (.int j) st Q = (C i j ∧ Q (g i j) st) := rfl
theorem w_i0 {g : Int → Int → D} : dI0 g (.int i) (.int j) st Q = Q (g i j) st := rfl
theorem w_int_i : D.int? (.int i) = some i := rfl
theorem w_int_b {b : Bool} : D.int? (.bl b) = some (if b then 1 else 0) := rfl
theorem w_min : dMin [.int i, .int j] st Q = Q (.int (if j < i then j else i)) st := rfl
theorem w_max : dMax [.int i, .int j] st Q = Q (.int (if j > i then j else i)) st := rfl
theorem w_mulT_i : dMulT (.int i) (.int j) st Q = (CMulA i j ∧ Q (.int (i * j)) st) := rfl
theorem w_mulT_t : dMulT (.tup xs) (.int j) st Q = (xs ≠ [] ∧ 1 ≤ j ∧ j ≤ 1000 ∧ xs.length ≤ 1000 ∧ Q (.tup (List.replicate j.toNat xs).flatten) st) := rfl
theorem w_mulT_W : dMulT (dW w) (.int j) st Q = (w ≠ [] ∧ 1 ≤ j ∧ j ≤ 1000 ∧ w.length ≤ 1000 ∧ Q (dW (List.replicate j.toNat w).flatten) st) := by
  unfold dW
  rw [w_mulT_t]
  rw [List.length_map, List.map_flatten, List.map_replicate]
  simp
theorem w_gK11 : gK 1 1 [x] [y] = [x, y] := rfl
def dStarK (x : D) (env : DEnv) (dr : DTA) (st : Store) (R : List D → Store → Prop) : Prop := (match x with | .str _ => False | _ => True) ∧ match dItems st x with
  | some xs => dr env st fun ys st2 => R (xs ++ ys) st2
  | none => False
theorem w_star {de : DTE} {dr : DTA} {R : List D → Store → Prop} : dStar de dr env st R = de env st fun x st1 => dStarK x env dr st1 R := rfl
theorem w_star_t {dr : DTA} {R : List D → Store → Prop} : dStarK (.tup xs) env dr st R = dr env st fun ys st2 => R (xs ++ ys) st2 := by
  simp [dStarK, dItems]
theorem w_star_W {dr : DTA} {R : List D → Store → Prop} : dStarK (dW w) env dr st R = dr env st fun ys st2 => R (w.map dRun ++ ys) st2 := by
  simp [dStarK, dItems, dW]
theorem dEqv_bl {b c : Bool} : dEqv st (.bl b) (.bl c) = some (b == c) := by
  rw [dEqv_fl rfl rfl]
  simp only [D.py, PyData.eqv]
theorem dSum_ref {ns : List Int} {m : Nat} (h : st[m]? = some (.lst (ns.map D.int))) (q : Q (.int ns.sum) st) : dSum [.ref m] st Q := ⟨m, ns, rfl, h, q⟩
theorem dEqv_W0 : dEqv st (dW w) (.tup []) = some (decide (w = [])) := dEqv_W w []
theorem cut_mid {s e : Nat} (h1 : s ≤ e) (h2 : e ≤ xs.length) : cutD xs (some (s : Int)) (some (e : Int)) = (xs.drop s).take (e - s) := by
  unfold cutD
  rw [HT.sIx_nat, HT.sIx_nat, Nat.min_eq_left h2, Nat.min_eq_left (by omega)]
theorem cut_inner {a b : D} : cutD (a :: (xs ++ [b])) (some 1) (some (-1)) = xs := by
  unfold cutD
  have e1 : HT.sIx (a :: (xs ++ [b])).length 0 (some 1) = 1 := by
    have := HT.sIx_nat (a :: (xs ++ [b])).length 0 1
    rw [List.length_cons, List.length_append] at this ⊢
    simp at this ⊢
    omega
  have e2 : HT.sIx (a :: (xs ++ [b])).length (a :: (xs ++ [b])).length (some (-1)) = xs.length + 1 := by
    show (if (-1 : Int) < 0 then (-1 + ((a :: (xs ++ [b])).length : Int)).toNat else min (-1 : Int).toNat (a :: (xs ++ [b])).length) = _
    rw [if_pos (by omega), List.length_cons, List.length_append, List.length_singleton]
    omega
  rw [e1, e2, List.drop_succ_cons, List.drop_zero, Nat.add_sub_cancel, List.take_left]
theorem sl_midW {s e : Nat} (h1 : s ≤ e) (h2 : e ≤ w.length) : dSl (dW w) (some (s : Int)) (some (e : Int)) st Q = Q (dW ((w.drop s).take (e - s))) st := by
  unfold dSl dW
  dsimp only
  rw [cut_mid h1 (by rw [List.length_map]; exact h2), List.map_take, List.map_drop]
theorem sl_innerW {a b : Run} : dSl (dW (a :: (w ++ [b]))) (some 1) (some (-1)) st Q = Q (dW w) st := by
  unfold dSl dW
  dsimp only
  rw [List.map_cons, List.map_append, List.map_cons, List.map_nil, cut_inner]
theorem item_lastW {b : Run} : dItem st (dW (w ++ [b])) (-1) = some (dRun b) := by
  unfold dW
  rw [List.map_append]
  exact atI_end _ _
def mk : Letter := ⟨33, []⟩
theorem w_mark : D.tup [D.str (Str.ofString "!")] = dL mk := by
  have e : Str.ofString "!" = ⟨#[33]⟩ := by decide
  rw [e]
  rfl
theorem w_extT {zs : List D} : dExtT (.ref k) [.tup zs] st Q = match st[k]? with
    | some (.lst xs) => xs.length + zs.length ≤ sizeLine ∧ Q .non (st.set k (.lst (xs ++ zs)))
    | _ => False := rfl
theorem w_extT_W : dExtT (.ref k) [dW w] st Q = match st[k]? with
    | some (.lst xs) => xs.length + w.length ≤ sizeLine ∧ Q .non (st.set k (.lst (xs ++ w.map dRun)))
    | _ => False := by
  unfold dW
  rw [w_extT, List.length_map]
theorem w_neg : dNeg (.int i) st Q = Q (.int (-i)) st := rfl
theorem w_ix : dIx x (.int i) st Q = match dItem st x i with
    | some d => Q d st
    | none => False := rfl
theorem w_len_t : dLen [.tup xs] st Q = Q (.int xs.length) st := rfl
theorem w_len_l : dLen [.rol xs] st Q = Q (.int xs.length) st := rfl
theorem w_len_r : dLen [.ref k] st Q = match st[k]? with
    | some (.lst xs) => Q (.int xs.length) st
    | _ => False := rfl
theorem w_list_t : dListOf [.tup xs] st Q = Q (.ref st.length) (st ++ [.lst xs]) := rfl
theorem w_list_l : dListOf [.rol xs] st Q = Q (.ref st.length) (st ++ [.lst xs]) := rfl
theorem w_list_r : dListOf [.ref k] st Q = match st[k]? with
    | some (.lst xs) => Q (.ref st.length) (st ++ [.lst xs])
    | _ => False := rfl
theorem w_list_W : dListOf [dW w] st Q = Q (.ref st.length) (st ++ [.lst (w.map dRun)]) := rfl
theorem w_tuple_t : dTupleOf [.tup xs] st Q = Q (.tup xs) st := rfl
theorem w_tuple_l : dTupleOf [.rol xs] st Q = Q (.tup xs) st := rfl
theorem w_tuple_r : dTupleOf [.ref k] st Q = match st[k]? with
    | some (.lst xs) => Q (.tup xs) st
    | _ => False := rfl
theorem w_tuple_W : dTupleOf [dW w] st Q = Q (dW w) st := rfl
theorem w_tup_W : D.tup (w.map dRun) = dW w := rfl
theorem w_item_t : dItem st (.tup xs) i = atI xs i := rfl
theorem w_item_l : dItem st (.rol xs) i = atI xs i := rfl
theorem w_items_t : dItems st (.tup xs) = some xs := rfl
theorem w_items_l : dItems st (.rol xs) = some xs := rfl
theorem w_items_W : dItems st (dW w) = some (w.map dRun) := rfl
theorem w_items_r : dItems st (.ref k) = match st[k]? with
    | some (.lst xs) => some xs
    | _ => none := rfl
theorem w_tru_b {b : Bool} : dTru (.bl b) st QB = QB b st := rfl
theorem w_tru_i : dTru (.int i) st QB = QB (i != 0) st := rfl
theorem w_tru_t : dTru (.tup xs) st QB = QB (!xs.isEmpty) st := rfl
theorem w_tru_W : dTru (dW w) st QB = QB (!w.isEmpty) st := by
  unfold dTru dW
  simp
theorem w_tru_l : dTru (.rol xs) st QB = QB (!xs.isEmpty) st := rfl
theorem w_tru_n : dTru .non st QB = QB false st := rfl
theorem w_tru_r : dTru (.ref k) st QB = match st[k]? with
    | some (.lst xs) => QB (!xs.isEmpty) st
    | _ => False := rfl
theorem w_gtup {n : Nat} {t : DTGs} {R : DEnv → Store → Prop} : dgTup n t (.tup xs) env st R = (xs.length = n ∧ t xs env st R) := rfl
theorem w_gcons {t : DTG} {u : DTGs} {R : DEnv → Store → Prop} : dgCons t u (x :: xs) env st R = t x env st fun env' st' => u xs env' st' R := rfl
theorem w_gnil {R : DEnv → Store → Prop} : dgNil [] env st R = R env st := rfl
def dRevK (x : D) (fin : List D → Store → DQ → Prop) (st : Store) (Q : DQ) : Prop := match x with
  | .ref k => match st[k]? with
    | some (.lst xs) => fin xs.reverse st Q
    | _ => False
  | .rol xs => fin xs.reverse st Q
  | _ => False
theorem w_revOf {te : DTE} {fin : List D → Store → DQ → Prop} : dRevOf te fin env st Q = te env st fun x st1 => dRevK x fin st1 Q := rfl
theorem w_rev_r {fin : List D → Store → DQ → Prop} : dRevK (.ref k) fin st Q = match st[k]? with
    | some (.lst xs) => fin xs.reverse st Q
    | _ => False := rfl
theorem w_rev_l {fin : List D → Store → DQ → Prop} : dRevK (.rol xs) fin st Q = fin xs.reverse st Q := rfl
theorem w_sl_t {lo hi : Option Int} : dSl (.tup xs) lo hi st Q = Q (.tup (cutD xs lo hi)) st := rfl
theorem w_sl_l {lo hi : Option Int} : dSl (.rol xs) lo hi st Q = Q (.ref st.length) (st ++ [.lst (cutD xs lo hi)]) := rfl
theorem w_sl_r {lo hi : Option Int} : dSl (.ref k) lo hi st Q = match st[k]? with
    | some (.lst xs) => Q (.ref st.length) (st ++ [.lst (cutD xs lo hi)])
    | _ => False := rfl
theorem w_ty_n : D.tyName st .non = some "NoneType" := rfl
theorem w_ty_b {b : Bool} : D.tyName st (.bl b) = some "bool" := rfl
theorem w_ty_i : D.tyName st (.int i) = some "int" := rfl
theorem w_ty_s : D.tyName st (.str z) = some "str" := rfl
theorem w_ty_t : D.tyName st (.tup xs) = some "tuple" := rfl
theorem w_ty_l : D.tyName st (.rol xs) = some "list" := rfl
theorem w_snoc {α : Type} {f : α → D} {xs : List α} {x : α} : xs.map f ++ [f x] = (xs ++ [x]).map f := by simp
theorem w_app {α : Type} {f : α → D} {xs ys : List α} : xs.map f ++ ys.map f = (xs ++ ys).map f := by simp
theorem w_end {α : Type} {f : α → D} {xs : List α} {x : α} : atI ((xs ++ [x]).map f) (-1) = some (f x) := by
  rw [List.map_append]
  exact atI_end _ _
theorem w_endN {α : Type} {f : α → D} {xs : List α} {x : α} : ((xs ++ [x]).map f)[(xs ++ [x]).length - 1]? = some (f x) := by simp
theorem w_endN2 {α : Type} {f : α → D} {xs : List α} {x : α} : ((xs ++ [x]).map f)[xs.length]? = some (f x) := by simp
theorem w_dl {α : Type} {f : α → D} {xs : List α} {x : α} : ((xs ++ [x]).map f).dropLast = xs.map f := by simp
theorem w_nilmap {α : Type} {f : α → D} : ([] : List α).map f = [] := rfl
theorem w_emp {α : Type} {f : α → D} {xs : List α} : (xs.map f).isEmpty = xs.isEmpty := by simp
theorem w_beq0 {b : Bool} : ((!b) = true) = (b = false) := by simp
theorem w_items_ref (h : st[k]? = some (.lst xs)) : dItems st (.ref k) = some xs := by
  rw [w_items_r, h]
theorem dEqv_0L (l : Letter) : dEqv st (.tup []) (dL l) = some false := by
  rw [dEqv_fl rfl (fl_L 7 l)]
  rfl
theorem item_WN {n : Nat} {r : Run} (h : w[n]? = some r) : dItem st (dW w) (n : Int) = some (dRun r) := by
  obtain ⟨r', h', e⟩ := item_W (st := st) (w := w) (i := n) (by omega) (by have := (List.getElem?_eq_some_iff.mp h).1; omega)
  rw [e]
  rw [Int.toNat_natCast, h] at h'
  cases h'
  rfl
theorem w_sl_toN {n : Nat} : dSl (dW w) none (some (n : Int)) st Q = Q (dW (w.take n)) st := by
  rw [sl_to (by omega)]
  rfl
theorem w_sl_fromN {n : Nat} : dSl (dW w) (some (n : Int)) none st Q = Q (dW (w.drop n)) st := by
  rw [sl_from (by omega)]
  rfl
theorem w_cut_tail : cutD (x :: xs) (some 1) none = xs := by
  have := cut_from (xs := x :: xs) (k := 1)
  exact this
def IsSeq (st : Store) (x : D) (xs : List D) : Prop := dItems st x = some xs ∧ ∀ z, x ≠ .str z
theorem IsSeq.app {s2 : Store} (h : IsSeq st x xs) : IsSeq (st ++ s2) x xs := ⟨dItems_app h.1, h.2⟩
theorem IsSeq.W : IsSeq st (dW w) (w.map dRun) := ⟨rfl, fun _ e => by cases e⟩
theorem IsSeq.ref (h : st[k]? = some (.lst xs)) : IsSeq st (.ref k) xs := ⟨w_items_ref h, fun _ e => by cases e⟩
theorem list_seq (h : IsSeq st x xs) : dListOf [x] st Q = Q (.ref st.length) (st ++ [.lst xs]) := by
  obtain ⟨h, hz⟩ := h
  cases x with
  | tup ys => cases h; rfl
  | rol ys => cases h; rfl
  | ref k =>
    rw [w_items_r] at h
    rw [w_list_r]
    split at h
    · rename_i e
      cases h
      rfl
    · cases h
  | str z => exact absurd rfl (hz z)
  | _ => cases h
theorem dWh_step {c : DTT} {tb : DTS} {n f : Nat} {d : DEnds} : dWh c tb n d (f + 1) env st = c env st fun b st1 => if b = true then tb n { d with nx := dWh c tb n d f, ct := dWh c tb n d f, bk := d.nx } env st1 else d.nx env st1 := rfl
theorem w_gc {Q1 : DTS} {n : Nat} {d : DEnds} (hn : n ≤ st.length) (wf : Wf st) (we : ∀ (i : Nat) x, env[i]? = some (some x) → x.lt st.length) (h : Q1 n d env st) : dGc Q1 n d env st := gc_id hn wf we h
end
theorem w_isi_int_int : isiD "int" "int" = some true := rfl
theorem w_isi_bool_int : isiD "bool" "int" = some true := rfl
theorem w_isi_str_int : isiD "str" "int" = some false := rfl
theorem w_isi_tuple_int : isiD "tuple" "int" = some false := rfl
theorem w_isi_list_int : isiD "list" "int" = some false := rfl
theorem w_isi_NoneType_int : isiD "NoneType" "int" = some false := rfl
theorem w_isi_int_bool : isiD "int" "bool" = some false := rfl
theorem w_isi_bool_bool : isiD "bool" "bool" = some true := rfl
theorem w_isi_str_bool : isiD "str" "bool" = some false := rfl
theorem w_isi_tuple_bool : isiD "tuple" "bool" = some false := rfl
theorem w_isi_list_bool : isiD "list" "bool" = some false := rfl
theorem w_isi_NoneType_bool : isiD "NoneType" "bool" = some false := rfl
theorem w_isi_int_str : isiD "int" "str" = some false := rfl
theorem w_isi_bool_str : isiD "bool" "str" = some false := rfl
theorem w_isi_str_str : isiD "str" "str" = some true := rfl
theorem w_isi_tuple_str : isiD "tuple" "str" = some false := rfl
theorem w_isi_list_str : isiD "list" "str" = some false := rfl
theorem w_isi_NoneType_str : isiD "NoneType" "str" = some false := rfl
theorem w_isi_int_tuple : isiD "int" "tuple" = some false := rfl
theorem w_isi_bool_tuple : isiD "bool" "tuple" = some false := rfl
theorem w_isi_str_tuple : isiD "str" "tuple" = some false := rfl
theorem w_isi_tuple_tuple : isiD "tuple" "tuple" = some true := rfl
theorem w_isi_list_tuple : isiD "list" "tuple" = some false := rfl
theorem w_isi_NoneType_tuple : isiD "NoneType" "tuple" = some false := rfl
theorem w_isi_int_list : isiD "int" "list" = some false := rfl
theorem w_isi_bool_list : isiD "bool" "list" = some false := rfl
theorem w_isi_str_list : isiD "str" "list" = some false := rfl
theorem w_isi_tuple_list : isiD "tuple" "list" = some false := rfl
theorem w_isi_list_list : isiD "list" "list" = some true := rfl
theorem w_isi_NoneType_list : isiD "NoneType" "list" = some false := rfl

/-! pools and cells -/
abbrev Pool := {o : O // IsPool o}
theorem Pool.lt {n : Nat} (p : Pool) : p.1.lt n := IsPool.lt p.2
theorem ex_pool {p0 : Pool} {R : Pool → Prop} : (∃ p : Pool, some p0.1 = some p.1 ∧ R p) = R p0 := by
  apply propext
  constructor
  · rintro ⟨p, e, h⟩
    have : p = p0 := Subtype.ext (Option.some.inj e).symm
    rw [← this]
    exact h
  · intro h
    exact ⟨p0, rfl, h⟩
theorem p_app {S l : Store} {k : Nat} (h : k < S.length) : (S ++ l)[k]? = S[k]? := List.getElem?_append_left h
theorem p_setapp {S l : Store} {k : Nat} {o : O} (h : k < S.length) : (S ++ l).set k o = S.set k o ++ l := List.set_append_left _ _ h
theorem p_self {S : Store} {k : Nat} {o : O} (h : k < S.length) : (S.set k o)[k]? = some o := List.getElem?_set_self h
theorem p_ne {S : Store} {k j : Nat} {o : O} (h : k ≠ j) : (S.set k o)[j]? = S[j]? := List.getElem?_set_ne h
theorem p_fix {S : Store} {k : Nat} {o : O} (h : S[k]? = some o) : S.set k o = S := by
  have hk := (List.getElem?_eq_some_iff.mp h)
  obtain ⟨h1, h2⟩ := hk
  rw [← h2]
  exact List.set_getElem_self h1
theorem ix_end {n : Nat} : ixN (n + 1) (-1) = some n := by
  unfold ixN
  rw [if_neg (by omega), if_pos (by omega)]
  congr 1
  omega
theorem set_end_map {α : Type} {f : α → D} {xs : List α} {x y : α} : ((xs ++ [x]).map f).set xs.length (f y) = (xs ++ [y]).map f := by simp
theorem dEqv_cells {S : Store} {a b : Nat} {xs ys : List D} (ha : S[a]? = some (.lst xs)) (hb : S[b]? = some (.lst ys)) (fx : xs.all (D.fl 8) = true) (fy : ys.all (D.fl 8) = true) : dEqv S (.ref a) (.ref b) = some (PyData.eqvAll (D.pys xs) (D.pys ys)) := by
  have e1 : pyd S (.ref a) = some (.list (D.pys xs)) := by
    unfold pyd
    rw [if_neg (by simp [D.fl])]
    dsimp only
    rw [ha]
    dsimp only
    rw [if_pos fx]
  have e2 : pyd S (.ref b) = some (.list (D.pys ys)) := by
    unfold pyd
    rw [if_neg (by simp [D.fl])]
    dsimp only
    rw [hb]
    dsimp only
    rw [if_pos fy]
  unfold dEqv
  rw [e1, e2]
  dsimp only
  simp only [PyData.eqv]
theorem dEqv_runs {S : Store} {a b : Nat} {u v : Word} (ha : S[a]? = some (.lst (u.map dRun))) (hb : S[b]? = some (.lst (v.map dRun))) : dEqv S (.ref a) (.ref b) = some (decide (u = v)) := by
  rw [dEqv_cells ha hb (fl_runs 6 u) (fl_runs 6 v), eqv_runs]
theorem fl_Ws (ws : List Word) : (ws.map dW).all (D.fl 8) = true := by
  rw [List.all_eq_true]
  intro d hd
  obtain ⟨i, _, rfl⟩ := List.mem_map.mp hd
  exact fl_W 5 i
theorem eqv_Ws : ∀ u v : List Word, PyData.eqvAll (D.pys (u.map dW)) (D.pys (v.map dW)) = decide (u = v)
  | [], [] => by simp [D.pys, PyData.eqvAll]
  | [], k :: ks => by simp [D.pys, PyData.eqvAll]
  | h :: hs, [] => by simp [D.pys, PyData.eqvAll]
  | h :: hs, k :: ks => by
    have ih := eqv_Ws hs ks
    have h1 := eqv_W h k
    simp only [List.map_cons, D.pys, PyData.eqvAll, ih, h1]
    rw [Bool.eq_iff_iff]
    simp
theorem dEqv_Ws {S : Store} {a b : Nat} {u v : List Word} (ha : S[a]? = some (.lst (u.map dW))) (hb : S[b]? = some (.lst (v.map dW))) : dEqv S (.ref a) (.ref b) = some (decide (u = v)) := by
  rw [dEqv_cells ha hb (fl_Ws u) (fl_Ws v), eqv_Ws]
theorem flatten_le {α : Type} {m : Nat} : ∀ {ws : List (List α)}, (∀ w ∈ ws, w.length ≤ m) → ws.flatten.length ≤ ws.length * m
  | [], _ => by simp
  | w :: ws, h => by
    have h1 := h w (by simp)
    have h2 := flatten_le (ws := ws) fun x hx => h x (by simp [hx])
    rw [List.flatten_cons, List.length_append, List.length_cons, Nat.succ_mul]
    omega
theorem ret_pre {st T : Store} {Q : DQ} {d : D} (wf : Wf st) (hd : d.lt st.length) (hT : ∀ i, i < st.length → T[i]? = st[i]?) (q : Q d st) : Ret st.length Q d T := ret_old (Nat.le_refl _) hT wf hd q
theorem at_map {α : Type} {f : α → D} {xs : List α} {v : Int} (h0 : 0 ≤ v) (h1 : v < (xs.length : Int)) : ∃ x ∈ xs, atI (xs.map f) v = some (f x) := by
  have h : v.toNat < xs.length := by omega
  refine ⟨xs[v.toNat], List.getElem_mem h, ?_⟩
  rw [atI_nn h0 (by rw [List.length_map]; exact h1), List.getElem?_map, List.getElem?_eq_getElem h]
  rfl
theorem pool_ne {α : Type} {f : α → D} {S : Store} {k a : Nat} {p : Pool} {xs : List α} (hk : S[k]? = some p.1) (ha : S[a]? = some (.lst (xs.map f))) (hf : ∀ x i, f x ≠ .int i) : k ≠ a := by
  rintro rfl
  obtain ⟨o, c, n, s, rfl, _⟩ := p
  rw [ha] at hk
  injection hk with hk
  injection hk with hk
  cases xs with
  | nil => cases hk
  | cons x xs =>
    rw [List.map_cons] at hk
    injection hk with h1 h2
    exact hf _ _ h1
theorem dL_ne (l : Letter) (i : Int) : dL l ≠ .int i := fun e => by cases e
theorem dRun_ne (l : Run) (i : Int) : dRun l ≠ .int i := fun e => by cases e
theorem dW_ne (l : Word) (i : Int) : dW l ≠ .int i := fun e => by cases e
theorem lt_of_get {S : Store} {k : Nat} {o : O} (h : S[k]? = some o) : k < S.length := (List.getElem?_eq_some_iff.mp h).1
/-- what the laws' drawn words keep -/
def WOk (ls : List Letter) (g : Int) (w : Word) : Prop := ∀ r ∈ w, r.1 ∈ ls ∧ -(10 ^ 30) < r.2 ∧ r.2 < 10 ^ 30 ∧ (g = 0 → -3 ≤ r.2 ∧ r.2 ≤ 3)
theorem WOk.app {ls : List Letter} {g : Int} {u v : Word} (h1 : WOk ls g u) (h2 : WOk ls g v) : WOk ls g (u ++ v) := fun r hr => (List.mem_append.mp hr).elim (h1 r) (h2 r)
theorem WOk.inv {ls : List Letter} {g : Int} {u : Word} (h : WOk ls g u) : WOk ls g (inv u) := fun r hr => by
  unfold Wd.inv at hr
  rw [List.mem_reverse] at hr
  obtain ⟨x, hx, rfl⟩ := List.mem_map.mp hr
  obtain ⟨h1, h2, h3, h4⟩ := h x hx
  exact ⟨h1, by show _ < -x.2; omega, by show -x.2 < _; omega, fun hg => by have := h4 hg; show -3 ≤ -x.2 ∧ -x.2 ≤ 3; omega⟩
theorem WOk.drop {ls : List Letter} {g : Int} {u : Word} (n : Nat) (h : WOk ls g u) : WOk ls g (u.drop n) := fun r hr => h r (List.mem_of_mem_drop hr)
theorem WOk.nil {ls : List Letter} {g : Int} : WOk ls g [] := fun r hr => by cases hr
theorem WOk.one {ls : List Letter} {g : Int} {l : Letter} {e : Int} (h : l ∈ ls) (h1 : -(10 ^ 30) < e) (h2 : e < 10 ^ 30) (h3 : g = 0 → -3 ≤ e ∧ e ≤ 3) : WOk ls g [(l, e)] := fun r hr => by
  rw [List.mem_singleton] at hr
  subst hr
  exact ⟨h, h1, h2, h3⟩
theorem Wf.apps {S l : Store} (w : Wf S) (h : ∀ o ∈ l, o.lt (S.length + l.length)) : Wf (S ++ l) := by
  intro j u e
  rw [List.length_append]
  by_cases hj : j < S.length
  · rw [List.getElem?_append_left hj] at e
    exact O.lt_mono (by omega) u (w j u e)
  · rw [List.getElem?_append_right (by omega)] at e
    exact h u (List.mem_of_getElem? e)
theorem lt_ints {n : Nat} (hs : List Int) : D.lts n (hs.map D.int) := by
  rw [lts_iff]
  intro d hd
  obtain ⟨r, _, rfl⟩ := List.mem_map.mp hd
  trivial
def EnvOk (n : Nat) : DEnv → DEnv → Prop
  | [], [] => True
  | none :: a, _ :: b => EnvOk n a b
  | some x :: a, y :: b => y = some x ∧ x.lt n ∧ EnvOk n a b
  | _, _ => False
theorem EnvOk.get {n : Nat} : ∀ {a b : DEnv}, EnvOk n a b → a.length = b.length ∧ ∀ (i : Nat) x, a[i]? = some (some x) → b[i]? = some (some x) ∧ x.lt n
  | [], [], _ => ⟨rfl, fun i x e => by simp at e⟩
  | none :: a, y :: b, h => by
    obtain ⟨h1, h2⟩ := EnvOk.get (a := a) (b := b) h
    refine ⟨by simp [h1], fun i x e => ?_⟩
    cases i with
    | zero => simp at e
    | succ i => simpa using h2 i x (by simpa using e)
  | some z :: a, y :: b, h => by
    obtain ⟨e1, e2, h⟩ := h
    obtain ⟨h1, h2⟩ := EnvOk.get (a := a) (b := b) h
    refine ⟨by simp [h1], fun i x e => ?_⟩
    cases i with
    | zero =>
      simp at e
      subst e
      subst e1
      exact ⟨rfl, e2⟩
    | succ i => simpa using h2 i x (by simpa using e)
theorem gc_drop {ts : DTS} {n : Nat} {d : DEnds} {env env0 : DEnv} {A l : Store} (hn : n ≤ A.length) (wf : Wf A) (he : EnvOk A.length env0 env) (h : ts n d env0 A) : dGc ts n d env (A ++ l) :=
  ⟨env0, A, fun i => i, ⟨fun _ _ => rfl, hn, fun _ _ _ _ e => e, fun i o e => ⟨by rw [O.ren_id (n := A.length) (fun _ _ => rfl) o (wf i o e)]; exact get_app e, wf i o e⟩⟩, he.get.1, fun i x e => ⟨by rw [ren_id (n := A.length) (fun _ _ => rfl) x (he.get.2 i x e).2]; exact (he.get.2 i x e).1, (he.get.2 i x e).2⟩, h⟩
theorem mem_L {S : Store} {k : Nat} {ls : List Letter} {l : Letter} (h : S[k]? = some (.lst (ls.map dL))) : dMem S (dL l) (.ref k) = some (decide (l ∈ ls)) := by
  show (match S[k]? with
    | some (.lst xs) => if (dL l).fl 8 = true ∧ xs.all (D.fl 8) = true then some (xs.any fun z => PyData.eqv z.py (dL l).py) else none
    | _ => none) = _
  rw [h]
  have h1 : (ls.map dL).all (D.fl 8) = true := by
    rw [List.all_eq_true]
    intro d hd
    obtain ⟨i, _, rfl⟩ := List.mem_map.mp hd
    exact fl_L 7 i
  dsimp only
  rw [if_pos ⟨fl_L 7 l, h1⟩, List.any_map]
  congr 1
  rw [Bool.eq_iff_iff]
  simp only [List.any_eq_true, Function.comp, eqv_L, decide_eq_true_eq]
  constructor
  · rintro ⟨x, hx, rfl⟩
    exact hx
  · intro hx
    exact ⟨l, hx, rfl⟩

theorem p_get0 {S l : Store} {c0 : O} : (S ++ c0 :: l)[S.length]? = some c0 := by rw [List.getElem?_append_right (by omega)]; simp
theorem p_gets0 {S l : Store} {k : Nat} {p c0 : O} : (S.set k p ++ c0 :: l)[S.length]? = some c0 := by rw [List.getElem?_append_right (by simp)]; simp
theorem p_set0 {S l : Store} {c0 o : O} : (S ++ c0 :: l).set (S.length) o = S ++ o :: l := by rw [List.set_append_right _ _ (by omega)]; simp
theorem p_sets0 {S l : Store} {k : Nat} {p c0 o : O} : (S.set k p ++ c0 :: l).set (S.length) o = S.set k p ++ o :: l := by rw [List.set_append_right _ _ (by simp)]; simp
theorem p_get1 {S l : Store} {c0 c1 : O} : (S ++ c0 :: c1 :: l)[S.length + 1]? = some c1 := by rw [List.getElem?_append_right (by omega)]; simp
theorem p_gets1 {S l : Store} {k : Nat} {p c0 c1 : O} : (S.set k p ++ c0 :: c1 :: l)[S.length + 1]? = some c1 := by rw [List.getElem?_append_right (by simp)]; simp
theorem p_set1 {S l : Store} {c0 c1 o : O} : (S ++ c0 :: c1 :: l).set (S.length + 1) o = S ++ c0 :: o :: l := by rw [List.set_append_right _ _ (by omega)]; simp
theorem p_sets1 {S l : Store} {k : Nat} {p c0 c1 o : O} : (S.set k p ++ c0 :: c1 :: l).set (S.length + 1) o = S.set k p ++ c0 :: o :: l := by rw [List.set_append_right _ _ (by simp)]; simp
theorem p_get2 {S l : Store} {c0 c1 c2 : O} : (S ++ c0 :: c1 :: c2 :: l)[S.length + 2]? = some c2 := by rw [List.getElem?_append_right (by omega)]; simp
theorem p_gets2 {S l : Store} {k : Nat} {p c0 c1 c2 : O} : (S.set k p ++ c0 :: c1 :: c2 :: l)[S.length + 2]? = some c2 := by rw [List.getElem?_append_right (by simp)]; simp
theorem p_set2 {S l : Store} {c0 c1 c2 o : O} : (S ++ c0 :: c1 :: c2 :: l).set (S.length + 2) o = S ++ c0 :: c1 :: o :: l := by rw [List.set_append_right _ _ (by omega)]; simp
theorem p_sets2 {S l : Store} {k : Nat} {p c0 c1 c2 o : O} : (S.set k p ++ c0 :: c1 :: c2 :: l).set (S.length + 2) o = S.set k p ++ c0 :: c1 :: o :: l := by rw [List.set_append_right _ _ (by simp)]; simp
theorem p_get3 {S l : Store} {c0 c1 c2 c3 : O} : (S ++ c0 :: c1 :: c2 :: c3 :: l)[S.length + 3]? = some c3 := by rw [List.getElem?_append_right (by omega)]; simp
theorem p_gets3 {S l : Store} {k : Nat} {p c0 c1 c2 c3 : O} : (S.set k p ++ c0 :: c1 :: c2 :: c3 :: l)[S.length + 3]? = some c3 := by rw [List.getElem?_append_right (by simp)]; simp
theorem p_set3 {S l : Store} {c0 c1 c2 c3 o : O} : (S ++ c0 :: c1 :: c2 :: c3 :: l).set (S.length + 3) o = S ++ c0 :: c1 :: c2 :: o :: l := by rw [List.set_append_right _ _ (by omega)]; simp
theorem p_sets3 {S l : Store} {k : Nat} {p c0 c1 c2 c3 o : O} : (S.set k p ++ c0 :: c1 :: c2 :: c3 :: l).set (S.length + 3) o = S.set k p ++ c0 :: c1 :: c2 :: o :: l := by rw [List.set_append_right _ _ (by simp)]; simp
theorem p_get4 {S l : Store} {c0 c1 c2 c3 c4 : O} : (S ++ c0 :: c1 :: c2 :: c3 :: c4 :: l)[S.length + 4]? = some c4 := by rw [List.getElem?_append_right (by omega)]; simp
theorem p_gets4 {S l : Store} {k : Nat} {p c0 c1 c2 c3 c4 : O} : (S.set k p ++ c0 :: c1 :: c2 :: c3 :: c4 :: l)[S.length + 4]? = some c4 := by rw [List.getElem?_append_right (by simp)]; simp
theorem p_set4 {S l : Store} {c0 c1 c2 c3 c4 o : O} : (S ++ c0 :: c1 :: c2 :: c3 :: c4 :: l).set (S.length + 4) o = S ++ c0 :: c1 :: c2 :: c3 :: o :: l := by rw [List.set_append_right _ _ (by omega)]; simp
theorem p_sets4 {S l : Store} {k : Nat} {p c0 c1 c2 c3 c4 o : O} : (S.set k p ++ c0 :: c1 :: c2 :: c3 :: c4 :: l).set (S.length + 4) o = S.set k p ++ c0 :: c1 :: c2 :: c3 :: o :: l := by rw [List.set_append_right _ _ (by simp)]; simp
theorem p_get5 {S l : Store} {c0 c1 c2 c3 c4 c5 : O} : (S ++ c0 :: c1 :: c2 :: c3 :: c4 :: c5 :: l)[S.length + 5]? = some c5 := by rw [List.getElem?_append_right (by omega)]; simp
theorem p_gets5 {S l : Store} {k : Nat} {p c0 c1 c2 c3 c4 c5 : O} : (S.set k p ++ c0 :: c1 :: c2 :: c3 :: c4 :: c5 :: l)[S.length + 5]? = some c5 := by rw [List.getElem?_append_right (by simp)]; simp
theorem p_set5 {S l : Store} {c0 c1 c2 c3 c4 c5 o : O} : (S ++ c0 :: c1 :: c2 :: c3 :: c4 :: c5 :: l).set (S.length + 5) o = S ++ c0 :: c1 :: c2 :: c3 :: c4 :: o :: l := by rw [List.set_append_right _ _ (by omega)]; simp
theorem p_sets5 {S l : Store} {k : Nat} {p c0 c1 c2 c3 c4 c5 o : O} : (S.set k p ++ c0 :: c1 :: c2 :: c3 :: c4 :: c5 :: l).set (S.length + 5) o = S.set k p ++ c0 :: c1 :: c2 :: c3 :: c4 :: o :: l := by rw [List.set_append_right _ _ (by simp)]; simp
theorem p_get6 {S l : Store} {c0 c1 c2 c3 c4 c5 c6 : O} : (S ++ c0 :: c1 :: c2 :: c3 :: c4 :: c5 :: c6 :: l)[S.length + 6]? = some c6 := by rw [List.getElem?_append_right (by omega)]; simp
theorem p_gets6 {S l : Store} {k : Nat} {p c0 c1 c2 c3 c4 c5 c6 : O} : (S.set k p ++ c0 :: c1 :: c2 :: c3 :: c4 :: c5 :: c6 :: l)[S.length + 6]? = some c6 := by rw [List.getElem?_append_right (by simp)]; simp
theorem p_set6 {S l : Store} {c0 c1 c2 c3 c4 c5 c6 o : O} : (S ++ c0 :: c1 :: c2 :: c3 :: c4 :: c5 :: c6 :: l).set (S.length + 6) o = S ++ c0 :: c1 :: c2 :: c3 :: c4 :: c5 :: o :: l := by rw [List.set_append_right _ _ (by omega)]; simp
theorem p_sets6 {S l : Store} {k : Nat} {p c0 c1 c2 c3 c4 c5 c6 o : O} : (S.set k p ++ c0 :: c1 :: c2 :: c3 :: c4 :: c5 :: c6 :: l).set (S.length + 6) o = S.set k p ++ c0 :: c1 :: c2 :: c3 :: c4 :: c5 :: o :: l := by rw [List.set_append_right _ _ (by simp)]; simp
theorem p_get7 {S l : Store} {c0 c1 c2 c3 c4 c5 c6 c7 : O} : (S ++ c0 :: c1 :: c2 :: c3 :: c4 :: c5 :: c6 :: c7 :: l)[S.length + 7]? = some c7 := by rw [List.getElem?_append_right (by omega)]; simp
theorem p_gets7 {S l : Store} {k : Nat} {p c0 c1 c2 c3 c4 c5 c6 c7 : O} : (S.set k p ++ c0 :: c1 :: c2 :: c3 :: c4 :: c5 :: c6 :: c7 :: l)[S.length + 7]? = some c7 := by rw [List.getElem?_append_right (by simp)]; simp
theorem p_set7 {S l : Store} {c0 c1 c2 c3 c4 c5 c6 c7 o : O} : (S ++ c0 :: c1 :: c2 :: c3 :: c4 :: c5 :: c6 :: c7 :: l).set (S.length + 7) o = S ++ c0 :: c1 :: c2 :: c3 :: c4 :: c5 :: c6 :: o :: l := by rw [List.set_append_right _ _ (by omega)]; simp
theorem p_sets7 {S l : Store} {k : Nat} {p c0 c1 c2 c3 c4 c5 c6 c7 o : O} : (S.set k p ++ c0 :: c1 :: c2 :: c3 :: c4 :: c5 :: c6 :: c7 :: l).set (S.length + 7) o = S.set k p ++ c0 :: c1 :: c2 :: c3 :: c4 :: c5 :: c6 :: o :: l := by rw [List.set_append_right _ _ (by simp)]; simp
theorem p_get8 {S l : Store} {c0 c1 c2 c3 c4 c5 c6 c7 c8 : O} : (S ++ c0 :: c1 :: c2 :: c3 :: c4 :: c5 :: c6 :: c7 :: c8 :: l)[S.length + 8]? = some c8 := by rw [List.getElem?_append_right (by omega)]; simp
theorem p_gets8 {S l : Store} {k : Nat} {p c0 c1 c2 c3 c4 c5 c6 c7 c8 : O} : (S.set k p ++ c0 :: c1 :: c2 :: c3 :: c4 :: c5 :: c6 :: c7 :: c8 :: l)[S.length + 8]? = some c8 := by rw [List.getElem?_append_right (by simp)]; simp
theorem p_set8 {S l : Store} {c0 c1 c2 c3 c4 c5 c6 c7 c8 o : O} : (S ++ c0 :: c1 :: c2 :: c3 :: c4 :: c5 :: c6 :: c7 :: c8 :: l).set (S.length + 8) o = S ++ c0 :: c1 :: c2 :: c3 :: c4 :: c5 :: c6 :: c7 :: o :: l := by rw [List.set_append_right _ _ (by omega)]; simp
theorem p_sets8 {S l : Store} {k : Nat} {p c0 c1 c2 c3 c4 c5 c6 c7 c8 o : O} : (S.set k p ++ c0 :: c1 :: c2 :: c3 :: c4 :: c5 :: c6 :: c7 :: c8 :: l).set (S.length + 8) o = S.set k p ++ c0 :: c1 :: c2 :: c3 :: c4 :: c5 :: c6 :: c7 :: o :: l := by rw [List.set_append_right _ _ (by simp)]; simp
theorem p_get9 {S l : Store} {c0 c1 c2 c3 c4 c5 c6 c7 c8 c9 : O} : (S ++ c0 :: c1 :: c2 :: c3 :: c4 :: c5 :: c6 :: c7 :: c8 :: c9 :: l)[S.length + 9]? = some c9 := by rw [List.getElem?_append_right (by omega)]; simp
theorem p_gets9 {S l : Store} {k : Nat} {p c0 c1 c2 c3 c4 c5 c6 c7 c8 c9 : O} : (S.set k p ++ c0 :: c1 :: c2 :: c3 :: c4 :: c5 :: c6 :: c7 :: c8 :: c9 :: l)[S.length + 9]? = some c9 := by rw [List.getElem?_append_right (by simp)]; simp
theorem p_set9 {S l : Store} {c0 c1 c2 c3 c4 c5 c6 c7 c8 c9 o : O} : (S ++ c0 :: c1 :: c2 :: c3 :: c4 :: c5 :: c6 :: c7 :: c8 :: c9 :: l).set (S.length + 9) o = S ++ c0 :: c1 :: c2 :: c3 :: c4 :: c5 :: c6 :: c7 :: c8 :: o :: l := by rw [List.set_append_right _ _ (by omega)]; simp
theorem p_sets9 {S l : Store} {k : Nat} {p c0 c1 c2 c3 c4 c5 c6 c7 c8 c9 o : O} : (S.set k p ++ c0 :: c1 :: c2 :: c3 :: c4 :: c5 :: c6 :: c7 :: c8 :: c9 :: l).set (S.length + 9) o = S.set k p ++ c0 :: c1 :: c2 :: c3 :: c4 :: c5 :: c6 :: c7 :: c8 :: o :: l := by rw [List.set_append_right _ _ (by simp)]; simp
theorem p_get10 {S l : Store} {c0 c1 c2 c3 c4 c5 c6 c7 c8 c9 c10 : O} : (S ++ c0 :: c1 :: c2 :: c3 :: c4 :: c5 :: c6 :: c7 :: c8 :: c9 :: c10 :: l)[S.length + 10]? = some c10 := by rw [List.getElem?_append_right (by omega)]; simp
theorem p_gets10 {S l : Store} {k : Nat} {p c0 c1 c2 c3 c4 c5 c6 c7 c8 c9 c10 : O} : (S.set k p ++ c0 :: c1 :: c2 :: c3 :: c4 :: c5 :: c6 :: c7 :: c8 :: c9 :: c10 :: l)[S.length + 10]? = some c10 := by rw [List.getElem?_append_right (by simp)]; simp
theorem p_set10 {S l : Store} {c0 c1 c2 c3 c4 c5 c6 c7 c8 c9 c10 o : O} : (S ++ c0 :: c1 :: c2 :: c3 :: c4 :: c5 :: c6 :: c7 :: c8 :: c9 :: c10 :: l).set (S.length + 10) o = S ++ c0 :: c1 :: c2 :: c3 :: c4 :: c5 :: c6 :: c7 :: c8 :: c9 :: o :: l := by rw [List.set_append_right _ _ (by omega)]; simp
theorem p_sets10 {S l : Store} {k : Nat} {p c0 c1 c2 c3 c4 c5 c6 c7 c8 c9 c10 o : O} : (S.set k p ++ c0 :: c1 :: c2 :: c3 :: c4 :: c5 :: c6 :: c7 :: c8 :: c9 :: c10 :: l).set (S.length + 10) o = S.set k p ++ c0 :: c1 :: c2 :: c3 :: c4 :: c5 :: c6 :: c7 :: c8 :: c9 :: o :: l := by rw [List.set_append_right _ _ (by simp)]; simp
theorem p_get11 {S l : Store} {c0 c1 c2 c3 c4 c5 c6 c7 c8 c9 c10 c11 : O} : (S ++ c0 :: c1 :: c2 :: c3 :: c4 :: c5 :: c6 :: c7 :: c8 :: c9 :: c10 :: c11 :: l)[S.length + 11]? = some c11 := by rw [List.getElem?_append_right (by omega)]; simp
theorem p_gets11 {S l : Store} {k : Nat} {p c0 c1 c2 c3 c4 c5 c6 c7 c8 c9 c10 c11 : O} : (S.set k p ++ c0 :: c1 :: c2 :: c3 :: c4 :: c5 :: c6 :: c7 :: c8 :: c9 :: c10 :: c11 :: l)[S.length + 11]? = some c11 := by rw [List.getElem?_append_right (by simp)]; simp
theorem p_set11 {S l : Store} {c0 c1 c2 c3 c4 c5 c6 c7 c8 c9 c10 c11 o : O} : (S ++ c0 :: c1 :: c2 :: c3 :: c4 :: c5 :: c6 :: c7 :: c8 :: c9 :: c10 :: c11 :: l).set (S.length + 11) o = S ++ c0 :: c1 :: c2 :: c3 :: c4 :: c5 :: c6 :: c7 :: c8 :: c9 :: c10 :: o :: l := by rw [List.set_append_right _ _ (by omega)]; simp
theorem p_sets11 {S l : Store} {k : Nat} {p c0 c1 c2 c3 c4 c5 c6 c7 c8 c9 c10 c11 o : O} : (S.set k p ++ c0 :: c1 :: c2 :: c3 :: c4 :: c5 :: c6 :: c7 :: c8 :: c9 :: c10 :: c11 :: l).set (S.length + 11) o = S.set k p ++ c0 :: c1 :: c2 :: c3 :: c4 :: c5 :: c6 :: c7 :: c8 :: c9 :: c10 :: o :: l := by rw [List.set_append_right _ _ (by simp)]; simp
theorem p_get12 {S l : Store} {c0 c1 c2 c3 c4 c5 c6 c7 c8 c9 c10 c11 c12 : O} : (S ++ c0 :: c1 :: c2 :: c3 :: c4 :: c5 :: c6 :: c7 :: c8 :: c9 :: c10 :: c11 :: c12 :: l)[S.length + 12]? = some c12 := by rw [List.getElem?_append_right (by omega)]; simp
theorem p_gets12 {S l : Store} {k : Nat} {p c0 c1 c2 c3 c4 c5 c6 c7 c8 c9 c10 c11 c12 : O} : (S.set k p ++ c0 :: c1 :: c2 :: c3 :: c4 :: c5 :: c6 :: c7 :: c8 :: c9 :: c10 :: c11 :: c12 :: l)[S.length + 12]? = some c12 := by rw [List.getElem?_append_right (by simp)]; simp
theorem p_set12 {S l : Store} {c0 c1 c2 c3 c4 c5 c6 c7 c8 c9 c10 c11 c12 o : O} : (S ++ c0 :: c1 :: c2 :: c3 :: c4 :: c5 :: c6 :: c7 :: c8 :: c9 :: c10 :: c11 :: c12 :: l).set (S.length + 12) o = S ++ c0 :: c1 :: c2 :: c3 :: c4 :: c5 :: c6 :: c7 :: c8 :: c9 :: c10 :: c11 :: o :: l := by rw [List.set_append_right _ _ (by omega)]; simp
theorem p_sets12 {S l : Store} {k : Nat} {p c0 c1 c2 c3 c4 c5 c6 c7 c8 c9 c10 c11 c12 o : O} : (S.set k p ++ c0 :: c1 :: c2 :: c3 :: c4 :: c5 :: c6 :: c7 :: c8 :: c9 :: c10 :: c11 :: c12 :: l).set (S.length + 12) o = S.set k p ++ c0 :: c1 :: c2 :: c3 :: c4 :: c5 :: c6 :: c7 :: c8 :: c9 :: c10 :: c11 :: o :: l := by rw [List.set_append_right _ _ (by simp)]; simp
theorem p_get13 {S l : Store} {c0 c1 c2 c3 c4 c5 c6 c7 c8 c9 c10 c11 c12 c13 : O} : (S ++ c0 :: c1 :: c2 :: c3 :: c4 :: c5 :: c6 :: c7 :: c8 :: c9 :: c10 :: c11 :: c12 :: c13 :: l)[S.length + 13]? = some c13 := by rw [List.getElem?_append_right (by omega)]; simp
theorem p_gets13 {S l : Store} {k : Nat} {p c0 c1 c2 c3 c4 c5 c6 c7 c8 c9 c10 c11 c12 c13 : O} : (S.set k p ++ c0 :: c1 :: c2 :: c3 :: c4 :: c5 :: c6 :: c7 :: c8 :: c9 :: c10 :: c11 :: c12 :: c13 :: l)[S.length + 13]? = some c13 := by rw [List.getElem?_append_right (by simp)]; simp
theorem p_set13 {S l : Store} {c0 c1 c2 c3 c4 c5 c6 c7 c8 c9 c10 c11 c12 c13 o : O} : (S ++ c0 :: c1 :: c2 :: c3 :: c4 :: c5 :: c6 :: c7 :: c8 :: c9 :: c10 :: c11 :: c12 :: c13 :: l).set (S.length + 13) o = S ++ c0 :: c1 :: c2 :: c3 :: c4 :: c5 :: c6 :: c7 :: c8 :: c9 :: c10 :: c11 :: c12 :: o :: l := by rw [List.set_append_right _ _ (by omega)]; simp
theorem p_sets13 {S l : Store} {k : Nat} {p c0 c1 c2 c3 c4 c5 c6 c7 c8 c9 c10 c11 c12 c13 o : O} : (S.set k p ++ c0 :: c1 :: c2 :: c3 :: c4 :: c5 :: c6 :: c7 :: c8 :: c9 :: c10 :: c11 :: c12 :: c13 :: l).set (S.length + 13) o = S.set k p ++ c0 :: c1 :: c2 :: c3 :: c4 :: c5 :: c6 :: c7 :: c8 :: c9 :: c10 :: c11 :: c12 :: o :: l := by rw [List.set_append_right _ _ (by simp)]; simp
theorem p_get14 {S l : Store} {c0 c1 c2 c3 c4 c5 c6 c7 c8 c9 c10 c11 c12 c13 c14 : O} : (S ++ c0 :: c1 :: c2 :: c3 :: c4 :: c5 :: c6 :: c7 :: c8 :: c9 :: c10 :: c11 :: c12 :: c13 :: c14 :: l)[S.length + 14]? = some c14 := by rw [List.getElem?_append_right (by omega)]; simp
theorem p_gets14 {S l : Store} {k : Nat} {p c0 c1 c2 c3 c4 c5 c6 c7 c8 c9 c10 c11 c12 c13 c14 : O} : (S.set k p ++ c0 :: c1 :: c2 :: c3 :: c4 :: c5 :: c6 :: c7 :: c8 :: c9 :: c10 :: c11 :: c12 :: c13 :: c14 :: l)[S.length + 14]? = some c14 := by rw [List.getElem?_append_right (by simp)]; simp
theorem p_set14 {S l : Store} {c0 c1 c2 c3 c4 c5 c6 c7 c8 c9 c10 c11 c12 c13 c14 o : O} : (S ++ c0 :: c1 :: c2 :: c3 :: c4 :: c5 :: c6 :: c7 :: c8 :: c9 :: c10 :: c11 :: c12 :: c13 :: c14 :: l).set (S.length + 14) o = S ++ c0 :: c1 :: c2 :: c3 :: c4 :: c5 :: c6 :: c7 :: c8 :: c9 :: c10 :: c11 :: c12 :: c13 :: o :: l := by rw [List.set_append_right _ _ (by omega)]; simp
theorem p_sets14 {S l : Store} {k : Nat} {p c0 c1 c2 c3 c4 c5 c6 c7 c8 c9 c10 c11 c12 c13 c14 o : O} : (S.set k p ++ c0 :: c1 :: c2 :: c3 :: c4 :: c5 :: c6 :: c7 :: c8 :: c9 :: c10 :: c11 :: c12 :: c13 :: c14 :: l).set (S.length + 14) o = S.set k p ++ c0 :: c1 :: c2 :: c3 :: c4 :: c5 :: c6 :: c7 :: c8 :: c9 :: c10 :: c11 :: c12 :: c13 :: o :: l := by rw [List.set_append_right _ _ (by simp)]; simp
theorem p_get15 {S l : Store} {c0 c1 c2 c3 c4 c5 c6 c7 c8 c9 c10 c11 c12 c13 c14 c15 : O} : (S ++ c0 :: c1 :: c2 :: c3 :: c4 :: c5 :: c6 :: c7 :: c8 :: c9 :: c10 :: c11 :: c12 :: c13 :: c14 :: c15 :: l)[S.length + 15]? = some c15 := by rw [List.getElem?_append_right (by omega)]; simp
theorem p_gets15 {S l : Store} {k : Nat} {p c0 c1 c2 c3 c4 c5 c6 c7 c8 c9 c10 c11 c12 c13 c14 c15 : O} : (S.set k p ++ c0 :: c1 :: c2 :: c3 :: c4 :: c5 :: c6 :: c7 :: c8 :: c9 :: c10 :: c11 :: c12 :: c13 :: c14 :: c15 :: l)[S.length + 15]? = some c15 := by rw [List.getElem?_append_right (by simp)]; simp
theorem p_set15 {S l : Store} {c0 c1 c2 c3 c4 c5 c6 c7 c8 c9 c10 c11 c12 c13 c14 c15 o : O} : (S ++ c0 :: c1 :: c2 :: c3 :: c4 :: c5 :: c6 :: c7 :: c8 :: c9 :: c10 :: c11 :: c12 :: c13 :: c14 :: c15 :: l).set (S.length + 15) o = S ++ c0 :: c1 :: c2 :: c3 :: c4 :: c5 :: c6 :: c7 :: c8 :: c9 :: c10 :: c11 :: c12 :: c13 :: c14 :: o :: l := by rw [List.set_append_right _ _ (by omega)]; simp
theorem p_sets15 {S l : Store} {k : Nat} {p c0 c1 c2 c3 c4 c5 c6 c7 c8 c9 c10 c11 c12 c13 c14 c15 o : O} : (S.set k p ++ c0 :: c1 :: c2 :: c3 :: c4 :: c5 :: c6 :: c7 :: c8 :: c9 :: c10 :: c11 :: c12 :: c13 :: c14 :: c15 :: l).set (S.length + 15) o = S.set k p ++ c0 :: c1 :: c2 :: c3 :: c4 :: c5 :: c6 :: c7 :: c8 :: c9 :: c10 :: c11 :: c12 :: c13 :: c14 :: o :: l := by rw [List.set_append_right _ _ (by simp)]; simp
theorem p_get16 {S l : Store} {c0 c1 c2 c3 c4 c5 c6 c7 c8 c9 c10 c11 c12 c13 c14 c15 c16 : O} : (S ++ c0 :: c1 :: c2 :: c3 :: c4 :: c5 :: c6 :: c7 :: c8 :: c9 :: c10 :: c11 :: c12 :: c13 :: c14 :: c15 :: c16 :: l)[S.length + 16]? = some c16 := by rw [List.getElem?_append_right (by omega)]; simp
theorem p_gets16 {S l : Store} {k : Nat} {p c0 c1 c2 c3 c4 c5 c6 c7 c8 c9 c10 c11 c12 c13 c14 c15 c16 : O} : (S.set k p ++ c0 :: c1 :: c2 :: c3 :: c4 :: c5 :: c6 :: c7 :: c8 :: c9 :: c10 :: c11 :: c12 :: c13 :: c14 :: c15 :: c16 :: l)[S.length + 16]? = some c16 := by rw [List.getElem?_append_right (by simp)]; simp
theorem p_set16 {S l : Store} {c0 c1 c2 c3 c4 c5 c6 c7 c8 c9 c10 c11 c12 c13 c14 c15 c16 o : O} : (S ++ c0 :: c1 :: c2 :: c3 :: c4 :: c5 :: c6 :: c7 :: c8 :: c9 :: c10 :: c11 :: c12 :: c13 :: c14 :: c15 :: c16 :: l).set (S.length + 16) o = S ++ c0 :: c1 :: c2 :: c3 :: c4 :: c5 :: c6 :: c7 :: c8 :: c9 :: c10 :: c11 :: c12 :: c13 :: c14 :: c15 :: o :: l := by rw [List.set_append_right _ _ (by omega)]; simp
theorem p_sets16 {S l : Store} {k : Nat} {p c0 c1 c2 c3 c4 c5 c6 c7 c8 c9 c10 c11 c12 c13 c14 c15 c16 o : O} : (S.set k p ++ c0 :: c1 :: c2 :: c3 :: c4 :: c5 :: c6 :: c7 :: c8 :: c9 :: c10 :: c11 :: c12 :: c13 :: c14 :: c15 :: c16 :: l).set (S.length + 16) o = S.set k p ++ c0 :: c1 :: c2 :: c3 :: c4 :: c5 :: c6 :: c7 :: c8 :: c9 :: c10 :: c11 :: c12 :: c13 :: c14 :: c15 :: o :: l := by rw [List.set_append_right _ _ (by simp)]; simp
theorem p_get17 {S l : Store} {c0 c1 c2 c3 c4 c5 c6 c7 c8 c9 c10 c11 c12 c13 c14 c15 c16 c17 : O} : (S ++ c0 :: c1 :: c2 :: c3 :: c4 :: c5 :: c6 :: c7 :: c8 :: c9 :: c10 :: c11 :: c12 :: c13 :: c14 :: c15 :: c16 :: c17 :: l)[S.length + 17]? = some c17 := by rw [List.getElem?_append_right (by omega)]; simp
theorem p_gets17 {S l : Store} {k : Nat} {p c0 c1 c2 c3 c4 c5 c6 c7 c8 c9 c10 c11 c12 c13 c14 c15 c16 c17 : O} : (S.set k p ++ c0 :: c1 :: c2 :: c3 :: c4 :: c5 :: c6 :: c7 :: c8 :: c9 :: c10 :: c11 :: c12 :: c13 :: c14 :: c15 :: c16 :: c17 :: l)[S.length + 17]? = some c17 := by rw [List.getElem?_append_right (by simp)]; simp
theorem p_set17 {S l : Store} {c0 c1 c2 c3 c4 c5 c6 c7 c8 c9 c10 c11 c12 c13 c14 c15 c16 c17 o : O} : (S ++ c0 :: c1 :: c2 :: c3 :: c4 :: c5 :: c6 :: c7 :: c8 :: c9 :: c10 :: c11 :: c12 :: c13 :: c14 :: c15 :: c16 :: c17 :: l).set (S.length + 17) o = S ++ c0 :: c1 :: c2 :: c3 :: c4 :: c5 :: c6 :: c7 :: c8 :: c9 :: c10 :: c11 :: c12 :: c13 :: c14 :: c15 :: c16 :: o :: l := by rw [List.set_append_right _ _ (by omega)]; simp
theorem p_sets17 {S l : Store} {k : Nat} {p c0 c1 c2 c3 c4 c5 c6 c7 c8 c9 c10 c11 c12 c13 c14 c15 c16 c17 o : O} : (S.set k p ++ c0 :: c1 :: c2 :: c3 :: c4 :: c5 :: c6 :: c7 :: c8 :: c9 :: c10 :: c11 :: c12 :: c13 :: c14 :: c15 :: c16 :: c17 :: l).set (S.length + 17) o = S.set k p ++ c0 :: c1 :: c2 :: c3 :: c4 :: c5 :: c6 :: c7 :: c8 :: c9 :: c10 :: c11 :: c12 :: c13 :: c14 :: c15 :: c16 :: o :: l := by rw [List.set_append_right _ _ (by simp)]; simp
theorem p_get18 {S l : Store} {c0 c1 c2 c3 c4 c5 c6 c7 c8 c9 c10 c11 c12 c13 c14 c15 c16 c17 c18 : O} : (S ++ c0 :: c1 :: c2 :: c3 :: c4 :: c5 :: c6 :: c7 :: c8 :: c9 :: c10 :: c11 :: c12 :: c13 :: c14 :: c15 :: c16 :: c17 :: c18 :: l)[S.length + 18]? = some c18 := by rw [List.getElem?_append_right (by omega)]; simp
theorem p_gets18 {S l : Store} {k : Nat} {p c0 c1 c2 c3 c4 c5 c6 c7 c8 c9 c10 c11 c12 c13 c14 c15 c16 c17 c18 : O} : (S.set k p ++ c0 :: c1 :: c2 :: c3 :: c4 :: c5 :: c6 :: c7 :: c8 :: c9 :: c10 :: c11 :: c12 :: c13 :: c14 :: c15 :: c16 :: c17 :: c18 :: l)[S.length + 18]? = some c18 := by rw [List.getElem?_append_right (by simp)]; simp
theorem p_set18 {S l : Store} {c0 c1 c2 c3 c4 c5 c6 c7 c8 c9 c10 c11 c12 c13 c14 c15 c16 c17 c18 o : O} : (S ++ c0 :: c1 :: c2 :: c3 :: c4 :: c5 :: c6 :: c7 :: c8 :: c9 :: c10 :: c11 :: c12 :: c13 :: c14 :: c15 :: c16 :: c17 :: c18 :: l).set (S.length + 18) o = S ++ c0 :: c1 :: c2 :: c3 :: c4 :: c5 :: c6 :: c7 :: c8 :: c9 :: c10 :: c11 :: c12 :: c13 :: c14 :: c15 :: c16 :: c17 :: o :: l := by rw [List.set_append_right _ _ (by omega)]; simp
theorem p_sets18 {S l : Store} {k : Nat} {p c0 c1 c2 c3 c4 c5 c6 c7 c8 c9 c10 c11 c12 c13 c14 c15 c16 c17 c18 o : O} : (S.set k p ++ c0 :: c1 :: c2 :: c3 :: c4 :: c5 :: c6 :: c7 :: c8 :: c9 :: c10 :: c11 :: c12 :: c13 :: c14 :: c15 :: c16 :: c17 :: c18 :: l).set (S.length + 18) o = S.set k p ++ c0 :: c1 :: c2 :: c3 :: c4 :: c5 :: c6 :: c7 :: c8 :: c9 :: c10 :: c11 :: c12 :: c13 :: c14 :: c15 :: c16 :: c17 :: o :: l := by rw [List.set_append_right _ _ (by simp)]; simp
theorem p_get19 {S l : Store} {c0 c1 c2 c3 c4 c5 c6 c7 c8 c9 c10 c11 c12 c13 c14 c15 c16 c17 c18 c19 : O} : (S ++ c0 :: c1 :: c2 :: c3 :: c4 :: c5 :: c6 :: c7 :: c8 :: c9 :: c10 :: c11 :: c12 :: c13 :: c14 :: c15 :: c16 :: c17 :: c18 :: c19 :: l)[S.length + 19]? = some c19 := by rw [List.getElem?_append_right (by omega)]; simp
theorem p_gets19 {S l : Store} {k : Nat} {p c0 c1 c2 c3 c4 c5 c6 c7 c8 c9 c10 c11 c12 c13 c14 c15 c16 c17 c18 c19 : O} : (S.set k p ++ c0 :: c1 :: c2 :: c3 :: c4 :: c5 :: c6 :: c7 :: c8 :: c9 :: c10 :: c11 :: c12 :: c13 :: c14 :: c15 :: c16 :: c17 :: c18 :: c19 :: l)[S.length + 19]? = some c19 := by rw [List.getElem?_append_right (by simp)]; simp
theorem p_set19 {S l : Store} {c0 c1 c2 c3 c4 c5 c6 c7 c8 c9 c10 c11 c12 c13 c14 c15 c16 c17 c18 c19 o : O} : (S ++ c0 :: c1 :: c2 :: c3 :: c4 :: c5 :: c6 :: c7 :: c8 :: c9 :: c10 :: c11 :: c12 :: c13 :: c14 :: c15 :: c16 :: c17 :: c18 :: c19 :: l).set (S.length + 19) o = S ++ c0 :: c1 :: c2 :: c3 :: c4 :: c5 :: c6 :: c7 :: c8 :: c9 :: c10 :: c11 :: c12 :: c13 :: c14 :: c15 :: c16 :: c17 :: c18 :: o :: l := by rw [List.set_append_right _ _ (by omega)]; simp
theorem p_sets19 {S l : Store} {k : Nat} {p c0 c1 c2 c3 c4 c5 c6 c7 c8 c9 c10 c11 c12 c13 c14 c15 c16 c17 c18 c19 o : O} : (S.set k p ++ c0 :: c1 :: c2 :: c3 :: c4 :: c5 :: c6 :: c7 :: c8 :: c9 :: c10 :: c11 :: c12 :: c13 :: c14 :: c15 :: c16 :: c17 :: c18 :: c19 :: l).set (S.length + 19) o = S.set k p ++ c0 :: c1 :: c2 :: c3 :: c4 :: c5 :: c6 :: c7 :: c8 :: c9 :: c10 :: c11 :: c12 :: c13 :: c14 :: c15 :: c16 :: c17 :: c18 :: o :: l := by rw [List.set_append_right _ _ (by simp)]; simp
theorem p_get20 {S l : Store} {c0 c1 c2 c3 c4 c5 c6 c7 c8 c9 c10 c11 c12 c13 c14 c15 c16 c17 c18 c19 c20 : O} : (S ++ c0 :: c1 :: c2 :: c3 :: c4 :: c5 :: c6 :: c7 :: c8 :: c9 :: c10 :: c11 :: c12 :: c13 :: c14 :: c15 :: c16 :: c17 :: c18 :: c19 :: c20 :: l)[S.length + 20]? = some c20 := by rw [List.getElem?_append_right (by omega)]; simp
theorem p_gets20 {S l : Store} {k : Nat} {p c0 c1 c2 c3 c4 c5 c6 c7 c8 c9 c10 c11 c12 c13 c14 c15 c16 c17 c18 c19 c20 : O} : (S.set k p ++ c0 :: c1 :: c2 :: c3 :: c4 :: c5 :: c6 :: c7 :: c8 :: c9 :: c10 :: c11 :: c12 :: c13 :: c14 :: c15 :: c16 :: c17 :: c18 :: c19 :: c20 :: l)[S.length + 20]? = some c20 := by rw [List.getElem?_append_right (by simp)]; simp
theorem p_set20 {S l : Store} {c0 c1 c2 c3 c4 c5 c6 c7 c8 c9 c10 c11 c12 c13 c14 c15 c16 c17 c18 c19 c20 o : O} : (S ++ c0 :: c1 :: c2 :: c3 :: c4 :: c5 :: c6 :: c7 :: c8 :: c9 :: c10 :: c11 :: c12 :: c13 :: c14 :: c15 :: c16 :: c17 :: c18 :: c19 :: c20 :: l).set (S.length + 20) o = S ++ c0 :: c1 :: c2 :: c3 :: c4 :: c5 :: c6 :: c7 :: c8 :: c9 :: c10 :: c11 :: c12 :: c13 :: c14 :: c15 :: c16 :: c17 :: c18 :: c19 :: o :: l := by rw [List.set_append_right _ _ (by omega)]; simp
theorem p_sets20 {S l : Store} {k : Nat} {p c0 c1 c2 c3 c4 c5 c6 c7 c8 c9 c10 c11 c12 c13 c14 c15 c16 c17 c18 c19 c20 o : O} : (S.set k p ++ c0 :: c1 :: c2 :: c3 :: c4 :: c5 :: c6 :: c7 :: c8 :: c9 :: c10 :: c11 :: c12 :: c13 :: c14 :: c15 :: c16 :: c17 :: c18 :: c19 :: c20 :: l).set (S.length + 20) o = S.set k p ++ c0 :: c1 :: c2 :: c3 :: c4 :: c5 :: c6 :: c7 :: c8 :: c9 :: c10 :: c11 :: c12 :: c13 :: c14 :: c15 :: c16 :: c17 :: c18 :: c19 :: o :: l := by rw [List.set_append_right _ _ (by simp)]; simp
theorem p_get21 {S l : Store} {c0 c1 c2 c3 c4 c5 c6 c7 c8 c9 c10 c11 c12 c13 c14 c15 c16 c17 c18 c19 c20 c21 : O} : (S ++ c0 :: c1 :: c2 :: c3 :: c4 :: c5 :: c6 :: c7 :: c8 :: c9 :: c10 :: c11 :: c12 :: c13 :: c14 :: c15 :: c16 :: c17 :: c18 :: c19 :: c20 :: c21 :: l)[S.length + 21]? = some c21 := by rw [List.getElem?_append_right (by omega)]; simp
theorem p_gets21 {S l : Store} {k : Nat} {p c0 c1 c2 c3 c4 c5 c6 c7 c8 c9 c10 c11 c12 c13 c14 c15 c16 c17 c18 c19 c20 c21 : O} : (S.set k p ++ c0 :: c1 :: c2 :: c3 :: c4 :: c5 :: c6 :: c7 :: c8 :: c9 :: c10 :: c11 :: c12 :: c13 :: c14 :: c15 :: c16 :: c17 :: c18 :: c19 :: c20 :: c21 :: l)[S.length + 21]? = some c21 := by rw [List.getElem?_append_right (by simp)]; simp
theorem p_set21 {S l : Store} {c0 c1 c2 c3 c4 c5 c6 c7 c8 c9 c10 c11 c12 c13 c14 c15 c16 c17 c18 c19 c20 c21 o : O} : (S ++ c0 :: c1 :: c2 :: c3 :: c4 :: c5 :: c6 :: c7 :: c8 :: c9 :: c10 :: c11 :: c12 :: c13 :: c14 :: c15 :: c16 :: c17 :: c18 :: c19 :: c20 :: c21 :: l).set (S.length + 21) o = S ++ c0 :: c1 :: c2 :: c3 :: c4 :: c5 :: c6 :: c7 :: c8 :: c9 :: c10 :: c11 :: c12 :: c13 :: c14 :: c15 :: c16 :: c17 :: c18 :: c19 :: c20 :: o :: l := by rw [List.set_append_right _ _ (by omega)]; simp
theorem p_sets21 {S l : Store} {k : Nat} {p c0 c1 c2 c3 c4 c5 c6 c7 c8 c9 c10 c11 c12 c13 c14 c15 c16 c17 c18 c19 c20 c21 o : O} : (S.set k p ++ c0 :: c1 :: c2 :: c3 :: c4 :: c5 :: c6 :: c7 :: c8 :: c9 :: c10 :: c11 :: c12 :: c13 :: c14 :: c15 :: c16 :: c17 :: c18 :: c19 :: c20 :: c21 :: l).set (S.length + 21) o = S.set k p ++ c0 :: c1 :: c2 :: c3 :: c4 :: c5 :: c6 :: c7 :: c8 :: c9 :: c10 :: c11 :: c12 :: c13 :: c14 :: c15 :: c16 :: c17 :: c18 :: c19 :: c20 :: o :: l := by rw [List.set_append_right _ _ (by simp)]; simp
theorem p_get22 {S l : Store} {c0 c1 c2 c3 c4 c5 c6 c7 c8 c9 c10 c11 c12 c13 c14 c15 c16 c17 c18 c19 c20 c21 c22 : O} : (S ++ c0 :: c1 :: c2 :: c3 :: c4 :: c5 :: c6 :: c7 :: c8 :: c9 :: c10 :: c11 :: c12 :: c13 :: c14 :: c15 :: c16 :: c17 :: c18 :: c19 :: c20 :: c21 :: c22 :: l)[S.length + 22]? = some c22 := by rw [List.getElem?_append_right (by omega)]; simp
theorem p_gets22 {S l : Store} {k : Nat} {p c0 c1 c2 c3 c4 c5 c6 c7 c8 c9 c10 c11 c12 c13 c14 c15 c16 c17 c18 c19 c20 c21 c22 : O} : (S.set k p ++ c0 :: c1 :: c2 :: c3 :: c4 :: c5 :: c6 :: c7 :: c8 :: c9 :: c10 :: c11 :: c12 :: c13 :: c14 :: c15 :: c16 :: c17 :: c18 :: c19 :: c20 :: c21 :: c22 :: l)[S.length + 22]? = some c22 := by rw [List.getElem?_append_right (by simp)]; simp
theorem p_set22 {S l : Store} {c0 c1 c2 c3 c4 c5 c6 c7 c8 c9 c10 c11 c12 c13 c14 c15 c16 c17 c18 c19 c20 c21 c22 o : O} : (S ++ c0 :: c1 :: c2 :: c3 :: c4 :: c5 :: c6 :: c7 :: c8 :: c9 :: c10 :: c11 :: c12 :: c13 :: c14 :: c15 :: c16 :: c17 :: c18 :: c19 :: c20 :: c21 :: c22 :: l).set (S.length + 22) o = S ++ c0 :: c1 :: c2 :: c3 :: c4 :: c5 :: c6 :: c7 :: c8 :: c9 :: c10 :: c11 :: c12 :: c13 :: c14 :: c15 :: c16 :: c17 :: c18 :: c19 :: c20 :: c21 :: o :: l := by rw [List.set_append_right _ _ (by omega)]; simp
theorem p_sets22 {S l : Store} {k : Nat} {p c0 c1 c2 c3 c4 c5 c6 c7 c8 c9 c10 c11 c12 c13 c14 c15 c16 c17 c18 c19 c20 c21 c22 o : O} : (S.set k p ++ c0 :: c1 :: c2 :: c3 :: c4 :: c5 :: c6 :: c7 :: c8 :: c9 :: c10 :: c11 :: c12 :: c13 :: c14 :: c15 :: c16 :: c17 :: c18 :: c19 :: c20 :: c21 :: c22 :: l).set (S.length + 22) o = S.set k p ++ c0 :: c1 :: c2 :: c3 :: c4 :: c5 :: c6 :: c7 :: c8 :: c9 :: c10 :: c11 :: c12 :: c13 :: c14 :: c15 :: c16 :: c17 :: c18 :: c19 :: c20 :: c21 :: o :: l := by rw [List.set_append_right _ _ (by simp)]; simp
theorem p_get23 {S l : Store} {c0 c1 c2 c3 c4 c5 c6 c7 c8 c9 c10 c11 c12 c13 c14 c15 c16 c17 c18 c19 c20 c21 c22 c23 : O} : (S ++ c0 :: c1 :: c2 :: c3 :: c4 :: c5 :: c6 :: c7 :: c8 :: c9 :: c10 :: c11 :: c12 :: c13 :: c14 :: c15 :: c16 :: c17 :: c18 :: c19 :: c20 :: c21 :: c22 :: c23 :: l)[S.length + 23]? = some c23 := by rw [List.getElem?_append_right (by omega)]; simp
theorem p_gets23 {S l : Store} {k : Nat} {p c0 c1 c2 c3 c4 c5 c6 c7 c8 c9 c10 c11 c12 c13 c14 c15 c16 c17 c18 c19 c20 c21 c22 c23 : O} : (S.set k p ++ c0 :: c1 :: c2 :: c3 :: c4 :: c5 :: c6 :: c7 :: c8 :: c9 :: c10 :: c11 :: c12 :: c13 :: c14 :: c15 :: c16 :: c17 :: c18 :: c19 :: c20 :: c21 :: c22 :: c23 :: l)[S.length + 23]? = some c23 := by rw [List.getElem?_append_right (by simp)]; simp
theorem p_set23 {S l : Store} {c0 c1 c2 c3 c4 c5 c6 c7 c8 c9 c10 c11 c12 c13 c14 c15 c16 c17 c18 c19 c20 c21 c22 c23 o : O} : (S ++ c0 :: c1 :: c2 :: c3 :: c4 :: c5 :: c6 :: c7 :: c8 :: c9 :: c10 :: c11 :: c12 :: c13 :: c14 :: c15 :: c16 :: c17 :: c18 :: c19 :: c20 :: c21 :: c22 :: c23 :: l).set (S.length + 23) o = S ++ c0 :: c1 :: c2 :: c3 :: c4 :: c5 :: c6 :: c7 :: c8 :: c9 :: c10 :: c11 :: c12 :: c13 :: c14 :: c15 :: c16 :: c17 :: c18 :: c19 :: c20 :: c21 :: c22 :: o :: l := by rw [List.set_append_right _ _ (by omega)]; simp
theorem p_sets23 {S l : Store} {k : Nat} {p c0 c1 c2 c3 c4 c5 c6 c7 c8 c9 c10 c11 c12 c13 c14 c15 c16 c17 c18 c19 c20 c21 c22 c23 o : O} : (S.set k p ++ c0 :: c1 :: c2 :: c3 :: c4 :: c5 :: c6 :: c7 :: c8 :: c9 :: c10 :: c11 :: c12 :: c13 :: c14 :: c15 :: c16 :: c17 :: c18 :: c19 :: c20 :: c21 :: c22 :: c23 :: l).set (S.length + 23) o = S.set k p ++ c0 :: c1 :: c2 :: c3 :: c4 :: c5 :: c6 :: c7 :: c8 :: c9 :: c10 :: c11 :: c12 :: c13 :: c14 :: c15 :: c16 :: c17 :: c18 :: c19 :: c20 :: c21 :: c22 :: o :: l := by rw [List.set_append_right _ _ (by simp)]; simp
theorem p_get24 {S l : Store} {c0 c1 c2 c3 c4 c5 c6 c7 c8 c9 c10 c11 c12 c13 c14 c15 c16 c17 c18 c19 c20 c21 c22 c23 c24 : O} : (S ++ c0 :: c1 :: c2 :: c3 :: c4 :: c5 :: c6 :: c7 :: c8 :: c9 :: c10 :: c11 :: c12 :: c13 :: c14 :: c15 :: c16 :: c17 :: c18 :: c19 :: c20 :: c21 :: c22 :: c23 :: c24 :: l)[S.length + 24]? = some c24 := by rw [List.getElem?_append_right (by omega)]; simp
theorem p_gets24 {S l : Store} {k : Nat} {p c0 c1 c2 c3 c4 c5 c6 c7 c8 c9 c10 c11 c12 c13 c14 c15 c16 c17 c18 c19 c20 c21 c22 c23 c24 : O} : (S.set k p ++ c0 :: c1 :: c2 :: c3 :: c4 :: c5 :: c6 :: c7 :: c8 :: c9 :: c10 :: c11 :: c12 :: c13 :: c14 :: c15 :: c16 :: c17 :: c18 :: c19 :: c20 :: c21 :: c22 :: c23 :: c24 :: l)[S.length + 24]? = some c24 := by rw [List.getElem?_append_right (by simp)]; simp
theorem p_set24 {S l : Store} {c0 c1 c2 c3 c4 c5 c6 c7 c8 c9 c10 c11 c12 c13 c14 c15 c16 c17 c18 c19 c20 c21 c22 c23 c24 o : O} : (S ++ c0 :: c1 :: c2 :: c3 :: c4 :: c5 :: c6 :: c7 :: c8 :: c9 :: c10 :: c11 :: c12 :: c13 :: c14 :: c15 :: c16 :: c17 :: c18 :: c19 :: c20 :: c21 :: c22 :: c23 :: c24 :: l).set (S.length + 24) o = S ++ c0 :: c1 :: c2 :: c3 :: c4 :: c5 :: c6 :: c7 :: c8 :: c9 :: c10 :: c11 :: c12 :: c13 :: c14 :: c15 :: c16 :: c17 :: c18 :: c19 :: c20 :: c21 :: c22 :: c23 :: o :: l := by rw [List.set_append_right _ _ (by omega)]; simp
theorem p_sets24 {S l : Store} {k : Nat} {p c0 c1 c2 c3 c4 c5 c6 c7 c8 c9 c10 c11 c12 c13 c14 c15 c16 c17 c18 c19 c20 c21 c22 c23 c24 o : O} : (S.set k p ++ c0 :: c1 :: c2 :: c3 :: c4 :: c5 :: c6 :: c7 :: c8 :: c9 :: c10 :: c11 :: c12 :: c13 :: c14 :: c15 :: c16 :: c17 :: c18 :: c19 :: c20 :: c21 :: c22 :: c23 :: c24 :: l).set (S.length + 24) o = S.set k p ++ c0 :: c1 :: c2 :: c3 :: c4 :: c5 :: c6 :: c7 :: c8 :: c9 :: c10 :: c11 :: c12 :: c13 :: c14 :: c15 :: c16 :: c17 :: c18 :: c19 :: c20 :: c21 :: c22 :: c23 :: o :: l := by rw [List.set_append_right _ _ (by simp)]; simp
theorem p_get25 {S l : Store} {c0 c1 c2 c3 c4 c5 c6 c7 c8 c9 c10 c11 c12 c13 c14 c15 c16 c17 c18 c19 c20 c21 c22 c23 c24 c25 : O} : (S ++ c0 :: c1 :: c2 :: c3 :: c4 :: c5 :: c6 :: c7 :: c8 :: c9 :: c10 :: c11 :: c12 :: c13 :: c14 :: c15 :: c16 :: c17 :: c18 :: c19 :: c20 :: c21 :: c22 :: c23 :: c24 :: c25 :: l)[S.length + 25]? = some c25 := by rw [List.getElem?_append_right (by omega)]; simp
theorem p_gets25 {S l : Store} {k : Nat} {p c0 c1 c2 c3 c4 c5 c6 c7 c8 c9 c10 c11 c12 c13 c14 c15 c16 c17 c18 c19 c20 c21 c22 c23 c24 c25 : O} : (S.set k p ++ c0 :: c1 :: c2 :: c3 :: c4 :: c5 :: c6 :: c7 :: c8 :: c9 :: c10 :: c11 :: c12 :: c13 :: c14 :: c15 :: c16 :: c17 :: c18 :: c19 :: c20 :: c21 :: c22 :: c23 :: c24 :: c25 :: l)[S.length + 25]? = some c25 := by rw [List.getElem?_append_right (by simp)]; simp
theorem p_set25 {S l : Store} {c0 c1 c2 c3 c4 c5 c6 c7 c8 c9 c10 c11 c12 c13 c14 c15 c16 c17 c18 c19 c20 c21 c22 c23 c24 c25 o : O} : (S ++ c0 :: c1 :: c2 :: c3 :: c4 :: c5 :: c6 :: c7 :: c8 :: c9 :: c10 :: c11 :: c12 :: c13 :: c14 :: c15 :: c16 :: c17 :: c18 :: c19 :: c20 :: c21 :: c22 :: c23 :: c24 :: c25 :: l).set (S.length + 25) o = S ++ c0 :: c1 :: c2 :: c3 :: c4 :: c5 :: c6 :: c7 :: c8 :: c9 :: c10 :: c11 :: c12 :: c13 :: c14 :: c15 :: c16 :: c17 :: c18 :: c19 :: c20 :: c21 :: c22 :: c23 :: c24 :: o :: l := by rw [List.set_append_right _ _ (by omega)]; simp
theorem p_sets25 {S l : Store} {k : Nat} {p c0 c1 c2 c3 c4 c5 c6 c7 c8 c9 c10 c11 c12 c13 c14 c15 c16 c17 c18 c19 c20 c21 c22 c23 c24 c25 o : O} : (S.set k p ++ c0 :: c1 :: c2 :: c3 :: c4 :: c5 :: c6 :: c7 :: c8 :: c9 :: c10 :: c11 :: c12 :: c13 :: c14 :: c15 :: c16 :: c17 :: c18 :: c19 :: c20 :: c21 :: c22 :: c23 :: c24 :: c25 :: l).set (S.length + 25) o = S.set k p ++ c0 :: c1 :: c2 :: c3 :: c4 :: c5 :: c6 :: c7 :: c8 :: c9 :: c10 :: c11 :: c12 :: c13 :: c14 :: c15 :: c16 :: c17 :: c18 :: c19 :: c20 :: c21 :: c22 :: c23 :: c24 :: o :: l := by rw [List.set_append_right _ _ (by simp)]; simp
theorem p_item_r {S : Store} {k : Nat} {i : Int} : dItem S (.ref k) i = match S[k]? with
    | some (.lst xs) => atI xs i
    | _ => none := rfl
theorem p_setIx_r {S : Store} {k : Nat} {i : Int} {v : D} : dSetIx S (.ref k) i v = match S[k]? with
    | some (.lst xs) => (ixN xs.length i).map fun j => S.set k (.lst (xs.set j v))
    | _ => none := rfl
end DL

/-! letters with heights -/
namespace DL
open PySem PySem.Spec L2 Wd
def up (l : Letter) (h : Int) : Letter := ⟨l.nm, l.hs ++ [h]⟩
def dn (l : Letter) : Letter := ⟨l.nm, l.hs.dropLast⟩
def lh (l : Letter) : Int := l.hs.getLastD 0
def stp : Letter := ⟨47, []⟩
theorem dn_up (l : Letter) (h : Int) : dn (up l h) = l := by
  unfold dn up
  simp
theorem lh_up (l : Letter) (h : Int) : lh (up l h) = h := by
  unfold lh up
  simp
theorem up_of {l : Letter} (h : l.hs ≠ []) : l = up (dn l) (lh l) := by
  obtain ⟨n, hs⟩ := l
  obtain rfl | ⟨hs', x, rfl⟩ := List.eq_nil_or_concat hs
  · exact absurd rfl h
  · simp [up, dn, lh]
theorem up_inj {l m : Letter} {a b : Int} : up l a = up m b ↔ l = m ∧ a = b := by
  constructor
  · intro h
    have h1 := congrArg dn h
    have h2 := congrArg lh h
    rw [dn_up, dn_up] at h1
    rw [lh_up, lh_up] at h2
    exact ⟨h1, h2⟩
  · rintro ⟨rfl, rfl⟩
    rfl
theorem up_ne (l : Letter) (h : Int) : (up l h).hs ≠ [] := by
  unfold up
  simp
theorem up_len (l : Letter) (h : Int) : (up l h).hs.length = l.hs.length + 1 := by
  unfold up
  simp
section
variable {st : Store} {Q : DQ} {l : Letter} {h i : Int}
theorem w_stp : D.tup [D.str (Str.ofString "/")] = dL stp := by
  have e : Str.ofString "/" = ⟨#[47]⟩ := by decide
  rw [e]
  rfl
theorem w_mkh : D.tup [D.str (Str.ofString "!"), .int h] = dL (up mk h) := by
  have e : Str.ofString "!" = ⟨#[33]⟩ := by decide
  rw [e]
  rfl
theorem w_addL : dAdd (dL l) (.tup [.int h]) st Q = (l.hs.length + 1 + 1 ≤ sizeLine ∧ Q (dL (up l h)) st) := by
  unfold dL up
  rw [w_add_t]
  simp
theorem w_lenL : dLen [dL l] st Q = Q (.int ((l.hs.length + 1 : Nat) : Int)) st := by
  unfold dL
  rw [w_len_t]
  simp
theorem dL_up : dL (up l h) = .tup (.str ⟨#[l.nm.val]⟩ :: (l.hs.map D.int ++ [.int h])) := by
  unfold dL up
  simp
theorem cut_dl {xs : List D} {a : D} : cutD (xs ++ [a]) none (some (-1)) = xs := by
  unfold cutD
  have e1 : HT.sIx (xs ++ [a]).length 0 none = 0 := HT.sIx_none _ _
  have e2 : HT.sIx (xs ++ [a]).length (xs ++ [a]).length (some (-1)) = xs.length := by
    show (if (-1 : Int) < 0 then (-1 + ((xs ++ [a]).length : Int)).toNat else min (-1 : Int).toNat (xs ++ [a]).length) = _
    rw [if_pos (by omega), List.length_append, List.length_singleton]
    omega
  rw [e1, e2]
  simp
theorem w_sl_dn : dSl (dL (up l h)) none (some (-1)) st Q = Q (dL l) st := by
  rw [dL_up, ← List.cons_append]
  unfold dSl
  dsimp only
  rw [cut_dl]
  rfl
theorem w_sl_dnN : dSl (dL (up l h)) none (some ((l.hs.length : Int) + 1)) st Q = Q (dL l) st := by
  rw [dL_up, ← List.cons_append]
  unfold dSl
  dsimp only
  rw [cut_toI (by omega), show ((l.hs.length : Int) + 1).toNat = l.hs.length + 1 by omega, List.take_left' (by simp)]
  rfl
theorem w_it_up : dItem st (dL (up l h)) (-1) = some (.int h) := by
  rw [dL_up, ← List.cons_append]
  exact atI_end _ _
theorem w_it_upN : dItem st (dL (up l h)) ((l.hs.length : Int) + 1) = some (.int h) := by
  rw [dL_up, ← List.cons_append, w_item_t, atI_nn (by omega) (by simp; omega), show ((l.hs.length : Int) + 1).toNat = l.hs.length + 1 by omega]
  rw [List.getElem?_append_right (by simp)]
  simp
theorem w_it_0 : dItem st (dL l) 0 = some (.str ⟨#[l.nm.val]⟩) := by
  unfold dL
  exact atI_zero
end
/-! shifting -/
def shl (n : Int) (l : Letter) : Letter := up (dn l) (lh l + n)
def shw (n : Int) (w : Word) : Word := w.map fun r => (shl n r.1, r.2)
theorem shl_up (n : Int) (l : Letter) (h : Int) : shl n (up l h) = up l (h + n) := by
  unfold shl
  rw [dn_up, lh_up]
theorem shl_inj {n : Int} {l m : Letter} (hl : l.hs ≠ []) (hm : m.hs ≠ []) (h : shl n l = shl n m) : l = m := by
  unfold shl at h
  obtain ⟨h1, h2⟩ := up_inj.mp h
  rw [up_of hl, up_of hm, h1, show lh l = lh m by omega]
theorem shl_ne (n : Int) (l : Letter) : (shl n l).hs ≠ [] := up_ne _ _
theorem shl_shl (n m : Int) (l : Letter) : shl n (shl m l) = shl (m + n) l := by
  unfold shl
  rw [dn_up, lh_up, Int.add_assoc]
theorem shl_zero {l : Letter} (h : l.hs ≠ []) : shl 0 l = l := by
  unfold shl
  rw [Int.add_zero]
  exact (up_of h).symm
theorem shw_shw (n m : Int) (w : Word) : shw n (shw m w) = shw (m + n) w := by
  unfold shw
  rw [List.map_map]
  congr 1
  funext r
  simp only [Function.comp, shl_shl]
theorem shw_zero {w : Word} (h : ∀ r ∈ w, r.1.hs ≠ []) : shw 0 w = w := by
  unfold shw
  conv => rhs; rw [← List.map_id w]
  apply List.map_congr_left
  intro r hr
  rw [shl_zero (h r hr)]
  rfl
theorem shw_ne (n : Int) (w : Word) : ∀ r ∈ shw n w, r.1.hs ≠ [] := by
  intro r hr
  obtain ⟨x, _, rfl⟩ := List.mem_map.mp hr
  exact shl_ne _ _
theorem shw_len (n : Int) (w : Word) : (shw n w).length = w.length := by
  unfold shw
  rw [List.length_map]
theorem Red.shw {n : Int} {w : Word} (hw : Red w) (h : ∀ r ∈ w, r.1.hs ≠ []) : Red (shw n w) := by
  induction w with
  | nil => trivial
  | cons r w ih =>
    refine ⟨hw.1, ?_, ih hw.2.2 fun x hx => h x (by simp [hx])⟩
    intro m hm e
    cases w with
    | nil => cases hm
    | cons q w =>
      cases hm
      exact hw.2.1 q rfl (shl_inj (h q (by simp)) (h r (by simp)) e)
end DL

namespace K03
open PySem PySem.Spec L2 DL Wd
local macro_rules | `(tactic| walk_at "d") => `(tactic| try simp only [dSeq, dSet, dIfS, dRet, dRetN, dDrop, dAsg, dAug, dPar, dNext, dCont, dBreak, dFor, dgName, dgSub, dOp, dUn, dVar, dC, dB, dTruth, dAnd, dOr, dNot, dAndV, dOrV, dNotV, dIf, dCall, dCB, dBM, dTup, dLst, dCons, dNil, dSlice, dPart, dNoPart, dLc, dLc2, dYes, dwipe, dPut, dWhile,   dSub, dPow, dFdiv, dMod, dLt, dLe, dGt, dGe, dEq, dNe, dIn, dNotIn, dAbs, dInt1, w_int_i, w_int_b, dIter, dIterRev, dRng1, dRng2, dAppend, dExtend, dPop, dReverse, dIsi, dTupleRev, dListRev, dEqv_int, dEqv_L, dEqv_run, dEqv_W, dEqv_L0, dEqv_W0, dEqv_bl, dCallK, dEqv_0L,   dstart, List.map_cons, List.cons_append, List.nil_append, List.length_cons, List.length_nil, List.replicate, List.getElem?_cons_zero, List.getElem?_cons_succ, List.set_cons_zero, List.set_cons_succ, Nat.reduceAdd, Nat.reduceSub, Nat.reduceLeDiff, Int.reduceNeg, Int.reduceToNat, decide_eq_true_eq, decide_eq_false_iff_not, if_true, if_false, ite_true, ite_false, true_and, and_true, Bool.not_true, Bool.not_false, Bool.false_eq_true, reduceCtorEq, decide_true, decide_false, not_false_eq_true, bne_iff_ne, ne_eq, Bool.not_eq_true', Option.map_some, Option.map_none, ixN30, ixN31, ixN32, atI_zero, atI_one, atI_two, List.set_set,   get_end, set_end, item_end, item_run0, item_run1, dgTup_run, tup_run, tup_W1, ty_run, ty_L, ty_W, getLastIx, List.dropLast_concat, List.isEmpty_cons, List.isEmpty_nil, isEmpty_snoc, okOf, len_W, add_W, w_stp, w_mkh, w_addL, w_lenL, w_sl_dn, w_sl_dnN, w_it_up, w_it_upN, w_it_0, sl_to, sl_from, List.length_map, List.map_nil, List.reverse_nil, w_add_i, w_add_t, w_add_s, w_add_r, w_mul_i, w_ii, w_i0, w_int_i, w_int_b, w_min, w_max, w_mulT_i, w_mulT_t, w_mulT_W, w_gK11, w_star, w_star_t, w_star_W, w_mark, w_extT, w_extT_W, w_neg, w_ix, w_len_t, w_len_l, w_len_r, w_list_t, w_list_l, w_list_r, w_list_W, w_tuple_t, w_tuple_l, w_tuple_r, w_tuple_W, w_tup_W, w_item_t, w_item_l, w_items_t, w_items_l, w_items_W, w_items_r, w_tru_b, w_tru_i, w_tru_t, w_tru_W, w_tru_l, w_tru_n, w_tru_r, w_gtup, w_gcons, w_gnil, w_revOf, w_rev_r, w_rev_l, w_sl_t, w_sl_l, w_sl_r, w_ty_n, w_ty_b, w_ty_i, w_ty_s, w_ty_t, w_ty_l, w_snoc, w_app, w_end, w_endN, w_endN2, w_dl, w_nilmap, w_emp, w_beq0, w_sl_toN, w_sl_fromN, w_cut_tail, w_isi_int_int, w_isi_bool_int, w_isi_str_int, w_isi_tuple_int, w_isi_list_int, w_isi_NoneType_int, w_isi_int_bool, w_isi_bool_bool, w_isi_str_bool, w_isi_tuple_bool, w_isi_list_bool, w_isi_NoneType_bool, w_isi_int_str, w_isi_bool_str, w_isi_str_str, w_isi_tuple_str, w_isi_list_str, w_isi_NoneType_str, w_isi_int_tuple, w_isi_bool_tuple, w_isi_str_tuple, w_isi_tuple_tuple, w_isi_list_tuple, w_isi_NoneType_tuple, w_isi_int_list, w_isi_bool_list, w_isi_str_list, w_isi_tuple_list, w_isi_list_list, w_isi_NoneType_list])
local macro_rules | `(tactic| walk_at "e") => `(tactic| try simp only [dSeq, dSet, dIfS, dRet, dRetN, dDrop, dAsg, dAug, dPar, dNext, dCont, dBreak, dFor, dgName, dgSub, dOp, dUn, dVar, dC, dB, dTruth, dAnd, dOr, dNot, dAndV, dOrV, dNotV, dIf, dCall, dCB, dBM, dTup, dLst, dCons, dNil, dSlice, dPart, dNoPart, dLc, dLc2, dYes, dwipe, dPut, dWhile,   dSub, dPow, dFdiv, dMod, dLt, dLe, dGt, dGe, dEq, dNe, dIn, dNotIn, dAbs, dInt1, w_int_i, w_int_b, dIter, dIterRev, dRng1, dRng2, dAppend, dExtend, dPop, dReverse, dIsi, dTupleRev, dListRev, dEqv_int, dEqv_L, dEqv_run, dEqv_W, dEqv_L0, dEqv_W0, dEqv_bl, dCallK, dEqv_0L,   dstart, List.map_cons, List.cons_append, List.nil_append, List.length_cons, List.length_nil, List.replicate, List.getElem?_cons_zero, List.getElem?_cons_succ, List.set_cons_zero, List.set_cons_succ, Nat.reduceAdd, Nat.reduceSub, Nat.reduceLeDiff, Int.reduceNeg, Int.reduceToNat, decide_eq_true_eq, decide_eq_false_iff_not, if_true, if_false, ite_true, ite_false, true_and, and_true, Bool.not_true, Bool.not_false, Bool.false_eq_true, reduceCtorEq, decide_true, decide_false, not_false_eq_true, bne_iff_ne, ne_eq, Bool.not_eq_true', Option.map_some, Option.map_none, ixN30, ixN31, ixN32, atI_zero, atI_one, atI_two, List.set_set,   get_end, set_end, item_end, item_run0, item_run1, dgTup_run, tup_run, tup_W1, ty_run, ty_L, ty_W, getLastIx, List.dropLast_concat, List.isEmpty_cons, List.isEmpty_nil, isEmpty_snoc, okOf, len_W, add_W, w_stp, w_mkh, w_addL, w_lenL, w_sl_dn, w_sl_dnN, w_it_up, w_it_upN, w_it_0, sl_to, sl_from, List.length_map, List.map_nil, List.reverse_nil, w_add_i, w_add_t, w_add_s, w_add_r, w_mul_i, w_ii, w_i0, w_int_i, w_int_b, w_min, w_max, w_mulT_i, w_mulT_t, w_mulT_W, w_gK11, w_star, w_star_t, w_star_W, w_mark, w_extT, w_extT_W, w_neg, w_ix, w_len_t, w_len_l, w_len_r, w_list_t, w_list_l, w_list_r, w_list_W, w_tuple_t, w_tuple_l, w_tuple_r, w_tuple_W, w_tup_W, w_item_t, w_item_l, w_items_t, w_items_l, w_items_W, w_items_r, w_tru_b, w_tru_i, w_tru_t, w_tru_W, w_tru_l, w_tru_n, w_tru_r, w_gtup, w_gcons, w_gnil, w_revOf, w_rev_r, w_rev_l, w_sl_t, w_sl_l, w_sl_r, w_ty_n, w_ty_b, w_ty_i, w_ty_s, w_ty_t, w_ty_l, w_snoc, w_app, w_end, w_endN, w_endN2, w_dl, w_nilmap, w_emp, w_beq0, w_sl_toN, w_sl_fromN, w_cut_tail, w_isi_int_int, w_isi_bool_int, w_isi_str_int, w_isi_tuple_int, w_isi_list_int, w_isi_NoneType_int, w_isi_int_bool, w_isi_bool_bool, w_isi_str_bool, w_isi_tuple_bool, w_isi_list_bool, w_isi_NoneType_bool, w_isi_int_str, w_isi_bool_str, w_isi_str_str, w_isi_tuple_str, w_isi_list_str, w_isi_NoneType_str, w_isi_int_tuple, w_isi_bool_tuple, w_isi_str_tuple, w_isi_tuple_tuple, w_isi_list_tuple, w_isi_NoneType_tuple, w_isi_int_list, w_isi_bool_list, w_isi_str_list, w_isi_tuple_list, w_isi_list_list, w_isi_NoneType_list, *])
local macro_rules | `(tactic| walk_at "p") => `(tactic| try simp only [dSeq, dSet, dIfS, dRet, dRetN, dDrop, dAsg, dAug, dPar, dNext, dCont, dBreak, dFor, dgName, dgSub, dOp, dUn, dVar, dC, dB, dTruth, dAnd, dOr, dNot, dAndV, dOrV, dNotV, dIf, dCall, dCB, dBM, dTup, dLst, dCons, dNil, dSlice, dPart, dNoPart, dLc, dLc2, dYes, dwipe, dPut, dWhile,   dSub, dPow, dFdiv, dMod, dLt, dLe, dGt, dGe, dEq, dNe, dIn, dNotIn, dAbs, dInt1, w_int_i, w_int_b, dIter, dIterRev, dRng1, dRng2, dAppend, dExtend, dPop, dReverse, dIsi, dTupleRev, dListRev, dEqv_int, dEqv_L, dEqv_run, dEqv_W, dEqv_L0, dEqv_W0, dEqv_bl, dCallK, dEqv_0L,   dstart, p_get0, p_gets0, p_set0, p_sets0, p_get1, p_gets1, p_set1, p_sets1, p_get2, p_gets2, p_set2, p_sets2, p_get3, p_gets3, p_set3, p_sets3, p_get4, p_gets4, p_set4, p_sets4, p_get5, p_gets5, p_set5, p_sets5, p_get6, p_gets6, p_set6, p_sets6, p_get7, p_gets7, p_set7, p_sets7, p_get8, p_gets8, p_set8, p_sets8, p_get9, p_gets9, p_set9, p_sets9, p_get10, p_gets10, p_set10, p_sets10, p_get11, p_gets11, p_set11, p_sets11, p_get12, p_gets12, p_set12, p_sets12, p_get13, p_gets13, p_set13, p_sets13, p_get14, p_gets14, p_set14, p_sets14, p_get15, p_gets15, p_set15, p_sets15, p_get16, p_gets16, p_set16, p_sets16, p_get17, p_gets17, p_set17, p_sets17, p_get18, p_gets18, p_set18, p_sets18, p_get19, p_gets19, p_set19, p_sets19, p_get20, p_gets20, p_set20, p_sets20, p_get21, p_gets21, p_set21, p_sets21, p_get22, p_gets22, p_set22, p_sets22, p_get23, p_gets23, p_set23, p_sets23, p_get24, p_gets24, p_set24, p_sets24, p_get25, p_gets25, p_set25, p_sets25, p_app, p_setapp, p_self, p_ne, p_item_r, p_setIx_r, ex_pool, List.append_assoc, List.length_append, List.length_set, Nat.add_assoc, Nat.add_sub_cancel, List.map_cons, List.cons_append, List.nil_append, List.length_cons, List.length_nil, List.replicate, List.getElem?_cons_zero, List.getElem?_cons_succ, List.set_cons_zero, List.set_cons_succ, Nat.reduceAdd, Nat.reduceSub, Nat.reduceLeDiff, Int.reduceNeg, Int.reduceToNat, decide_eq_true_eq, decide_eq_false_iff_not, if_true, if_false, ite_true, ite_false, true_and, and_true, Bool.not_true, Bool.not_false, Bool.false_eq_true, reduceCtorEq, decide_true, decide_false, not_false_eq_true, bne_iff_ne, ne_eq, Bool.not_eq_true', Option.map_some, Option.map_none, ixN30, ixN31, ixN32, atI_zero, atI_one, atI_two, List.set_set,   item_run0, item_run1, dgTup_run, tup_run, tup_W1, ty_run, ty_L, ty_W, getLastIx, List.dropLast_concat, List.isEmpty_cons, List.isEmpty_nil, isEmpty_snoc, okOf, len_W, add_W, w_stp, w_mkh, w_addL, w_lenL, w_sl_dn, w_sl_dnN, w_it_up, w_it_upN, w_it_0, sl_to, sl_from, List.length_map, List.map_nil, List.reverse_nil, w_add_i, w_add_t, w_add_s, w_add_r, w_mul_i, w_ii, w_i0, w_int_i, w_int_b, w_min, w_max, w_mulT_i, w_mulT_t, w_mulT_W, w_gK11, w_star, w_star_t, w_star_W, w_mark, w_extT, w_extT_W, w_neg, w_ix, w_len_t, w_len_l, w_len_r, w_list_t, w_list_l, w_list_r, w_list_W, w_tuple_t, w_tuple_l, w_tuple_r, w_tuple_W, w_tup_W, w_item_t, w_item_l, w_items_t, w_items_l, w_items_W, w_items_r, w_tru_b, w_tru_i, w_tru_t, w_tru_W, w_tru_l, w_tru_n, w_tru_r, w_gtup, w_gcons, w_gnil, w_revOf, w_rev_r, w_rev_l, w_sl_t, w_sl_l, w_sl_r, w_ty_n, w_ty_b, w_ty_i, w_ty_s, w_ty_t, w_ty_l, w_snoc, w_app, w_end, w_endN, w_endN2, w_dl, w_nilmap, w_emp, w_beq0, w_sl_toN, w_sl_fromN, w_cut_tail, w_isi_int_int, w_isi_bool_int, w_isi_str_int, w_isi_tuple_int, w_isi_list_int, w_isi_NoneType_int, w_isi_int_bool, w_isi_bool_bool, w_isi_str_bool, w_isi_tuple_bool, w_isi_list_bool, w_isi_NoneType_bool, w_isi_int_str, w_isi_bool_str, w_isi_str_str, w_isi_tuple_str, w_isi_list_str, w_isi_NoneType_str, w_isi_int_tuple, w_isi_bool_tuple, w_isi_str_tuple, w_isi_tuple_tuple, w_isi_list_tuple, w_isi_NoneType_tuple, w_isi_int_list, w_isi_bool_list, w_isi_str_list, w_isi_tuple_list, w_isi_list_list, w_isi_NoneType_list, *])
def d_MARK : D := .tup [.str (Str.ofString "!")]
def d_STEP : D := .tup [.str (Str.ofString "/")]
/-! raised -/
abbrev N_raised : List Str := ["letter", "height"]

def r_raised : DTS :=
  (dRet (dOp dAdd (dVar 0) (dTup (dCons (dVar 1) dNil))))
def sp_raised : DSp := fun ds st Q => ∃ (l : Letter) (h : Int), ds = [dL l, .int h] ∧ l.hs.length ≤ 1000 ∧ Q (dL (up l h)) st
theorem read_raised : ∀ ds st Q, Wf st → D.lts st.length ds → sp_raised ds st Q → r_raised st.length { nx := fun _ st' => Ret st.length Q .non st', rt := Ret st.length Q } (dstart N_raised ds) st := by
  intro ds st Q wf wl h
  obtain ⟨l, h, rfl, hl, q⟩ := h
  unfold r_raised N_raised
  walk_at "d"
  exact ⟨by decide, small_line (by omega), ret_eq rfl wf lt_L q⟩

theorem len_raised : ∀ ds s Q, sp_raised ds s Q → ds.length = 2 := by
  intro ds s Q h
  unfold sp_raised at h
  repeat (obtain ⟨_, h⟩ := h)
  subst_vars
  rfl
/-! lowered -/
abbrev N_lowered : List Str := ["letter"]

def r_lowered : DTS :=
  (dRet (dSlice (dVar 0) dNoPart (dPart (dUn dNeg (dC (.int 1))))))
def sp_lowered : DSp := fun ds st Q => ∃ (l : Letter) (h : Int), ds = [dL (up l h)] ∧ Q (dL l) st
theorem read_lowered : ∀ ds st Q, Wf st → D.lts st.length ds → sp_lowered ds st Q → r_lowered st.length { nx := fun _ st' => Ret st.length Q .non st', rt := Ret st.length Q } (dstart N_lowered ds) st := by
  intro ds st Q wf wl h
  obtain ⟨l, h, rfl, q⟩ := h
  unfold r_lowered N_lowered
  walk_at "d"
  exact ret_eq rfl wf lt_L q

theorem len_lowered : ∀ ds s Q, sp_lowered ds s Q → ds.length = 1 := by
  intro ds s Q h
  unfold sp_lowered at h
  repeat (obtain ⟨_, h⟩ := h)
  subst_vars
  rfl
/-! last_height -/
abbrev N_last_height : List Str := ["letter"]

def r_last_height : DTS :=
  (dRet (dOp dIx (dVar 0) (dUn dNeg (dC (.int 1)))))
def sp_last_height : DSp := fun ds st Q => ∃ (l : Letter) (h : Int), ds = [dL (up l h)] ∧ Q (.int h) st
theorem read_last_height : ∀ ds st Q, Wf st → D.lts st.length ds → sp_last_height ds st Q → r_last_height st.length { nx := fun _ st' => Ret st.length Q .non st', rt := Ret st.length Q } (dstart N_last_height ds) st := by
  intro ds st Q wf wl h
  obtain ⟨l, h, rfl, q⟩ := h
  unfold r_last_height N_last_height
  walk_at "d"
  exact ret_eq rfl wf trivial q

theorem len_last_height : ∀ ds s Q, sp_last_height ds s Q → ds.length = 1 := by
  intro ds s Q h
  unfold sp_last_height at h
  repeat (obtain ⟨_, h⟩ := h)
  subst_vars
  rfl
/-! reduced -/
abbrev N_reduced : List Str := ["pairs", "runs", "letter", "exponent", "total"]
def g_reduced_0 : DTG := (dgTup 2 (dgCons (dgName 2) (dgCons (dgName 3) dgNil)))
def b_reduced_0 : DTS :=
  (dSeq (dSet 4 (dVar 3))
  (dSeq (dIfS (dAnd (dTruth (dVar 1)) (dB (dOp dEq (dOp dIx (dOp dIx (dVar 1) (dUn dNeg (dC (.int 1)))) (dC (.int 0))) (dVar 2)))) (dSet 4 (dOp dAdd (dOp dIx (dBM dPop (dVar 1) dNil) (dC (.int 1))) (dVar 3))) dNext)
  (dIfS (dB (dOp dNe (dVar 4) (dC (.int 0)))) (dDrop (dBM dAppend (dVar 1) (dCons (dTup (dCons (dVar 2) (dCons (dVar 4) dNil))) dNil))) dNext)))
theorem ug_reduced_0 {x env st Q} : g_reduced_0 x env st Q = (dgTup 2 (dgCons (dgName 2) (dgCons (dgName 3) dgNil))) x env st Q := rfl
theorem ub_reduced_0 {n d env st} : b_reduced_0 n d env st = (dSeq (dSet 4 (dVar 3))
  (dSeq (dIfS (dAnd (dTruth (dVar 1)) (dB (dOp dEq (dOp dIx (dOp dIx (dVar 1) (dUn dNeg (dC (.int 1)))) (dC (.int 0))) (dVar 2)))) (dSet 4 (dOp dAdd (dOp dIx (dBM dPop (dVar 1) dNil) (dC (.int 1))) (dVar 3))) dNext)
  (dIfS (dB (dOp dNe (dVar 4) (dC (.int 0)))) (dDrop (dBM dAppend (dVar 1) (dCons (dTup (dCons (dVar 2) (dCons (dVar 4) dNil))) dNil))) dNext))) n d env st := rfl
def r_reduced : DTS :=
  (dSeq (dSet 1 (dLst dNil))
  (dSeq (dFor (dIter (dVar 0)) g_reduced_0 b_reduced_0)
  (dRet (dCB dTupleOf (dCons (dVar 1) dNil)))))
def sp_reduced : DSp := fun ds st Q => ∃ (x : D) (ps : Word), ds = [x] ∧ dItems st x = some (ps.map dRun) ∧ ps.length ≤ 1000000 ∧ Q (dW (red ps)) st
theorem lp_reduced {m : Nat} {d : DEnds} {x : D} {st : Store} {items : List D} (hok : ∀ l, okOf x items (st ++ l)) : ∀ (rest R : Word) (a b c : Option D), R.length + rest.length ≤ 1000000 →
    (∀ a b c, d.nx [some x, some (.ref st.length), a, b, c] (st ++ [.lst ((rest.foldl (fun s r => Wd.cons r s) R).reverse.map dRun)])) →
    dLoop g_reduced_0 b_reduced_0 m d (okOf x items) (rest.map dRun) [some x, some (.ref st.length), a, b, c] (st ++ [.lst (R.reverse.map dRun)])
  | [], R, a, b, c, hl, h => ⟨hok _, h _ _ _⟩
  | (l, e) :: rest, [], a, b, c, hl, h => by
    have ih := fun R' (hr : R'.length ≤ 1) a b c => lp_reduced hok rest R' a b c (m := m) (d := d) (by simp at hl; omega)
    refine ⟨hok _, ?_⟩
    rw [ug_reduced_0]
    walk_at "d"
    rw [ub_reduced_0]
    walk_at "d"
    split
    · exact ⟨by decide, small_line' (by decide), ih [(l, e)] (by simp) _ _ _ (fun a b c => by
        have := h a b c
        rwa [List.foldl_cons, c0, if_neg (by assumption)] at this)⟩
    · rename_i he
      exact ih [] (by simp) _ _ _ (fun a b c => by
        have := h a b c
        rwa [List.foldl_cons, c0, if_pos (by simpa using he)] at this)
  | (l, e) :: rest, (l', e') :: R, a, b, c, hl, h => by
    have hl' : R.length + 1 + (rest.length + 1) ≤ 1000000 := hl
    have ih := fun R' (hr : R'.length ≤ R.length + 2) a b c => lp_reduced hok rest R' a b c (m := m) (d := d) (by omega)
    refine ⟨hok _, ?_⟩
    rw [List.reverse_cons, ug_reduced_0]
    walk_at "d"
    rw [ub_reduced_0]
    walk_at "d"
    have hs : R.reverse.length < sizeLine := small_line' (by rw [List.length_reverse]; omega)
    have hs' : (R.reverse ++ [(l', e')]).length < sizeLine := small_line' (by rw [List.length_append, List.length_reverse]; simp; omega)
    split
    · rename_i hll
      subst hll
      split
      · rename_i he
        rw [← List.reverse_cons]
        refine ⟨by decide, hs, ih ((l', e' + e) :: R) (by simp) _ _ _ (fun a b c => ?_)⟩
        have := h a b c
        rwa [List.foldl_cons, c1, if_pos rfl, if_neg (by omega), show e + e' = e' + e by omega] at this
      · rename_i he
        refine ih R (by simp) _ _ _ (fun a b c => ?_)
        have := h a b c
        rwa [List.foldl_cons, c1, if_pos rfl, if_pos (by omega)] at this
    · rename_i hll
      rw [← List.reverse_cons]
      split
      · rename_i he
        rw [← List.reverse_cons] at hs' ⊢
        refine ⟨by decide, hs', ih ((l, e) :: (l', e') :: R) (by simp) _ _ _ (fun a b c => ?_)⟩
        have := h a b c
        rwa [List.foldl_cons, c1, if_neg hll, if_neg he] at this
      · rename_i he
        refine ih ((l', e') :: R) (by simp) _ _ _ (fun a b c => ?_)
        have := h a b c
        rwa [List.foldl_cons, c1, if_neg hll, if_pos (by simpa using he)] at this
theorem read_reduced : ∀ ds st Q, Wf st → D.lts st.length ds → sp_reduced ds st Q → r_reduced st.length { nx := fun _ st' => Ret st.length Q .non st', rt := Ret st.length Q } (dstart N_reduced ds) st := by
  intro ds st Q wf wl h
  obtain ⟨x, ps, rfl, hx, hl, q⟩ := h
  have hx' : ∀ l, dItems (st ++ l) x = some (ps.map dRun) := fun l => dItems_app hx
  have hok : ∀ l, okOf x (ps.map dRun) (st ++ l) := fun l => ok_app hx
  unfold r_reduced N_reduced
  walk_at "d"
  rw [hx']
  refine ⟨Nat.zero_le _, lp_reduced hok ps [] _ _ _ (by simpa using hl) fun a b c => ?_⟩
  rw [red_left]
  walk_at "d"
  exact ret_app rfl wf lt_W q

theorem len_reduced : ∀ ds s Q, sp_reduced ds s Q → ds.length = 1 := by
  intro ds s Q h
  unfold sp_reduced at h
  repeat (obtain ⟨_, h⟩ := h)
  subst_vars
  rfl
/-! inverse -/
abbrev N_inverse : List Str := ["word", "letter", "exponent"]

def r_inverse : DTS :=
  (dRet (dCB dTupleOf (dCons (dLc (dIterRev (dVar 0)) (dgTup 2 (dgCons (dgName 1) (dgCons (dgName 2) dgNil))) dYes (dTup (dCons (dVar 1) (dCons (dUn dNeg (dVar 2)) dNil))) [1, 2]) dNil)))
def sp_inverse : DSp := fun ds st Q => ∃ (w : Word), ds = [dW w] ∧ w.length ≤ 1000000 ∧ Q (dW (inv w)) st
theorem lp_inverse {st : Store} {fin : Store → Prop} {a : Option D} {ok : Store → Prop} (hok : ∀ s, ok s) : ∀ (ps acc : Word), acc.length + ps.length ≤ 1000000 → fin (st ++ [.lst ((acc ++ ps.map fun r => (r.1, -r.2)).map dRun)]) →
    dLcL (dgTup 2 (dgCons (dgName 1) (dgCons (dgName 2) dgNil))) dYes (dTup (dCons (dVar 1) (dCons (dUn dNeg (dVar 2)) dNil))) ok [a, none, none] st.length fin (ps.map dRun) (st ++ [.lst (acc.map dRun)])
  | [], acc, hl, h => ⟨hok _, by rwa [List.map_nil, List.append_nil] at h⟩
  | r :: ps, acc, hl, h => by
    have hl' : acc.length + (ps.length + 1) ≤ 1000000 := hl
    refine ⟨hok _, ?_⟩
    walk_at "d"
    refine ⟨by decide, small_line' (by omega), lp_inverse hok ps _ (by simp; omega) ?_⟩
    rw [List.append_assoc]
    exact h
theorem read_inverse : ∀ ds st Q, Wf st → D.lts st.length ds → sp_inverse ds st Q → r_inverse st.length { nx := fun _ st' => Ret st.length Q .non st', rt := Ret st.length Q } (dstart N_inverse ds) st := by
  intro ds st Q wf wl h
  obtain ⟨w, rfl, hl, q⟩ := h
  unfold r_inverse N_inverse
  walk_at "d"
  unfold dW
  dsimp only
  rw [← List.map_reverse]
  refine lp_inverse (st := st) (fun _ => trivial) w.reverse [] (by simpa using hl) ?_
  walk_at "d"
  rw [List.map_reverse]
  exact ret_app rfl wf lt_W q

theorem len_inverse : ∀ ds s Q, sp_inverse ds s Q → ds.length = 1 := by
  intro ds s Q h
  unfold sp_inverse at h
  repeat (obtain ⟨_, h⟩ := h)
  subst_vars
  rfl
/-! _law_pool -/
abbrev N__law_pool : List Str := ["script", "place", "cell", "seed"]

def r__law_pool : DTS :=
  (dSeq (dSet 2 (dC (.int 0)))
  (dSeq (dIfS (dB (dOp dLt (dVar 1) (dCB dLen (dCons (dVar 0) dNil)))) (dSet 2 (dCB dAbs (dCons (dCB dInt1 (dCons (dOp dIx (dVar 0) (dVar 1)) dNil)) dNil))) dNext)
  (dSeq (dSet 3 (dOp dAdd (dOp dAdd (dOp dMod (dCB dInt1 (dCons (dVar 2) dNil)) (dC (.int 2147483563))) (dOp dMul (dC (.int 7919)) (dVar 1))) (dC (.int 1))))
  (dSeq (dIfS (dB (dOp dLt (dVar 2) (dOp dPow (dC (.int 10)) (dC (.int 18))))) (dSet 2 (dC (.int 0))) dNext)
  (dRet (dLst (dCons (dVar 2) (dCons (dC (.int 0)) (dCons (dVar 3) dNil)))))))))
def sp__law_pool : DSp := fun ds st Q => ∃ (ns : List Int) (p : Int), ds = [.rol (ns.map D.int), .int p] ∧ 0 ≤ p ∧ p ≤ 100 ∧ ns.length ≤ 63 ∧ ∀ p : Pool, Q (.ref st.length) (st ++ [p.1])
theorem read__law_pool : ∀ ds st Q, Wf st → D.lts st.length ds → sp__law_pool ds st Q → r__law_pool st.length { nx := fun _ st' => Ret st.length Q .non st', rt := Ret st.length Q } (dstart N__law_pool ds) st := by
  intro ds st Q wf wl h
  obtain ⟨ns, p, rfl, h0, h1, hl, q⟩ := h
  have fin : ∀ c n s : Int, 0 ≤ c → 3 ≤ sizeLine ∧ Ret st.length Q (.ref st.length) (st ++ [.lst [.int c, .int n, .int s]]) := fun c n s hc =>
    ⟨by decide, ret_cell rfl wf (Nat.le_refl _) get_end (IsPool.lt ⟨c, n, s, rfl, hc⟩) (q ⟨_, c, n, s, rfl, hc⟩)⟩
  have cm : CMulA 7919 p := CMulA.left (by decide) (by decide)
  have cp : CPow 10 18 := ⟨by decide, by decide, by decide⟩
  have c3 : (2147483563 : Int) ≠ 0 := by decide
  unfold r__law_pool N__law_pool
  walk_at "d"
  split
  · rename_i hp
    rw [atI_nn h0 (by rw [List.length_map]; exact hp), List.getElem?_map, List.getElem?_eq_getElem (by omega)]
    walk_at "d"
    refine ⟨c3, cm, cp, ?_⟩
    repeat' split
    all_goals exact fin _ _ _ (by omega)
  · refine ⟨c3, cm, cp, ?_⟩
    repeat' split
    all_goals exact fin _ _ _ (by omega)

theorem len__law_pool : ∀ ds s Q, sp__law_pool ds s Q → ds.length = 2 := by
  intro ds s Q h
  unfold sp__law_pool at h
  repeat (obtain ⟨_, h⟩ := h)
  subst_vars
  rfl
/-! _law_draw -/
abbrev N__law_draw : List Str := ["pool", "many", "value", "mixed"]

def r__law_draw : DTS :=
  (dSeq (dIfS (dB (dOp dGt (dOp dIx (dVar 0) (dC (.int 0))) (dC (.int 0)))) (dSeq (dSet 2 (dOp dMod (dCB dInt1 (dCons (dOp dIx (dVar 0) (dC (.int 0))) dNil)) (dVar 1)))
  (dSeq (dAsg (dOp dFdiv (dCB dInt1 (dCons (dOp dIx (dVar 0) (dC (.int 0))) dNil)) (dVar 1)) (dgSub (dVar 0) (dC (.int 0))))
  (dRet (dVar 2)))) dNext)
  (dSeq (dAsg (dOp dAdd (dOp dIx (dVar 0) (dC (.int 1))) (dC (.int 1))) (dgSub (dVar 0) (dC (.int 1))))
  (dSeq (dSet 3 (dOp dMod (dCB dInt1 (dCons (dOp dAdd (dOp dMul (dOp dIx (dVar 0) (dC (.int 2))) (dC (.int 48271))) (dOp dMul (dOp dIx (dVar 0) (dC (.int 1))) (dC (.int 69621)))) dNil)) (dC (.int 2147483647))))
  (dSeq (dSet 3 (dOp dMod (dCB dInt1 (dCons (dOp dAdd (dOp dMul (dVar 3) (dVar 3)) (dOp dMul (dOp dIx (dVar 0) (dC (.int 1))) (dC (.int 7919)))) dNil)) (dC (.int 2147483629))))
  (dSeq (dSet 3 (dOp dMod (dCB dInt1 (dCons (dOp dAdd (dOp dMul (dVar 3) (dVar 3)) (dOp dIx (dVar 0) (dC (.int 2)))) dNil)) (dC (.int 2147483587))))
  (dRet (dOp dMod (dCB dInt1 (dCons (dVar 3) dNil)) (dVar 1))))))))
def sp__law_draw : DSp := fun ds st Q => ∃ (k : Nat) (m : Int) (p : Pool), ds = [.ref k, .int m] ∧ st[k]? = some p.1 ∧ 0 < m ∧ m ≤ 10 ^ 30 ∧ ∀ v (p' : Pool), 0 ≤ v → v < m → Q (.int v) (st.set k p'.1)
theorem draw_eq {k : Nat} {m : Int} {st : Store} {Q : DQ} : sp__law_draw [.ref k, .int m] st Q = ∃ p : Pool, st[k]? = some p.1 ∧ 0 < m ∧ m ≤ 10 ^ 30 ∧ ∀ v (p' : Pool), 0 ≤ v → v < m → Q (.int v) (st.set k p'.1) := by
  apply propext
  constructor
  · rintro ⟨k, m, p, e, h⟩
    cases e
    exact ⟨p, h⟩
  · rintro ⟨p, h⟩
    exact ⟨k, m, p, rfl, h⟩
theorem fmod_pos {a b : Int} (h : 0 < b) : 0 ≤ a.fmod b ∧ a.fmod b < b := by
  rw [Int.fmod_eq_emod_of_nonneg a (by omega)]
  exact ⟨Int.emod_nonneg a (by omega), Int.emod_lt_of_pos a h⟩
theorem sq_m {a b : Int} (h0 : 0 < b) (h1 : b < 2 ^ 63) : CMulA (a.fmod b) (a.fmod b) := by
  have := fmod_pos (a := a) h0
  exact CMulA.left (by omega) (by omega)
theorem log2_m {m : Int} (h0 : 0 < m) (h1 : m ≤ 10 ^ 30) : CDivA a m := by
  refine .inr ⟨h0, ?_⟩
  have h2 : m.natAbs < 2 ^ 100 := by
    have : (10 : Int) ^ 30 < 2 ^ 100 := by decide
    omega
  have := PySem.Flt.log2_lt_of (show 0 < 100 by decide) h2
  omega
theorem read__law_draw : ∀ ds st Q, Wf st → D.lts st.length ds → sp__law_draw ds st Q → r__law_draw st.length { nx := fun _ st' => Ret st.length Q .non st', rt := Ret st.length Q } (dstart N__law_draw ds) st := by
  intro ds st Q wf wl h
  obtain ⟨k, m, ⟨o, c, n, s, rfl, hc⟩, rfl, ho, h0, h1, q⟩ := h
  have fin : ∀ (v c n s : Int), 0 ≤ v → v < m → 0 ≤ c → Ret st.length Q (.int v) (st.set k (.lst [.int c, .int n, .int s])) := fun v c n s a b hc =>
    ret_eq (by rw [List.length_set]) (wf.set (IsPool.lt ⟨c, n, s, rfl, hc⟩)) trivial (q v ⟨_, c, n, s, rfl, hc⟩ a b)
  have i0 : ∀ i, dItem st (.ref k) i = atI [.int c, .int n, .int s] i := fun i => item_ref ho
  have i1 : ∀ xs i, dItem (st.set k (.lst xs)) (.ref k) i = atI xs i := fun xs i => item_ref (set_get ho)
  have s0 : ∀ i v, dSetIx st (.ref k) i v = (ixN 3 i).map fun j => st.set k (.lst ([D.int c, .int n, .int s].set j v)) := fun i v => setIx_ref ho
  have s1 : ∀ xs i v, dSetIx (st.set k (.lst xs)) (.ref k) i v = (ixN xs.length i).map fun j => st.set k (.lst (xs.set j v)) := fun xs i v => by rw [setIx_ref (set_get ho)]; simp only [List.set_set]
  clear ho q
  unfold r__law_draw N__law_draw
  walk_at "e"
  split
  · rename_i hp
    refine ⟨by omega, log2_m h0 h1, fin _ _ _ _ (fmod_pos h0).1 (fmod_pos h0).2 ?_⟩
    rw [Int.fdiv_eq_ediv_of_nonneg c (by omega)]
    exact Int.ediv_nonneg hc (by omega)
  · refine ⟨CMulA.right (by decide) (by decide), CMulA.right (by decide) (by decide), by decide, ?_, CMulA.right (by decide) (by decide), by decide, ?_, by decide, by omega, fin _ _ _ _ (fmod_pos h0).1 (fmod_pos h0).2 hc⟩
    all_goals exact sq_m (by decide) (by decide)

theorem len__law_draw : ∀ ds s Q, sp__law_draw ds s Q → ds.length = 2 := by
  intro ds s Q h
  unfold sp__law_draw at h
  repeat (obtain ⟨_, h⟩ := h)
  subst_vars
  rfl
/-! _law_back -/
abbrev N__law_back : List Str := ["word", "run"]

def r__law_back : DTS :=
  (dRet (dCB dTupleOf (dCons (dLc (dIterRev (dCB dListOf (dCons (dVar 0) dNil))) (dgName 1) dYes (dTup (dCons (dOp dIx (dVar 1) (dC (.int 0))) (dCons (dOp dSub (dC (.int 0)) (dOp dIx (dVar 1) (dC (.int 1)))) dNil))) [1]) dNil)))
def sp__law_back : DSp := fun ds st Q => ∃ (x : D) (ps : Word), ds = [x] ∧ IsSeq st x (ps.map dRun) ∧ ps.length ≤ 1000000 ∧ Q (dW (inv ps)) st
theorem lp__law_back {st : Store} {ok fin : Store → Prop} {a : Option D} (hok : ∀ l, ok (st ++ l)) : ∀ (ps acc : Word), acc.length + ps.length ≤ 1000000 → fin (st ++ [.lst ((acc ++ ps.map fun r => (r.1, -r.2)).map dRun)]) →
    dLcL (dgName 1) dYes (dTup (dCons (dOp dIx (dVar 1) (dC (.int 0))) (dCons (dOp dSub (dC (.int 0)) (dOp dIx (dVar 1) (dC (.int 1)))) dNil))) ok [a, none] st.length fin (ps.map dRun) (st ++ [.lst (acc.map dRun)])
  | [], acc, hl, h => ⟨hok _, by rwa [List.map_nil, List.append_nil] at h⟩
  | r :: ps, acc, hl, h => by
    have hl' : acc.length + (ps.length + 1) ≤ 1000000 := hl
    refine ⟨hok _, ?_⟩
    walk_at "d"
    refine ⟨by decide, small_line' (by omega), lp__law_back hok ps _ (by simp; omega) ?_⟩
    rw [Int.zero_sub, List.append_assoc]
    exact h
theorem read__law_back : ∀ ds st Q, Wf st → D.lts st.length ds → sp__law_back ds st Q → r__law_back st.length { nx := fun _ st' => Ret st.length Q .non st', rt := Ret st.length Q } (dstart N__law_back ds) st := by
  intro ds st Q wf wl h
  obtain ⟨x, ps, rfl, hx, hl, q⟩ := h
  unfold r__law_back N__law_back
  walk_at "d"
  rw [list_seq hx]
  walk_at "d"
  rw [← List.map_reverse]
  refine lp__law_back (st := st ++ [O.lst (ps.map dRun)]) (fun l => get_app get_end) ps.reverse [] (by simpa using hl) ?_
  walk_at "d"
  rw [List.map_reverse]
  rw [List.append_assoc]
  exact ret_app rfl wf lt_W q

theorem len__law_back : ∀ ds s Q, sp__law_back ds s Q → ds.length = 1 := by
  intro ds s Q h
  unfold sp__law_back at h
  repeat (obtain ⟨_, h⟩ := h)
  subst_vars
  rfl
/-! _law_lacks -/
abbrev N__law_lacks : List Str := ["word", "one", "run"]

def r__law_lacks : DTS :=
  (dRet (dOp dEq (dCB dLen (dCons (dLc (dIter (dVar 0)) (dgName 2) (dB (dOp dEq (dOp dIx (dVar 2) (dC (.int 0))) (dVar 1))) (dVar 2) [2]) dNil)) (dC (.int 0))))
def sp__law_lacks : DSp := fun ds st Q => ∃ (w : Word) (l : Letter), ds = [dW w, dL l] ∧ w.length ≤ 1000000 ∧ Q (.bl (decide (∀ r ∈ w, r.1 ≠ l))) st
theorem lp__law_lacks {st : Store} {ok fin : Store → Prop} {l : Letter} {x : Option D} (hok : ∀ s, ok s) : ∀ (ps acc : Word), acc.length + ps.length ≤ 1000000 → fin (st ++ [.lst ((acc ++ ps.filter fun r => decide (r.1 = l)).map dRun)]) →
    dLcL (dgName 2) (dB (dOp dEq (dOp dIx (dVar 2) (dC (.int 0))) (dVar 1))) (dVar 2) ok [x, some (dL l), none] st.length fin (ps.map dRun) (st ++ [.lst (acc.map dRun)])
  | [], acc, hl, h => ⟨hok _, by
    rwa [List.filter_nil, List.append_nil] at h⟩
  | (m, e) :: ps, acc, hl, h => by
    have hl' : acc.length + (ps.length + 1) ≤ 1000000 := hl
    refine ⟨hok _, ?_⟩
    walk_at "d"
    by_cases hm : m = l
    · subst hm
      rw [if_pos rfl]
      try walk_at "d"
      refine ⟨small_line' (by omega), lp__law_lacks hok ps _ (by simp; omega) ?_⟩
      rw [List.append_assoc]
      rw [List.filter_cons_of_pos (by simp)] at h
      exact h
    · rw [if_neg hm]
      refine lp__law_lacks hok ps _ (by omega) ?_
      rwa [List.filter_cons_of_neg (by simpa using hm)] at h
theorem read__law_lacks : ∀ ds st Q, Wf st → D.lts st.length ds → sp__law_lacks ds st Q → r__law_lacks st.length { nx := fun _ st' => Ret st.length Q .non st', rt := Ret st.length Q } (dstart N__law_lacks ds) st := by
  intro ds st Q wf wl h
  obtain ⟨w, l, rfl, hl, q⟩ := h
  unfold r__law_lacks N__law_lacks
  walk_at "d"
  refine lp__law_lacks (st := st) (fun _ => trivial) w [] (by simpa using hl) ?_
  have e : decide (((w.filter fun r => decide (r.1 = l)).length : Int) = 0) = decide (∀ r ∈ w, r.1 ≠ l) := by
    rw [decide_eq_decide]
    rw [show (((w.filter fun r => decide (r.1 = l)).length : Int) = 0) ↔ (w.filter fun r => decide (r.1 = l)) = [] by rw [← List.length_eq_zero_iff]; omega]
    rw [List.filter_eq_nil_iff]
    simp
  rw [← e] at q
  walk_at "d"
  exact ret_app rfl wf trivial q

theorem len__law_lacks : ∀ ds s Q, sp__law_lacks ds s Q → ds.length = 2 := by
  intro ds s Q h
  unfold sp__law_lacks at h
  repeat (obtain ⟨_, h⟩ := h)
  subst_vars
  rfl
/-! _law_is_whole -/
abbrev N__law_is_whole : List Str := ["value"]

def r__law_is_whole : DTS :=
  (dRet (dAndV (dCB dIsi (dCons (dVar 0) (dCons (dC (.ty "int")) dNil))) (dNotV (dCB dIsi (dCons (dVar 0) (dCons (dC (.ty "bool")) dNil))))))
def sp__law_is_whole : DSp := fun ds st Q => ∃ (i : Int), ds = [.int i] ∧ Q (.bl true) st
theorem read__law_is_whole : ∀ ds st Q, Wf st → D.lts st.length ds → sp__law_is_whole ds st Q → r__law_is_whole st.length { nx := fun _ st' => Ret st.length Q .non st', rt := Ret st.length Q } (dstart N__law_is_whole ds) st := by
  intro ds st Q wf wl h
  obtain ⟨i, rfl, q⟩ := h
  unfold r__law_is_whole N__law_is_whole
  walk_at "d"
  exact ret_eq rfl wf trivial q

theorem len__law_is_whole : ∀ ds s Q, sp__law_is_whole ds s Q → ds.length = 1 := by
  intro ds s Q h
  unfold sp__law_is_whole at h
  repeat (obtain ⟨_, h⟩ := h)
  subst_vars
  rfl
/-! _law_walked -/
abbrev N__law_walked : List Str := ["pairs", "rows", "pair", "total"]
def g__law_walked_0 : DTG := (dgName 2)
def b__law_walked_0 : DTS :=
  (dSeq (dSet 3 (dOp dIx (dVar 2) (dC (.int 1))))
  (dSeq (dIfS (dAnd (dB (dOp dGt (dCB dLen (dCons (dVar 1) dNil)) (dC (.int 0)))) (dB (dOp dEq (dOp dIx (dOp dIx (dVar 1) (dUn dNeg (dC (.int 1)))) (dC (.int 0))) (dOp dIx (dVar 2) (dC (.int 0)))))) (dSet 3 (dOp dAdd (dVar 3) (dOp dIx (dBM dPop (dVar 1) dNil) (dC (.int 1))))) dNext)
  (dIfS (dB (dOp dNe (dVar 3) (dC (.int 0)))) (dDrop (dBM dAppend (dVar 1) (dCons (dTup (dCons (dOp dIx (dVar 2) (dC (.int 0))) (dCons (dVar 3) dNil))) dNil))) dNext)))
theorem ug__law_walked_0 {x env st Q} : g__law_walked_0 x env st Q = (dgName 2) x env st Q := rfl
theorem ub__law_walked_0 {n d env st} : b__law_walked_0 n d env st = (dSeq (dSet 3 (dOp dIx (dVar 2) (dC (.int 1))))
  (dSeq (dIfS (dAnd (dB (dOp dGt (dCB dLen (dCons (dVar 1) dNil)) (dC (.int 0)))) (dB (dOp dEq (dOp dIx (dOp dIx (dVar 1) (dUn dNeg (dC (.int 1)))) (dC (.int 0))) (dOp dIx (dVar 2) (dC (.int 0)))))) (dSet 3 (dOp dAdd (dVar 3) (dOp dIx (dBM dPop (dVar 1) dNil) (dC (.int 1))))) dNext)
  (dIfS (dB (dOp dNe (dVar 3) (dC (.int 0)))) (dDrop (dBM dAppend (dVar 1) (dCons (dTup (dCons (dOp dIx (dVar 2) (dC (.int 0))) (dCons (dVar 3) dNil))) dNil))) dNext))) n d env st := rfl
def r__law_walked : DTS :=
  (dSeq (dSet 1 (dLst dNil))
  (dSeq (dFor (dIterRev (dCB dListOf (dCons (dVar 0) dNil))) g__law_walked_0 b__law_walked_0)
  (dRet (dTupleRev (dVar 1)))))
def sp__law_walked : DSp := fun ds st Q => ∃ (x : D) (ps : Word), ds = [x] ∧ IsSeq st x (ps.map dRun) ∧ ps.length ≤ 1000000 ∧ Q (dW (red ps)) st
theorem lp__law_walked {m : Nat} {d : DEnds} {x : D} {st : Store} {items : List D} {c : D} {l : Store} (hok : ∀ o, okOf c items (st ++ o :: l)) : ∀ (rest R : Word) (a b : Option D), R.length + rest.length ≤ 1000000 →
    (∀ a b, d.nx [some x, some (.ref st.length), a, b] (st ++ .lst ((rest.foldl (fun s r => Wd.cons r s) R).reverse.map dRun) :: l)) →
    dLoop g__law_walked_0 b__law_walked_0 m d (okOf c items) (rest.map dRun) [some x, some (.ref st.length), a, b] (st ++ .lst (R.reverse.map dRun) :: l)
  | [], R, a, b, hl, h => ⟨hok _, h _ _⟩
  | (y, e) :: rest, [], a, b, hl, h => by
    have hok0 := hok (.lst [])
    have ih := fun R' (hr : R'.length ≤ 1) a b => lp__law_walked hok rest R' a b (m := m) (d := d) (x := x) (by simp at hl; omega)
    refine ⟨hok _, ?_⟩
    rw [ug__law_walked_0]
    walk_at "p"
    rw [ub__law_walked_0]
    have nn : ¬ ((0 : Int) < ((0 : Nat) : Int)) := by omega
    walk_at "p"
    split
    · exact ⟨by decide, small_line' (by decide), ih [(y, e)] (by simp) _ _ (fun a b => by
        have := h a b
        rwa [List.foldl_cons, c0, if_neg (by assumption)] at this)⟩
    · rename_i he
      exact ih [] (by simp) _ _ (fun a b => by
        have := h a b
        rwa [List.foldl_cons, c0, if_pos (by simpa using he)] at this)
  | (y, e) :: rest, (y', e') :: R, a, b, hl, h => by
    have hl' : R.length + 1 + (rest.length + 1) ≤ 1000000 := hl
    have hok0 := hok (.lst [])
    have ih := fun R' (hr : R'.length ≤ R.length + 2) a b => lp__law_walked hok rest R' a b (m := m) (d := d) (x := x) (by omega)
    refine ⟨hok _, ?_⟩
    rw [List.reverse_cons, ug__law_walked_0]
    walk_at "p"
    rw [ub__law_walked_0]
    have nn : (0 : Int) < ((R.reverse.length + 1 : Nat) : Int) := by omega
    walk_at "p"
    have hs : R.reverse.length < sizeLine := small_line' (by rw [List.length_reverse]; omega)
    have hs' : R.reverse.length + 1 < sizeLine := small_line' (by rw [List.length_reverse]; omega)
    split
    · rename_i hll
      subst hll
      split
      · rename_i he
        rw [← List.reverse_cons]
        refine ⟨by decide, hs, ih ((y', e + e') :: R) (by simp) _ _ (fun a b => ?_)⟩
        have := h a b
        rwa [List.foldl_cons, c1, if_pos rfl, if_neg he] at this
      · rename_i he
        refine ih R (by simp) _ _ (fun a b => ?_)
        have := h a b
        rwa [List.foldl_cons, c1, if_pos rfl, if_pos (by simpa using he)] at this
    · rename_i hll
      split
      · rename_i he
        refine ⟨by decide, hs', ?_⟩
        have := ih ((y, e) :: (y', e') :: R) (by simp) (some (dRun (y, e))) (some (D.int e)) (fun a b => ?_)
        · rw [List.reverse_cons, List.reverse_cons, List.append_assoc] at this
          exact this
        have := h a b
        rwa [List.foldl_cons, c1, if_neg hll, if_neg he] at this
      · rename_i he
        rw [← List.reverse_cons]
        refine ih ((y', e') :: R) (by simp) _ _ (fun a b => ?_)
        have := h a b
        rwa [List.foldl_cons, c1, if_neg hll, if_pos (by simpa using he)] at this
theorem read__law_walked : ∀ ds st Q, Wf st → D.lts st.length ds → sp__law_walked ds st Q → r__law_walked st.length { nx := fun _ st' => Ret st.length Q .non st', rt := Ret st.length Q } (dstart N__law_walked ds) st := by
  intro ds st Q wf wl h
  obtain ⟨x, ps, rfl, hs, hl, q⟩ := h
  unfold r__law_walked N__law_walked
  have hs' := fun l => list_seq (Q := l) (hs.app (s2 := [O.lst []]))
  walk_at "d"
  rw [hs']
  walk_at "d"
  rw [← List.map_reverse, List.append_assoc]
  refine ⟨Nat.zero_le _, lp__law_walked (st := st) (l := [.lst (ps.map dRun)]) (c := .ref (st ++ [O.lst []]).length) (fun o => ?_) ps.reverse [] _ _ (by simpa using hl) fun a b => ?_⟩
  · show (st ++ [o, .lst (ps.map dRun)])[(st ++ [O.lst []]).length]? = _
    rw [List.length_append]
    exact p_get1
  · have e : ps.reverse.foldl (fun s r => Wd.cons r s) [] = red ps := by
      unfold red act
      rw [List.foldl_reverse]
    rw [e]
    walk_at "p"
    rw [← List.map_reverse, List.reverse_reverse]
    exact ret_app rfl wf lt_W q

theorem len__law_walked : ∀ ds s Q, sp__law_walked ds s Q → ds.length = 1 := by
  intro ds s Q h
  unfold sp__law_walked at h
  repeat (obtain ⟨_, h⟩ := h)
  subst_vars
  rfl
/-! _law_moved -/
abbrev N__law_moved : List Str := ["word", "number", "rows", "run", "last"]
def g__law_moved_0 : DTG := (dgName 3)
def b__law_moved_0 : DTS :=
  (dGc (dSeq (dSet 4 (dOp dSub (dCB dLen (dCons (dOp dIx (dVar 3) (dC (.int 0))) dNil)) (dC (.int 1))))
  (dDrop (dBM dAppend (dVar 2) (dCons (dTup (dCons (dOp dAdd (dSlice (dOp dIx (dVar 3) (dC (.int 0))) dNoPart (dPart (dVar 4))) (dTup (dCons (dOp dAdd (dOp dIx (dOp dIx (dVar 3) (dC (.int 0))) (dVar 4)) (dVar 1)) dNil))) (dCons (dOp dIx (dVar 3) (dC (.int 1))) dNil))) dNil)))))
theorem ug__law_moved_0 {x env st Q} : g__law_moved_0 x env st Q = (dgName 3) x env st Q := rfl
theorem ub__law_moved_0 {n d env st} : b__law_moved_0 n d env st = (dGc (dSeq (dSet 4 (dOp dSub (dCB dLen (dCons (dOp dIx (dVar 3) (dC (.int 0))) dNil)) (dC (.int 1))))
  (dDrop (dBM dAppend (dVar 2) (dCons (dTup (dCons (dOp dAdd (dSlice (dOp dIx (dVar 3) (dC (.int 0))) dNoPart (dPart (dVar 4))) (dTup (dCons (dOp dAdd (dOp dIx (dOp dIx (dVar 3) (dC (.int 0))) (dVar 4)) (dVar 1)) dNil))) (dCons (dOp dIx (dVar 3) (dC (.int 1))) dNil))) dNil))))) n d env st := rfl
def r__law_moved : DTS :=
  (dSeq (dSet 2 (dLst dNil))
  (dSeq (dFor (dIter (dVar 0)) g__law_moved_0 b__law_moved_0)
  (dRet (dCB dTupleOf (dCons (dVar 2) dNil)))))
def sp__law_moved : DSp := fun ds st Q => ∃ (w : Word) (n : Int), ds = [dW w, .int n] ∧ (∀ r ∈ w, r.1.hs ≠ [] ∧ r.1.hs.length ≤ 1000) ∧ w.length ≤ 1000000 ∧ Q (dW (shw n w)) st
theorem lp__law_moved {d : DEnds} {S : Store} {w : Word} {n : Int} {ok : Store → Prop} (hok : ∀ s, ok s) (wf : Wf S) : ∀ (rest acc : Word) (x y : Option D) (t : Store), (∀ r ∈ rest, r.1.hs ≠ [] ∧ r.1.hs.length ≤ 1000) → acc.length + rest.length ≤ 1000000 →
    (∀ x y t, d.nx [some (dW w), some (.int n), some (.ref S.length), x, y] (S ++ .lst ((acc ++ shw n rest).map dRun) :: t)) →
    dLoop g__law_moved_0 b__law_moved_0 (S.length + 1) d ok (rest.map dRun) [some (dW w), some (.int n), some (.ref S.length), x, y] (S ++ .lst (acc.map dRun) :: t)
  | [], acc, x, y, t, hn, hl, h => ⟨hok _, by
    have := h x y t
    have e : shw n [] = [] := rfl
    rwa [e, List.append_nil] at this⟩
  | (l, e) :: rest, acc, x, y, t, hn, hl, h => by
    have hl' : acc.length + (rest.length + 1) ≤ 1000000 := hl
    have hn1 := hn (l, e) (by simp)
    dsimp only at hn1
    have hu := up_of hn1.1
    generalize dn l = m at hu
    generalize lh l = k at hu
    subst hu
    have ih := fun x y t => lp__law_moved (d := d) (w := w) hok wf rest (acc ++ [(up m (k + n), e)]) x y t (fun r hr => hn r (by simp [hr])) (by rw [List.length_append, List.length_singleton]; omega) (by
      intro x y t
      have := h x y t
      have e1 : shw n ((up m k, e) :: rest) = [(up m (k + n), e)] ++ shw n rest := by
        unfold shw
        rw [List.map_cons, shl_up]
        rfl
      rw [e1, ← List.append_assoc] at this
      exact this)
    clear h
    refine ⟨hok _, ?_⟩
    rw [ug__law_moved_0]
    walk_at "d"
    rw [ub__law_moved_0, List.append_cons]
    refine gc_drop (env0 := [some (dW w), some (.int n), some (.ref S.length), some (dRun (up m k, e)), none]) (by simp) (wf.app (lt_runs _)) ⟨rfl, lt_W, rfl, trivial, rfl, by show S.length < _; simp, rfl, lt_run, trivial⟩ ?_
    have hm := hn1.2
    rw [up_len] at hm
    have e2 : (((up m k).hs.length + 1 : Nat) : Int) - 1 = (m.hs.length : Int) + 1 := by rw [up_len]; omega
    have hsz : acc.length < sizeLine := small_line' (by omega)
    have hsz2 : m.hs.length + 1 + 1 ≤ sizeLine := small_line (by omega)
    walk_at "d"
    simp only [e2]
    walk_at "d"
    exact ⟨by decide, hsz2, by decide, hsz, ih _ _ []⟩
theorem read__law_moved : ∀ ds st Q, Wf st → D.lts st.length ds → sp__law_moved ds st Q → r__law_moved st.length { nx := fun _ st' => Ret st.length Q .non st', rt := Ret st.length Q } (dstart N__law_moved ds) st := by
  intro ds st Q wf wl h
  obtain ⟨w, n, rfl, hn, hl, q⟩ := h
  unfold r__law_moved N__law_moved
  walk_at "d"
  refine ⟨Nat.zero_le _, ?_⟩
  rw [show (st ++ [O.lst []]).length = st.length + 1 by simp]
  refine lp__law_moved (S := st) (fun _ => trivial) wf w [] none none [] hn (by simpa using hl) fun x y t => ?_
  walk_at "p"
  exact ret_app rfl wf lt_W q

theorem len__law_moved : ∀ ds s Q, sp__law_moved ds s Q → ds.length = 2 := by
  intro ds s Q h
  unfold sp__law_moved at h
  repeat (obtain ⟨_, h⟩ := h)
  subst_vars
  rfl
/-! power -/
abbrev N_power : List Str := ["word", "exponent", "letter", "count", "base"]

def r_power : DTS :=
  (dSeq (dIfS (dOr (dB (dOp dEq (dVar 0) (dTup dNil))) (dB (dOp dEq (dVar 1) (dC (.int 0))))) (dRet (dTup dNil)) dNext)
  (dSeq (dIfS (dB (dOp dEq (dCB dLen (dCons (dVar 0) dNil)) (dC (.int 1)))) (dSeq (dAsg (dOp dIx (dVar 0) (dC (.int 0))) (dgTup 2 (dgCons (dgName 2) (dgCons (dgName 3) dgNil))))
  (dRet (dTup (dCons (dTup (dCons (dVar 2) (dCons (dOp dMul (dVar 3) (dVar 1)) dNil))) dNil)))) dNext)
  (dSeq (dSet 4 (dIf (dB (dOp dGt (dVar 1) (dC (.int 0)))) (dVar 0) (dCall sp_inverse (dCons (dVar 0) dNil))))
  (dRet (dCall sp_reduced (dCons (dOp dMulT (dVar 4) (dCB dAbs (dCons (dVar 1) dNil))) dNil))))))
def sp_power : DSp := fun ds st Q => ∃ (w : Word) (e : Int), ds = [dW w, .int e] ∧ Red w ∧ -(2 ^ 64) < e ∧ e < 2 ^ 64 ∧ (w.length ≤ 1 ∨ (e.natAbs ≤ 1000 ∧ w.length ≤ 1000)) ∧ Q (dW (pw w e)) st
theorem len_power : ∀ ds s Q, sp_power ds s Q → ds.length = 2 := by
  intro ds s Q ⟨u, v, e, _⟩
  subst e
  rfl
theorem read_power : ∀ ds st Q, Wf st → D.lts st.length ds → sp_power ds st Q → r_power st.length { nx := fun _ st' => Ret st.length Q .non st', rt := Ret st.length Q } (dstart N_power ds) st := by
  intro ds st Q wf wl h
  obtain ⟨w, e, rfl, hr, he0, he1, hl, q⟩ := h
  have fin : ∀ v, v = pw w e → Ret st.length Q (dW v) st := fun v hv => by
    subst hv
    exact ret_eq rfl wf lt_W q
  clear q wl
  unfold r_power N_power
  rcases w with _ | ⟨⟨l, c⟩, _ | ⟨r2, w⟩⟩
  · walk_at "d"
    refine ⟨Nat.zero_le _, ?_⟩
    exact ⟨Nat.zero_le _, fin [] (pw_nil e).symm⟩
  · have i0 : dItem st (dW [(l, c)]) 0 = some (dRun (l, c)) := item_WN (n := 0) rfl
    walk_at "d"
    refine ⟨Nat.zero_le _, ?_⟩
    by_cases he : e = 0
    · subst he
      simp only [reduceCtorEq, if_false, if_true]
      exact ⟨Nat.zero_le _, fin [] rfl⟩
    · simp only [reduceCtorEq, if_false, he, i0]
      walk_at "d"
      rw [if_pos (by omega)]
      exact ⟨CMulA.right he0 he1, by decide, by decide, fin _ (pw_single hr.1 he).symm⟩
  · have nn : ¬ (((w.length + 1 + 1 : Nat) : Int) = 1) := by omega
    have hl' : e.natAbs ≤ 1000 ∧ w.length + 1 + 1 ≤ 1000 := by
      rcases hl with h | h
      · simp at h
      · exact h
    walk_at "d"
    refine ⟨Nat.zero_le _, ?_⟩
    by_cases he : e = 0
    · subst he
      simp only [reduceCtorEq, if_false, if_true]
      exact ⟨Nat.zero_le _, fin [] rfl⟩
    · simp only [reduceCtorEq, if_false, he]
      rw [if_neg nn]
      generalize ew : ((l, c) :: r2 :: w : Word) = v at *
      have hv : v.length = w.length + 1 + 1 := by rw [← ew]; rfl
      have hne : v ≠ [] := by rw [← ew]; simp
      split
      · rename_i hp
        have e1 : (if e < 0 then -e else e) = e := if_neg (by omega)
        rw [e1]
        refine ⟨by omega, by omega, by omega, _, _, rfl, rfl, ?_, ?_⟩
        · show (rep _ v).length ≤ _
          rw [len_rep]
          exact Nat.le_trans (Nat.mul_le_mul (show _ ≤ 1000 by omega) (show _ ≤ 1000 by omega)) (by decide)
        · refine fin _ ?_
          unfold pw
          rw [if_pos hp, show e.toNat = e.natAbs by omega]
          rfl
      · rename_i hp
        refine ⟨v, rfl, by omega, ?_⟩
        have e1 : (if e < 0 then -e else e) = -e := if_pos (by omega)
        walk_at "d"
        rw [e1]
        refine ⟨?_, by omega, by omega, by rw [len_inv]; omega, _, _, rfl, rfl, ?_, ?_⟩
        · intro h0
          have := congrArg List.length h0
          rw [len_inv, hv] at this
          simp at this
        · show (rep _ (inv v)).length ≤ _
          rw [len_rep, len_inv]
          exact Nat.le_trans (Nat.mul_le_mul (show _ ≤ 1000 by omega) (show _ ≤ 1000 by omega)) (by decide)
        · refine fin _ ?_
          unfold pw
          rw [if_neg hp, show (-e).toNat = e.natAbs by omega]
          rfl

/-! shifted -/
abbrev N_shifted : List Str := ["word", "by", "letter", "exponent"]

def r_shifted : DTS :=
  (dRet (dCB dTupleOf (dCons (dLc (dIter (dVar 0)) (dgTup 2 (dgCons (dgName 2) (dgCons (dgName 3) dgNil))) dYes (dTup (dCons (dCall sp_raised (dCons (dCall sp_lowered (dCons (dVar 2) dNil)) (dCons (dOp dAdd (dCall sp_last_height (dCons (dVar 2) dNil)) (dVar 1)) dNil))) (dCons (dVar 3) dNil))) [2, 3]) dNil)))
def sp_shifted : DSp := fun ds st Q => ∃ (w : Word) (n : Int), ds = [dW w, .int n] ∧ (∀ r ∈ w, r.1.hs ≠ [] ∧ r.1.hs.length ≤ 1000) ∧ w.length ≤ 1000000 ∧ Q (dW (shw n w)) st
theorem lp_shifted {st : Store} {ok fin : Store → Prop} {n : Int} {x : Option D} (hok : ∀ s, ok s) : ∀ (ps acc : Word), (∀ r ∈ ps, r.1.hs ≠ [] ∧ r.1.hs.length ≤ 1000) → acc.length + ps.length ≤ 1000000 → fin (st ++ [.lst ((acc ++ shw n ps).map dRun)]) →
    dLcL (dgTup 2 (dgCons (dgName 2) (dgCons (dgName 3) dgNil))) dYes (dTup (dCons (dCall sp_raised (dCons (dCall sp_lowered (dCons (dVar 2) dNil)) (dCons (dOp dAdd (dCall sp_last_height (dCons (dVar 2) dNil)) (dVar 1)) dNil))) (dCons (dVar 3) dNil))) ok [x, some (.int n), none, none] st.length fin (ps.map dRun) (st ++ [.lst (acc.map dRun)])
  | [], acc, hn, hl, h => ⟨hok _, by
    have : shw n [] = [] := rfl
    rwa [this, List.append_nil] at h⟩
  | (l, e) :: ps, acc, hn, hl, h => by
    have hl' : acc.length + (ps.length + 1) ≤ 1000000 := hl
    have hn1 := hn (l, e) (by simp)
    dsimp only at hn1
    have hu := up_of hn1.1
    generalize dn l = m at hu
    generalize lh l = k at hu
    subst hu
    refine ⟨hok _, ?_⟩
    walk_at "d"
    refine ⟨m, k, rfl, m, k, rfl, ?_⟩
    walk_at "d"
    refine ⟨m, k + n, rfl, by have := hn1.2; rw [up_len] at this; omega, ?_⟩
    walk_at "d"
    refine ⟨by decide, small_line' (by omega), lp_shifted hok ps _ (fun r hr => hn r (by simp [hr])) (by simp; omega) ?_⟩
    rw [List.append_assoc]
    have e1 : shw n ((up m k, e) :: ps) = [(up m (k + n), e)] ++ shw n ps := by
      unfold shw
      rw [List.map_cons, shl_up]
      rfl
    rw [← e1]
    exact h
theorem read_shifted : ∀ ds st Q, Wf st → D.lts st.length ds → sp_shifted ds st Q → r_shifted st.length { nx := fun _ st' => Ret st.length Q .non st', rt := Ret st.length Q } (dstart N_shifted ds) st := by
  intro ds st Q wf wl h
  obtain ⟨w, n, rfl, hn, hl, q⟩ := h
  unfold r_shifted N_shifted
  walk_at "d"
  refine lp_shifted (st := st) (fun _ => trivial) w [] hn (by simpa using hl) ?_
  walk_at "d"
  exact ret_app rfl wf lt_W q

theorem len_shifted : ∀ ds s Q, sp_shifted ds s Q → ds.length = 2 := by
  intro ds s Q h
  unfold sp_shifted at h
  repeat (obtain ⟨_, h⟩ := h)
  subst_vars
  rfl
/-! _law_is_letter -/
abbrev N__law_is_letter : List Str := ["value", "item"]
def g__law_is_letter_0 : DTG := (dgName 1)
def b__law_is_letter_0 : DTS :=
  (dIfS (dNot (dTruth (dCall sp__law_is_whole (dCons (dVar 1) dNil)))) (dRet (dC (.bl false))) dNext)
theorem ug__law_is_letter_0 {x env st Q} : g__law_is_letter_0 x env st Q = (dgName 1) x env st Q := rfl
theorem ub__law_is_letter_0 {n d env st} : b__law_is_letter_0 n d env st = (dIfS (dNot (dTruth (dCall sp__law_is_whole (dCons (dVar 1) dNil)))) (dRet (dC (.bl false))) dNext) n d env st := rfl
def r__law_is_letter : DTS :=
  (dSeq (dIfS (dOr (dNot (dTruth (dCB dIsi (dCons (dVar 0) (dCons (dC (.ty "tuple")) dNil))))) (dOr (dB (dOp dEq (dCB dLen (dCons (dVar 0) dNil)) (dC (.int 0)))) (dNot (dTruth (dCB dIsi (dCons (dOp dIx (dVar 0) (dC (.int 0))) (dCons (dC (.ty "str")) dNil))))))) (dRet (dC (.bl false))) dNext)
  (dSeq (dFor (dIter (dSlice (dVar 0) (dPart (dC (.int 1))) dNoPart)) g__law_is_letter_0 b__law_is_letter_0)
  (dRet (dC (.bl true)))))
def sp__law_is_letter : DSp := fun ds st Q => ∃ (l : Letter), ds = [dL l] ∧ Q (.bl true) st
theorem lp__law_is_letter {m : Nat} {d : DEnds} {x : D} {st : Store} {ok : Store → Prop} (hok : ok st) : ∀ (hs : List Int) (a : Option D), (∀ a, d.nx [some x, a] st) →
    dLoop g__law_is_letter_0 b__law_is_letter_0 m d ok (hs.map D.int) [some x, a] st
  | [], a, h => ⟨hok, h _⟩
  | i :: hs, a, h => by
    refine ⟨hok, ?_⟩
    rw [ug__law_is_letter_0]
    walk_at "d"
    rw [ub__law_is_letter_0]
    walk_at "d"
    refine ⟨i, rfl, ?_⟩
    walk_at "d"
    exact lp__law_is_letter hok hs _ h
theorem read__law_is_letter : ∀ ds st Q, Wf st → D.lts st.length ds → sp__law_is_letter ds st Q → r__law_is_letter st.length { nx := fun _ st' => Ret st.length Q .non st', rt := Ret st.length Q } (dstart N__law_is_letter ds) st := by
  intro ds st Q wf wl h
  obtain ⟨⟨n, hs⟩, rfl, q⟩ := h
  unfold r__law_is_letter N__law_is_letter
  unfold dL
  have e : ¬ (((hs.length + 1 : Nat) : Int) = 0) := by omega
  walk_at "d"
  rw [if_neg e]
  refine lp__law_is_letter trivial hs _ fun a => ?_
  walk_at "d"
  exact ret_eq rfl wf trivial q

theorem len__law_is_letter : ∀ ds s Q, sp__law_is_letter ds s Q → ds.length = 1 := by
  intro ds s Q h
  unfold sp__law_is_letter at h
  repeat (obtain ⟨_, h⟩ := h)
  subst_vars
  rfl
/-! _law_depth -/
abbrev N__law_depth : List Str := ["pool", "least"]

def r__law_depth : DTS :=
  (dRet (dCB dMax (dCons (dVar 1) (dCons (dOp dIx (dLst (dCons (dC (.int 0)) (dCons (dC (.int 0)) (dCons (dC (.int 0)) (dCons (dC (.int 0)) (dCons (dC (.int 1)) (dCons (dC (.int 1)) (dCons (dC (.int 2)) (dCons (dC (.int 3)) (dCons (dC (.int 4)) dNil)))))))))) (dCall sp__law_draw (dCons (dVar 0) (dCons (dC (.int 9)) dNil)))) dNil))))
def sp__law_depth : DSp := fun ds st Q => ∃ (k : Nat) (m : Int) (p : Pool), ds = [.ref k, .int m] ∧ st[k]? = some p.1 ∧ 0 ≤ m ∧ m ≤ 4 ∧ ∀ (dep : Nat) (p' : Pool), dep ≤ 4 → m ≤ dep → Q (.int dep) (st.set k p'.1)
theorem read__law_depth : ∀ ds st Q, Wf st → D.lts st.length ds → sp__law_depth ds st Q → r__law_depth st.length { nx := fun _ st' => Ret st.length Q .non st', rt := Ret st.length Q } (dstart N__law_depth ds) st := by
  intro ds st Q wf wl h
  obtain ⟨k, m, p, rfl, hp, h0, h1, q⟩ := h
  have hk := lt_of_get hp
  have dr := @draw_eq
  unfold r__law_depth N__law_depth
  walk_at "p"
  refine ⟨by decide, by decide, by decide, fun v p1 h2 h3 => ?_⟩
  obtain ⟨z, hz, e⟩ := at_map (f := D.int) (xs := [0, 0, 0, 0, 1, 1, 2, 3, 4]) h2 h3
  simp only [List.map_cons, List.map_nil] at e
  simp only [e]
  obtain ⟨dep, rfl, hdep⟩ : ∃ dep : Nat, z = dep ∧ dep ≤ 4 := by
    simp at hz
    exact ⟨z.toNat, by omega, by omega⟩
  walk_at "d"
  have key : ∀ n : Nat, n ≤ 4 → m ≤ n → Ret st.length Q (.int n) (st.set k p1.1 ++ [O.lst [D.int 0, D.int 0, D.int 0, D.int 0, D.int 1, D.int 1, D.int 2, D.int 3, D.int 4]]) := fun n a b => ret_app (by rw [List.length_set]) (wf.set p1.lt) trivial (q n p1 a b)
  split
  · exact key dep hdep (by omega)
  · have := key m.toNat (by omega) (by omega)
    rwa [Int.toNat_of_nonneg h0] at this

theorem len__law_depth : ∀ ds s Q, sp__law_depth ds s Q → ds.length = 2 := by
  intro ds s Q h
  unfold sp__law_depth at h
  repeat (obtain ⟨_, h⟩ := h)
  subst_vars
  rfl
/-! _law_alphabet -/
abbrev N__law_alphabet : List Str := ["pool", "most", "depth", "names", "far", "near", "rows", "k", "row", "j", "height", "place"]
def g__law_alphabet_1 : DTG := (dgName 9)
def b__law_alphabet_1 : DTS :=
  (dGc (dSeq (dSet 10 (dOp dIx (dLst (dCons (dOp dSub (dC (.int 0)) (dC (.int 2))) (dCons (dOp dSub (dC (.int 0)) (dC (.int 1))) (dCons (dC (.int 0)) (dCons (dC (.int 2)) (dCons (dC (.int 10)) dNil)))))) (dCall sp__law_draw (dCons (dVar 0) (dCons (dC (.int 5)) dNil)))))
  (dSeq (dIfS (dB (dOp dEq (dVar 4) (dC (.int 1)))) (dSet 10 (dOp dSub (dCall sp__law_draw (dCons (dVar 0) (dCons (dC (.int 1999999999)) dNil))) (dC (.int 999999999)))) dNext)
  (dDrop (dBM dAppend (dVar 8) (dCons (dVar 10) dNil))))))
theorem ug__law_alphabet_1 {x env st Q} : g__law_alphabet_1 x env st Q = (dgName 9) x env st Q := rfl
theorem ub__law_alphabet_1 {n d env st} : b__law_alphabet_1 n d env st = (dGc (dSeq (dSet 10 (dOp dIx (dLst (dCons (dOp dSub (dC (.int 0)) (dC (.int 2))) (dCons (dOp dSub (dC (.int 0)) (dC (.int 1))) (dCons (dC (.int 0)) (dCons (dC (.int 2)) (dCons (dC (.int 10)) dNil)))))) (dCall sp__law_draw (dCons (dVar 0) (dCons (dC (.int 5)) dNil)))))
  (dSeq (dIfS (dB (dOp dEq (dVar 4) (dC (.int 1)))) (dSet 10 (dOp dSub (dCall sp__law_draw (dCons (dVar 0) (dCons (dC (.int 1999999999)) dNil))) (dC (.int 999999999)))) dNext)
  (dDrop (dBM dAppend (dVar 8) (dCons (dVar 10) dNil)))))) n d env st := rfl
def g__law_alphabet_0 : DTG := (dgName 7)
def b__law_alphabet_0 : DTS :=
  (dGc (dSeq (dSet 8 (dLst (dCons (dOp dIx (dVar 3) (dCall sp__law_draw (dCons (dVar 0) (dCons (dC (.int 26)) dNil)))) dNil)))
  (dSeq (dFor (dRng1 (dCons (dVar 2) dNil)) g__law_alphabet_1 b__law_alphabet_1)
  (dSeq (dIfS (dAnd (dB (dOp dEq (dVar 5) (dC (.int 1)))) (dB (dOp dGt (dCB dLen (dCons (dVar 6) dNil)) (dC (.int 0))))) (dSeq (dSet 11 (dCall sp__law_draw (dCons (dVar 0) (dCons (dOp dAdd (dVar 2) (dC (.int 1))) dNil))))
  (dSet 8 (dOp dAdd (dOp dAdd (dCB dListOf (dCons (dSlice (dOp dIx (dVar 6) (dC (.int 0))) dNoPart (dPart (dVar 11))) dNil)) (dLst (dCons (dOp dIx (dVar 8) (dVar 11)) dNil))) (dCB dListOf (dCons (dSlice (dOp dIx (dVar 6) (dC (.int 0))) (dPart (dOp dAdd (dVar 11) (dC (.int 1)))) dNoPart) dNil))))) dNext)
  (dIfS (dB (dOp dNotIn (dCB dTupleOf (dCons (dVar 8) dNil)) (dVar 6))) (dDrop (dBM dAppend (dVar 6) (dCons (dCB dTupleOf (dCons (dVar 8) dNil)) dNil))) dNext)))))
theorem ug__law_alphabet_0 {x env st Q} : g__law_alphabet_0 x env st Q = (dgName 7) x env st Q := rfl
theorem ub__law_alphabet_0 {n d env st} : b__law_alphabet_0 n d env st = (dGc (dSeq (dSet 8 (dLst (dCons (dOp dIx (dVar 3) (dCall sp__law_draw (dCons (dVar 0) (dCons (dC (.int 26)) dNil)))) dNil)))
  (dSeq (dFor (dRng1 (dCons (dVar 2) dNil)) g__law_alphabet_1 b__law_alphabet_1)
  (dSeq (dIfS (dAnd (dB (dOp dEq (dVar 5) (dC (.int 1)))) (dB (dOp dGt (dCB dLen (dCons (dVar 6) dNil)) (dC (.int 0))))) (dSeq (dSet 11 (dCall sp__law_draw (dCons (dVar 0) (dCons (dOp dAdd (dVar 2) (dC (.int 1))) dNil))))
  (dSet 8 (dOp dAdd (dOp dAdd (dCB dListOf (dCons (dSlice (dOp dIx (dVar 6) (dC (.int 0))) dNoPart (dPart (dVar 11))) dNil)) (dLst (dCons (dOp dIx (dVar 8) (dVar 11)) dNil))) (dCB dListOf (dCons (dSlice (dOp dIx (dVar 6) (dC (.int 0))) (dPart (dOp dAdd (dVar 11) (dC (.int 1)))) dNoPart) dNil))))) dNext)
  (dIfS (dB (dOp dNotIn (dCB dTupleOf (dCons (dVar 8) dNil)) (dVar 6))) (dDrop (dBM dAppend (dVar 6) (dCons (dCB dTupleOf (dCons (dVar 8) dNil)) dNil))) dNext))))) n d env st := rfl
def r__law_alphabet : DTS :=
  (dSeq (dSet 3 (dC (.str (Str.ofString "abcdefghijklmnopqrstuvwxyz"))))
  (dSeq (dSet 4 (dCall sp__law_draw (dCons (dVar 0) (dCons (dC (.int 3)) dNil))))
  (dSeq (dSet 5 (dCall sp__law_draw (dCons (dVar 0) (dCons (dC (.int 2)) dNil))))
  (dSeq (dSet 6 (dLst dNil))
  (dSeq (dFor (dRng1 (dCons (dOp dAdd (dC (.int 1)) (dCall sp__law_draw (dCons (dVar 0) (dCons (dVar 1) dNil)))) dNil)) g__law_alphabet_0 b__law_alphabet_0)
  (dRet (dVar 6)))))))
def Lok (dep : Nat) (l : Letter) : Prop := l.hs.length = dep ∧ 97 ≤ l.nm.val ∧ l.nm.val ≤ 122 ∧ ∀ h ∈ l.hs, -(10 ^ 9) < h ∧ h < 10 ^ 9
def Alpha (ls : List Letter) : Prop := ls.Nodup ∧ ∃ dep, dep ≤ 4 ∧ ∀ l ∈ ls, Lok dep l
def sp__law_alphabet : DSp := fun ds st Q => ∃ (k : Nat) (m : Int) (dep : Nat) (p : Pool), ds = [.ref k, .int m, .int dep] ∧ st[k]? = some p.1 ∧ 0 < m ∧ m ≤ 1000 ∧ dep ≤ 4 ∧ ∀ (ls : List Letter) (p' : Pool), ls ≠ [] → ls.length ≤ m.toNat → ls.Nodup → (∀ l ∈ ls, Lok dep l) → Q (.ref st.length) (st.set k p'.1 ++ [.lst (ls.map dL)])
theorem names_at {st : Store} {v : Int} (h0 : 0 ≤ v) (h1 : v < 26) : ∃ c : Fin 128, 97 ≤ c.val ∧ c.val ≤ 122 ∧ dItem st (.str (Str.ofString "abcdefghijklmnopqrstuvwxyz")) v = some (.str ⟨#[c.val]⟩) := by
  obtain ⟨n, rfl⟩ : ∃ n : Nat, v = n := ⟨v.toNat, by omega⟩
  have h : n < 26 := by omega
  refine ⟨⟨97 + n, by omega⟩, by show 97 ≤ 97 + n; omega, by show 97 + n ≤ 122; omega, ?_⟩
  have hs : (Str.ofString "abcdefghijklmnopqrstuvwxyz").length ≤ sizeLine := by decide
  show (if (Str.ofString "abcdefghijklmnopqrstuvwxyz").length ≤ sizeLine then (atI (Str.ofString "abcdefghijklmnopqrstuvwxyz").cps.toList (n : Int)).map fun c => D.str ⟨#[c]⟩ else none) = _
  rw [if_pos hs]
  have key : ∀ n : Fin 26, (Str.ofString "abcdefghijklmnopqrstuvwxyz").cps.toList[n.val]? = some (97 + n.val) := by decide
  have hl : (Str.ofString "abcdefghijklmnopqrstuvwxyz").cps.toList.length = 26 := by decide
  rw [atI_nn (by omega) (by rw [hl]; omega), Int.toNat_natCast, key ⟨n, h⟩]
  rfl
/-- the row of heights -/
theorem lp1__law_alphabet {S : Store} {k : Nat} {m far near K : Int} {nmz : D} {dep : Nat} {c : Fin 128} {ls : List Letter} {d : DEnds} (hk : k < S.length) (wf : Wf S) (hpl : nmz.lt (S.length + 2))
    (h : ∀ (hs : List Int) (p : Pool) (x : Option D) (y : Option D) (l : Store), (∀ h ∈ hs, -(10 ^ 9) < h ∧ h < 10 ^ 9) → hs.length = dep → l.length ≤ 1 →
      d.nx [some (.ref k), some (.int m), some (.int dep), some nmz, some (.int far), some (.int near), some (.ref S.length), some (.int K), some (.ref (S.length + 1)), x, y, none] (S.set k p.1 ++ .lst (ls.map dL) :: .lst (.str ⟨#[c.val]⟩ :: hs.map D.int) :: l)) :
    ∀ (n : Nat) (i : Int) (hs : List Int) (p : Pool) (x y : Option D) (l : Store), hs.length + n = dep → dep ≤ 4 → (∀ h ∈ hs, -(10 ^ 9) < h ∧ h < 10 ^ 9) → l.length ≤ 1 →
      dLoop g__law_alphabet_1 b__law_alphabet_1 (S.length + 2) d (fun _ => True) (rangeD i n) [some (.ref k), some (.int m), some (.int dep), some nmz, some (.int far), some (.int near), some (.ref S.length), some (.int K), some (.ref (S.length + 1)), x, y, none] (S.set k p.1 ++ .lst (ls.map dL) :: .lst (.str ⟨#[c.val]⟩ :: hs.map D.int) :: l)
  | 0, i, hs, p, x, y, l, hn, hd, hb, hl => ⟨trivial, h hs p x y l hb hn hl⟩
  | n + 1, i, hs, p, x, y, l, hn, hd, hb, hl => by
    have ih := fun hs p x y l => lp1__law_alphabet (m := m) (far := far) (near := near) (K := K) hk wf hpl h n (i + 1) hs p x y l
    clear h
    refine ⟨trivial, ?_⟩
    rw [ug__law_alphabet_1]
    walk_at "d"
    rw [ub__law_alphabet_1]
    have dr := @draw_eq
    have e1 : ∀ p : Pool, S.set k p.1 ++ .lst (ls.map dL) :: .lst (.str ⟨#[c.val]⟩ :: hs.map D.int) :: l = (S.set k p.1 ++ [.lst (ls.map dL), .lst (.str ⟨#[c.val]⟩ :: hs.map D.int)]) ++ l := fun p => by simp
    rw [e1]
    refine gc_drop (env0 := [some (.ref k), some (.int m), some (.int dep), some nmz, some (.int far), some (.int near), some (.ref S.length), some (.int K), some (.ref (S.length + 1)), some (.int i), none, none]) (by simp) ?_ ?_ ?_
    · refine (wf.set p.lt).apps ?_
      intro o ho
      simp only [List.mem_cons, List.not_mem_nil, or_false] at ho
      rw [List.length_set]
      rcases ho with rfl | rfl
      · exact lt_Ls ls
      · exact ⟨trivial, lt_ints hs⟩
    · have hpl' : nmz.lt (S.length + 2) := hpl
      simp [EnvOk, D.lt, hpl']
      omega
    clear e1
    have fin : ∀ (v : Int) (p : Pool) (y : Option D) (l : Store), -(10 ^ 9) < v → v < 10 ^ 9 → l.length ≤ 1 → hs.length + 1 < sizeLine ∧
      dLoop g__law_alphabet_1 b__law_alphabet_1 (S.length + 2) d (fun _ => True) (rangeD (i + 1) n) [some (.ref k), some (.int m), some (.int dep), some nmz, some (.int far), some (.int near), some (.ref S.length), some (.int K), some (.ref (S.length + 1)), some (.int i), y, none] (S.set k p.1 ++ .lst (ls.map dL) :: .lst (.str ⟨#[c.val]⟩ :: (hs ++ [v]).map D.int) :: l) := fun v p y l h1 h2 h3 =>
        ⟨small_line' (by omega), ih _ p _ y l (by rw [List.length_append, List.length_singleton]; omega) hd (fun x hx => by
          rcases List.mem_append.mp hx with hx | hx
          · exact hb x hx
          · rw [List.mem_singleton] at hx; subst hx; exact ⟨h1, h2⟩) h3⟩
    clear ih
    walk_at "p"
    refine ⟨by decide, by decide, by decide, fun v p1 h0 h1 => ?_⟩
    obtain ⟨z, hz, e⟩ := at_map (f := D.int) (xs := [0 - 2, 0 - 1, 0, 2, 10]) h0 h1
    simp only [List.map_cons, List.map_nil] at e
    simp only [e]
    have hz' : -(10 ^ 9) < z ∧ z < 10 ^ 9 := by
      simp at hz
      omega
    have e9 : (1999999999 : Int) ≤ 10 ^ 30 := by decide
    split
    · refine ⟨by decide, e9, fun v p2 h2 h3 => ?_⟩
      exact fin (v - 999999999) p2 _ _ (by omega) (by omega) (by exact Nat.le_refl 1)
    · rw [w_snoc]
      exact fin z p1 _ _ hz'.1 hz'.2 (by exact Nat.le_refl 1)
def lc (l : Letter) : List D := .str ⟨#[l.nm.val]⟩ :: l.hs.map D.int
theorem mix {dep : Nat} {l0 l1 : Letter} {j : Int} (h0 : 0 ≤ j) (h1 : j < dep + 1) (k0 : Lok dep l0) (k1 : Lok dep l1) : ∃ l2 y, Lok dep l2 ∧ atI (lc l1) j = some y ∧ (lc l0).take j.toNat ++ y :: (lc l0).drop (j + 1).toNat = lc l2 := by
  obtain ⟨n0, hs0⟩ := l0
  obtain ⟨n1, hs1⟩ := l1
  obtain ⟨a1, a2, a3, a4⟩ := k0
  obtain ⟨b1, b2, b3, b4⟩ := k1
  dsimp only at a1 a2 a3 a4 b1 b2 b3 b4
  obtain ⟨n, rfl⟩ : ∃ n : Nat, j = n := ⟨j.toNat, by omega⟩
  have hn : n < dep + 1 := by omega
  have e0 : atI (lc ⟨n1, hs1⟩) (n : Int) = (lc ⟨n1, hs1⟩)[n]? := by
    rw [atI_nn h0 (by unfold lc; rw [List.length_cons, List.length_map, b1]; omega), Int.toNat_natCast]
  rw [e0, Int.toNat_natCast, show ((n : Int) + 1).toNat = n + 1 by omega]
  cases n with
  | zero => exact ⟨⟨n1, hs0⟩, _, ⟨a1, b2, b3, a4⟩, rfl, rfl⟩
  | succ n =>
    have hn0 : n < hs0.length := by omega
    have hn1 : n < hs1.length := by omega
    refine ⟨⟨n0, hs0.set n hs1[n]⟩, .int hs1[n], ⟨by rw [List.length_set]; exact a1, a2, a3, fun h hh => ?_⟩, ?_, ?_⟩
    · rcases List.mem_or_eq_of_mem_set hh with hh | rfl
      · exact a4 h hh
      · exact b4 _ (List.getElem_mem hn1)
    · unfold lc
      rw [List.getElem?_cons_succ, List.getElem?_map, List.getElem?_eq_getElem hn1]
      rfl
    · unfold lc
      rw [List.take_succ_cons, List.drop_succ_cons, ← List.map_take, ← List.map_drop, List.set_eq_take_append_cons_drop, if_pos hn0, List.map_append, List.map_cons, List.cons_append]
theorem lp0__law_alphabet {S : Store} {k : Nat} {m far near : Int} {dep : Nat} {d : DEnds} (hk : k < S.length) (wf : Wf S) (hd : dep ≤ 4) (hm : m ≤ 1000)
    (h : ∀ (ls : List Letter) (p : Pool) (a b c d' e : Option D) (l : Store), ls.length ≤ m.toNat → ls ≠ [] → ls.Nodup → (∀ l ∈ ls, Lok dep l) →
      d.nx [some (.ref k), some (.int m), some (.int dep), some (.str (Str.ofString "abcdefghijklmnopqrstuvwxyz")), some (.int far), some (.int near), some (.ref S.length), a, b, c, d', e] (S.set k p.1 ++ .lst (ls.map dL) :: l)) :
    ∀ (n : Nat) (i : Int) (ls : List Letter) (p : Pool) (a b c d' e : Option D) (l : Store), ls.length + n ≤ m.toNat → (n = 0 → ls ≠ []) → ls.Nodup → (∀ l ∈ ls, Lok dep l) →
      dLoop g__law_alphabet_0 b__law_alphabet_0 (S.length + 1) d (fun _ => True) (rangeD i n) [some (.ref k), some (.int m), some (.int dep), some (.str (Str.ofString "abcdefghijklmnopqrstuvwxyz")), some (.int far), some (.int near), some (.ref S.length), a, b, c, d', e] (S.set k p.1 ++ .lst (ls.map dL) :: l)
  | 0, i, ls, p, a, b, c, d', e, l, hn, h0, hN, hL => ⟨trivial, h ls p a b c d' e l hn (h0 rfl) hN hL⟩
  | n + 1, i, ls, p, a, b, c, d', e, l, hn, h0, hN, hL => by
    have ih := fun ls p a b c d' e l => lp0__law_alphabet (far := far) (near := near) hk wf hd hm h n (i + 1) ls p a b c d' e l
    clear h
    refine ⟨trivial, ?_⟩
    rw [ug__law_alphabet_0]
    walk_at "d"
    rw [ub__law_alphabet_0]
    have dr := @draw_eq
    have e1 : ∀ p : Pool, S.set k p.1 ++ .lst (ls.map dL) :: l = (S.set k p.1 ++ [.lst (ls.map dL)]) ++ l := fun p => by simp
    rw [e1]
    refine gc_drop (env0 := [some (.ref k), some (.int m), some (.int dep), some (.str (Str.ofString "abcdefghijklmnopqrstuvwxyz")), some (.int far), some (.int near), some (.ref S.length), some (.int i), none, none, none, none]) (by simp) ?_ ?_ ?_
    · refine (wf.set p.lt).apps ?_
      intro o ho
      simp only [List.mem_cons, List.not_mem_nil, or_false] at ho
      rw [List.length_set]
      subst ho
      exact lt_Ls ls
    · simp [EnvOk, D.lt]
      omega
    clear e1
    have fin : ∀ (x : Letter) (p : Pool) (a b c d' : Option D) (l : Store), Lok dep x → if ¬ x ∈ ls then ls.length < sizeLine ∧ dLoop g__law_alphabet_0 b__law_alphabet_0 (S.length + 1) d (fun _ => True) (rangeD (i + 1) n) [some (.ref k), some (.int m), some (.int dep), some (.str (Str.ofString "abcdefghijklmnopqrstuvwxyz")), some (.int far), some (.int near), some (.ref S.length), some (.int i), a, b, c, d'] (S.set k p.1 ++ .lst ((ls ++ [x]).map dL) :: l)
      else dLoop g__law_alphabet_0 b__law_alphabet_0 (S.length + 1) d (fun _ => True) (rangeD (i + 1) n) [some (.ref k), some (.int m), some (.int dep), some (.str (Str.ofString "abcdefghijklmnopqrstuvwxyz")), some (.int far), some (.int near), some (.ref S.length), some (.int i), a, b, c, d'] (S.set k p.1 ++ .lst (ls.map dL) :: l) := by
      intro x p a b c d' l hx
      split
      · rename_i hm1
        refine ⟨small_line' (by omega), ih _ _ _ _ _ _ _ _ (by rw [List.length_append, List.length_singleton]; omega) (fun _ => by simp) ?_ ?_⟩
        · rw [List.nodup_append]
          refine ⟨hN, by simp, fun a ha b hb => ?_⟩
          rw [List.mem_singleton] at hb
          subst hb
          rintro rfl
          exact hm1 ha
        · intro y hy
          rcases List.mem_append.mp hy with hy | hy
          · exact hL y hy
          · rw [List.mem_singleton] at hy; subst hy; exact hx
      · rename_i hm1
        refine ih _ _ _ _ _ _ _ _ (by omega) (fun _ he => ?_) hN hL
        subst he
        exact hm1 (by simp)
    clear ih
    have hmem : ∀ (p : Pool) l x, dMem (S.set k p.1 ++ .lst (ls.map dL) :: l) (dL x) (.ref S.length) = some (decide (x ∈ ls)) := fun p l x => mem_L p_gets0
    walk_at "p"
    refine ⟨by decide, by decide, fun v p1 h1 h2 => ?_⟩
    obtain ⟨c, hc1, hc2, hc⟩ := names_at (st := S.set k p1.1 ++ [.lst (ls.map dL)]) h1 h2
    simp only [hc]
    refine ⟨by decide, ⟨by omega, by omega⟩, ?_⟩
    refine lp1__law_alphabet (c := c) (nmz := .str (Str.ofString "abcdefghijklmnopqrstuvwxyz")) hk wf trivial ?_ _ 0 [] p1 _ _ [] (by simp) hd (by simp) (by simp)
    intro hs p2 x y l hb hlen hl
    have hx : Lok dep ⟨c, hs⟩ := ⟨hlen, hc1, hc2, hb⟩
    have e2 : (.str ⟨#[c.val]⟩ :: hs.map D.int : List D) = lc ⟨c, hs⟩ := rfl
    rw [e2]
    have e3 : ∀ x, D.tup (lc x) = dL x := fun _ => rfl
    have e4 : ∀ x lo hi st Q, dSl (dL x) lo hi st Q = Q (.tup (cutD (lc x) lo hi)) st := fun _ _ _ _ _ => rfl
    have e5 : ∀ x st Q, dTupleOf [dL x] st Q = Q (dL x) st := fun _ _ _ => rfl
    generalize Letter.mk c hs = x1 at hx
    clear e2 hb hlen
    by_cases hnr : near = 1 ∧ 0 < ls.length
    · obtain ⟨hn1, hl0⟩ := hnr
      subst hn1
      have nn : (0 : Int) < (ls.length : Int) := by omega
      obtain ⟨x0, hm0, e0⟩ := at_map (f := dL) (xs := ls) (v := 0) (by omega) nn
      have hx0 := hL x0 hm0
      have b3 : (1001 : Int) ≤ 10 ^ 30 := by decide
      have ll : ∀ x, Lok dep x → (lc x).length = dep + 1 := fun x hx => by unfold lc; rw [List.length_cons, List.length_map, hx.1]
      have go : ∀ (v : Int), 0 ≤ v → v < dep + 1 → ∃ l2 y, Lok dep l2 ∧ atI (lc x1) v = some y ∧ cutD (lc x0) none (some v) = (lc x0).take v.toNat ∧ cutD (lc x0) (some (v + 1)) none = (lc x0).drop (v + 1).toNat ∧ (lc x0).take v.toNat ++ y :: (lc x0).drop (v + 1).toNat = lc l2 ∧ ((lc x0).take v.toNat).length + 1 ≤ sizeLine ∧ ((lc x0).take v.toNat).length + 1 + ((lc x0).drop (v + 1).toNat).length ≤ sizeLine := by
        intro v h1 h2
        obtain ⟨l2, y, k1, k2, k3⟩ := mix h1 h2 hx0 hx
        refine ⟨l2, y, k1, k2, cut_toI h1, cut_fromI (by omega), k3, small_line ?_, small_line ?_⟩
        · rw [List.length_take, ll x0 hx0]; omega
        · rw [List.length_take, List.length_drop, ll x0 hx0]; omega
      have z1 : 1 ≤ sizeLine := by decide
      rcases l with _ | ⟨q1, _ | ⟨q2, l⟩⟩
      · walk_at "p"
        refine ⟨by omega, by omega, fun v p3 h3 h4 => ?_⟩
        obtain ⟨l2, y, k1, k2, k3, k4, k5, k6, k7⟩ := go v h3 h4
        have fin' := fun a b c d l => fin l2 p3 a b c d l k1
        clear fin go
        walk_at "p"
        rw [← Nat.add_assoc]
        exact k7
      · walk_at "p"
        refine ⟨by omega, by omega, fun v p3 h3 h4 => ?_⟩
        obtain ⟨l2, y, k1, k2, k3, k4, k5, k6, k7⟩ := go v h3 h4
        have fin' := fun a b c d l => fin l2 p3 a b c d l k1
        clear fin go
        walk_at "p"
        rw [← Nat.add_assoc]
        exact k7
      · simp at hl
    · have fin' := fin x1 p2 (some (.ref (S.length + 1))) x y none (.lst (lc x1) :: l) hx
      clear fin
      walk_at "p"
      split
      · split
        · exact absurd ⟨by assumption, by omega⟩ hnr
        · trivial
      · trivial
theorem read__law_alphabet : ∀ ds st Q, Wf st → D.lts st.length ds → sp__law_alphabet ds st Q → r__law_alphabet st.length { nx := fun _ st' => Ret st.length Q .non st', rt := Ret st.length Q } (dstart N__law_alphabet ds) st := by
  intro ds st Q wf wl h
  obtain ⟨k, m, dep, p, rfl, hp, hm0, hm, hdep, q⟩ := h
  have hk := lt_of_get hp
  have dr := @draw_eq
  unfold r__law_alphabet N__law_alphabet
  walk_at "p"
  have b3 : (1001 : Int) ≤ 10 ^ 30 := by decide
  refine ⟨by decide, by omega, fun far p2 h2 h3 => ⟨by decide, by omega, fun near p3 h4 h5 => ⟨Nat.zero_le _, by omega, fun v p4 h6 h7 => ⟨⟨by omega, by omega⟩, ?_⟩⟩⟩⟩
  refine lp0__law_alphabet hk wf hdep hm ?_ _ 0 [] p4 _ _ _ _ _ [] (by simp; omega) (by omega) (by simp) (by simp)
  intro ls p5 a b c d' e l a1 a2 a3 a4
  walk_at "p"
  exact ret_cell (by rw [List.length_set]) (wf.set p5.lt) (by rw [List.length_set]; omega) p_gets0 (lt_Ls ls) (q ls p5 a2 a1 a3 a4)
theorem len__law_alphabet : ∀ ds s Q, sp__law_alphabet ds s Q → ds.length = 3 := by
  intro ds s Q ⟨u, v, w, _, e, _⟩
  subst e
  rfl

/-! _law_exponent -/
abbrev N__law_exponent : List Str := ["pool", "great", "size", "way"]

def r__law_exponent : DTS :=
  (dSeq (dSet 2 (dOp dAdd (dC (.int 1)) (dCall sp__law_draw (dCons (dVar 0) (dCons (dC (.int 3)) dNil)))))
  (dSeq (dSet 3 (dCall sp__law_draw (dCons (dVar 0) (dCons (dOp dAdd (dC (.int 1)) (dOp dMul (dC (.int 3)) (dVar 1))) dNil))))
  (dSeq (dIfS (dB (dOp dEq (dVar 3) (dC (.int 1)))) (dSet 2 (dOp dAdd (dC (.int 1)) (dCall sp__law_draw (dCons (dVar 0) (dCons (dOp dSub (dOp dPow (dC (.int 10)) (dC (.int 30))) (dC (.int 1))) dNil))))) dNext)
  (dSeq (dIfS (dB (dOp dEq (dVar 3) (dC (.int 2)))) (dSet 2 (dOp dSub (dOp dSub (dOp dPow (dC (.int 10)) (dC (.int 30))) (dC (.int 1))) (dCall sp__law_draw (dCons (dVar 0) (dCons (dOp dSub (dOp dPow (dC (.int 10)) (dC (.int 30))) (dC (.int 1))) dNil))))) dNext)
  (dRet (dOp dMul (dVar 2) (dOp dSub (dC (.int 1)) (dOp dMul (dC (.int 2)) (dCall sp__law_draw (dCons (dVar 0) (dCons (dC (.int 2)) dNil)))))))))))
def sp__law_exponent : DSp := fun ds st Q => ∃ (k : Nat) (g : Int) (p : Pool), ds = [.ref k, .int g] ∧ st[k]? = some p.1 ∧ (g = 0 ∨ g = 1) ∧ ∀ e (p' : Pool), e ≠ 0 → -(10 ^ 30) < e → e < 10 ^ 30 → (g = 0 → -3 ≤ e ∧ e ≤ 3) → Q (.int e) (st.set k p'.1)
theorem exponent_eq {k : Nat} {m : Int} {st : Store} {Q : DQ} : sp__law_exponent [.ref k, .int m] st Q = ∃ p : Pool, st[k]? = some p.1 ∧ (m = 0 ∨ m = 1) ∧ ∀ e (p' : Pool), e ≠ 0 → -(10 ^ 30) < e → e < 10 ^ 30 → (m = 0 → -3 ≤ e ∧ e ≤ 3) → Q (.int e) (st.set k p'.1) := by
  apply propext
  constructor
  · rintro ⟨k, m, p, e, h⟩
    cases e
    exact ⟨p, h⟩
  · rintro ⟨p, h⟩
    exact ⟨k, m, p, rfl, h⟩
theorem read__law_exponent : ∀ ds st Q, Wf st → D.lts st.length ds → sp__law_exponent ds st Q → r__law_exponent st.length { nx := fun _ st' => Ret st.length Q .non st', rt := Ret st.length Q } (dstart N__law_exponent ds) st := by
  intro ds st Q wf wl h
  obtain ⟨k, g, p, rfl, ho, hg, q⟩ := h
  have hk : k < st.length := (List.getElem?_eq_some_iff.mp ho).1
  have fin : ∀ (e : Int) (p' : Pool), e ≠ 0 → -(10 ^ 30) < e → e < 10 ^ 30 → (g = 0 → -3 ≤ e ∧ e ≤ 3) → Ret st.length Q (.int e) (st.set k p'.1) := fun e p' a b c d => ret_eq (by rw [List.length_set]) (wf.set p'.lt) trivial (q e p' a b c d)
  clear q wl
  have dr := @draw_eq
  unfold r__law_exponent N__law_exponent
  walk_at "p"
  have e2 : ∀ (s t : Int) (p' : Pool), 1 ≤ s → s < 10 ^ 30 → (g = 0 → s ≤ 3) → 0 ≤ t → t < 2 → CMulA 2 t ∧ CMulA s (1 - 2 * t) ∧ Ret st.length Q (.int (s * (1 - 2 * t))) (st.set k p'.1) := by
    intro s t p' h1 h2 h3 h4 h5
    refine ⟨CMulA.left (by decide) (by decide), CMulA.right (by omega) (by omega), ?_⟩
    rcases (show t = 0 ∨ t = 1 by omega) with rfl | rfl
    · rw [show s * (1 - 2 * 0) = s by omega]
      exact fin _ _ (by omega) (by omega) h2 (by omega)
    · rw [show s * (1 - 2 * 1) = -s by omega]
      exact fin _ _ (by omega) (by omega) (by omega) (by omega)
  have cp : CPow 10 30 := ⟨by decide, by decide, by decide⟩
  have b0 : (0 : Int) < 10 ^ 30 - 1 := by decide
  have b1 : (10 : Int) ^ 30 - 1 ≤ 10 ^ 30 := by decide
  have b2 : (2 : Int) ≤ 10 ^ 30 := by decide
  have b3 : (10 : Int) < 10 ^ 30 := by decide
  refine ⟨by decide, by decide, fun v p1 h1 h2 => ⟨CMulA.left (by decide) (by decide), by omega, by omega, fun y p2 h3 h4 => ?_⟩⟩
  split
  · refine ⟨cp, b0, b1, fun v p3 h5 h6 => ?_⟩
    rw [if_neg (by omega)]
    exact ⟨by decide, b2, fun t p4 h7 h8 => e2 _ t p4 (by omega) (by omega) (by omega) h7 h8⟩
  · split
    · refine ⟨cp, cp, b0, b1, fun v p3 h5 h6 => ?_⟩
      exact ⟨by decide, b2, fun t p4 h7 h8 => e2 _ t p4 (by omega) (by omega) (by omega) h7 h8⟩
    · exact ⟨by decide, b2, fun t p4 h7 h8 => e2 _ t p4 (by omega) (by omega) (by omega) h7 h8⟩

theorem len__law_exponent : ∀ ds s Q, sp__law_exponent ds s Q → ds.length = 2 := by
  intro ds s Q h
  unfold sp__law_exponent at h
  repeat (obtain ⟨_, h⟩ := h)
  subst_vars
  rfl
/-! _law_put_for -/
abbrev N__law_put_for : List Str := ["word", "one", "image", "rows", "run", "part", "k"]
def g__law_put_for_1 : DTG := (dgName 6)
def b__law_put_for_1 : DTS :=
  (dDrop (dBM dExtend (dVar 3) (dCons (dVar 5) dNil)))
theorem ug__law_put_for_1 {x env st Q} : g__law_put_for_1 x env st Q = (dgName 6) x env st Q := rfl
theorem ub__law_put_for_1 {n d env st} : b__law_put_for_1 n d env st = (dDrop (dBM dExtend (dVar 3) (dCons (dVar 5) dNil))) n d env st := rfl
def g__law_put_for_0 : DTG := (dgName 4)
def b__law_put_for_0 : DTS :=
  (dGc (dSeq (dSet 5 (dCB dListOf (dCons (dVar 2) dNil)))
  (dSeq (dIfS (dB (dOp dLt (dOp dIx (dVar 4) (dC (.int 1))) (dC (.int 0)))) (dSet 5 (dCB dListOf (dCons (dCall sp__law_back (dCons (dVar 2) dNil)) dNil))) dNext)
  (dIfS (dB (dOp dEq (dOp dIx (dVar 4) (dC (.int 0))) (dVar 1))) (dFor (dRng1 (dCons (dCB dMin (dCons (dCB dAbs (dCons (dOp dIx (dVar 4) (dC (.int 1))) dNil)) (dCons (dC (.int 60)) dNil))) dNil)) g__law_put_for_1 b__law_put_for_1) (dDrop (dBM dAppend (dVar 3) (dCons (dVar 4) dNil)))))))
theorem ug__law_put_for_0 {x env st Q} : g__law_put_for_0 x env st Q = (dgName 4) x env st Q := rfl
theorem ub__law_put_for_0 {n d env st} : b__law_put_for_0 n d env st = (dGc (dSeq (dSet 5 (dCB dListOf (dCons (dVar 2) dNil)))
  (dSeq (dIfS (dB (dOp dLt (dOp dIx (dVar 4) (dC (.int 1))) (dC (.int 0)))) (dSet 5 (dCB dListOf (dCons (dCall sp__law_back (dCons (dVar 2) dNil)) dNil))) dNext)
  (dIfS (dB (dOp dEq (dOp dIx (dVar 4) (dC (.int 0))) (dVar 1))) (dFor (dRng1 (dCons (dCB dMin (dCons (dCB dAbs (dCons (dOp dIx (dVar 4) (dC (.int 1))) dNil)) (dCons (dC (.int 60)) dNil))) dNil)) g__law_put_for_1 b__law_put_for_1) (dDrop (dBM dAppend (dVar 3) (dCons (dVar 4) dNil))))))) n d env st := rfl
def r__law_put_for : DTS :=
  (dSeq (dSet 3 (dLst dNil))
  (dSeq (dFor (dIter (dVar 0)) g__law_put_for_0 b__law_put_for_0)
  (dRet (dCall sp__law_walked (dCons (dVar 3) dNil)))))
def gput (m : Letter) (im : Word) (r : DL.Run) : Word := if r.1 = m then rep r.2.natAbs (if r.2 < 0 then inv im else im) else [r]
theorem gput_eq (m : Letter) (im w : Word) : red (w.flatMap (gput m im)) = sub m im w := by
  refine flat_congr (fun r => ?_) w
  unfold gput put
  split
  · unfold pw
    rw [red_red]
    by_cases h0 : r.2 = 0
    · rw [h0]
      rfl
    · by_cases h : r.2 < 0
      · rw [if_pos h, if_neg (by omega)]
      · rw [if_neg h, if_pos (by omega)]
  · rfl
theorem len_gput (m : Letter) (im w : Word) : (w.flatMap (gput m im)).length ≤ msz m w * im.length + w.length := by
  refine len_flat (fun r => ?_) w
  unfold gput
  split
  · rw [len_rep]
    split
    · rw [len_inv]; exact Nat.le_refl _
    · exact Nat.le_refl _
  · exact Nat.le_refl _
theorem rep_snoc (n : Nat) (v : Word) : rep n v ++ v = rep (n + 1) v := by
  induction n with
  | zero => simp [rep]
  | succ n ih => rw [rep_succ, List.append_assoc, ih, ← rep_succ]
def sp__law_put_for : DSp := fun ds st Q => ∃ (w im : Word) (m : Letter), ds = [dW w, dL m, dW im] ∧ im.length ≤ 1000000 ∧ (∀ r ∈ w, r.1 = m → r.2.natAbs ≤ 60) ∧ (w.flatMap (gput m im)).length ≤ 1000000 ∧ Q (dW (sub m im w)) st
theorem lp1__law_put_for {M : Nat} {d : DEnds} {S l : Store} {x0 x1 x2 x4 : Option D} {pc : Nat} {P : Word} (hp : ∀ o, (S ++ o :: l)[pc]? = some (.lst (P.map dRun))) : ∀ (n : Nat) (i : Int) (acc : Word) (x : Option D), acc.length + n * P.length ≤ 1000000 →
    (∀ x, d.nx [x0, x1, x2, some (.ref S.length), x4, some (.ref pc), x] (S ++ .lst ((acc ++ rep n P).map dRun) :: l)) →
    dLoop g__law_put_for_1 b__law_put_for_1 M d (fun _ => True) (rangeD i n) [x0, x1, x2, some (.ref S.length), x4, some (.ref pc), x] (S ++ .lst (acc.map dRun) :: l)
  | 0, i, acc, x, hl, h => ⟨trivial, by
    have := h x
    simpa [rep] using this⟩
  | n + 1, i, acc, x, hl, h => by
    rw [Nat.succ_mul] at hl
    have ih := fun x => lp1__law_put_for (M := M) (d := d) (x0 := x0) (x1 := x1) (x2 := x2) (x4 := x4) hp n (i + 1) (acc ++ P) x (by rw [List.length_append]; omega) (by
      intro x
      have := h x
      rwa [rep_succ, ← List.append_assoc] at this)
    clear h
    refine ⟨trivial, ?_⟩
    rw [ug__law_put_for_1]
    walk_at "d"
    rw [ub__law_put_for_1]
    have hsz : acc.length + P.length ≤ sizeLine := small_line (by omega)
    walk_at "p"
theorem lp0__law_put_for {d : DEnds} {S : Store} {w im : Word} {m : Letter} (hi : im.length ≤ 1000000) {ok : Store → Prop} (hok : ∀ s, ok s) (wf : Wf S) : ∀ (rest acc : Word) (x y z : Option D) (t : Store), (∀ r ∈ rest, r.1 = m → r.2.natAbs ≤ 60) → acc.length + (rest.flatMap (gput m im)).length ≤ 1000000 →
    (∀ x y z t, d.nx [some (dW w), some (dL m), some (dW im), some (.ref S.length), x, y, z] (S ++ .lst ((acc ++ rest.flatMap (gput m im)).map dRun) :: t)) →
    dLoop g__law_put_for_0 b__law_put_for_0 (S.length + 1) d ok (rest.map dRun) [some (dW w), some (dL m), some (dW im), some (.ref S.length), x, y, z] (S ++ .lst (acc.map dRun) :: t)
  | [], acc, x, y, z, t, hb, hl, h => ⟨hok _, by
    have := h x y z t
    rwa [List.flatMap_nil, List.append_nil] at this⟩
  | (l, e) :: rest, acc, x, y, z, t, hb, hl, h => by
    rw [List.flatMap_cons, List.length_append] at hl
    have ih := fun x y z t => lp0__law_put_for (d := d) (w := w) (im := im) (m := m) hi hok wf rest (acc ++ gput m im (l, e)) x y z t (fun r hr => hb r (by simp [hr])) (by rw [List.length_append]; omega) (by
      intro x y z t
      have := h x y z t
      rwa [List.flatMap_cons, ← List.append_assoc] at this)
    have hb1 := hb (l, e) (by simp)
    clear h hb
    refine ⟨hok _, ?_⟩
    rw [ug__law_put_for_0]
    walk_at "d"
    rw [ub__law_put_for_0, List.append_cons]
    refine gc_drop (env0 := [some (dW w), some (dL m), some (dW im), some (.ref S.length), some (dRun (l, e)), none, none]) (by simp) (wf.app (lt_runs _)) ⟨rfl, lt_W, rfl, lt_L, rfl, lt_W, rfl, by show S.length < _; simp, rfl, lt_run, trivial⟩ ?_
    have key : ∀ (pc : Nat) (l' : Store), (∀ o, (S ++ o :: l')[pc]? = some (.lst ((if e < 0 then inv im else im).map dRun))) →
        (if l = m then (-(2 ^ 62) ≤ (if (60 : Int) < (if e < 0 then -e else e) then (60 : Int) else (if e < 0 then -e else e)) ∧ (if (60 : Int) < (if e < 0 then -e else e) then (60 : Int) else (if e < 0 then -e else e)) < 2 ^ 62) ∧
          dLoop g__law_put_for_1 b__law_put_for_1 (S.length + 1 + l'.length) { d with nx := dLoop g__law_put_for_0 b__law_put_for_0 (S.length + 1) d ok (rest.map dRun), ct := dLoop g__law_put_for_0 b__law_put_for_0 (S.length + 1) d ok (rest.map dRun), bk := d.nx } (fun _ => True) (rangeD 0 (if (60 : Int) < (if e < 0 then -e else e) then (60 : Int) else (if e < 0 then -e else e)).toNat) [some (dW w), some (dL m), some (dW im), some (.ref S.length), some (dRun (l, e)), some (.ref pc), none] (S ++ .lst (acc.map dRun) :: l')
        else acc.length < sizeLine ∧ dLoop g__law_put_for_0 b__law_put_for_0 (S.length + 1) d ok (rest.map dRun) [some (dW w), some (dL m), some (dW im), some (.ref S.length), some (dRun (l, e)), some (.ref pc), none] (S ++ .lst ((acc ++ [(l, e)]).map dRun) :: l')) := by
      intro pc l' hpc
      split
      · rename_i hll
        subst hll
        have h1 : e.natAbs ≤ 60 := hb1 rfl
        have e1 : gput l im (l, e) = rep e.natAbs (if e < 0 then inv im else im) := if_pos rfl
        rw [e1, len_rep] at hl
        rw [e1] at ih
        have e2 : (if (60 : Int) < (if e < 0 then -e else e) then (60 : Int) else (if e < 0 then -e else e)) = (e.natAbs : Nat) := by
          rw [if_neg (by split <;> omega)]
          split <;> omega
        rw [e2, Int.toNat_natCast]
        refine ⟨⟨by omega, by omega⟩, ?_⟩
        exact lp1__law_put_for hpc e.natAbs 0 acc none (by omega) (fun x => ih _ _ _ _)
      · rename_i hll
        have e1 : gput m im (l, e) = [(l, e)] := if_neg hll
        rw [e1] at hl ih
        rw [List.length_singleton] at hl
        exact ⟨small_line' (by omega), ih _ _ _ _⟩
    clear ih hl hb1
    walk_at "p"
    split
    · rename_i he
      rw [if_pos he] at key
      refine ⟨_, im, rfl, .W, hi, ?_⟩
      have k := key (S.length + 2) [.lst (im.map dRun), .lst ((inv im).map dRun)] (fun o => p_get2)
      walk_at "p"
      rw [if_pos he] at k
      exact k
    · rename_i he
      rw [if_neg he] at key
      have k := key (S.length + 1) [.lst (im.map dRun)] (fun o => p_get1)
      rw [if_neg he] at k
      exact k
theorem read__law_put_for : ∀ ds st Q, Wf st → D.lts st.length ds → sp__law_put_for ds st Q → r__law_put_for st.length { nx := fun _ st' => Ret st.length Q .non st', rt := Ret st.length Q } (dstart N__law_put_for ds) st := by
  intro ds st Q wf wl h
  obtain ⟨w, im, m, rfl, hi, hb, hl, q⟩ := h
  unfold r__law_put_for N__law_put_for
  walk_at "d"
  refine ⟨Nat.zero_le _, ?_⟩
  rw [show (st ++ [O.lst []]).length = st.length + 1 by simp]
  refine lp0__law_put_for (S := st) hi (fun _ => trivial) wf w [] none none none [] hb (by simpa using hl) fun x y z t => ?_
  walk_at "p"
  refine ⟨_, w.flatMap (gput m im), rfl, .ref p_get0, by omega, ?_⟩
  rw [gput_eq]
  exact ret_app rfl wf lt_W q

theorem len__law_put_for : ∀ ds s Q, sp__law_put_for ds s Q → ds.length = 3 := by
  intro ds s Q h
  unfold sp__law_put_for at h
  repeat (obtain ⟨_, h⟩ := h)
  subst_vars
  rfl
/-! _law_height_is -/
abbrev N__law_height_is : List Str := ["one", "number"]

def r__law_height_is : DTS :=
  (dRet (dAndV (dCall sp__law_is_whole (dCons (dCall sp_last_height (dCons (dVar 0) dNil)) dNil)) (dOp dEq (dCall sp_last_height (dCons (dVar 0) dNil)) (dVar 1))))
def sp__law_height_is : DSp := fun ds st Q => ∃ (l : Letter) (h n : Int), ds = [dL (up l h), .int n] ∧ Q (.bl (decide (h = n))) st
theorem read__law_height_is : ∀ ds st Q, Wf st → D.lts st.length ds → sp__law_height_is ds st Q → r__law_height_is st.length { nx := fun _ st' => Ret st.length Q .non st', rt := Ret st.length Q } (dstart N__law_height_is ds) st := by
  intro ds st Q wf wl h
  obtain ⟨l, h, n, rfl, q⟩ := h
  unfold r__law_height_is N__law_height_is
  walk_at "d"
  refine ⟨l, h, rfl, h, rfl, ?_⟩
  walk_at "d"
  refine ⟨l, h, rfl, ?_⟩
  walk_at "d"
  exact ret_eq rfl wf trivial q

theorem len__law_height_is : ∀ ds s Q, sp__law_height_is ds s Q → ds.length = 2 := by
  intro ds s Q h
  unfold sp__law_height_is at h
  repeat (obtain ⟨_, h⟩ := h)
  subst_vars
  rfl
/-! substitute -/
abbrev N_substitute : List Str := ["word", "letter", "image", "runs", "run"]
def g_substitute_0 : DTG := (dgName 4)
def b_substitute_0 : DTS :=
  (dIfS (dB (dOp dEq (dOp dIx (dVar 4) (dC (.int 0))) (dVar 1))) (dDrop (dBM dExtT (dVar 3) (dCons (dCall sp_power (dCons (dVar 2) (dCons (dOp dIx (dVar 4) (dC (.int 1))) dNil))) dNil))) (dDrop (dBM dAppend (dVar 3) (dCons (dVar 4) dNil))))
theorem ug_substitute_0 {x env st Q} : g_substitute_0 x env st Q = (dgName 4) x env st Q := rfl
theorem ub_substitute_0 {n d env st} : b_substitute_0 n d env st = (dIfS (dB (dOp dEq (dOp dIx (dVar 4) (dC (.int 0))) (dVar 1))) (dDrop (dBM dExtT (dVar 3) (dCons (dCall sp_power (dCons (dVar 2) (dCons (dOp dIx (dVar 4) (dC (.int 1))) dNil))) dNil))) (dDrop (dBM dAppend (dVar 3) (dCons (dVar 4) dNil)))) n d env st := rfl
def r_substitute : DTS :=
  (dSeq (dSet 3 (dLst dNil))
  (dSeq (dFor (dIter (dVar 0)) g_substitute_0 b_substitute_0)
  (dRet (dCall sp_reduced (dCons (dVar 3) dNil)))))
def sp_substitute : DSp := fun ds st Q => ∃ (w : Word) (l : Letter) (im : Word), ds = [dW w, dL l, dW im] ∧ Red im ∧ (∀ r ∈ w, r.1 = l → -(2 ^ 64) < r.2 ∧ r.2 < 2 ^ 64 ∧ (im.length ≤ 1 ∨ (r.2.natAbs ≤ 1000 ∧ im.length ≤ 1000))) ∧ (w.flatMap (put l im)).length ≤ 1000000 ∧ Q (dW (sub l im w)) st
theorem len_substitute : ∀ ds s Q, sp_substitute ds s Q → ds.length = 3 := by
  intro ds s Q ⟨u, v, _, e, _⟩
  subst e
  rfl
theorem lp_substitute {m : Nat} {d : DEnds} {S : Store} {l : Letter} {im : Word} {x0 : Option D} {ok : Store → Prop} (hok : ∀ s, ok s) (him : Red im) : ∀ (rest acc : Word) (x : Option D), (∀ r ∈ rest, r.1 = l → -(2 ^ 64) < r.2 ∧ r.2 < 2 ^ 64 ∧ (im.length ≤ 1 ∨ (r.2.natAbs ≤ 1000 ∧ im.length ≤ 1000))) → acc.length + (rest.flatMap (put l im)).length ≤ 1000000 →
    (∀ x, d.nx [x0, some (dL l), some (dW im), some (.ref S.length), x] (S ++ [.lst ((acc ++ rest.flatMap (put l im)).map dRun)])) →
    dLoop g_substitute_0 b_substitute_0 m d ok (rest.map dRun) [x0, some (dL l), some (dW im), some (.ref S.length), x] (S ++ [.lst (acc.map dRun)])
  | [], acc, x, hb, hl, h => ⟨hok _, by
    have := h x
    rwa [List.flatMap_nil, List.append_nil] at this⟩
  | (l', e) :: rest, acc, x, hb, hl, h => by
    rw [List.flatMap_cons, List.length_append] at hl
    have ih := fun x => lp_substitute (m := m) (d := d) (S := S) (x0 := x0) hok him rest (acc ++ put l im (l', e)) x (fun r hr => hb r (by simp [hr])) (by rw [List.length_append]; omega) (by
      intro x
      have := h x
      rwa [List.flatMap_cons, ← List.append_assoc] at this)
    have hb1 := hb (l', e) (by simp)
    clear h hb
    refine ⟨hok _, ?_⟩
    rw [ug_substitute_0]
    walk_at "d"
    rw [ub_substitute_0]
    walk_at "d"
    by_cases hll : l' = l
    · subst hll
      obtain ⟨h1, h2, h3⟩ := hb1 rfl
      have e1 : put l' im (l', e) = pw im e := if_pos rfl
      rw [e1] at hl ih
      simp only [decide_true, if_true]
      refine ⟨im, e, rfl, him, h1, h2, h3, ?_⟩
      have hsz : acc.length + (pw im e).length ≤ sizeLine := small_line (by omega)
      walk_at "d"
      exact ⟨hsz, ih _⟩
    · have e1 : put l im (l', e) = [(l', e)] := if_neg hll
      rw [e1] at hl ih
      rw [List.length_singleton] at hl
      rw [if_neg hll]
      try walk_at "d"
      exact ⟨small_line' (by omega), ih _⟩
theorem read_substitute : ∀ ds st Q, Wf st → D.lts st.length ds → sp_substitute ds st Q → r_substitute st.length { nx := fun _ st' => Ret st.length Q .non st', rt := Ret st.length Q } (dstart N_substitute ds) st := by
  intro ds st Q wf wl h
  obtain ⟨w, l, im, rfl, him, hb, hl, q⟩ := h
  unfold r_substitute N_substitute
  walk_at "d"
  refine ⟨Nat.zero_le _, lp_substitute (S := st) (fun _ => trivial) him w [] none hb (by simpa using hl) fun x => ?_⟩
  walk_at "d"
  refine ⟨_, w.flatMap (put l im), rfl, w_items_ref get_end, hl, ?_⟩
  exact ret_app rfl wf lt_W q

/-! _law_is_word -/
abbrev N__law_is_word : List Str := ["value", "last", "run"]
def g__law_is_word_0 : DTG := (dgName 2)
def b__law_is_word_0 : DTS :=
  (dSeq (dIfS (dOr (dNot (dTruth (dCB dIsi (dCons (dVar 2) (dCons (dC (.ty "tuple")) dNil))))) (dB (dOp dNe (dCB dLen (dCons (dVar 2) dNil)) (dC (.int 2))))) (dRet (dC (.bl false))) dNext)
  (dSeq (dIfS (dOr (dNot (dTruth (dCall sp__law_is_letter (dCons (dOp dIx (dVar 2) (dC (.int 0))) dNil)))) (dNot (dTruth (dCall sp__law_is_whole (dCons (dOp dIx (dVar 2) (dC (.int 1))) dNil))))) (dRet (dC (.bl false))) dNext)
  (dSeq (dIfS (dOr (dB (dOp dEq (dOp dIx (dVar 2) (dC (.int 1))) (dC (.int 0)))) (dB (dOp dEq (dOp dIx (dVar 2) (dC (.int 0))) (dVar 1)))) (dRet (dC (.bl false))) dNext)
  (dSet 1 (dOp dIx (dVar 2) (dC (.int 0)))))))
theorem ug__law_is_word_0 {x env st Q} : g__law_is_word_0 x env st Q = (dgName 2) x env st Q := rfl
theorem ub__law_is_word_0 {n d env st} : b__law_is_word_0 n d env st = (dSeq (dIfS (dOr (dNot (dTruth (dCB dIsi (dCons (dVar 2) (dCons (dC (.ty "tuple")) dNil))))) (dB (dOp dNe (dCB dLen (dCons (dVar 2) dNil)) (dC (.int 2))))) (dRet (dC (.bl false))) dNext)
  (dSeq (dIfS (dOr (dNot (dTruth (dCall sp__law_is_letter (dCons (dOp dIx (dVar 2) (dC (.int 0))) dNil)))) (dNot (dTruth (dCall sp__law_is_whole (dCons (dOp dIx (dVar 2) (dC (.int 1))) dNil))))) (dRet (dC (.bl false))) dNext)
  (dSeq (dIfS (dOr (dB (dOp dEq (dOp dIx (dVar 2) (dC (.int 1))) (dC (.int 0)))) (dB (dOp dEq (dOp dIx (dVar 2) (dC (.int 0))) (dVar 1)))) (dRet (dC (.bl false))) dNext)
  (dSet 1 (dOp dIx (dVar 2) (dC (.int 0))))))) n d env st := rfl
def r__law_is_word : DTS :=
  (dSeq (dIfS (dNot (dTruth (dCB dIsi (dCons (dVar 0) (dCons (dC (.ty "tuple")) dNil))))) (dRet (dC (.bl false))) dNext)
  (dSeq (dSet 1 (dTup dNil))
  (dSeq (dFor (dIter (dVar 0)) g__law_is_word_0 b__law_is_word_0)
  (dRet (dC (.bl true))))))
def sp__law_is_word : DSp := fun ds st Q => ∃ (w : Word), ds = [dW w] ∧ Red w ∧ Q (.bl true) st
theorem lp__law_is_word {m : Nat} {d : DEnds} {x : D} {st : Store} {ok : Store → Prop} (hok : ok st) : ∀ (w : Word) (y : D) (a : Option D), Red w → (∀ r ∈ w.head?, dEqv st (dL r.1) y = some false) → (∀ y a, d.nx [some x, some y, a] st) →
    dLoop g__law_is_word_0 b__law_is_word_0 m d ok (w.map dRun) [some x, some y, a] st
  | [], y, a, hr, hy, h => ⟨hok, h _ _⟩
  | (l, e) :: w, y, a, hr, hy, h => by
    have h1 := hy (l, e) rfl
    have he : e ≠ 0 := hr.1
    refine ⟨hok, ?_⟩
    rw [ug__law_is_word_0]
    walk_at "d"
    rw [ub__law_is_word_0]
    walk_at "d"
    have h2 : dLen [dRun (l, e)] st = fun Q => Q (.int 2) st := rfl
    simp only [h2]
    walk_at "d"
    refine ⟨l, rfl, ?_⟩
    walk_at "d"
    refine ⟨e, rfl, ?_⟩
    walk_at "d"
    rw [if_neg he]
    simp only [h1]
    walk_at "d"
    refine lp__law_is_word hok w _ _ hr.2.2 (fun r hr' => ?_) h
    rw [dEqv_L]
    have := hr.2.1 r hr'
    simpa using this
theorem read__law_is_word : ∀ ds st Q, Wf st → D.lts st.length ds → sp__law_is_word ds st Q → r__law_is_word st.length { nx := fun _ st' => Ret st.length Q .non st', rt := Ret st.length Q } (dstart N__law_is_word ds) st := by
  intro ds st Q wf wl h
  obtain ⟨w, rfl, hr, q⟩ := h
  unfold r__law_is_word N__law_is_word
  walk_at "d"
  refine ⟨Nat.zero_le _, lp__law_is_word trivial w _ _ hr (fun r _ => dEqv_L0 _) fun y a => ?_⟩
  walk_at "d"
  exact ret_eq rfl wf trivial q

theorem len__law_is_word : ∀ ds s Q, sp__law_is_word ds s Q → ds.length = 1 := by
  intro ds s Q h
  unfold sp__law_is_word at h
  repeat (obtain ⟨_, h⟩ := h)
  subst_vars
  rfl
/-! _law_runs -/
abbrev N__law_runs : List Str := ["pool", "alphabet", "most", "great", "chosen", "limit", "made", "k", "one", "number"]
def g__law_runs_0 : DTG := (dgName 7)
def b__law_runs_0 : DTS :=
  (dSeq (dSet 8 (dOp dIx (dVar 1) (dCall sp__law_draw (dCons (dVar 0) (dCons (dCB dLen (dCons (dVar 1) dNil)) dNil)))))
  (dSeq (dSet 9 (dCall sp__law_exponent (dCons (dVar 0) (dCons (dVar 3) dNil))))
  (dSeq (dIfS (dB (dOp dEq (dVar 8) (dVar 4))) (dSet 9 (dOp dMul (dOp dAdd (dC (.int 1)) (dCall sp__law_draw (dCons (dVar 0) (dCons (dVar 5) dNil)))) (dOp dSub (dC (.int 1)) (dOp dMul (dC (.int 2)) (dCall sp__law_draw (dCons (dVar 0) (dCons (dC (.int 2)) dNil))))))) dNext)
  (dIfS (dOr (dB (dOp dEq (dCB dLen (dCons (dVar 6) dNil)) (dC (.int 0)))) (dB (dOp dNe (dOp dIx (dOp dIx (dVar 6) (dUn dNeg (dC (.int 1)))) (dC (.int 0))) (dVar 8)))) (dDrop (dBM dAppend (dVar 6) (dCons (dTup (dCons (dVar 8) (dCons (dVar 9) dNil))) dNil))) dNext))))
theorem ug__law_runs_0 {x env st Q} : g__law_runs_0 x env st Q = (dgName 7) x env st Q := rfl
theorem ub__law_runs_0 {n d env st} : b__law_runs_0 n d env st = (dSeq (dSet 8 (dOp dIx (dVar 1) (dCall sp__law_draw (dCons (dVar 0) (dCons (dCB dLen (dCons (dVar 1) dNil)) dNil)))))
  (dSeq (dSet 9 (dCall sp__law_exponent (dCons (dVar 0) (dCons (dVar 3) dNil))))
  (dSeq (dIfS (dB (dOp dEq (dVar 8) (dVar 4))) (dSet 9 (dOp dMul (dOp dAdd (dC (.int 1)) (dCall sp__law_draw (dCons (dVar 0) (dCons (dVar 5) dNil)))) (dOp dSub (dC (.int 1)) (dOp dMul (dC (.int 2)) (dCall sp__law_draw (dCons (dVar 0) (dCons (dC (.int 2)) dNil))))))) dNext)
  (dIfS (dOr (dB (dOp dEq (dCB dLen (dCons (dVar 6) dNil)) (dC (.int 0)))) (dB (dOp dNe (dOp dIx (dOp dIx (dVar 6) (dUn dNeg (dC (.int 1)))) (dC (.int 0))) (dVar 8)))) (dDrop (dBM dAppend (dVar 6) (dCons (dTup (dCons (dVar 8) (dCons (dVar 9) dNil))) dNil))) dNext)))) n d env st := rfl
def r__law_runs : DTS :=
  (dSeq (dSet 6 (dLst dNil))
  (dSeq (dFor (dRng1 (dCons (dCall sp__law_draw (dCons (dVar 0) (dCons (dOp dAdd (dVar 2) (dC (.int 1))) dNil))) dNil)) g__law_runs_0 b__law_runs_0)
  (dRet (dCB dTupleOf (dCons (dVar 6) dNil)))))
def WOc (ls : List Letter) (f : Letter → Bool) (lim : Int) (w : Word) : Prop := ∀ r ∈ w, r.1 ∈ ls ∧ -(10 ^ 30) < r.2 ∧ r.2 < 10 ^ 30 ∧ (f r.1 = true → -lim ≤ r.2 ∧ r.2 ≤ lim)
theorem WOc.app {ls : List Letter} {f : Letter → Bool} {lim : Int} {u v : Word} (h1 : WOc ls f lim u) (h2 : WOc ls f lim v) : WOc ls f lim (u ++ v) := fun r hr => (List.mem_append.mp hr).elim (h1 r) (h2 r)
theorem WOc.one {ls : List Letter} {f : Letter → Bool} {lim : Int} {l : Letter} {e : Int} (h : l ∈ ls) (h1 : -(10 ^ 30) < e) (h2 : e < 10 ^ 30) (h3 : f l = true → -lim ≤ e ∧ e ≤ lim) : WOc ls f lim [(l, e)] := fun r hr => by
  rw [List.mem_singleton] at hr
  subst hr
  exact ⟨h, h1, h2, h3⟩
def sp__law_runs : DSp := fun ds st Q => ∃ (k a : Nat) (ls : List Letter) (most g : Int) (C : D) (f : Letter → Bool) (lim : Int) (p : Pool), ds = [.ref k, .ref a, .int most, .int g, C, .int lim] ∧ st[k]? = some p.1 ∧ st[a]? = some (.lst (ls.map dL)) ∧
  ls ≠ [] ∧ ls.length ≤ 1000 ∧ 0 ≤ most ∧ most ≤ 1000 ∧ (g = 0 ∨ g = 1) ∧ (∀ s l, dEqv s (dL l) C = some (f l)) ∧ 0 < lim ∧ lim ≤ 1000 ∧ ∀ (w : Word) (p' : Pool), Red w → w.length ≤ most.toNat → WOc ls f lim w → Q (dW w) (st.set k p'.1)
theorem lp__law_runs {S : Store} {k a : Nat} {ls : List Letter} {most g : Int} {C : D} {f : Letter → Bool} {lim : Int} (hk : k < S.length) (ha : S[a]? = some (.lst (ls.map dL))) (hka : k ≠ a) (hls : ls ≠ []) (hll : ls.length ≤ 1000) (hm : 0 ≤ most) (hm1 : most ≤ 1000) (hg : g = 0 ∨ g = 1) (hC : ∀ s l, dEqv s (dL l) C = some (f l)) (hl0 : 0 < lim) (hl1 : lim ≤ 1000) {m : Nat} {d : DEnds}
    (h : ∀ M (p : Pool) x y z, Red M → M.length ≤ most.toNat → WOc ls f lim M → d.nx [some (.ref k), some (.ref a), some (.int most), some (.int g), some C, some (.int lim), some (.ref S.length), x, y, z] (S.set k p.1 ++ [.lst (M.map dRun)])) :
    ∀ (items : List D) (M : Word) (p : Pool) x y z, Red M → M.length + items.length ≤ most.toNat → WOc ls f lim M →
      dLoop g__law_runs_0 b__law_runs_0 m d (fun _ => True) items [some (.ref k), some (.ref a), some (.int most), some (.int g), some C, some (.int lim), some (.ref S.length), x, y, z] (S.set k p.1 ++ [.lst (M.map dRun)])
  | [], M, p, x, y, z, hr, hl, hw => ⟨trivial, h M p x y z hr (by simpa using hl) hw⟩
  | i :: items, M, p, x, y, z, hr, hl, hw => by
    refine ⟨trivial, ?_⟩
    have hlM : M.length + (items.length + 1) ≤ most.toNat := hl
    have ih := lp__law_runs (m := m) hk ha hka hls hll hm hm1 hg hC hl0 hl1 h items
    clear h
    have ha' := lt_of_get ha
    have dr := @draw_eq
    have ex := @exponent_eq
    rw [ug__law_runs_0]
    walk_at "d"
    rw [ub__law_runs_0]
    have same : ∀ (p : Pool) x y z, dLoop g__law_runs_0 b__law_runs_0 m d (fun _ => True) items [some (.ref k), some (.ref a), some (.int most), some (.int g), some C, some (.int lim), some (.ref S.length), x, y, z] (S.set k p.1 ++ [.lst (M.map dRun)]) := fun p x y z => ih M p x y z hr (by omega) hw
    have fin : ∀ (p : Pool) (l : Letter) (e : Int) x y z, Red (M ++ [(l, e)]) → l ∈ ls → -(10 ^ 30) < e → e < 10 ^ 30 → (f l = true → -lim ≤ e ∧ e ≤ lim) → M.length < sizeLine ∧
        dLoop g__law_runs_0 b__law_runs_0 m d (fun _ => True) items [some (.ref k), some (.ref a), some (.int most), some (.int g), some C, some (.int lim), some (.ref S.length), x, y, z] (S.set k p.1 ++ [.lst ((M ++ [(l, e)]).map dRun)]) :=
      fun p l e x y z h1 h2 h3 h4 h5 => ⟨small_line' (by omega), ih _ p _ _ _ h1 (by rw [List.length_append, List.length_singleton]; omega) (hw.app (.one h2 h3 h4 h5))⟩
    clear ih
    have hls0 : 0 < ls.length := List.length_pos_iff.mpr hls
    have b3 : (1001 : Int) ≤ 10 ^ 30 := by decide
    have put : ∀ (p : Pool) (l : Letter) (e : Int), l ∈ ls → e ≠ 0 → -(10 ^ 30) < e → e < 10 ^ 30 → (f l = true → -lim ≤ e ∧ e ≤ lim) →
        (if (M.length : Int) = 0 then 2 ≤ sizeLine ∧ M.length < sizeLine ∧ dLoop g__law_runs_0 b__law_runs_0 m d (fun _ => True) items [some (.ref k), some (.ref a), some (.int most), some (.int g), some C, some (.int lim), some (.ref S.length), some i, some (dL l), some (.int e)] (S.set k p.1 ++ [.lst (M.map dRun ++ [D.tup [dL l, D.int e]])])
         else match atI (M.map dRun) (-1) with
          | some x => (match dItem (S.set k p.1 ++ [.lst (M.map dRun)]) x 0 with
            | some y => (match dEqv (S.set k p.1 ++ [.lst (M.map dRun)]) y (dL l) with
              | some b => if b = false then 2 ≤ sizeLine ∧ M.length < sizeLine ∧ dLoop g__law_runs_0 b__law_runs_0 m d (fun _ => True) items [some (.ref k), some (.ref a), some (.int most), some (.int g), some C, some (.int lim), some (.ref S.length), some i, some (dL l), some (.int e)] (S.set k p.1 ++ [.lst (M.map dRun ++ [D.tup [dL l, D.int e]])])
                else dLoop g__law_runs_0 b__law_runs_0 m d (fun _ => True) items [some (.ref k), some (.ref a), some (.int most), some (.int g), some C, some (.int lim), some (.ref S.length), some i, some (dL l), some (.int e)] (S.set k p.1 ++ [.lst (M.map dRun)])
              | none => False)
            | none => False)
          | none => False) := by
      intro p l e h1 he h2 h3 h4
      have e1 : M.map dRun ++ [D.tup [dL l, D.int e]] = (M ++ [(l, e)]).map dRun := by rw [List.map_append]; rfl
      rw [e1]
      split
      · rename_i hz
        have : M = [] := List.length_eq_zero_iff.mp (by omega)
        subst this
        exact ⟨by decide, fin p l e _ _ _ ⟨he, by simp, trivial⟩ h1 h2 h3 h4⟩
      · rename_i hz
        obtain rfl | ⟨M', r, rfl⟩ := List.eq_nil_or_concat M
        · exact absurd rfl hz
        · simp only [List.concat_eq_append] at *
          rw [w_end]
          simp only [item_run0, dEqv_L]
          split
          · rename_i hne
            exact ⟨by decide, fin p l e _ _ _ (Red.app hr ⟨he, by simp, trivial⟩ fun x y hx hy => by
              simp at hx hy
              subst hx hy
              simpa using hne) h1 h2 h3 h4⟩
          · exact same _ _ _ _
    clear fin same
    walk_at "p"
    refine ⟨by omega, by omega, fun v p1 h0 h1 => ?_⟩
    obtain ⟨l, hl2, e1⟩ := at_map (f := dL) h0 h1
    simp only [e1, hC]
    intro e p2 he1 he2 he3 he4
    by_cases hf : f l = true
    · rw [if_pos hf]
      refine ⟨by omega, fun v p3 h2 h3 => ⟨by decide, by omega, fun u p4 h4 h5 => ⟨CMulA.left (by decide) (by decide), CMulA.left (by omega) (by omega), ?_⟩⟩⟩
      have := put p4 l ((1 + v) * (1 - 2 * u)) hl2
      rcases (show u = 0 ∨ u = 1 by omega) with rfl | rfl
      · rw [show (1 + v) * (1 - 2 * 0) = 1 + v by omega] at this ⊢
        exact this (by omega) (by omega) (by omega) (by omega)
      · rw [show (1 + v) * (1 - 2 * 1) = -(1 + v) by omega] at this ⊢
        exact this (by omega) (by omega) (by omega) (by omega)
    · rw [if_neg hf]
      exact put p2 l e hl2 he1 he2 he3 (fun h => absurd h hf)
theorem read__law_runs : ∀ ds st Q, Wf st → D.lts st.length ds → sp__law_runs ds st Q → r__law_runs st.length { nx := fun _ st' => Ret st.length Q .non st', rt := Ret st.length Q } (dstart N__law_runs ds) st := by
  intro ds st Q wf wl h
  obtain ⟨k, a, ls, most, g, C, f, lim, p, rfl, hp, ha, hls, hll, hm, hm1, hg, hC, hl0, hl1, q⟩ := h
  have hk := lt_of_get hp
  have dr := @draw_eq
  unfold r__law_runs N__law_runs
  walk_at "p"
  have b3 : (1001 : Int) ≤ 10 ^ 30 := by decide
  refine ⟨Nat.zero_le _, by omega, by omega, fun v p1 h0 h1 => ⟨⟨by omega, by omega⟩, ?_⟩⟩
  refine lp__law_runs hk ha (pool_ne hp ha dL_ne) hls hll hm hm1 hg hC hl0 hl1 (fun M p2 x y z a1 a2 a3 => ?_) _ [] p1 _ _ _ trivial (by rw [rangeD_len]; simp; omega) (fun r hr => by cases hr)
  walk_at "p"
  exact ret_app (by rw [List.length_set]) (wf.set p2.lt) lt_W (q M p2 a1 a2 a3)

theorem len__law_runs : ∀ ds s Q, sp__law_runs ds s Q → ds.length = 6 := by
  intro ds s Q h
  unfold sp__law_runs at h
  repeat (obtain ⟨_, h⟩ := h)
  subst_vars
  rfl
/-! _law_letter_is -/
abbrev N__law_letter_is : List Str := ["actual", "due"]

def r__law_letter_is : DTS :=
  (dRet (dAndV (dCall sp__law_is_letter (dCons (dVar 0) dNil)) (dOp dEq (dVar 0) (dVar 1))))
def sp__law_letter_is : DSp := fun ds st Q => ∃ (l m : Letter), ds = [dL l, dL m] ∧ Q (.bl (decide (l = m))) st
theorem read__law_letter_is : ∀ ds st Q, Wf st → D.lts st.length ds → sp__law_letter_is ds st Q → r__law_letter_is st.length { nx := fun _ st' => Ret st.length Q .non st', rt := Ret st.length Q } (dstart N__law_letter_is ds) st := by
  intro ds st Q wf wl h
  obtain ⟨l, m, rfl, q⟩ := h
  unfold r__law_letter_is N__law_letter_is
  walk_at "d"
  refine ⟨l, rfl, ?_⟩
  walk_at "d"
  exact ret_eq rfl wf trivial q

theorem len__law_letter_is : ∀ ds s Q, sp__law_letter_is ds s Q → ds.length = 2 := by
  intro ds s Q h
  unfold sp__law_letter_is at h
  repeat (obtain ⟨_, h⟩ := h)
  subst_vars
  rfl
/-! _law_word_is -/
abbrev N__law_word_is : List Str := ["actual", "due"]

def r__law_word_is : DTS :=
  (dRet (dAndV (dCall sp__law_is_word (dCons (dVar 0) dNil)) (dOp dEq (dVar 0) (dVar 1))))
def sp__law_word_is : DSp := fun ds st Q => ∃ (a b : Word), ds = [dW a, dW b] ∧ Red a ∧ Q (.bl (decide (a = b))) st
theorem len__law_word_is : ∀ ds s Q, sp__law_word_is ds s Q → ds.length = 2 := by
  intro ds s Q ⟨u, v, e, _⟩
  subst e
  rfl
theorem read__law_word_is : ∀ ds st Q, Wf st → D.lts st.length ds → sp__law_word_is ds st Q → r__law_word_is st.length { nx := fun _ st' => Ret st.length Q .non st', rt := Ret st.length Q } (dstart N__law_word_is ds) st := by
  intro ds st Q wf wl h
  obtain ⟨a, b, rfl, hr, q⟩ := h
  unfold r__law_word_is N__law_word_is
  walk_at "d"
  refine ⟨a, rfl, hr, ?_⟩
  walk_at "d"
  exact ret_eq rfl wf trivial q

/-! _law_rises -/
abbrev N__law_rises : List Str := ["one", "number", "told"]

def r__law_rises : DTS :=
  (dSeq (dSet 2 (dCall sp_raised (dCons (dVar 0) (dCons (dVar 1) dNil))))
  (dSeq (dIfS (dNot (dTruth (dCall sp__law_letter_is (dCons (dVar 2) (dCons (dOp dAdd (dVar 0) (dTup (dCons (dVar 1) dNil))) dNil))))) (dRet (dC (.bl false))) dNext)
  (dRet (dAndV (dCall sp__law_letter_is (dCons (dCall sp_lowered (dCons (dVar 2) dNil)) (dCons (dVar 0) dNil))) (dCall sp__law_height_is (dCons (dVar 2) (dCons (dVar 1) dNil)))))))
def sp__law_rises : DSp := fun ds st Q => ∃ (l : Letter) (n : Int), ds = [dL l, .int n] ∧ l.hs.length ≤ 1000 ∧ Q (.bl true) st
theorem read__law_rises : ∀ ds st Q, Wf st → D.lts st.length ds → sp__law_rises ds st Q → r__law_rises st.length { nx := fun _ st' => Ret st.length Q .non st', rt := Ret st.length Q } (dstart N__law_rises ds) st := by
  intro ds st Q wf wl h
  obtain ⟨l, n, rfl, hl, q⟩ := h
  unfold r__law_rises N__law_rises
  walk_at "d"
  refine ⟨l, n, rfl, hl, ?_⟩
  walk_at "d"
  refine ⟨by decide, small_line (by omega), up l n, up l n, rfl, ?_⟩
  walk_at "d"
  refine ⟨l, n, rfl, l, l, rfl, ?_⟩
  walk_at "d"
  refine ⟨l, n, n, rfl, ?_⟩
  walk_at "d"
  exact ret_eq rfl wf trivial q

theorem len__law_rises : ∀ ds s Q, sp__law_rises ds s Q → ds.length = 2 := by
  intro ds s Q h
  unfold sp__law_rises at h
  repeat (obtain ⟨_, h⟩ := h)
  subst_vars
  rfl
/-! _law_comes_down -/
abbrev N__law_comes_down : List Str := ["one", "last"]

def r__law_comes_down : DTS :=
  (dSeq (dSet 1 (dOp dSub (dCB dLen (dCons (dVar 0) dNil)) (dC (.int 1))))
  (dSeq (dIfS (dOr (dNot (dTruth (dCall sp__law_letter_is (dCons (dCall sp_lowered (dCons (dVar 0) dNil)) (dCons (dSlice (dVar 0) dNoPart (dPart (dVar 1))) dNil))))) (dNot (dTruth (dCall sp__law_height_is (dCons (dVar 0) (dCons (dOp dIx (dVar 0) (dVar 1)) dNil)))))) (dRet (dC (.bl false))) dNext)
  (dRet (dCall sp__law_letter_is (dCons (dCall sp_raised (dCons (dCall sp_lowered (dCons (dVar 0) dNil)) (dCons (dCall sp_last_height (dCons (dVar 0) dNil)) dNil))) (dCons (dVar 0) dNil))))))
def sp__law_comes_down : DSp := fun ds st Q => ∃ (l : Letter) (n : Int), ds = [dL (up l n)] ∧ l.hs.length ≤ 1000 ∧ Q (.bl true) st
theorem read__law_comes_down : ∀ ds st Q, Wf st → D.lts st.length ds → sp__law_comes_down ds st Q → r__law_comes_down st.length { nx := fun _ st' => Ret st.length Q .non st', rt := Ret st.length Q } (dstart N__law_comes_down ds) st := by
  intro ds st Q wf wl h
  obtain ⟨l, n, rfl, hl, q⟩ := h
  have e2 : (((up l n).hs.length + 1 : Nat) : Int) - 1 = (l.hs.length : Int) + 1 := by rw [up_len]; omega
  unfold r__law_comes_down N__law_comes_down
  walk_at "d"
  refine ⟨l, n, rfl, ?_⟩
  simp only [e2]
  walk_at "d"
  refine ⟨l, l, rfl, ?_⟩
  walk_at "d"
  refine ⟨l, n, n, rfl, ?_⟩
  walk_at "d"
  refine ⟨l, n, rfl, l, n, rfl, l, n, rfl, hl, up l n, up l n, rfl, ?_⟩
  simp only [decide_true]
  exact ret_eq rfl wf trivial q

theorem len__law_comes_down : ∀ ds s Q, sp__law_comes_down ds s Q → ds.length = 1 := by
  intro ds s Q h
  unfold sp__law_comes_down at h
  repeat (obtain ⟨_, h⟩ := h)
  subst_vars
  rfl
/-! _law_substitutes -/
abbrev N__law_substitutes : List Str := ["word", "chosen", "image", "spare", "due"]

def r__law_substitutes : DTS :=
  (dSeq (dSet 4 (dCall sp__law_put_for (dCons (dVar 0) (dCons (dVar 1) (dCons (dVar 2) dNil)))))
  (dSeq (dIfS (dNot (dTruth (dCall sp__law_word_is (dCons (dCall sp_substitute (dCons (dVar 0) (dCons (dVar 1) (dCons (dVar 2) dNil)))) (dCons (dVar 4) dNil))))) (dRet (dC (.bl false))) dNext)
  (dSeq (dIfS (dNot (dTruth (dCall sp__law_word_is (dCons (dCall sp_substitute (dCons (dVar 0) (dCons (dVar 1) (dCons (dTup (dCons (dTup (dCons (dVar 1) (dCons (dC (.int 1)) dNil))) dNil)) dNil)))) (dCons (dVar 0) dNil))))) (dRet (dC (.bl false))) dNext)
  (dSeq (dIfS (dNot (dTruth (dCall sp__law_word_is (dCons (dCall sp_substitute (dCons (dVar 0) (dCons (dVar 1) (dCons (dTup dNil) dNil)))) (dCons (dCall sp__law_put_for (dCons (dVar 0) (dCons (dVar 1) (dCons (dTup dNil) dNil)))) dNil))))) (dRet (dC (.bl false))) dNext)
  (dSeq (dIfS (dAnd (dTruth (dCall sp__law_lacks (dCons (dVar 0) (dCons (dVar 3) dNil)))) (dNot (dTruth (dCall sp__law_word_is (dCons (dCall sp_substitute (dCons (dVar 0) (dCons (dVar 3) (dCons (dVar 2) dNil)))) (dCons (dVar 0) dNil)))))) (dRet (dC (.bl false))) dNext)
  (dRet (dCall sp__law_word_is (dCons (dCall sp_substitute (dCons (dVar 0) (dCons (dVar 1) (dCons (dVar 2) dNil)))) (dCons (dVar 4) dNil)))))))))
theorem msz_bd {m : Letter} {B : Nat} : ∀ {w : Word}, (∀ r ∈ w, r.1 = m → r.2.natAbs ≤ B) → msz m w ≤ B * w.length
  | [], _ => Nat.zero_le _
  | r :: w, h => by
    have h1 := msz_bd (w := w) fun x hx => h x (by simp [hx])
    have h2 := h r (by simp)
    rw [msz_cons, List.length_cons, Nat.mul_succ]
    split
    · have := h2 (by assumption)
      omega
    · omega
def sp__law_substitutes : DSp := fun ds st Q => ∃ (w im : Word) (c s : Letter), ds = [dW w, dL c, dW im, dL s] ∧ Red w ∧ Red im ∧ w.length ≤ 100 ∧ im.length ≤ 100 ∧ (∀ r ∈ w, r.1 = c → r.2.natAbs ≤ 10) ∧ Q (.bl true) st
theorem subst_at {w im : Word} {c : Letter} {st : Store} {Q : DQ} (hi : Red im) (h1 : w.length ≤ 100) (h2 : im.length ≤ 100) (h3 : ∀ r ∈ w, r.1 = c → r.2.natAbs ≤ 10) (q : Q (dW (sub c im w)) st) : sp_substitute [dW w, dL c, dW im] st Q := by
  have h4 := len_put c im w
  have h5 := msz_bd h3
  have h6 : msz c w * im.length ≤ 1000 * 100 := Nat.mul_le_mul (by omega) h2
  exact ⟨w, c, im, rfl, hi, fun r hr he => by have := h3 r hr he; omega, by omega, q⟩
theorem putfor_at {w im : Word} {c : Letter} {st : Store} {Q : DQ} (h1 : w.length ≤ 100) (h2 : im.length ≤ 100) (h3 : ∀ r ∈ w, r.1 = c → r.2.natAbs ≤ 10) (q : Q (dW (sub c im w)) st) : sp__law_put_for [dW w, dL c, dW im] st Q := by
  have h4 := len_gput c im w
  have h5 := msz_bd h3
  have h6 : msz c w * im.length ≤ 1000 * 100 := Nat.mul_le_mul (by omega) h2
  exact ⟨w, im, c, rfl, by omega, fun r hr he => by have := h3 r hr he; omega, by omega, q⟩
theorem wis_at {a b : Word} {st : Store} {Q : DQ} (h1 : Red a) (h : a = b) (q : Q (.bl true) st) : sp__law_word_is [dW a, dW b] st Q := ⟨a, b, rfl, h1, by rw [h]; simpa using q⟩
theorem read__law_substitutes : ∀ ds st Q, Wf st → D.lts st.length ds → sp__law_substitutes ds st Q → r__law_substitutes st.length { nx := fun _ st' => Ret st.length Q .non st', rt := Ret st.length Q } (dstart N__law_substitutes ds) st := by
  intro ds st Q wf wl h
  obtain ⟨w, im, c, s, rfl, hw, hi, h1, h2, h3, q⟩ := h
  have rs : ∀ m a b, Red (sub m a b : Word) := fun _ _ _ => Red.red
  have fin : Ret st.length Q (.bl true) st := ret_eq rfl wf trivial q
  unfold r__law_substitutes N__law_substitutes
  walk_at "d"
  refine putfor_at h1 h2 h3 ?_
  walk_at "d"
  refine subst_at hi h1 h2 h3 (wis_at (rs _ _ _) rfl ?_)
  walk_at "d"
  refine ⟨by decide, by decide, subst_at (im := [(c, 1)]) ⟨by simp, by simp, trivial⟩ h1 (by simp) h3 (wis_at (rs _ _ _) (sub_one c hw) ?_)⟩
  walk_at "d"
  refine ⟨Nat.zero_le _, subst_at (im := []) trivial h1 (by simp) h3 ⟨Nat.zero_le _, putfor_at (im := []) h1 (by simp) h3 (wis_at (rs _ _ _) rfl ?_)⟩⟩
  walk_at "d"
  refine ⟨w, s, rfl, by omega, ?_⟩
  walk_at "d"
  split
  · rename_i hs
    have hs' : ∀ r ∈ w, r.1 = s → r.2.natAbs ≤ 10 := fun r hr he => absurd he (hs r hr)
    refine subst_at hi h1 h2 hs' (wis_at (rs _ _ _) (sub_self hw hs) ?_)
    walk_at "d"
    exact subst_at hi h1 h2 h3 (wis_at (rs _ _ _) rfl fin)
  · exact subst_at hi h1 h2 h3 (wis_at (rs _ _ _) rfl fin)

theorem len__law_substitutes : ∀ ds s Q, sp__law_substitutes ds s Q → ds.length = 4 := by
  intro ds s Q h
  unfold sp__law_substitutes at h
  repeat (obtain ⟨_, h⟩ := h)
  subst_vars
  rfl
/-! _law_shifts -/
abbrev N__law_shifts : List Str := ["steep", "number"]

def r__law_shifts : DTS :=
  (dSeq (dIfS (dNot (dTruth (dCall sp__law_word_is (dCons (dCall sp_shifted (dCons (dVar 0) (dCons (dVar 1) dNil))) (dCons (dCall sp__law_moved (dCons (dVar 0) (dCons (dVar 1) dNil))) dNil))))) (dRet (dC (.bl false))) dNext)
  (dSeq (dIfS (dNot (dTruth (dCall sp__law_word_is (dCons (dCall sp_shifted (dCons (dVar 0) (dCons (dC (.int 0)) dNil))) (dCons (dVar 0) dNil))))) (dRet (dC (.bl false))) dNext)
  (dRet (dCall sp__law_word_is (dCons (dCall sp_shifted (dCons (dCall sp_shifted (dCons (dVar 0) (dCons (dVar 1) dNil))) (dCons (dOp dSub (dC (.int 0)) (dVar 1)) dNil))) (dCons (dVar 0) dNil))))))
def sp__law_shifts : DSp := fun ds st Q => ∃ (w : Word) (n : Int), ds = [dW w, .int n] ∧ Red w ∧ (∀ r ∈ w, r.1.hs ≠ [] ∧ r.1.hs.length ≤ 999) ∧ w.length ≤ 1000 ∧ Q (.bl true) st
theorem shw_ok {n : Int} {w : Word} (h : ∀ r ∈ w, r.1.hs ≠ [] ∧ r.1.hs.length ≤ 999) : ∀ r ∈ shw n w, r.1.hs ≠ [] ∧ r.1.hs.length ≤ 1000 := by
  intro r hr
  obtain ⟨x, hx, rfl⟩ := List.mem_map.mp hr
  have := (h x hx).2
  refine ⟨shl_ne _ _, ?_⟩
  show (shl n x.1).hs.length ≤ 1000
  unfold shl
  rw [up_len]
  unfold dn
  simp
  omega
theorem read__law_shifts : ∀ ds st Q, Wf st → D.lts st.length ds → sp__law_shifts ds st Q → r__law_shifts st.length { nx := fun _ st' => Ret st.length Q .non st', rt := Ret st.length Q } (dstart N__law_shifts ds) st := by
  intro ds st Q wf wl h
  obtain ⟨w, n, rfl, hr, hn, hl, q⟩ := h
  have hn' : ∀ r ∈ w, r.1.hs ≠ [] ∧ r.1.hs.length ≤ 1000 := fun r hr => ⟨(hn r hr).1, by have := (hn r hr).2; omega⟩
  have hw : ∀ r ∈ w, r.1.hs ≠ [] := fun r hr => (hn r hr).1
  unfold r__law_shifts N__law_shifts
  walk_at "d"
  refine ⟨w, n, rfl, hn', by omega, w, n, rfl, hn', by omega, shw n w, shw n w, rfl, Red.shw hr hw, ?_⟩
  walk_at "d"
  refine ⟨w, 0, rfl, hn', by omega, shw 0 w, w, rfl, Red.shw hr hw, ?_⟩
  simp only [shw_zero hw]
  walk_at "d"
  refine ⟨w, n, rfl, hn', by omega, shw n w, 0 - n, rfl, shw_ok hn, by rw [shw_len]; omega, shw (0 - n) (shw n w), w, rfl, ?_, ?_⟩
  · exact Red.shw (Red.shw hr hw) (shw_ne n w)
  · rw [shw_shw, show n + (0 - n) = 0 by omega, shw_zero hw, decide_eq_true rfl]
    exact ret_eq rfl wf trivial q

theorem len__law_shifts : ∀ ds s Q, sp__law_shifts ds s Q → ds.length = 2 := by
  intro ds s Q h
  unfold sp__law_shifts at h
  repeat (obtain ⟨_, h⟩ := h)
  subst_vars
  rfl
/-! law -/
abbrev N_law : List Str := ["script", "pool", "alphabet", "spare", "chosen", "great", "large", "word", "image", "climbing", "number", "high", "one"]
def g_law_0 : DTG := (dgName 12)
def b_law_0 : DTS :=
  (dIfS (dNot (dTruth (dCall sp__law_rises (dCons (dVar 12) (dCons (dVar 10) dNil))))) (dRet (dC (.bl false))) dNext)
theorem ug_law_0 {x env st Q} : g_law_0 x env st Q = (dgName 12) x env st Q := rfl
theorem ub_law_0 {n d env st} : b_law_0 n d env st = (dIfS (dNot (dTruth (dCall sp__law_rises (dCons (dVar 12) (dCons (dVar 10) dNil))))) (dRet (dC (.bl false))) dNext) n d env st := rfl
def g_law_1 : DTG := (dgName 12)
def b_law_1 : DTS :=
  (dIfS (dNot (dTruth (dCall sp__law_comes_down (dCons (dVar 12) dNil)))) (dRet (dC (.bl false))) dNext)
theorem ug_law_1 {x env st Q} : g_law_1 x env st Q = (dgName 12) x env st Q := rfl
theorem ub_law_1 {n d env st} : b_law_1 n d env st = (dIfS (dNot (dTruth (dCall sp__law_comes_down (dCons (dVar 12) dNil)))) (dRet (dC (.bl false))) dNext) n d env st := rfl
def t_law_18 : DTS :=
  (dSeq (dIfS (dNot (dTruth (dCall sp__law_shifts (dCons (dCall sp__law_runs (dCons (dCall sp__law_pool (dCons (dVar 0) (dCons (dC (.int 4)) dNil))) (dCons (dOp dAdd (dVar 9) (dVar 11)) (dCons (dC (.int 12)) (dCons (dVar 5) (dCons (dTup dNil) (dCons (dC (.int 1)) dNil))))))) (dCons (dVar 10) dNil))))) (dRet (dC (.bl false))) dNext)
  (dSeq (dFor (dIter (dOp dAdd (dLst (dCons (dVar 3) (dCons (dTup (dCons (dC (.str (Str.ofString "!"))) dNil)) dNil))) (dVar 9))) g_law_0 b_law_0)
  (dSeq (dFor (dIter (dOp dAdd (dVar 9) (dVar 11))) g_law_1 b_law_1)
  (dRet (dAndV (dCall sp__law_letter_is (dCons (dC d_MARK) (dCons (dTup (dCons (dC (.str (Str.ofString "!"))) dNil)) dNil))) (dCall sp__law_letter_is (dCons (dC d_STEP) (dCons (dTup (dCons (dC (.str (Str.ofString "/"))) dNil)) dNil))))))))
theorem ut_law_18 {n d env st} : t_law_18 n d env st = (dSeq (dIfS (dNot (dTruth (dCall sp__law_shifts (dCons (dCall sp__law_runs (dCons (dCall sp__law_pool (dCons (dVar 0) (dCons (dC (.int 4)) dNil))) (dCons (dOp dAdd (dVar 9) (dVar 11)) (dCons (dC (.int 12)) (dCons (dVar 5) (dCons (dTup dNil) (dCons (dC (.int 1)) dNil))))))) (dCons (dVar 10) dNil))))) (dRet (dC (.bl false))) dNext)
  (dSeq (dFor (dIter (dOp dAdd (dLst (dCons (dVar 3) (dCons (dTup (dCons (dC (.str (Str.ofString "!"))) dNil)) dNil))) (dVar 9))) g_law_0 b_law_0)
  (dSeq (dFor (dIter (dOp dAdd (dVar 9) (dVar 11))) g_law_1 b_law_1)
  (dRet (dAndV (dCall sp__law_letter_is (dCons (dC d_MARK) (dCons (dTup (dCons (dC (.str (Str.ofString "!"))) dNil)) dNil))) (dCall sp__law_letter_is (dCons (dC d_STEP) (dCons (dTup (dCons (dC (.str (Str.ofString "/"))) dNil)) dNil)))))))) n d env st := rfl
def t_law_16 : DTS :=
  (dSeq (dSet 11 (dLst dNil))
  (dSeq (dIfS (dB (dOp dEq (dCall sp__law_draw (dCons (dVar 1) (dCons (dC (.int 3)) dNil))) (dC (.int 1)))) (dSet 11 (dLst (dCons (dTup (dCons (dC (.str (Str.ofString "!"))) (dCons (dOp dSub (dCall sp__law_draw (dCons (dVar 1) (dCons (dC (.int 7)) dNil))) (dC (.int 3))) dNil))) (dCons (dTup (dCons (dC (.str (Str.ofString "!"))) (dCons (dOp dSub (dCall sp__law_draw (dCons (dVar 1) (dCons (dC (.int 1999999999)) dNil))) (dC (.int 999999999))) dNil))) dNil)))) dNext)
  t_law_18))
theorem ut_law_16 {n d env st} : t_law_16 n d env st = (dSeq (dSet 11 (dLst dNil))
  (dSeq (dIfS (dB (dOp dEq (dCall sp__law_draw (dCons (dVar 1) (dCons (dC (.int 3)) dNil))) (dC (.int 1)))) (dSet 11 (dLst (dCons (dTup (dCons (dC (.str (Str.ofString "!"))) (dCons (dOp dSub (dCall sp__law_draw (dCons (dVar 1) (dCons (dC (.int 7)) dNil))) (dC (.int 3))) dNil))) (dCons (dTup (dCons (dC (.str (Str.ofString "!"))) (dCons (dOp dSub (dCall sp__law_draw (dCons (dVar 1) (dCons (dC (.int 1999999999)) dNil))) (dC (.int 999999999))) dNil))) dNil)))) dNext)
  t_law_18)) n d env st := rfl
def t_law_15 : DTS :=
  (dSeq (dIfS (dB (dOp dEq (dCall sp__law_draw (dCons (dVar 1) (dCons (dC (.int 3)) dNil))) (dC (.int 1)))) (dSet 10 (dOp dSub (dC (.int 0)) (dOp dIx (dOp dIx (dVar 9) (dC (.int 0))) (dOp dSub (dCB dLen (dCons (dOp dIx (dVar 9) (dC (.int 0))) dNil)) (dC (.int 1)))))) dNext)
  t_law_16)
theorem ut_law_15 {n d env st} : t_law_15 n d env st = (dSeq (dIfS (dB (dOp dEq (dCall sp__law_draw (dCons (dVar 1) (dCons (dC (.int 3)) dNil))) (dC (.int 1)))) (dSet 10 (dOp dSub (dC (.int 0)) (dOp dIx (dOp dIx (dVar 9) (dC (.int 0))) (dOp dSub (dCB dLen (dCons (dOp dIx (dVar 9) (dC (.int 0))) dNil)) (dC (.int 1)))))) dNext)
  t_law_16) n d env st := rfl
def t_law_11 : DTS :=
  (dSeq (dSet 1 (dCall sp__law_pool (dCons (dVar 0) (dCons (dC (.int 3)) dNil))))
  (dSeq (dSet 9 (dCall sp__law_alphabet (dCons (dVar 1) (dCons (dC (.int 4)) (dCons (dCall sp__law_depth (dCons (dVar 1) (dCons (dC (.int 1)) dNil))) dNil)))))
  (dSeq (dSet 10 (dOp dSub (dCall sp__law_draw (dCons (dVar 1) (dCons (dC (.int 101)) dNil))) (dC (.int 50))))
  (dSeq (dIfS (dB (dOp dEq (dCall sp__law_draw (dCons (dVar 1) (dCons (dC (.int 2)) dNil))) (dC (.int 1)))) (dSet 10 (dOp dSub (dCall sp__law_draw (dCons (dVar 1) (dCons (dC (.int 1999999999)) dNil))) (dC (.int 999999999)))) dNext)
  t_law_15))))
theorem ut_law_11 {n d env st} : t_law_11 n d env st = (dSeq (dSet 1 (dCall sp__law_pool (dCons (dVar 0) (dCons (dC (.int 3)) dNil))))
  (dSeq (dSet 9 (dCall sp__law_alphabet (dCons (dVar 1) (dCons (dC (.int 4)) (dCons (dCall sp__law_depth (dCons (dVar 1) (dCons (dC (.int 1)) dNil))) dNil)))))
  (dSeq (dSet 10 (dOp dSub (dCall sp__law_draw (dCons (dVar 1) (dCons (dC (.int 101)) dNil))) (dC (.int 50))))
  (dSeq (dIfS (dB (dOp dEq (dCall sp__law_draw (dCons (dVar 1) (dCons (dC (.int 2)) dNil))) (dC (.int 1)))) (dSet 10 (dOp dSub (dCall sp__law_draw (dCons (dVar 1) (dCons (dC (.int 1999999999)) dNil))) (dC (.int 999999999)))) dNext)
  t_law_15)))) n d env st := rfl
def t_law_5 : DTS :=
  (dSeq (dSet 4 (dOp dIx (dVar 2) (dCall sp__law_draw (dCons (dVar 1) (dCons (dCB dLen (dCons (dVar 2) dNil)) dNil)))))
  (dSeq (dSet 5 (dOp dFdiv (dCall sp__law_draw (dCons (dVar 1) (dCons (dC (.int 3)) dNil))) (dC (.int 2))))
  (dSeq (dSet 6 (dOp dFdiv (dCall sp__law_draw (dCons (dVar 1) (dCons (dC (.int 8)) dNil))) (dC (.int 7))))
  (dSeq (dSet 7 (dCall sp__law_runs (dCons (dCall sp__law_pool (dCons (dVar 0) (dCons (dC (.int 1)) dNil))) (dCons (dVar 2) (dCons (dOp dAdd (dC (.int 12)) (dOp dMul (dC (.int 48)) (dVar 6))) (dCons (dVar 5) (dCons (dVar 4) (dCons (dOp dSub (dC (.int 10)) (dOp dMul (dC (.int 8)) (dVar 6))) dNil))))))))
  (dSeq (dSet 8 (dCall sp__law_runs (dCons (dCall sp__law_pool (dCons (dVar 0) (dCons (dC (.int 2)) dNil))) (dCons (dVar 2) (dCons (dC (.int 5)) (dCons (dVar 5) (dCons (dTup dNil) (dCons (dC (.int 1)) dNil))))))))
  (dSeq (dIfS (dNot (dTruth (dCall sp__law_substitutes (dCons (dVar 7) (dCons (dVar 4) (dCons (dVar 8) (dCons (dVar 3) dNil))))))) (dRet (dC (.bl false))) dNext)
  t_law_11))))))
theorem ut_law_5 {n d env st} : t_law_5 n d env st = (dSeq (dSet 4 (dOp dIx (dVar 2) (dCall sp__law_draw (dCons (dVar 1) (dCons (dCB dLen (dCons (dVar 2) dNil)) dNil)))))
  (dSeq (dSet 5 (dOp dFdiv (dCall sp__law_draw (dCons (dVar 1) (dCons (dC (.int 3)) dNil))) (dC (.int 2))))
  (dSeq (dSet 6 (dOp dFdiv (dCall sp__law_draw (dCons (dVar 1) (dCons (dC (.int 8)) dNil))) (dC (.int 7))))
  (dSeq (dSet 7 (dCall sp__law_runs (dCons (dCall sp__law_pool (dCons (dVar 0) (dCons (dC (.int 1)) dNil))) (dCons (dVar 2) (dCons (dOp dAdd (dC (.int 12)) (dOp dMul (dC (.int 48)) (dVar 6))) (dCons (dVar 5) (dCons (dVar 4) (dCons (dOp dSub (dC (.int 10)) (dOp dMul (dC (.int 8)) (dVar 6))) dNil))))))))
  (dSeq (dSet 8 (dCall sp__law_runs (dCons (dCall sp__law_pool (dCons (dVar 0) (dCons (dC (.int 2)) dNil))) (dCons (dVar 2) (dCons (dC (.int 5)) (dCons (dVar 5) (dCons (dTup dNil) (dCons (dC (.int 1)) dNil))))))))
  (dSeq (dIfS (dNot (dTruth (dCall sp__law_substitutes (dCons (dVar 7) (dCons (dVar 4) (dCons (dVar 8) (dCons (dVar 3) dNil))))))) (dRet (dC (.bl false))) dNext)
  t_law_11)))))) n d env st := rfl
def r_law : DTS :=
  (dSeq (dSet 1 (dCall sp__law_pool (dCons (dVar 0) (dCons (dC (.int 0)) dNil))))
  (dSeq (dSet 2 (dCall sp__law_alphabet (dCons (dVar 1) (dCons (dC (.int 7)) (dCons (dCall sp__law_depth (dCons (dVar 1) (dCons (dC (.int 0)) dNil))) dNil)))))
  (dSeq (dSet 3 (dOp dIx (dVar 2) (dOp dSub (dCB dLen (dCons (dVar 2) dNil)) (dC (.int 1)))))
  (dSeq (dSet 2 (dSlice (dVar 2) dNoPart (dPart (dCB dMax (dCons (dC (.int 1)) (dCons (dOp dSub (dCB dLen (dCons (dVar 2) dNil)) (dC (.int 1))) dNil))))))
  (dSeq (dIfS (dB (dOp dEq (dCall sp__law_draw (dCons (dVar 1) (dCons (dC (.int 4)) dNil))) (dC (.int 1)))) (dSet 2 (dOp dAdd (dVar 2) (dLst (dCons (dTup (dCons (dC (.str (Str.ofString "!"))) dNil)) (dCons (dTup (dCons (dC (.str (Str.ofString "/"))) dNil)) (dCons (dTup (dCons (dC (.str (Str.ofString "!"))) (dCons (dOp dSub (dCall sp__law_draw (dCons (dVar 1) (dCons (dC (.int 7)) dNil))) (dC (.int 3))) dNil))) dNil)))))) dNext)
  t_law_5)))))
def sp_law : DSp := DL.spLaw
theorem len_law : ∀ ds s Q, sp_law ds s Q → ds.length = 1 := by
  intro ds s Q ⟨ns, e, _⟩
  subst e
  rfl
theorem lp0_law {m : Nat} {d : DEnds} {S : Store} {x0 x1 x2 x3 x4 x5 x6 x7 x8 x9 x11 : Option D} {n : Int} {ok : Store → Prop} (hok : ok S)
    (h : ∀ y, d.nx [x0, x1, x2, x3, x4, x5, x6, x7, x8, x9, some (.int n), x11, y] S) : ∀ (ls : List Letter) (y : Option D), (∀ l ∈ ls, l.hs.length ≤ 1000) → dLoop g_law_0 b_law_0 m d ok (ls.map dL) [x0, x1, x2, x3, x4, x5, x6, x7, x8, x9, some (.int n), x11, y] S
  | [], y, hn => ⟨hok, h y⟩
  | l :: ls, y, hn => by
    have ih := fun y => lp0_law (m := m) hok h ls y fun x hx => hn x (by simp [hx])
    have h1 := hn l (by simp)
    clear h
    refine ⟨hok, ?_⟩
    rw [ug_law_0]
    walk_at "d"
    rw [ub_law_0]
    walk_at "d"
    refine ⟨l, n, rfl, h1, ?_⟩
    walk_at "d"
    exact ih _
theorem lp1_law {m : Nat} {d : DEnds} {S : Store} {x0 x1 x2 x3 x4 x5 x6 x7 x8 x9 x10 x11 : Option D} {ok : Store → Prop} (hok : ok S)
    (h : ∀ y, d.nx [x0, x1, x2, x3, x4, x5, x6, x7, x8, x9, x10, x11, y] S) : ∀ (ls : List Letter) (y : Option D), (∀ l ∈ ls, l.hs ≠ [] ∧ l.hs.length ≤ 1000) → dLoop g_law_1 b_law_1 m d ok (ls.map dL) [x0, x1, x2, x3, x4, x5, x6, x7, x8, x9, x10, x11, y] S
  | [], y, hn => ⟨hok, h y⟩
  | l :: ls, y, hn => by
    have ih := fun y => lp1_law (m := m) hok h ls y fun x hx => hn x (by simp [hx])
    have h1 := hn l (by simp)
    clear h
    have hu := up_of h1.1
    generalize dn l = u at hu
    generalize lh l = k at hu
    subst hu
    have h2 := h1.2
    rw [up_len] at h2
    refine ⟨hok, ?_⟩
    rw [ug_law_1]
    walk_at "d"
    rw [ub_law_1]
    walk_at "d"
    refine ⟨u, k, rfl, by omega, ?_⟩
    walk_at "d"
    exact ih _
theorem runs0 {ns : List Int} {k a : Nat} {ls : List Letter} {most g : Int} {p : Pool} {st : Store} {Q : DQ} (hp : st[k]? = some p.1) (ha : st[a]? = some (.lst (ls.map dL))) (h1 : ls ≠ []) (h2 : ls.length ≤ 1000) (h3 : 0 ≤ most) (h4 : most ≤ 1000) (hg : g = 0 ∨ g = 1)
    (q : ∀ (w : Word) (p' : Pool), Red w → w.length ≤ most.toNat → (∀ r ∈ w, r.1 ∈ ls) → Q (dW w) (st.set k p'.1)) : sp__law_runs [.ref k, .ref a, .int most, .int g, .tup [], .int 1] st Q :=
  ⟨k, a, ls, most, g, .tup [], fun _ => false, 1, p, rfl, hp, ha, h1, h2, h3, h4, hg, fun s l => dEqv_L0 l, by decide, by decide, fun w p' a b c => q w p' a b fun r hr => (c r hr).1⟩
theorem tl18_law {T : Store} {n : Nat} {d : DEnds} {ns : List Int} {c h : Nat} {ls hs : List Letter} {s : Letter} {v g : Int} {x1 x2 x4 x6 x7 x8 : Option D} (hn : ns.length ≤ 63) (hc : T[c]? = some (.lst (ls.map dL))) (hh : T[h]? = some (.lst (hs.map dL))) (hls : ls ≠ []) (hll : ls.length + hs.length ≤ 900) (hs1 : s.hs.length ≤ 100) (hg : g = 0 ∨ g = 1)
    (h1 : ∀ l ∈ ls, l.hs ≠ [] ∧ l.hs.length ≤ 100) (h2 : ∀ l ∈ hs, l.hs ≠ [] ∧ l.hs.length ≤ 100) (fin : ∀ l, d.rt (.bl true) (T ++ l)) :
    t_law_18 n d [some (.rol (ns.map D.int)), x1, x2, some (dL s), x4, some (.int g), x6, x7, x8, some (.ref c), some (.int v), some (.ref h), none] T := by
  have gc : ∀ l, (T ++ l)[c]? = some (.lst (ls.map dL)) := fun l => get_app hc
  have gh : ∀ l, (T ++ l)[h]? = some (.lst (hs.map dL)) := fun l => get_app hh
  have h12 : ∀ l ∈ ls ++ hs, l.hs ≠ [] ∧ l.hs.length ≤ 100 := fun l hl => (List.mem_append.mp hl).elim (h1 l) (h2 l)
  have e1 : d_MARK = dL mk := w_mark
  have e2 : d_STEP = dL stp := w_stp
  have z1 : ls.length + hs.length ≤ sizeLine := small_line (by omega)
  have z2 : 2 + ls.length ≤ sizeLine := small_line (by omega)
  rw [ut_law_18]
  walk_at "p"
  refine ⟨ns, 4, rfl, by decide, by decide, hn, fun p => ?_⟩
  walk_at "p"
  refine ⟨Nat.zero_le _, runs0 (ns := ns) (p := p) (ls := ls ++ hs) (most := 12) p_get0 p_get1 (by simp [hls]) (by rw [List.length_append]; omega) (by decide) (by decide) hg fun w p2 w1 w2 w3 => ?_⟩
  refine ⟨w, v, rfl, w1, fun r hr => ⟨(h12 _ (w3 r hr)).1, by have := (h12 _ (w3 r hr)).2; omega⟩, by omega, ?_⟩
  walk_at "p"
  have z3 : 1 ≤ sizeLine := by decide
  have z4 : 2 ≤ sizeLine := by decide
  refine ⟨z3, z4, ?_⟩
  rw [show dL s :: dL mk :: ls.map dL = (s :: mk :: ls).map dL from rfl]
  refine lp0_law p_get3 (fun y => ?_) _ _ ?_
  · walk_at "p"
    refine lp1_law p_get4 (fun y => ?_) _ _ ?_
    · walk_at "p"
      refine ⟨mk, mk, rfl, ?_⟩
      walk_at "p"
      refine ⟨stp, stp, rfl, ?_⟩
      rw [decide_eq_true rfl]
      exact fin _
    · intro l hl
      exact ⟨(h12 l hl).1, by have := (h12 l hl).2; omega⟩
  · intro l hl
    simp only [List.mem_cons] at hl
    rcases hl with rfl | rfl | hl
    · omega
    · exact Nat.zero_le _
    · have := (h1 l hl).2
      omega
theorem tl16_law {T : Store} {n : Nat} {d : DEnds} {ns : List Int} {c k : Nat} {p : Pool} {ls : List Letter} {s : Letter} {v g : Int} {x2 x4 x6 x7 x8 : Option D} (hn : ns.length ≤ 63) (hp : T[k]? = some p.1) (hc : T[c]? = some (.lst (ls.map dL))) (hls : ls ≠ []) (hll : ls.length ≤ 800) (hs1 : s.hs.length ≤ 100) (hg : g = 0 ∨ g = 1)
    (h1 : ∀ l ∈ ls, l.hs ≠ [] ∧ l.hs.length ≤ 100) (fin : ∀ (p : Pool) l, d.rt (.bl true) (T.set k p.1 ++ l)) :
    t_law_16 n d [some (.rol (ns.map D.int)), some (.ref k), x2, some (dL s), x4, some (.int g), x6, x7, x8, some (.ref c), some (.int v), none, none] T := by
  have hk := lt_of_get hp
  have hc' := lt_of_get hc
  have hkc := pool_ne hp hc dL_ne
  have dr := @draw_eq
  have b3 : (2000000000 : Int) ≤ 10 ^ 30 := by decide
  have gc : ∀ (p : Pool) l, (T.set k p.1 ++ l)[c]? = some (.lst (ls.map dL)) := fun p l => by
    rw [p_app (by rw [List.length_set]; exact hc'), p_ne hkc]
    exact hc
  rw [ut_law_16]
  walk_at "p"
  refine ⟨Nat.zero_le _, by decide, by omega, fun y p1 y0 y1 => ?_⟩
  split
  · refine ⟨by decide, by omega, fun z p2 z0 z1 => ⟨by decide, by decide, by omega, fun u p3 u0 u1 => ⟨by decide, by decide, ?_⟩⟩⟩
    have h0 := fun l => fin p3 l
    refine tl18_law (hs := [up mk (z - 3), up mk (u - 999999999)]) hn (gc _ _) p_gets1 hls (by simp; omega) hs1 hg h1 ?_ fun l => ?_
    · intro l hl
      simp only [List.mem_cons, List.not_mem_nil, or_false] at hl
      rcases hl with rfl | rfl <;> exact ⟨up_ne _ _, by simp [up, mk]⟩
    · rw [List.append_assoc]
      exact fin _ _
  · refine tl18_law (hs := []) hn (gc _ _) p_gets0 hls (by simp; omega) hs1 hg h1 (by simp) fun l => ?_
    rw [List.append_assoc]
    exact fin _ _
theorem tl15_law {T : Store} {n : Nat} {d : DEnds} {ns : List Int} {c k : Nat} {p : Pool} {ls : List Letter} {s : Letter} {v g : Int} {x2 x4 x6 x7 x8 : Option D} (hn : ns.length ≤ 63) (hp : T[k]? = some p.1) (hc : T[c]? = some (.lst (ls.map dL))) (hls : ls ≠ []) (hll : ls.length ≤ 800) (hs1 : s.hs.length ≤ 100) (hg : g = 0 ∨ g = 1)
    (h1 : ∀ l ∈ ls, l.hs ≠ [] ∧ l.hs.length ≤ 100) (fin : ∀ (p : Pool) l, d.rt (.bl true) (T.set k p.1 ++ l)) :
    t_law_15 n d [some (.rol (ns.map D.int)), some (.ref k), x2, some (dL s), x4, some (.int g), x6, x7, x8, some (.ref c), some (.int v), none, none] T := by
  have hk := lt_of_get hp
  have hc' := lt_of_get hc
  have hkc := pool_ne hp hc dL_ne
  have dr := @draw_eq
  have gc : ∀ (p : Pool), (T.set k p.1)[c]? = some (.lst (ls.map dL)) := fun p => by
    rw [p_ne hkc]
    exact hc
  have go : ∀ (p : Pool) v, t_law_16 n d [some (.rol (ns.map D.int)), some (.ref k), x2, some (dL s), x4, some (.int g), x6, x7, x8, some (.ref c), some (.int v), none, none] (T.set k p.1) := fun p v =>
    tl16_law hn (p_self hk) (gc p) hls hll hs1 hg h1 fun p2 l => by
      rw [List.set_set]
      exact fin p2 l
  rw [ut_law_15]
  cases ls with
  | nil => exact absurd rfl hls
  | cons l0 ls =>
    have hl0 := h1 l0 (by simp)
    have hu := up_of hl0.1
    generalize dn l0 = u at hu
    generalize lh l0 = w at hu
    subst hu
    have e2 : (((up u w).hs.length + 1 : Nat) : Int) - 1 = (u.hs.length : Int) + 1 := by rw [up_len]; omega
    walk_at "p"
    refine ⟨by decide, by decide, fun y p1 y0 y1 => ?_⟩
    split
    · simp only [e2]
      walk_at "p"
    · trivial
theorem tl11_law {T : Store} {n : Nat} {d : DEnds} {ns : List Int} {s : Letter} {g : Int} {x1 x2 x4 x6 x7 x8 : Option D} (hn : ns.length ≤ 63) (hs1 : s.hs.length ≤ 100) (hg : g = 0 ∨ g = 1)
    (fin : ∀ l, d.rt (.bl true) (T ++ l)) :
    t_law_11 n d [some (.rol (ns.map D.int)), x1, x2, some (dL s), x4, some (.int g), x6, x7, x8, none, none, none, none] T := by
  have dr := @draw_eq
  have b3 : (2000000000 : Int) ≤ 10 ^ 30 := by decide
  rw [ut_law_11]
  walk_at "p"
  refine ⟨ns, 3, rfl, by decide, by decide, hn, fun p => ?_⟩
  refine ⟨T.length, 1, p, rfl, p_get0, by decide, by decide, fun dep p1 d0 d1 => ?_⟩
  walk_at "p"
  refine ⟨T.length, 4, dep, p1, rfl, p_get0, by decide, by decide, d0, fun ls p2 l1 l2 l3 l4 => ?_⟩
  walk_at "p"
  have h1 : ∀ l ∈ ls, l.hs ≠ [] ∧ l.hs.length ≤ 100 := fun l hl => by
    have := (l4 l hl).1
    refine ⟨fun e => ?_, by omega⟩
    rw [e] at this
    simp at this
    omega
  have go : ∀ (p : Pool) v, t_law_15 n d [some (.rol (ns.map D.int)), some (.ref T.length), x2, some (dL s), x4, some (.int g), x6, x7, x8, some (.ref (T.length + 1)), some (.int v), none, none] (T ++ [p.1, .lst (ls.map dL)]) := fun p v =>
    tl15_law hn p_get0 p_get1 l1 (by omega) hs1 hg h1 fun p2 l => by
      rw [p_set0, List.append_assoc]
      exact fin _
  refine ⟨by decide, by omega, fun y p3 y0 y1 => ⟨by decide, by omega, fun z p4 z0 z1 => ?_⟩⟩
  split
  · exact ⟨by decide, by omega, fun u p5 u0 u1 => go _ _⟩
  · exact go _ _
theorem tl5_law {T : Store} {n : Nat} {d : DEnds} {ns : List Int} {k a : Nat} {p : Pool} {ls : List Letter} {s : Letter} (hn : ns.length ≤ 63) (hp : T[k]? = some p.1) (ha : T[a]? = some (.lst (ls.map dL))) (hls : ls ≠ []) (hll : ls.length ≤ 800) (hs1 : s.hs.length ≤ 100)
    (fin : ∀ (p : Pool) l, d.rt (.bl true) (T.set k p.1 ++ l)) :
    t_law_5 n d [some (.rol (ns.map D.int)), some (.ref k), some (.ref a), some (dL s), none, none, none, none, none, none, none, none, none] T := by
  have hk := lt_of_get hp
  have ha' := lt_of_get ha
  have hka := pool_ne hp ha dL_ne
  have dr := @draw_eq
  have b3 : (2000000000 : Int) ≤ 10 ^ 30 := by decide
  have hl0 : 0 < ls.length := List.length_pos_iff.mpr hls
  have ga : ∀ (p : Pool) l, (T.set k p.1 ++ l)[a]? = some (.lst (ls.map dL)) := fun p l => by
    rw [p_app (by rw [List.length_set]; exact ha'), p_ne hka]
    exact ha
  rw [ut_law_5]
  walk_at "p"
  refine ⟨by omega, by omega, fun y p1 y0 y1 => ?_⟩
  obtain ⟨c, hc, e1⟩ := at_map (f := dL) y0 y1
  simp only [e1]
  refine ⟨by decide, by omega, fun u p2 u0 u1 => ⟨?_, by decide, by omega, fun z p3 z0 z1 => ⟨?_, ?_⟩⟩⟩
  · exact .inl ⟨by decide, by decide⟩
  · exact .inl ⟨by decide, by decide⟩
  have hu : u.fdiv 2 = 0 ∨ u.fdiv 2 = 1 := by
    rw [Int.fdiv_eq_ediv_of_nonneg u (by omega)]
    omega
  have hz : z.fdiv 7 = 0 ∨ z.fdiv 7 = 1 := by
    rw [Int.fdiv_eq_ediv_of_nonneg z (by omega)]
    omega
  generalize u.fdiv 2 = g at hu
  generalize z.fdiv 7 = h at hz
  refine ⟨ns, 1, rfl, by decide, by decide, hn, fun p4 => ?_⟩
  refine ⟨CMulA.left (by decide) (by decide), CMulA.left (by decide) (by decide), ?_⟩
  rw [List.length_set]
  refine ⟨T.length, a, ls, 12 + 48 * h, g, dL c, fun l => decide (l = c), 10 - 8 * h, p4, rfl, p_gets0, ga _ _, hls, by omega, by omega, by omega, hu, fun s l => dEqv_L l c, by omega, by omega, fun w p5 w1 w2 w3 => ?_⟩
  walk_at "p"
  refine ⟨ns, 2, rfl, by decide, by decide, hn, fun p6 => ?_⟩
  walk_at "p"
  refine ⟨Nat.zero_le _, runs0 (ns := ns) (p := p6) (ls := ls) (most := 5) p_gets1 (ga _ _) hls (by omega) (by decide) (by decide) hu fun im p7 i1 i2 i3 => ?_⟩
  have i2' : im.length ≤ 5 := i2
  refine ⟨w, im, c, s, rfl, w1, i1, by omega, by omega, fun r hr he => ?_, ?_⟩
  · have := (w3 r hr).2.2.2 (by simpa using he)
    omega
  walk_at "p"
  exact tl11_law hn hs1 hu fun l => by
    rw [List.append_assoc]
    exact fin _ _
theorem read_law : ∀ ds st Q, Wf st → D.lts st.length ds → sp_law ds st Q → r_law st.length { nx := fun _ st' => Ret st.length Q .non st', rt := Ret st.length Q } (dstart N_law ds) st := by
  intro ds st Q wf wl h
  obtain ⟨ns, rfl, hl, q⟩ := h
  have dr := @draw_eq
  have fin : ∀ l : Store, Ret st.length Q (.bl true) (st ++ l) := fun l => ret_app rfl wf trivial (q st)
  clear q
  unfold r_law N_law
  walk_at "p"
  refine ⟨ns, 0, rfl, by decide, by decide, hl, fun p => ?_⟩
  refine ⟨st.length, 0, p, rfl, p_get0, by decide, by decide, fun dep p1 d0 d1 => ?_⟩
  walk_at "p"
  refine ⟨st.length, 7, dep, p1, rfl, p_get0, by decide, by decide, d0, fun ls p2 l1 l2 l3 l4 => ?_⟩
  have l2' : ls.length ≤ 7 := l2
  walk_at "p"
  have hl0 : 0 < ls.length := List.length_pos_iff.mpr l1
  obtain ⟨s, hs, e1⟩ := at_map (f := dL) (xs := ls) (v := (ls.length : Int) - 1) (by omega) (by omega)
  simp only [e1]
  walk_at "p"
  have hs1 : s.hs.length ≤ 100 := by have := (l4 s hs).1; omega
  obtain ⟨m, hm, hm1⟩ : ∃ m : Nat, (if (1 : Int) < (ls.length : Int) - 1 then (ls.length : Int) - 1 else 1) = m ∧ 0 < m := by
    split
    · exact ⟨ls.length - 1, by omega, by omega⟩
    · exact ⟨1, rfl, by decide⟩
  rw [hm, cut_to, ← List.map_take]
  have hne : ls.take m ≠ [] := by
    intro e
    have := congrArg List.length e
    rw [List.length_take, List.length_nil] at this
    omega
  have hle : (ls.take m).length ≤ 7 := by rw [List.length_take]; omega
  generalize ls.take m = ms at hne hle
  refine ⟨by decide, by decide, fun y p3 y0 y1 => ?_⟩
  split
  · refine ⟨by decide, by decide, by decide, by decide, fun z p4 z0 z1 => ⟨by decide, by decide, small_line (by simp; omega), ?_⟩⟩
    rw [show ms.map dL ++ [dL mk, dL stp, dL (up mk (z - 3))] = (ms ++ [mk, stp, up mk (z - 3)]).map dL by simp]
    refine tl5_law (p := p4) hl p_get0 p_get4 (by simp) (by simp; omega) hs1 fun p l => ?_
    rw [p_set0, List.append_assoc]
    exact fin _
  · refine tl5_law (p := p3) hl p_get0 p_get2 hne (by omega) hs1 fun p l => ?_
    rw [p_set0, List.append_assoc]
    exact fin _

end K03
namespace K03
open PySem PySem.Spec L2 DL
def topS (i : Nat) : Stmt := PySem.Challenge.pw_onelaw_k03_substitute_and_shift.main.body.getD i (.Pass ⟨0, 0, 0, 0⟩)
abbrev s_raised : Stmt := topS 3
theorem sc_raised : FnScope N_raised ["letter", "height"] (defScope s_raised) := ⟨rfl, rfl, rfl, by decide +kernel, rfl, by decide +kernel, by decide +kernel⟩
abbrev s_lowered : Stmt := topS 4
theorem sc_lowered : FnScope N_lowered ["letter"] (defScope s_lowered) := ⟨rfl, rfl, rfl, by decide +kernel, rfl, by decide +kernel, by decide +kernel⟩
abbrev s_last_height : Stmt := topS 5
theorem sc_last_height : FnScope N_last_height ["letter"] (defScope s_last_height) := ⟨rfl, rfl, rfl, by decide +kernel, rfl, by decide +kernel, by decide +kernel⟩
abbrev s_reduced : Stmt := topS 7
theorem sc_reduced : FnScope N_reduced ["pairs"] (defScope s_reduced) := ⟨rfl, rfl, rfl, by decide +kernel, rfl, by decide +kernel, by decide +kernel⟩
abbrev s_inverse : Stmt := topS 8
theorem sc_inverse : FnScope N_inverse ["word"] (defScope s_inverse) := ⟨rfl, rfl, rfl, by decide +kernel, rfl, by decide +kernel, by decide +kernel⟩
abbrev s_power : Stmt := topS 9
theorem sc_power : FnScope N_power ["word", "exponent"] (defScope s_power) := ⟨rfl, rfl, rfl, by decide +kernel, rfl, by decide +kernel, by decide +kernel⟩
abbrev s_substitute : Stmt := topS 10
theorem sc_substitute : FnScope N_substitute ["word", "letter", "image"] (defScope s_substitute) := ⟨rfl, rfl, rfl, by decide +kernel, rfl, by decide +kernel, by decide +kernel⟩
abbrev s_shifted : Stmt := topS 11
theorem sc_shifted : FnScope N_shifted ["word", "by"] (defScope s_shifted) := ⟨rfl, rfl, rfl, by decide +kernel, rfl, by decide +kernel, by decide +kernel⟩
abbrev s__law_pool : Stmt := topS 13
theorem sc__law_pool : FnScope N__law_pool ["script", "place"] (defScope s__law_pool) := ⟨rfl, rfl, rfl, by decide +kernel, rfl, by decide +kernel, by decide +kernel⟩
abbrev s__law_draw : Stmt := topS 14
theorem sc__law_draw : FnScope N__law_draw ["pool", "many"] (defScope s__law_draw) := ⟨rfl, rfl, rfl, by decide +kernel, rfl, by decide +kernel, by decide +kernel⟩
abbrev s__law_back : Stmt := topS 15
theorem sc__law_back : FnScope N__law_back ["word"] (defScope s__law_back) := ⟨rfl, rfl, rfl, by decide +kernel, rfl, by decide +kernel, by decide +kernel⟩
abbrev s__law_lacks : Stmt := topS 16
theorem sc__law_lacks : FnScope N__law_lacks ["word", "one"] (defScope s__law_lacks) := ⟨rfl, rfl, rfl, by decide +kernel, rfl, by decide +kernel, by decide +kernel⟩
abbrev s__law_is_whole : Stmt := topS 17
theorem sc__law_is_whole : FnScope N__law_is_whole ["value"] (defScope s__law_is_whole) := ⟨rfl, rfl, rfl, by decide +kernel, rfl, by decide +kernel, by decide +kernel⟩
abbrev s__law_is_letter : Stmt := topS 18
theorem sc__law_is_letter : FnScope N__law_is_letter ["value"] (defScope s__law_is_letter) := ⟨rfl, rfl, rfl, by decide +kernel, rfl, by decide +kernel, by decide +kernel⟩
abbrev s__law_is_word : Stmt := topS 19
theorem sc__law_is_word : FnScope N__law_is_word ["value"] (defScope s__law_is_word) := ⟨rfl, rfl, rfl, by decide +kernel, rfl, by decide +kernel, by decide +kernel⟩
abbrev s__law_word_is : Stmt := topS 20
theorem sc__law_word_is : FnScope N__law_word_is ["actual", "due"] (defScope s__law_word_is) := ⟨rfl, rfl, rfl, by decide +kernel, rfl, by decide +kernel, by decide +kernel⟩
abbrev s__law_depth : Stmt := topS 21
theorem sc__law_depth : FnScope N__law_depth ["pool", "least"] (defScope s__law_depth) := ⟨rfl, rfl, rfl, by decide +kernel, rfl, by decide +kernel, by decide +kernel⟩
abbrev s__law_alphabet : Stmt := topS 22
theorem sc__law_alphabet : FnScope N__law_alphabet ["pool", "most", "depth"] (defScope s__law_alphabet) := ⟨rfl, rfl, rfl, by decide +kernel, rfl, by decide +kernel, by decide +kernel⟩
abbrev s__law_exponent : Stmt := topS 23
theorem sc__law_exponent : FnScope N__law_exponent ["pool", "great"] (defScope s__law_exponent) := ⟨rfl, rfl, rfl, by decide +kernel, rfl, by decide +kernel, by decide +kernel⟩
abbrev s__law_runs : Stmt := topS 24
theorem sc__law_runs : FnScope N__law_runs ["pool", "alphabet", "most", "great", "chosen", "limit"] (defScope s__law_runs) := ⟨rfl, rfl, rfl, by decide +kernel, rfl, by decide +kernel, by decide +kernel⟩
abbrev s__law_walked : Stmt := topS 25
theorem sc__law_walked : FnScope N__law_walked ["pairs"] (defScope s__law_walked) := ⟨rfl, rfl, rfl, by decide +kernel, rfl, by decide +kernel, by decide +kernel⟩
abbrev s__law_put_for : Stmt := topS 26
theorem sc__law_put_for : FnScope N__law_put_for ["word", "one", "image"] (defScope s__law_put_for) := ⟨rfl, rfl, rfl, by decide +kernel, rfl, by decide +kernel, by decide +kernel⟩
abbrev s__law_moved : Stmt := topS 27
theorem sc__law_moved : FnScope N__law_moved ["word", "number"] (defScope s__law_moved) := ⟨rfl, rfl, rfl, by decide +kernel, rfl, by decide +kernel, by decide +kernel⟩
abbrev s__law_letter_is : Stmt := topS 28
theorem sc__law_letter_is : FnScope N__law_letter_is ["actual", "due"] (defScope s__law_letter_is) := ⟨rfl, rfl, rfl, by decide +kernel, rfl, by decide +kernel, by decide +kernel⟩
abbrev s__law_height_is : Stmt := topS 29
theorem sc__law_height_is : FnScope N__law_height_is ["one", "number"] (defScope s__law_height_is) := ⟨rfl, rfl, rfl, by decide +kernel, rfl, by decide +kernel, by decide +kernel⟩
abbrev s__law_rises : Stmt := topS 30
theorem sc__law_rises : FnScope N__law_rises ["one", "number"] (defScope s__law_rises) := ⟨rfl, rfl, rfl, by decide +kernel, rfl, by decide +kernel, by decide +kernel⟩
abbrev s__law_comes_down : Stmt := topS 31
theorem sc__law_comes_down : FnScope N__law_comes_down ["one"] (defScope s__law_comes_down) := ⟨rfl, rfl, rfl, by decide +kernel, rfl, by decide +kernel, by decide +kernel⟩
abbrev s__law_substitutes : Stmt := topS 32
theorem sc__law_substitutes : FnScope N__law_substitutes ["word", "chosen", "image", "spare"] (defScope s__law_substitutes) := ⟨rfl, rfl, rfl, by decide +kernel, rfl, by decide +kernel, by decide +kernel⟩
abbrev s__law_shifts : Stmt := topS 33
theorem sc__law_shifts : FnScope N__law_shifts ["steep", "number"] (defScope s__law_shifts) := ⟨rfl, rfl, rfl, by decide +kernel, rfl, by decide +kernel, by decide +kernel⟩
abbrev s_law : Stmt := topS 34
theorem sc_law : FnScope N_law ["script"] (defScope s_law) := ⟨rfl, rfl, rfl, by decide +kernel, rfl, by decide +kernel, by decide +kernel⟩
section
variable {P : Program} {w : World} {K : PySem.W.Frag} {mg : Str → Option Value} {base : Heap} {f : Addr} {fd : FuncData}
theorem ok_raised (F : Fun K "raised" "raised" s_raised f fd)  :
    FnOk P w K mg base CX0 1 f fd ["letter", "height"] (spOf K sp_raised) :=
  Fun.okD F sc_raised len_raised fun cdv A outer s H E hr => have nd := sc_raised.nd; ⟨_, r_raised,
 (sss_one (ss_ret (se_op so_add (sv 0) (se_tup (sa_cons (sv 1) sa_nil))))), read_raised⟩
theorem ok_lowered (F : Fun K "lowered" "lowered" s_lowered f fd)  :
    FnOk P w K mg base CX0 1 f fd ["letter"] (spOf K sp_lowered) :=
  Fun.okD F sc_lowered len_lowered fun cdv A outer s H E hr => have nd := sc_lowered.nd; ⟨_, r_lowered,
 (sss_one (ss_ret (se_slice (sv 0) so_none (so_some (se_un su_neg se_int))))), read_lowered⟩
theorem ok_last_height (F : Fun K "last_height" "last_height" s_last_height f fd)  :
    FnOk P w K mg base CX0 1 f fd ["letter"] (spOf K sp_last_height) :=
  Fun.okD F sc_last_height len_last_height fun cdv A outer s H E hr => have nd := sc_last_height.nd; ⟨_, r_last_height,
 (sss_one (ss_ret (se_ix (sv 0) (se_un su_neg se_int) (fun _ _ => rfl)))), read_last_height⟩
theorem ok_reduced (F : Fun K "reduced" "reduced" s_reduced f fd) (z_tuple : mg "tuple" = none) :
    FnOk P w K mg base CX0 1 f fd ["pairs"] (spOf K sp_reduced) :=
  Fun.okD F sc_reduced len_reduced fun cdv A outer s H E hr => have nd := sc_reduced.nd; ⟨_, r_reduced,
 (sss_cons (ss_set (i := 1) nd rfl (.inl rfl) (se_lst sa_nil))
 (sss_cons (ss_for PassesOwn.never rfl (si_iter (sv 0)) (sg_tup rfl (sgs_cons (sg_name (i := 2) nd rfl (.inl rfl)) (sgs_cons (sg_name (i := 3) nd rfl (.inl rfl)) sgs_nil)))
 (sss_cons (ss_set (i := 4) nd rfl (.inl rfl) (sv 3))
 (sss_cons (ss_if (SW.st (sw_and (st_truth (sv 1)) (sw_and1 (st_cmp (so_eq hr) (se_ix (se_ix (sv 1) (se_un su_neg se_int) (fun _ _ => rfl)) se_int (fun _ _ => rfl)) (sv 2) (nomark _)))))
 (sss_one (ss_set (i := 4) nd rfl (.inl rfl) (se_op so_add (se_ix (se_pop (sv 1)) se_int (fun _ _ => rfl)) (sv 3))))
 sss_nil)
 (sss_one (ss_if (st_cmp (so_ne hr) (sv 4) se_int (nomark _))
 (sss_one (ss_expr (se_append (sv 1) (sa_cons (se_tup (sa_cons (sv 2) (sa_cons (sv 4) sa_nil))) sa_nil))))
 sss_nil)))))
 (sss_one (ss_ret (se_callTy sc_tuple (by rfl) z_tuple (by decide +kernel) (sa_cons (sv 1) sa_nil)))))), read_reduced⟩
theorem ok_inverse (F : Fun K "inverse" "inverse" s_inverse f fd) (z_reversed : mg "reversed" = none) (z_tuple : mg "tuple" = none) :
    FnOk P w K mg base CX0 1 f fd ["word"] (spOf K sp_inverse) :=
  Fun.okD F sc_inverse len_inverse fun cdv A outer s H E hr => have nd := sc_inverse.nd; ⟨_, r_inverse,
 (sss_one (ss_ret (se_callTy sc_tuple (by rfl) z_tuple (by decide +kernel) (sa_cons (se_lc (own := [("letter", 1), ("exponent", 2)]) rfl nd (si_rev (by rfl) z_reversed (sv 0)) (blkOk_by (N := N_inverse) (sc := defScope s_inverse) (by decide +kernel)) (own_tup (owns_cons mono_name (own_name (by decide)) (owns_cons mono_name (own_name (by decide)) owns_nil))) (fun _ _ _ _ _ => (sg_tup rfl (sgs_cons (sg_name (i := 1) nd rfl (by first | exact .inl rfl | exact .inr rfl)) (sgs_cons (sg_name (i := 2) nd rfl (by first | exact .inl rfl | exact .inr rfl)) sgs_nil)))) (fun _ _ _ _ _ => sts_nil) (fun _ _ _ _ _ => (se_tup (sa_cons (sv 1) (sa_cons (se_un su_neg (sv 2)) sa_nil))))) sa_nil)))), read_inverse⟩
theorem ok__law_pool (F : Fun K "_law_pool" "_law_pool" s__law_pool f fd) (z_len : mg "len" = none) (z_int : mg "int" = none) (z_abs : mg "abs" = none) :
    FnOk P w K mg base CX0 1 f fd ["script", "place"] (spOf K sp__law_pool) :=
  Fun.okD F sc__law_pool len__law_pool fun cdv A outer s H E hr => have nd := sc__law_pool.nd; ⟨_, r__law_pool,
 (sss_cons (ss_set (i := 2) nd rfl (.inl rfl) se_int)
 (sss_cons (ss_if (st_cmp so_lt (sv 1) (se_callB sc_len (by rfl) z_len (by decide +kernel) (sa_cons (sv 0) sa_nil)) (nomark _))
 (sss_one (ss_set (i := 2) nd rfl (.inl rfl) (se_callB sc_abs (by rfl) z_abs (by decide +kernel) (sa_cons (se_callTy sc_int1 (by rfl) z_int (by decide +kernel) (sa_cons (se_ix (sv 0) (sv 1) (fun _ _ => rfl)) sa_nil)) sa_nil))))
 sss_nil)
 (sss_cons (ss_set (i := 3) nd rfl (.inl rfl) (se_op so_add (se_op so_add (se_op so_mod (se_callTy sc_int1 (by rfl) z_int (by decide +kernel) (sa_cons (sv 2) sa_nil)) se_int) (se_op so_mul se_int (sv 1))) se_int))
 (sss_cons (ss_if (st_cmp so_lt (sv 2) (se_op so_pow se_int se_int) (nomark _))
 (sss_one (ss_set (i := 2) nd rfl (.inl rfl) se_int))
 sss_nil)
 (sss_one (ss_ret (se_lst (sa_cons (sv 2) (sa_cons se_int (sa_cons (sv 3) sa_nil)))))))))), read__law_pool⟩
theorem ok__law_draw (F : Fun K "_law_draw" "_law_draw" s__law_draw f fd) (z_int : mg "int" = none) :
    FnOk P w K mg base CX0 1 f fd ["pool", "many"] (spOf K sp__law_draw) :=
  Fun.okD F sc__law_draw len__law_draw fun cdv A outer s H E hr => have nd := sc__law_draw.nd; ⟨_, r__law_draw,
 (sss_cons (ss_if (st_cmp so_gt (se_ix (sv 0) se_int (fun _ _ => rfl)) se_int (nomark _))
 (sss_cons (ss_set (i := 2) nd rfl (.inl rfl) (se_op so_mod (se_callTy sc_int1 (by rfl) z_int (by decide +kernel) (sa_cons (se_ix (sv 0) se_int (fun _ _ => rfl)) sa_nil)) (sv 1)))
 (sss_cons (ss_asg (se_op so_fdiv (se_callTy sc_int1 (by rfl) z_int (by decide +kernel) (sa_cons (se_ix (sv 0) se_int (fun _ _ => rfl)) sa_nil)) (sv 1)) (sg_sub (sv 0) se_int))
 (sss_one (ss_ret (sv 2)))))
 sss_nil)
 (sss_cons (ss_asg (se_op so_add (se_ix (sv 0) se_int (fun _ _ => rfl)) se_int) (sg_sub (sv 0) se_int))
 (sss_cons (ss_set (i := 3) nd rfl (.inl rfl) (se_op so_mod (se_callTy sc_int1 (by rfl) z_int (by decide +kernel) (sa_cons (se_op so_add (se_op so_mul (se_ix (sv 0) se_int (fun _ _ => rfl)) se_int) (se_op so_mul (se_ix (sv 0) se_int (fun _ _ => rfl)) se_int)) sa_nil)) se_int))
 (sss_cons (ss_set (i := 3) nd rfl (.inl rfl) (se_op so_mod (se_callTy sc_int1 (by rfl) z_int (by decide +kernel) (sa_cons (se_op so_add (se_op so_mul (sv 3) (sv 3)) (se_op so_mul (se_ix (sv 0) se_int (fun _ _ => rfl)) se_int)) sa_nil)) se_int))
 (sss_cons (ss_set (i := 3) nd rfl (.inl rfl) (se_op so_mod (se_callTy sc_int1 (by rfl) z_int (by decide +kernel) (sa_cons (se_op so_add (se_op so_mul (sv 3) (sv 3)) (se_ix (sv 0) se_int (fun _ _ => rfl))) sa_nil)) se_int))
 (sss_one (ss_ret (se_op so_mod (se_callTy sc_int1 (by rfl) z_int (by decide +kernel) (sa_cons (sv 3) sa_nil)) (sv 1))))))))), read__law_draw⟩
theorem ok__law_back (F : Fun K "_law_back" "_law_back" s__law_back f fd) (z_list : mg "list" = none) (z_reversed : mg "reversed" = none) (z_tuple : mg "tuple" = none) :
    FnOk P w K mg base CX0 1 f fd ["word"] (spOf K sp__law_back) :=
  Fun.okD F sc__law_back len__law_back fun cdv A outer s H E hr => have nd := sc__law_back.nd; ⟨_, r__law_back,
 (sss_one (ss_ret (se_callTy sc_tuple (by rfl) z_tuple (by decide +kernel) (sa_cons (se_lc (own := [("run", 1)]) rfl nd (si_rev (by rfl) z_reversed (se_callTy sc_list (by rfl) z_list (by decide +kernel) (sa_cons (sv 0) sa_nil))) (blkOk_by (N := N__law_back) (sc := defScope s__law_back) (by decide +kernel)) (own_name (by decide)) (fun _ _ _ _ _ => (sg_name (i := 1) nd rfl (by first | exact .inl rfl | exact .inr rfl))) (fun _ _ _ _ _ => sts_nil) (fun _ _ _ _ _ => (se_tup (sa_cons (se_ix (sv 1) se_int (fun _ _ => rfl)) (sa_cons (se_op so_sub se_int (se_ix (sv 1) se_int (fun _ _ => rfl))) sa_nil))))) sa_nil)))), read__law_back⟩
theorem ok__law_lacks (F : Fun K "_law_lacks" "_law_lacks" s__law_lacks f fd) (z_len : mg "len" = none) :
    FnOk P w K mg base CX0 1 f fd ["word", "one"] (spOf K sp__law_lacks) :=
  Fun.okD F sc__law_lacks len__law_lacks fun cdv A outer s H E hr => have nd := sc__law_lacks.nd; ⟨_, r__law_lacks,
 (sss_one (ss_ret (se_cmp (so_eq hr) (se_callB sc_len (by rfl) z_len (by decide +kernel) (sa_cons (se_lc (own := [("run", 2)]) rfl nd (si_iter (sv 0)) (blkOk_by (N := N__law_lacks) (sc := defScope s__law_lacks) (by decide +kernel)) (own_name (by decide)) (fun _ _ _ _ _ => (sg_name (i := 2) nd rfl (by first | exact .inl rfl | exact .inr rfl))) (fun _ _ _ _ _ => (sts_one (st_cmp (so_eq hr) (se_ix (sv 2) se_int (fun _ _ => rfl)) (sv 1) (nomark _)))) (fun _ _ _ _ _ => (sv 2))) sa_nil)) se_int (nomark _)))), read__law_lacks⟩
theorem ok__law_is_whole (F : Fun K "_law_is_whole" "_law_is_whole" s__law_is_whole f fd) (z_int : mg "int" = none) (z_isinstance : mg "isinstance" = none) (z_bool : mg "bool" = none) :
    FnOk P w K mg base CX0 1 f fd ["value"] (spOf K sp__law_is_whole) :=
  Fun.okD F sc__law_is_whole len__law_is_whole fun cdv A outer s H E hr => have nd := sc__law_is_whole.nd; ⟨_, r__law_is_whole,
 (sss_one (ss_ret (se_and (se_callB sc_isi (by rfl) z_isinstance (by decide +kernel) (sa_cons (sv 0) (sa_cons (se_bltn (n := "int") (by rfl) z_int (by decide +kernel) rfl) sa_nil))) (se_one (se_not (se_callB sc_isi (by rfl) z_isinstance (by decide +kernel) (sa_cons (sv 0) (sa_cons (se_bltn (n := "bool") (by rfl) z_bool (by decide +kernel) rfl) sa_nil)))))))), read__law_is_whole⟩
theorem ok__law_walked (F : Fun K "_law_walked" "_law_walked" s__law_walked f fd) (z_list : mg "list" = none) (z_reversed : mg "reversed" = none) (z_len : mg "len" = none) (z_tuple : mg "tuple" = none) :
    FnOk P w K mg base CX0 1 f fd ["pairs"] (spOf K sp__law_walked) :=
  Fun.okD F sc__law_walked len__law_walked fun cdv A outer s H E hr => have nd := sc__law_walked.nd; ⟨_, r__law_walked,
 (sss_cons (ss_set (i := 1) nd rfl (.inl rfl) (se_lst sa_nil))
 (sss_cons (ss_for PassesOwn.never rfl (si_rev (by rfl) z_reversed (se_callTy sc_list (by rfl) z_list (by decide +kernel) (sa_cons (sv 0) sa_nil))) (sg_name (i := 2) nd rfl (.inl rfl))
 (sss_cons (ss_set (i := 3) nd rfl (.inl rfl) (se_ix (sv 2) se_int (fun _ _ => rfl)))
 (sss_cons (ss_if (SW.st (sw_and (st_cmp so_gt (se_callB sc_len (by rfl) z_len (by decide +kernel) (sa_cons (sv 1) sa_nil)) se_int (nomark _)) (sw_and1 (st_cmp (so_eq hr) (se_ix (se_ix (sv 1) (se_un su_neg se_int) (fun _ _ => rfl)) se_int (fun _ _ => rfl)) (se_ix (sv 2) se_int (fun _ _ => rfl)) (nomark _)))))
 (sss_one (ss_set (i := 3) nd rfl (.inl rfl) (se_op so_add (sv 3) (se_ix (se_pop (sv 1)) se_int (fun _ _ => rfl)))))
 sss_nil)
 (sss_one (ss_if (st_cmp (so_ne hr) (sv 3) se_int (nomark _))
 (sss_one (ss_expr (se_append (sv 1) (sa_cons (se_tup (sa_cons (se_ix (sv 2) se_int (fun _ _ => rfl)) (sa_cons (sv 3) sa_nil))) sa_nil))))
 sss_nil)))))
 (sss_one (ss_ret (se_tupRev rfl (by rfl) z_tuple (by rfl) z_reversed (sv 1)))))), read__law_walked⟩
theorem ok__law_moved (F : Fun K "_law_moved" "_law_moved" s__law_moved f fd) (z_len : mg "len" = none) (z_tuple : mg "tuple" = none) :
    FnOk P w K mg base CX0 1 f fd ["word", "number"] (spOf K sp__law_moved) :=
  Fun.okD F sc__law_moved len__law_moved fun cdv A outer s H E hr => have nd := sc__law_moved.nd; ⟨_, r__law_moved,
 (sss_cons (ss_set (i := 2) nd rfl (.inl rfl) (se_lst sa_nil))
 (sss_cons (ss_for PassesOwn.never rfl (si_iter (sv 0)) (sg_name (i := 3) nd rfl (.inl rfl))
 (sss_gc (sss_cons (ss_set (i := 4) nd rfl (.inl rfl) (se_op so_sub (se_callB sc_len (by rfl) z_len (by decide +kernel) (sa_cons (se_ix (sv 3) se_int (fun _ _ => rfl)) sa_nil)) se_int))
 (sss_one (ss_expr (se_append (sv 2) (sa_cons (se_tup (sa_cons (se_op so_add (se_slice (se_ix (sv 3) se_int (fun _ _ => rfl)) so_none (so_some (sv 4))) (se_tup (sa_cons (se_op so_add (se_ix (se_ix (sv 3) se_int (fun _ _ => rfl)) (sv 4) (fun _ _ => rfl)) (sv 1)) sa_nil))) (sa_cons (se_ix (sv 3) se_int (fun _ _ => rfl)) sa_nil))) sa_nil)))))))
 (sss_one (ss_ret (se_callTy sc_tuple (by rfl) z_tuple (by decide +kernel) (sa_cons (sv 2) sa_nil)))))), read__law_moved⟩
theorem ok_power (F : Fun K "power" "power" s_power f fd) {f_inverse : Addr} {fd_inverse : FuncData} (G_inverse : FnOk P w K mg base CX0 1 f_inverse fd_inverse ["word"] (spOf K sp_inverse)) (m_inverse : mg "inverse" = some (.ref f_inverse)) (k_inverse : PySem.W.keepIn K (.ref f_inverse) = true) (b_inverse : Binds K fd_inverse ["word"] []) {f_reduced : Addr} {fd_reduced : FuncData} (G_reduced : FnOk P w K mg base CX0 1 f_reduced fd_reduced ["pairs"] (spOf K sp_reduced)) (m_reduced : mg "reduced" = some (.ref f_reduced)) (k_reduced : PySem.W.keepIn K (.ref f_reduced) = true) (b_reduced : Binds K fd_reduced ["pairs"] []) (z_len : mg "len" = none) (z_abs : mg "abs" = none) :
    FnOk P w K mg base CX0 2 f fd ["word", "exponent"] (spOf K sp_power) :=
  Fun.okD F sc_power len_power fun cdv A outer s H E hr => have nd := sc_power.nd; ⟨_, r_power,
 (sss_cons (ss_if (SW.st (sw_or (st_cmp (so_eq hr) (sv 0) (se_tup sa_nil) (nomark _)) (sw_or1 (st_cmp (so_eq hr) (sv 1) se_int (nomark _)))))
 (sss_one (ss_ret (se_tup sa_nil)))
 sss_nil)
 (sss_cons (ss_if (st_cmp (so_eq hr) (se_callB sc_len (by rfl) z_len (by decide +kernel) (sa_cons (sv 0) sa_nil)) se_int (nomark _))
 (sss_cons (ss_asg (se_ix (sv 0) se_int (fun _ _ => rfl)) (sg_tup rfl (sgs_cons (sg_name (i := 2) nd rfl (.inl rfl)) (sgs_cons (sg_name (i := 3) nd rfl (.inl rfl)) sgs_nil))))
 (sss_one (ss_ret (se_tup (sa_cons (se_tup (sa_cons (sv 2) (sa_cons (se_op so_mul (sv 3) (sv 1)) sa_nil))) sa_nil)))))
 sss_nil)
 (sss_cons (ss_set (i := 4) nd rfl (.inl rfl) (se_if (st_cmp so_gt (sv 1) se_int (nomark _)) (sv 0) (se_call G_inverse (hr.mono (by decide)) (by rfl) m_inverse k_inverse b_inverse (sa_cons (sv 0) sa_nil))))
 (sss_one (ss_ret (se_call G_reduced (hr.mono (by decide)) (by rfl) m_reduced k_reduced b_reduced (sa_cons (se_op so_mulT (sv 4) (se_callB sc_abs (by rfl) z_abs (by decide +kernel) (sa_cons (sv 1) sa_nil))) sa_nil))))))), read_power⟩
theorem ok_shifted (F : Fun K "shifted" "shifted" s_shifted f fd) {f_raised : Addr} {fd_raised : FuncData} (G_raised : FnOk P w K mg base CX0 1 f_raised fd_raised ["letter", "height"] (spOf K sp_raised)) (m_raised : mg "raised" = some (.ref f_raised)) (k_raised : PySem.W.keepIn K (.ref f_raised) = true) (b_raised : Binds K fd_raised ["letter", "height"] []) {f_last_height : Addr} {fd_last_height : FuncData} (G_last_height : FnOk P w K mg base CX0 1 f_last_height fd_last_height ["letter"] (spOf K sp_last_height)) (m_last_height : mg "last_height" = some (.ref f_last_height)) (k_last_height : PySem.W.keepIn K (.ref f_last_height) = true) (b_last_height : Binds K fd_last_height ["letter"] []) {f_lowered : Addr} {fd_lowered : FuncData} (G_lowered : FnOk P w K mg base CX0 1 f_lowered fd_lowered ["letter"] (spOf K sp_lowered)) (m_lowered : mg "lowered" = some (.ref f_lowered)) (k_lowered : PySem.W.keepIn K (.ref f_lowered) = true) (b_lowered : Binds K fd_lowered ["letter"] []) (z_tuple : mg "tuple" = none) :
    FnOk P w K mg base CX0 2 f fd ["word", "by"] (spOf K sp_shifted) :=
  Fun.okD F sc_shifted len_shifted fun cdv A outer s H E hr => have nd := sc_shifted.nd; ⟨_, r_shifted,
 (sss_one (ss_ret (se_callTy sc_tuple (by rfl) z_tuple (by decide +kernel) (sa_cons (se_lc (own := [("letter", 2), ("exponent", 3)]) rfl nd (si_iter (sv 0)) (blkOk_by (N := N_shifted) (sc := defScope s_shifted) (by decide +kernel)) (own_tup (owns_cons mono_name (own_name (by decide)) (owns_cons mono_name (own_name (by decide)) owns_nil))) (fun _ _ _ _ _ => (sg_tup rfl (sgs_cons (sg_name (i := 2) nd rfl (by first | exact .inl rfl | exact .inr rfl)) (sgs_cons (sg_name (i := 3) nd rfl (by first | exact .inl rfl | exact .inr rfl)) sgs_nil)))) (fun _ _ _ _ _ => sts_nil) (fun _ _ _ _ _ => (se_tup (sa_cons (se_call G_raised (hr.mono (by decide)) (by rfl) m_raised k_raised b_raised (sa_cons (se_call G_lowered (hr.mono (by decide)) (by rfl) m_lowered k_lowered b_lowered (sa_cons (sv 2) sa_nil)) (sa_cons (se_op so_add (se_call G_last_height (hr.mono (by decide)) (by rfl) m_last_height k_last_height b_last_height (sa_cons (sv 2) sa_nil)) (sv 1)) sa_nil))) (sa_cons (sv 3) sa_nil))))) sa_nil)))), read_shifted⟩
theorem ok__law_is_letter (F : Fun K "_law_is_letter" "_law_is_letter" s__law_is_letter f fd) {f__law_is_whole : Addr} {fd__law_is_whole : FuncData} (G__law_is_whole : FnOk P w K mg base CX0 1 f__law_is_whole fd__law_is_whole ["value"] (spOf K sp__law_is_whole)) (m__law_is_whole : mg "_law_is_whole" = some (.ref f__law_is_whole)) (k__law_is_whole : PySem.W.keepIn K (.ref f__law_is_whole) = true) (b__law_is_whole : Binds K fd__law_is_whole ["value"] []) (z_tuple : mg "tuple" = none) (z_isinstance : mg "isinstance" = none) (z_len : mg "len" = none) (z_str : mg "str" = none) :
    FnOk P w K mg base CX0 2 f fd ["value"] (spOf K sp__law_is_letter) :=
  Fun.okD F sc__law_is_letter len__law_is_letter fun cdv A outer s H E hr => have nd := sc__law_is_letter.nd; ⟨_, r__law_is_letter,
 (sss_cons (ss_if (SW.st (sw_or (st_not (st_truth (se_callB sc_isi (by rfl) z_isinstance (by decide +kernel) (sa_cons (sv 0) (sa_cons (se_bltn (n := "tuple") (by rfl) z_tuple (by decide +kernel) rfl) sa_nil))))) (sw_or (st_cmp (so_eq hr) (se_callB sc_len (by rfl) z_len (by decide +kernel) (sa_cons (sv 0) sa_nil)) se_int (nomark _)) (sw_or1 (st_not (st_truth (se_callB sc_isi (by rfl) z_isinstance (by decide +kernel) (sa_cons (se_ix (sv 0) se_int (fun _ _ => rfl)) (sa_cons (se_bltn (n := "str") (by rfl) z_str (by decide +kernel) rfl) sa_nil)))))))))
 (sss_one (ss_ret se_bl))
 sss_nil)
 (sss_cons (ss_for PassesOwn.never rfl (si_iter (se_slice (sv 0) (so_some se_int) so_none)) (sg_name (i := 1) nd rfl (.inl rfl))
 (sss_one (ss_if (st_not (st_truth (se_call G__law_is_whole (hr.mono (by decide)) (by rfl) m__law_is_whole k__law_is_whole b__law_is_whole (sa_cons (sv 1) sa_nil))))
 (sss_one (ss_ret se_bl))
 sss_nil)))
 (sss_one (ss_ret se_bl)))), read__law_is_letter⟩
theorem ok__law_depth (F : Fun K "_law_depth" "_law_depth" s__law_depth f fd) {f__law_draw : Addr} {fd__law_draw : FuncData} (G__law_draw : FnOk P w K mg base CX0 1 f__law_draw fd__law_draw ["pool", "many"] (spOf K sp__law_draw)) (m__law_draw : mg "_law_draw" = some (.ref f__law_draw)) (k__law_draw : PySem.W.keepIn K (.ref f__law_draw) = true) (b__law_draw : Binds K fd__law_draw ["pool", "many"] []) (z_max : mg "max" = none) :
    FnOk P w K mg base CX0 2 f fd ["pool", "least"] (spOf K sp__law_depth) :=
  Fun.okD F sc__law_depth len__law_depth fun cdv A outer s H E hr => have nd := sc__law_depth.nd; ⟨_, r__law_depth,
 (sss_one (ss_ret (se_callB (sc_max rfl) (by rfl) z_max (by decide +kernel) (sa_cons (sv 1) (sa_cons (se_ix (se_lst (sa_cons se_int (sa_cons se_int (sa_cons se_int (sa_cons se_int (sa_cons se_int (sa_cons se_int (sa_cons se_int (sa_cons se_int (sa_cons se_int sa_nil)))))))))) (se_call G__law_draw (hr.mono (by decide)) (by rfl) m__law_draw k__law_draw b__law_draw (sa_cons (sv 0) (sa_cons se_int sa_nil))) (fun _ _ => rfl)) sa_nil))))), read__law_depth⟩
theorem ok__law_alphabet (F : Fun K "_law_alphabet" "_law_alphabet" s__law_alphabet f fd) {f__law_draw : Addr} {fd__law_draw : FuncData} (G__law_draw : FnOk P w K mg base CX0 1 f__law_draw fd__law_draw ["pool", "many"] (spOf K sp__law_draw)) (m__law_draw : mg "_law_draw" = some (.ref f__law_draw)) (k__law_draw : PySem.W.keepIn K (.ref f__law_draw) = true) (b__law_draw : Binds K fd__law_draw ["pool", "many"] []) (z_range : mg "range" = none) (z_len : mg "len" = none) (z_list : mg "list" = none) (z_tuple : mg "tuple" = none) :
    FnOk P w K mg base CX0 2 f fd ["pool", "most", "depth"] (spOf K sp__law_alphabet) :=
  Fun.okD F sc__law_alphabet len__law_alphabet fun cdv A outer s H E hr => have nd := sc__law_alphabet.nd; ⟨_, r__law_alphabet,
 (sss_cons (ss_set (i := 3) nd rfl (.inl rfl) se_str)
 (sss_cons (ss_set (i := 4) nd rfl (.inl rfl) (se_call G__law_draw (hr.mono (by decide)) (by rfl) m__law_draw k__law_draw b__law_draw (sa_cons (sv 0) (sa_cons se_int sa_nil))))
 (sss_cons (ss_set (i := 5) nd rfl (.inl rfl) (se_call G__law_draw (hr.mono (by decide)) (by rfl) m__law_draw k__law_draw b__law_draw (sa_cons (sv 0) (sa_cons se_int sa_nil))))
 (sss_cons (ss_set (i := 6) nd rfl (.inl rfl) (se_lst sa_nil))
 (sss_cons (ss_for PassesOwn.never rfl (si_range1 (by rfl) z_range (sa_cons (se_op so_add se_int (se_call G__law_draw (hr.mono (by decide)) (by rfl) m__law_draw k__law_draw b__law_draw (sa_cons (sv 0) (sa_cons (sv 1) sa_nil)))) sa_nil)) (sg_name (i := 7) nd rfl (.inl rfl))
 (sss_gc (sss_cons (ss_set (i := 8) nd rfl (.inl rfl) (se_lst (sa_cons (se_ix (sv 3) (se_call G__law_draw (hr.mono (by decide)) (by rfl) m__law_draw k__law_draw b__law_draw (sa_cons (sv 0) (sa_cons se_int sa_nil))) (fun _ _ => rfl)) sa_nil)))
 (sss_cons (ss_for PassesOwn.never rfl (si_range1 (by rfl) z_range (sa_cons (sv 2) sa_nil)) (sg_name (i := 9) nd rfl (.inl rfl))
 (sss_gc (sss_cons (ss_set (i := 10) nd rfl (.inl rfl) (se_ix (se_lst (sa_cons (se_op so_sub se_int se_int) (sa_cons (se_op so_sub se_int se_int) (sa_cons se_int (sa_cons se_int (sa_cons se_int sa_nil)))))) (se_call G__law_draw (hr.mono (by decide)) (by rfl) m__law_draw k__law_draw b__law_draw (sa_cons (sv 0) (sa_cons se_int sa_nil))) (fun _ _ => rfl)))
 (sss_cons (ss_if (st_cmp (so_eq hr) (sv 4) se_int (nomark _))
 (sss_one (ss_set (i := 10) nd rfl (.inl rfl) (se_op so_sub (se_call G__law_draw (hr.mono (by decide)) (by rfl) m__law_draw k__law_draw b__law_draw (sa_cons (sv 0) (sa_cons se_int sa_nil))) se_int)))
 sss_nil)
 (sss_one (ss_expr (se_append (sv 8) (sa_cons (sv 10) sa_nil))))))))
 (sss_cons (ss_if (SW.st (sw_and (st_cmp (so_eq hr) (sv 5) se_int (nomark _)) (sw_and1 (st_cmp so_gt (se_callB sc_len (by rfl) z_len (by decide +kernel) (sa_cons (sv 6) sa_nil)) se_int (nomark _)))))
 (sss_cons (ss_set (i := 11) nd rfl (.inl rfl) (se_call G__law_draw (hr.mono (by decide)) (by rfl) m__law_draw k__law_draw b__law_draw (sa_cons (sv 0) (sa_cons (se_op so_add (sv 2) se_int) sa_nil))))
 (sss_one (ss_set (i := 8) nd rfl (.inl rfl) (se_op so_add (se_op so_add (se_callTy sc_list (by rfl) z_list (by decide +kernel) (sa_cons (se_slice (se_ix (sv 6) se_int (fun _ _ => rfl)) so_none (so_some (sv 11))) sa_nil)) (se_lst (sa_cons (se_ix (sv 8) (sv 11) (fun _ _ => rfl)) sa_nil))) (se_callTy sc_list (by rfl) z_list (by decide +kernel) (sa_cons (se_slice (se_ix (sv 6) se_int (fun _ _ => rfl)) (so_some (se_op so_add (sv 11) se_int)) so_none) sa_nil))))))
 sss_nil)
 (sss_one (ss_if (st_cmp (so_notIn hr) (se_callTy sc_tuple (by rfl) z_tuple (by decide +kernel) (sa_cons (sv 8) sa_nil)) (sv 6) (by rfl))
 (sss_one (ss_expr (se_append (sv 6) (sa_cons (se_callTy sc_tuple (by rfl) z_tuple (by decide +kernel) (sa_cons (sv 8) sa_nil)) sa_nil))))
 sss_nil)))))))
 (sss_one (ss_ret (sv 6)))))))), read__law_alphabet⟩
theorem ok__law_exponent (F : Fun K "_law_exponent" "_law_exponent" s__law_exponent f fd) {f__law_draw : Addr} {fd__law_draw : FuncData} (G__law_draw : FnOk P w K mg base CX0 1 f__law_draw fd__law_draw ["pool", "many"] (spOf K sp__law_draw)) (m__law_draw : mg "_law_draw" = some (.ref f__law_draw)) (k__law_draw : PySem.W.keepIn K (.ref f__law_draw) = true) (b__law_draw : Binds K fd__law_draw ["pool", "many"] []) :
    FnOk P w K mg base CX0 2 f fd ["pool", "great"] (spOf K sp__law_exponent) :=
  Fun.okD F sc__law_exponent len__law_exponent fun cdv A outer s H E hr => have nd := sc__law_exponent.nd; ⟨_, r__law_exponent,
 (sss_cons (ss_set (i := 2) nd rfl (.inl rfl) (se_op so_add se_int (se_call G__law_draw (hr.mono (by decide)) (by rfl) m__law_draw k__law_draw b__law_draw (sa_cons (sv 0) (sa_cons se_int sa_nil)))))
 (sss_cons (ss_set (i := 3) nd rfl (.inl rfl) (se_call G__law_draw (hr.mono (by decide)) (by rfl) m__law_draw k__law_draw b__law_draw (sa_cons (sv 0) (sa_cons (se_op so_add se_int (se_op so_mul se_int (sv 1))) sa_nil))))
 (sss_cons (ss_if (st_cmp (so_eq hr) (sv 3) se_int (nomark _))
 (sss_one (ss_set (i := 2) nd rfl (.inl rfl) (se_op so_add se_int (se_call G__law_draw (hr.mono (by decide)) (by rfl) m__law_draw k__law_draw b__law_draw (sa_cons (sv 0) (sa_cons (se_op so_sub (se_op so_pow se_int se_int) se_int) sa_nil))))))
 sss_nil)
 (sss_cons (ss_if (st_cmp (so_eq hr) (sv 3) se_int (nomark _))
 (sss_one (ss_set (i := 2) nd rfl (.inl rfl) (se_op so_sub (se_op so_sub (se_op so_pow se_int se_int) se_int) (se_call G__law_draw (hr.mono (by decide)) (by rfl) m__law_draw k__law_draw b__law_draw (sa_cons (sv 0) (sa_cons (se_op so_sub (se_op so_pow se_int se_int) se_int) sa_nil))))))
 sss_nil)
 (sss_one (ss_ret (se_op so_mul (sv 2) (se_op so_sub se_int (se_op so_mul se_int (se_call G__law_draw (hr.mono (by decide)) (by rfl) m__law_draw k__law_draw b__law_draw (sa_cons (sv 0) (sa_cons se_int sa_nil)))))))))))), read__law_exponent⟩
theorem ok__law_put_for (F : Fun K "_law_put_for" "_law_put_for" s__law_put_for f fd) {f__law_back : Addr} {fd__law_back : FuncData} (G__law_back : FnOk P w K mg base CX0 1 f__law_back fd__law_back ["word"] (spOf K sp__law_back)) (m__law_back : mg "_law_back" = some (.ref f__law_back)) (k__law_back : PySem.W.keepIn K (.ref f__law_back) = true) (b__law_back : Binds K fd__law_back ["word"] []) {f__law_walked : Addr} {fd__law_walked : FuncData} (G__law_walked : FnOk P w K mg base CX0 1 f__law_walked fd__law_walked ["pairs"] (spOf K sp__law_walked)) (m__law_walked : mg "_law_walked" = some (.ref f__law_walked)) (k__law_walked : PySem.W.keepIn K (.ref f__law_walked) = true) (b__law_walked : Binds K fd__law_walked ["pairs"] []) (z_list : mg "list" = none) (z_abs : mg "abs" = none) (z_min : mg "min" = none) (z_range : mg "range" = none) :
    FnOk P w K mg base CX0 2 f fd ["word", "one", "image"] (spOf K sp__law_put_for) :=
  Fun.okD F sc__law_put_for len__law_put_for fun cdv A outer s H E hr => have nd := sc__law_put_for.nd; ⟨_, r__law_put_for,
 (sss_cons (ss_set (i := 3) nd rfl (.inl rfl) (se_lst sa_nil))
 (sss_cons (ss_for PassesOwn.never rfl (si_iter (sv 0)) (sg_name (i := 4) nd rfl (.inl rfl))
 (sss_gc (sss_cons (ss_set (i := 5) nd rfl (.inl rfl) (se_callTy sc_list (by rfl) z_list (by decide +kernel) (sa_cons (sv 2) sa_nil)))
 (sss_cons (ss_if (st_cmp so_lt (se_ix (sv 4) se_int (fun _ _ => rfl)) se_int (nomark _))
 (sss_one (ss_set (i := 5) nd rfl (.inl rfl) (se_callTy sc_list (by rfl) z_list (by decide +kernel) (sa_cons (se_call G__law_back (hr.mono (by decide)) (by rfl) m__law_back k__law_back b__law_back (sa_cons (sv 2) sa_nil)) sa_nil))))
 sss_nil)
 (sss_one (ss_if (st_cmp (so_eq hr) (se_ix (sv 4) se_int (fun _ _ => rfl)) (sv 1) (nomark _))
 (sss_one (ss_for PassesOwn.never rfl (si_range1 (by rfl) z_range (sa_cons (se_callB (sc_min rfl) (by rfl) z_min (by decide +kernel) (sa_cons (se_callB sc_abs (by rfl) z_abs (by decide +kernel) (sa_cons (se_ix (sv 4) se_int (fun _ _ => rfl)) sa_nil)) (sa_cons se_int sa_nil))) sa_nil)) (sg_name (i := 6) nd rfl (.inl rfl))
 (sss_one (ss_expr (se_extend (sv 3) (sa_cons (sv 5) sa_nil))))))
 (sss_one (ss_expr (se_append (sv 3) (sa_cons (sv 4) sa_nil))))))))))
 (sss_one (ss_ret (se_call G__law_walked (hr.mono (by decide)) (by rfl) m__law_walked k__law_walked b__law_walked (sa_cons (sv 3) sa_nil)))))), read__law_put_for⟩
theorem ok__law_height_is (F : Fun K "_law_height_is" "_law_height_is" s__law_height_is f fd) {f__law_is_whole : Addr} {fd__law_is_whole : FuncData} (G__law_is_whole : FnOk P w K mg base CX0 1 f__law_is_whole fd__law_is_whole ["value"] (spOf K sp__law_is_whole)) (m__law_is_whole : mg "_law_is_whole" = some (.ref f__law_is_whole)) (k__law_is_whole : PySem.W.keepIn K (.ref f__law_is_whole) = true) (b__law_is_whole : Binds K fd__law_is_whole ["value"] []) {f_last_height : Addr} {fd_last_height : FuncData} (G_last_height : FnOk P w K mg base CX0 1 f_last_height fd_last_height ["letter"] (spOf K sp_last_height)) (m_last_height : mg "last_height" = some (.ref f_last_height)) (k_last_height : PySem.W.keepIn K (.ref f_last_height) = true) (b_last_height : Binds K fd_last_height ["letter"] []) :
    FnOk P w K mg base CX0 2 f fd ["one", "number"] (spOf K sp__law_height_is) :=
  Fun.okD F sc__law_height_is len__law_height_is fun cdv A outer s H E hr => have nd := sc__law_height_is.nd; ⟨_, r__law_height_is,
 (sss_one (ss_ret (se_and (se_call G__law_is_whole (hr.mono (by decide)) (by rfl) m__law_is_whole k__law_is_whole b__law_is_whole (sa_cons (se_call G_last_height (hr.mono (by decide)) (by rfl) m_last_height k_last_height b_last_height (sa_cons (sv 0) sa_nil)) sa_nil)) (se_one (se_cmp (so_eq hr) (se_call G_last_height (hr.mono (by decide)) (by rfl) m_last_height k_last_height b_last_height (sa_cons (sv 0) sa_nil)) (sv 1) (nomark _)))))), read__law_height_is⟩
theorem ok_substitute (F : Fun K "substitute" "substitute" s_substitute f fd) {f_power : Addr} {fd_power : FuncData} (G_power : FnOk P w K mg base CX0 2 f_power fd_power ["word", "exponent"] (spOf K sp_power)) (m_power : mg "power" = some (.ref f_power)) (k_power : PySem.W.keepIn K (.ref f_power) = true) (b_power : Binds K fd_power ["word", "exponent"] []) {f_reduced : Addr} {fd_reduced : FuncData} (G_reduced : FnOk P w K mg base CX0 1 f_reduced fd_reduced ["pairs"] (spOf K sp_reduced)) (m_reduced : mg "reduced" = some (.ref f_reduced)) (k_reduced : PySem.W.keepIn K (.ref f_reduced) = true) (b_reduced : Binds K fd_reduced ["pairs"] []) :
    FnOk P w K mg base CX0 3 f fd ["word", "letter", "image"] (spOf K sp_substitute) :=
  Fun.okD F sc_substitute len_substitute fun cdv A outer s H E hr => have nd := sc_substitute.nd; ⟨_, r_substitute,
 (sss_cons (ss_set (i := 3) nd rfl (.inl rfl) (se_lst sa_nil))
 (sss_cons (ss_for PassesOwn.never rfl (si_iter (sv 0)) (sg_name (i := 4) nd rfl (.inl rfl))
 (sss_one (ss_if (st_cmp (so_eq hr) (se_ix (sv 4) se_int (fun _ _ => rfl)) (sv 1) (nomark _))
 (sss_one (ss_expr (se_extendT (sv 3) (sa_cons (se_call G_power (hr.mono (by decide)) (by rfl) m_power k_power b_power (sa_cons (sv 2) (sa_cons (se_ix (sv 4) se_int (fun _ _ => rfl)) sa_nil))) sa_nil))))
 (sss_one (ss_expr (se_append (sv 3) (sa_cons (sv 4) sa_nil)))))))
 (sss_one (ss_ret (se_call G_reduced (hr.mono (by decide)) (by rfl) m_reduced k_reduced b_reduced (sa_cons (sv 3) sa_nil)))))), read_substitute⟩
theorem ok__law_is_word (F : Fun K "_law_is_word" "_law_is_word" s__law_is_word f fd) {f__law_is_letter : Addr} {fd__law_is_letter : FuncData} (G__law_is_letter : FnOk P w K mg base CX0 2 f__law_is_letter fd__law_is_letter ["value"] (spOf K sp__law_is_letter)) (m__law_is_letter : mg "_law_is_letter" = some (.ref f__law_is_letter)) (k__law_is_letter : PySem.W.keepIn K (.ref f__law_is_letter) = true) (b__law_is_letter : Binds K fd__law_is_letter ["value"] []) {f__law_is_whole : Addr} {fd__law_is_whole : FuncData} (G__law_is_whole : FnOk P w K mg base CX0 1 f__law_is_whole fd__law_is_whole ["value"] (spOf K sp__law_is_whole)) (m__law_is_whole : mg "_law_is_whole" = some (.ref f__law_is_whole)) (k__law_is_whole : PySem.W.keepIn K (.ref f__law_is_whole) = true) (b__law_is_whole : Binds K fd__law_is_whole ["value"] []) (z_tuple : mg "tuple" = none) (z_isinstance : mg "isinstance" = none) (z_len : mg "len" = none) :
    FnOk P w K mg base CX0 3 f fd ["value"] (spOf K sp__law_is_word) :=
  Fun.okD F sc__law_is_word len__law_is_word fun cdv A outer s H E hr => have nd := sc__law_is_word.nd; ⟨_, r__law_is_word,
 (sss_cons (ss_if (st_not (st_truth (se_callB sc_isi (by rfl) z_isinstance (by decide +kernel) (sa_cons (sv 0) (sa_cons (se_bltn (n := "tuple") (by rfl) z_tuple (by decide +kernel) rfl) sa_nil)))))
 (sss_one (ss_ret se_bl))
 sss_nil)
 (sss_cons (ss_set (i := 1) nd rfl (.inl rfl) (se_tup sa_nil))
 (sss_cons (ss_for PassesOwn.never rfl (si_iter (sv 0)) (sg_name (i := 2) nd rfl (.inl rfl))
 (sss_cons (ss_if (SW.st (sw_or (st_not (st_truth (se_callB sc_isi (by rfl) z_isinstance (by decide +kernel) (sa_cons (sv 2) (sa_cons (se_bltn (n := "tuple") (by rfl) z_tuple (by decide +kernel) rfl) sa_nil))))) (sw_or1 (st_cmp (so_ne hr) (se_callB sc_len (by rfl) z_len (by decide +kernel) (sa_cons (sv 2) sa_nil)) se_int (nomark _)))))
 (sss_one (ss_ret se_bl))
 sss_nil)
 (sss_cons (ss_if (SW.st (sw_or (st_not (st_truth (se_call G__law_is_letter (hr.mono (by decide)) (by rfl) m__law_is_letter k__law_is_letter b__law_is_letter (sa_cons (se_ix (sv 2) se_int (fun _ _ => rfl)) sa_nil)))) (sw_or1 (st_not (st_truth (se_call G__law_is_whole (hr.mono (by decide)) (by rfl) m__law_is_whole k__law_is_whole b__law_is_whole (sa_cons (se_ix (sv 2) se_int (fun _ _ => rfl)) sa_nil)))))))
 (sss_one (ss_ret se_bl))
 sss_nil)
 (sss_cons (ss_if (SW.st (sw_or (st_cmp (so_eq hr) (se_ix (sv 2) se_int (fun _ _ => rfl)) se_int (nomark _)) (sw_or1 (st_cmp (so_eq hr) (se_ix (sv 2) se_int (fun _ _ => rfl)) (sv 1) (nomark _)))))
 (sss_one (ss_ret se_bl))
 sss_nil)
 (sss_one (ss_set (i := 1) nd rfl (.inl rfl) (se_ix (sv 2) se_int (fun _ _ => rfl))))))))
 (sss_one (ss_ret se_bl))))), read__law_is_word⟩
theorem ok__law_runs (F : Fun K "_law_runs" "_law_runs" s__law_runs f fd) {f__law_draw : Addr} {fd__law_draw : FuncData} (G__law_draw : FnOk P w K mg base CX0 1 f__law_draw fd__law_draw ["pool", "many"] (spOf K sp__law_draw)) (m__law_draw : mg "_law_draw" = some (.ref f__law_draw)) (k__law_draw : PySem.W.keepIn K (.ref f__law_draw) = true) (b__law_draw : Binds K fd__law_draw ["pool", "many"] []) {f__law_exponent : Addr} {fd__law_exponent : FuncData} (G__law_exponent : FnOk P w K mg base CX0 2 f__law_exponent fd__law_exponent ["pool", "great"] (spOf K sp__law_exponent)) (m__law_exponent : mg "_law_exponent" = some (.ref f__law_exponent)) (k__law_exponent : PySem.W.keepIn K (.ref f__law_exponent) = true) (b__law_exponent : Binds K fd__law_exponent ["pool", "great"] []) (z_range : mg "range" = none) (z_len : mg "len" = none) (z_tuple : mg "tuple" = none) :
    FnOk P w K mg base CX0 3 f fd ["pool", "alphabet", "most", "great", "chosen", "limit"] (spOf K sp__law_runs) :=
  Fun.okD F sc__law_runs len__law_runs fun cdv A outer s H E hr => have nd := sc__law_runs.nd; ⟨_, r__law_runs,
 (sss_cons (ss_set (i := 6) nd rfl (.inl rfl) (se_lst sa_nil))
 (sss_cons (ss_for PassesOwn.never rfl (si_range1 (by rfl) z_range (sa_cons (se_call G__law_draw (hr.mono (by decide)) (by rfl) m__law_draw k__law_draw b__law_draw (sa_cons (sv 0) (sa_cons (se_op so_add (sv 2) se_int) sa_nil))) sa_nil)) (sg_name (i := 7) nd rfl (.inl rfl))
 (sss_cons (ss_set (i := 8) nd rfl (.inl rfl) (se_ix (sv 1) (se_call G__law_draw (hr.mono (by decide)) (by rfl) m__law_draw k__law_draw b__law_draw (sa_cons (sv 0) (sa_cons (se_callB sc_len (by rfl) z_len (by decide +kernel) (sa_cons (sv 1) sa_nil)) sa_nil))) (fun _ _ => rfl)))
 (sss_cons (ss_set (i := 9) nd rfl (.inl rfl) (se_call G__law_exponent (hr.mono (by decide)) (by rfl) m__law_exponent k__law_exponent b__law_exponent (sa_cons (sv 0) (sa_cons (sv 3) sa_nil))))
 (sss_cons (ss_if (st_cmp (so_eq hr) (sv 8) (sv 4) (nomark _))
 (sss_one (ss_set (i := 9) nd rfl (.inl rfl) (se_op so_mul (se_op so_add se_int (se_call G__law_draw (hr.mono (by decide)) (by rfl) m__law_draw k__law_draw b__law_draw (sa_cons (sv 0) (sa_cons (sv 5) sa_nil)))) (se_op so_sub se_int (se_op so_mul se_int (se_call G__law_draw (hr.mono (by decide)) (by rfl) m__law_draw k__law_draw b__law_draw (sa_cons (sv 0) (sa_cons se_int sa_nil))))))))
 sss_nil)
 (sss_one (ss_if (SW.st (sw_or (st_cmp (so_eq hr) (se_callB sc_len (by rfl) z_len (by decide +kernel) (sa_cons (sv 6) sa_nil)) se_int (nomark _)) (sw_or1 (st_cmp (so_ne hr) (se_ix (se_ix (sv 6) (se_un su_neg se_int) (fun _ _ => rfl)) se_int (fun _ _ => rfl)) (sv 8) (nomark _)))))
 (sss_one (ss_expr (se_append (sv 6) (sa_cons (se_tup (sa_cons (sv 8) (sa_cons (sv 9) sa_nil))) sa_nil))))
 sss_nil))))))
 (sss_one (ss_ret (se_callTy sc_tuple (by rfl) z_tuple (by decide +kernel) (sa_cons (sv 6) sa_nil)))))), read__law_runs⟩
theorem ok__law_letter_is (F : Fun K "_law_letter_is" "_law_letter_is" s__law_letter_is f fd) {f__law_is_letter : Addr} {fd__law_is_letter : FuncData} (G__law_is_letter : FnOk P w K mg base CX0 2 f__law_is_letter fd__law_is_letter ["value"] (spOf K sp__law_is_letter)) (m__law_is_letter : mg "_law_is_letter" = some (.ref f__law_is_letter)) (k__law_is_letter : PySem.W.keepIn K (.ref f__law_is_letter) = true) (b__law_is_letter : Binds K fd__law_is_letter ["value"] []) :
    FnOk P w K mg base CX0 3 f fd ["actual", "due"] (spOf K sp__law_letter_is) :=
  Fun.okD F sc__law_letter_is len__law_letter_is fun cdv A outer s H E hr => have nd := sc__law_letter_is.nd; ⟨_, r__law_letter_is,
 (sss_one (ss_ret (se_and (se_call G__law_is_letter (hr.mono (by decide)) (by rfl) m__law_is_letter k__law_is_letter b__law_is_letter (sa_cons (sv 0) sa_nil)) (se_one (se_cmp (so_eq hr) (sv 0) (sv 1) (nomark _)))))), read__law_letter_is⟩
theorem ok__law_word_is (F : Fun K "_law_word_is" "_law_word_is" s__law_word_is f fd) {f__law_is_word : Addr} {fd__law_is_word : FuncData} (G__law_is_word : FnOk P w K mg base CX0 3 f__law_is_word fd__law_is_word ["value"] (spOf K sp__law_is_word)) (m__law_is_word : mg "_law_is_word" = some (.ref f__law_is_word)) (k__law_is_word : PySem.W.keepIn K (.ref f__law_is_word) = true) (b__law_is_word : Binds K fd__law_is_word ["value"] []) :
    FnOk P w K mg base CX0 4 f fd ["actual", "due"] (spOf K sp__law_word_is) :=
  Fun.okD F sc__law_word_is len__law_word_is fun cdv A outer s H E hr => have nd := sc__law_word_is.nd; ⟨_, r__law_word_is,
 (sss_one (ss_ret (se_and (se_call G__law_is_word (hr.mono (by decide)) (by rfl) m__law_is_word k__law_is_word b__law_is_word (sa_cons (sv 0) sa_nil)) (se_one (se_cmp (so_eq hr) (sv 0) (sv 1) (nomark _)))))), read__law_word_is⟩
theorem ok__law_rises (F : Fun K "_law_rises" "_law_rises" s__law_rises f fd) {f_raised : Addr} {fd_raised : FuncData} (G_raised : FnOk P w K mg base CX0 1 f_raised fd_raised ["letter", "height"] (spOf K sp_raised)) (m_raised : mg "raised" = some (.ref f_raised)) (k_raised : PySem.W.keepIn K (.ref f_raised) = true) (b_raised : Binds K fd_raised ["letter", "height"] []) {f__law_letter_is : Addr} {fd__law_letter_is : FuncData} (G__law_letter_is : FnOk P w K mg base CX0 3 f__law_letter_is fd__law_letter_is ["actual", "due"] (spOf K sp__law_letter_is)) (m__law_letter_is : mg "_law_letter_is" = some (.ref f__law_letter_is)) (k__law_letter_is : PySem.W.keepIn K (.ref f__law_letter_is) = true) (b__law_letter_is : Binds K fd__law_letter_is ["actual", "due"] []) {f_lowered : Addr} {fd_lowered : FuncData} (G_lowered : FnOk P w K mg base CX0 1 f_lowered fd_lowered ["letter"] (spOf K sp_lowered)) (m_lowered : mg "lowered" = some (.ref f_lowered)) (k_lowered : PySem.W.keepIn K (.ref f_lowered) = true) (b_lowered : Binds K fd_lowered ["letter"] []) {f__law_height_is : Addr} {fd__law_height_is : FuncData} (G__law_height_is : FnOk P w K mg base CX0 2 f__law_height_is fd__law_height_is ["one", "number"] (spOf K sp__law_height_is)) (m__law_height_is : mg "_law_height_is" = some (.ref f__law_height_is)) (k__law_height_is : PySem.W.keepIn K (.ref f__law_height_is) = true) (b__law_height_is : Binds K fd__law_height_is ["one", "number"] []) :
    FnOk P w K mg base CX0 4 f fd ["one", "number"] (spOf K sp__law_rises) :=
  Fun.okD F sc__law_rises len__law_rises fun cdv A outer s H E hr => have nd := sc__law_rises.nd; ⟨_, r__law_rises,
 (sss_cons (ss_set (i := 2) nd rfl (.inl rfl) (se_call G_raised (hr.mono (by decide)) (by rfl) m_raised k_raised b_raised (sa_cons (sv 0) (sa_cons (sv 1) sa_nil))))
 (sss_cons (ss_if (st_not (st_truth (se_call G__law_letter_is (hr.mono (by decide)) (by rfl) m__law_letter_is k__law_letter_is b__law_letter_is (sa_cons (sv 2) (sa_cons (se_op so_add (sv 0) (se_tup (sa_cons (sv 1) sa_nil))) sa_nil)))))
 (sss_one (ss_ret se_bl))
 sss_nil)
 (sss_one (ss_ret (se_and (se_call G__law_letter_is (hr.mono (by decide)) (by rfl) m__law_letter_is k__law_letter_is b__law_letter_is (sa_cons (se_call G_lowered (hr.mono (by decide)) (by rfl) m_lowered k_lowered b_lowered (sa_cons (sv 2) sa_nil)) (sa_cons (sv 0) sa_nil))) (se_one (se_call G__law_height_is (hr.mono (by decide)) (by rfl) m__law_height_is k__law_height_is b__law_height_is (sa_cons (sv 2) (sa_cons (sv 1) sa_nil))))))))), read__law_rises⟩
theorem ok__law_comes_down (F : Fun K "_law_comes_down" "_law_comes_down" s__law_comes_down f fd) {f__law_letter_is : Addr} {fd__law_letter_is : FuncData} (G__law_letter_is : FnOk P w K mg base CX0 3 f__law_letter_is fd__law_letter_is ["actual", "due"] (spOf K sp__law_letter_is)) (m__law_letter_is : mg "_law_letter_is" = some (.ref f__law_letter_is)) (k__law_letter_is : PySem.W.keepIn K (.ref f__law_letter_is) = true) (b__law_letter_is : Binds K fd__law_letter_is ["actual", "due"] []) {f_lowered : Addr} {fd_lowered : FuncData} (G_lowered : FnOk P w K mg base CX0 1 f_lowered fd_lowered ["letter"] (spOf K sp_lowered)) (m_lowered : mg "lowered" = some (.ref f_lowered)) (k_lowered : PySem.W.keepIn K (.ref f_lowered) = true) (b_lowered : Binds K fd_lowered ["letter"] []) {f__law_height_is : Addr} {fd__law_height_is : FuncData} (G__law_height_is : FnOk P w K mg base CX0 2 f__law_height_is fd__law_height_is ["one", "number"] (spOf K sp__law_height_is)) (m__law_height_is : mg "_law_height_is" = some (.ref f__law_height_is)) (k__law_height_is : PySem.W.keepIn K (.ref f__law_height_is) = true) (b__law_height_is : Binds K fd__law_height_is ["one", "number"] []) {f_raised : Addr} {fd_raised : FuncData} (G_raised : FnOk P w K mg base CX0 1 f_raised fd_raised ["letter", "height"] (spOf K sp_raised)) (m_raised : mg "raised" = some (.ref f_raised)) (k_raised : PySem.W.keepIn K (.ref f_raised) = true) (b_raised : Binds K fd_raised ["letter", "height"] []) {f_last_height : Addr} {fd_last_height : FuncData} (G_last_height : FnOk P w K mg base CX0 1 f_last_height fd_last_height ["letter"] (spOf K sp_last_height)) (m_last_height : mg "last_height" = some (.ref f_last_height)) (k_last_height : PySem.W.keepIn K (.ref f_last_height) = true) (b_last_height : Binds K fd_last_height ["letter"] []) (z_len : mg "len" = none) :
    FnOk P w K mg base CX0 4 f fd ["one"] (spOf K sp__law_comes_down) :=
  Fun.okD F sc__law_comes_down len__law_comes_down fun cdv A outer s H E hr => have nd := sc__law_comes_down.nd; ⟨_, r__law_comes_down,
 (sss_cons (ss_set (i := 1) nd rfl (.inl rfl) (se_op so_sub (se_callB sc_len (by rfl) z_len (by decide +kernel) (sa_cons (sv 0) sa_nil)) se_int))
 (sss_cons (ss_if (SW.st (sw_or (st_not (st_truth (se_call G__law_letter_is (hr.mono (by decide)) (by rfl) m__law_letter_is k__law_letter_is b__law_letter_is (sa_cons (se_call G_lowered (hr.mono (by decide)) (by rfl) m_lowered k_lowered b_lowered (sa_cons (sv 0) sa_nil)) (sa_cons (se_slice (sv 0) so_none (so_some (sv 1))) sa_nil))))) (sw_or1 (st_not (st_truth (se_call G__law_height_is (hr.mono (by decide)) (by rfl) m__law_height_is k__law_height_is b__law_height_is (sa_cons (sv 0) (sa_cons (se_ix (sv 0) (sv 1) (fun _ _ => rfl)) sa_nil))))))))
 (sss_one (ss_ret se_bl))
 sss_nil)
 (sss_one (ss_ret (se_call G__law_letter_is (hr.mono (by decide)) (by rfl) m__law_letter_is k__law_letter_is b__law_letter_is (sa_cons (se_call G_raised (hr.mono (by decide)) (by rfl) m_raised k_raised b_raised (sa_cons (se_call G_lowered (hr.mono (by decide)) (by rfl) m_lowered k_lowered b_lowered (sa_cons (sv 0) sa_nil)) (sa_cons (se_call G_last_height (hr.mono (by decide)) (by rfl) m_last_height k_last_height b_last_height (sa_cons (sv 0) sa_nil)) sa_nil))) (sa_cons (sv 0) sa_nil))))))), read__law_comes_down⟩
theorem ok__law_substitutes (F : Fun K "_law_substitutes" "_law_substitutes" s__law_substitutes f fd) {f__law_put_for : Addr} {fd__law_put_for : FuncData} (G__law_put_for : FnOk P w K mg base CX0 2 f__law_put_for fd__law_put_for ["word", "one", "image"] (spOf K sp__law_put_for)) (m__law_put_for : mg "_law_put_for" = some (.ref f__law_put_for)) (k__law_put_for : PySem.W.keepIn K (.ref f__law_put_for) = true) (b__law_put_for : Binds K fd__law_put_for ["word", "one", "image"] []) {f__law_word_is : Addr} {fd__law_word_is : FuncData} (G__law_word_is : FnOk P w K mg base CX0 4 f__law_word_is fd__law_word_is ["actual", "due"] (spOf K sp__law_word_is)) (m__law_word_is : mg "_law_word_is" = some (.ref f__law_word_is)) (k__law_word_is : PySem.W.keepIn K (.ref f__law_word_is) = true) (b__law_word_is : Binds K fd__law_word_is ["actual", "due"] []) {f_substitute : Addr} {fd_substitute : FuncData} (G_substitute : FnOk P w K mg base CX0 3 f_substitute fd_substitute ["word", "letter", "image"] (spOf K sp_substitute)) (m_substitute : mg "substitute" = some (.ref f_substitute)) (k_substitute : PySem.W.keepIn K (.ref f_substitute) = true) (b_substitute : Binds K fd_substitute ["word", "letter", "image"] []) {f__law_lacks : Addr} {fd__law_lacks : FuncData} (G__law_lacks : FnOk P w K mg base CX0 1 f__law_lacks fd__law_lacks ["word", "one"] (spOf K sp__law_lacks)) (m__law_lacks : mg "_law_lacks" = some (.ref f__law_lacks)) (k__law_lacks : PySem.W.keepIn K (.ref f__law_lacks) = true) (b__law_lacks : Binds K fd__law_lacks ["word", "one"] []) :
    FnOk P w K mg base CX0 5 f fd ["word", "chosen", "image", "spare"] (spOf K sp__law_substitutes) :=
  Fun.okD F sc__law_substitutes len__law_substitutes fun cdv A outer s H E hr => have nd := sc__law_substitutes.nd; ⟨_, r__law_substitutes,
 (sss_cons (ss_set (i := 4) nd rfl (.inl rfl) (se_call G__law_put_for (hr.mono (by decide)) (by rfl) m__law_put_for k__law_put_for b__law_put_for (sa_cons (sv 0) (sa_cons (sv 1) (sa_cons (sv 2) sa_nil)))))
 (sss_cons (ss_if (st_not (st_truth (se_call G__law_word_is (hr.mono (by decide)) (by rfl) m__law_word_is k__law_word_is b__law_word_is (sa_cons (se_call G_substitute (hr.mono (by decide)) (by rfl) m_substitute k_substitute b_substitute (sa_cons (sv 0) (sa_cons (sv 1) (sa_cons (sv 2) sa_nil)))) (sa_cons (sv 4) sa_nil)))))
 (sss_one (ss_ret se_bl))
 sss_nil)
 (sss_cons (ss_if (st_not (st_truth (se_call G__law_word_is (hr.mono (by decide)) (by rfl) m__law_word_is k__law_word_is b__law_word_is (sa_cons (se_call G_substitute (hr.mono (by decide)) (by rfl) m_substitute k_substitute b_substitute (sa_cons (sv 0) (sa_cons (sv 1) (sa_cons (se_tup (sa_cons (se_tup (sa_cons (sv 1) (sa_cons se_int sa_nil))) sa_nil)) sa_nil)))) (sa_cons (sv 0) sa_nil)))))
 (sss_one (ss_ret se_bl))
 sss_nil)
 (sss_cons (ss_if (st_not (st_truth (se_call G__law_word_is (hr.mono (by decide)) (by rfl) m__law_word_is k__law_word_is b__law_word_is (sa_cons (se_call G_substitute (hr.mono (by decide)) (by rfl) m_substitute k_substitute b_substitute (sa_cons (sv 0) (sa_cons (sv 1) (sa_cons (se_tup sa_nil) sa_nil)))) (sa_cons (se_call G__law_put_for (hr.mono (by decide)) (by rfl) m__law_put_for k__law_put_for b__law_put_for (sa_cons (sv 0) (sa_cons (sv 1) (sa_cons (se_tup sa_nil) sa_nil)))) sa_nil)))))
 (sss_one (ss_ret se_bl))
 sss_nil)
 (sss_cons (ss_if (SW.st (sw_and (st_truth (se_call G__law_lacks (hr.mono (by decide)) (by rfl) m__law_lacks k__law_lacks b__law_lacks (sa_cons (sv 0) (sa_cons (sv 3) sa_nil)))) (sw_and1 (st_not (st_truth (se_call G__law_word_is (hr.mono (by decide)) (by rfl) m__law_word_is k__law_word_is b__law_word_is (sa_cons (se_call G_substitute (hr.mono (by decide)) (by rfl) m_substitute k_substitute b_substitute (sa_cons (sv 0) (sa_cons (sv 3) (sa_cons (sv 2) sa_nil)))) (sa_cons (sv 0) sa_nil))))))))
 (sss_one (ss_ret se_bl))
 sss_nil)
 (sss_one (ss_ret (se_call G__law_word_is (hr.mono (by decide)) (by rfl) m__law_word_is k__law_word_is b__law_word_is (sa_cons (se_call G_substitute (hr.mono (by decide)) (by rfl) m_substitute k_substitute b_substitute (sa_cons (sv 0) (sa_cons (sv 1) (sa_cons (sv 2) sa_nil)))) (sa_cons (sv 4) sa_nil)))))))))), read__law_substitutes⟩
theorem ok__law_shifts (F : Fun K "_law_shifts" "_law_shifts" s__law_shifts f fd) {f__law_word_is : Addr} {fd__law_word_is : FuncData} (G__law_word_is : FnOk P w K mg base CX0 4 f__law_word_is fd__law_word_is ["actual", "due"] (spOf K sp__law_word_is)) (m__law_word_is : mg "_law_word_is" = some (.ref f__law_word_is)) (k__law_word_is : PySem.W.keepIn K (.ref f__law_word_is) = true) (b__law_word_is : Binds K fd__law_word_is ["actual", "due"] []) {f__law_moved : Addr} {fd__law_moved : FuncData} (G__law_moved : FnOk P w K mg base CX0 1 f__law_moved fd__law_moved ["word", "number"] (spOf K sp__law_moved)) (m__law_moved : mg "_law_moved" = some (.ref f__law_moved)) (k__law_moved : PySem.W.keepIn K (.ref f__law_moved) = true) (b__law_moved : Binds K fd__law_moved ["word", "number"] []) {f_shifted : Addr} {fd_shifted : FuncData} (G_shifted : FnOk P w K mg base CX0 2 f_shifted fd_shifted ["word", "by"] (spOf K sp_shifted)) (m_shifted : mg "shifted" = some (.ref f_shifted)) (k_shifted : PySem.W.keepIn K (.ref f_shifted) = true) (b_shifted : Binds K fd_shifted ["word", "by"] []) :
    FnOk P w K mg base CX0 5 f fd ["steep", "number"] (spOf K sp__law_shifts) :=
  Fun.okD F sc__law_shifts len__law_shifts fun cdv A outer s H E hr => have nd := sc__law_shifts.nd; ⟨_, r__law_shifts,
 (sss_cons (ss_if (st_not (st_truth (se_call G__law_word_is (hr.mono (by decide)) (by rfl) m__law_word_is k__law_word_is b__law_word_is (sa_cons (se_call G_shifted (hr.mono (by decide)) (by rfl) m_shifted k_shifted b_shifted (sa_cons (sv 0) (sa_cons (sv 1) sa_nil))) (sa_cons (se_call G__law_moved (hr.mono (by decide)) (by rfl) m__law_moved k__law_moved b__law_moved (sa_cons (sv 0) (sa_cons (sv 1) sa_nil))) sa_nil)))))
 (sss_one (ss_ret se_bl))
 sss_nil)
 (sss_cons (ss_if (st_not (st_truth (se_call G__law_word_is (hr.mono (by decide)) (by rfl) m__law_word_is k__law_word_is b__law_word_is (sa_cons (se_call G_shifted (hr.mono (by decide)) (by rfl) m_shifted k_shifted b_shifted (sa_cons (sv 0) (sa_cons se_int sa_nil))) (sa_cons (sv 0) sa_nil)))))
 (sss_one (ss_ret se_bl))
 sss_nil)
 (sss_one (ss_ret (se_call G__law_word_is (hr.mono (by decide)) (by rfl) m__law_word_is k__law_word_is b__law_word_is (sa_cons (se_call G_shifted (hr.mono (by decide)) (by rfl) m_shifted k_shifted b_shifted (sa_cons (se_call G_shifted (hr.mono (by decide)) (by rfl) m_shifted k_shifted b_shifted (sa_cons (sv 0) (sa_cons (sv 1) sa_nil))) (sa_cons (se_op so_sub se_int (sv 1)) sa_nil))) (sa_cons (sv 0) sa_nil))))))), read__law_shifts⟩
theorem ok_law (F : Fun K "law" "law" s_law f fd) {f__law_pool : Addr} {fd__law_pool : FuncData} (G__law_pool : FnOk P w K mg base CX0 1 f__law_pool fd__law_pool ["script", "place"] (spOf K sp__law_pool)) (m__law_pool : mg "_law_pool" = some (.ref f__law_pool)) (k__law_pool : PySem.W.keepIn K (.ref f__law_pool) = true) (b__law_pool : Binds K fd__law_pool ["script", "place"] []) {f__law_alphabet : Addr} {fd__law_alphabet : FuncData} (G__law_alphabet : FnOk P w K mg base CX0 2 f__law_alphabet fd__law_alphabet ["pool", "most", "depth"] (spOf K sp__law_alphabet)) (m__law_alphabet : mg "_law_alphabet" = some (.ref f__law_alphabet)) (k__law_alphabet : PySem.W.keepIn K (.ref f__law_alphabet) = true) (b__law_alphabet : Binds K fd__law_alphabet ["pool", "most", "depth"] []) {f__law_depth : Addr} {fd__law_depth : FuncData} (G__law_depth : FnOk P w K mg base CX0 2 f__law_depth fd__law_depth ["pool", "least"] (spOf K sp__law_depth)) (m__law_depth : mg "_law_depth" = some (.ref f__law_depth)) (k__law_depth : PySem.W.keepIn K (.ref f__law_depth) = true) (b__law_depth : Binds K fd__law_depth ["pool", "least"] []) {f__law_draw : Addr} {fd__law_draw : FuncData} (G__law_draw : FnOk P w K mg base CX0 1 f__law_draw fd__law_draw ["pool", "many"] (spOf K sp__law_draw)) (m__law_draw : mg "_law_draw" = some (.ref f__law_draw)) (k__law_draw : PySem.W.keepIn K (.ref f__law_draw) = true) (b__law_draw : Binds K fd__law_draw ["pool", "many"] []) {f__law_runs : Addr} {fd__law_runs : FuncData} (G__law_runs : FnOk P w K mg base CX0 3 f__law_runs fd__law_runs ["pool", "alphabet", "most", "great", "chosen", "limit"] (spOf K sp__law_runs)) (m__law_runs : mg "_law_runs" = some (.ref f__law_runs)) (k__law_runs : PySem.W.keepIn K (.ref f__law_runs) = true) (b__law_runs : Binds K fd__law_runs ["pool", "alphabet", "most", "great", "chosen", "limit"] []) {f__law_substitutes : Addr} {fd__law_substitutes : FuncData} (G__law_substitutes : FnOk P w K mg base CX0 5 f__law_substitutes fd__law_substitutes ["word", "chosen", "image", "spare"] (spOf K sp__law_substitutes)) (m__law_substitutes : mg "_law_substitutes" = some (.ref f__law_substitutes)) (k__law_substitutes : PySem.W.keepIn K (.ref f__law_substitutes) = true) (b__law_substitutes : Binds K fd__law_substitutes ["word", "chosen", "image", "spare"] []) {f__law_shifts : Addr} {fd__law_shifts : FuncData} (G__law_shifts : FnOk P w K mg base CX0 5 f__law_shifts fd__law_shifts ["steep", "number"] (spOf K sp__law_shifts)) (m__law_shifts : mg "_law_shifts" = some (.ref f__law_shifts)) (k__law_shifts : PySem.W.keepIn K (.ref f__law_shifts) = true) (b__law_shifts : Binds K fd__law_shifts ["steep", "number"] []) {f__law_rises : Addr} {fd__law_rises : FuncData} (G__law_rises : FnOk P w K mg base CX0 4 f__law_rises fd__law_rises ["one", "number"] (spOf K sp__law_rises)) (m__law_rises : mg "_law_rises" = some (.ref f__law_rises)) (k__law_rises : PySem.W.keepIn K (.ref f__law_rises) = true) (b__law_rises : Binds K fd__law_rises ["one", "number"] []) {f__law_comes_down : Addr} {fd__law_comes_down : FuncData} (G__law_comes_down : FnOk P w K mg base CX0 4 f__law_comes_down fd__law_comes_down ["one"] (spOf K sp__law_comes_down)) (m__law_comes_down : mg "_law_comes_down" = some (.ref f__law_comes_down)) (k__law_comes_down : PySem.W.keepIn K (.ref f__law_comes_down) = true) (b__law_comes_down : Binds K fd__law_comes_down ["one"] []) {f__law_letter_is : Addr} {fd__law_letter_is : FuncData} (G__law_letter_is : FnOk P w K mg base CX0 3 f__law_letter_is fd__law_letter_is ["actual", "due"] (spOf K sp__law_letter_is)) (m__law_letter_is : mg "_law_letter_is" = some (.ref f__law_letter_is)) (k__law_letter_is : PySem.W.keepIn K (.ref f__law_letter_is) = true) (b__law_letter_is : Binds K fd__law_letter_is ["actual", "due"] []) {u_MARK : Value} {v_MARK : V} (m_MARK : mg "MARK" = some u_MARK) (r_MARK : RelV v_MARK u_MARK) (h_MARK : ∀ ρ H, Rep K ρ H d_MARK v_MARK) {u_STEP : Value} {v_STEP : V} (m_STEP : mg "STEP" = some u_STEP) (r_STEP : RelV v_STEP u_STEP) (h_STEP : ∀ ρ H, Rep K ρ H d_STEP v_STEP) (z_len : mg "len" = none) (z_max : mg "max" = none) :
    FnOk P w K mg base CX0 6 f fd ["script"] (spOf K sp_law) :=
  Fun.okD F sc_law len_law fun cdv A outer s H E hr => have nd := sc_law.nd; ⟨_, r_law,
 (sss_cons (ss_set (i := 1) nd rfl (.inl rfl) (se_call G__law_pool (hr.mono (by decide)) (by rfl) m__law_pool k__law_pool b__law_pool (sa_cons (sv 0) (sa_cons se_int sa_nil))))
 (sss_cons (ss_set (i := 2) nd rfl (.inl rfl) (se_call G__law_alphabet (hr.mono (by decide)) (by rfl) m__law_alphabet k__law_alphabet b__law_alphabet (sa_cons (sv 1) (sa_cons se_int (sa_cons (se_call G__law_depth (hr.mono (by decide)) (by rfl) m__law_depth k__law_depth b__law_depth (sa_cons (sv 1) (sa_cons se_int sa_nil))) sa_nil)))))
 (sss_cons (ss_set (i := 3) nd rfl (.inl rfl) (se_ix (sv 2) (se_op so_sub (se_callB sc_len (by rfl) z_len (by decide +kernel) (sa_cons (sv 2) sa_nil)) se_int) (fun _ _ => rfl)))
 (sss_cons (ss_set (i := 2) nd rfl (.inl rfl) (se_slice (sv 2) so_none (so_some (se_callB (sc_max rfl) (by rfl) z_max (by decide +kernel) (sa_cons se_int (sa_cons (se_op so_sub (se_callB sc_len (by rfl) z_len (by decide +kernel) (sa_cons (sv 2) sa_nil)) se_int) sa_nil))))))
 (sss_cons (ss_if (st_cmp (so_eq hr) (se_call G__law_draw (hr.mono (by decide)) (by rfl) m__law_draw k__law_draw b__law_draw (sa_cons (sv 1) (sa_cons se_int sa_nil))) se_int (nomark _))
 (sss_one (ss_set (i := 2) nd rfl (.inl rfl) (se_op so_add (sv 2) (se_lst (sa_cons (se_tup (sa_cons se_str sa_nil)) (sa_cons (se_tup (sa_cons se_str sa_nil)) (sa_cons (se_tup (sa_cons se_str (sa_cons (se_op so_sub (se_call G__law_draw (hr.mono (by decide)) (by rfl) m__law_draw k__law_draw b__law_draw (sa_cons (sv 1) (sa_cons se_int sa_nil))) se_int) sa_nil))) sa_nil)))))))
 sss_nil)
 (sss_cons (ss_set (i := 4) nd rfl (.inl rfl) (se_ix (sv 2) (se_call G__law_draw (hr.mono (by decide)) (by rfl) m__law_draw k__law_draw b__law_draw (sa_cons (sv 1) (sa_cons (se_callB sc_len (by rfl) z_len (by decide +kernel) (sa_cons (sv 2) sa_nil)) sa_nil))) (fun _ _ => rfl)))
 (sss_cons (ss_set (i := 5) nd rfl (.inl rfl) (se_op so_fdiv (se_call G__law_draw (hr.mono (by decide)) (by rfl) m__law_draw k__law_draw b__law_draw (sa_cons (sv 1) (sa_cons se_int sa_nil))) se_int))
 (sss_cons (ss_set (i := 6) nd rfl (.inl rfl) (se_op so_fdiv (se_call G__law_draw (hr.mono (by decide)) (by rfl) m__law_draw k__law_draw b__law_draw (sa_cons (sv 1) (sa_cons se_int sa_nil))) se_int))
 (sss_cons (ss_set (i := 7) nd rfl (.inl rfl) (se_call G__law_runs (hr.mono (by decide)) (by rfl) m__law_runs k__law_runs b__law_runs (sa_cons (se_call G__law_pool (hr.mono (by decide)) (by rfl) m__law_pool k__law_pool b__law_pool (sa_cons (sv 0) (sa_cons se_int sa_nil))) (sa_cons (sv 2) (sa_cons (se_op so_add se_int (se_op so_mul se_int (sv 6))) (sa_cons (sv 5) (sa_cons (sv 4) (sa_cons (se_op so_sub se_int (se_op so_mul se_int (sv 6))) sa_nil))))))))
 (sss_cons (ss_set (i := 8) nd rfl (.inl rfl) (se_call G__law_runs (hr.mono (by decide)) (by rfl) m__law_runs k__law_runs b__law_runs (sa_cons (se_call G__law_pool (hr.mono (by decide)) (by rfl) m__law_pool k__law_pool b__law_pool (sa_cons (sv 0) (sa_cons se_int sa_nil))) (sa_cons (sv 2) (sa_cons se_int (sa_cons (sv 5) (sa_cons (se_tup sa_nil) (sa_cons se_int sa_nil))))))))
 (sss_cons (ss_if (st_not (st_truth (se_call G__law_substitutes (hr.mono (by decide)) (by rfl) m__law_substitutes k__law_substitutes b__law_substitutes (sa_cons (sv 7) (sa_cons (sv 4) (sa_cons (sv 8) (sa_cons (sv 3) sa_nil)))))))
 (sss_one (ss_ret se_bl))
 sss_nil)
 (sss_cons (ss_set (i := 1) nd rfl (.inl rfl) (se_call G__law_pool (hr.mono (by decide)) (by rfl) m__law_pool k__law_pool b__law_pool (sa_cons (sv 0) (sa_cons se_int sa_nil))))
 (sss_cons (ss_set (i := 9) nd rfl (.inl rfl) (se_call G__law_alphabet (hr.mono (by decide)) (by rfl) m__law_alphabet k__law_alphabet b__law_alphabet (sa_cons (sv 1) (sa_cons se_int (sa_cons (se_call G__law_depth (hr.mono (by decide)) (by rfl) m__law_depth k__law_depth b__law_depth (sa_cons (sv 1) (sa_cons se_int sa_nil))) sa_nil)))))
 (sss_cons (ss_set (i := 10) nd rfl (.inl rfl) (se_op so_sub (se_call G__law_draw (hr.mono (by decide)) (by rfl) m__law_draw k__law_draw b__law_draw (sa_cons (sv 1) (sa_cons se_int sa_nil))) se_int))
 (sss_cons (ss_if (st_cmp (so_eq hr) (se_call G__law_draw (hr.mono (by decide)) (by rfl) m__law_draw k__law_draw b__law_draw (sa_cons (sv 1) (sa_cons se_int sa_nil))) se_int (nomark _))
 (sss_one (ss_set (i := 10) nd rfl (.inl rfl) (se_op so_sub (se_call G__law_draw (hr.mono (by decide)) (by rfl) m__law_draw k__law_draw b__law_draw (sa_cons (sv 1) (sa_cons se_int sa_nil))) se_int)))
 sss_nil)
 (sss_cons (ss_if (st_cmp (so_eq hr) (se_call G__law_draw (hr.mono (by decide)) (by rfl) m__law_draw k__law_draw b__law_draw (sa_cons (sv 1) (sa_cons se_int sa_nil))) se_int (nomark _))
 (sss_one (ss_set (i := 10) nd rfl (.inl rfl) (se_op so_sub se_int (se_ix (se_ix (sv 9) se_int (fun _ _ => rfl)) (se_op so_sub (se_callB sc_len (by rfl) z_len (by decide +kernel) (sa_cons (se_ix (sv 9) se_int (fun _ _ => rfl)) sa_nil)) se_int) (fun _ _ => rfl)))))
 sss_nil)
 (sss_cons (ss_set (i := 11) nd rfl (.inl rfl) (se_lst sa_nil))
 (sss_cons (ss_if (st_cmp (so_eq hr) (se_call G__law_draw (hr.mono (by decide)) (by rfl) m__law_draw k__law_draw b__law_draw (sa_cons (sv 1) (sa_cons se_int sa_nil))) se_int (nomark _))
 (sss_one (ss_set (i := 11) nd rfl (.inl rfl) (se_lst (sa_cons (se_tup (sa_cons se_str (sa_cons (se_op so_sub (se_call G__law_draw (hr.mono (by decide)) (by rfl) m__law_draw k__law_draw b__law_draw (sa_cons (sv 1) (sa_cons se_int sa_nil))) se_int) sa_nil))) (sa_cons (se_tup (sa_cons se_str (sa_cons (se_op so_sub (se_call G__law_draw (hr.mono (by decide)) (by rfl) m__law_draw k__law_draw b__law_draw (sa_cons (sv 1) (sa_cons se_int sa_nil))) se_int) sa_nil))) sa_nil)))))
 sss_nil)
 (sss_cons (ss_if (st_not (st_truth (se_call G__law_shifts (hr.mono (by decide)) (by rfl) m__law_shifts k__law_shifts b__law_shifts (sa_cons (se_call G__law_runs (hr.mono (by decide)) (by rfl) m__law_runs k__law_runs b__law_runs (sa_cons (se_call G__law_pool (hr.mono (by decide)) (by rfl) m__law_pool k__law_pool b__law_pool (sa_cons (sv 0) (sa_cons se_int sa_nil))) (sa_cons (se_op so_add (sv 9) (sv 11)) (sa_cons se_int (sa_cons (sv 5) (sa_cons (se_tup sa_nil) (sa_cons se_int sa_nil))))))) (sa_cons (sv 10) sa_nil)))))
 (sss_one (ss_ret se_bl))
 sss_nil)
 (sss_cons (ss_for PassesOwn.never rfl (si_iter (se_op so_add (se_lst (sa_cons (sv 3) (sa_cons (se_tup (sa_cons se_str sa_nil)) sa_nil))) (sv 9))) (sg_name (i := 12) nd rfl (.inl rfl))
 (sss_one (ss_if (st_not (st_truth (se_call G__law_rises (hr.mono (by decide)) (by rfl) m__law_rises k__law_rises b__law_rises (sa_cons (sv 12) (sa_cons (sv 10) sa_nil)))))
 (sss_one (ss_ret se_bl))
 sss_nil)))
 (sss_cons (ss_for PassesOwn.never rfl (si_iter (se_op so_add (sv 9) (sv 11))) (sg_name (i := 12) nd rfl (.inl rfl))
 (sss_one (ss_if (st_not (st_truth (se_call G__law_comes_down (hr.mono (by decide)) (by rfl) m__law_comes_down k__law_comes_down b__law_comes_down (sa_cons (sv 12) sa_nil))))
 (sss_one (ss_ret se_bl))
 sss_nil)))
 (sss_one (ss_ret (se_and (se_call G__law_letter_is (hr.mono (by decide)) (by rfl) m__law_letter_is k__law_letter_is b__law_letter_is (sa_cons (se_glob (by rfl) m_MARK r_MARK h_MARK) (sa_cons (se_tup (sa_cons se_str sa_nil)) sa_nil))) (se_one (se_call G__law_letter_is (hr.mono (by decide)) (by rfl) m__law_letter_is k__law_letter_is b__law_letter_is (sa_cons (se_glob (by rfl) m_STEP r_STEP h_STEP) (sa_cons (se_tup (sa_cons se_str sa_nil)) sa_nil)))))))))))))))))))))))))))), read_law⟩
end
theorem all_mk {l : PySem.W.OpenLaw} {w : World} {K : PySem.W.Frag} {h : Heap} {mg : Str → Option Value} {fa : Addr} (X : K.In h) (G : h.Ns mainGlobals mg) (hfa : mg "law" = some (.ref fa))
    {t_MARK : Addr} {dd_MARK : Option Addr} {n_MARK : Nat} {so_MARK : Array (Option Value)} {tk_MARK : Tok}
    {t_STEP : Addr} {dd_STEP : Option Addr} {n_STEP : Nat} {so_STEP : Array (Option Value)} {tk_STEP : Tok}
    {f_raised : Addr} {od_raised an_raised : Option Addr} {sl_raised : Array (Option Value)} {oc_raised kV_raised dc_raised pm_raised cd_raised ct_raised : Value}
    {f_lowered : Addr} {od_lowered an_lowered : Option Addr} {sl_lowered : Array (Option Value)} {oc_lowered kV_lowered dc_lowered pm_lowered cd_lowered ct_lowered : Value}
    {f_last_height : Addr} {od_last_height an_last_height : Option Addr} {sl_last_height : Array (Option Value)} {oc_last_height kV_last_height dc_last_height pm_last_height cd_last_height ct_last_height : Value}
    {f_reduced : Addr} {od_reduced an_reduced : Option Addr} {sl_reduced : Array (Option Value)} {oc_reduced kV_reduced dc_reduced pm_reduced cd_reduced ct_reduced : Value}
    {f_inverse : Addr} {od_inverse an_inverse : Option Addr} {sl_inverse : Array (Option Value)} {oc_inverse kV_inverse dc_inverse pm_inverse cd_inverse ct_inverse : Value}
    {f_power : Addr} {od_power an_power : Option Addr} {sl_power : Array (Option Value)} {oc_power kV_power dc_power pm_power cd_power ct_power : Value}
    {f_substitute : Addr} {od_substitute an_substitute : Option Addr} {sl_substitute : Array (Option Value)} {oc_substitute kV_substitute dc_substitute pm_substitute cd_substitute ct_substitute : Value}
    {f_shifted : Addr} {od_shifted an_shifted : Option Addr} {sl_shifted : Array (Option Value)} {oc_shifted kV_shifted dc_shifted pm_shifted cd_shifted ct_shifted : Value}
    {f__law_pool : Addr} {od__law_pool an__law_pool : Option Addr} {sl__law_pool : Array (Option Value)} {oc__law_pool kV__law_pool dc__law_pool pm__law_pool cd__law_pool ct__law_pool : Value}
    {f__law_draw : Addr} {od__law_draw an__law_draw : Option Addr} {sl__law_draw : Array (Option Value)} {oc__law_draw kV__law_draw dc__law_draw pm__law_draw cd__law_draw ct__law_draw : Value}
    {f__law_back : Addr} {od__law_back an__law_back : Option Addr} {sl__law_back : Array (Option Value)} {oc__law_back kV__law_back dc__law_back pm__law_back cd__law_back ct__law_back : Value}
    {f__law_lacks : Addr} {od__law_lacks an__law_lacks : Option Addr} {sl__law_lacks : Array (Option Value)} {oc__law_lacks kV__law_lacks dc__law_lacks pm__law_lacks cd__law_lacks ct__law_lacks : Value}
    {f__law_is_whole : Addr} {od__law_is_whole an__law_is_whole : Option Addr} {sl__law_is_whole : Array (Option Value)} {oc__law_is_whole kV__law_is_whole dc__law_is_whole pm__law_is_whole cd__law_is_whole ct__law_is_whole : Value}
    {f__law_is_letter : Addr} {od__law_is_letter an__law_is_letter : Option Addr} {sl__law_is_letter : Array (Option Value)} {oc__law_is_letter kV__law_is_letter dc__law_is_letter pm__law_is_letter cd__law_is_letter ct__law_is_letter : Value}
    {f__law_is_word : Addr} {od__law_is_word an__law_is_word : Option Addr} {sl__law_is_word : Array (Option Value)} {oc__law_is_word kV__law_is_word dc__law_is_word pm__law_is_word cd__law_is_word ct__law_is_word : Value}
    {f__law_word_is : Addr} {od__law_word_is an__law_word_is : Option Addr} {sl__law_word_is : Array (Option Value)} {oc__law_word_is kV__law_word_is dc__law_word_is pm__law_word_is cd__law_word_is ct__law_word_is : Value}
    {f__law_depth : Addr} {od__law_depth an__law_depth : Option Addr} {sl__law_depth : Array (Option Value)} {oc__law_depth kV__law_depth dc__law_depth pm__law_depth cd__law_depth ct__law_depth : Value}
    {f__law_alphabet : Addr} {od__law_alphabet an__law_alphabet : Option Addr} {sl__law_alphabet : Array (Option Value)} {oc__law_alphabet kV__law_alphabet dc__law_alphabet pm__law_alphabet cd__law_alphabet ct__law_alphabet : Value}
    {f__law_exponent : Addr} {od__law_exponent an__law_exponent : Option Addr} {sl__law_exponent : Array (Option Value)} {oc__law_exponent kV__law_exponent dc__law_exponent pm__law_exponent cd__law_exponent ct__law_exponent : Value}
    {f__law_runs : Addr} {od__law_runs an__law_runs : Option Addr} {sl__law_runs : Array (Option Value)} {oc__law_runs kV__law_runs dc__law_runs pm__law_runs cd__law_runs ct__law_runs : Value}
    {f__law_walked : Addr} {od__law_walked an__law_walked : Option Addr} {sl__law_walked : Array (Option Value)} {oc__law_walked kV__law_walked dc__law_walked pm__law_walked cd__law_walked ct__law_walked : Value}
    {f__law_put_for : Addr} {od__law_put_for an__law_put_for : Option Addr} {sl__law_put_for : Array (Option Value)} {oc__law_put_for kV__law_put_for dc__law_put_for pm__law_put_for cd__law_put_for ct__law_put_for : Value}
    {f__law_moved : Addr} {od__law_moved an__law_moved : Option Addr} {sl__law_moved : Array (Option Value)} {oc__law_moved kV__law_moved dc__law_moved pm__law_moved cd__law_moved ct__law_moved : Value}
    {f__law_letter_is : Addr} {od__law_letter_is an__law_letter_is : Option Addr} {sl__law_letter_is : Array (Option Value)} {oc__law_letter_is kV__law_letter_is dc__law_letter_is pm__law_letter_is cd__law_letter_is ct__law_letter_is : Value}
    {f__law_height_is : Addr} {od__law_height_is an__law_height_is : Option Addr} {sl__law_height_is : Array (Option Value)} {oc__law_height_is kV__law_height_is dc__law_height_is pm__law_height_is cd__law_height_is ct__law_height_is : Value}
    {f__law_rises : Addr} {od__law_rises an__law_rises : Option Addr} {sl__law_rises : Array (Option Value)} {oc__law_rises kV__law_rises dc__law_rises pm__law_rises cd__law_rises ct__law_rises : Value}
    {f__law_comes_down : Addr} {od__law_comes_down an__law_comes_down : Option Addr} {sl__law_comes_down : Array (Option Value)} {oc__law_comes_down kV__law_comes_down dc__law_comes_down pm__law_comes_down cd__law_comes_down ct__law_comes_down : Value}
    {f__law_substitutes : Addr} {od__law_substitutes an__law_substitutes : Option Addr} {sl__law_substitutes : Array (Option Value)} {oc__law_substitutes kV__law_substitutes dc__law_substitutes pm__law_substitutes cd__law_substitutes ct__law_substitutes : Value}
    {f__law_shifts : Addr} {od__law_shifts an__law_shifts : Option Addr} {sl__law_shifts : Array (Option Value)} {oc__law_shifts kV__law_shifts dc__law_shifts pm__law_shifts cd__law_shifts ct__law_shifts : Value}
    {f_law : Addr} {od_law an_law : Option Addr} {sl_law : Array (Option Value)} {oc_law kV_law dc_law pm_law cd_law ct_law : Value}
    (a_MARK : PySem.W.nsIn K mainGlobals "MARK" = some (some (.ref t_MARK))) (l_MARK : K.lookup t_MARK = some ⟨.type "tuple", dd_MARK, .seq #[.str (Str.ofString "!") tk_MARK] n_MARK, so_MARK⟩)
    (a_STEP : PySem.W.nsIn K mainGlobals "STEP" = some (some (.ref t_STEP))) (l_STEP : K.lookup t_STEP = some ⟨.type "tuple", dd_STEP, .seq #[.str (Str.ofString "/") tk_STEP] n_STEP, so_STEP⟩)
    (a_raised : PySem.W.nsIn K mainGlobals "raised" = some (some (.ref f_raised))) (l_raised : K.lookup f_raised = some ⟨oc_raised, od_raised, .func (PySem.W.fnOf "raised" "raised" (defArgs s_raised) (defBody s_raised) (defScope s_raised) .none kV_raised dc_raised pm_raised an_raised cd_raised ct_raised), sl_raised⟩) (c_raised : PySem.W.codeIn K cd_raised "raised" = true) (k_raised : PySem.W.keepIn K (.ref f_raised) = true)
    (a_lowered : PySem.W.nsIn K mainGlobals "lowered" = some (some (.ref f_lowered))) (l_lowered : K.lookup f_lowered = some ⟨oc_lowered, od_lowered, .func (PySem.W.fnOf "lowered" "lowered" (defArgs s_lowered) (defBody s_lowered) (defScope s_lowered) .none kV_lowered dc_lowered pm_lowered an_lowered cd_lowered ct_lowered), sl_lowered⟩) (c_lowered : PySem.W.codeIn K cd_lowered "lowered" = true) (k_lowered : PySem.W.keepIn K (.ref f_lowered) = true)
    (a_last_height : PySem.W.nsIn K mainGlobals "last_height" = some (some (.ref f_last_height))) (l_last_height : K.lookup f_last_height = some ⟨oc_last_height, od_last_height, .func (PySem.W.fnOf "last_height" "last_height" (defArgs s_last_height) (defBody s_last_height) (defScope s_last_height) .none kV_last_height dc_last_height pm_last_height an_last_height cd_last_height ct_last_height), sl_last_height⟩) (c_last_height : PySem.W.codeIn K cd_last_height "last_height" = true) (k_last_height : PySem.W.keepIn K (.ref f_last_height) = true)
    (a_reduced : PySem.W.nsIn K mainGlobals "reduced" = some (some (.ref f_reduced))) (l_reduced : K.lookup f_reduced = some ⟨oc_reduced, od_reduced, .func (PySem.W.fnOf "reduced" "reduced" (defArgs s_reduced) (defBody s_reduced) (defScope s_reduced) .none kV_reduced dc_reduced pm_reduced an_reduced cd_reduced ct_reduced), sl_reduced⟩) (c_reduced : PySem.W.codeIn K cd_reduced "reduced" = true) (k_reduced : PySem.W.keepIn K (.ref f_reduced) = true)
    (a_inverse : PySem.W.nsIn K mainGlobals "inverse" = some (some (.ref f_inverse))) (l_inverse : K.lookup f_inverse = some ⟨oc_inverse, od_inverse, .func (PySem.W.fnOf "inverse" "inverse" (defArgs s_inverse) (defBody s_inverse) (defScope s_inverse) .none kV_inverse dc_inverse pm_inverse an_inverse cd_inverse ct_inverse), sl_inverse⟩) (c_inverse : PySem.W.codeIn K cd_inverse "inverse" = true) (k_inverse : PySem.W.keepIn K (.ref f_inverse) = true)
    (a_power : PySem.W.nsIn K mainGlobals "power" = some (some (.ref f_power))) (l_power : K.lookup f_power = some ⟨oc_power, od_power, .func (PySem.W.fnOf "power" "power" (defArgs s_power) (defBody s_power) (defScope s_power) .none kV_power dc_power pm_power an_power cd_power ct_power), sl_power⟩) (c_power : PySem.W.codeIn K cd_power "power" = true) (k_power : PySem.W.keepIn K (.ref f_power) = true)
    (a_substitute : PySem.W.nsIn K mainGlobals "substitute" = some (some (.ref f_substitute))) (l_substitute : K.lookup f_substitute = some ⟨oc_substitute, od_substitute, .func (PySem.W.fnOf "substitute" "substitute" (defArgs s_substitute) (defBody s_substitute) (defScope s_substitute) .none kV_substitute dc_substitute pm_substitute an_substitute cd_substitute ct_substitute), sl_substitute⟩) (c_substitute : PySem.W.codeIn K cd_substitute "substitute" = true) (k_substitute : PySem.W.keepIn K (.ref f_substitute) = true)
    (a_shifted : PySem.W.nsIn K mainGlobals "shifted" = some (some (.ref f_shifted))) (l_shifted : K.lookup f_shifted = some ⟨oc_shifted, od_shifted, .func (PySem.W.fnOf "shifted" "shifted" (defArgs s_shifted) (defBody s_shifted) (defScope s_shifted) .none kV_shifted dc_shifted pm_shifted an_shifted cd_shifted ct_shifted), sl_shifted⟩) (c_shifted : PySem.W.codeIn K cd_shifted "shifted" = true) (k_shifted : PySem.W.keepIn K (.ref f_shifted) = true)
    (a__law_pool : PySem.W.nsIn K mainGlobals "_law_pool" = some (some (.ref f__law_pool))) (l__law_pool : K.lookup f__law_pool = some ⟨oc__law_pool, od__law_pool, .func (PySem.W.fnOf "_law_pool" "_law_pool" (defArgs s__law_pool) (defBody s__law_pool) (defScope s__law_pool) .none kV__law_pool dc__law_pool pm__law_pool an__law_pool cd__law_pool ct__law_pool), sl__law_pool⟩) (c__law_pool : PySem.W.codeIn K cd__law_pool "_law_pool" = true) (k__law_pool : PySem.W.keepIn K (.ref f__law_pool) = true)
    (a__law_draw : PySem.W.nsIn K mainGlobals "_law_draw" = some (some (.ref f__law_draw))) (l__law_draw : K.lookup f__law_draw = some ⟨oc__law_draw, od__law_draw, .func (PySem.W.fnOf "_law_draw" "_law_draw" (defArgs s__law_draw) (defBody s__law_draw) (defScope s__law_draw) .none kV__law_draw dc__law_draw pm__law_draw an__law_draw cd__law_draw ct__law_draw), sl__law_draw⟩) (c__law_draw : PySem.W.codeIn K cd__law_draw "_law_draw" = true) (k__law_draw : PySem.W.keepIn K (.ref f__law_draw) = true)
    (a__law_back : PySem.W.nsIn K mainGlobals "_law_back" = some (some (.ref f__law_back))) (l__law_back : K.lookup f__law_back = some ⟨oc__law_back, od__law_back, .func (PySem.W.fnOf "_law_back" "_law_back" (defArgs s__law_back) (defBody s__law_back) (defScope s__law_back) .none kV__law_back dc__law_back pm__law_back an__law_back cd__law_back ct__law_back), sl__law_back⟩) (c__law_back : PySem.W.codeIn K cd__law_back "_law_back" = true) (k__law_back : PySem.W.keepIn K (.ref f__law_back) = true)
    (a__law_lacks : PySem.W.nsIn K mainGlobals "_law_lacks" = some (some (.ref f__law_lacks))) (l__law_lacks : K.lookup f__law_lacks = some ⟨oc__law_lacks, od__law_lacks, .func (PySem.W.fnOf "_law_lacks" "_law_lacks" (defArgs s__law_lacks) (defBody s__law_lacks) (defScope s__law_lacks) .none kV__law_lacks dc__law_lacks pm__law_lacks an__law_lacks cd__law_lacks ct__law_lacks), sl__law_lacks⟩) (c__law_lacks : PySem.W.codeIn K cd__law_lacks "_law_lacks" = true) (k__law_lacks : PySem.W.keepIn K (.ref f__law_lacks) = true)
    (a__law_is_whole : PySem.W.nsIn K mainGlobals "_law_is_whole" = some (some (.ref f__law_is_whole))) (l__law_is_whole : K.lookup f__law_is_whole = some ⟨oc__law_is_whole, od__law_is_whole, .func (PySem.W.fnOf "_law_is_whole" "_law_is_whole" (defArgs s__law_is_whole) (defBody s__law_is_whole) (defScope s__law_is_whole) .none kV__law_is_whole dc__law_is_whole pm__law_is_whole an__law_is_whole cd__law_is_whole ct__law_is_whole), sl__law_is_whole⟩) (c__law_is_whole : PySem.W.codeIn K cd__law_is_whole "_law_is_whole" = true) (k__law_is_whole : PySem.W.keepIn K (.ref f__law_is_whole) = true)
    (a__law_is_letter : PySem.W.nsIn K mainGlobals "_law_is_letter" = some (some (.ref f__law_is_letter))) (l__law_is_letter : K.lookup f__law_is_letter = some ⟨oc__law_is_letter, od__law_is_letter, .func (PySem.W.fnOf "_law_is_letter" "_law_is_letter" (defArgs s__law_is_letter) (defBody s__law_is_letter) (defScope s__law_is_letter) .none kV__law_is_letter dc__law_is_letter pm__law_is_letter an__law_is_letter cd__law_is_letter ct__law_is_letter), sl__law_is_letter⟩) (c__law_is_letter : PySem.W.codeIn K cd__law_is_letter "_law_is_letter" = true) (k__law_is_letter : PySem.W.keepIn K (.ref f__law_is_letter) = true)
    (a__law_is_word : PySem.W.nsIn K mainGlobals "_law_is_word" = some (some (.ref f__law_is_word))) (l__law_is_word : K.lookup f__law_is_word = some ⟨oc__law_is_word, od__law_is_word, .func (PySem.W.fnOf "_law_is_word" "_law_is_word" (defArgs s__law_is_word) (defBody s__law_is_word) (defScope s__law_is_word) .none kV__law_is_word dc__law_is_word pm__law_is_word an__law_is_word cd__law_is_word ct__law_is_word), sl__law_is_word⟩) (c__law_is_word : PySem.W.codeIn K cd__law_is_word "_law_is_word" = true) (k__law_is_word : PySem.W.keepIn K (.ref f__law_is_word) = true)
    (a__law_word_is : PySem.W.nsIn K mainGlobals "_law_word_is" = some (some (.ref f__law_word_is))) (l__law_word_is : K.lookup f__law_word_is = some ⟨oc__law_word_is, od__law_word_is, .func (PySem.W.fnOf "_law_word_is" "_law_word_is" (defArgs s__law_word_is) (defBody s__law_word_is) (defScope s__law_word_is) .none kV__law_word_is dc__law_word_is pm__law_word_is an__law_word_is cd__law_word_is ct__law_word_is), sl__law_word_is⟩) (c__law_word_is : PySem.W.codeIn K cd__law_word_is "_law_word_is" = true) (k__law_word_is : PySem.W.keepIn K (.ref f__law_word_is) = true)
    (a__law_depth : PySem.W.nsIn K mainGlobals "_law_depth" = some (some (.ref f__law_depth))) (l__law_depth : K.lookup f__law_depth = some ⟨oc__law_depth, od__law_depth, .func (PySem.W.fnOf "_law_depth" "_law_depth" (defArgs s__law_depth) (defBody s__law_depth) (defScope s__law_depth) .none kV__law_depth dc__law_depth pm__law_depth an__law_depth cd__law_depth ct__law_depth), sl__law_depth⟩) (c__law_depth : PySem.W.codeIn K cd__law_depth "_law_depth" = true) (k__law_depth : PySem.W.keepIn K (.ref f__law_depth) = true)
    (a__law_alphabet : PySem.W.nsIn K mainGlobals "_law_alphabet" = some (some (.ref f__law_alphabet))) (l__law_alphabet : K.lookup f__law_alphabet = some ⟨oc__law_alphabet, od__law_alphabet, .func (PySem.W.fnOf "_law_alphabet" "_law_alphabet" (defArgs s__law_alphabet) (defBody s__law_alphabet) (defScope s__law_alphabet) .none kV__law_alphabet dc__law_alphabet pm__law_alphabet an__law_alphabet cd__law_alphabet ct__law_alphabet), sl__law_alphabet⟩) (c__law_alphabet : PySem.W.codeIn K cd__law_alphabet "_law_alphabet" = true) (k__law_alphabet : PySem.W.keepIn K (.ref f__law_alphabet) = true)
    (a__law_exponent : PySem.W.nsIn K mainGlobals "_law_exponent" = some (some (.ref f__law_exponent))) (l__law_exponent : K.lookup f__law_exponent = some ⟨oc__law_exponent, od__law_exponent, .func (PySem.W.fnOf "_law_exponent" "_law_exponent" (defArgs s__law_exponent) (defBody s__law_exponent) (defScope s__law_exponent) .none kV__law_exponent dc__law_exponent pm__law_exponent an__law_exponent cd__law_exponent ct__law_exponent), sl__law_exponent⟩) (c__law_exponent : PySem.W.codeIn K cd__law_exponent "_law_exponent" = true) (k__law_exponent : PySem.W.keepIn K (.ref f__law_exponent) = true)
    (a__law_runs : PySem.W.nsIn K mainGlobals "_law_runs" = some (some (.ref f__law_runs))) (l__law_runs : K.lookup f__law_runs = some ⟨oc__law_runs, od__law_runs, .func (PySem.W.fnOf "_law_runs" "_law_runs" (defArgs s__law_runs) (defBody s__law_runs) (defScope s__law_runs) .none kV__law_runs dc__law_runs pm__law_runs an__law_runs cd__law_runs ct__law_runs), sl__law_runs⟩) (c__law_runs : PySem.W.codeIn K cd__law_runs "_law_runs" = true) (k__law_runs : PySem.W.keepIn K (.ref f__law_runs) = true)
    (a__law_walked : PySem.W.nsIn K mainGlobals "_law_walked" = some (some (.ref f__law_walked))) (l__law_walked : K.lookup f__law_walked = some ⟨oc__law_walked, od__law_walked, .func (PySem.W.fnOf "_law_walked" "_law_walked" (defArgs s__law_walked) (defBody s__law_walked) (defScope s__law_walked) .none kV__law_walked dc__law_walked pm__law_walked an__law_walked cd__law_walked ct__law_walked), sl__law_walked⟩) (c__law_walked : PySem.W.codeIn K cd__law_walked "_law_walked" = true) (k__law_walked : PySem.W.keepIn K (.ref f__law_walked) = true)
    (a__law_put_for : PySem.W.nsIn K mainGlobals "_law_put_for" = some (some (.ref f__law_put_for))) (l__law_put_for : K.lookup f__law_put_for = some ⟨oc__law_put_for, od__law_put_for, .func (PySem.W.fnOf "_law_put_for" "_law_put_for" (defArgs s__law_put_for) (defBody s__law_put_for) (defScope s__law_put_for) .none kV__law_put_for dc__law_put_for pm__law_put_for an__law_put_for cd__law_put_for ct__law_put_for), sl__law_put_for⟩) (c__law_put_for : PySem.W.codeIn K cd__law_put_for "_law_put_for" = true) (k__law_put_for : PySem.W.keepIn K (.ref f__law_put_for) = true)
    (a__law_moved : PySem.W.nsIn K mainGlobals "_law_moved" = some (some (.ref f__law_moved))) (l__law_moved : K.lookup f__law_moved = some ⟨oc__law_moved, od__law_moved, .func (PySem.W.fnOf "_law_moved" "_law_moved" (defArgs s__law_moved) (defBody s__law_moved) (defScope s__law_moved) .none kV__law_moved dc__law_moved pm__law_moved an__law_moved cd__law_moved ct__law_moved), sl__law_moved⟩) (c__law_moved : PySem.W.codeIn K cd__law_moved "_law_moved" = true) (k__law_moved : PySem.W.keepIn K (.ref f__law_moved) = true)
    (a__law_letter_is : PySem.W.nsIn K mainGlobals "_law_letter_is" = some (some (.ref f__law_letter_is))) (l__law_letter_is : K.lookup f__law_letter_is = some ⟨oc__law_letter_is, od__law_letter_is, .func (PySem.W.fnOf "_law_letter_is" "_law_letter_is" (defArgs s__law_letter_is) (defBody s__law_letter_is) (defScope s__law_letter_is) .none kV__law_letter_is dc__law_letter_is pm__law_letter_is an__law_letter_is cd__law_letter_is ct__law_letter_is), sl__law_letter_is⟩) (c__law_letter_is : PySem.W.codeIn K cd__law_letter_is "_law_letter_is" = true) (k__law_letter_is : PySem.W.keepIn K (.ref f__law_letter_is) = true)
    (a__law_height_is : PySem.W.nsIn K mainGlobals "_law_height_is" = some (some (.ref f__law_height_is))) (l__law_height_is : K.lookup f__law_height_is = some ⟨oc__law_height_is, od__law_height_is, .func (PySem.W.fnOf "_law_height_is" "_law_height_is" (defArgs s__law_height_is) (defBody s__law_height_is) (defScope s__law_height_is) .none kV__law_height_is dc__law_height_is pm__law_height_is an__law_height_is cd__law_height_is ct__law_height_is), sl__law_height_is⟩) (c__law_height_is : PySem.W.codeIn K cd__law_height_is "_law_height_is" = true) (k__law_height_is : PySem.W.keepIn K (.ref f__law_height_is) = true)
    (a__law_rises : PySem.W.nsIn K mainGlobals "_law_rises" = some (some (.ref f__law_rises))) (l__law_rises : K.lookup f__law_rises = some ⟨oc__law_rises, od__law_rises, .func (PySem.W.fnOf "_law_rises" "_law_rises" (defArgs s__law_rises) (defBody s__law_rises) (defScope s__law_rises) .none kV__law_rises dc__law_rises pm__law_rises an__law_rises cd__law_rises ct__law_rises), sl__law_rises⟩) (c__law_rises : PySem.W.codeIn K cd__law_rises "_law_rises" = true) (k__law_rises : PySem.W.keepIn K (.ref f__law_rises) = true)
    (a__law_comes_down : PySem.W.nsIn K mainGlobals "_law_comes_down" = some (some (.ref f__law_comes_down))) (l__law_comes_down : K.lookup f__law_comes_down = some ⟨oc__law_comes_down, od__law_comes_down, .func (PySem.W.fnOf "_law_comes_down" "_law_comes_down" (defArgs s__law_comes_down) (defBody s__law_comes_down) (defScope s__law_comes_down) .none kV__law_comes_down dc__law_comes_down pm__law_comes_down an__law_comes_down cd__law_comes_down ct__law_comes_down), sl__law_comes_down⟩) (c__law_comes_down : PySem.W.codeIn K cd__law_comes_down "_law_comes_down" = true) (k__law_comes_down : PySem.W.keepIn K (.ref f__law_comes_down) = true)
    (a__law_substitutes : PySem.W.nsIn K mainGlobals "_law_substitutes" = some (some (.ref f__law_substitutes))) (l__law_substitutes : K.lookup f__law_substitutes = some ⟨oc__law_substitutes, od__law_substitutes, .func (PySem.W.fnOf "_law_substitutes" "_law_substitutes" (defArgs s__law_substitutes) (defBody s__law_substitutes) (defScope s__law_substitutes) .none kV__law_substitutes dc__law_substitutes pm__law_substitutes an__law_substitutes cd__law_substitutes ct__law_substitutes), sl__law_substitutes⟩) (c__law_substitutes : PySem.W.codeIn K cd__law_substitutes "_law_substitutes" = true) (k__law_substitutes : PySem.W.keepIn K (.ref f__law_substitutes) = true)
    (a__law_shifts : PySem.W.nsIn K mainGlobals "_law_shifts" = some (some (.ref f__law_shifts))) (l__law_shifts : K.lookup f__law_shifts = some ⟨oc__law_shifts, od__law_shifts, .func (PySem.W.fnOf "_law_shifts" "_law_shifts" (defArgs s__law_shifts) (defBody s__law_shifts) (defScope s__law_shifts) .none kV__law_shifts dc__law_shifts pm__law_shifts an__law_shifts cd__law_shifts ct__law_shifts), sl__law_shifts⟩) (c__law_shifts : PySem.W.codeIn K cd__law_shifts "_law_shifts" = true) (k__law_shifts : PySem.W.keepIn K (.ref f__law_shifts) = true)
    (a_law : PySem.W.nsIn K mainGlobals "law" = some (some (.ref f_law))) (l_law : K.lookup f_law = some ⟨oc_law, od_law, .func (PySem.W.fnOf "law" "law" (defArgs s_law) (defBody s_law) (defScope s_law) .none kV_law dc_law pm_law an_law cd_law ct_law), sl_law⟩) (c_law : PySem.W.codeIn K cd_law "law" = true) (k_law : PySem.W.keepIn K (.ref f_law) = true)
    (y_tuple : PySem.W.nsIn K mainGlobals "tuple" = some none)
    (y_reversed : PySem.W.nsIn K mainGlobals "reversed" = some none)
    (y_len : PySem.W.nsIn K mainGlobals "len" = some none)
    (y_abs : PySem.W.nsIn K mainGlobals "abs" = some none)
    (y_int : PySem.W.nsIn K mainGlobals "int" = some none)
    (y_list : PySem.W.nsIn K mainGlobals "list" = some none)
    (y_isinstance : PySem.W.nsIn K mainGlobals "isinstance" = some none)
    (y_bool : PySem.W.nsIn K mainGlobals "bool" = some none)
    (y_str : PySem.W.nsIn K mainGlobals "str" = some none)
    (y_max : PySem.W.nsIn K mainGlobals "max" = some none)
    (y_range : PySem.W.nsIn K mainGlobals "range" = some none)
    (y_min : PySem.W.nsIn K mainGlobals "min" = some none) :
    ∃ fd : FuncData, (∀ (s : Shared) (v : Value), BindsTo s fd ⟨[v], []⟩ [("script", v)]) ∧ ∀ base : Heap, K.In base → base.Ns mainGlobals mg → FnOk l.prog w K mg base CX0 6 fa fd ["script"] (spOf K sp_law) := by
  have e := hfa.symm.trans (PySem.W.mg_of X G a_law)
  cases e
  have F_raised := fun_mk (st := s_raised) l_raised c_raised k_raised
  have b_raised := F_raised.binds (ps := ["letter", "height"]) fun _ _ _ _ _ _ us hl => match us, hl with | [_, _], _ => rfl
  have m_raised := PySem.W.mg_of X G a_raised
  have F_lowered := fun_mk (st := s_lowered) l_lowered c_lowered k_lowered
  have b_lowered := F_lowered.binds (ps := ["letter"]) fun _ _ _ _ _ _ us hl => match us, hl with | [_], _ => rfl
  have m_lowered := PySem.W.mg_of X G a_lowered
  have F_last_height := fun_mk (st := s_last_height) l_last_height c_last_height k_last_height
  have b_last_height := F_last_height.binds (ps := ["letter"]) fun _ _ _ _ _ _ us hl => match us, hl with | [_], _ => rfl
  have m_last_height := PySem.W.mg_of X G a_last_height
  have F_reduced := fun_mk (st := s_reduced) l_reduced c_reduced k_reduced
  have b_reduced := F_reduced.binds (ps := ["pairs"]) fun _ _ _ _ _ _ us hl => match us, hl with | [_], _ => rfl
  have m_reduced := PySem.W.mg_of X G a_reduced
  have F_inverse := fun_mk (st := s_inverse) l_inverse c_inverse k_inverse
  have b_inverse := F_inverse.binds (ps := ["word"]) fun _ _ _ _ _ _ us hl => match us, hl with | [_], _ => rfl
  have m_inverse := PySem.W.mg_of X G a_inverse
  have F_power := fun_mk (st := s_power) l_power c_power k_power
  have b_power := F_power.binds (ps := ["word", "exponent"]) fun _ _ _ _ _ _ us hl => match us, hl with | [_, _], _ => rfl
  have m_power := PySem.W.mg_of X G a_power
  have F_substitute := fun_mk (st := s_substitute) l_substitute c_substitute k_substitute
  have b_substitute := F_substitute.binds (ps := ["word", "letter", "image"]) fun _ _ _ _ _ _ us hl => match us, hl with | [_, _, _], _ => rfl
  have m_substitute := PySem.W.mg_of X G a_substitute
  have F_shifted := fun_mk (st := s_shifted) l_shifted c_shifted k_shifted
  have b_shifted := F_shifted.binds (ps := ["word", "by"]) fun _ _ _ _ _ _ us hl => match us, hl with | [_, _], _ => rfl
  have m_shifted := PySem.W.mg_of X G a_shifted
  have F__law_pool := fun_mk (st := s__law_pool) l__law_pool c__law_pool k__law_pool
  have b__law_pool := F__law_pool.binds (ps := ["script", "place"]) fun _ _ _ _ _ _ us hl => match us, hl with | [_, _], _ => rfl
  have m__law_pool := PySem.W.mg_of X G a__law_pool
  have F__law_draw := fun_mk (st := s__law_draw) l__law_draw c__law_draw k__law_draw
  have b__law_draw := F__law_draw.binds (ps := ["pool", "many"]) fun _ _ _ _ _ _ us hl => match us, hl with | [_, _], _ => rfl
  have m__law_draw := PySem.W.mg_of X G a__law_draw
  have F__law_back := fun_mk (st := s__law_back) l__law_back c__law_back k__law_back
  have b__law_back := F__law_back.binds (ps := ["word"]) fun _ _ _ _ _ _ us hl => match us, hl with | [_], _ => rfl
  have m__law_back := PySem.W.mg_of X G a__law_back
  have F__law_lacks := fun_mk (st := s__law_lacks) l__law_lacks c__law_lacks k__law_lacks
  have b__law_lacks := F__law_lacks.binds (ps := ["word", "one"]) fun _ _ _ _ _ _ us hl => match us, hl with | [_, _], _ => rfl
  have m__law_lacks := PySem.W.mg_of X G a__law_lacks
  have F__law_is_whole := fun_mk (st := s__law_is_whole) l__law_is_whole c__law_is_whole k__law_is_whole
  have b__law_is_whole := F__law_is_whole.binds (ps := ["value"]) fun _ _ _ _ _ _ us hl => match us, hl with | [_], _ => rfl
  have m__law_is_whole := PySem.W.mg_of X G a__law_is_whole
  have F__law_is_letter := fun_mk (st := s__law_is_letter) l__law_is_letter c__law_is_letter k__law_is_letter
  have b__law_is_letter := F__law_is_letter.binds (ps := ["value"]) fun _ _ _ _ _ _ us hl => match us, hl with | [_], _ => rfl
  have m__law_is_letter := PySem.W.mg_of X G a__law_is_letter
  have F__law_is_word := fun_mk (st := s__law_is_word) l__law_is_word c__law_is_word k__law_is_word
  have b__law_is_word := F__law_is_word.binds (ps := ["value"]) fun _ _ _ _ _ _ us hl => match us, hl with | [_], _ => rfl
  have m__law_is_word := PySem.W.mg_of X G a__law_is_word
  have F__law_word_is := fun_mk (st := s__law_word_is) l__law_word_is c__law_word_is k__law_word_is
  have b__law_word_is := F__law_word_is.binds (ps := ["actual", "due"]) fun _ _ _ _ _ _ us hl => match us, hl with | [_, _], _ => rfl
  have m__law_word_is := PySem.W.mg_of X G a__law_word_is
  have F__law_depth := fun_mk (st := s__law_depth) l__law_depth c__law_depth k__law_depth
  have b__law_depth := F__law_depth.binds (ps := ["pool", "least"]) fun _ _ _ _ _ _ us hl => match us, hl with | [_, _], _ => rfl
  have m__law_depth := PySem.W.mg_of X G a__law_depth
  have F__law_alphabet := fun_mk (st := s__law_alphabet) l__law_alphabet c__law_alphabet k__law_alphabet
  have b__law_alphabet := F__law_alphabet.binds (ps := ["pool", "most", "depth"]) fun _ _ _ _ _ _ us hl => match us, hl with | [_, _, _], _ => rfl
  have m__law_alphabet := PySem.W.mg_of X G a__law_alphabet
  have F__law_exponent := fun_mk (st := s__law_exponent) l__law_exponent c__law_exponent k__law_exponent
  have b__law_exponent := F__law_exponent.binds (ps := ["pool", "great"]) fun _ _ _ _ _ _ us hl => match us, hl with | [_, _], _ => rfl
  have m__law_exponent := PySem.W.mg_of X G a__law_exponent
  have F__law_runs := fun_mk (st := s__law_runs) l__law_runs c__law_runs k__law_runs
  have b__law_runs := F__law_runs.binds (ps := ["pool", "alphabet", "most", "great", "chosen", "limit"]) fun _ _ _ _ _ _ us hl => match us, hl with | [_, _, _, _, _, _], _ => rfl
  have m__law_runs := PySem.W.mg_of X G a__law_runs
  have F__law_walked := fun_mk (st := s__law_walked) l__law_walked c__law_walked k__law_walked
  have b__law_walked := F__law_walked.binds (ps := ["pairs"]) fun _ _ _ _ _ _ us hl => match us, hl with | [_], _ => rfl
  have m__law_walked := PySem.W.mg_of X G a__law_walked
  have F__law_put_for := fun_mk (st := s__law_put_for) l__law_put_for c__law_put_for k__law_put_for
  have b__law_put_for := F__law_put_for.binds (ps := ["word", "one", "image"]) fun _ _ _ _ _ _ us hl => match us, hl with | [_, _, _], _ => rfl
  have m__law_put_for := PySem.W.mg_of X G a__law_put_for
  have F__law_moved := fun_mk (st := s__law_moved) l__law_moved c__law_moved k__law_moved
  have b__law_moved := F__law_moved.binds (ps := ["word", "number"]) fun _ _ _ _ _ _ us hl => match us, hl with | [_, _], _ => rfl
  have m__law_moved := PySem.W.mg_of X G a__law_moved
  have F__law_letter_is := fun_mk (st := s__law_letter_is) l__law_letter_is c__law_letter_is k__law_letter_is
  have b__law_letter_is := F__law_letter_is.binds (ps := ["actual", "due"]) fun _ _ _ _ _ _ us hl => match us, hl with | [_, _], _ => rfl
  have m__law_letter_is := PySem.W.mg_of X G a__law_letter_is
  have F__law_height_is := fun_mk (st := s__law_height_is) l__law_height_is c__law_height_is k__law_height_is
  have b__law_height_is := F__law_height_is.binds (ps := ["one", "number"]) fun _ _ _ _ _ _ us hl => match us, hl with | [_, _], _ => rfl
  have m__law_height_is := PySem.W.mg_of X G a__law_height_is
  have F__law_rises := fun_mk (st := s__law_rises) l__law_rises c__law_rises k__law_rises
  have b__law_rises := F__law_rises.binds (ps := ["one", "number"]) fun _ _ _ _ _ _ us hl => match us, hl with | [_, _], _ => rfl
  have m__law_rises := PySem.W.mg_of X G a__law_rises
  have F__law_comes_down := fun_mk (st := s__law_comes_down) l__law_comes_down c__law_comes_down k__law_comes_down
  have b__law_comes_down := F__law_comes_down.binds (ps := ["one"]) fun _ _ _ _ _ _ us hl => match us, hl with | [_], _ => rfl
  have m__law_comes_down := PySem.W.mg_of X G a__law_comes_down
  have F__law_substitutes := fun_mk (st := s__law_substitutes) l__law_substitutes c__law_substitutes k__law_substitutes
  have b__law_substitutes := F__law_substitutes.binds (ps := ["word", "chosen", "image", "spare"]) fun _ _ _ _ _ _ us hl => match us, hl with | [_, _, _, _], _ => rfl
  have m__law_substitutes := PySem.W.mg_of X G a__law_substitutes
  have F__law_shifts := fun_mk (st := s__law_shifts) l__law_shifts c__law_shifts k__law_shifts
  have b__law_shifts := F__law_shifts.binds (ps := ["steep", "number"]) fun _ _ _ _ _ _ us hl => match us, hl with | [_, _], _ => rfl
  have m__law_shifts := PySem.W.mg_of X G a__law_shifts
  have F_law := fun_mk (st := s_law) l_law c_law k_law
  have m_MARK := PySem.W.mg_of X G a_MARK
  have r_MARK : RelV (.ref t_MARK) (.ref t_MARK) := rfl
  have h_MARK : ∀ ρ H, Rep K ρ H d_MARK (.ref t_MARK) := fun ρ H => by
    unfold d_MARK Rep
    exact ⟨t_MARK, [V.str (Str.ofString "!")], rfl, .inr ⟨_, _, _, l_MARK, rfl, rfl, (show 1 ≤ sizeLine by decide), .cons ⟨tk_MARK, rfl⟩ .nil⟩, .cons (.str _) .nil⟩
  have m_STEP := PySem.W.mg_of X G a_STEP
  have r_STEP : RelV (.ref t_STEP) (.ref t_STEP) := rfl
  have h_STEP : ∀ ρ H, Rep K ρ H d_STEP (.ref t_STEP) := fun ρ H => by
    unfold d_STEP Rep
    exact ⟨t_STEP, [V.str (Str.ofString "/")], rfl, .inr ⟨_, _, _, l_STEP, rfl, rfl, (show 1 ≤ sizeLine by decide), .cons ⟨tk_STEP, rfl⟩ .nil⟩, .cons (.str _) .nil⟩
  have z_tuple := PySem.W.mg_none_of X G y_tuple
  have z_reversed := PySem.W.mg_none_of X G y_reversed
  have z_len := PySem.W.mg_none_of X G y_len
  have z_abs := PySem.W.mg_none_of X G y_abs
  have z_int := PySem.W.mg_none_of X G y_int
  have z_list := PySem.W.mg_none_of X G y_list
  have z_isinstance := PySem.W.mg_none_of X G y_isinstance
  have z_bool := PySem.W.mg_none_of X G y_bool
  have z_str := PySem.W.mg_none_of X G y_str
  have z_max := PySem.W.mg_none_of X G y_max
  have z_range := PySem.W.mg_none_of X G y_range
  have z_min := PySem.W.mg_none_of X G y_min
  refine ⟨PySem.W.fnOf "law" "law" (defArgs s_law) (defBody s_law) (defScope s_law) .none kV_law dc_law pm_law an_law cd_law ct_law, fun s v => .of_eq rfl, fun base _ _ => ?_⟩
  have G_raised := ok_raised (P := l.prog) (w := w) (mg := mg) (base := base) F_raised 
  have G_lowered := ok_lowered (P := l.prog) (w := w) (mg := mg) (base := base) F_lowered 
  have G_last_height := ok_last_height (P := l.prog) (w := w) (mg := mg) (base := base) F_last_height 
  have G_reduced := ok_reduced (P := l.prog) (w := w) (mg := mg) (base := base) F_reduced z_tuple
  have G_inverse := ok_inverse (P := l.prog) (w := w) (mg := mg) (base := base) F_inverse z_reversed z_tuple
  have G__law_pool := ok__law_pool (P := l.prog) (w := w) (mg := mg) (base := base) F__law_pool z_len z_int z_abs
  have G__law_draw := ok__law_draw (P := l.prog) (w := w) (mg := mg) (base := base) F__law_draw z_int
  have G__law_back := ok__law_back (P := l.prog) (w := w) (mg := mg) (base := base) F__law_back z_list z_reversed z_tuple
  have G__law_lacks := ok__law_lacks (P := l.prog) (w := w) (mg := mg) (base := base) F__law_lacks z_len
  have G__law_is_whole := ok__law_is_whole (P := l.prog) (w := w) (mg := mg) (base := base) F__law_is_whole z_int z_isinstance z_bool
  have G__law_walked := ok__law_walked (P := l.prog) (w := w) (mg := mg) (base := base) F__law_walked z_list z_reversed z_len z_tuple
  have G__law_moved := ok__law_moved (P := l.prog) (w := w) (mg := mg) (base := base) F__law_moved z_len z_tuple
  have G_power := ok_power (P := l.prog) (w := w) (mg := mg) (base := base) F_power G_inverse m_inverse k_inverse b_inverse G_reduced m_reduced k_reduced b_reduced z_len z_abs
  have G_shifted := ok_shifted (P := l.prog) (w := w) (mg := mg) (base := base) F_shifted G_raised m_raised k_raised b_raised G_last_height m_last_height k_last_height b_last_height G_lowered m_lowered k_lowered b_lowered z_tuple
  have G__law_is_letter := ok__law_is_letter (P := l.prog) (w := w) (mg := mg) (base := base) F__law_is_letter G__law_is_whole m__law_is_whole k__law_is_whole b__law_is_whole z_tuple z_isinstance z_len z_str
  have G__law_depth := ok__law_depth (P := l.prog) (w := w) (mg := mg) (base := base) F__law_depth G__law_draw m__law_draw k__law_draw b__law_draw z_max
  have G__law_alphabet := ok__law_alphabet (P := l.prog) (w := w) (mg := mg) (base := base) F__law_alphabet G__law_draw m__law_draw k__law_draw b__law_draw z_range z_len z_list z_tuple
  have G__law_exponent := ok__law_exponent (P := l.prog) (w := w) (mg := mg) (base := base) F__law_exponent G__law_draw m__law_draw k__law_draw b__law_draw
  have G__law_put_for := ok__law_put_for (P := l.prog) (w := w) (mg := mg) (base := base) F__law_put_for G__law_back m__law_back k__law_back b__law_back G__law_walked m__law_walked k__law_walked b__law_walked z_list z_abs z_min z_range
  have G__law_height_is := ok__law_height_is (P := l.prog) (w := w) (mg := mg) (base := base) F__law_height_is G__law_is_whole m__law_is_whole k__law_is_whole b__law_is_whole G_last_height m_last_height k_last_height b_last_height
  have G_substitute := ok_substitute (P := l.prog) (w := w) (mg := mg) (base := base) F_substitute G_power m_power k_power b_power G_reduced m_reduced k_reduced b_reduced
  have G__law_is_word := ok__law_is_word (P := l.prog) (w := w) (mg := mg) (base := base) F__law_is_word G__law_is_letter m__law_is_letter k__law_is_letter b__law_is_letter G__law_is_whole m__law_is_whole k__law_is_whole b__law_is_whole z_tuple z_isinstance z_len
  have G__law_runs := ok__law_runs (P := l.prog) (w := w) (mg := mg) (base := base) F__law_runs G__law_draw m__law_draw k__law_draw b__law_draw G__law_exponent m__law_exponent k__law_exponent b__law_exponent z_range z_len z_tuple
  have G__law_letter_is := ok__law_letter_is (P := l.prog) (w := w) (mg := mg) (base := base) F__law_letter_is G__law_is_letter m__law_is_letter k__law_is_letter b__law_is_letter
  have G__law_word_is := ok__law_word_is (P := l.prog) (w := w) (mg := mg) (base := base) F__law_word_is G__law_is_word m__law_is_word k__law_is_word b__law_is_word
  have G__law_rises := ok__law_rises (P := l.prog) (w := w) (mg := mg) (base := base) F__law_rises G_raised m_raised k_raised b_raised G__law_letter_is m__law_letter_is k__law_letter_is b__law_letter_is G_lowered m_lowered k_lowered b_lowered G__law_height_is m__law_height_is k__law_height_is b__law_height_is
  have G__law_comes_down := ok__law_comes_down (P := l.prog) (w := w) (mg := mg) (base := base) F__law_comes_down G__law_letter_is m__law_letter_is k__law_letter_is b__law_letter_is G_lowered m_lowered k_lowered b_lowered G__law_height_is m__law_height_is k__law_height_is b__law_height_is G_raised m_raised k_raised b_raised G_last_height m_last_height k_last_height b_last_height z_len
  have G__law_substitutes := ok__law_substitutes (P := l.prog) (w := w) (mg := mg) (base := base) F__law_substitutes G__law_put_for m__law_put_for k__law_put_for b__law_put_for G__law_word_is m__law_word_is k__law_word_is b__law_word_is G_substitute m_substitute k_substitute b_substitute G__law_lacks m__law_lacks k__law_lacks b__law_lacks
  have G__law_shifts := ok__law_shifts (P := l.prog) (w := w) (mg := mg) (base := base) F__law_shifts G__law_word_is m__law_word_is k__law_word_is b__law_word_is G__law_moved m__law_moved k__law_moved b__law_moved G_shifted m_shifted k_shifted b_shifted
  exact ok_law F_law G__law_pool m__law_pool k__law_pool b__law_pool G__law_alphabet m__law_alphabet k__law_alphabet b__law_alphabet G__law_depth m__law_depth k__law_depth b__law_depth G__law_draw m__law_draw k__law_draw b__law_draw G__law_runs m__law_runs k__law_runs b__law_runs G__law_substitutes m__law_substitutes k__law_substitutes b__law_substitutes G__law_shifts m__law_shifts k__law_shifts b__law_shifts G__law_rises m__law_rises k__law_rises b__law_rises G__law_comes_down m__law_comes_down k__law_comes_down b__law_comes_down G__law_letter_is m__law_letter_is k__law_letter_is b__law_letter_is m_MARK r_MARK h_MARK m_STEP r_STEP h_STEP z_len z_max
end K03
open PySem PySem.W PyProof.Rows
set_option maxHeartbeats 0 in
theorem PySem.Challenge.cw_onelaw_k03_substitute_and_shift_holds : PySem.Challenge.rw_onelaw_k03_substitute_and_shift.Holds := by
  w_on; o_law; k_head; (case hw => w_witness2)
  k_fill
  refine L2.walk_ofK (l := PySem.Challenge.rw_onelaw_k03_substitute_and_shift) (n := 63) (k := 6) (x := "script") (CX := L2.CX0) (sp := fun K => DL.spOf K K03.sp_law) rfl (by decide) rfl ⟨rfl, by decide, by decide⟩ (fun w h Y => PySem.W.kIn_of Y) ?F (fun K H a ns hl hO hS => DL.sp_law hl hO hS) (fun _ _ _ _ h => h)
  case F =>
    intro w mg fa h KX G hmg
    refine' K03.all_mk KX G hmg ?a_MARK ?l_MARK ?a_STEP ?l_STEP ?a_raised ?l_raised ?c_raised ?k_raised ?a_lowered ?l_lowered ?c_lowered ?k_lowered ?a_last_height ?l_last_height ?c_last_height ?k_last_height ?a_reduced ?l_reduced ?c_reduced ?k_reduced ?a_inverse ?l_inverse ?c_inverse ?k_inverse ?a_power ?l_power ?c_power ?k_power ?a_substitute ?l_substitute ?c_substitute ?k_substitute ?a_shifted ?l_shifted ?c_shifted ?k_shifted ?a__law_pool ?l__law_pool ?c__law_pool ?k__law_pool ?a__law_draw ?l__law_draw ?c__law_draw ?k__law_draw ?a__law_back ?l__law_back ?c__law_back ?k__law_back ?a__law_lacks ?l__law_lacks ?c__law_lacks ?k__law_lacks ?a__law_is_whole ?l__law_is_whole ?c__law_is_whole ?k__law_is_whole ?a__law_is_letter ?l__law_is_letter ?c__law_is_letter ?k__law_is_letter ?a__law_is_word ?l__law_is_word ?c__law_is_word ?k__law_is_word ?a__law_word_is ?l__law_word_is ?c__law_word_is ?k__law_word_is ?a__law_depth ?l__law_depth ?c__law_depth ?k__law_depth ?a__law_alphabet ?l__law_alphabet ?c__law_alphabet ?k__law_alphabet ?a__law_exponent ?l__law_exponent ?c__law_exponent ?k__law_exponent ?a__law_runs ?l__law_runs ?c__law_runs ?k__law_runs ?a__law_walked ?l__law_walked ?c__law_walked ?k__law_walked ?a__law_put_for ?l__law_put_for ?c__law_put_for ?k__law_put_for ?a__law_moved ?l__law_moved ?c__law_moved ?k__law_moved ?a__law_letter_is ?l__law_letter_is ?c__law_letter_is ?k__law_letter_is ?a__law_height_is ?l__law_height_is ?c__law_height_is ?k__law_height_is ?a__law_rises ?l__law_rises ?c__law_rises ?k__law_rises ?a__law_comes_down ?l__law_comes_down ?c__law_comes_down ?k__law_comes_down ?a__law_substitutes ?l__law_substitutes ?c__law_substitutes ?k__law_substitutes ?a__law_shifts ?l__law_shifts ?c__law_shifts ?k__law_shifts ?a_law ?l_law ?c_law ?k_law ?y_tuple ?y_reversed ?y_len ?y_abs ?y_int ?y_list ?y_isinstance ?y_bool ?y_str ?y_max ?y_range ?y_min
    (case a_MARK => k_is); (case l_MARK => k_is); (case a_STEP => k_is); (case l_STEP => k_is); (case a_raised => k_is); (case l_raised => k_is); (case c_raised => k_is); (case k_raised => k_is); (case a_lowered => k_is); (case l_lowered => k_is); (case c_lowered => k_is); (case k_lowered => k_is); (case a_last_height => k_is); (case l_last_height => k_is); (case c_last_height => k_is); (case k_last_height => k_is); (case a_reduced => k_is); (case l_reduced => k_is); (case c_reduced => k_is); (case k_reduced => k_is); (case a_inverse => k_is); (case l_inverse => k_is); (case c_inverse => k_is); (case k_inverse => k_is); (case a_power => k_is); (case l_power => k_is); (case c_power => k_is); (case k_power => k_is); (case a_substitute => k_is); (case l_substitute => k_is); (case c_substitute => k_is); (case k_substitute => k_is); (case a_shifted => k_is); (case l_shifted => k_is); (case c_shifted => k_is); (case k_shifted => k_is); (case a__law_pool => k_is); (case l__law_pool => k_is); (case c__law_pool => k_is); (case k__law_pool => k_is); (case a__law_draw => k_is); (case l__law_draw => k_is); (case c__law_draw => k_is); (case k__law_draw => k_is); (case a__law_back => k_is); (case l__law_back => k_is); (case c__law_back => k_is); (case k__law_back => k_is); (case a__law_lacks => k_is); (case l__law_lacks => k_is); (case c__law_lacks => k_is); (case k__law_lacks => k_is); (case a__law_is_whole => k_is); (case l__law_is_whole => k_is); (case c__law_is_whole => k_is); (case k__law_is_whole => k_is); (case a__law_is_letter => k_is); (case l__law_is_letter => k_is); (case c__law_is_letter => k_is); (case k__law_is_letter => k_is); (case a__law_is_word => k_is); (case l__law_is_word => k_is); (case c__law_is_word => k_is); (case k__law_is_word => k_is); (case a__law_word_is => k_is); (case l__law_word_is => k_is); (case c__law_word_is => k_is); (case k__law_word_is => k_is); (case a__law_depth => k_is); (case l__law_depth => k_is); (case c__law_depth => k_is); (case k__law_depth => k_is); (case a__law_alphabet => k_is); (case l__law_alphabet => k_is); (case c__law_alphabet => k_is); (case k__law_alphabet => k_is); (case a__law_exponent => k_is); (case l__law_exponent => k_is); (case c__law_exponent => k_is); (case k__law_exponent => k_is); (case a__law_runs => k_is); (case l__law_runs => k_is); (case c__law_runs => k_is); (case k__law_runs => k_is); (case a__law_walked => k_is); (case l__law_walked => k_is); (case c__law_walked => k_is); (case k__law_walked => k_is); (case a__law_put_for => k_is); (case l__law_put_for => k_is); (case c__law_put_for => k_is); (case k__law_put_for => k_is); (case a__law_moved => k_is); (case l__law_moved => k_is); (case c__law_moved => k_is); (case k__law_moved => k_is); (case a__law_letter_is => k_is); (case l__law_letter_is => k_is); (case c__law_letter_is => k_is); (case k__law_letter_is => k_is); (case a__law_height_is => k_is); (case l__law_height_is => k_is); (case c__law_height_is => k_is); (case k__law_height_is => k_is); (case a__law_rises => k_is); (case l__law_rises => k_is); (case c__law_rises => k_is); (case k__law_rises => k_is); (case a__law_comes_down => k_is); (case l__law_comes_down => k_is); (case c__law_comes_down => k_is); (case k__law_comes_down => k_is); (case a__law_substitutes => k_is); (case l__law_substitutes => k_is); (case c__law_substitutes => k_is); (case k__law_substitutes => k_is); (case a__law_shifts => k_is); (case l__law_shifts => k_is); (case c__law_shifts => k_is); (case k__law_shifts => k_is); (case a_law => k_is); (case l_law => k_is); (case c_law => k_is); (case k_law => k_is); (case y_tuple => k_is); (case y_reversed => k_is); (case y_len => k_is); (case y_abs => k_is); (case y_int => k_is); (case y_list => k_is); (case y_isinstance => k_is); (case y_bool => k_is); (case y_str => k_is); (case y_max => k_is); (case y_range => k_is); (case y_min => k_is)
