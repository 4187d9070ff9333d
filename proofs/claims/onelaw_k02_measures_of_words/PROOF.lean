import PyProof.Rows.All
import Wide.All
import OpenK.AllK
import Wide.FinOn
import HandS.ForMost
import HandS.Deep
import HandS.Wide
import HandS.TupAny
import HandS.Rev
import HandS.IsInst
import HandS.RevTup
import HandS.Star
import HandS.TupMul
import HandS.GenList
import KE.GoesEnum
import KE.GoesMore
import HandS.Gcd
import HandS.Sort
import PyProof.Rows.SortKeyStr
import KE.KExcSuper
import HandS.ExcOwn
import HandS.ExcInit
import HandS.ExcField
import HandS.ExcIs
import HandS.TryMany
import HandS.TryOnly
import HandS.Property
import HandS.Style
import HandS.Defaults
import HandS.SlotsOwn
import HandS.MakeKwOnly
import HandS.TupSets
import HandS.SetBool
import HandS.SortOrd
import KE.LtData
import KE.SortData
import HandS.More
import PySem.Challenge.RW_onelaw_k02_measures_of_words
set_option Elab.async false
set_option linter.all false
set_option maxRecDepth 100000
set_option maxHeartbeats 4000000
/-! DL: a layer of plain data over the hand layer: values are trees, lists stand in a numbered store. -/
namespace DL
open PySem PySem.Spec L2

/-- plain data; ref k: the k-th cell of the store; rol: a list that is only read -/
inductive D where
  | non
  | bl (b : Bool)
  | int (i : Int)
  | str (x : Str)
  | ty (n : String)
  | tup (xs : List D)
  | rol (xs : List D)
  | ref (k : Nat)
  | adr (a : Addr)

/-- a list that nobody writes -/
def SqF (K : PySem.W.Frag) (H : Hp) (a : Addr) (xs : List V) : Prop :=
  (∃ o, H a = some (.frz o (.lst xs))) ∨
    ∃ (o : Obj) (its : Array Value) (n : Nat), K.lookup a = some o ∧ o.cls = .type "list" ∧ o.dict = none ∧ o.data = .seq its n ∧ its.size ≤ sizeLine ∧ Vals xs its.toList

mutual
def Rep (K : PySem.W.Frag) (ρ : List Addr) (H : Hp) : D → V → Prop
  | .non, v => v = .non
  | .bl b, v => v = .bl b
  | .int i, v => v = .int i
  | .str x, v => v = .str x
  | .ty n, v => v = .ty n
  | .tup xs, v => ∃ a vs, v = .ref a ∧ SqT K H a vs ∧ Reps K ρ H xs vs
  | .rol xs, v => ∃ a vs, v = .ref a ∧ SqF K H a vs ∧ Reps K ρ H xs vs
  | .ref k, v => ∃ a, ρ[k]? = some a ∧ v = .ref a
  | .adr a, v => v = .ref a
def Reps (K : PySem.W.Frag) (ρ : List Addr) (H : Hp) : List D → List V → Prop
  | [], vs => vs = []
  | d :: ds, vs => ∃ v r, vs = v :: r ∧ Rep K ρ H d v ∧ Reps K ρ H ds r
end

structure Keep (ρ ρ' : List Addr) (H H' : Hp) : Prop where
  pre : ∃ t, ρ' = ρ ++ t
  tups : ∀ a xs, H a = some (.tup xs) → H' a = some (.tup xs)
  frzs : ∀ a o u, H a = some (.frz o u) → H' a = some (.frz o u)
  xds : ∀ a fs, H a = some (.xd fs) → H' a = some (.xd fs)

section
variable {K : PySem.W.Frag} {ρ ρ' ρ'' : List Addr} {H H' H'' : Hp}
theorem Keep.refl : Keep ρ ρ H H := ⟨⟨[], by simp⟩, fun _ _ h => h, fun _ _ _ h => h, fun _ _ h => h⟩
theorem Keep.trans (a : Keep ρ ρ' H H') (b : Keep ρ' ρ'' H' H'') : Keep ρ ρ'' H H'' := by
  obtain ⟨t, rfl⟩ := a.pre
  obtain ⟨u, rfl⟩ := b.pre
  exact ⟨⟨t ++ u, by simp⟩, fun x y h => b.tups x y (a.tups x y h), fun x y z h => b.frzs x y z (a.frzs x y z h), fun x y h => b.xds x y (a.xds x y h)⟩
end
/-- the base of a run: what stays true as the run goes on, and behind forgetting -/
class Bs where
  n : Nat
  B : List Addr → Hp → Prop
  kl : ∀ {ρ ρ' : List Addr} {H H' : Hp}, Keep ρ ρ' H H' → B ρ H → B ρ' H'
  gl : ∀ {m : Nat} {ρ ρ' : List Addr} {H : Hp}, n ≤ m → ρ.take m = ρ'.take m → B ρ H → B ρ' H
instance (priority := 10) triv : Bs := ⟨0, fun _ _ => True, fun _ _ => trivial, fun _ _ _ => trivial⟩
/-- the base at a place -/
def baseAt (n : Nat) (ρ0 : List Addr) (H0 : Hp) (hn : ρ0.length ≤ n) : Bs := ⟨n, fun ρ H => Keep ρ0 ρ H0 H, fun k h => h.trans k, fun {m ρ ρ' H} hm e h => by
  refine ⟨?_, h.tups, h.frzs, h.xds⟩
  obtain ⟨t, rfl⟩ := h.pre
  refine ⟨ρ'.drop ρ0.length, ?_⟩
  have e2 : ρ'.take ρ0.length = ρ0 := by
    have h1 : (ρ'.take m).take ρ0.length = ((ρ0 ++ t).take m).take ρ0.length := by rw [e]
    rw [List.take_take, List.take_take, Nat.min_eq_left (by omega), List.take_left'  rfl] at h1
    exact h1
  have e3 := List.take_append_drop ρ0.length ρ'
  rw [e2] at e3
  exact e3.symm⟩
section
variable {K : PySem.W.Frag} {ρ ρ' ρ'' : List Addr} {H H' H'' : Hp}
theorem Keep.get (k : Keep ρ ρ' H H') {i : Nat} {a : Addr} (h : ρ[i]? = some a) : ρ'[i]? = some a := by
  obtain ⟨t, rfl⟩ := k.pre
  rw [List.getElem?_append_left]
  · exact h
  · exact (List.getElem?_eq_some_iff.mp h).1
theorem Keep.sqt (k : Keep ρ ρ' H H') {a : Addr} {xs : List V} (h : SqT K H a xs) : SqT K H' a xs := by
  rcases h with (h | ⟨o, h⟩) | h
  · exact .inl (.inl (k.tups _ _ h))
  · exact .inl (.inr ⟨o, k.frzs _ _ _ h⟩)
  · exact .inr h
theorem Keep.sqf (k : Keep ρ ρ' H H') {a : Addr} {xs : List V} (h : SqF K H a xs) : SqF K H' a xs := by
  rcases h with ⟨o, h⟩ | h
  · exact .inl ⟨o, k.frzs _ _ _ h⟩
  · exact .inr h
mutual
theorem rep_keep (k : Keep ρ ρ' H H') : ∀ (d : D) (v : V), Rep K ρ H d v → Rep K ρ' H' d v
  | .non, _, h => h
  | .bl _, _, h => h
  | .int _, _, h => h
  | .str _, _, h => h
  | .ty _, _, h => h
  | .tup xs, v, h => by
    obtain ⟨a, vs, e, hs, hr⟩ := h
    exact ⟨a, vs, e, k.sqt hs, reps_keep k xs vs hr⟩
  | .rol xs, v, h => by
    obtain ⟨a, vs, e, hs, hr⟩ := h
    exact ⟨a, vs, e, k.sqf hs, reps_keep k xs vs hr⟩
  | .ref i, v, h => by
    obtain ⟨a, hs, e⟩ := h
    exact ⟨a, k.get hs, e⟩
  | .adr _, _, h => h
theorem reps_keep (k : Keep ρ ρ' H H') : ∀ (ds : List D) (vs : List V), Reps K ρ H ds vs → Reps K ρ' H' ds vs
  | [], _, h => h
  | d :: ds, vs, h => by
    obtain ⟨v, r, e, h1, h2⟩ := h
    exact ⟨v, r, e, rep_keep k d v h1, reps_keep k ds r h2⟩
end
theorem Rep.keep {d : D} {v : V} (h : Rep K ρ H d v) (k : Keep ρ ρ' H H') : Rep K ρ' H' d v := rep_keep k d v h
theorem Reps.keep {ds : List D} {vs : List V} (h : Reps K ρ H ds vs) (k : Keep ρ ρ' H H') : Reps K ρ' H' ds vs := reps_keep k ds vs h
theorem Reps.nil : Reps K ρ H [] [] := by unfold Reps; rfl
theorem Reps.cons {d : D} {ds : List D} {v : V} {vs : List V} (h : Rep K ρ H d v) (hs : Reps K ρ H ds vs) : Reps K ρ H (d :: ds) (v :: vs) := by unfold Reps; exact ⟨v, vs, rfl, h, hs⟩
theorem Reps.len : ∀ {ds : List D} {vs : List V}, Reps K ρ H ds vs → ds.length = vs.length
  | [], vs, h => by unfold Reps at h; rw [h]; rfl
  | d :: ds, vs, h => by
    unfold Reps at h
    obtain ⟨v, r, rfl, _, h2⟩ := h
    rw [List.length_cons, List.length_cons, Reps.len h2]
theorem Reps.get : ∀ {ds : List D} {vs : List V} {i : Nat} {d : D}, Reps K ρ H ds vs → ds[i]? = some d → ∃ v, vs[i]? = some v ∧ Rep K ρ H d v
  | [], _, _, _, _, e => by simp at e
  | a :: ds, vs, 0, d, h, e => by
    unfold Reps at h
    obtain ⟨v, r, rfl, h1, _⟩ := h
    simp at e
    subst e
    exact ⟨v, rfl, h1⟩
  | a :: ds, vs, i + 1, d, h, e => by
    unfold Reps at h
    obtain ⟨v, r, rfl, _, h2⟩ := h
    simp at e
    obtain ⟨w, e2, h3⟩ := Reps.get h2 e
    exact ⟨w, by simpa using e2, h3⟩
theorem Reps.get2 {ds : List D} {vs : List V} {i : Nat} {v : V} (h : Reps K ρ H ds vs) (e : vs[i]? = some v) : ∃ d, ds[i]? = some d ∧ Rep K ρ H d v := by
  have hl := h.len
  have hi := (List.getElem?_eq_some_iff.mp e).1
  have hd : ds[i]? = some ds[i] := List.getElem?_eq_getElem (by omega)
  obtain ⟨w, e2, r⟩ := h.get hd
  rw [e] at e2
  cases e2
  exact ⟨_, hd, r⟩
theorem Reps.app : ∀ {ds es : List D} {vs ws : List V}, Reps K ρ H ds vs → Reps K ρ H es ws → Reps K ρ H (ds ++ es) (vs ++ ws)
  | [], _, vs, _, h, h' => by unfold Reps at h; rw [h]; exact h'
  | d :: ds, es, vs, ws, h, h' => by
    unfold Reps at h
    obtain ⟨v, r, rfl, h1, h2⟩ := h
    exact Reps.cons h1 (Reps.app h2 h')
theorem Reps.take : ∀ {ds : List D} {vs : List V} (n : Nat), Reps K ρ H ds vs → Reps K ρ H (ds.take n) (vs.take n)
  | _, _, 0, _ => Reps.nil
  | [], vs, n + 1, h => by unfold Reps at h; rw [h]; exact Reps.nil
  | d :: ds, vs, n + 1, h => by
    unfold Reps at h
    obtain ⟨v, r, rfl, h1, h2⟩ := h
    exact Reps.cons h1 (Reps.take n h2)
theorem Reps.drop : ∀ {ds : List D} {vs : List V} (n : Nat), Reps K ρ H ds vs → Reps K ρ H (ds.drop n) (vs.drop n)
  | _, _, 0, h => h
  | [], vs, n + 1, h => by unfold Reps at h; rw [h]; exact Reps.nil
  | d :: ds, vs, n + 1, h => by
    unfold Reps at h
    obtain ⟨v, r, rfl, h1, h2⟩ := h
    exact Reps.drop n h2
theorem Reps.rev : ∀ {ds : List D} {vs : List V}, Reps K ρ H ds vs → Reps K ρ H ds.reverse vs.reverse
  | [], vs, h => by unfold Reps at h; rw [h]; exact Reps.nil
  | d :: ds, vs, h => by
    unfold Reps at h
    obtain ⟨v, r, rfl, h1, h2⟩ := h
    rw [List.reverse_cons, List.reverse_cons]
    exact Reps.app (Reps.rev h2) (Reps.cons h1 Reps.nil)
theorem Reps.set : ∀ {ds : List D} {vs : List V} {d : D} {v : V} (n : Nat), Reps K ρ H ds vs → Rep K ρ H d v → Reps K ρ H (ds.set n d) (vs.set n v)
  | [], vs, _, _, _, h, _ => by unfold Reps at h; rw [h]; exact Reps.nil
  | d :: ds, vs, _, _, 0, h, q => by
    unfold Reps at h
    obtain ⟨v, r, rfl, h1, h2⟩ := h
    exact Reps.cons q h2
  | d :: ds, vs, _, _, n + 1, h, q => by
    unfold Reps at h
    obtain ⟨v, r, rfl, h1, h2⟩ := h
    exact Reps.cons h1 (Reps.set n h2 q)
theorem Reps.dropLast {ds : List D} {vs : List V} (h : Reps K ρ H ds vs) : Reps K ρ H ds.dropLast vs.dropLast := by
  rw [List.dropLast_eq_take, List.dropLast_eq_take, h.len]
  exact h.take _
theorem Reps.eraseIdx : ∀ {ds : List D} {vs : List V} (n : Nat), Reps K ρ H ds vs → Reps K ρ H (ds.eraseIdx n) (vs.eraseIdx n)
  | [], vs, _, h => by unfold Reps at h; rw [h]; exact Reps.nil
  | d :: ds, vs, 0, h => by
    unfold Reps at h
    obtain ⟨v, r, rfl, h1, h2⟩ := h
    exact h2
  | d :: ds, vs, n + 1, h => by
    unfold Reps at h
    obtain ⟨v, r, rfl, h1, h2⟩ := h
    exact Reps.cons h1 (Reps.eraseIdx n h2)
theorem Reps.repl {ds : List D} {vs : List V} (h : Reps K ρ H ds vs) : ∀ k : Nat, Reps K ρ H (List.replicate k ds).flatten (List.replicate k vs).flatten
  | 0 => Reps.nil
  | k + 1 => by
    rw [List.replicate_succ, List.replicate_succ, List.flatten_cons, List.flatten_cons]
    exact Reps.app h (Reps.repl h k)
theorem Reps.ints : ∀ (ns : List Int), Reps K ρ H (ns.map D.int) (ns.map V.int)
  | [] => Reps.nil
  | n :: ns => Reps.cons (by unfold Rep; rfl) (Reps.ints ns)
end

/-! ### the store -/
inductive O where
  | lst (xs : List D)
  | ins (x : Str) (fs : List (Str × D))
abbrev Store := List O

section
variable (K : PySem.W.Frag) (ρ : List Addr) (H : Hp)
def RepO (a : Addr) : O → Prop
  | .lst xs => ∃ vs, H a = some (.lst vs) ∧ Reps K ρ H xs vs
  | .ins x fs => ∃ C dx vs, H a = some (.ins C dx vs) ∧ PySem.W.nsIn K PySem.mainGlobals x = some (some (.ref C)) ∧ vs.map Prod.fst = fs.map Prod.fst ∧ Reps K ρ H (fs.map Prod.snd) (vs.map Prod.snd)
structure RelS [Bs] (st : Store) : Prop where
  len : ρ.length = st.length
  nd : ρ.Nodup
  ob : ∀ (k : Nat) o, st[k]? = some o → ∃ a, ρ[k]? = some a ∧ RepO K ρ H a o
  bs : Bs.B ρ H
abbrev DEnv := List (Option D)
structure RelE (env : DEnv) (σ : St) : Prop where
  len : env.length = σ.length
  get : ∀ (i : Nat) d, env[i]? = some (some d) → ∃ v, σ[i]? = some (some v) ∧ Rep K ρ H d v
end

section
variable {K : PySem.W.Frag} {ρ ρ' : List Addr} {H H' : Hp} {st : Store} {env : DEnv} {σ : St}
theorem RelE.keep (r : RelE K ρ H env σ) (k : Keep ρ ρ' H H') : RelE K ρ' H' env σ :=
  ⟨r.len, fun i d e => let ⟨v, e2, q⟩ := r.get i d e; ⟨v, e2, q.keep k⟩⟩
theorem RelE.set {d : D} {v : V} (r : RelE K ρ H env σ) (i : Nat) (h : Rep K ρ H d v) : RelE K ρ H (env.set i (some d)) (σ.set i (some v)) := by
  refine ⟨by rw [List.length_set, List.length_set, r.len], fun j e he => ?_⟩
  by_cases hj : i = j
  · subst hj
    by_cases hi : i < env.length
    · rw [List.getElem?_set_self hi] at he
      cases he
      exact ⟨v, List.getElem?_set_self (by rw [← r.len]; exact hi), h⟩
    · rw [List.getElem?_eq_none (by rw [List.length_set]; omega)] at he
      cases he
  · rw [List.getElem?_set_ne hj] at he ⊢
    exact r.get j e he
theorem RelS.at [Bs] {k : Nat} {a : Addr} {o : O} (r : RelS K ρ H st) (e : ρ[k]? = some a) (h : st[k]? = some o) : RepO K ρ H a o := by
  obtain ⟨b, e2, q⟩ := r.ob k o h
  rw [e] at e2
  cases e2
  exact q
theorem RelS.lst [Bs] {k : Nat} {a : Addr} {xs : List D} (r : RelS K ρ H st) (e : ρ[k]? = some a) (h : st[k]? = some (.lst xs)) : ∃ vs, H a = some (.lst vs) ∧ Reps K ρ H xs vs := r.at e h
/-- the address of every cell is tracked -/
theorem RelS.tracked [Bs] {k : Nat} {a : Addr} (r : RelS K ρ H st) (e : ρ[k]? = some a) : ∃ o, H a = some o := by
  have hk := (List.getElem?_eq_some_iff.mp e).1
  have hs : st[k]? = some (st[k]'(by rw [← r.len]; exact hk)) := List.getElem?_eq_getElem _
  have q := r.at e hs
  cases ho : st[k]'(by rw [← r.len]; exact hk) with
  | lst xs =>
    rw [ho] at q
    obtain ⟨vs, e2, _⟩ := q
    exact ⟨_, e2⟩
  | ins x fs =>
    rw [ho] at q
    obtain ⟨C, dx, vs, e2, _⟩ := q
    exact ⟨_, e2⟩
theorem keep_new {p : Addr} {o : HO} (hp : H p = none) : Keep ρ ρ H (upd H p o) :=
  ⟨⟨[], by simp⟩, fun a xs h => by rw [upd_ne (ne_of_none h hp)]; exact h, fun a ob u h => by rw [upd_ne (ne_of_none h hp)]; exact h, fun a fs h => by rw [upd_ne (ne_of_none h hp)]; exact h⟩
theorem repO_new {p a : Addr} {o : HO} {ob : O} (hp : H p = none) (h : RepO K ρ H a ob) : RepO K ρ (upd H p o) a ob := by
  cases ob with
  | lst xs =>
    obtain ⟨vs, e, r⟩ := h
    exact ⟨vs, by rw [upd_ne (ne_of_none e hp)]; exact e, r.keep (keep_new hp)⟩
  | ins x fs =>
    obtain ⟨C, dx, vs, e, r1, r2, r⟩ := h
    exact ⟨C, dx, vs, by rw [upd_ne (ne_of_none e hp)]; exact e, r1, r2, r.keep (keep_new hp)⟩
/-- an object that is no cell is laid -/
theorem RelS.new [Bs] {p : Addr} {o : HO} (r : RelS K ρ H st) (hp : H p = none) : RelS K ρ (upd H p o) st :=
  ⟨r.len, r.nd, fun k ob e => let ⟨a, e2, q⟩ := r.ob k ob e; ⟨a, e2, repO_new hp q⟩, Bs.kl (keep_new hp) r.bs⟩
theorem repO_keep {a : Addr} {o : O} (h : RepO K ρ H a o) (k : Keep ρ ρ' H H') (e : ∀ u, H a = some u → H' a = some u) : RepO K ρ' H' a o := by
  cases o with
  | lst xs =>
    obtain ⟨vs, e1, r⟩ := h
    exact ⟨vs, e _ e1, r.keep k⟩
  | ins x fs =>
    obtain ⟨C, dx, vs, e1, r1, r2, r⟩ := h
    exact ⟨C, dx, vs, e _ e1, r1, r2, r.keep k⟩
theorem keep_cell {p : Addr} {o : HO} (hp : H p = none) : Keep ρ (ρ ++ [p]) H (upd H p o) :=
  ⟨⟨[p], rfl⟩, fun a xs h => by rw [upd_ne (ne_of_none h hp)]; exact h, fun a ob u h => by rw [upd_ne (ne_of_none h hp)]; exact h, fun a fs h => by rw [upd_ne (ne_of_none h hp)]; exact h⟩
/-- a new cell -/
theorem RelS.cell [Bs] {p : Addr} {vs : List V} {xs : List D} (r : RelS K ρ H st) (hp : H p = none) (h : Reps K ρ H xs vs) : RelS K (ρ ++ [p]) (upd H p (.lst vs)) (st ++ [.lst xs]) := by
  have kp : Keep ρ (ρ ++ [p]) H (upd H p (.lst vs)) := keep_cell hp
  refine ⟨by rw [List.length_append, List.length_append, r.len]; rfl, ?_, fun k o e => ?_, Bs.kl kp r.bs⟩
  · rw [List.nodup_append]
    refine ⟨r.nd, by simp, fun a ha b hb => ?_⟩
    have hb' : b = p := by simpa using hb
    subst hb'
    obtain ⟨i, hi⟩ := List.getElem?_of_mem ha
    obtain ⟨o, ho⟩ := r.tracked hi
    exact ne_of_none ho hp
  · by_cases hk : k < st.length
    · rw [List.getElem?_append_left hk] at e
      obtain ⟨a, e2, q⟩ := r.ob k o e
      refine ⟨a, kp.get e2, repO_keep q kp fun u hu => ?_⟩
      rw [upd_ne (ne_of_none hu hp)]
      exact hu
    · have hk2 : k = st.length := by
        have := (List.getElem?_eq_some_iff.mp e).1
        rw [List.length_append, List.length_singleton] at this
        omega
      subst hk2
      rw [List.getElem?_append_right (Nat.le_refl _), Nat.sub_self] at e
      simp at e
      subst e
      refine ⟨p, ?_, vs, upd_same, h.keep kp⟩
      rw [List.getElem?_append_right (by rw [r.len]; exact Nat.le_refl _), r.len, Nat.sub_self]
      rfl
theorem keep_upd {a : Addr} {vs ws : List V} (h : H a = some (.lst vs)) : Keep ρ ρ H (upd H a (.lst ws)) :=
  ⟨⟨[], by simp⟩, fun b xs e => by rw [upd_ne (ne_of e h (by intro z; cases z))]; exact e, fun b ob u e => by rw [upd_ne (ne_of e h (by intro z; cases z))]; exact e, fun b fs e => by rw [upd_ne (ne_of e h (by intro z; cases z))]; exact e⟩
/-- a cell is written -/
theorem RelS.put [Bs] {k : Nat} {a : Addr} {vs ws : List V} {xs : List D} (r : RelS K ρ H st) (e : ρ[k]? = some a) (ha : H a = some (.lst vs)) (h : Reps K ρ H xs ws) : RelS K ρ (upd H a (.lst ws)) (st.set k (.lst xs)) := by
  have kp : Keep ρ ρ H (upd H a (.lst ws)) := keep_upd ha
  refine ⟨by rw [List.length_set, r.len], r.nd, fun j o q => ?_, Bs.kl kp r.bs⟩
  by_cases hj : k = j
  · subst hj
    have hk : k < st.length := by rw [← r.len]; exact (List.getElem?_eq_some_iff.mp e).1
    rw [List.getElem?_set_self hk] at q
    cases q
    exact ⟨a, e, ws, upd_same, h.keep kp⟩
  · rw [List.getElem?_set_ne hj] at q
    obtain ⟨b, e2, q2⟩ := r.ob j o q
    refine ⟨b, e2, repO_keep q2 kp fun u hu => ?_⟩
    rw [upd_ne]
    · exact hu
    · intro z
      subst z
      exact hj (nd_ix r.nd e e2)
end

/-! ### readings over data -/
abbrev DQ := D → Store → Prop
abbrev DTE := DEnv → Store → DQ → Prop
abbrev DTT := DEnv → Store → (Bool → Store → Prop) → Prop
abbrev DTA := DEnv → Store → (List D → Store → Prop) → Prop
def PostE [Bs] (K : PySem.W.Frag) (ρ : List Addr) (H : Hp) (Q : DQ) : VK := fun v H' => ∃ ρ' d st', Keep ρ ρ' H H' ∧ RelS K ρ' H' st' ∧ Rep K ρ' H' d v ∧ Q d st'
def PostT [Bs] (K : PySem.W.Frag) (ρ : List Addr) (H : Hp) (Q : Bool → Store → Prop) : Bool → Hp → Prop := fun b H' => ∃ ρ' st', Keep ρ ρ' H H' ∧ RelS K ρ' H' st' ∧ Q b st'
def PostA [Bs] (K : PySem.W.Frag) (ρ : List Addr) (H : Hp) (Q : List D → Store → Prop) : List V → Hp → Prop := fun vs H' => ∃ ρ' ds st', Keep ρ ρ' H H' ∧ RelS K ρ' H' st' ∧ Reps K ρ' H' ds vs ∧ Q ds st'
theorem RelS.dn [Bs] {K : PySem.W.Frag} {ρ : List Addr} {H : Hp} {st : Store} (r : RelS K ρ H st) : @RelS K ρ H triv st := @RelS.mk K ρ H triv st r.len r.nd r.ob trivial
theorem RelS.up [Bs] {K : PySem.W.Frag} {ρ ρ' : List Addr} {H H' : Hp} {st st' : Store} (r0 : RelS K ρ H st) (k : Keep ρ ρ' H H') (r : @RelS K ρ' H' triv st') : RelS K ρ' H' st' := ⟨@RelS.len K ρ' H' triv st' r, @RelS.nd K ρ' H' triv st' r, @RelS.ob K ρ' H' triv st' r, Bs.kl k r0.bs⟩
theorem PostE.up [Bs] {K : PySem.W.Frag} {ρ : List Addr} {H H' : Hp} {st : Store} {Q : DQ} {v : V} (r0 : RelS K ρ H st) (h : @PostE triv K ρ H Q v H') : PostE K ρ H Q v H' := by
  obtain ⟨ρ', d, st', k, r, p, q⟩ := h
  exact ⟨ρ', d, st', k, r0.up k r, p, q⟩
theorem PostA.up [Bs] {K : PySem.W.Frag} {ρ : List Addr} {H H' : Hp} {st : Store} {Q : List D → Store → Prop} {vs : List V} (r0 : RelS K ρ H st) (h : @PostA triv K ρ H Q vs H') : PostA K ρ H Q vs H' := by
  obtain ⟨ρ', d, st', k, r, p, q⟩ := h
  exact ⟨ρ', d, st', k, r0.up k r, p, q⟩
def Sim [Bs] (K : PySem.W.Frag) (t : TE) (te : DTE) : Prop := ∀ ρ env st σ H (Q : DQ) (W : VK), RelS K ρ H st → RelE K ρ H env σ → te env st Q → (∀ v H', PostE K ρ H Q v H' → W v H') → t σ H W
def SimT [Bs] (K : PySem.W.Frag) (t : TT) (te : DTT) : Prop := ∀ ρ env st σ H (Q : Bool → Store → Prop) (W : Bool → Hp → Prop), RelS K ρ H st → RelE K ρ H env σ → te env st Q → (∀ b H', PostT K ρ H Q b H' → W b H') → t σ H W
def SimA [Bs] (K : PySem.W.Frag) (t : TA) (te : DTA) : Prop := ∀ ρ env st σ H (Q : List D → Store → Prop) (W : List V → Hp → Prop), RelS K ρ H st → RelE K ρ H env σ → te env st Q → (∀ vs H', PostA K ρ H Q vs H' → W vs H') → t σ H W

structure SE [Bs] (X : Cx) (e : Expr) (t : TE) (te : DTE) : Prop where
  pe : PE X e t
  sim : Sim X.K t te
structure ST [Bs] (X : Cx) (e : Expr) (t : TT) (te : DTT) : Prop where
  pt : PT X e t
  sim : SimT X.K t te
structure SW [Bs] (X : Cx) (e : Expr) (t : TT) (te : DTT) : Prop where
  pw : PW X e t
  sim : SimT X.K t te
structure SA [Bs] (X : Cx) (es : List Expr) (t : TA) (te : DTA) : Prop where
  pa : PA X es t
  sim : SimA X.K t te

section
variable {K : PySem.W.Frag} {ρ ρ' : List Addr} {H H' : Hp} {st : Store} {Q : DQ} {v : V}
theorem PostE.of [Bs] {d : D} (r : RelS K ρ H st) (h : Rep K ρ H d v) (q : Q d st) : PostE K ρ H Q v H := ⟨ρ, d, st, Keep.refl, r, h, q⟩
theorem PostE.keep [Bs] (k : Keep ρ ρ' H H') {H2 : Hp} (h : PostE K ρ' H' Q v H2) : PostE K ρ H Q v H2 := by
  obtain ⟨ρ2, d, st2, k2, r, p, q⟩ := h
  exact ⟨ρ2, d, st2, k.trans k2, r, p, q⟩
theorem PostT.of [Bs] {Q : Bool → Store → Prop} {b : Bool} (r : RelS K ρ H st) (q : Q b st) : PostT K ρ H Q b H := ⟨ρ, st, Keep.refl, r, q⟩
theorem PostT.keep [Bs] (k : Keep ρ ρ' H H') {Q : Bool → Store → Prop} {b : Bool} {H2 : Hp} (h : PostT K ρ' H' Q b H2) : PostT K ρ H Q b H2 := by
  obtain ⟨ρ2, st2, k2, r, q⟩ := h
  exact ⟨ρ2, st2, k.trans k2, r, q⟩
theorem PostA.keep [Bs] (k : Keep ρ ρ' H H') {Q : List D → Store → Prop} {vs : List V} {H2 : Hp} (h : PostA K ρ' H' Q vs H2) : PostA K ρ H Q vs H2 := by
  obtain ⟨ρ2, d, st2, k2, r, p, q⟩ := h
  exact ⟨ρ2, d, st2, k.trans k2, r, p, q⟩
/-- a new tuple as the answer -/
theorem PostE.tup [Bs] {p : Addr} {ds : List D} {vs : List V} (r : RelS K ρ H st) (hp : H p = none) (h : Reps K ρ H ds vs) (q : Q (.tup ds) st) : PostE K ρ H Q (.ref p) (upd H p (.tup vs)) :=
  ⟨ρ, .tup ds, st, keep_new hp, r.new hp, ⟨p, vs, rfl, .inl (.inl upd_same), h.keep (keep_new hp)⟩, q⟩
/-- a new list as the answer -/
theorem PostE.lst [Bs] {p : Addr} {ds : List D} {vs : List V} (r : RelS K ρ H st) (hp : H p = none) (h : Reps K ρ H ds vs) (q : Q (.ref st.length) (st ++ [.lst ds])) : PostE K ρ H Q (.ref p) (upd H p (.lst vs)) :=
  ⟨ρ ++ [p], .ref st.length, st ++ [.lst ds], keep_cell hp, r.cell hp h, ⟨p, by rw [List.getElem?_append_right (by rw [r.len]; exact Nat.le_refl _), r.len, Nat.sub_self]; rfl, rfl⟩, q⟩
end

/-- the written part of a context -/
class HasK (X : Cx) (K : outParam PySem.W.Frag) : Prop where
  eq : X.K = K
instance {CX : CXT} {P : Program} {w : World} {K : PySem.W.Frag} {mg : Str → Option Value} {base : Heap} {N : List Str} {qual : Str} {scope : Scope} {f : Addr} {cd : Value} {A : Around} {outer : List Env} {s : Shared} {H : Hp} {E : XK} : HasK (cxOf CX P w K mg base N qual scope f cd A outer s H E) K := ⟨rfl⟩
instance {X : Cx} {K : PySem.W.Frag} {E : Value → Shared → Prop} [h : HasK X K] : HasK (X.wish E) K := ⟨h.eq⟩
instance {X : Cx} {K : PySem.W.Frag} {s : Shared} {H : Hp} {scope : Scope} {cenv : PySem.Env} {fp : List Addr} [h : HasK X K] : HasK (X.blk s H scope cenv fp) K := ⟨h.eq⟩

/-! ### names, constants -/
def dVar (i : Nat) : DTE := fun env st Q => match env[i]? with
  | some (some d) => Q d st
  | _ => False
def dC (d : D) : DTE := fun _ st Q => Q d st
section
variable {X : Cx}
theorem sim_var [Bs] {K : PySem.W.Frag} {i : Nat} : Sim K (tVar i) (dVar i) := by
  intro ρ env st σ H Q W r re h w
  unfold dVar at h
  split at h
  · rename_i d e
    obtain ⟨v, e2, q⟩ := re.get i d e
    exact ⟨v, e2, w v H (.of r q h)⟩
  · exact h.elim
theorem sv [Bs] (i : Nat) {x : Str} {pos : Pos} (hN : X.N[i]? = some x := by rfl) (hv : Vis X.env.scope x := by first | exact Or.inl rfl | exact Or.inr (Or.inl rfl) | exact Or.inr (Or.inr rfl)) (hd : (x == ("__debug__" : Str)) = false := by decide)
    (hcd : (x == ("__classdict__" : Str)) = false := by decide) : SE X (.Name x pos) (tVar i) (dVar i) := ⟨pe_var hN hv hd hcd, sim_var⟩
theorem sim_c [Bs] {K : PySem.W.Frag} {d : D} {v : V} (h : ∀ ρ H, Rep K ρ H d v) : Sim K (tC v) (dC d) := by
  intro ρ env st σ H Q W r re q w
  exact w v H (.of r (h ρ H) q)
theorem se_int [Bs] {i j pos} : SE X (.Constant (.int i) j pos) (tC (.int i)) (dC (.int i)) := ⟨pe_int, sim_c fun _ _ => by unfold Rep; rfl⟩
theorem se_bl [Bs] {b j pos} : SE X (.Constant (.bool b) j pos) (tC (.bl b)) (dC (.bl b)) := ⟨pe_bl, sim_c fun _ _ => by unfold Rep; rfl⟩
theorem se_non [Bs] {j pos} : SE X (.Constant .none j pos) (tC .non) (dC .non) := ⟨pe_non, sim_c fun _ _ => by unfold Rep; rfl⟩
theorem se_str [Bs] {x j pos} : SE X (.Constant (.str x) j pos) (tC (.str x)) (dC (.str x)) := ⟨pe_str, sim_c fun _ _ => by unfold Rep; rfl⟩
theorem se_glob [Bs] {x : Str} {d : D} {v : V} {u : Value} {pos : Pos} (hg : Gl X x) (hm : X.mg x = some u) (r : RelV v u) (h : ∀ ρ H, Rep X.K ρ H d v) (hd : (x == ("__debug__" : Str)) = false := by decide) : SE X (.Name x pos) (tC v) (dC d) := ⟨pe_glob hg hm r hd, sim_c h⟩
theorem se_bltn [Bs] {x : Str} {n : String} {u : Value} {pos : Pos} (hg : Gl X x) (hm : X.mg x = none) (hv : bootBuiltins x = some u) (r : RelV (.ty n) u) (hn : x ≠ "__name__" := by decide) (hd : (x == ("__debug__" : Str)) = false := by decide) : SE X (.Name x pos) (tC (.ty n)) (dC (.ty n)) :=
  ⟨pe_bltn hg hm hv r hn hd, sim_c fun _ _ => by unfold Rep; rfl⟩
end

/-! ### operators -/
abbrev DR2 := D → D → Store → DQ → Prop
abbrev DR1 := D → Store → DQ → Prop
abbrev DRA := List D → Store → DQ → Prop
def SimR2 [Bs] (K : PySem.W.Frag) (r : R2) (rd : DR2) : Prop := ∀ ρ st H x y dx dy (Q : DQ) (W : VK), RelS K ρ H st → Rep K ρ H dx x → Rep K ρ H dy y → rd dx dy st Q → (∀ v H', PostE K ρ H Q v H' → W v H') → r x y H W
def SimR1 [Bs] (K : PySem.W.Frag) (r : V → Hp → VK → Prop) (rd : DR1) : Prop := ∀ ρ st H x dx (Q : DQ) (W : VK), RelS K ρ H st → Rep K ρ H dx x → rd dx st Q → (∀ v H', PostE K ρ H Q v H' → W v H') → r x H W
def SimRA [Bs] (K : PySem.W.Frag) (r : List V → Hp → VK → Prop) (rd : DRA) : Prop := ∀ ρ st H xs dxs (Q : DQ) (W : VK), RelS K ρ H st → Reps K ρ H dxs xs → rd dxs st Q → (∀ v H', PostE K ρ H Q v H' → W v H') → r xs H W
def dOp (rd : DR2) (da db : DTE) : DTE := fun env st Q => da env st fun x st1 => db env st1 fun y st2 => rd x y st2 Q
def dUn (rd : DR1) (da : DTE) : DTE := fun env st Q => da env st fun x st1 => rd x st1 Q
theorem sim_op [Bs] {K : PySem.W.Frag} {r : R2} {rd : DR2} {ta tb : TE} {da db : DTE} (hr : SimR2 K r rd) (ha : Sim K ta da) (hb : Sim K tb db) : Sim K (tOp r ta tb) (dOp rd da db) := by
  intro ρ env st σ H Q W rs re h w
  refine ha ρ env st σ H _ _ rs re h fun x H1 ⟨ρ1, dx, st1, k1, r1, px, q1⟩ => ?_
  refine hb ρ1 env st1 σ H1 _ _ r1 (re.keep k1) q1 fun y H2 ⟨ρ2, dy, st2, k2, r2, py, q2⟩ => ?_
  exact hr ρ2 st2 H2 x y dx dy Q W r2 (px.keep k2) py q2 fun v H' p => w v H' ((p.keep k2).keep k1)
theorem sim_un [Bs] {K : PySem.W.Frag} {r : V → Hp → VK → Prop} {rd : DR1} {ta : TE} {da : DTE} (hr : SimR1 K r rd) (ha : Sim K ta da) : Sim K (tUn r ta) (dUn rd da) := by
  intro ρ env st σ H Q W rs re h w
  refine ha ρ env st σ H _ _ rs re h fun x H1 ⟨ρ1, dx, st1, k1, r1, px, q1⟩ => ?_
  exact hr ρ1 st1 H1 x dx Q W r1 px q1 fun v H' p => w v H' (p.keep k1)
/-- an operator with its rule over data -/
structure SOp [Bs] (X : Cx) (f : Value → Value → Sem Value) (r : R2) (rd : DR2) : Prop where
  op : OpR X f r
  sim : SimR2 X.K r rd
structure SUn [Bs] (X : Cx) (f : Value → Sem Value) (r : V → Hp → VK → Prop) (rd : DR1) : Prop where
  op : UnR X f r
  sim : SimR1 X.K r rd
section
variable {X : Cx} {a b : Expr} {ta tb : TE} {da db : DTE} {pos : Pos}
theorem se_op [Bs] {op : Operator} {r : R2} {rd : DR2} (ho : SOp X (binaryOp op) r rd) (ha : SE X a ta da) (hb : SE X b tb db) : SE X (.BinOp a op b pos) (tOp r ta tb) (dOp rd da db) := ⟨pe_op ho.op ha.pe hb.pe, sim_op ho.sim ha.sim hb.sim⟩
theorem se_un [Bs] {op : UnaryOp} {r : V → Hp → VK → Prop} {rd : DR1} (ho : SUn X (unaryOp op) r rd) (ha : SE X a ta da) : SE X (.UnaryOp op a pos) (tUn r ta) (dUn rd da) := ⟨pe_un ho.op ha.pe, sim_un ho.sim ha.sim⟩
theorem se_cmp [Bs] {op : CmpOp} {r : R2} {rd : DR2} (ho : SOp X (compareOp op) r rd) (ha : SE X a ta da) (hb : SE X b tb db) (hm : behindInMarks op b = false) : SE X (.Compare a [op] [b] pos) (tOp r ta tb) (dOp rd da db) := ⟨pe_cmpR ho.op ha.pe hb.pe hm, sim_op ho.sim ha.sim hb.sim⟩
end
/-- a test that is a value that must be a bool -/
def dB (te : DTE) : DTT := fun env st Q => te env st fun x st1 => match x with
  | .bl b => Q b st1
  | _ => False
theorem sim_tB [Bs] {K : PySem.W.Frag} {t : TE} {te : DTE} (h : Sim K t te) : SimT K (tB t) (dB te) := by
  intro ρ env st σ H Q W rs re q w
  refine h ρ env st σ H _ _ rs re q fun x H1 ⟨ρ1, dx, st1, k1, r1, px, q1⟩ => ?_
  cases dx with
  | bl b =>
    have e : x = .bl b := by unfold Rep at px; exact px
    exact ⟨b, e, w b H1 ⟨ρ1, st1, k1, r1, q1⟩⟩
  | _ => exact q1.elim
theorem sim_tTest [Bs] {K : PySem.W.Frag} {t : TE} {te : DTE} (h : Sim K t te) : SimT K (tTest t) (dB te) := by
  intro ρ env st σ H Q W rs re q w
  refine h ρ env st σ H _ _ rs re q fun x H1 ⟨ρ1, dx, st1, k1, r1, px, q1⟩ => ?_
  cases dx with
  | bl b =>
    have e : x = .bl b := by unfold Rep at px; exact px
    exact ⟨b, e, w b H1 ⟨ρ1, st1, k1, r1, q1⟩⟩
  | _ => exact q1.elim
section
variable {X : Cx} {a b c : Expr} {ta tb tc : TE} {da db dc : DTE} {pos : Pos}
theorem st_cmp [Bs] {op : CmpOp} {r : R2} {rd : DR2} (ho : SOp X (compareOp op) r rd) (ha : SE X a ta da) (hb : SE X b tb db) (hm : behindInMarks op b = false) : ST X (.Compare a [op] [b] pos) (tTest (tOp r ta tb)) (dB (dOp rd da db)) := ⟨pt_cmpR ho.op ha.pe hb.pe hm, sim_tTest (sim_op ho.sim ha.sim hb.sim)⟩
theorem st_val [Bs] {e : Expr} {t : TE} {te : DTE} (h : SE X e t te) (he : ∀ whole, isTrue e X.env whole = (do let v ← whole; standAt e.pos; holding [v] (truthy v)) := by intro _; rfl) : ST X e (tB t) (dB te) := ⟨pt_val h.pe he, sim_tB h.sim⟩
end
/-! ### truth -/
def dTru (x : D) (st : Store) (Q : Bool → Store → Prop) : Prop := match x with
  | .non => Q false st
  | .bl b => Q b st
  | .int i => Q (i != 0) st
  | .str z => z.length ≤ sizeLine ∧ Q (z.length != 0) st
  | .tup xs => Q (!xs.isEmpty) st
  | .rol xs => Q (!xs.isEmpty) st
  | .ref k => match st[k]? with
    | some (.lst xs) => Q (!xs.isEmpty) st
    | _ => False
  | .ty _ => False
  | .adr _ => False
def dTruth (te : DTE) : DTT := fun env st Q => te env st fun x st1 => dTru x st1 Q
end DL

namespace DL
open PySem PySem.Spec L2

/-! ### truth, and, or, not -/
theorem sim_truth [Bs] {K : PySem.W.Frag} {t : TE} {te : DTE} (h : Sim K t te) : SimT K (fun σ H Q => t σ H fun x H' => ∃ k, TruV K x H' k ∧ Q k H') (dTruth te) := by
  intro ρ env st σ H Q W rs re q w
  refine h ρ env st σ H _ _ rs re q fun x H1 ⟨ρ1, dx, st1, k1, r1, px, q1⟩ => ?_
  have fin : ∀ k, TruV K x H1 k → Q k st1 → ∃ k, TruV K x H1 k ∧ W k H1 := fun k a b => ⟨k, a, w k H1 ⟨ρ1, st1, k1, r1, b⟩⟩
  cases dx with
  | non =>
    obtain rfl : x = .non := by unfold Rep at px; exact px
    exact fin false rfl q1
  | bl b =>
    obtain rfl : x = .bl b := by unfold Rep at px; exact px
    exact fin b rfl q1
  | int i =>
    obtain rfl : x = .int i := by unfold Rep at px; exact px
    exact fin _ rfl q1
  | str z =>
    obtain rfl : x = .str z := by unfold Rep at px; exact px
    obtain ⟨hz, q1⟩ := q1
    refine fin (z.length != 0) ⟨hz, ?_⟩ q1
    rw [Bool.eq_iff_iff]
    simp
  | tup xs =>
    unfold Rep at px
    obtain ⟨a, vs, rfl, hs, hr⟩ := px
    refine fin (!xs.isEmpty) (.inr (.inl ⟨vs, hs, ?_⟩)) q1
    have hl := hr.len
    cases xs <;> cases vs <;> first | rfl | (simp at hl)
  | rol xs =>
    unfold Rep at px
    obtain ⟨a, vs, rfl, hs, hr⟩ := px
    refine fin (!xs.isEmpty) (.inl ⟨vs, ?_, ?_⟩) q1
    · rcases hs with ⟨o, h⟩ | h
      · exact .inl (.inr ⟨o, h⟩)
      · exact .inr h
    · have hl := hr.len
      cases xs <;> cases vs <;> first | rfl | (simp at hl)
  | ref k =>
    unfold Rep at px
    obtain ⟨a, ha, rfl⟩ := px
    unfold dTru at q1
    dsimp only at q1
    split at q1
    · rename_i xs e
      obtain ⟨vs, hv, hr⟩ := r1.lst ha e
      refine fin (!xs.isEmpty) (.inl ⟨vs, SqL.of hv, ?_⟩) q1
      have hl := hr.len
      cases xs <;> cases vs <;> first | rfl | (simp at hl)
    · exact q1.elim
  | ty n => exact q1.elim
  | adr a => exact q1.elim
theorem sqf_l {K : PySem.W.Frag} {H : Hp} {a : Addr} {xs : List V} (h : SqF K H a xs) : SqL K H a xs := by
  rcases h with ⟨o, h⟩ | h
  · exact .inl (.inr ⟨o, h⟩)
  · exact .inr h
section
variable {X : Cx} {a b : Expr} {ta tb : TE} {da db : DTE} {pos : Pos} {tA tB' : TT} {dA dB' : DTT} {rest : List Expr}
theorem st_truth [Bs] {K : PySem.W.Frag} [hk : HasK X K] {e : Expr} {t : TE} {te : DTE} (h : SE X e t te) (he : ∀ whole, isTrue e X.env whole = (do let v ← whole; standAt e.pos; holding [v] (truthy v)) := by intro _; rfl) :
    ST X e (fun σ H Q => t σ H fun x H' => ∃ k, TruV K x H' k ∧ Q k H') (dTruth te) := by
  obtain rfl := hk.eq
  exact ⟨pt_truth h.pe he, sim_truth h.sim⟩
def dAnd (t u : DTT) : DTT := fun env st Q => t env st fun c st1 => if c = true then u env st1 Q else Q false st1
def dOr (t u : DTT) : DTT := fun env st Q => t env st fun c st1 => if c = true then Q true st1 else u env st1 Q
def dNot (t : DTT) : DTT := fun env st Q => t env st fun c st1 => Q (!c) st1
theorem sw_and1 [Bs] (ha : ST X a tA dA) : SW X (.BoolOp .And [a] pos) tA dA := ⟨pw_and1 ha.pt, ha.sim⟩
theorem sw_or1 [Bs] (ha : ST X a tA dA) : SW X (.BoolOp .Or [a] pos) tA dA := ⟨pw_or1 ha.pt, ha.sim⟩
theorem sim_and [Bs] {K : PySem.W.Frag} {t u : TT} {d e : DTT} (h : SimT K t d) (h' : SimT K u e) : SimT K (tAnd t u) (dAnd d e) := by
  intro ρ env st σ H Q W rs re q w
  refine h ρ env st σ H _ _ rs re q fun c H1 ⟨ρ1, st1, k1, r1, q1⟩ => ?_
  cases c with
  | true =>
    rw [if_pos rfl] at q1 ⊢
    exact h' ρ1 env st1 σ H1 Q W r1 (re.keep k1) q1 fun b H2 p => w b H2 (p.keep k1)
  | false =>
    rw [if_neg Bool.false_ne_true] at q1 ⊢
    exact w false H1 ⟨ρ1, st1, k1, r1, q1⟩
theorem sim_or [Bs] {K : PySem.W.Frag} {t u : TT} {d e : DTT} (h : SimT K t d) (h' : SimT K u e) : SimT K (tOr t u) (dOr d e) := by
  intro ρ env st σ H Q W rs re q w
  refine h ρ env st σ H _ _ rs re q fun c H1 ⟨ρ1, st1, k1, r1, q1⟩ => ?_
  cases c with
  | true =>
    rw [if_pos rfl] at q1 ⊢
    exact w true H1 ⟨ρ1, st1, k1, r1, q1⟩
  | false =>
    rw [if_neg Bool.false_ne_true] at q1 ⊢
    exact h' ρ1 env st1 σ H1 Q W r1 (re.keep k1) q1 fun b H2 p => w b H2 (p.keep k1)
theorem sim_not [Bs] {K : PySem.W.Frag} {t : TT} {d : DTT} (h : SimT K t d) : SimT K (tNot t) (dNot d) := by
  intro ρ env st σ H Q W rs re q w
  exact h ρ env st σ H _ _ rs re q fun c H1 ⟨ρ1, st1, k1, r1, q1⟩ => w _ H1 ⟨ρ1, st1, k1, r1, q1⟩
theorem sw_and [Bs] (ha : ST X a tA dA) (hb : SW X (.BoolOp .And (b :: rest) pos) tB' dB') : SW X (.BoolOp .And (a :: b :: rest) pos) (tAnd tA tB') (dAnd dA dB') := ⟨pw_and ha.pt hb.pw, sim_and ha.sim hb.sim⟩
theorem sw_or [Bs] (ha : ST X a tA dA) (hb : SW X (.BoolOp .Or (b :: rest) pos) tB' dB') : SW X (.BoolOp .Or (a :: b :: rest) pos) (tOr tA tB') (dOr dA dB') := ⟨pw_or ha.pt hb.pw, sim_or ha.sim hb.sim⟩
theorem SW.st [Bs] {e : Expr} {t : TT} {d : DTT} (h : SW X e t d) : ST X e t d := ⟨h.pw.pt, h.sim⟩
theorem st_not [Bs] (ha : ST X a tA dA) : ST X (.UnaryOp .Not a pos) (tNot tA) (dNot dA) := ⟨pt_not ha.pt, sim_not ha.sim⟩
def dAndV (da db : DTE) : DTE := fun env st Q => da env st fun x st1 => match x with
  | .bl c => if c = true then db env st1 Q else Q (.bl false) st1
  | _ => False
def dOrV (da db : DTE) : DTE := fun env st Q => da env st fun x st1 => match x with
  | .bl c => if c = true then Q (.bl true) st1 else db env st1 Q
  | _ => False
def dNotV (da : DTE) : DTE := fun env st Q => da env st fun x st1 => match x with
  | .bl c => Q (.bl (!c)) st1
  | _ => False
theorem rep_bl {K : PySem.W.Frag} {ρ : List Addr} {H : Hp} {b : Bool} {v : V} (h : Rep K ρ H (.bl b) v) : v = .bl b := by unfold Rep at h; exact h
theorem rep_int {K : PySem.W.Frag} {ρ : List Addr} {H : Hp} {b : Int} {v : V} (h : Rep K ρ H (.int b) v) : v = .int b := by unfold Rep at h; exact h
theorem rep_str {K : PySem.W.Frag} {ρ : List Addr} {H : Hp} {b : Str} {v : V} (h : Rep K ρ H (.str b) v) : v = .str b := by unfold Rep at h; exact h
theorem rep_non {K : PySem.W.Frag} {ρ : List Addr} {H : Hp} {v : V} (h : Rep K ρ H .non v) : v = .non := by unfold Rep at h; exact h
theorem rep_ty {K : PySem.W.Frag} {ρ : List Addr} {H : Hp} {b : String} {v : V} (h : Rep K ρ H (.ty b) v) : v = .ty b := by unfold Rep at h; exact h
theorem rep_adr {K : PySem.W.Frag} {ρ : List Addr} {H : Hp} {a : Addr} {v : V} (h : Rep K ρ H (.adr a) v) : v = .ref a := by unfold Rep at h; exact h
theorem rep_ref {K : PySem.W.Frag} {ρ : List Addr} {H : Hp} {k : Nat} {v : V} (h : Rep K ρ H (.ref k) v) : ∃ a, ρ[k]? = some a ∧ v = .ref a := by unfold Rep at h; exact h
theorem rep_tup {K : PySem.W.Frag} {ρ : List Addr} {H : Hp} {xs : List D} {v : V} (h : Rep K ρ H (.tup xs) v) : ∃ a vs, v = .ref a ∧ SqT K H a vs ∧ Reps K ρ H xs vs := by unfold Rep at h; exact h
theorem rep_rol {K : PySem.W.Frag} {ρ : List Addr} {H : Hp} {xs : List D} {v : V} (h : Rep K ρ H (.rol xs) v) : ∃ a vs, v = .ref a ∧ SqF K H a vs ∧ Reps K ρ H xs vs := by unfold Rep at h; exact h
theorem Rep.bl {K : PySem.W.Frag} {ρ : List Addr} {H : Hp} (b : Bool) : Rep K ρ H (.bl b) (.bl b) := by unfold Rep; rfl
theorem Rep.int {K : PySem.W.Frag} {ρ : List Addr} {H : Hp} (b : Int) : Rep K ρ H (.int b) (.int b) := by unfold Rep; rfl
theorem Rep.str {K : PySem.W.Frag} {ρ : List Addr} {H : Hp} (b : Str) : Rep K ρ H (.str b) (.str b) := by unfold Rep; rfl
theorem Rep.non {K : PySem.W.Frag} {ρ : List Addr} {H : Hp} : Rep K ρ H .non .non := by unfold Rep; rfl
theorem Rep.tup {K : PySem.W.Frag} {ρ : List Addr} {H : Hp} {a : Addr} {xs : List D} {vs : List V} (h : SqT K H a vs) (r : Reps K ρ H xs vs) : Rep K ρ H (.tup xs) (.ref a) := by unfold Rep; exact ⟨a, vs, rfl, h, r⟩
theorem Rep.ref {K : PySem.W.Frag} {ρ : List Addr} {H : Hp} {a : Addr} {k : Nat} (h : ρ[k]? = some a) : Rep K ρ H (.ref k) (.ref a) := by unfold Rep; exact ⟨a, h, rfl⟩
theorem se_one [Bs] {op} {t : TE} {d : DTE} (h : SE X a t d) : SE X (.BoolOp op [a] pos) t d := ⟨pe_one h.pe, h.sim⟩
theorem se_and [Bs] (ha : SE X a ta da) (hb : SE X (.BoolOp .And (b :: rest) pos) tb db) : SE X (.BoolOp .And (a :: b :: rest) pos) (tAndV ta tb) (dAndV da db) := by
  refine ⟨pe_and ha.pe hb.pe, fun ρ env st σ H Q W rs re q w => ?_⟩
  refine ha.sim ρ env st σ H _ _ rs re q fun x H1 ⟨ρ1, dx, st1, k1, r1, px, q1⟩ => ?_
  cases dx with
  | bl c =>
    refine ⟨c, rep_bl px, ?_⟩
    cases c with
    | true =>
      rw [if_pos rfl]
      exact hb.sim ρ1 env st1 σ H1 Q W r1 (re.keep k1) (by simpa using q1) fun b H2 p => w b H2 (p.keep k1)
    | false =>
      rw [if_neg Bool.false_ne_true]
      exact w _ H1 ⟨ρ1, .bl false, st1, k1, r1, .bl _, by simpa using q1⟩
  | _ => exact q1.elim
theorem se_or [Bs] (ha : SE X a ta da) (hb : SE X (.BoolOp .Or (b :: rest) pos) tb db) : SE X (.BoolOp .Or (a :: b :: rest) pos) (tOrV ta tb) (dOrV da db) := by
  refine ⟨pe_or ha.pe hb.pe, fun ρ env st σ H Q W rs re q w => ?_⟩
  refine ha.sim ρ env st σ H _ _ rs re q fun x H1 ⟨ρ1, dx, st1, k1, r1, px, q1⟩ => ?_
  cases dx with
  | bl c =>
    refine ⟨c, rep_bl px, ?_⟩
    cases c with
    | true =>
      rw [if_pos rfl]
      exact w _ H1 ⟨ρ1, .bl true, st1, k1, r1, .bl _, by simpa using q1⟩
    | false =>
      rw [if_neg Bool.false_ne_true]
      exact hb.sim ρ1 env st1 σ H1 Q W r1 (re.keep k1) (by simpa using q1) fun b H2 p => w b H2 (p.keep k1)
  | _ => exact q1.elim
theorem se_not [Bs] (ha : SE X a ta da) : SE X (.UnaryOp .Not a pos) (tNotV ta) (dNotV da) := by
  refine ⟨pe_not ha.pe, fun ρ env st σ H Q W rs re q w => ?_⟩
  refine ha.sim ρ env st σ H _ _ rs re q fun x H1 ⟨ρ1, dx, st1, k1, r1, px, q1⟩ => ?_
  cases dx with
  | bl c => exact ⟨c, rep_bl px, w _ H1 ⟨ρ1, .bl (!c), st1, k1, r1, .bl _, q1⟩⟩
  | _ => exact q1.elim
def dIf (t : DTT) (da db : DTE) : DTE := fun env st Q => t env st fun c st1 => if c = true then da env st1 Q else db env st1 Q
theorem se_if [Bs] {c : Expr} (hc : ST X c tA dA) (ha : SE X a ta da) (hb : SE X b tb db) : SE X (.IfExp c a b pos) (tIf tA ta tb) (dIf dA da db) := by
  refine ⟨pe_ifExp hc.pt ha.pe hb.pe, fun ρ env st σ H Q W rs re q w => ?_⟩
  refine hc.sim ρ env st σ H _ _ rs re q fun c H1 ⟨ρ1, st1, k1, r1, q1⟩ => ?_
  cases c with
  | true =>
    rw [if_pos rfl] at q1 ⊢
    exact ha.sim ρ1 env st1 σ H1 Q W r1 (re.keep k1) q1 fun b H2 p => w b H2 (p.keep k1)
  | false =>
    rw [if_neg Bool.false_ne_true] at q1 ⊢
    exact hb.sim ρ1 env st1 σ H1 Q W r1 (re.keep k1) q1 fun b H2 p => w b H2 (p.keep k1)
end

/-! ### arithmetic -/
def dII (C : Int → Int → Prop) (g : Int → Int → D) : DR2 := fun x y st Q => match x, y with
  | .int i, .int j => C i j ∧ Q (g i j) st
  | _, _ => False
theorem sim_ii [Bs] {K : PySem.W.Frag} {C : Int → Int → Prop} {g : Int → Int → Int} : SimR2 K (rI C fun i j => .int (g i j)) (dII C fun i j => .int (g i j)) := by
  intro ρ st H x y dx dy Q W rs px py q w
  cases dx with
  | int i =>
    cases dy with
    | int j => exact ⟨i, j, rep_int px, rep_int py, q.1, w _ H (.of rs (.int _) q.2)⟩
    | _ => exact q.elim
  | _ => exact q.elim
def dI0 (g : Int → Int → D) : DR2 := fun x y st Q => match x, y with
  | .int i, .int j => Q (g i j) st
  | _, _ => False
theorem sim_i0 [Bs] {K : PySem.W.Frag} {g : Int → Int → Int} : SimR2 K (rI0 fun i j => .int (g i j)) (dI0 fun i j => .int (g i j)) := by
  intro ρ st H x y dx dy Q W rs px py q w
  cases dx with
  | int i =>
    cases dy with
    | int j => exact ⟨i, j, rep_int px, rep_int py, w _ H (.of rs (.int _) q)⟩
    | _ => exact q.elim
  | _ => exact q.elim
theorem sim_b0 [Bs] {K : PySem.W.Frag} {g : Int → Int → Bool} : SimR2 K (rI0 fun i j => .bl (g i j)) (dI0 fun i j => .bl (g i j)) := by
  intro ρ st H x y dx dy Q W rs px py q w
  cases dx with
  | int i =>
    cases dy with
    | int j => exact ⟨i, j, rep_int px, rep_int py, w _ H (.of rs (.bl _) q)⟩
    | _ => exact q.elim
  | _ => exact q.elim
theorem OpR.or {X : Cx} {f : Value → Value → Sem Value} {r r' : R2} (h : OpR X f r) (h' : OpR X f r') : OpR X f (fun x y H Q => r x y H Q ∨ r' x y H Q) := by
  intro pins s σ H x y v u Q I rx ry q
  rcases q with q | q
  · exact h pins s σ H x y v u Q I rx ry q
  · exact h' pins s σ H x y v u Q I rx ry q
def dSub : DR2 := dI0 fun i j => .int (i - j)
def dLt : DR2 := dI0 fun i j => .bl (decide (i < j))
def dLe : DR2 := dI0 fun i j => .bl (decide (i ≤ j))
def dGt : DR2 := dI0 fun i j => .bl (decide (j < i))
def dGe : DR2 := dI0 fun i j => .bl (decide (j ≤ i))
def CMulA (i j : Int) : Prop := CMul i j ∨ CMulW i j
def dPow : DR2 := dII CPow fun i j => .int (i ^ j.toNat)
def CDivA (i j : Int) : Prop := CDivN i j ∨ CDivW i j
def dFdiv : DR2 := dII CDivA fun i j => .int (i.fdiv j)
def dMod : DR2 := dII (fun _ j => j ≠ 0) fun i j => .int (i.fmod j)
def dNeg : DR1 := fun x st Q => match x with
  | .int i => Q (.int (-i)) st
  | _ => False
section
variable {X : Cx}
theorem so_sub [Bs] : SOp X (binaryOp .Sub) (rI0 fun i j => .int (i - j)) dSub := ⟨op_sub, sim_i0⟩
theorem so_lt [Bs] : SOp X (compareOp .Lt) (rI0 fun i j => .bl (decide (i < j))) dLt := ⟨op_lt, sim_b0⟩
theorem so_le [Bs] : SOp X (compareOp .LtE) (rI0 fun i j => .bl (decide (i ≤ j))) dLe := ⟨op_le, sim_b0⟩
theorem so_gt [Bs] : SOp X (compareOp .Gt) (rI0 fun i j => .bl (decide (j < i))) dGt := ⟨op_gt, sim_b0⟩
theorem so_ge [Bs] : SOp X (compareOp .GtE) (rI0 fun i j => .bl (decide (j ≤ i))) dGe := ⟨op_ge, sim_b0⟩
theorem so_pow [Bs] : SOp X (binaryOp .Pow) (rI CPow fun i j => .int (i ^ j.toNat)) dPow := ⟨op_pow, sim_ii⟩
theorem so_mod [Bs] : SOp X (binaryOp .Mod) (rI (fun _ j => j ≠ 0) fun i j => .int (i.fmod j)) dMod := ⟨op_modN, sim_ii⟩
theorem op_fdivA : OpR X (binaryOp .FloorDiv) (rI CDivA fun i j => .int (i.fdiv j)) := by
  intro pins s σ H x y v u Q I rx ry h
  obtain ⟨i, j, rfl, rfl, hc, q⟩ := h
  rcases hc with hc | hc
  · exact op_fdivN pins s σ H _ _ v u Q I rx ry ⟨i, j, rfl, rfl, hc, q⟩
  · refine op_fdivW pins s σ H _ _ v u Q I rx ry ⟨i, j, rfl, rfl, hc, ?_⟩
    show Q (.int (i / j)) H
    rw [← Int.fdiv_eq_ediv_of_nonneg i (Int.le_of_lt hc.1)]
    exact q
theorem so_fdiv [Bs] : SOp X (binaryOp .FloorDiv) (rI CDivA fun i j => .int (i.fdiv j)) dFdiv := ⟨op_fdivA, sim_ii⟩
theorem su_neg [Bs] : SUn X (unaryOp .USub) (rU fun i => .int (-i)) dNeg := by
  refine ⟨un_neg, fun ρ st H x dx Q W rs px q w => ?_⟩
  cases dx with
  | int i => exact ⟨i, rep_int px, w _ H (.of rs (.int _) q)⟩
  | _ => exact q.elim
end

/-! ### + and * -/
def dAdd : DR2 := fun x y st Q => match x, y with
  | .int i, .int j => Q (.int (i + j)) st
  | .tup a, .tup b => a.length + b.length ≤ sizeLine ∧ Q (.tup (a ++ b)) st
  | .ref k, .ref l => match st[k]?, st[l]? with
    | some (.lst a), some (.lst b) => a.length + b.length ≤ sizeLine ∧ Q (.ref st.length) (st ++ [.lst (a ++ b)])
    | _, _ => False
  | .str a, .str b => a.length + b.length ≤ sizeLine ∧ Q (.str (a ++ b)) st
  | _, _ => False
def rAddAll (K : PySem.W.Frag) : R2 := fun x y H Q => ((rI0 fun i j => .int (i + j)) x y H Q ∨ rCatA K x y H Q) ∨ (rCat x y H Q ∨ (∃ i j, x = .str i ∧ y = .str j ∧ i.length + j.length ≤ sizeLine ∧ Q (.str (i ++ j)) H))
theorem sim_add [Bs] {K : PySem.W.Frag} : SimR2 K (rAddAll K) dAdd := by
  intro ρ st H x y dx dy Q W rs px py q w
  cases dx with
  | int i =>
    cases dy with
    | int j => exact .inl (.inl ⟨i, j, rep_int px, rep_int py, w _ H (.of rs (.int _) q)⟩)
    | _ => exact q.elim
  | str i =>
    cases dy with
    | str j => exact .inr (.inr ⟨i, j, rep_str px, rep_str py, q.1, w _ H (.of rs (.str _) q.2)⟩)
    | _ => exact q.elim
  | tup a =>
    cases dy with
    | tup b =>
      obtain ⟨p, vs, rfl, h1, r1⟩ := rep_tup px
      obtain ⟨p2, ws, rfl, h2, r2⟩ := rep_tup py
      obtain ⟨hz, q⟩ := q
      refine .inl (.inr ⟨p, p2, vs, ws, rfl, rfl, h1, h2, by rw [← r1.len, ← r2.len]; exact hz, fun e => ?_, fun _ e => ?_, fun _ _ p3 hp => ?_⟩)
      · refine w _ H (.of rs (d := .tup (a ++ b)) (.tup h2 ?_) q)
        rw [e] at r1
        have : a = [] := List.eq_nil_of_length_eq_zero (by rw [r1.len]; rfl)
        rw [this]
        exact r2
      · refine w _ H (.of rs (d := .tup (a ++ b)) (.tup h1 ?_) q)
        rw [e] at r2
        have : b = [] := List.eq_nil_of_length_eq_zero (by rw [r2.len]; rfl)
        rw [this, List.append_nil]
        exact r1
      · exact w _ _ (.tup rs hp (r1.app r2) q)
    | _ => exact q.elim
  | ref k =>
    cases dy with
    | ref l =>
      obtain ⟨p, h1, rfl⟩ := rep_ref px
      obtain ⟨p2, h2, rfl⟩ := rep_ref py
      unfold dAdd at q
      dsimp only at q
      split at q
      · rename_i a b e1 e2
        obtain ⟨vs, hv, r1⟩ := rs.lst h1 e1
        obtain ⟨ws, hw, r2⟩ := rs.lst h2 e2
        obtain ⟨hz, q⟩ := q
        exact .inr (.inl ⟨p, p2, vs, ws, rfl, rfl, hv, hw, by rw [← r1.len, ← r2.len]; exact hz, fun p3 hp => w _ _ (.lst rs hp (r1.app r2) q)⟩)
      · exact q.elim
    | _ => exact q.elim
  | _ => exact q.elim
theorem so_add [Bs] {X : Cx} {K : PySem.W.Frag} [hk : HasK X K] : SOp X (binaryOp .Add) (rAddAll K) dAdd := by
  obtain rfl := hk.eq
  exact ⟨.or (.or op_add op_catA) (.or op_cat op_add_str), sim_add⟩
def dMul : DR2 := fun x y st Q => match x, y with
  | .int i, .int j => CMulA i j ∧ Q (.int (i * j)) st
  | .ref k, .int n => match st[k]? with
    | some (.lst a) => -(2 ^ 63) ≤ n ∧ n < 2 ^ 63 ∧ a.length * n.toNat ≤ sizeLine ∧ Q (.ref st.length) (st ++ [.lst (List.replicate n.toNat a).flatten])
    | _ => False
  | _, _ => False
def rMulAll : R2 := fun x y H Q => ((rI CMul fun i j => .int (i * j)) x y H Q ∨ (rI CMulW fun i j => .int (i * j)) x y H Q) ∨ rRep x y H Q
theorem sim_mul [Bs] {K : PySem.W.Frag} : SimR2 K rMulAll dMul := by
  intro ρ st H x y dx dy Q W rs px py q w
  cases dx with
  | int i =>
    cases dy with
    | int j =>
      rcases q.1 with c | c
      · exact .inl (.inl ⟨i, j, rep_int px, rep_int py, c, w _ H (.of rs (.int _) q.2)⟩)
      · exact .inl (.inr ⟨i, j, rep_int px, rep_int py, c, w _ H (.of rs (.int _) q.2)⟩)
    | _ => exact q.elim
  | ref k =>
    cases dy with
    | int n =>
      obtain ⟨p, h1, rfl⟩ := rep_ref px
      obtain rfl := rep_int py
      unfold dMul at q
      dsimp only at q
      split at q
      · rename_i a e1
        obtain ⟨vs, hv, r1⟩ := rs.lst h1 e1
        obtain ⟨b1, b2, hz, q⟩ := q
        exact .inr ⟨p, n, vs, rfl, rfl, hv, b1, b2, by rw [← r1.len]; exact hz, fun p3 hp => w _ _ (.lst rs hp (r1.repl _) q)⟩
      · exact q.elim
    | _ => exact q.elim
  | _ => exact q.elim
theorem so_mul [Bs] {X : Cx} : SOp X (binaryOp .Mult) rMulAll dMul := ⟨.or (.or op_mul op_mulW) op_rep, sim_mul⟩

/-! ### ==, in -/
mutual
def D.py : D → PyData
  | .non => .none
  | .bl b => .bool b
  | .int i => .int i
  | .str x => .str x
  | .tup xs => .tuple (D.pys xs)
  | .rol xs => .list (D.pys xs)
  | .ty _ => .none
  | .ref _ => .none
  | .adr _ => .none
def D.pys : List D → List PyData
  | [] => []
  | d :: ds => d.py :: D.pys ds
end
/-- no cell in it, and at most so deep -/
def D.fl : Nat → D → Bool
  | _, .non => true
  | _, .bl _ => true
  | _, .int _ => true
  | _, .str x => PyData.strOk x
  | 0, _ => false
  | n + 1, .tup xs => xs.all (D.fl n)
  | n + 1, .rol xs => xs.all (D.fl n)
  | _, .ty _ => false
  | _, .ref _ => false
  | _, .adr _ => false
theorem pys_map : ∀ ds : List D, D.pys ds = ds.map D.py
  | [] => rfl
  | d :: ds => by rw [D.pys, pys_map ds]; rfl
theorem fl_dp {K : PySem.W.Frag} {ρ : List Addr} {H : Hp} : ∀ (n : Nat) (d : D) (v : V), d.fl n = true → Rep K ρ H d v → Dp K H v d.py := by
  intro n
  induction n with
  | zero =>
    intro d v h r
    cases d with
    | non => rw [rep_non r]; exact .non
    | bl b => rw [rep_bl r]; exact .bl b
    | int i => rw [rep_int r]; exact .int i
    | str x => rw [rep_str r]; exact .str x
    | _ => simp [D.fl] at h
  | succ n ih =>
    have all : ∀ (ds : List D) (vs : List V), ds.all (D.fl n) = true → Reps K ρ H ds vs → DpAll K H vs (D.pys ds) := by
      intro ds
      induction ds with
      | nil =>
        intro vs _ r
        unfold Reps at r
        rw [r]
        exact .nil
      | cons d ds ih2 =>
        intro vs h r
        unfold Reps at r
        obtain ⟨v, w, rfl, r1, r2⟩ := r
        rw [List.all_cons, Bool.and_eq_true] at h
        exact .cons (ih d v h.1 r1) (ih2 w h.2 r2)
    intro d v h r
    cases d with
    | non => rw [rep_non r]; exact .non
    | bl b => rw [rep_bl r]; exact .bl b
    | int i => rw [rep_int r]; exact .int i
    | str x => rw [rep_str r]; exact .str x
    | tup xs =>
      obtain ⟨a, vs, rfl, hs, hr⟩ := rep_tup r
      exact .tup hs (all xs vs h hr)
    | rol xs =>
      obtain ⟨a, vs, rfl, hs, hr⟩ := rep_rol r
      exact .lst (sqf_l hs) (all xs vs h hr)
    | _ => simp [D.fl] at h
theorem fl_lay : ∀ (n : Nat) (d : D), d.fl n = true → d.py.canLay0 = true ∧ d.py.depth ≤ n := by
  intro n
  induction n with
  | zero =>
    intro d h
    cases d <;> first | (simp [D.fl] at h; done) | (simp [D.py, PyData.canLay0, PyData.depth]; done) | (simp [D.py, PyData.canLay0, PyData.depth]; simpa [D.fl] using h)
  | succ n ih =>
    have all : ∀ ds : List D, ds.all (D.fl n) = true → PyData.canLayAll0 (D.pys ds) = true ∧ PyData.depthAll (D.pys ds) ≤ n := by
      intro ds
      induction ds with
      | nil => intro _; simp [D.pys, PyData.canLayAll0, PyData.depthAll]
      | cons d ds ih2 =>
        intro h
        rw [List.all_cons, Bool.and_eq_true] at h
        obtain ⟨a1, a2⟩ := ih d h.1
        obtain ⟨b1, b2⟩ := ih2 h.2
        rw [D.pys, PyData.canLayAll0, PyData.depthAll]
        exact ⟨by rw [a1, b1]; rfl, by omega⟩
    intro d h
    cases d with
    | tup xs =>
      obtain ⟨a1, a2⟩ := all xs h
      rw [D.py, PyData.canLay0, PyData.depth]
      exact ⟨a1, by omega⟩
    | rol xs =>
      obtain ⟨a1, a2⟩ := all xs h
      rw [D.py, PyData.canLay0, PyData.depth]
      exact ⟨a1, by omega⟩
    | ty _ => simp [D.fl] at h
    | ref _ => simp [D.fl] at h
    | adr _ => simp [D.fl] at h
    | str x => simp [D.py, PyData.canLay0, PyData.depth]; simpa [D.fl] using h
    | _ => simp [D.py, PyData.canLay0, PyData.depth]
theorem fl_shaped {n : Nat} {d : D} (h : d.fl n = true) (hn : n ≤ 64) : SeqAt.shaped d.py = true := by
  obtain ⟨a, b⟩ := fl_lay n d h
  unfold SeqAt.shaped
  rw [a, decide_eq_true (by omega)]
  rfl
theorem fl_shapeds {n : Nat} {ds : List D} (h : ds.all (D.fl n) = true) (hn : n < 64) : SeqAt.shaped (.list (D.pys ds)) = true := by
  have q : (D.rol ds).fl (n + 1) = true := h
  exact fl_shaped (d := .rol ds) q (by omega)
/-- what == sees -/
def pyd (st : Store) (d : D) : Option PyData := if d.fl 8 = true then some d.py else match d with
  | .ref k => match st[k]? with
    | some (.lst xs) => if xs.all (D.fl 8) = true then some (.list (D.pys xs)) else none
    | _ => none
  | _ => none
theorem pyd_dp [Bs] {K : PySem.W.Frag} {ρ : List Addr} {H : Hp} {st : Store} {d : D} {v : V} {p : PyData} (r : RelS K ρ H st) (h : Rep K ρ H d v) (e : pyd st d = some p) : Dp K H v p ∧ SeqAt.shaped p = true := by
  unfold pyd at e
  split at e
  · rename_i hf
    cases e
    exact ⟨fl_dp 8 d v hf h, fl_shaped hf (by omega)⟩
  · split at e
    · rename_i k hn
      obtain ⟨a, ha, rfl⟩ := rep_ref h
      split at e
      · rename_i xs ex
        split at e
        · rename_i hall
          cases e
          obtain ⟨vs, hv, hr⟩ := r.lst ha ex
          refine ⟨.lst (SqL.of hv) ?_, fl_shapeds hall (by omega)⟩
          have all : ∀ (ds : List D) (vs : List V), ds.all (D.fl 8) = true → Reps K ρ H ds vs → DpAll K H vs (D.pys ds) := by
            intro ds
            induction ds with
            | nil =>
              intro vs _ r
              unfold Reps at r
              rw [r]
              exact .nil
            | cons d ds ih2 =>
              intro vs h r
              unfold Reps at r
              obtain ⟨v, w, rfl, r1, r2⟩ := r
              rw [List.all_cons, Bool.and_eq_true] at h
              exact .cons (fl_dp 8 d v h.1 r1) (ih2 w h.2 r2)
          exact all xs vs hall hr
        · cases e
      · cases e
    · cases e
def dEqv (st : Store) (x y : D) : Option Bool := match pyd st x, pyd st y with
  | some a, some b => some (PyData.eqv a b)
  | _, _ => none
def dEq : DR2 := fun x y st Q => match dEqv st x y with
  | some b => Q (.bl b) st
  | none => False
def dNe : DR2 := fun x y st Q => match dEqv st x y with
  | some b => Q (.bl (!b)) st
  | none => False
theorem sim_eq [Bs] {K : PySem.W.Frag} : SimR2 K (rEqD K) dEq := by
  intro ρ st H x y dx dy Q W rs px py q w
  unfold dEq dEqv at q
  split at q
  · rename_i b e
    split at e
    · rename_i p1 p2 e1 e2
      cases e
      obtain ⟨a1, a2⟩ := pyd_dp rs px e1
      obtain ⟨b1, b2⟩ := pyd_dp rs py e2
      exact ⟨p1, p2, a1, b1, a2, b2, w _ H (.of rs (.bl _) q)⟩
    · cases e
  · exact q.elim
theorem sim_ne [Bs] {K : PySem.W.Frag} : SimR2 K (rNeD K) dNe := by
  intro ρ st H x y dx dy Q W rs px py q w
  unfold dNe dEqv at q
  split at q
  · rename_i b e
    split at e
    · rename_i p1 p2 e1 e2
      cases e
      obtain ⟨a1, a2⟩ := pyd_dp rs px e1
      obtain ⟨b1, b2⟩ := pyd_dp rs py e2
      exact ⟨p1, p2, a1, b1, a2, b2, w _ H (.of rs (.bl _) q)⟩
    · cases e
  · exact q.elim
section
variable {X : Cx}
theorem so_eq [Bs] {K : PySem.W.Frag} [hk : HasK X K] {k : Nat} (hr : Room k X.A) : SOp X (compareOp .Eq) (rEqD K) dEq := by
  obtain rfl := hk.eq
  exact ⟨op_eqD hr.units, sim_eq⟩
theorem so_ne [Bs] {K : PySem.W.Frag} [hk : HasK X K] {k : Nat} (hr : Room k X.A) : SOp X (compareOp .NotEq) (rNeD K) dNe := by
  obtain rfl := hk.eq
  exact ⟨op_neD hr.units, sim_ne⟩
end
/-- x in l, l a list of flat data; x in a text -/
def dMem (st : Store) (x y : D) : Option Bool := match y with
  | .ref k => match st[k]? with
    | some (.lst xs) => if x.fl 8 = true ∧ xs.all (D.fl 8) = true then some (xs.any fun z => PyData.eqv z.py x.py) else none
    | _ => none
  | .str b => match x with
    | .str a => some (!(Builtin.Str.occurrences b a 0 b.length 1).isEmpty)
    | _ => none
  | _ => none
def dIn : DR2 := fun x y st Q => match dMem st x y with
  | some b => Q (.bl b) st
  | none => False
def dNotIn : DR2 := fun x y st Q => match dMem st x y with
  | some b => Q (.bl (!b)) st
  | none => False
def rInA (K : PySem.W.Frag) : R2 := fun x y H Q => rInD K x y H Q ∨ (∃ i j, x = .str i ∧ y = .str j ∧ Q (.bl (!(Builtin.Str.occurrences j i 0 j.length 1).isEmpty)) H)
def rNotInA (K : PySem.W.Frag) : R2 := fun x y H Q => rNotInD K x y H Q ∨ (∃ i j, x = .str i ∧ y = .str j ∧ Q (.bl (!(!(Builtin.Str.occurrences j i 0 j.length 1).isEmpty))) H)
theorem any_pys (p : D) : ∀ xs : List D, ((D.pys xs).any fun z => PyData.eqv z p.py) = xs.any fun z => PyData.eqv z.py p.py
  | [] => rfl
  | x :: xs => by rw [D.pys, List.any_cons, List.any_cons, any_pys p xs]
theorem dp_list {K : PySem.W.Frag} {ρ : List Addr} {H : Hp} {ds : List D} {vs : List V} {a : Addr} (hv : H a = some (.lst vs)) (h : ds.all (D.fl 8) = true) (r : Reps K ρ H ds vs) : Dp K H (.ref a) (.list (D.pys ds)) := by
  refine .lst (SqL.of hv) ?_
  clear hv
  induction ds generalizing vs with
  | nil =>
    unfold Reps at r
    rw [r]
    exact .nil
  | cons d ds ih =>
    unfold Reps at r
    obtain ⟨v, w, rfl, r1, r2⟩ := r
    rw [List.all_cons, Bool.and_eq_true] at h
    exact .cons (fl_dp 8 d v h.1 r1) (ih h.2 r2)
theorem sim_in [Bs] {K : PySem.W.Frag} : SimR2 K (rInA K) dIn := by
  intro ρ st H x y dx dy Q W rs px py q w
  unfold dIn dMem at q
  split at q
  · rename_i b e
    cases dy with
    | ref k =>
      dsimp only at e
      obtain ⟨a, ha, rfl⟩ := rep_ref py
      split at e
      · rename_i xs ex
        split at e
        · rename_i hf
          cases e
          obtain ⟨vs, hv, hr⟩ := rs.lst ha ex
          refine .inl ⟨dx.py, D.pys xs, fl_dp 8 dx x hf.1 px, dp_list hv hf.2 hr, fl_shaped hf.1 (by omega), fl_shapeds hf.2 (by omega), ?_⟩
          rw [any_pys]
          exact w _ H (.of rs (.bl _) q)
        · cases e
      · cases e
    | str j =>
      cases dx with
      | str i =>
        cases e
        exact .inr ⟨i, j, rep_str px, rep_str py, w _ H (.of rs (.bl _) q)⟩
      | _ => cases e
    | _ => cases e
  · exact q.elim
theorem sim_notIn [Bs] {K : PySem.W.Frag} : SimR2 K (rNotInA K) dNotIn := by
  intro ρ st H x y dx dy Q W rs px py q w
  unfold dNotIn dMem at q
  split at q
  · rename_i b e
    cases dy with
    | ref k =>
      dsimp only at e
      obtain ⟨a, ha, rfl⟩ := rep_ref py
      split at e
      · rename_i xs ex
        split at e
        · rename_i hf
          cases e
          obtain ⟨vs, hv, hr⟩ := rs.lst ha ex
          refine .inl ⟨dx.py, D.pys xs, fl_dp 8 dx x hf.1 px, dp_list hv hf.2 hr, fl_shaped hf.1 (by omega), fl_shapeds hf.2 (by omega), ?_⟩
          rw [any_pys]
          exact w _ H (.of rs (.bl _) q)
        · cases e
      · cases e
    | str j =>
      cases dx with
      | str i =>
        cases e
        exact .inr ⟨i, j, rep_str px, rep_str py, w _ H (.of rs (.bl _) q)⟩
      | _ => cases e
    | _ => cases e
  · exact q.elim
section
variable {X : Cx}
theorem so_in [Bs] {K : PySem.W.Frag} [hk : HasK X K] {k : Nat} (hr : Room k X.A) : SOp X (compareOp .In) (rInA K) dIn := by
  obtain rfl := hk.eq
  exact ⟨.or (op_inD (by have := hr.un; omega)) op_in_str, sim_in⟩
theorem so_notIn [Bs] {K : PySem.W.Frag} [hk : HasK X K] {k : Nat} (hr : Room k X.A) : SOp X (compareOp .NotIn) (rNotInA K) dNotIn := by
  obtain rfl := hk.eq
  exact ⟨.or (op_notInD (by have := hr.un; omega)) op_notin_str, sim_notIn⟩
def D.isNon : D → Bool
  | .non => true
  | _ => false
def dIsN : DR2 := fun x y st Q => match y with
  | .non => Q (.bl x.isNon) st
  | _ => False
def dNotN : DR2 := fun x y st Q => match y with
  | .non => Q (.bl (!x.isNon)) st
  | _ => False
theorem rep_isN {K : PySem.W.Frag} {ρ : List Addr} {H : Hp} {d : D} {v : V} (h : Rep K ρ H d v) : decide (v = .non) = d.isNon := by
  cases d with
  | non => rw [rep_non h]; rfl
  | bl b => rw [rep_bl h]; rfl
  | int b => rw [rep_int h]; rfl
  | str b => rw [rep_str h]; rfl
  | ty b => rw [rep_ty h]; rfl
  | tup xs => obtain ⟨a, vs, rfl, _⟩ := rep_tup h; rfl
  | rol xs => obtain ⟨a, vs, rfl, _⟩ := rep_rol h; rfl
  | ref k => obtain ⟨a, _, rfl⟩ := rep_ref h; rfl
  | adr k => rw [rep_adr h]; rfl
theorem so_isN [Bs] : SOp X (compareOp .Is) (fun x y H Q => y = .non ∧ Q (.bl (decide (x = .non))) H) dIsN := by
  refine ⟨op_isN, fun ρ st H x y dx dy Q W rs px py q w => ?_⟩
  cases dy with
  | non =>
    refine ⟨rep_non py, ?_⟩
    rw [rep_isN px]
    exact w _ H (.of rs (.bl _) q)
  | _ => exact q.elim
theorem so_notN [Bs] : SOp X (compareOp .IsNot) (fun x y H Q => y = .non ∧ Q (.bl (!decide (x = .non))) H) dNotN := by
  refine ⟨op_notN, fun ρ st H x y dx dy Q W rs px py q w => ?_⟩
  cases dy with
  | non =>
    refine ⟨rep_non py, ?_⟩
    rw [rep_isN px]
    exact w _ H (.of rs (.bl _) q)
  | _ => exact q.elim
end
end DL

namespace DL
open PySem PySem.Spec L2

/-! ### arguments, displays, calls -/
def dNil : DTA := fun _ st Q => Q [] st
def dCons (da : DTE) (dr : DTA) : DTA := fun env st Q => da env st fun x st1 => dr env st1 fun xs st2 => Q (x :: xs) st2
def dTup (da : DTA) : DTE := fun env st Q => da env st fun xs st1 => xs.length ≤ sizeLine ∧ Q (.tup xs) st1
def dLst (da : DTA) : DTE := fun env st Q => da env st fun xs st1 => xs.length ≤ sizeLine ∧ Q (.ref st1.length) (st1 ++ [.lst xs])
section
variable {X : Cx} {e : Expr} {es : List Expr} {te : TE} {t : TA} {de : DTE} {da : DTA} {pos : Pos}
theorem sa_nil [Bs] : SA X [] tNil dNil := ⟨pa_nil, fun ρ env st σ H Q W rs re q w => w [] H ⟨ρ, [], st, Keep.refl, rs, Reps.nil, q⟩⟩
theorem sa_cons [Bs] (ha : SE X e te de) (hr : SA X es t da) (hs : starEach (e :: es) X.env = (false, eval e X.env) :: starEach es X.env := by rfl) : SA X (e :: es) (tCons te t) (dCons de da) := by
  refine ⟨pa_cons ha.pe hr.pa hs, fun ρ env st σ H Q W rs re q w => ?_⟩
  refine ha.sim ρ env st σ H _ _ rs re q fun x H1 ⟨ρ1, dx, st1, k1, r1, px, q1⟩ => ?_
  refine hr.sim ρ1 env st1 σ H1 _ _ r1 (re.keep k1) q1 fun xs H2 ⟨ρ2, dxs, st2, k2, r2, pxs, q2⟩ => ?_
  exact w (x :: xs) H2 ⟨ρ2, dx :: dxs, st2, k1.trans k2, r2, .cons (px.keep k2) pxs, q2⟩
theorem se_tup [Bs] {x1} (h : SA X es t da) : SE X (.Tuple es x1 pos) (tTup t) (dTup da) := by
  refine ⟨pe_tup h.pa, fun ρ env st σ H Q W rs re q w => ?_⟩
  refine h.sim ρ env st σ H _ _ rs re q fun xs H1 ⟨ρ1, ds, st1, k1, r1, px, q1⟩ => ?_
  exact ⟨by rw [← px.len]; exact q1.1, fun p hp => w _ _ ((PostE.tup r1 hp px q1.2).keep k1)⟩
theorem se_lst [Bs] (h : SA X es t da) : SE X (.List es pos) (tLst t) (dLst da) := by
  refine ⟨pe_lst h.pa, fun ρ env st σ H Q W rs re q w => ?_⟩
  refine h.sim ρ env st σ H _ _ rs re q fun xs H1 ⟨ρ1, ds, st1, k1, r1, px, q1⟩ => ?_
  exact ⟨by rw [← px.len]; exact q1.1, fun p hp => w _ _ ((PostE.lst r1 hp px q1.2).keep k1)⟩
end
/-- a def's promise over data -/
abbrev DSp := List D → Store → DQ → Prop
def spOf (K : PySem.W.Frag) (dsp : DSp) : Sp := fun vs H Q _ => ∃ ρ ds st QD, @RelS K ρ H triv st ∧ Reps K ρ H ds vs ∧ dsp ds st QD ∧ ∀ v H', @PostE triv K ρ H QD v H' → Q v H'
def dCall (dsp : DSp) (da : DTA) : DTE := fun env st Q => da env st fun ds st1 => dsp ds st1 Q
section
variable {X : Cx} {k : Nat} {f : Addr} {fd : FuncData} {ps : List Str} {dsp : DSp} {x : Str} {p pos : Pos} {e : Expr} {es : List Expr} {t : TA} {da : DTA}
theorem sim_call [Bs] {K : PySem.W.Frag} (h : SimA K t da) : Sim K (tCall (spOf K dsp) [] E0 t) (dCall dsp da) := by
  intro ρ env st σ H Q W rs re q w
  refine h ρ env st σ H _ _ rs re q fun xs H1 ⟨ρ1, ds, st1, k1, r1, px, q1⟩ => ?_
  rw [List.append_nil]
  exact ⟨ρ1, ds, st1, Q, r1.dn, px, q1, fun v H' pq => w v H' ((PostE.up r1 pq).keep k1)⟩
theorem se_call [Bs] {K : PySem.W.Frag} [hK : HasK X K] (F : FnOk X.prog X.w K X.mg X.base CX0 k f fd ps (spOf K dsp)) (hr : Room k X.A) (hg : Gl X x) (hm : X.mg x = some (.ref f)) (hk : PySem.W.keepIn K (.ref f) = true) (hb : Binds K fd ps [])
    (ha : SA X (e :: es) t da) (hdb : (x == ("__debug__" : Str)) = false := by decide) (he : starEach (e :: es) X.env = (false, eval e X.env) :: starEach es X.env := by rfl) (hpl : (backTo pos (starEach es X.env)).any (·.1) = false := by rfl) :
    SE X (.Call (.Name x p) (e :: es) [] pos) (tCall (spOf K dsp) [] E0 t) (dCall dsp da) := by
  obtain rfl := hK.eq
  exact ⟨pe_call F hr hg hm hk hb .nil pass0 ha.pa hdb he hpl, sim_call ha.sim⟩
theorem se_call0 [Bs] {K : PySem.W.Frag} [hK : HasK X K] (F : FnOk X.prog X.w K X.mg X.base CX0 k f fd ps (spOf K dsp)) (hr : Room k X.A) (hg : Gl X x) (hm : X.mg x = some (.ref f)) (hk : PySem.W.keepIn K (.ref f) = true) (hb : Binds K fd ps [])
    (hdb : (x == ("__debug__" : Str)) = false := by decide) : SE X (.Call (.Name x p) [] [] pos) (tCall (spOf K dsp) [] E0 tNil) (dCall dsp dNil) := by
  obtain rfl := hK.eq
  exact ⟨pe_call0 F hr hg hm hk hb .nil pass0 hdb, sim_call (sa_nil (X := X)).sim⟩
end
/-! ### built-ins by name -/
structure SCl [Bs] (X : Cx) (f : Value) (r : List V → Hp → VK → Prop) (rd : DRA) : Prop where
  cr : CallR X f r
  sim : SimRA X.K r rd
def dCB (rd : DRA) (da : DTA) : DTE := fun env st Q => da env st fun ds st1 => rd ds st1 Q
theorem sim_cb [Bs] {K : PySem.W.Frag} {r : List V → Hp → VK → Prop} {rd : DRA} {t : TA} {da : DTA} (hr : SimRA K r rd) (h : SimA K t da) : Sim K (tCB r t) (dCB rd da) := by
  intro ρ env st σ H Q W rs re q w
  refine h ρ env st σ H _ _ rs re q fun xs H1 ⟨ρ1, ds, st1, k1, r1, px, q1⟩ => ?_
  exact hr ρ1 st1 H1 xs ds Q W r1 px q1 fun v H' p => w v H' (p.keep k1)
section
variable {X : Cx} {x : Str} {p pos : Pos} {e : Expr} {es : List Expr} {t : TA} {da : DTA} {id T : String} {r : List V → Hp → VK → Prop} {rd : DRA}
theorem se_callB [Bs] (hc : SCl X (.builtin id) r rd) (hg : Gl X x) (hm : X.mg x = none) (hv : bootBuiltins x = some (.builtin id)) (ha : SA X (e :: es) t da) (hn : x ≠ "__name__" := by decide) (hdb : (x == ("__debug__" : Str)) = false := by decide)
    (he : starEach (e :: es) X.env = (false, eval e X.env) :: starEach es X.env := by rfl) (hpl : (backTo pos (starEach es X.env)).any (·.1) = false := by rfl) : SE X (.Call (.Name x p) (e :: es) [] pos) (tCB r t) (dCB rd da) := ⟨pe_callB hc.cr hg hm hv ha.pa hn hdb he hpl, sim_cb hc.sim ha.sim⟩
theorem se_callTy [Bs] (hc : SCl X (.type T) r rd) (hg : Gl X x) (hm : X.mg x = none) (hv : bootBuiltins x = some (.type T)) (ha : SA X (e :: es) t da) (hn : x ≠ "__name__" := by decide) (hdb : (x == ("__debug__" : Str)) = false := by decide)
    (he : starEach (e :: es) X.env = (false, eval e X.env) :: starEach es X.env := by rfl) (hpl : (backTo pos (starEach es X.env)).any (·.1) = false := by rfl) : SE X (.Call (.Name x p) (e :: es) [] pos) (tCB r t) (dCB rd da) := ⟨pe_callTy hc.cr hg hm hv ha.pa hn hdb he hpl, sim_cb hc.sim ha.sim⟩
end
theorem Reps.one {K : PySem.W.Frag} {ρ : List Addr} {H : Hp} {d : D} {vs : List V} (h : Reps K ρ H [d] vs) : ∃ v, vs = [v] ∧ Rep K ρ H d v := by
  unfold Reps at h
  obtain ⟨v, r, rfl, h1, h2⟩ := h
  unfold Reps at h2
  exact ⟨v, by rw [h2], h1⟩
theorem Reps.two {K : PySem.W.Frag} {ρ : List Addr} {H : Hp} {d e : D} {vs : List V} (h : Reps K ρ H [d, e] vs) : ∃ v w, vs = [v, w] ∧ Rep K ρ H d v ∧ Rep K ρ H e w := by
  unfold Reps at h
  obtain ⟨v, r, rfl, h1, h2⟩ := h
  obtain ⟨w, rfl, h3⟩ := h2.one
  exact ⟨v, w, rfl, h1, h3⟩
def dLen : DRA := fun ds st Q => match ds with
  | [.tup xs] => Q (.int xs.length) st
  | [.rol xs] => Q (.int xs.length) st
  | [.str z] => z.length ≤ sizeLine ∧ Q (.int z.length) st
  | [.ref k] => match st[k]? with
    | some (.lst xs) => Q (.int xs.length) st
    | _ => False
  | _ => False
section
variable {X : Cx}
theorem sc_len [Bs] {K : PySem.W.Frag} [hk : HasK X K] : SCl X (.builtin "len") (fun xs H Q => ∃ x n, xs = [x] ∧ LenV K x H n ∧ Q (.int n) H) dLen := by
  obtain rfl := hk.eq
  refine ⟨call_len, fun ρ st H xs dxs Q W rs px q w => ?_⟩
  unfold dLen at q
  split at q
  · rename_i ys
    obtain ⟨v, rfl, r⟩ := px.one
    obtain ⟨a, vs, rfl, hs, hr⟩ := rep_tup r
    exact ⟨_, ys.length, rfl, .inr ⟨vs, hs, hr.len⟩, w _ H (.of rs (.int _) q)⟩
  · rename_i ys
    obtain ⟨v, rfl, r⟩ := px.one
    obtain ⟨a, vs, rfl, hs, hr⟩ := rep_rol r
    exact ⟨_, ys.length, rfl, .inl ⟨vs, sqf_l hs, hr.len⟩, w _ H (.of rs (.int _) q)⟩
  · rename_i z
    obtain ⟨v, rfl, r⟩ := px.one
    obtain rfl := rep_str r
    exact ⟨_, z.length, rfl, ⟨q.1, rfl⟩, w _ H (.of rs (.int _) q.2)⟩
  · rename_i k
    obtain ⟨v, rfl, r⟩ := px.one
    obtain ⟨a, ha, rfl⟩ := rep_ref r
    split at q
    · rename_i ys e
      obtain ⟨vs, hv, hr⟩ := rs.lst ha e
      exact ⟨_, ys.length, rfl, .inl ⟨vs, SqL.of hv, hr.len⟩, w _ H (.of rs (.int _) q)⟩
    · exact q.elim
  · exact q.elim
def dAbs : DRA := fun ds st Q => match ds with
  | [.int i] => Q (.int (if i < 0 then -i else i)) st
  | _ => False
theorem sc_abs [Bs] : SCl X (.builtin "abs") (fun xs H Q => ∃ i, xs = [.int i] ∧ Q (.int (if i < 0 then -i else i)) H) dAbs := by
  refine ⟨call_abs, fun ρ st H xs dxs Q W rs px q w => ?_⟩
  unfold dAbs at q
  split at q
  · rename_i i
    obtain ⟨v, rfl, r⟩ := px.one
    obtain rfl := rep_int r
    exact ⟨i, rfl, w _ H (.of rs (.int _) q)⟩
  · exact q.elim
def D.int? : D → Option Int
  | .int i => some i
  | .bl k => some (if k then 1 else 0)
  | _ => none
def dInt1 : DRA := fun ds st Q => match ds with
  | [x] => match x.int? with
    | some i => Q (.int i) st
    | none => False
  | _ => False
theorem sc_int1 [Bs] : SCl X (.type "int") (fun xs H Q => (∃ i, xs = [.int i] ∧ Q (.int i) H) ∨ ∃ k, xs = [.bl k] ∧ Q (.int (if k then 1 else 0)) H) dInt1 := by
  refine ⟨call_int1, fun ρ st H xs dxs Q W rs px q w => ?_⟩
  unfold dInt1 at q
  split at q
  · rename_i x
    obtain ⟨v, rfl, r⟩ := px.one
    cases x with
    | int i =>
      obtain rfl := rep_int r
      exact .inl ⟨i, rfl, w _ H (.of rs (.int _) q)⟩
    | bl i =>
      obtain rfl := rep_bl r
      exact .inr ⟨i, rfl, w _ H (.of rs (.int _) q)⟩
    | _ => exact q.elim
  · exact q.elim
/-- list(xs), xs a list or a tuple -/
def dListOf : DRA := fun ds st Q => match ds with
  | [.tup xs] => Q (.ref st.length) (st ++ [.lst xs])
  | [.rol xs] => Q (.ref st.length) (st ++ [.lst xs])
  | [.ref k] => match st[k]? with
    | some (.lst xs) => Q (.ref st.length) (st ++ [.lst xs])
    | _ => False
  | _ => False
theorem sc_list [Bs] {K : PySem.W.Frag} [hk : HasK X K] : SCl X (.type "list") (fun xs H Q => ∃ p ys, xs = [.ref p] ∧ (SqL K H p ys ∨ SqT K H p ys) ∧ ∀ l, H l = none → Q (.ref l) (upd H l (.lst ys))) dListOf := by
  obtain rfl := hk.eq
  refine ⟨call_list_of, fun ρ st H xs dxs Q W rs px q w => ?_⟩
  unfold dListOf at q
  split at q
  · rename_i ys
    obtain ⟨v, rfl, r⟩ := px.one
    obtain ⟨a, vs, rfl, hs, hr⟩ := rep_tup r
    exact ⟨a, vs, rfl, .inr hs, fun l hl => w _ _ (.lst rs hl hr q)⟩
  · rename_i ys
    obtain ⟨v, rfl, r⟩ := px.one
    obtain ⟨a, vs, rfl, hs, hr⟩ := rep_rol r
    exact ⟨a, vs, rfl, .inl (sqf_l hs), fun l hl => w _ _ (.lst rs hl hr q)⟩
  · rename_i k
    obtain ⟨v, rfl, r⟩ := px.one
    obtain ⟨a, ha, rfl⟩ := rep_ref r
    split at q
    · rename_i ys e
      obtain ⟨vs, hv, hr⟩ := rs.lst ha e
      exact ⟨a, vs, rfl, .inl (SqL.of hv), fun l hl => w _ _ (.lst rs hl hr q)⟩
    · exact q.elim
  · exact q.elim
def dTupleOf : DRA := fun ds st Q => match ds with
  | [.tup xs] => Q (.tup xs) st
  | [.rol xs] => Q (.tup xs) st
  | [.ref k] => match st[k]? with
    | some (.lst xs) => Q (.tup xs) st
    | _ => False
  | _ => False
theorem sc_tuple [Bs] {K : PySem.W.Frag} [hk : HasK X K] : SCl X (.type "tuple") (fun xs H Q => ∃ p ys, xs = [.ref p] ∧ ((SqL K H p ys ∧ ∀ l, H l = none → Q (.ref l) (upd H l (.tup ys))) ∨ (SqT K H p ys ∧ Q (.ref p) H))) dTupleOf := by
  obtain rfl := hk.eq
  refine ⟨call_tuple_of, fun ρ st H xs dxs Q W rs px q w => ?_⟩
  unfold dTupleOf at q
  split at q
  · rename_i ys
    obtain ⟨v, rfl, r⟩ := px.one
    obtain ⟨a, vs, rfl, hs, hr⟩ := rep_tup r
    exact ⟨a, vs, rfl, .inr ⟨hs, w _ H (.of rs (.tup hs hr) q)⟩⟩
  · rename_i ys
    obtain ⟨v, rfl, r⟩ := px.one
    obtain ⟨a, vs, rfl, hs, hr⟩ := rep_rol r
    exact ⟨a, vs, rfl, .inl ⟨sqf_l hs, fun l hl => w _ _ (.tup rs hl hr q)⟩⟩
  · rename_i k
    obtain ⟨v, rfl, r⟩ := px.one
    obtain ⟨a, ha, rfl⟩ := rep_ref r
    split at q
    · rename_i ys e
      obtain ⟨vs, hv, hr⟩ := rs.lst ha e
      exact ⟨a, vs, rfl, .inl ⟨SqL.of hv, fun l hl => w _ _ (.tup rs hl hr q)⟩⟩
    · exact q.elim
  · exact q.elim
end

/-! ### places and slices -/
def dItem (st : Store) (x : D) (i : Int) : Option D := match x with
  | .tup xs => atI xs i
  | .rol xs => atI xs i
  | .ref k => match st[k]? with
    | some (.lst xs) => atI xs i
    | _ => none
  | .str z => if z.length ≤ sizeLine then (atI z.cps.toList i).map fun c => .str ⟨#[c]⟩ else none
  | _ => none
def dIx : DR2 := fun x y st Q => match y with
  | .int i => match dItem st x i with
    | some d => Q d st
    | none => False
  | _ => False
theorem reps_at {K : PySem.W.Frag} {ρ : List Addr} {H : Hp} {ds : List D} {vs : List V} {i : Int} {d : D} (r : Reps K ρ H ds vs) (h : atI ds i = some d) : ∃ v, atI vs i = some v ∧ Rep K ρ H d v := by
  unfold atI at h ⊢
  rw [← r.len]
  cases e : ixN ds.length i with
  | none => rw [e] at h; cases h
  | some j =>
    rw [e] at h
    exact r.get h
theorem sim_ix [Bs] {K : PySem.W.Frag} : SimR2 K (rIx K) dIx := by
  intro ρ st H x y dx dy Q W rs px py q w
  cases dy with
  | int i =>
    obtain rfl := rep_int py
    unfold dIx at q
    dsimp only at q
    split at q
    · rename_i d e
      unfold dItem at e
      split at e
      · obtain ⟨a, vs, rfl, hs, hr⟩ := rep_tup px
        obtain ⟨v, hv, rv⟩ := reps_at hr e
        exact .inr (.inl ⟨a, vs, i, v, rfl, rfl, hs, hv, w _ H (.of rs rv q)⟩)
      · obtain ⟨a, vs, rfl, hs, hr⟩ := rep_rol px
        obtain ⟨v, hv, rv⟩ := reps_at hr e
        exact .inl ⟨a, vs, i, v, rfl, rfl, sqf_l hs, hv, w _ H (.of rs rv q)⟩
      · obtain ⟨a, ha, rfl⟩ := rep_ref px
        split at e
        · rename_i ys e2
          obtain ⟨vs, hv, hr⟩ := rs.lst ha e2
          obtain ⟨v, hv2, rv⟩ := reps_at hr e
          exact .inl ⟨a, vs, i, v, rfl, rfl, SqL.of hv, hv2, w _ H (.of rs rv q)⟩
        · cases e
      · rename_i z
        obtain rfl := rep_str px
        split at e
        · rename_i hz
          obtain ⟨c, hc, rfl⟩ := Option.map_eq_some_iff.mp e
          exact .inr (.inr ⟨z, i, c, rfl, rfl, hz, hc, w _ H (.of rs (.str _) q)⟩)
        · cases e
      · cases e
    · exact q.elim
  | _ => exact q.elim
section
variable {X : Cx} {a b : Expr} {ta tb : TE} {da db : DTE} {pos p2 : Pos}
theorem se_ix [Bs] {K : PySem.W.Frag} [hk : HasK X K] (ha : SE X a ta da) (hb : SE X b tb db) (hs : PlainIx b) : SE X (.Subscript a b pos) (tOp (rIx K) ta tb) (dOp dIx da db) := by
  obtain rfl := hk.eq
  exact ⟨pe_ix ix_seq ha.pe hb.pe hs, sim_op sim_ix ha.sim hb.sim⟩
end
abbrev DTO := DEnv → Store → (Option Int → Store → Prop) → Prop
def SimO [Bs] (K : PySem.W.Frag) (t : TO) (te : DTO) : Prop := ∀ ρ env st σ H (Q : Option Int → Store → Prop) (W : Option Int → Hp → Prop), RelS K ρ H st → RelE K ρ H env σ → te env st Q → (∀ o H', (∃ ρ' st', Keep ρ ρ' H H' ∧ RelS K ρ' H' st' ∧ Q o st') → W o H') → t σ H W
structure SO [Bs] (X : Cx) (e : Option Expr) (t : TO) (te : DTO) : Prop where
  po : PO X e t
  sim : SimO X.K t te
def dNoPart : DTO := fun _ st Q => Q none st
def dPart (de : DTE) : DTO := fun env st Q => de env st fun x st1 => match x with
  | .int i => Q (some i) st1
  | _ => False
/-- the slice of a list of data -/
def cutD (xs : List D) (lo hi : Option Int) : List D := (xs.drop (HT.sIx xs.length 0 lo)).take (HT.sIx xs.length xs.length hi - HT.sIx xs.length 0 lo)
def dSl (x : D) (lo hi : Option Int) : Store → DQ → Prop := fun st Q => match x with
  | .tup xs => Q (.tup (cutD xs lo hi)) st
  | .rol xs => Q (.ref st.length) (st ++ [.lst (cutD xs lo hi)])
  | .ref k => match st[k]? with
    | some (.lst xs) => Q (.ref st.length) (st ++ [.lst (cutD xs lo hi)])
    | _ => False
  | .str z => z.length ≤ sizeLine ∧ Q (.str (cutS z lo hi)) st
  | _ => False
def dSlice (de : DTE) (dl dh : DTO) : DTE := fun env st Q => de env st fun x st1 => dl env st1 fun lo st2 => dh env st2 fun hi st3 => dSl x lo hi st3 Q
theorem reps_cut {K : PySem.W.Frag} {ρ : List Addr} {H : Hp} {ds : List D} {vs : List V} (r : Reps K ρ H ds vs) (lo hi : Option Int) : Reps K ρ H (cutD ds lo hi) (cutV vs lo hi) := by
  unfold cutD cutV
  rw [r.len]
  exact (r.drop _).take _
theorem cut_whole (xs : List D) (lo hi : Option Int) (h : HT.sIx xs.length 0 lo = 0 ∧ HT.sIx xs.length xs.length hi = xs.length) : cutD xs lo hi = xs := by
  unfold cutD
  rw [h.1, h.2, List.drop_zero, Nat.sub_zero, List.take_length]
def rSlAll (K : PySem.W.Frag) : V → Option Int → Option Int → Hp → VK → Prop := fun x lo hi H Q => rSlA K x lo hi H Q ∨ (rSlL K x lo hi H Q ∨ rSlS x lo hi H Q)
section
variable {X : Cx} {e : Expr} {lo hi : Option Expr} {te : TE} {tl th : TO} {de : DTE} {dl dh : DTO} {pos p2 : Pos}
theorem so_none [Bs] : SO X none tNoPart dNoPart := ⟨po_none, fun ρ env st σ H Q W rs re q w => w none H ⟨ρ, st, Keep.refl, rs, q⟩⟩
theorem so_some [Bs] {x : Expr} (h : SE X x te de) : SO X (some x) (tPart te) (dPart de) := by
  refine ⟨po_some h.pe, fun ρ env st σ H Q W rs re q w => ?_⟩
  refine h.sim ρ env st σ H _ _ rs re q fun x H1 ⟨ρ1, dx, st1, k1, r1, px, q1⟩ => ?_
  cases dx with
  | int i => exact ⟨i, rep_int px, w _ H1 ⟨ρ1, st1, k1, r1, q1⟩⟩
  | _ => exact q1.elim
theorem se_slice [Bs] {K : PySem.W.Frag} [hk : HasK X K] (he : SE X e te de) (hl : SO X lo tl dl) (hh : SO X hi th dh) : SE X (.Subscript e (.Slice lo hi none p2) pos) (tSl (rSlAll K) te tl th) (dSlice de dl dh) := by
  obtain rfl := hk.eq
  refine ⟨pe_slice (.or sl_tupA (.or sl_list sl_str)) he.pe hl.po hh.po, fun ρ env st σ H Q W rs re q w => ?_⟩
  refine he.sim ρ env st σ H _ _ rs re q fun x H1 ⟨ρ1, dx, st1, k1, r1, px, q1⟩ => ?_
  refine hl.sim ρ1 env st1 σ H1 _ _ r1 (re.keep k1) q1 fun l H2 ⟨ρ2, st2, k2, r2, q2⟩ => ?_
  refine hh.sim ρ2 env st2 σ H2 _ _ r2 ((re.keep k1).keep k2) q2 fun u H3 ⟨ρ3, st3, k3, r3, q3⟩ => ?_
  have px3 := (px.keep k2).keep k3
  have fin : ∀ v H', PostE X.K ρ3 H3 Q v H' → W v H' := fun v H' p => w v H' (((p.keep k3).keep k2).keep k1)
  cases dx with
  | tup xs =>
    obtain ⟨a, vs, rfl, hs, hr⟩ := rep_tup px3
    refine .inl ⟨a, vs, rfl, hs, fun hw => fin _ _ ?_, fun _ p hp => fin _ _ (.tup r3 hp (reps_cut hr l u) q3)⟩
    rw [← hr.len] at hw
    have q4 : Q (.tup (cutD xs l u)) st3 := q3
    rw [cut_whole xs l u hw] at q4
    exact .of r3 px3 q4
  | rol xs =>
    obtain ⟨a, vs, rfl, hs, hr⟩ := rep_rol px3
    exact .inr (.inl ⟨a, vs, rfl, sqf_l hs, fun p hp => fin _ _ (.lst r3 hp (reps_cut hr l u) q3)⟩)
  | ref k =>
    obtain ⟨a, ha, rfl⟩ := rep_ref px3
    unfold dSl at q3
    dsimp only at q3
    split at q3
    · rename_i e2
      obtain ⟨vs, hv, hr⟩ := r3.lst ha e2
      exact .inr (.inl ⟨a, vs, rfl, SqL.of hv, fun p hp => fin _ _ (.lst r3 hp (reps_cut hr l u) q3)⟩)
    · exact q3.elim
  | str z =>
    obtain rfl := rep_str px3
    exact .inr (.inr ⟨z, rfl, q3.1, fin _ _ (.of r3 (.str _) q3.2)⟩)
  | _ => exact q3.elim
end

/-! ### methods of lists -/
abbrev DRM := D → List D → Store → DQ → Prop
def SimRM [Bs] (K : PySem.W.Frag) (r : V → List V → Hp → VK → Prop) (rd : DRM) : Prop := ∀ ρ st H x dx xs dxs (Q : DQ) (W : VK), RelS K ρ H st → Rep K ρ H dx x → Reps K ρ H dxs xs → rd dx dxs st Q → (∀ v H', PostE K ρ H Q v H' → W v H') → r x xs H W
/-- the receiver is a list of the store -/
def dBM (rd : DRM) (dO : DTE) (da : DTA) : DTE := fun env st Q => dO env st fun x st1 => (match x with
  | .ref k => match st1[k]? with
    | some (.lst _) => True
    | _ => False
  | _ => False) ∧ da env st1 fun xs st2 => rd x xs st2 Q
theorem sim_bm [Bs] {K : PySem.W.Frag} {r : V → List V → Hp → VK → Prop} {rd : DRM} {to : TE} {t : TA} {dO : DTE} {da : DTA} (hr : SimRM K r rd) (ho : Sim K to dO) (ha : SimA K t da) : Sim K (tBM K "list" r to t) (dBM rd dO da) := by
  intro ρ env st σ H Q W rs re q w
  refine ho ρ env st σ H _ _ rs re q fun x H1 ⟨ρ1, dx, st1, k1, r1, px, q1⟩ => ?_
  obtain ⟨c, q1⟩ := q1
  refine ⟨?_, ?_⟩
  · cases dx with
    | ref k =>
      obtain ⟨a, h, rfl⟩ := rep_ref px
      dsimp only at c
      split at c
      · rename_i ys e
        obtain ⟨vs, hv, _⟩ := r1.lst h e
        exact .inl ⟨rfl, vs, SqL.of hv⟩
      · exact c.elim
    | _ => exact c.elim
  · refine ha ρ1 env st1 σ H1 _ _ r1 (re.keep k1) q1 fun xs H2 ⟨ρ2, ds, st2, k2, r2, pxs, q2⟩ => ?_
    exact hr ρ2 st2 H2 x dx xs ds Q W r2 (px.keep k2) pxs q2 fun v H' p => w v H' ((p.keep k2).keep k1)
theorem sim_bm0 [Bs] {K : PySem.W.Frag} {r : V → List V → Hp → VK → Prop} {rd : DRM} {to : TE} {dO : DTE} (hr : SimRM K r rd) (ho : Sim K to dO) : Sim K (tBM0 K "list" r to) (dBM rd dO dNil) := by
  intro ρ env st σ H Q W rs re q w
  refine ho ρ env st σ H _ _ rs re q fun x H1 ⟨ρ1, dx, st1, k1, r1, px, q1⟩ => ?_
  obtain ⟨c, q1⟩ := q1
  refine ⟨?_, hr ρ1 st1 H1 x dx [] [] Q W r1 px Reps.nil q1 fun v H' p => w v H' (p.keep k1)⟩
  cases dx with
  | ref k =>
    obtain ⟨a, h, rfl⟩ := rep_ref px
    dsimp only at c
    split at c
    · rename_i ys e
      obtain ⟨vs, hv, _⟩ := r1.lst h e
      exact .inl ⟨rfl, vs, SqL.of hv⟩
    · exact c.elim
  | _ => exact c.elim
section
variable {K : PySem.W.Frag} {ρ : List Addr} {H : Hp} {st : Store} {Q : DQ}
theorem PostE.put [Bs] {k : Nat} {a : Addr} {v : V} {d : D} {vs ws : List V} {xs : List D} (r : RelS K ρ H st) (e : ρ[k]? = some a) (ha : H a = some (.lst vs)) (h : Reps K ρ H xs ws) (hd : Rep K ρ H d v) (q : Q d (st.set k (.lst xs))) : PostE K ρ H Q v (upd H a (.lst ws)) :=
  ⟨ρ, d, _, keep_upd ha, r.put e ha h, hd.keep (keep_upd ha), q⟩
end
def dAppend : DRM := fun x ds st Q => match x, ds with
  | .ref k, [d] => match st[k]? with
    | some (.lst xs) => xs.length < sizeLine ∧ Q .non (st.set k (.lst (xs ++ [d])))
    | _ => False
  | _, _ => False
theorem sim_append [Bs] {K : PySem.W.Frag} : SimRM K rAppend dAppend := by
  intro ρ st H x dx xs dxs Q W rs px pxs q w
  unfold dAppend at q
  split at q
  · obtain ⟨a, ha, rfl⟩ := rep_ref px
    obtain ⟨v, rfl, pv⟩ := pxs.one
    split at q
    · rename_i ys e
      obtain ⟨vs, hv, hr⟩ := rs.lst ha e
      exact ⟨a, vs, v, rfl, rfl, hv, by rw [← hr.len]; exact q.1, w _ _ (.put rs ha hv (hr.app (.cons pv .nil)) .non q.2)⟩
    · exact q.elim
  · exact q.elim
def dExtend : DRM := fun x ds st Q => match x, ds with
  | .ref k, [.ref l] => match st[k]?, st[l]? with
    | some (.lst xs), some (.lst ys) => xs.length + ys.length ≤ sizeLine ∧ Q .non (st.set k (.lst (xs ++ ys)))
    | _, _ => False
  | _, _ => False
theorem sim_extend [Bs] {K : PySem.W.Frag} : SimRM K rExtend dExtend := by
  intro ρ st H x dx xs dxs Q W rs px pxs q w
  unfold dExtend at q
  split at q
  · obtain ⟨a, ha, rfl⟩ := rep_ref px
    obtain ⟨v, rfl, pv⟩ := pxs.one
    obtain ⟨b, hb, rfl⟩ := rep_ref pv
    split at q
    · rename_i xs ys e1 e2
      obtain ⟨vs, hv, hr⟩ := rs.lst ha e1
      obtain ⟨ws, hw, hr2⟩ := rs.lst hb e2
      exact ⟨a, b, vs, ws, rfl, rfl, hv, hw, by rw [← hr.len, ← hr2.len]; exact q.1, w _ _ (.put rs ha hv (hr.app hr2) .non q.2)⟩
    · exact q.elim
  · exact q.elim
def dPop : DRM := fun x ds st Q => match x, ds with
  | .ref k, [] => match st[k]? with
    | some (.lst xs) => match xs[xs.length - 1]? with
      | some d => Q d (st.set k (.lst xs.dropLast))
      | none => False
    | _ => False
  | _, _ => False
theorem sim_pop [Bs] {K : PySem.W.Frag} : SimRM K rPop dPop := by
  intro ρ st H x dx xs dxs Q W rs px pxs q w
  unfold dPop at q
  split at q
  · obtain ⟨a, ha, rfl⟩ := rep_ref px
    have e0 : xs = [] := by unfold Reps at pxs; exact pxs
    subst e0
    split at q
    · rename_i ys e
      obtain ⟨vs, hv, hr⟩ := rs.lst ha e
      split at q
      · rename_i d e2
        obtain ⟨v, hv2, rv⟩ := hr.get e2
        rw [hr.len] at hv2
        exact ⟨a, vs, v, rfl, rfl, hv, hv2, w _ _ (.put rs ha hv hr.dropLast rv q)⟩
      · exact q.elim
    · exact q.elim
  · exact q.elim
def dReverse : DRM := fun x ds st Q => match x, ds with
  | .ref k, [] => match st[k]? with
    | some (.lst xs) => Q .non (st.set k (.lst xs.reverse))
    | _ => False
  | _, _ => False
theorem sim_reverse [Bs] {K : PySem.W.Frag} : SimRM K rReverse dReverse := by
  intro ρ st H x dx xs dxs Q W rs px pxs q w
  unfold dReverse at q
  split at q
  · obtain ⟨a, ha, rfl⟩ := rep_ref px
    have e0 : xs = [] := by unfold Reps at pxs; exact pxs
    subst e0
    split at q
    · rename_i ys e
      obtain ⟨vs, hv, hr⟩ := rs.lst ha e
      exact ⟨a, vs, rfl, rfl, hv, w _ _ (.put rs ha hv hr.rev .non q)⟩
    · exact q.elim
  · exact q.elim
section
variable {X : Cx} {o e : Expr} {es : List Expr} {to : TE} {t : TA} {dO : DTE} {da : DTA} {pos apos : Pos} {name : Str} {id : String} {r : V → List V → Hp → VK → Prop} {rd : DRM}
theorem se_append [Bs] {K : PySem.W.Frag} [hk : HasK X K] (ho : SE X o to dO) (ha : SA X (e :: es) t da) (hbase : attributeBase o "append" X.env (eval o X.env) = eval o X.env := by rfl)
    (hfew : ((backTo pos (starEach (e :: es) X.env)).all (fun x => !x.1) && (backToKw pos (keywordEach [] X.env)).all (fun x => x.1.isSome)
      && decide ((e :: es).length + ([] : List Keyword).length + (if ([] : List Keyword).isEmpty then 0 else 1) < 30)) = true := by rfl)
    (hline : (apos.endLine == pos.line) = true := by rfl) (hs : starEach (e :: es) X.env = (false, eval e X.env) :: starEach es X.env := by rfl) (hplain : (backTo pos (starEach es X.env)).any (·.1) = false := by rfl) :
    SE X (.Call (.Attribute o "append" apos) (e :: es) [] pos) (tBM K "list" rAppend to t) (dBM dAppend dO da) := by
  obtain rfl := hk.eq
  exact ⟨pe_bm PySem.F.plainAttrs_list PySem.F.slot_list_append PySem.F.type_list_append mt_append ho.pe ha.pa hbase hfew hline hs hplain, sim_bm sim_append ho.sim ha.sim⟩
theorem se_extend [Bs] {K : PySem.W.Frag} [hk : HasK X K] (ho : SE X o to dO) (ha : SA X (e :: es) t da) (hbase : attributeBase o "extend" X.env (eval o X.env) = eval o X.env := by rfl)
    (hfew : ((backTo pos (starEach (e :: es) X.env)).all (fun x => !x.1) && (backToKw pos (keywordEach [] X.env)).all (fun x => x.1.isSome)
      && decide ((e :: es).length + ([] : List Keyword).length + (if ([] : List Keyword).isEmpty then 0 else 1) < 30)) = true := by rfl)
    (hline : (apos.endLine == pos.line) = true := by rfl) (hs : starEach (e :: es) X.env = (false, eval e X.env) :: starEach es X.env := by rfl) (hplain : (backTo pos (starEach es X.env)).any (·.1) = false := by rfl) :
    SE X (.Call (.Attribute o "extend" apos) (e :: es) [] pos) (tBM K "list" rExtend to t) (dBM dExtend dO da) := by
  obtain rfl := hk.eq
  exact ⟨pe_bm PySem.F.plainAttrs_list PySem.F.slot_list_extend PySem.F.type_list_extend mt_extend ho.pe ha.pa hbase hfew hline hs hplain, sim_bm sim_extend ho.sim ha.sim⟩
theorem se_pop [Bs] {K : PySem.W.Frag} [hk : HasK X K] (ho : SE X o to dO) (hbase : attributeBase o "pop" X.env (eval o X.env) = eval o X.env := by rfl) (hline : (apos.endLine == pos.line) = true := by rfl) :
    SE X (.Call (.Attribute o "pop" apos) [] [] pos) (tBM0 K "list" rPop to) (dBM dPop dO dNil) := by
  obtain rfl := hk.eq
  exact ⟨pe_bm0 PySem.F.plainAttrs_list PySem.F.slot_list_pop PySem.F.type_list_pop mt_pop ho.pe hbase hline, sim_bm0 sim_pop ho.sim⟩
theorem se_reverse [Bs] {K : PySem.W.Frag} [hk : HasK X K] (ho : SE X o to dO) (hbase : attributeBase o "reverse" X.env (eval o X.env) = eval o X.env := by rfl) (hline : (apos.endLine == pos.line) = true := by rfl) :
    SE X (.Call (.Attribute o "reverse" apos) [] [] pos) (tBM0 K "list" rReverse to) (dBM dReverse dO dNil) := by
  obtain rfl := hk.eq
  exact ⟨pe_bm0 PySem.F.plainAttrs_list PySem.F.slot_list_reverse PySem.F.type_list_reverse mt_reverse ho.pe hbase hline, sim_bm0 sim_reverse ho.sim⟩
end
end DL

namespace DL
open PySem PySem.Spec L2

/-! ### statements. n: so many cells of the store must stay -/
structure DEnds where
  nx : DEnv → Store → Prop
  rt : DQ
  bk : DEnv → Store → Prop := fun _ _ => False
  ct : DEnv → Store → Prop := fun _ _ => False
abbrev DTS := Nat → DEnds → DEnv → Store → Prop
structure EndsOk [Bs] (K : PySem.W.Frag) (ρ : List Addr) (H : Hp) (d : DEnds) (W : Ends) : Prop where
  nx : ∀ σ' H' ρ' env' st', Keep ρ ρ' H H' → RelS K ρ' H' st' → RelE K ρ' H' env' σ' → d.nx env' st' → W.nx σ' H'
  rt : ∀ v H' ρ' x st', Keep ρ ρ' H H' → RelS K ρ' H' st' → Rep K ρ' H' x v → d.rt x st' → W.rt v H'
  bk : ∀ σ' H' ρ' env' st', Keep ρ ρ' H H' → RelS K ρ' H' st' → RelE K ρ' H' env' σ' → d.bk env' st' → W.bk σ' H'
  ct : ∀ σ' H' ρ' env' st', Keep ρ ρ' H H' → RelS K ρ' H' st' → RelE K ρ' H' env' σ' → d.ct env' st' → W.ct σ' H'
  bn : Bs.n ≤ ρ.length
def SimS [Bs] (K : PySem.W.Frag) (t : TS) (ts : DTS) : Prop := ∀ n ρ env st σ H (d : DEnds) (W : Ends), n ≤ ρ.length → RelS K ρ H st → RelE K ρ H env σ → ts n d env st → EndsOk K (ρ.take n) H d W → t W σ H
structure SS [Bs] (X : Cx) (s : Stmt) (t : TS) (ts : DTS) : Prop where
  ps : PS X s t
  sim : SimS X.K t ts
structure SSs [Bs] (X : Cx) (s : List Stmt) (t : TS) (ts : DTS) : Prop where
  pss : PSs X s t
  sim : SimS X.K t ts
section
variable {K : PySem.W.Frag} {ρ ρ' : List Addr} {H H' : Hp} {d : DEnds} {W : Ends} {n m : Nat}
theorem Keep.take (k : Keep ρ ρ' H H') (n : Nat) : Keep (ρ.take n) ρ' H H' := by
  obtain ⟨t, rfl⟩ := k.pre
  refine ⟨⟨ρ.drop n ++ t, ?_⟩, k.tups, k.frzs, k.xds⟩
  rw [← List.append_assoc, List.take_append_drop]
theorem Keep.take2 (k : Keep ρ ρ' H H') (hn : n ≤ ρ.length) : Keep (ρ.take n) (ρ'.take n) H H' := by
  obtain ⟨t, rfl⟩ := k.pre
  refine ⟨⟨[], ?_⟩, k.tups, k.frzs, k.xds⟩
  rw [List.append_nil, List.take_append_of_le_length hn]
theorem Keep.len (k : Keep ρ ρ' H H') : ρ.length ≤ ρ'.length := by
  obtain ⟨t, rfl⟩ := k.pre
  rw [List.length_append]
  omega
theorem EndsOk.adv [Bs] (e : EndsOk K ρ H d W) (k : Keep ρ ρ' H H') : EndsOk K ρ' H' d W :=
  ⟨fun σ' H2 ρ2 env' st' k2 => e.nx σ' H2 ρ2 env' st' (k.trans k2), fun v H2 ρ2 x st' k2 => e.rt v H2 ρ2 x st' (k.trans k2),
    fun σ' H2 ρ2 env' st' k2 => e.bk σ' H2 ρ2 env' st' (k.trans k2), fun σ' H2 ρ2 env' st' k2 => e.ct σ' H2 ρ2 env' st' (k.trans k2), Nat.le_trans e.bn k.len⟩
/-- behind an expression -/
theorem EndsOk.go [Bs] (e : EndsOk K (ρ.take n) H d W) (k : Keep ρ ρ' H H') (hn : n ≤ ρ.length) : EndsOk K (ρ'.take n) H' d W := e.adv (k.take2 hn)
theorem Keep.of_take (hn : n ≤ ρ.length) : Keep (ρ.take n) ρ H H := (Keep.refl (ρ := ρ) (H := H)).take n
end

def dNext : DTS := fun _ d env st => d.nx env st
def dSeq (t u : DTS) : DTS := fun n d env st => t n { d with nx := u n d } env st
section
variable {X : Cx} {st : Stmt} {rest : List Stmt} {t u : TS} {ts us : DTS} {e : Expr} {te : TE} {de : DTE} {pos : Pos}
theorem sim_next [Bs] {K : PySem.W.Frag} : SimS K tNext dNext := fun n ρ env st σ H d W hn rs re q w => w.nx σ H ρ env st (Keep.of_take hn) rs re q
theorem sss_nil [Bs] : SSs X [] tNext dNext := ⟨pss_nil, sim_next⟩
theorem sim_seq [Bs] {K : PySem.W.Frag} {t u : TS} {ts us : DTS} (h1 : SimS K t ts) (h2 : SimS K u us) : SimS K (tSeq t u) (dSeq ts us) := by
  intro n ρ env st σ H d W hn rs re q w
  refine h1 n ρ env st σ H _ _ hn rs re q ⟨fun σ' H' ρ' env' st' k rs' re' q' => ?_, w.rt, w.bk, w.ct, w.bn⟩
  have hl : n ≤ ρ'.length := by
    have := k.len
    rw [List.length_take] at this
    omega
  refine h2 n ρ' env' st' σ' H' d W hl rs' re' q' ?_
  have e : ρ'.take n = ρ.take n := by
    obtain ⟨t, rfl⟩ := k.pre
    rw [List.take_append_of_le_length (by rw [List.length_take]; omega), List.take_take, Nat.min_self]
  rw [e]
  exact w.adv ⟨⟨[], by simp⟩, k.tups, k.frzs, k.xds⟩
theorem sss_cons [Bs] (h1 : SS X st t ts) (h2 : SSs X rest u us) : SSs X (st :: rest) (tSeq t u) (dSeq ts us) := ⟨pss_cons h1.ps h2.pss, sim_seq h1.sim h2.sim⟩
theorem sss_one [Bs] (h1 : SS X st t ts) : SSs X [st] t ts := ⟨pss_one h1.ps, h1.sim⟩
def dBreak : DTS := fun _ d env st => d.bk env st
def dCont : DTS := fun _ d env st => d.ct env st
theorem ss_pass [Bs] : SS X (.Pass pos) tNext dNext := ⟨ps_pass, sim_next⟩
theorem ss_break [Bs] : SS X (.Break pos) tBreak dBreak := ⟨ps_break, fun n ρ env st σ H d W hn rs re q w => w.bk σ H ρ env st (Keep.of_take hn) rs re q⟩
theorem ss_continue [Bs] : SS X (.Continue pos) tCont dCont := ⟨ps_continue, fun n ρ env st σ H d W hn rs re q w => w.ct σ H ρ env st (Keep.of_take hn) rs re q⟩
def dDrop (de : DTE) : DTS := fun _ d env st => de env st fun _ st1 => d.nx env st1
theorem ss_expr [Bs] (he : SE X e te de) (hs : swapsWith e none pos.line X.env = pure false := by rfl) : SS X (.Expr e pos) (tDrop te) (dDrop de) := by
  refine ⟨ps_expr he.pe hs, fun n ρ env st σ H d W hn rs re q w => ?_⟩
  exact he.sim ρ env st σ H _ _ rs re q fun v H1 ⟨ρ1, dx, st1, k1, r1, px, q1⟩ => w.nx σ H1 ρ1 env st1 (k1.take n) r1 (re.keep k1) q1
def dRet (de : DTE) : DTS := fun _ d env st => de env st d.rt
theorem ss_ret [Bs] (he : SE X e te de) : SS X (.Return (some e) pos) (tRet te) (dRet de) := by
  refine ⟨ps_ret he.pe, fun n ρ env st σ H d W hn rs re q w => ?_⟩
  exact he.sim ρ env st σ H _ _ rs re q fun v H1 ⟨ρ1, dx, st1, k1, r1, px, q1⟩ => w.rt v H1 ρ1 dx st1 (k1.take n) r1 px q1
def dRetN : DTS := fun _ d _ st => d.rt .non st
theorem ss_retN [Bs] : SS X (.Return none pos) tRetN dRetN := ⟨ps_retN, fun n ρ env st σ H d W hn rs re q w => w.rt .non H ρ .non st (Keep.of_take hn) rs .non q⟩
def dIfS (c : DTT) (t u : DTS) : DTS := fun n d env st => c env st fun b st1 => if b = true then t n d env st1 else u n d env st1
theorem ss_if [Bs] {c : Expr} {a b : List Stmt} {tc : TT} {dc : DTT} (hc : ST X c tc dc) (ha : SSs X a t ts) (hb : SSs X b u us) : SS X (.If c a b pos) (tIfS tc t u) (dIfS dc ts us) := by
  refine ⟨ps_if hc.pt ha.pss hb.pss, fun n ρ env st σ H d W hn rs re q w => ?_⟩
  refine hc.sim ρ env st σ H _ _ rs re q fun c H1 ⟨ρ1, st1, k1, r1, q1⟩ => ?_
  have hl : n ≤ ρ1.length := Nat.le_trans hn k1.len
  cases c with
  | true =>
    rw [if_pos rfl] at q1 ⊢
    exact ha.sim n ρ1 env st1 σ H1 d W hl r1 (re.keep k1) q1 (w.go k1 hn)
  | false =>
    rw [if_neg Bool.false_ne_true] at q1 ⊢
    exact hb.sim n ρ1 env st1 σ H1 d W hl r1 (re.keep k1) q1 (w.go k1 hn)
theorem ss_never [Bs] {s : Stmt} : SS X s tNever (fun _ _ _ _ => False) := ⟨ps_never, fun n ρ env st σ H d W hn rs re q w => q.elim⟩
end

/-! ### targets -/
abbrev DTG := D → DEnv → Store → (DEnv → Store → Prop) → Prop
abbrev DTGs := List D → DEnv → Store → (DEnv → Store → Prop) → Prop
def SimG [Bs] (K : PySem.W.Frag) (g : TG) (dg : DTG) : Prop := ∀ ρ env st σ H x dx (Q : DEnv → Store → Prop) (W : L2.St → Hp → Prop), RelS K ρ H st → RelE K ρ H env σ → Rep K ρ H dx x → dg dx env st Q →
  (∀ σ' H' ρ' env' st', Keep ρ ρ' H H' → RelS K ρ' H' st' → RelE K ρ' H' env' σ' → Q env' st' → W σ' H') → g x σ H W
def SimGs [Bs] (K : PySem.W.Frag) (g : TGs) (dg : DTGs) : Prop := ∀ ρ env st σ H xs dxs (Q : DEnv → Store → Prop) (W : L2.St → Hp → Prop), RelS K ρ H st → RelE K ρ H env σ → Reps K ρ H dxs xs → dg dxs env st Q →
  (∀ σ' H' ρ' env' st', Keep ρ ρ' H H' → RelS K ρ' H' st' → RelE K ρ' H' env' σ' → Q env' st' → W σ' H') → g xs σ H W
structure SG [Bs] (X : Cx) (e : Expr) (g : TG) (dg : DTG) : Prop where
  pg : PG X e g
  sim : SimG X.K g dg
structure SGs [Bs] (X : Cx) (e : List Expr) (g : TGs) (dg : DTGs) : Prop where
  pgs : PGs X e g
  sim : SimGs X.K g dg
def dgName (i : Nat) : DTG := fun x env st Q => Q (env.set i (some x)) st
def dgNil : DTGs := fun xs env st Q => match xs with
  | [] => Q env st
  | _ => False
def dgCons (t : DTG) (u : DTGs) : DTGs := fun xs env st Q => match xs with
  | x :: r => t x env st fun env' st' => u r env' st' Q
  | [] => False
def dgTup (n : Nat) (t : DTGs) : DTG := fun x env st Q => match x with
  | .tup xs => xs.length = n ∧ t xs env st Q
  | _ => False
/-- o[i] = v, o a list of the store -/
def dSetIx (st : Store) (o : D) (i : Int) (v : D) : Option Store := match o with
  | .ref k => match st[k]? with
    | some (.lst xs) => (ixN xs.length i).map fun j => st.set k (.lst (xs.set j v))
    | _ => none
  | _ => none
def dgSub (dO di : DTE) : DTG := fun x env st Q => dO env st fun o st1 => di env st1 fun i st2 => match i with
  | .int z => match dSetIx st2 o z x with
    | some st3 => Q env st3
    | none => False
  | _ => False
section
variable {X : Cx} {pos : Pos}
theorem sim_gname [Bs] {K : PySem.W.Frag} {i : Nat} : SimG K (gName i) (dgName i) := fun ρ env st σ H x dx Q W rs re px q w => w _ H ρ _ st Keep.refl rs (re.set i px) q
theorem sg_name [Bs] {i : Nat} {x : Str} (hN : X.N.Nodup) (hi : X.N[i]? = some x) (hx : Loc X.env.scope x) (hf : X.fn x = true ∨ X.env.scope.names.lookup x = some .local := by first | exact .inl rfl | exact .inr rfl | assumption) : SG X (.Name x pos) (gName i) (dgName i) := ⟨pg_name hN hi hx hf, sim_gname⟩
theorem sgs_nil [Bs] : SGs X [] gNil dgNil := by
  refine ⟨pgs_nil, fun ρ env st σ H xs dxs Q W rs re px q w => ?_⟩
  cases dxs with
  | nil => exact ⟨by unfold Reps at px; exact px, w σ H ρ env st Keep.refl rs re q⟩
  | cons _ _ => exact q.elim
theorem sgs_cons [Bs] {e : Expr} {es : List Expr} {t : TG} {u : TGs} {dt : DTG} {du : DTGs} (h1 : SG X e t dt) (h2 : SGs X es u du) (hs : (assignEach (e :: es) X.env).map (·.2) = assign e X.env :: (assignEach es X.env).map (·.2) := by rfl) : SGs X (e :: es) (gCons t u) (dgCons dt du) := by
  refine ⟨pgs_cons h1.pg h2.pgs hs, fun ρ env st σ H xs dxs Q W rs re px q w => ?_⟩
  cases dxs with
  | nil => exact q.elim
  | cons x r =>
    unfold Reps at px
    obtain ⟨v, vr, rfl, p1, p2⟩ := px
    refine ⟨v, vr, rfl, h1.sim ρ env st σ H v x _ _ rs re p1 q fun σ' H' ρ' env' st' k rs' re' q' => ?_⟩
    exact h2.sim ρ' env' st' σ' H' vr r Q W rs' re' (p2.keep k) q' fun σ2 H2 ρ2 env2 st2 k2 => w σ2 H2 ρ2 env2 st2 (k.trans k2)
theorem sg_tup [Bs] {K : PySem.W.Frag} [hk : HasK X K] {es : List Expr} {k : Nat} {t : TGs} {n : Nat} {dt : DTGs} (hc : X.calm = true) (h : SGs X es t dt) (hn : (assignEach es X.env).length = n := by rfl) (hst : (assignEach es X.env).findIdx? (·.1) = none := by rfl) : SG X (.Tuple es k pos) (gTup K n t) (dgTup n dt) := by
  obtain rfl := hk.eq
  refine ⟨pg_tup hc h.pgs hn hst, fun ρ env st σ H x dx Q W rs re px q w => ?_⟩
  cases dx with
  | tup xs =>
    obtain ⟨a, vs, rfl, hs, hr⟩ := rep_tup px
    exact ⟨a, vs, rfl, hs, by rw [← hr.len]; exact q.1, h.sim ρ env st σ H vs xs Q W rs re hr q.2 w⟩
  | _ => exact q.elim
theorem sg_sub [Bs] {o i : Expr} {to ti : TE} {dO di : DTE} (ho : SE X o to dO) (hi : SE X i ti di)
    (ha : ∀ v, assign (.Subscript o i pos) X.env v = (do
      let ov ← holding [v] (eval o X.env)
      let iv ← holding [v, ov] (eval i X.env)
      standAt pos
      holding [v, ov, iv] (setItem ov iv v)
      release [v, ov, iv] []) := by intro _; rfl) : SG X (.Subscript o i pos) (gSub to ti rSetL) (dgSub dO di) := by
  refine ⟨pg_sub ho.pe hi.pe set_list ha, fun ρ env st σ H x dx Q W rs re px q w => ?_⟩
  refine ho.sim ρ env st σ H _ _ rs re q fun ov H1 ⟨ρ1, d1, st1, k1, r1, p1, q1⟩ => ?_
  refine hi.sim ρ1 env st1 σ H1 _ _ r1 (re.keep k1) q1 fun iv H2 ⟨ρ2, d2, st2, k2, r2, p2, q2⟩ => ?_
  cases d2 with
  | int z =>
    obtain rfl := rep_int p2
    dsimp only at q2
    split at q2
    · rename_i st3 e
      unfold dSetIx at e
      split at e
      · obtain ⟨a, ha, rfl⟩ := rep_ref (p1.keep k2)
        split at e
        · rename_i xs e2
          obtain ⟨j, hj, rfl⟩ := Option.map_eq_some_iff.mp e
          obtain ⟨vs, hv, hr⟩ := r2.lst ha e2
          have px2 := (px.keep k1).keep k2
          have hr2 := hr.set (d := dx) (v := x) j px2
          refine ⟨a, vs, z, j, rfl, rfl, hv, by rw [← hr.len]; exact hj, ?_⟩
          have kk := keep_upd (ρ := ρ2) (ws := vs.set j x) hv
          exact w σ _ ρ2 env _ ((k1.trans k2).trans kk) (r2.put ha hv hr2) (((re.keep k1).keep k2).keep kk) q2
        · cases e
      · cases e
    · exact q2.elim
  | _ => exact q2.elim
end
def dAsg (de : DTE) (dg : DTG) : DTS := fun _ d env st => de env st fun x st1 => dg x env st1 d.nx
def dSet (i : Nat) (de : DTE) : DTS := fun _ d env st => de env st fun x st1 => d.nx (env.set i (some x)) st1
theorem sim_asg [Bs] {K : PySem.W.Frag} {te : TE} {de : DTE} {g : TG} {dg : DTG} (he : Sim K te de) (hg : SimG K g dg) : SimS K (tAsg te g) (dAsg de dg) := by
  intro n ρ env st σ H d W hn rs re q w
  refine he ρ env st σ H _ _ rs re q fun v H1 ⟨ρ1, dx, st1, k1, r1, px, q1⟩ => ?_
  exact hg ρ1 env st1 σ H1 v dx d.nx W.nx r1 (re.keep k1) px q1 fun σ' H' ρ' env' st' k => w.nx σ' H' ρ' env' st' ((k1.trans k).take n)
section
variable {X : Cx} {pos : Pos}
theorem ss_asg [Bs] {tg e : Expr} {te : TE} {g : TG} {de : DTE} {dg : DTG} (he : SE X e te de) (hg : SG X tg g dg) (hs : swapsWithSole [tg] e pos.line X.env = pure false := by rfl) (hw : swappedStores [tg] e X.env = pure none := by rfl)
    (h1 : (assignEach [tg] X.env).map (·.2) = [assign tg X.env] := by rfl) : SS X (.Assign [tg] e pos) (tAsg te g) (dAsg de dg) := ⟨ps_asg he.pe hg.pg hs hw h1, sim_asg he.sim hg.sim⟩
theorem ss_set [Bs] {i : Nat} {x : Str} {e : Expr} {te : TE} {de : DTE} {pos' : Pos} (hN : X.N.Nodup) (hi : X.N[i]? = some x) (hx : Loc X.env.scope x) (he : SE X e te de) (hs : swapsWith e (some (.Name x pos')) pos.line X.env = pure false := by rfl) (hf : X.fn x = true ∨ X.env.scope.names.lookup x = some .local := by first | exact .inl rfl | exact .inr rfl | assumption) :
    SS X (.Assign [.Name x pos'] e pos) (tAsg te (gName i)) (dSet i de) := ⟨ps_set hN hi hx he.pe hs hf, sim_asg he.sim sim_gname⟩
/-- a, b = x, y -/
def dPar (i j : Nat) (da : DTA) : DTS := fun _ d env st => da env st fun xs st1 => match xs with
  | [x, y] => d.nx ((env.set i (some x)).set j (some y)) st1
  | _ => False
theorem ss_par [Bs] {i j : Nat} {x y : Str} {a b : Expr} {ta : TA} {da : DTA} {px py pt : Pos} {kt k2 pt2} (hc : X.calm = true) (hN : X.N.Nodup) (hi : X.N[i]? = some x) (hj : X.N[j]? = some y) (hij : i ≠ j)
    (hx : X.env.scope.names.lookup x = some .local) (hy : X.env.scope.names.lookup y = some .local) (ha : SA X [a, b] ta da)
    (hw : swappedStores [.Tuple [.Name x px, .Name y py] kt pt] (.Tuple [a, b] k2 pt2) X.env = pure (some [x, y]))
    (hs : swapsWithSole [.Tuple [.Name x px, .Name y py] kt pt] (.Tuple [a, b] k2 pt2) pos.line X.env = pure false := by rfl) :
    SS X (.Assign [.Tuple [.Name x px, .Name y py] kt pt] (.Tuple [a, b] k2 pt2) pos) (tPar i j ta) (dPar i j da) := by
  refine ⟨ps_par hc hN hi hj hij hx hy ha.pa hw hs, fun n ρ env st σ H d W hn rs re q w => ?_⟩
  refine ha.sim ρ env st σ H _ _ rs re q fun vs H1 ⟨ρ1, ds, st1, k1, r1, px, q1⟩ => ?_
  dsimp only at q1
  split at q1
  · obtain ⟨v, u, rfl, p1, p2⟩ := px.two
    exact ⟨v, u, rfl, w.nx _ H1 ρ1 _ st1 (k1.take n) r1 (((re.keep k1).set i p1).set j p2) q1⟩
  · exact q1.elim
/-- name op= e -/
structure SIp [Bs] (X : Cx) (op : Operator) (r : TIp) (rd : DR2) : Prop where
  ip : PIp X op r
  sim : SimR2 X.K r rd
def dAug (i : Nat) (de : DTE) (rd : DR2) : DTS := fun _ d env st => match env[i]? with
  | some (some x) => de env st fun y st1 => rd x y st1 fun z st2 => d.nx (env.set i (some z)) st2
  | _ => False
theorem ss_aug [Bs] {i : Nat} {x : Str} {e : Expr} {te : TE} {de : DTE} {op : Operator} {ti : TIp} {rd : DR2} {pos' : Pos} (hN : X.N.Nodup) (hi : X.N[i]? = some x) (hx : Loc X.env.scope x) (he : SE X e te de) (ho : SIp X op ti rd) (hf : X.fn x = true ∨ X.env.scope.names.lookup x = some .local := by first | exact .inl rfl | exact .inr rfl | assumption) :
    SS X (.AugAssign (.Name x pos') op e pos) (tAug i te ti) (dAug i de rd) := by
  refine ⟨ps_aug hN hi hx he.pe ho.ip hf, fun n ρ env st σ H d W hn rs re q w => ?_⟩
  unfold dAug at q
  split at q
  · rename_i dx e1
    obtain ⟨v, e2, px⟩ := re.get i dx e1
    refine ⟨v, e2, he.sim ρ env st σ H _ _ rs re q fun y H1 ⟨ρ1, dy, st1, k1, r1, py, q1⟩ => ?_⟩
    refine ho.sim ρ1 st1 H1 v y dx dy _ _ r1 (px.keep k1) py q1 fun z H2 ⟨ρ2, dz, st2, k2, r2, pz, q2⟩ => ?_
    exact w.nx _ H2 ρ2 _ st2 ((k1.trans k2).take n) r2 (((re.keep k1).keep k2).set i pz) q2
  · exact q.elim
theorem si_add [Bs] : SIp X .Add (ipI fun i j => i + j) (dI0 fun i j => .int (i + j)) := ⟨ip_add, sim_i0⟩
theorem si_sub [Bs] : SIp X .Sub (ipI fun i j => i - j) (dI0 fun i j => .int (i - j)) := ⟨ip_sub, sim_i0⟩
end

/-! ### what is walked -/
structure WalksD [Bs] (K : PySem.W.Frag) (ρ : List Addr) (H : Hp) (J : It) (items : List D) (ok : Store → Prop) : Prop where
  go : ∀ i ρ' H' st', i < items.length → Keep ρ ρ' H H' → RelS K ρ' H' st' → ok st' → J.go i H'
  yld : ∀ i x ρ' H' H2 st', i < items.length → Keep ρ ρ' H H' → RelS K ρ' H' st' → ok st' → J.yld i H' x H2 → Same H' H2 ∧ ∃ d, items[i]? = some d ∧ Rep K ρ' H2 d x
  stop : ∀ i ρ' H' st', items.length ≤ i → Keep ρ ρ' H H' → RelS K ρ' H' st' → ok st' → J.stop i H'
abbrev DTI := DEnv → Store → (List D → (Store → Prop) → Store → Prop) → Prop
def SimI [Bs] (K : PySem.W.Frag) (wi : TI) (di : DTI) : Prop := ∀ ρ env st σ H (R : List D → (Store → Prop) → Store → Prop) (W : It → Hp → Prop), RelS K ρ H st → RelE K ρ H env σ → di env st R →
  (∀ J H' ρ' items ok st', Keep ρ ρ' H H' → RelS K ρ' H' st' → WalksD K ρ' H' J items ok → R items ok st' → W J H') → wi σ H W
structure SI [Bs] (X : Cx) (tg e : Expr) (wi : TI) (di : DTI) : Prop where
  pi : PI X tg e wi
  sim : SimI X.K wi di
theorem same_keep {ρ : List Addr} {H H' : Hp} (s : Same H H') : Keep ρ ρ H H' := ⟨⟨[], by simp⟩, fun a xs h => s a _ h, fun a o u h => s a _ h, fun a fs h => s a _ h⟩
theorem RelS.same [Bs] {K : PySem.W.Frag} {ρ : List Addr} {H H' : Hp} {st : Store} (r : RelS K ρ H st) (s : Same H H') : RelS K ρ H' st :=
  ⟨r.len, r.nd, fun k o e => let ⟨a, e2, q⟩ := r.ob k o e; ⟨a, e2, repO_keep q (same_keep s) fun u h => s a u h⟩, Bs.kl (same_keep s) r.bs⟩
/-- a list, a tuple or a text is walked -/
def okOf (x : D) (items : List D) : Store → Prop := fun st => match x with
  | .ref k => st[k]? = some (.lst items)
  | _ => True
def dItems (st : Store) (x : D) : Option (List D) := match x with
  | .tup xs => some xs
  | .rol xs => some xs
  | .ref k => match st[k]? with
    | some (.lst xs) => some xs
    | _ => none
  | .str z => some (z.cps.toList.map fun c => D.str ⟨#[c]⟩)
  | _ => none
def dIter (de : DTE) : DTI := fun env st R => de env st fun x st1 => match dItems st1 x with
  | some items => R items (okOf x items) st1
  | none => False
def dIterRev (de : DTE) : DTI := fun env st R => de env st fun x st1 => match x with
  | .str _ => False
  | _ => match dItems st1 x with
    | some items => R items.reverse (okOf x items) st1
    | none => False
def iSeq (K : PySem.W.Frag) (te : TE) : TI := fun σ H R => te σ H fun x H1 => (∃ a, x = .ref a ∧ ((∃ xs, SqL K H1 a xs) ∧ R (Itl K a) H1 ∨ (∃ xs, SqT K H1 a xs) ∧ R (Itt K a) H1)) ∨ ∃ z, x = .str z ∧ R (Its z) H1
theorem pi_seq {X : Cx} {tg l : Expr} {tl : TE} (hl : PE X l tl) : PI X tg l (iSeq X.K tl) := by
  refine ⟨fun pins s σ H R I h => ?_⟩
  refine thn (hl.run pins s σ H _ I h) fun v s1 ⟨x, H1, I1, r1, q1⟩ => ?_
  rcases q1 with ⟨a, rfl, ⟨⟨xs, hq⟩, q⟩ | ⟨⟨xs, hq⟩, q⟩⟩ | ⟨z, rfl, q⟩
  · cases r1
    obtain ⟨its, rv, p, hz⟩ := I1.list hq
    refine PySem.wpAny_pyIter_list p.isList ?_
    refine ⟨s1.heap.objs.size, [s1.heap.objs.size], _, _, H1, rfl, I1.kept (t' := s1.toks) fun b o e => Heap.get?_push_of_some _ e, turn_list a _, ⟨_, Heap.get?_push_size _ rfl, rfl, rfl⟩, fun b hb => ?_, q⟩
    have e : b = s1.heap.objs.size := by simpa using hb
    subst e
    exact I1.fpOk (Nat.le_refl _) (I1.hok.fresh (Nat.le_refl _))
  · cases r1
    obtain ⟨its, rv, p, hz⟩ := I1.tuple hq
    refine PySem.wpAny_pyIter_tuple (show s1.heap.IsTuple a its.toArray from p) ?_
    refine ⟨s1.heap.objs.size, [s1.heap.objs.size], _, _, H1, rfl, I1.kept (t' := s1.toks) fun b o e => Heap.get?_push_of_some _ e, turn_tuple a _, ⟨_, Heap.get?_push_size _ rfl, rfl, rfl⟩, fun b hb => ?_, q⟩
    have e : b = s1.heap.objs.size := by simpa using hb
    subst e
    exact I1.fpOk (Nat.le_refl _) (I1.hok.fresh (Nat.le_refl _))
  · obtain ⟨t, rfl⟩ := r1
    cases ha : z.cps.all (· < 128)
    · exact wpAny_pyIter_wide ha (pi_one (tk := s1.toks) I1 _ (turn_str _ z t "str_iterator" (.inr rfl)) ⟨_, Heap.get?_push_size _ rfl, rfl, rfl⟩ q)
    · exact wpAny_pyIter_ascii ha (pi_one (tk := s1.toks) I1 _ (turn_str _ z t "str_ascii_iterator" (.inl rfl)) ⟨_, Heap.get?_push_size _ rfl, rfl, rfl⟩ q)
section
variable {K : PySem.W.Frag} {ρ : List Addr} {H : Hp}
/-- where the walked list stands at each turn: items by a rule -/
theorem walks_at [Bs] {a : Addr} {x : D} {items : List D} {st : Store} (r : RelS K ρ H st) (px : Rep K ρ H x (.ref a)) (e : dItems st x = some items) (hx : ∀ z, x ≠ .str z) :
    (∃ vs, SqL K H a vs ∧ ∀ ρ' H' st', Keep ρ ρ' H H' → RelS K ρ' H' st' → okOf x items st' → ∃ vs', SqL K H' a vs' ∧ Reps K ρ' H' items vs') ∨
    (∃ vs, SqT K H a vs ∧ ∀ ρ' H' st', Keep ρ ρ' H H' → RelS K ρ' H' st' → okOf x items st' → ∃ vs', SqT K H' a vs' ∧ Reps K ρ' H' items vs') := by
  cases x with
  | tup xs =>
    cases e
    obtain ⟨b, vs, e2, hs, hr⟩ := rep_tup px
    cases e2
    exact .inr ⟨vs, hs, fun ρ' H' st' k _ _ => ⟨vs, k.sqt hs, hr.keep k⟩⟩
  | rol xs =>
    cases e
    obtain ⟨b, vs, e2, hs, hr⟩ := rep_rol px
    cases e2
    exact .inl ⟨vs, sqf_l hs, fun ρ' H' st' k _ _ => ⟨vs, sqf_l (k.sqf hs), hr.keep k⟩⟩
  | ref n =>
    obtain ⟨b, hb, e2⟩ := rep_ref px
    cases e2
    unfold dItems at e
    dsimp only at e
    split at e
    · rename_i xs e3
      cases e
      obtain ⟨vs, hv, hr⟩ := r.lst hb e3
      refine .inl ⟨vs, SqL.of hv, fun ρ' H' st' k rs' ok => ?_⟩
      obtain ⟨ws, hw, hr2⟩ := rs'.lst (k.get hb) ok
      exact ⟨ws, SqL.of hw, hr2⟩
    · cases e
  | str z => exact absurd rfl (hx z)
  | _ => cases e
theorem sim_iter [Bs] {tl : TE} {de : DTE} (h : Sim K tl de) : SimI K (iSeq K tl) (dIter de) := by
  intro ρ env st σ H R W rs re q w
  refine h ρ env st σ H _ _ rs re q fun x H1 ⟨ρ1, dx, st1, k1, r1, px, q1⟩ => ?_
  dsimp only at q1
  split at q1
  · rename_i items e
    by_cases hx : ∃ z, dx = .str z
    · obtain ⟨z, rfl⟩ := hx
      obtain rfl := rep_str px
      cases e
      refine .inr ⟨z, rfl, w (Its z) H1 ρ1 _ _ st1 k1 r1 ⟨fun i ρ' H' st' hi _ _ _ => ?_, fun i x ρ' H' H2 st' hi k r _ y => ?_, fun i ρ' H' st' hi _ _ _ => ?_⟩ q1⟩
      · rw [List.length_map, Array.length_toList] at hi
        exact hi
      · obtain ⟨rfl, c, hc, rfl⟩ := y
        exact ⟨Same.refl _, .str ⟨#[c]⟩, by rw [List.getElem?_map, Array.getElem?_toList, hc]; rfl, .str _⟩
      · rw [List.length_map, Array.length_toList] at hi
        exact hi
    · have hx' : ∀ z, dx ≠ .str z := fun z e => hx ⟨z, e⟩
      have hv : ∃ a, x = .ref a := by
        cases dx with
        | tup xs => obtain ⟨a, vs, rfl, _⟩ := rep_tup px; exact ⟨a, rfl⟩
        | rol xs => obtain ⟨a, vs, rfl, _⟩ := rep_rol px; exact ⟨a, rfl⟩
        | ref xs => obtain ⟨a, _, rfl⟩ := rep_ref px; exact ⟨a, rfl⟩
        | str z => exact absurd rfl (hx' z)
        | _ => cases e
      obtain ⟨a, rfl⟩ := hv
      rcases walks_at r1 px e hx' with ⟨vs, hs, at_⟩ | ⟨vs, hs, at_⟩
      · refine .inl ⟨a, rfl, .inl ⟨⟨vs, hs⟩, w (Itl K a) H1 ρ1 _ _ st1 k1 r1 ⟨fun i ρ' H' st' hi k r ok => ?_, fun i x ρ' H' H2 st' hi k r ok y => ?_, fun i ρ' H' st' hi k r ok => ?_⟩ q1⟩⟩
        · obtain ⟨ws, hw, hr⟩ := at_ ρ' H' st' k r ok
          exact ⟨ws, ws[i]'(by rw [← hr.len]; exact hi), hw, List.getElem?_eq_getElem _⟩
        · obtain ⟨ws, hw, hr⟩ := at_ ρ' H' st' k r ok
          obtain ⟨rfl, hy⟩ := y
          obtain ⟨d, hd, rd⟩ := hr.get2 (hy ws hw)
          exact ⟨Same.refl _, d, hd, rd⟩
        · obtain ⟨ws, hw, hr⟩ := at_ ρ' H' st' k r ok
          exact ⟨ws, hw, by rw [← hr.len]; exact hi⟩
      · refine .inl ⟨a, rfl, .inr ⟨⟨vs, hs⟩, w (Itt K a) H1 ρ1 _ _ st1 k1 r1 ⟨fun i ρ' H' st' hi k r ok => ?_, fun i x ρ' H' H2 st' hi k r ok y => ?_, fun i ρ' H' st' hi k r ok => ?_⟩ q1⟩⟩
        · obtain ⟨ws, hw, hr⟩ := at_ ρ' H' st' k r ok
          exact ⟨ws, ws[i]'(by rw [← hr.len]; exact hi), hw, List.getElem?_eq_getElem _⟩
        · obtain ⟨ws, hw, hr⟩ := at_ ρ' H' st' k r ok
          obtain ⟨rfl, hy⟩ := y
          obtain ⟨d, hd, rd⟩ := hr.get2 (hy ws hw)
          exact ⟨Same.refl _, d, hd, rd⟩
        · obtain ⟨ws, hw, hr⟩ := at_ ρ' H' st' k r ok
          exact ⟨ws, hw, by rw [← hr.len]; exact hi⟩
  · exact q1.elim
theorem sim_iterRev [Bs] {tl : TE} {de : DTE} (h : Sim K tl de) : SimI K (RT.iRevA K tl) (dIterRev de) := by
  intro ρ env st σ H R W rs re q w
  refine h ρ env st σ H _ _ rs re q fun x H1 ⟨ρ1, dx, st1, k1, r1, px, q1⟩ => ?_
  have hx' : ∀ z, dx ≠ .str z := fun z e => by subst e; exact q1
  have q1' : match dItems st1 dx with
    | some items => R items.reverse (okOf dx items) st1
    | none => False := by
    cases dx with
    | str z => exact absurd rfl (hx' z)
    | _ => exact q1
  split at q1'
  · rename_i items e
    have hv : ∃ a, x = .ref a := by
      cases dx with
      | tup xs => obtain ⟨a, vs, rfl, _⟩ := rep_tup px; exact ⟨a, rfl⟩
      | rol xs => obtain ⟨a, vs, rfl, _⟩ := rep_rol px; exact ⟨a, rfl⟩
      | ref xs => obtain ⟨a, _, rfl⟩ := rep_ref px; exact ⟨a, rfl⟩
      | str z => exact absurd rfl (hx' z)
      | _ => cases e
    obtain ⟨a, rfl⟩ := hv
    have ok1 : okOf dx items st1 := by
      cases dx with
      | ref n =>
        unfold dItems at e
        dsimp only at e
        split at e
        · rename_i xs e3
          cases e
          exact e3
        · cases e
      | _ => trivial
    have rget : ∀ {ws : List V} {i : Nat} {x : V} {ρ' : List Addr} {H' : Hp}, Reps K ρ' H' items ws → i < ws.length → ws[ws.length - 1 - i]? = some x → ∃ d, items.reverse[i]? = some d ∧ Rep K ρ' H' d x := fun {ws i x ρ' H'} hr hi hx => by
      obtain ⟨d, hd, rd⟩ := hr.get2 hx
      refine ⟨d, ?_, rd⟩
      rw [List.getElem?_reverse (by rw [hr.len]; exact hi), hr.len]
      exact hd
    rcases walks_at r1 px e hx' with ⟨vs, hs, at_⟩ | ⟨vs, hs, at_⟩
    · obtain ⟨us, hu, ru⟩ := at_ ρ1 H1 st1 Keep.refl r1 ok1
      refine ⟨a, us, rfl, .inl ⟨hu, w (Itv K a us.length) H1 ρ1 _ _ st1 k1 r1 ⟨fun i ρ' H' st' hi k r ok => ?_, fun i x ρ' H' H2 st' hi k r ok y => ?_, fun i ρ' H' st' hi k r ok => ?_⟩ q1'⟩⟩
      · obtain ⟨ws, hw, hr⟩ := at_ ρ' H' st' k r ok
        have e1 := ru.len
        have e2 := hr.len
        rw [List.length_reverse] at hi
        exact ⟨by omega, ws, ws[us.length - 1 - i]'(by omega), hw, List.getElem?_eq_getElem _⟩
      · obtain ⟨ws, hw, hr⟩ := at_ ρ' H' st' k r ok
        obtain ⟨rfl, hy⟩ := y
        have e1 := ru.len
        have e2 := hr.len
        rw [List.length_reverse] at hi
        exact ⟨Same.refl _, rget hr (by omega) (by rw [← e2, e1]; exact hy ws hw)⟩
      · have e1 := ru.len
        rw [List.length_reverse] at hi
        show us.length ≤ i
        omega
    · obtain ⟨us, hu, ru⟩ := at_ ρ1 H1 st1 Keep.refl r1 ok1
      refine ⟨a, us, rfl, .inr ⟨hu, w (RT.ItvT K a us.length) H1 ρ1 _ _ st1 k1 r1 ⟨fun i ρ' H' st' hi k r ok => ?_, fun i x ρ' H' H2 st' hi k r ok y => ?_, fun i ρ' H' st' hi k r ok => ?_⟩ q1'⟩⟩
      · obtain ⟨ws, hw, hr⟩ := at_ ρ' H' st' k r ok
        have e1 := ru.len
        have e2 := hr.len
        rw [List.length_reverse] at hi
        exact ⟨by omega, ws, ws[us.length - 1 - i]'(by omega), hw, List.getElem?_eq_getElem _⟩
      · obtain ⟨ws, hw, hr⟩ := at_ ρ' H' st' k r ok
        obtain ⟨rfl, hy⟩ := y
        have e1 := ru.len
        have e2 := hr.len
        rw [List.length_reverse] at hi
        exact ⟨Same.refl _, rget hr (by omega) (by rw [← e2, e1]; exact hy ws hw)⟩
      · have e1 := ru.len
        rw [List.length_reverse] at hi
        show us.length ≤ i
        omega
  · exact q1'.elim
end
end DL

namespace DL
open PySem PySem.Spec L2

section
variable {X : Cx} {tg e : Expr} {te : TE} {de : DTE} {p pos : Pos}
theorem si_iter [Bs] {K : PySem.W.Frag} [hk : HasK X K] (h : SE X e te de) : SI X tg e (iSeq K te) (dIter de) := by
  obtain rfl := hk.eq
  exact ⟨pi_seq h.pe, sim_iter h.sim⟩
theorem si_rev [Bs] {K : PySem.W.Frag} [hk : HasK X K] (hg : Gl X "reversed") (hm : X.mg "reversed" = none) (h : SE X e te de) (hs : starEach [e] X.env = (false, eval e X.env) :: starEach [] X.env := by rfl) : SI X tg (.Call (.Name "reversed" p) [e] [] pos) (RT.iRevA K te) (dIterRev de) := by
  obtain rfl := hk.eq
  exact ⟨RT.pi_revA hg hm h.pe hs, sim_iterRev h.sim⟩
end
/-! ### ranges -/
def rangeD (lo : Int) : Nat → List D
  | 0 => []
  | n + 1 => .int lo :: rangeD (lo + 1) n
theorem rangeD_len : ∀ (n : Nat) (lo : Int), (rangeD lo n).length = n
  | 0, _ => rfl
  | n + 1, lo => by rw [rangeD, List.length_cons, rangeD_len n]
theorem rangeD_get : ∀ (n : Nat) (lo : Int) (i : Nat), i < n → (rangeD lo n)[i]? = some (.int (lo + i))
  | 0, _, i, h => absurd h (Nat.not_lt_zero i)
  | n + 1, lo, 0, _ => by
    rw [rangeD]
    simp
  | n + 1, lo, i + 1, h => by
    rw [rangeD, List.getElem?_cons_succ, rangeD_get n (lo + 1) i (by omega)]
    congr 2
    omega
theorem walks_range [Bs] {K : PySem.W.Frag} {ρ : List Addr} {H : Hp} (lo : Int) (n : Nat) : WalksD K ρ H (Itr lo n) (rangeD lo n) fun _ => True :=
  ⟨fun i ρ' H' st' hi _ _ _ => by rw [rangeD_len] at hi; exact hi, fun i x ρ' H' H2 st' hi _ _ _ y => by
    obtain ⟨rfl, rfl⟩ := y
    rw [rangeD_len] at hi
    exact ⟨Same.refl _, _, rangeD_get n lo i hi, .int _⟩, fun i ρ' H' st' hi _ _ _ => by rw [rangeD_len] at hi; exact hi⟩
def dRng1 (da : DTA) : DTI := fun env st R => da env st fun xs st1 => match xs with
  | [.int j] => (-(2 ^ 62) ≤ j ∧ j < 2 ^ 62) ∧ R (rangeD 0 j.toNat) (fun _ => True) st1
  | _ => False
def dRng2 (da : DTA) : DTI := fun env st R => da env st fun xs st1 => match xs with
  | [.int i, .int j] => (-(2 ^ 62) ≤ i ∧ i < 2 ^ 62 ∧ -(2 ^ 62) ≤ j ∧ j < 2 ^ 62) ∧ R (rangeD i (j - i).toNat) (fun _ => True) st1
  | _ => False
section
variable {X : Cx} {tg a b : Expr} {ta : TA} {da : DTA} {p pos : Pos}
theorem si_range1 [Bs] (hg : Gl X "range") (hm : X.mg "range" = none) (h : SA X [a] ta da) (hs : starEach [a] X.env = [(false, eval a X.env)] := by rfl) : SI X tg (.Call (.Name "range" p) [a] [] pos) (iRng1 ta) (dRng1 da) := by
  refine ⟨pi_range1 hg hm h.pa hs, fun ρ env st σ H R W rs re q w => ?_⟩
  refine h.sim ρ env st σ H _ _ rs re q fun vs H1 ⟨ρ1, ds, st1, k1, r1, px, q1⟩ => ?_
  dsimp only at q1
  split at q1
  · rename_i j
    obtain ⟨v, rfl, pv⟩ := px.one
    obtain rfl := rep_int pv
    exact ⟨j, rfl, q1.1.1, q1.1.2, w _ H1 ρ1 _ _ st1 k1 r1 (walks_range 0 _) q1.2⟩
  · exact q1.elim
theorem si_range2 [Bs] (hg : Gl X "range") (hm : X.mg "range" = none) (h : SA X [a, b] ta da) (hs : starEach [a, b] X.env = [(false, eval a X.env), (false, eval b X.env)] := by rfl) (hs2 : starEach [b] X.env = [(false, eval b X.env)] := by rfl) : SI X tg (.Call (.Name "range" p) [a, b] [] pos) (iRng2 ta) (dRng2 da) := by
  refine ⟨pi_range2 hg hm h.pa hs hs2, fun ρ env st σ H R W rs re q w => ?_⟩
  refine h.sim ρ env st σ H _ _ rs re q fun vs H1 ⟨ρ1, ds, st1, k1, r1, px, q1⟩ => ?_
  dsimp only at q1
  split at q1
  · rename_i i j
    obtain ⟨v, u, rfl, pv, pu⟩ := px.two
    obtain rfl := rep_int pv
    obtain rfl := rep_int pu
    exact ⟨i, j, rfl, q1.1, w _ H1 ρ1 _ _ st1 k1 r1 (walks_range i _) q1.2⟩
  · exact q1.elim
end

/-! ### for -/
def dLoop (dg : DTG) (tb : DTS) (m : Nat) (d : DEnds) (ok : Store → Prop) : List D → DEnv → Store → Prop
  | [] => fun env st => ok st ∧ d.nx env st
  | x :: r => fun env st => ok st ∧ dg x env st fun env' st' => tb m { d with nx := dLoop dg tb m d ok r, ct := dLoop dg tb m d ok r, bk := d.nx } env' st'
def dFor (di : DTI) (dg : DTG) (tb : DTS) : DTS := fun _ d env st => di env st fun items ok st1 => dLoop dg tb st1.length d ok items env st1
theorem dLoop_ok {dg : DTG} {tb : DTS} {m : Nat} {d : DEnds} {ok : Store → Prop} {items : List D} {env : DEnv} {st : Store} (h : dLoop dg tb m d ok items env st) : ok st := by
  cases items <;> exact h.1
theorem sim_for [Bs] {K : PySem.W.Frag} {wi : TI} {g : TG} {t : TS} {di : DTI} {dg : DTG} {tb : DTS} (hi : SimI K wi di) (hg : SimG K g dg) (hb : SimS K t tb) : SimS K (tFor wi g t) (dFor di dg tb) := by
  intro n ρ env st σ H d W hn rs re q w
  refine hi ρ env st σ H _ _ rs re q fun J H1 ρ1 items ok st1 k1 r1 wk q1 => ?_
  -- the anchor: the loop's beginning
  have kn : Keep (ρ.take n) ρ1 H H1 := k1.take n
  refine ⟨fun i m σ' H' => m = items.length - i ∧ i ≤ items.length ∧ ∃ ρ' env' st', Keep ρ1 ρ' H1 H' ∧ RelS K ρ' H' st' ∧ RelE K ρ' H' env' σ' ∧ dLoop dg tb st1.length d ok (items.drop i) env' st',
    ⟨items.length, rfl, Nat.zero_le _, ρ1, env, st1, Keep.refl, r1, re.keep k1, q1⟩, fun i m σ' H' hW => ?_⟩
  obtain ⟨rfl, hi, ρ', env', st', k', rs', re', q'⟩ := hW
  by_cases hlt : i < items.length
  · refine .inr ⟨wk.go i ρ' H' st' hlt k' rs' (dLoop_ok q'), fun σ2 H2 => i + 1 ≤ items.length ∧ ∃ ρ2 env2 st2, Keep ρ1 ρ2 H1 H2 ∧ RelS K ρ2 H2 st2 ∧ RelE K ρ2 H2 env2 σ2 ∧ dLoop dg tb st1.length d ok (items.drop (i + 1)) env2 st2, fun σ2 H2 h2 => ?_, fun x H2 hy => ?_⟩
    · exact ⟨items.length - (i + 1), by omega, rfl, h2⟩
    · have hok := dLoop_ok q'
      obtain ⟨sm, dx, hd, rd⟩ := wk.yld i x ρ' H' H2 st' hlt k' rs' hok hy
      rw [List.drop_eq_getElem_cons hlt] at q'
      have e : items[i] = dx := by
        rw [List.getElem?_eq_getElem hlt] at hd
        exact Option.some.inj hd
      rw [e] at q'
      obtain ⟨_, q'⟩ := q'
      have k2 : Keep ρ' ρ' H' H2 := same_keep sm
      refine hg ρ' env' st' σ' H2 x dx _ _ (rs'.same sm) (re'.keep k2) rd q' fun σ3 H3 ρ3 env3 st3 k3 rs3 re3 q3 => ?_
      have k13 : Keep ρ1 ρ3 H1 H3 := (k'.trans k2).trans k3
      have hl : st1.length ≤ ρ3.length := by rw [← r1.len]; exact k13.len
      have e3 : ρ3.take st1.length = ρ1 := by
        obtain ⟨t, rfl⟩ := k13.pre
        rw [← r1.len, List.take_append_of_le_length (Nat.le_refl _), List.take_length]
      have k31 : ∀ {ρ4 : List Addr} {H4 : Hp}, Keep (ρ3.take st1.length) ρ4 H3 H4 → Keep ρ1 ρ4 H1 H4 := fun {ρ4 H4} k4 => by
        rw [e3] at k4
        exact ⟨k4.pre, fun a xs h => k4.tups a xs (k13.tups a xs h), fun a o u h => k4.frzs a o u (k13.frzs a o u h), fun a fs h => k4.xds a fs (k13.xds a fs h)⟩
      refine hb st1.length ρ3 env3 st3 σ3 H3 _ _ hl rs3 re3 q3 ⟨fun σ4 H4 ρ4 env4 st4 k4 rs4 re4 q4 => ?_, fun v H4 ρ4 y st4 k4 rs4 re4 q4 => ?_, fun σ4 H4 ρ4 env4 st4 k4 rs4 re4 q4 => ?_, fun σ4 H4 ρ4 env4 st4 k4 rs4 re4 q4 => ?_, by rw [e3]; exact Nat.le_trans w.bn kn.len⟩
      · exact ⟨hlt, ρ4, env4, st4, k31 k4, rs4, re4, q4⟩
      · exact w.rt v H4 ρ4 y st4 (kn.trans (k31 k4)) rs4 re4 q4
      · exact w.nx σ4 H4 ρ4 env4 st4 (kn.trans (k31 k4)) rs4 re4 q4
      · exact ⟨hlt, ρ4, env4, st4, k31 k4, rs4, re4, q4⟩
  · have e : items.drop i = [] := List.drop_eq_nil_of_le (by omega)
    have hok := dLoop_ok q'
    rw [e] at q'
    exact .inl ⟨wk.stop i ρ' H' st' (by omega) k' rs' hok, w.nx σ' H' ρ' env' st' (kn.trans k') rs' re' q'.2⟩
/-! ### while -/
def dWh (c : DTT) (tb : DTS) (n : Nat) (d : DEnds) : Nat → DEnv → Store → Prop
  | 0 => fun _ _ => False
  | f + 1 => fun env st => c env st fun b st1 => if b = true then tb n { d with nx := dWh c tb n d f, ct := dWh c tb n d f, bk := d.nx } env st1 else d.nx env st1
def dWhile (c : DTT) (tb : DTS) : DTS := fun n d env st => ∃ f, dWh c tb n d f env st
theorem sim_while [Bs] {K : PySem.W.Frag} {tc : TT} {t : TS} {c : DTT} {tb : DTS} (hc : SimT K tc c) (hb : SimS K t tb) : SimS K (tWhile tc t) (dWhile c tb) := by
  intro n ρ env st σ H d W hn rs re q w
  obtain ⟨f0, q⟩ := q
  refine ⟨fun m σ' H' => ∃ ρ' env' st', Keep (ρ.take n) ρ' H H' ∧ RelS K ρ' H' st' ∧ RelE K ρ' H' env' σ' ∧ dWh c tb n d m env' st', ⟨f0, ρ, env, st, Keep.of_take hn, rs, re, q⟩, fun m σ' H' hW => ?_⟩
  obtain ⟨ρ', env', st', k', rs', re', q'⟩ := hW
  cases m with
  | zero => exact q'.elim
  | succ f =>
    refine hc ρ' env' st' σ' H' _ _ rs' re' q' fun b H2 ⟨ρ2, st2, k2, rs2, q2⟩ => ?_
    have k12 := k'.trans k2
    cases b with
    | false =>
      rw [if_neg Bool.false_ne_true] at q2 ⊢
      exact w.nx σ' H2 ρ2 env' st2 k12 rs2 (re'.keep k2) q2
    | true =>
      rw [if_pos rfl] at q2 ⊢
      refine ⟨fun σ3 H3 => ∃ ρ3 env3 st3, Keep (ρ.take n) ρ3 H H3 ∧ RelS K ρ3 H3 st3 ∧ RelE K ρ3 H3 env3 σ3 ∧ dWh c tb n d f env3 st3, fun σ3 H3 h3 => ⟨f, Nat.lt_succ_self f, h3⟩, ?_⟩
      have hl : n ≤ ρ2.length := by
        have := k12.len
        rw [List.length_take] at this
        omega
      have e2 : ρ2.take n = ρ.take n := by
        obtain ⟨t, rfl⟩ := k12.pre
        rw [List.take_append_of_le_length (by rw [List.length_take]; omega), List.take_take, Nat.min_self]
      have kk : ∀ {ρ4 : List Addr} {H4 : Hp}, Keep (ρ2.take n) ρ4 H2 H4 → Keep (ρ.take n) ρ4 H H4 := fun {ρ4 H4} k4 => by
        rw [e2] at k4
        exact ⟨k4.pre, fun a xs h => k4.tups a xs (k12.tups a xs h), fun a o u h => k4.frzs a o u (k12.frzs a o u h), fun a fs h => k4.xds a fs (k12.xds a fs h)⟩
      exact hb n ρ2 env' st2 σ' H2 _ _ hl rs2 (re'.keep k2) q2 ⟨fun σ4 H4 ρ4 env4 st4 k4 rs4 re4 q4 => ⟨ρ4, env4, st4, kk k4, rs4, re4, q4⟩, fun v H4 ρ4 y st4 k4 rs4 re4 q4 => w.rt v H4 ρ4 y st4 (kk k4) rs4 re4 q4,
        fun σ4 H4 ρ4 env4 st4 k4 rs4 re4 q4 => w.nx σ4 H4 ρ4 env4 st4 (kk k4) rs4 re4 q4, fun σ4 H4 ρ4 env4 st4 k4 rs4 re4 q4 => ⟨ρ4, env4, st4, kk k4, rs4, re4, q4⟩, by rw [e2]; exact w.bn⟩
section
variable {X : Cx} {pos : Pos}
theorem ss_for [Bs] {tg iter : Expr} {body : List Stmt} {wi : TI} {g : TG} {t : TS} {di : DTI} {dg : DTG} {tb : DTS} (hp : PassesOwn (model X.prog X.w) X.A X.env X.xe) (hc : X.calm = true) (hi : SI X tg iter wi di) (hg : SG X tg g dg) (hb : SSs X body t tb)
    (hs : ∀ x, foldedSetIterable iter X.env x = pure x := by intro _; rfl) : SS X (.For tg iter body [] pos) (tFor wi g t) (dFor di dg tb) := ⟨ps_for hp hc hi.pi hg.pg hb.pss hs, sim_for hi.sim hg.sim hb.sim⟩
theorem ss_while [Bs] {c : Expr} {body : List Stmt} {tc : TT} {t : TS} {dc : DTT} {tb : DTS} (hp : PassesOwn (model X.prog X.w) X.A X.env X.xe) (hc : ST X c tc dc) (hb : SSs X body t tb) : SS X (.While c body [] pos) (tWhile tc t) (dWhile dc tb) := ⟨ps_while hp hc.pt hb.pss, sim_while hc.sim hb.sim⟩
end

/-! ### list comprehensions -/
def dwipe (env : DEnv) : List Nat → DEnv
  | [] => env
  | v :: vs => (dwipe env vs).set v none
theorem relE_wipe {K : PySem.W.Frag} {ρ : List Addr} {H : Hp} {env : DEnv} {σ : L2.St} (r : RelE K ρ H env σ) : ∀ vs : List Nat, RelE K ρ H (dwipe env vs) (wipe σ vs)
  | [] => r
  | v :: vs => by
    have ih := relE_wipe r vs
    unfold dwipe wipe
    refine ⟨by rw [List.length_set, List.length_set, ih.len], fun i d e => ?_⟩
    by_cases hi : v = i
    · subst hi
      by_cases hv : v < (dwipe env vs).length
      · rw [List.getElem?_set_self hv] at e
        cases e
      · rw [List.getElem?_eq_none (by rw [List.length_set]; omega)] at e
        cases e
    · rw [List.getElem?_set_ne hi] at e ⊢
      exact ih.get i d e
structure STs [Bs] (X : Cx) (ifs : List Expr) (t : TT) (dt : DTT) : Prop where
  pts : PTs X ifs t
  sim : SimT X.K t dt
def dYes : DTT := fun _ st Q => Q true st
theorem sts_nil [Bs] {X : Cx} : STs X [] tYes dYes := ⟨pts_nil, fun ρ env st σ H Q W rs re q w => w true H ⟨ρ, st, Keep.refl, rs, q⟩⟩
theorem sts_one [Bs] {X : Cx} {c : Expr} {t : TT} {dt : DTT} (h : ST X c t dt) : STs X [c] t dt := ⟨pts_one h.pt, h.sim⟩
/-- a target that stores only the names at vs -/
def Own (g : TG) (vs : List Nat) : Prop := ∀ x σ H (W : L2.St → Hp → Prop), g x σ H W → g x σ H fun σ2 H2 => wipe σ2 vs = wipe σ vs ∧ W σ2 H2
def OwnS (g : TGs) (vs : List Nat) : Prop := ∀ xs σ H (W : L2.St → Hp → Prop), g xs σ H W → g xs σ H fun σ2 H2 => wipe σ2 vs = wipe σ vs ∧ W σ2 H2
theorem wipe_get {σ : L2.St} {j : Nat} : ∀ {vs : List Nat}, (wipe σ vs)[j]? = if j ∈ vs ∧ j < σ.length then some none else σ[j]?
  | [] => by simp [wipe]
  | v :: vs => by
    have ih := wipe_get (σ := σ) (j := j) (vs := vs)
    unfold wipe
    by_cases hv : v = j
    · subst hv
      by_cases hl : v < σ.length
      · rw [List.getElem?_set_self (by rw [wipe_length]; exact hl), if_pos ⟨List.mem_cons_self, hl⟩]
      · rw [List.getElem?_eq_none (by rw [List.length_set, wipe_length]; omega), if_neg (fun z => hl z.2), List.getElem?_eq_none (by omega)]
    · rw [List.getElem?_set_ne hv, ih]
      by_cases hm : j ∈ vs ∧ j < σ.length
      · rw [if_pos hm, if_pos ⟨List.mem_cons_of_mem _ hm.1, hm.2⟩]
      · rw [if_neg hm, if_neg]
        rintro ⟨z, z2⟩
        rcases List.mem_cons.mp z with z | z
        · exact hv z.symm
        · exact hm ⟨z, z2⟩
theorem wipe_set {σ : L2.St} {i : Nat} {v : Option V} {vs : List Nat} (h : i ∈ vs) : wipe (σ.set i v) vs = wipe σ vs := by
  apply List.ext_getElem?
  intro j
  rw [wipe_get, wipe_get, List.length_set]
  by_cases hj : j ∈ vs ∧ j < σ.length
  · rw [if_pos hj, if_pos hj]
  · rw [if_neg hj, if_neg hj]
    by_cases e : i = j
    · subst e
      have : ¬ i < σ.length := fun z => hj ⟨h, z⟩
      rw [List.getElem?_eq_none (by rw [List.length_set]; omega), List.getElem?_eq_none (by omega)]
    · rw [List.getElem?_set_ne e]
theorem wipe_wipe {σ : L2.St} {vs : List Nat} : wipe (wipe σ vs) vs = wipe σ vs := by
  apply List.ext_getElem?
  intro j
  rw [wipe_get, wipe_get, wipe_length]
  by_cases hj : j ∈ vs ∧ j < σ.length
  · rw [if_pos hj, if_pos hj]
  · rw [if_neg hj, if_neg hj]
theorem own_name {i : Nat} {vs : List Nat} (h : i ∈ vs) : Own (gName i) vs := fun x σ H W q => ⟨wipe_set h, q⟩
theorem owns_nil {vs : List Nat} : OwnS gNil vs := fun xs σ H W q => ⟨q.1, rfl, q.2⟩
theorem owns_cons {t : TG} {u : TGs} {vs : List Nat} (mono : ∀ x σ H W W', (∀ σ2 H2, W σ2 H2 → W' σ2 H2) → t x σ H W → t x σ H W') (ht : Own t vs) (hu : OwnS u vs) : OwnS (gCons t u) vs := by
  intro xs σ H W q
  obtain ⟨v, r, e, q⟩ := q
  refine ⟨v, r, e, ?_⟩
  have q2 := ht v σ H _ q
  refine mono v σ H _ _ (fun σ2 H2 ⟨e1, q3⟩ => ?_) q2
  have q4 := hu r σ2 H2 W q3
  rw [e1] at q4
  exact q4
theorem mono_name {i : Nat} : ∀ x σ H W W', (∀ σ2 H2, W σ2 H2 → W' σ2 H2) → gName i x σ H W → gName i x σ H W' := fun _ _ _ _ _ m q => m _ _ q
theorem own_tup {K : PySem.W.Frag} {n : Nat} {t : TGs} {vs : List Nat} (ht : OwnS t vs) : Own (gTup K n t) vs := fun x σ H W ⟨a, xs, e, hs, hl, q⟩ => ⟨a, xs, e, hs, hl, ht xs σ H W q⟩
/-- one more element -/
def dPut (k : Nat) (y : D) (st : Store) (nx : Store → Prop) : Prop := match st[k]? with
  | some (.lst acc) => acc.length < sizeLine ∧ nx (st.set k (.lst (acc ++ [y])))
  | _ => False
/-- the elements, from the left; the new list is the cell k -/
def dLcL (dg : DTG) (tt : DTT) (te : DTE) (ok : Store → Prop) (env : DEnv) (k : Nat) (fin : Store → Prop) : List D → Store → Prop
  | [] => fun st => ok st ∧ fin st
  | x :: r => fun st => ok st ∧ dg x env st fun env' st' => tt env' st' fun b st2 =>
      if b = true then te env' st2 fun y st3 => dPut k y st3 (dLcL dg tt te ok env k fin r) else dLcL dg tt te ok env k fin r st2
def dLc (di : DTI) (dg : DTG) (tt : DTT) (te : DTE) (vs : List Nat) : DTE := fun env st Q => di env st fun items ok st1 => dLcL dg tt te ok (dwipe env vs) st1.length (fun st2 => Q (.ref st1.length) st2) items (st1 ++ [.lst []])
theorem dLcL_ok {dg : DTG} {tt : DTT} {te : DTE} {ok : Store → Prop} {env : DEnv} {k : Nat} {fin : Store → Prop} {items : List D} {st : Store} (h : dLcL dg tt te ok env k fin items st) : ok st := by
  cases items <;> exact h.1
theorem sim_put [Bs] {K : PySem.W.Frag} {ρ : List Addr} {H : Hp} {k : Nat} {p : Addr} {y : D} {v : V} {st : Store} {nx : Store → Prop} {W : Hp → Prop} (r : RelS K ρ H st) (hp : ρ[k]? = some p) (hv : Rep K ρ H y v) (h : dPut k y st nx)
    (w : ∀ H' st', Keep ρ ρ H H' → RelS K ρ H' st' → nx st' → W H') : ∃ acc, H p = some (.lst acc) ∧ acc.length < sizeLine ∧ W (upd H p (.lst (acc ++ [v]))) := by
  unfold dPut at h
  split at h
  · rename_i acc e
    obtain ⟨vs, hvs, hr⟩ := r.lst hp e
    exact ⟨vs, hvs, by rw [← hr.len]; exact h.1, w _ _ (keep_upd hvs) (r.put hp hvs (hr.app (.cons hv .nil))) h.2⟩
  · exact h.elim
theorem sim_lc [Bs] {K : PySem.W.Frag} {wi : TI} {g : TG} {tt : TT} {te : TE} {di : DTI} {dg : DTG} {dt : DTT} {de : DTE} {vs : List Nat} (hi : SimI K wi di) (hg : SimG K g dg) (ho : Own g vs) (ht : SimT K tt dt) (he : Sim K te de) : Sim K (tLc wi g tt te vs) (dLc di dg dt de vs) := by
  intro ρ env st σ H Q W rs re q w
  refine hi ρ env st σ H _ _ rs re q fun J H1 ρ1 items ok st1 k1 r1 wk q1 => ?_
  intro p hp
  have kp : Keep ρ1 (ρ1 ++ [p]) H1 (upd H1 p (.lst [])) := keep_cell hp
  have gp : (ρ1 ++ [p])[st1.length]? = some p := by
    rw [List.getElem?_append_right (by rw [r1.len]; exact Nat.le_refl _), r1.len, Nat.sub_self]
    rfl
  refine ⟨fun i m H' => m = items.length - i ∧ i ≤ items.length ∧ ∃ ρ' st', Keep (ρ1 ++ [p]) ρ' (upd H1 p (.lst [])) H' ∧ RelS K ρ' H' st' ∧ dLcL dg dt de ok (dwipe env vs) st1.length (fun st2 => Q (.ref st1.length) st2) (items.drop i) st',
    ⟨items.length, rfl, Nat.zero_le _, _, _, Keep.refl, r1.cell hp Reps.nil, q1⟩, fun i m H' hW => ?_⟩
  obtain ⟨rfl, hi, ρ', st', k', rs', q'⟩ := hW
  have hok := dLcL_ok q'
  have kk := kp.trans k'
  have gp' := k'.get gp
  by_cases hlt : i < items.length
  · refine .inr ⟨wk.go i ρ' H' st' hlt kk rs' hok, fun H2 => ∃ ρ2 st2, Keep (ρ1 ++ [p]) ρ2 (upd H1 p (.lst [])) H2 ∧ RelS K ρ2 H2 st2 ∧ dLcL dg dt de ok (dwipe env vs) st1.length (fun st2 => Q (.ref st1.length) st2) (items.drop (i + 1)) st2,
      fun H2 h2 => ⟨items.length - (i + 1), by omega, rfl, hlt, h2⟩, fun x H2 hy => ?_⟩
    obtain ⟨sm, dx, hd, rd⟩ := wk.yld i x ρ' H' H2 st' hlt kk rs' hok hy
    rw [List.drop_eq_getElem_cons hlt] at q'
    have e : items[i] = dx := by
      rw [List.getElem?_eq_getElem hlt] at hd
      exact Option.some.inj hd
    rw [e] at q'
    obtain ⟨_, q'⟩ := q'
    have k2 : Keep ρ' ρ' H' H2 := same_keep sm
    have re2 : RelE K ρ' H2 (dwipe env vs) (wipe σ vs) := relE_wipe (((re.keep k1).keep kk).keep k2) vs
    have tgt := hg ρ' (dwipe env vs) st' (wipe σ vs) H2 x dx _ (fun σ3 H3 => tt σ3 H3 fun b H4 => if b = true then te σ3 H4 fun y H5 => ∃ acc, H5 p = some (.lst acc) ∧ acc.length < sizeLine ∧ ∃ ρ2 st2, Keep (ρ1 ++ [p]) ρ2 (upd H1 p (.lst [])) (upd H5 p (.lst (acc ++ [y]))) ∧ RelS K ρ2 (upd H5 p (.lst (acc ++ [y]))) st2 ∧ dLcL dg dt de ok (dwipe env vs) st1.length (fun st2 => Q (.ref st1.length) st2) (items.drop (i + 1)) st2 else ∃ ρ2 st2, Keep (ρ1 ++ [p]) ρ2 (upd H1 p (.lst [])) H4 ∧ RelS K ρ2 H4 st2 ∧ dLcL dg dt de ok (dwipe env vs) st1.length (fun st2 => Q (.ref st1.length) st2) (items.drop (i + 1)) st2)
      (rs'.same sm) re2 rd q' fun σ3 H3 ρ3 env3 st3 k3 rs3 re3 q3 => ?_
    · have := ho x (wipe σ vs) H2 _ tgt
      rw [wipe_wipe] at this
      exact this
    · refine ht ρ3 env3 st3 σ3 H3 _ _ rs3 re3 q3 fun b H4 ⟨ρ4, st4, k4, rs4, q4⟩ => ?_
      have k14 := ((k'.trans k2).trans k3).trans k4
      cases b with
      | false =>
        rw [if_neg Bool.false_ne_true] at q4 ⊢
        exact ⟨ρ4, st4, k14, rs4, q4⟩
      | true =>
        rw [if_pos rfl] at q4 ⊢
        refine he ρ4 env3 st4 σ3 H4 _ _ rs4 (re3.keep k4) q4 fun y H5 ⟨ρ5, dy, st5, k5, rs5, py, q5⟩ => ?_
        exact sim_put (W := fun Hz => ∃ ρ2 st2, Keep (ρ1 ++ [p]) ρ2 (upd H1 p (.lst [])) Hz ∧ RelS K ρ2 Hz st2 ∧ dLcL dg dt de ok (dwipe env vs) st1.length (fun st2 => Q (.ref st1.length) st2) (items.drop (i + 1)) st2) rs5 ((k14.trans k5).get gp) py q5 fun H6 st6 k6 rs6 q6 => ⟨ρ5, st6, (k14.trans k5).trans k6, rs6, q6⟩
  · have e : items.drop i = [] := List.drop_eq_nil_of_le (by omega)
    rw [e] at q'
    exact .inl ⟨wk.stop i ρ' H' st' (by omega) kk rs' hok, w _ H' ⟨ρ', .ref st1.length, st', k1.trans kk, rs', .ref gp', q'.2⟩⟩
/-! two clauses -/
/-- the inner loop's turns, then nx -/
def dLcI (dg : DTG) (tt : DTT) (te : DTE) (ok : Store → Prop) (env : DEnv) (k : Nat) (nx : Store → Prop) : List D → Store → Prop
  | [] => fun st => ok st ∧ nx st
  | x :: r => fun st => ok st ∧ dg x env st fun env' st' => tt env' st' fun b st2 =>
      if b = true then te env' st2 fun y st3 => dPut k y st3 (dLcI dg tt te ok env k nx r) else dLcI dg tt te ok env k nx r st2
def dLcO (dg : DTG) (tt : DTT) (di1 : DTI) (dg1 : DTG) (tt1 : DTT) (te : DTE) (vs1 : List Nat) (ok : Store → Prop) (env : DEnv) (k : Nat) (fin : Store → Prop) : List D → Store → Prop
  | [] => fun st => ok st ∧ fin st
  | x :: r => fun st => ok st ∧ dg x env st fun env' st' => tt env' st' fun b st2 =>
      if b = true then di1 env' st2 fun items1 ok1 st3 => dLcI dg1 tt1 te ok1 (dwipe env' vs1) k (dLcO dg tt di1 dg1 tt1 te vs1 ok env k fin r) items1 st3 else dLcO dg tt di1 dg1 tt1 te vs1 ok env k fin r st2
def dLc2 (di : DTI) (dg : DTG) (tt : DTT) (di1 : DTI) (dg1 : DTG) (tt1 : DTT) (te : DTE) (vs vs1 : List Nat) : DTE := fun env st Q => di env st fun items ok st1 => dLcO dg tt di1 dg1 tt1 te vs1 ok (dwipe env vs) st1.length (fun st2 => Q (.ref st1.length) st2) items (st1 ++ [.lst []])
theorem dLcO_ok {dg : DTG} {tt : DTT} {di1 : DTI} {dg1 : DTG} {tt1 : DTT} {te : DTE} {vs1 : List Nat} {ok : Store → Prop} {env : DEnv} {k : Nat} {fin : Store → Prop} {items : List D} {st : Store} (h : dLcO dg tt di1 dg1 tt1 te vs1 ok env k fin items st) : ok st := by
  cases items <;> exact h.1
theorem dLcI_ok {dg : DTG} {tt : DTT} {te : DTE} {ok : Store → Prop} {env : DEnv} {k : Nat} {fin : Store → Prop} {items : List D} {st : Store} (h : dLcI dg tt te ok env k fin items st) : ok st := by
  cases items <;> exact h.1
theorem sim_lc2 [Bs] {K : PySem.W.Frag} {wi wi1 : TI} {g g1 : TG} {tt tt1 : TT} {te : TE} {di di1 : DTI} {dg dg1 : DTG} {dt dt1 : DTT} {de : DTE} {vs vs1 : List Nat} (hi : SimI K wi di) (hg : SimG K g dg) (ho : Own g vs) (ht : SimT K tt dt) (hi1 : SimI K wi1 di1) (hg1 : SimG K g1 dg1) (ho1 : Own g1 vs1) (ht1 : SimT K tt1 dt1) (he : Sim K te de) :
    Sim K (tLc2 wi g tt wi1 g1 tt1 te vs vs1) (dLc2 di dg dt di1 dg1 dt1 de vs vs1) := by
  intro ρ env st σ H Q W rs re q w
  refine hi ρ env st σ H _ _ rs re q fun J H1 ρ1 items ok st1 k1 r1 wk q1 => ?_
  intro p hp
  have kp : Keep ρ1 (ρ1 ++ [p]) H1 (upd H1 p (.lst [])) := keep_cell hp
  have gp : (ρ1 ++ [p])[st1.length]? = some p := by
    rw [List.getElem?_append_right (by rw [r1.len]; exact Nat.le_refl _), r1.len, Nat.sub_self]
    rfl
  let R : Nat → Hp → Prop := fun i H' => ∃ ρ' st', Keep (ρ1 ++ [p]) ρ' (upd H1 p (.lst [])) H' ∧ RelS K ρ' H' st' ∧ dLcO dg dt di1 dg1 dt1 de vs1 ok (dwipe env vs) st1.length (fun st2 => Q (.ref st1.length) st2) (items.drop i) st'
  refine ⟨fun i m H' => m = items.length - i ∧ i ≤ items.length ∧ R i H', ⟨items.length, rfl, Nat.zero_le _, _, _, Keep.refl, r1.cell hp Reps.nil, q1⟩, fun i m H' hW => ?_⟩
  obtain ⟨rfl, hi, ρ', st', k', rs', q'⟩ := hW
  have hok := dLcO_ok q'
  have kk := kp.trans k'
  have gp' := k'.get gp
  by_cases hlt : i < items.length
  · refine .inr ⟨wk.go i ρ' H' st' hlt kk rs' hok, R (i + 1), fun H2 h2 => ⟨items.length - (i + 1), by omega, rfl, hlt, h2⟩, fun x H2 hy => ?_⟩
    obtain ⟨sm, dx, hd, rd⟩ := wk.yld i x ρ' H' H2 st' hlt kk rs' hok hy
    rw [List.drop_eq_getElem_cons hlt] at q'
    have e : items[i] = dx := by
      rw [List.getElem?_eq_getElem hlt] at hd
      exact Option.some.inj hd
    rw [e] at q'
    obtain ⟨_, q'⟩ := q'
    have k2 : Keep ρ' ρ' H' H2 := same_keep sm
    have re2 : RelE K ρ' H2 (dwipe env vs) (wipe σ vs) := relE_wipe (((re.keep k1).keep kk).keep k2) vs
    have step : ∀ σ3 H3 ρ3 env3 st3, Keep ρ' ρ3 H2 H3 → RelS K ρ3 H3 st3 → RelE K ρ3 H3 env3 σ3 → (dt env3 st3 fun b st2 =>
        if b = true then di1 env3 st2 fun items1 ok1 st3 => dLcI dg1 dt1 de ok1 (dwipe env3 vs1) st1.length (dLcO dg dt di1 dg1 dt1 de vs1 ok (dwipe env vs) st1.length (fun st2 => Q (.ref st1.length) st2) (items.drop (i + 1))) items1 st3 else dLcO dg dt di1 dg1 dt1 de vs1 ok (dwipe env vs) st1.length (fun st2 => Q (.ref st1.length) st2) (items.drop (i + 1)) st2) →
        tt σ3 H3 fun b H3 => if b = true then wi1 σ3 H3 fun J1 H4 => ∃ W1 : Nat → Nat → Hp → Prop, (∃ m, W1 0 m H4) ∧ ∀ j k H, W1 j k H →
          (J1.stop j H ∧ R (i + 1) H) ∨ (J1.go j H ∧ ∃ Nx1 : Hp → Prop, (∀ H', Nx1 H' → ∃ k', k' < k ∧ W1 (j + 1) k' H') ∧ ∀ x H', J1.yld j H x H' → g1 x (wipe σ3 vs1) H' fun σ4 H5 => wipe σ4 vs1 = wipe σ3 vs1 ∧ tt1 σ4 H5 fun b H6 =>
            if b = true then te σ4 H6 fun y H7 => ∃ acc, H7 p = some (.lst acc) ∧ acc.length < sizeLine ∧ Nx1 (upd H7 p (.lst (acc ++ [y]))) else Nx1 H6) else R (i + 1) H3 := by
      intro σ3 H3 ρ3 env3 st3 k3 rs3 re3 q3
      refine ht ρ3 env3 st3 σ3 H3 _ _ rs3 re3 q3 fun b H4 ⟨ρ4, st4, k4, rs4, q4⟩ => ?_
      have k14 := ((k'.trans k2).trans k3).trans k4
      cases b with
      | false =>
        rw [if_neg Bool.false_ne_true] at q4 ⊢
        exact ⟨ρ4, st4, k14, rs4, q4⟩
      | true =>
        rw [if_pos rfl] at q4 ⊢
        refine hi1 ρ4 env3 st4 σ3 H4 _ _ rs4 (re3.keep k4) q4 fun J1 H5 ρ5 items1 ok1 st5 k5 r5 wk1 q5 => ?_
        have k15 := k14.trans k5
        let R1 : Nat → Hp → Prop := fun j H' => ∃ ρ' st', Keep ρ5 ρ' H5 H' ∧ RelS K ρ' H' st' ∧ dLcI dg1 dt1 de ok1 (dwipe env3 vs1) st1.length (dLcO dg dt di1 dg1 dt1 de vs1 ok (dwipe env vs) st1.length (fun st2 => Q (.ref st1.length) st2) (items.drop (i + 1))) (items1.drop j) st'
        refine ⟨fun j m H' => m = items1.length - j ∧ j ≤ items1.length ∧ R1 j H', ⟨items1.length, rfl, Nat.zero_le _, ρ5, st5, Keep.refl, r5, q5⟩, fun j m H' hW => ?_⟩
        obtain ⟨rfl, hj, ρ6, st6, k6, rs6, q6⟩ := hW
        have hok1 := dLcI_ok q6
        by_cases hjl : j < items1.length
        · refine .inr ⟨wk1.go j ρ6 H' st6 hjl k6 rs6 hok1, R1 (j + 1), fun H2 h2 => ⟨items1.length - (j + 1), by omega, rfl, hjl, h2⟩, fun x H7 hy => ?_⟩
          obtain ⟨sm1, dx1, hd1, rd1⟩ := wk1.yld j x ρ6 H' H7 st6 hjl k6 rs6 hok1 hy
          rw [List.drop_eq_getElem_cons hjl] at q6
          have e1 : items1[j] = dx1 := by
            rw [List.getElem?_eq_getElem hjl] at hd1
            exact Option.some.inj hd1
          rw [e1] at q6
          obtain ⟨_, q6⟩ := q6
          have k7 : Keep ρ6 ρ6 H' H7 := same_keep sm1
          have re7 : RelE K ρ6 H7 (dwipe env3 vs1) (wipe σ3 vs1) := relE_wipe ((((re3.keep k4).keep k5).keep k6).keep k7) vs1
          have tgt := hg1 ρ6 (dwipe env3 vs1) st6 (wipe σ3 vs1) H7 x dx1 _ (fun σ4 H5 => tt1 σ4 H5 fun b H6 => if b = true then te σ4 H6 fun y H7 => ∃ acc, H7 p = some (.lst acc) ∧ acc.length < sizeLine ∧ R1 (j + 1) (upd H7 p (.lst (acc ++ [y]))) else R1 (j + 1) H6)
            (rs6.same sm1) re7 rd1 q6 fun σ8 H8 ρ8 env8 st8 k8 rs8 re8 q8 => ?_
          · have := ho1 x (wipe σ3 vs1) H7 _ tgt
            rw [wipe_wipe] at this
            exact this
          · refine ht1 ρ8 env8 st8 σ8 H8 _ _ rs8 re8 q8 fun b H9 ⟨ρ9, st9, k9, rs9, q9⟩ => ?_
            have k69 := ((k6.trans k7).trans k8).trans k9
            cases b with
            | false =>
              rw [if_neg Bool.false_ne_true] at q9 ⊢
              exact ⟨ρ9, st9, k69, rs9, q9⟩
            | true =>
              rw [if_pos rfl] at q9 ⊢
              refine he ρ9 env8 st9 σ8 H9 _ _ rs9 (re8.keep k9) q9 fun y Ha ⟨ρa, dy, sta, ka, rsa, py, qa⟩ => ?_
              exact sim_put rsa (((k15.trans k69).trans ka).get gp) py qa fun Hb stb kb rsb qb => ⟨ρa, stb, (k69.trans ka).trans kb, rsb, qb⟩
        · have e : items1.drop j = [] := List.drop_eq_nil_of_le (by omega)
          rw [e] at q6
          exact .inl ⟨wk1.stop j ρ6 H' st6 (by omega) k6 rs6 hok1, ρ6, st6, k15.trans k6, rs6, q6.2⟩
    have tgt := hg ρ' (dwipe env vs) st' (wipe σ vs) H2 x dx _ _ (rs'.same sm) re2 rd q' step
    have := ho x (wipe σ vs) H2 _ tgt
    rw [wipe_wipe] at this
    exact this
  · have e : items.drop i = [] := List.drop_eq_nil_of_le (by omega)
    rw [e] at q'
    exact .inl ⟨wk.stop i ρ' H' st' (by omega) kk rs' hok, w _ H' ⟨ρ', .ref st1.length, st', k1.trans kk, rs', .ref gp', q'.2⟩⟩
section
variable {X : Cx} {elt tg iter tg1 iter1 : Expr} {ifs ifs1 : List Expr} {scope : Scope} {own : List (Str × Nat)} {pos : Pos} {wi wi1 : TI} {g g1 : TG} {tt tt1 : TT} {te : TE} {di di1 : DTI} {dg dg1 : DTG} {dt dt1 : DTT} {de : DTE} {vs1 : List Nat}
theorem se_lc [Bs] (hc : X.calm = true) (hN : X.N.Nodup) (hi : SI X tg iter wi di) (ok : BlkOk X.N X.env.scope scope own) (ho : Own g (own.map (·.2)))
    (hg : ∀ (s : Shared) (H : Hp) (C : Addr) (cl : List (Str × Addr)) (fp : List Addr), SG (X.blk s H scope (compEnvC scope cl C X.env) fp) tg g dg) (ht : ∀ (s : Shared) (H : Hp) (C : Addr) (cl : List (Str × Addr)) (fp : List Addr), STs (X.blk s H scope (compEnvC scope cl C X.env) fp) ifs tt dt)
    (he : ∀ (s : Shared) (H : Hp) (C : Addr) (cl : List (Str × Addr)) (fp : List Addr), SE (X.blk s H scope (compEnvC scope cl C X.env) fp) elt te de) (hs : ∀ x, foldedSetIterable iter X.env x = pure x := by intro _; rfl) :
    SE X (.ListComp elt [⟨tg, iter, ifs, 0⟩] scope pos) (tLc wi g tt te (own.map (·.2))) (dLc di dg dt de (own.map (·.2))) :=
  ⟨pe_lc hc hN hi.pi ok (fun s H C cl fp => (hg s H C cl fp).pg) (fun s H C cl fp => (ht s H C cl fp).pts) (fun s H C cl fp => (he s H C cl fp).pe) hs,
    sim_lc hi.sim (hg ({} : Shared) (fun _ => none) 0 [] []).sim ho (ht ({} : Shared) (fun _ => none) 0 [] []).sim (he ({} : Shared) (fun _ => none) 0 [] []).sim⟩
theorem se_lc2 [Bs] (hc : X.calm = true) (hN : X.N.Nodup) (hi : SI X tg iter wi di) (ok : BlkOk X.N X.env.scope scope own) (hv : ∀ i ∈ vs1, i ∈ own.map (·.2)) (ho : Own g (own.map (·.2))) (ho1 : Own g1 vs1)
    (hg : ∀ (s : Shared) (H : Hp) (C : Addr) (cl : List (Str × Addr)) (fp : List Addr), SG (X.blk s H scope (compEnvC scope cl C X.env) fp) tg g dg) (ht : ∀ (s : Shared) (H : Hp) (C : Addr) (cl : List (Str × Addr)) (fp : List Addr), STs (X.blk s H scope (compEnvC scope cl C X.env) fp) ifs tt dt)
    (hi1 : ∀ (s : Shared) (H : Hp) (C : Addr) (cl : List (Str × Addr)) (fp : List Addr), SI (X.blk s H scope (compEnvC scope cl C X.env) fp) tg1 iter1 wi1 di1)
    (hg1 : ∀ (s : Shared) (H : Hp) (C : Addr) (cl : List (Str × Addr)) (fp : List Addr), SG (X.blk s H scope (compEnvC scope cl C X.env) fp) tg1 g1 dg1) (ht1 : ∀ (s : Shared) (H : Hp) (C : Addr) (cl : List (Str × Addr)) (fp : List Addr), STs (X.blk s H scope (compEnvC scope cl C X.env) fp) ifs1 tt1 dt1)
    (he : ∀ (s : Shared) (H : Hp) (C : Addr) (cl : List (Str × Addr)) (fp : List Addr), SE (X.blk s H scope (compEnvC scope cl C X.env) fp) elt te de) (hs : ∀ x, foldedSetIterable iter X.env x = pure x := by intro _; rfl) (hs1 : ∀ env x, foldedSetIterable iter1 env x = pure x := by intro _ _; rfl) :
    SE X (.ListComp elt [⟨tg, iter, ifs, 0⟩, ⟨tg1, iter1, ifs1, 0⟩] scope pos) (tLc2 wi g tt wi1 g1 tt1 te (own.map (·.2)) vs1) (dLc2 di dg dt di1 dg1 dt1 de (own.map (·.2)) vs1) :=
  ⟨pe_lc2 hc hN hi.pi ok hv (fun s H C cl fp => (hg s H C cl fp).pg) (fun s H C cl fp => (ht s H C cl fp).pts) (fun s H C cl fp => (hi1 s H C cl fp).pi) (fun s H C cl fp => (hg1 s H C cl fp).pg) (fun s H C cl fp => (ht1 s H C cl fp).pts) (fun s H C cl fp => (he s H C cl fp).pe) hs hs1,
    sim_lc2 hi.sim (hg ({} : Shared) (fun _ => none) 0 [] []).sim ho (ht ({} : Shared) (fun _ => none) 0 [] []).sim (hi1 ({} : Shared) (fun _ => none) 0 [] []).sim (hg1 ({} : Shared) (fun _ => none) 0 [] []).sim ho1 (ht1 ({} : Shared) (fun _ => none) 0 [] []).sim (he ({} : Shared) (fun _ => none) 0 [] []).sim⟩
/-- name = [..] where the model stores within the comprehension's frame -/
theorem ss_setLc [Bs] {i : Nat} {y : Str} {py : Pos} {spos : Pos} (hc : X.calm = true) (hN : X.N.Nodup) (hy : X.N[i]? = some y) (hyl : X.env.scope.names.lookup y = some .local)
    (hsw : swapsWith (.ListComp elt [⟨tg, iter, ifs, 0⟩] scope pos) (some (.Name y py)) spos.line X.env = pure true) (hi : SI X tg iter wi di) (ok : BlkOk X.N X.env.scope scope own) (ho : Own g (own.map (·.2)))
    (hg : ∀ (s : Shared) (H : Hp) (C : Addr) (cl : List (Str × Addr)) (fp : List Addr), SG (X.blk s H scope (compEnvC scope cl C X.env) fp) tg g dg) (ht : ∀ (s : Shared) (H : Hp) (C : Addr) (cl : List (Str × Addr)) (fp : List Addr), STs (X.blk s H scope (compEnvC scope cl C X.env) fp) ifs tt dt)
    (he : ∀ (s : Shared) (H : Hp) (C : Addr) (cl : List (Str × Addr)) (fp : List Addr), SE (X.blk s H scope (compEnvC scope cl C X.env) fp) elt te de) (hs : ∀ x, foldedSetIterable iter X.env x = pure x := by intro _; rfl) :
    SS X (.Assign [.Name y py] (.ListComp elt [⟨tg, iter, ifs, 0⟩] scope pos) spos) (tAsg (tLc wi g tt te (own.map (·.2))) (gName i)) (dSet i (dLc di dg dt de (own.map (·.2)))) :=
  ⟨ps_setLc hc hN hy hyl hsw hi.pi ok (fun s H C cl fp => (hg s H C cl fp).pg) (fun s H C cl fp => (ht s H C cl fp).pts) (fun s H C cl fp => (he s H C cl fp).pe) hs,
    sim_asg (sim_lc hi.sim (hg ({} : Shared) (fun _ => none) 0 [] []).sim ho (ht ({} : Shared) (fun _ => none) 0 [] []).sim (he ({} : Shared) (fun _ => none) 0 [] []).sim) sim_gname⟩
end
end DL

namespace DL
open PySem PySem.Spec L2

/-! ### cells that nobody needs are forgotten -/
mutual
def D.ren (π : Nat → Nat) : D → D
  | .tup xs => .tup (D.rens π xs)
  | .rol xs => .rol (D.rens π xs)
  | .ref k => .ref (π k)
  | .adr a => .adr a
  | .non => .non
  | .bl b => .bl b
  | .int i => .int i
  | .str x => .str x
  | .ty n => .ty n
def D.rens (π : Nat → Nat) : List D → List D
  | [] => []
  | d :: ds => d.ren π :: D.rens π ds
end
mutual
def D.lt (n : Nat) : D → Prop
  | .tup xs => D.lts n xs
  | .rol xs => D.lts n xs
  | .ref k => k < n
  | .adr _ => True
  | .non => True
  | .bl _ => True
  | .int _ => True
  | .str _ => True
  | .ty _ => True
def D.lts (n : Nat) : List D → Prop
  | [] => True
  | d :: ds => d.lt n ∧ D.lts n ds
end
def O.ren (π : Nat → Nat) : O → O
  | .lst xs => .lst (D.rens π xs)
  | .ins x fs => .ins x (fs.map fun f => (f.1, f.2.ren π))
def O.lt (n : Nat) : O → Prop
  | .lst xs => D.lts n xs
  | .ins _ fs => D.lts n (fs.map Prod.snd)
def Wf (st : Store) : Prop := ∀ (k : Nat) o, st[k]? = some o → o.lt st.length
section
variable {K : PySem.W.Frag} {ρ ρ0 : List Addr} {H : Hp}
mutual
theorem rep_ren {π : Nat → Nat} {m : Nat} (h : ∀ i, i < m → ρ0[i]? = ρ[π i]?) : ∀ (d : D) (v : V), d.lt m → Rep K ρ H (d.ren π) v → Rep K ρ0 H d v
  | .tup xs, v, hl, r => by
    unfold D.ren at r
    obtain ⟨a, vs, rfl, hs, hr⟩ := rep_tup r
    exact .tup hs (reps_ren h xs vs hl hr)
  | .rol xs, v, hl, r => by
    unfold D.ren at r
    obtain ⟨a, vs, rfl, hs, hr⟩ := rep_rol r
    unfold Rep
    exact ⟨a, vs, rfl, hs, reps_ren h xs vs hl hr⟩
  | .ref k, v, hl, r => by
    unfold D.ren at r
    obtain ⟨a, ha, rfl⟩ := rep_ref r
    exact .ref (by rw [h k hl]; exact ha)
  | .adr k, v, _, r => by unfold D.ren at r; rw [rep_adr r]; unfold Rep; rfl
  | .non, v, _, r => by unfold D.ren at r; rw [rep_non r]; exact .non
  | .bl b, v, _, r => by unfold D.ren at r; rw [rep_bl r]; exact .bl b
  | .int b, v, _, r => by unfold D.ren at r; rw [rep_int r]; exact .int b
  | .str b, v, _, r => by unfold D.ren at r; rw [rep_str r]; exact .str b
  | .ty b, v, _, r => by unfold D.ren at r; rw [rep_ty r]; unfold Rep; rfl
theorem reps_ren {π : Nat → Nat} {m : Nat} (h : ∀ i, i < m → ρ0[i]? = ρ[π i]?) : ∀ (ds : List D) (vs : List V), D.lts m ds → Reps K ρ H (D.rens π ds) vs → Reps K ρ0 H ds vs
  | [], vs, _, r => by
    unfold D.rens at r
    exact r
  | d :: ds, vs, hl, r => by
    unfold D.rens at r
    unfold Reps at r
    obtain ⟨v, w, rfl, r1, r2⟩ := r
    exact .cons (rep_ren h d v hl.1 r1) (reps_ren h ds w hl.2 r2)
end
mutual
theorem rep_lt : ∀ (d : D) (v : V), Rep K ρ H d v → d.lt ρ.length
  | .tup xs, v, r => by
    obtain ⟨a, vs, rfl, hs, hr⟩ := rep_tup r
    exact reps_lt xs vs hr
  | .rol xs, v, r => by
    obtain ⟨a, vs, rfl, hs, hr⟩ := rep_rol r
    exact reps_lt xs vs hr
  | .ref k, v, r => by
    obtain ⟨a, ha, rfl⟩ := rep_ref r
    exact (List.getElem?_eq_some_iff.mp ha).1
  | .adr _, v, _ => trivial
  | .non, v, _ => trivial
  | .bl b, v, _ => trivial
  | .int b, v, _ => trivial
  | .str b, v, _ => trivial
  | .ty b, v, _ => trivial
theorem reps_lt : ∀ (ds : List D) (vs : List V), Reps K ρ H ds vs → D.lts ρ.length ds
  | [], vs, _ => trivial
  | d :: ds, vs, r => by
    unfold Reps at r
    obtain ⟨v, w, rfl, r1, r2⟩ := r
    exact ⟨rep_lt d v r1, reps_lt ds w r2⟩
end
theorem RelS.wf [Bs] {st : Store} (r : RelS K ρ H st) : Wf st := fun k o e => by
  obtain ⟨a, _, q⟩ := r.ob k o e
  cases o with
  | lst xs =>
    obtain ⟨vs, _, hr⟩ := q
    rw [← r.len]
    exact reps_lt xs vs hr
  | ins x fs =>
    obtain ⟨C, dx, vs, _, _, _, hr⟩ := q
    rw [← r.len]
    exact reps_lt (fs.map Prod.snd) _ hr
end
mutual
theorem ren_id {π : Nat → Nat} {n : Nat} (h : ∀ i, i < n → π i = i) : ∀ d : D, d.lt n → d.ren π = d
  | .tup xs, hl => by unfold D.ren; rw [rens_id h xs hl]
  | .rol xs, hl => by unfold D.ren; rw [rens_id h xs hl]
  | .ref k, hl => by unfold D.ren; rw [h k hl]
  | .adr _, _ => rfl
  | .non, _ => rfl
  | .bl _, _ => rfl
  | .int _, _ => rfl
  | .str _, _ => rfl
  | .ty _, _ => rfl
theorem rens_id {π : Nat → Nat} {n : Nat} (h : ∀ i, i < n → π i = i) : ∀ ds : List D, D.lts n ds → D.rens π ds = ds
  | [], _ => rfl
  | d :: ds, hl => by unfold D.rens; rw [ren_id h d hl.1, rens_id h ds hl.2]
end
theorem O.ren_id {π : Nat → Nat} {n : Nat} (h : ∀ i, i < n → π i = i) (o : O) (hl : o.lt n) : o.ren π = o := by
  cases o with
  | lst xs =>
    show O.lst (D.rens π xs) = O.lst xs
    rw [rens_id h xs hl]
  | ins x fs =>
    have e : ∀ fs : List (Str × D), D.lts n (fs.map Prod.snd) → (fs.map fun f => (f.1, f.2.ren π)) = fs := fun fs => by
      induction fs with
      | nil => intro _; rfl
      | cons f fs ih =>
        intro hl
        rw [List.map_cons, ih hl.2, DL.ren_id h f.2 hl.1]
    show O.ins x (fs.map fun f => (f.1, f.2.ren π)) = O.ins x fs
    rw [e fs hl]
mutual
theorem D.lt_mono {n m : Nat} (h : n ≤ m) : ∀ d : D, d.lt n → d.lt m
  | .tup xs, hl => D.lts_mono h xs hl
  | .rol xs, hl => D.lts_mono h xs hl
  | .ref k, hl => Nat.lt_of_lt_of_le hl h
  | .adr _, _ => trivial
  | .non, _ => trivial
  | .bl _, _ => trivial
  | .int _, _ => trivial
  | .str _, _ => trivial
  | .ty _, _ => trivial
theorem D.lts_mono {n m : Nat} (h : n ≤ m) : ∀ ds : List D, D.lts n ds → D.lts m ds
  | [], _ => trivial
  | d :: ds, hl => ⟨D.lt_mono h d hl.1, D.lts_mono h ds hl.2⟩
end
theorem O.lt_mono {n m : Nat} (h : n ≤ m) (o : O) (hl : o.lt n) : o.lt m := by
  cases o with
  | lst xs => exact D.lts_mono h xs hl
  | ins x fs => exact D.lts_mono h (fs.map Prod.snd) hl
theorem lts_iff {n : Nat} : ∀ {ds : List D}, D.lts n ds ↔ ∀ d ∈ ds, d.lt n
  | [] => by simp [D.lts]
  | d :: ds => by
    unfold D.lts
    rw [lts_iff]
    simp
theorem fl_lt {n : Nat} : ∀ (m : Nat) (d : D), d.fl m = true → d.lt n := by
  intro m
  induction m with
  | zero =>
    intro d h
    cases d <;> first | trivial | (simp [D.fl] at h)
  | succ m ih =>
    have all : ∀ ds : List D, ds.all (D.fl m) = true → D.lts n ds := by
      intro ds h
      rw [lts_iff]
      intro d hd
      exact ih d (List.all_eq_true.mp h d hd)
    intro d h
    cases d with
    | tup xs => exact all xs h
    | rol xs => exact all xs h
    | ref _ => simp [D.fl] at h
    | _ => trivial
theorem fls_lt {n m : Nat} {ds : List D} (h : ds.all (D.fl m) = true) : D.lts n ds := by
  rw [lts_iff]
  intro d hd
  exact fl_lt m d (List.all_eq_true.mp h d hd)
structure Gc (n : Nat) (st st0 : Store) (π : Nat → Nat) : Prop where
  fix : ∀ i, i < n → π i = i
  le : n ≤ st0.length
  inj : ∀ i j, i < st0.length → j < st0.length → π i = π j → i = j
  obj : ∀ (i : Nat) o, st0[i]? = some o → st[π i]? = some (o.ren π) ∧ o.lt st0.length
section
variable {K : PySem.W.Frag} {ρ : List Addr} {H : Hp} {n : Nat} {st st0 : Store} {π : Nat → Nat}
theorem Gc.some (g : Gc n st st0 π) {i : Nat} (h : i < st0.length) : ∃ o, st[π i]? = some o := ⟨_, (g.obj i _ (List.getElem?_eq_getElem h)).1⟩
def gcρ (ρ : List Addr) (m : Nat) (π : Nat → Nat) : List Addr := (List.range m).map fun i => ρ.getD (π i) 0
theorem Gc.at [Bs] (g : Gc n st st0 π) (r : RelS K ρ H st) : ∀ i, i < st0.length → (gcρ ρ st0.length π)[i]? = ρ[π i]? := fun i hi => by
  obtain ⟨o, ho⟩ := g.some hi
  have hl : π i < ρ.length := by rw [r.len]; exact (List.getElem?_eq_some_iff.mp ho).1
  unfold gcρ
  rw [List.getElem?_map, List.getElem?_range hi, Option.map_some, List.getD_eq_getElem?_getD, List.getElem?_eq_getElem hl, Option.getD_some]
theorem gcρ_len {m : Nat} : (gcρ ρ m π).length = m := by unfold gcρ; rw [List.length_map, List.length_range]
theorem Gc.take [Bs] (g : Gc n st st0 π) (r : RelS K ρ H st) : (gcρ ρ st0.length π).take n = ρ.take n := by
  apply List.ext_getElem?
  intro i
  rw [List.getElem?_take, List.getElem?_take]
  split
  · rename_i hi
    have h0 := g.le
    rw [g.at r i (by omega), g.fix i hi]
  · rfl
theorem Gc.relS [Bs] (hb : Bs.n ≤ n) (g : Gc n st st0 π) (r : RelS K ρ H st) : RelS K (gcρ ρ st0.length π) H st0 := by
  refine ⟨gcρ_len, ?_, fun k o e => ?_, Bs.gl hb (g.take r).symm r.bs⟩
  · rw [List.nodup_iff_pairwise_ne, List.pairwise_iff_getElem]
    intro i j hi hj hij e
    rw [gcρ_len] at hi hj
    have e1 := g.at r i hi
    have e2 := g.at r j hj
    rw [List.getElem?_eq_getElem (by rw [gcρ_len]; exact hi)] at e1
    rw [List.getElem?_eq_getElem (by rw [gcρ_len]; exact hj)] at e2
    have e3 : π i = π j := nd_ix r.nd e1.symm (by rw [← e2, e])
    have := g.inj i j hi hj e3
    omega
  · have hk := (List.getElem?_eq_some_iff.mp e).1
    obtain ⟨e1, hl⟩ := g.obj k o e
    obtain ⟨a, ha, q⟩ := r.ob (π k) _ e1
    refine ⟨a, by rw [g.at r k hk]; exact ha, ?_⟩
    cases o with
    | lst xs =>
      obtain ⟨vs, hv, hr⟩ := q
      exact ⟨vs, hv, reps_ren (g.at r) xs vs hl hr⟩
    | ins x fs =>
      obtain ⟨C, dx, vs, hv, hx, hn, hr⟩ := q
      have e1 : ∀ fs : List (Str × D), (fs.map fun f => (f.1, f.2.ren π)).map Prod.fst = fs.map Prod.fst := fun fs => by simp
      have e2 : ∀ fs : List (Str × D), (fs.map fun f => (f.1, f.2.ren π)).map Prod.snd = D.rens π (fs.map Prod.snd) := fun fs => by
        induction fs with
        | nil => rfl
        | cons f fs ih =>
          show f.2.ren π :: _ = D.rens π (f.2 :: fs.map Prod.snd)
          unfold D.rens
          rw [← ih]
      rw [e1] at hn
      rw [e2] at hr
      exact ⟨C, dx, vs, hv, hx, hn, reps_ren (g.at r) (fs.map Prod.snd) (vs.map Prod.snd) hl hr⟩
theorem Gc.keep [Bs] (g : Gc n st st0 π) (r : RelS K ρ H st) : Keep (ρ.take n) (gcρ ρ st0.length π) H H := by
  refine ⟨⟨(gcρ ρ st0.length π).drop n, ?_⟩, fun _ _ h => h, fun _ _ _ h => h, fun _ _ h => h⟩
  rw [← g.take r, List.take_append_drop]
end
/-- a block that begins by forgetting -/
def dGc (ts : DTS) : DTS := fun n d env st => ∃ env0 st0 π, Gc n st st0 π ∧ env0.length = env.length ∧ (∀ (i : Nat) x, env0[i]? = some (some x) → env[i]? = some (some (x.ren π)) ∧ x.lt st0.length) ∧ ts n d env0 st0
theorem sim_gc [Bs] {K : PySem.W.Frag} {t : TS} {ts : DTS} (h : SimS K t ts) : SimS K t (dGc ts) := by
  intro n ρ env st σ H d W hn rs re q w
  obtain ⟨env0, st0, π, g, hl, he, q⟩ := q
  have hb : Bs.n ≤ n := Nat.le_trans w.bn (by rw [List.length_take]; omega)
  refine h n (gcρ ρ st0.length π) env0 st0 σ H d W (by rw [gcρ_len]; exact g.le) (g.relS hb rs) ⟨by rw [hl]; exact re.len, fun i x e => ?_⟩ q ?_
  · obtain ⟨e2, hlt⟩ := he i x e
    obtain ⟨v, e3, r⟩ := re.get i _ e2
    exact ⟨v, e3, rep_ren (g.at rs) x v hlt r⟩
  · rw [g.take rs]
    exact w
theorem sss_gc [Bs] {X : Cx} {s : List Stmt} {t : TS} {ts : DTS} (h : SSs X s t ts) : SSs X s t (dGc ts) := ⟨h.pss, sim_gc h.sim⟩
/-- nothing is forgotten -/
theorem gc_id {n : Nat} {ts : DTS} {d : DEnds} {env : DEnv} {st : Store} (hn : n ≤ st.length) (wf : Wf st) (we : ∀ (i : Nat) x, env[i]? = some (some x) → x.lt st.length) (h : ts n d env st) : dGc ts n d env st :=
  ⟨env, st, fun i => i, ⟨fun _ _ => rfl, hn, fun _ _ _ _ e => e, fun i o e => ⟨by rw [O.ren_id (n := st.length) (fun _ _ => rfl) o (wf i o e)]; exact e, wf i o e⟩⟩, rfl, fun i x e => ⟨by rw [ren_id (n := st.length) (fun _ _ => rfl) x (we i x e)]; exact e, we i x e⟩, h⟩
/-- a def's return: what the caller sees -/
def Ret (n : Nat) (Q : DQ) : DQ := fun d st => ∃ d0 st0 π, Gc n st st0 π ∧ d = d0.ren π ∧ d0.lt st0.length ∧ Q d0 st0
/-- flat data, or cells that stay: the new cells are forgotten -/
theorem ret_old {n : Nat} {Q : DQ} {d : D} {st st0 : Store} (hn : n ≤ st0.length) (he : ∀ i, i < st0.length → st[i]? = st0[i]?) (hw : Wf st0) (hd : d.lt st0.length) (h : Q d st0) : Ret n Q d st :=
  ⟨d, st0, fun i => i, ⟨fun _ _ => rfl, hn, fun _ _ _ _ e => e, fun i o e => ⟨by rw [O.ren_id (n := st0.length) (fun _ _ => rfl) o (hw i o e)]; exact (he i (List.getElem?_eq_some_iff.mp e).1).trans e, hw i o e⟩⟩, (ren_id (n := st0.length) (fun _ _ => rfl) d hd).symm, hd, h⟩
/-- one new cell is handed back -/
theorem ret_new {n k : Nat} {Q : DQ} {o : O} {st st0 : Store} (hn : n = st0.length) (hk : n ≤ k) (he : ∀ i, i < st0.length → st[i]? = st0[i]?) (hw : Wf st0) (hd : st[k]? = some o) (ho : o.lt n) (h : Q (.ref n) (st0 ++ [o])) : Ret n Q (.ref k) st := by
  subst hn
  have fx : ∀ i, i < st0.length → (if i < st0.length then i else k) = i := fun i hi => if_pos hi
  refine ⟨.ref st0.length, st0 ++ [o], fun i => if i < st0.length then i else k, ⟨fx, by simp, fun i j hi hj e => ?_, fun i u e => ?_⟩, ?_, ?_, h⟩
  · rw [List.length_append, List.length_singleton] at hi hj
    by_cases h1 : i < st0.length
    · rw [if_pos h1] at e
      by_cases h2 : j < st0.length
      · rw [if_pos h2] at e
        exact e
      · rw [if_neg h2] at e
        omega
    · rw [if_neg h1] at e
      by_cases h2 : j < st0.length
      · rw [if_pos h2] at e
        omega
      · omega
  · by_cases h1 : i < st0.length
    · rw [List.getElem?_append_left h1] at e
      rw [if_pos h1, O.ren_id fx u (hw i u e)]
      exact ⟨(he i h1).trans e, O.lt_mono (by simp) u (hw i u e)⟩
    · have hi : i = st0.length := by
        have := (List.getElem?_eq_some_iff.mp e).1
        rw [List.length_append, List.length_singleton] at this
        omega
      subst hi
      rw [List.getElem?_append_right (Nat.le_refl _), Nat.sub_self] at e
      have e' : o = u := by simpa using e
      subst e'
      rw [if_neg (Nat.lt_irrefl _), O.ren_id fx o ho]
      exact ⟨hd, O.lt_mono (by simp) o ho⟩
  · unfold D.ren
    rw [if_neg (Nat.lt_irrefl _)]
  · show st0.length < (st0 ++ [o]).length
    simp

/-! ### a def by its body -/
def dstart (N : List Str) (ds : List D) : DEnv := ds.map some ++ List.replicate (N.length - ds.length) none
theorem relE_start {K : PySem.W.Frag} {ρ : List Addr} {H : Hp} {N : List Str} {ds : List D} {vs : List V} (r : Reps K ρ H ds vs) : RelE K ρ H (dstart N ds) (L2.start N vs) := by
  unfold dstart L2.start
  refine ⟨by simp [r.len], fun i d e => ?_⟩
  by_cases hi : i < ds.length
  · rw [List.getElem?_append_left (by simpa using hi), List.getElem?_map] at e
    cases e2 : ds[i]? with
    | none => rw [e2] at e; cases e
    | some x =>
      rw [e2] at e
      cases e
      obtain ⟨v, hv, hr⟩ := r.get e2
      exact ⟨v, by rw [List.getElem?_append_left (by rw [List.length_map, ← r.len]; exact hi), List.getElem?_map, hv]; rfl, hr⟩
  · rw [List.getElem?_append_right (by simpa using hi), List.getElem?_replicate] at e
    split at e <;> cases e
section
variable {P : Program} {w : World} {K : PySem.W.Frag} {mg : Str → Option Value} {base : Heap}
theorem Fun.okD {x qual : Str} {st : Stmt} {f : Addr} {fd : FuncData} {N ps : List Str} {k : Nat} {dsp : DSp} (F : Fun K x qual st f fd) (S : FnScope N ps (defScope st)) (len : ∀ ds s Q, dsp ds s Q → ds.length = ps.length)
    (hbody : ∀ (cdv : Value) (A : Around) (outer : List Env) (s : Shared) (H : Hp) (E : XK), Room k (A.deeper (PyProof.Rows.envOfC qual (defScope st) s.heap.objs.size f cdv)) →
      ∃ t ts, SSs (cxOf CX0 P w K mg base N qual (defScope st) f cdv A outer s H E).nox (defBody st) t ts ∧
        ∀ ds st Q, Wf st → D.lts st.length ds → dsp ds st Q → ts st.length { nx := fun _ st' => Ret st.length Q .non st', rt := Ret st.length Q } (dstart N ds) st) : FnOk P w K mg base CX0 (k + 1) f fd ps (spOf K dsp) := by
  refine F.ok S (fun vs H Q E h => ?_) (fun cdv A outer s H vs Q E hr h => ?_)
  · obtain ⟨ρ, ds, st, QD, _, r, q, _⟩ := h
    rw [← r.len]
    exact len ds st QD q
  · obtain ⟨ρ, ds, sto, QD, rs, r, q, wq⟩ := h
    obtain ⟨t, ts, hS, hb⟩ := hbody cdv A outer s H E hr
    refine ⟨t, hS.pss, ?_⟩
    have hl : sto.length ≤ ρ.length := by rw [rs.len]; exact Nat.le_refl _
    refine hS.sim sto.length ρ (dstart N ds) sto (start N vs) H _ _ hl rs (relE_start r) (hb ds sto QD rs.wf (by rw [← rs.len]; exact reps_lt ds vs r) q) ?_
    have et : ρ.take sto.length = ρ := by rw [← rs.len, List.take_length]
    rw [et]
    have fin : ∀ (v : V) (H' : Hp) (ρ' : List Addr) (y : D) (st' : Store), Keep ρ ρ' H H' → RelS K ρ' H' st' → Rep K ρ' H' y v → Ret sto.length QD y st' → Q v H' := fun v H' ρ' y st' k rs' ry q => by
      obtain ⟨d0, st0, π, g, rfl, hlt, q⟩ := q
      refine wq v H' ⟨gcρ ρ' st0.length π, d0, st0, ?_, g.relS (Nat.zero_le _) rs', rep_ren (g.at rs') d0 v hlt ry, q⟩
      have k2 := g.keep rs'
      have e : ρ'.take sto.length = ρ := by
        obtain ⟨u, rfl⟩ := k.pre
        rw [List.take_append_of_le_length hl, et]
      rw [e] at k2
      exact ⟨k2.pre, k.tups, k.frzs, k.xds⟩
    exact ⟨fun σ' H' ρ' env' st' k rs' re' q' => fin .non H' ρ' .non st' k rs' .non q', fun v H' ρ' y st' k rs' ry q' => fin v H' ρ' y st' k rs' ry q', fun _ _ _ _ _ _ _ _ z => z.elim, fun _ _ _ _ _ _ _ _ z => z.elim, Nat.zero_le _⟩
end
/-! ### the law -/
/-- for a list of at most 63 ints the answer is True -/
def spLaw : DSp := fun ds _ Q => ∃ ns : List Int, ds = [.rol (ns.map D.int)] ∧ ns.length ≤ 63 ∧ ∀ st', Q (.bl true) st'
theorem sp_law {K : PySem.W.Frag} {H : Hp} {a : Addr} {ns : List Int} {E : XK} (hl : ns.length ≤ 63) (hO : Only H) (hS : SqL K H a (ns.map V.int)) : spOf K spLaw [.ref a] H (fun v _ => v = .bl true) E := by
  refine ⟨[], [.rol (ns.map D.int)], [], fun d _ => d = .bl true, ⟨rfl, by simp, fun k o e => by simp at e, trivial⟩, .cons ?_ .nil, ⟨ns, rfl, hl, fun _ => rfl⟩, fun v H' h => ?_⟩
  · unfold Rep
    refine ⟨a, ns.map V.int, rfl, ?_, Reps.ints ns⟩
    rcases hS with (h | ⟨o, h⟩) | h
    · rcases hO a with z | ⟨o, xs, z⟩
      · rw [z] at h; cases h
      · rw [z] at h; cases h
    · exact .inl ⟨o, h⟩
    · exact .inr h
  · obtain ⟨_, d, _, _, _, r, rfl⟩ := h
    exact rep_bl r
end DL

/-! list(reversed(list)) -/
namespace RT
open PySem PySem.Spec PyProof.Rows L2
section
variable {prog : Program} {w : World} {A : Around} {E : Value → Shared → Prop} {s : Shared}
theorem call_list_rev {it l : Addr} {items : Array Value} {Q : Value → Shared → Prop} (hh : A.handled = none) (hit : s.heap.IsRevIter it l ((items.size : Int) - 1)) (hl : s.heap.IsList l items) (hne : l ≠ it) (hn : items.size ≤ sizeLine)
    (hQ : ∀ (h' : Heap) (tk : Nat) (acc : Array Value) (c' : Nat), (∀ b o, b ≠ it → s.heap.get? b = some o → h'.get? b = some o) → h'.get? s.heap.objs.size = some { cls := .type "list", dict := none, data := .seq acc c', slots := #[] } →
      ItemsOf (fun i v => items[items.size - 1 - i]? = some v) acc items.size → Q (.ref s.heap.objs.size) { s with heap := h', toks := tk }) :
    wpAny (model prog w) A (call (.type "list") [.ref it]) Q E s := by
  refine callType_codes (Q₁ := fun obj s₁ => obj = .ref s.heap.objs.size ∧ s₁ = { s with heap := s.heap.push { cls := .type "list", data := .seq #[] } }) PySem.F.called_list (PySem.F.typeCall_list_1 _) PySem.F.entry_list_init
    (code_list_new _ ⟨rfl, rfl⟩) fun obj s₁ h₁ => ?_
  obtain ⟨rfl, rfl⟩ := h₁
  have hS : (s.heap.push { cls := .type "list", data := .seq #[] }).get? s.heap.objs.size = some { cls := .type "list", data := .seq #[] } := Heap.get?_push_size _ rfl
  refine ⟨⟨_, hS, rfl⟩, PySem.F.args_list_init_2 _ _, ?_⟩
  have W := (Walks.listRev (prog := prog) (w := w) (A := A.in1.in1) hh it l hne items).toS
  obtain ⟨oi, hoi, _⟩ := id hit
  obtain ⟨ol, hol, _⟩ := id hl
  have hSi : s.heap.objs.size ≠ it := Nat.ne_of_gt (Heap.lt_size hoi)
  have hSl : s.heap.objs.size ≠ l := Nat.ne_of_gt (Heap.lt_size hol)
  have hSf : s.heap.objs.size ∉ [it, l] := by simp only [List.mem_cons, List.not_mem_nil, or_false, not_or]; exact ⟨hSi, hSl⟩
  show wpAny _ _ (do let old ← Builtin.List.listItems (.ref s.heap.objs.size); Builtin.List.listUpdate (.ref s.heap.objs.size) (fun _ => #[]); letGo old.toList.reverse; Builtin.List.listExtendWith (.ref s.heap.objs.size) (.ref it) .none) _ _ _
  refine wpAny_bind ?_
  unfold Builtin.List.listItems
  refine wpAny_bind (wpAny_seqItems hS rfl (wpAny_pure ?_))
  show wpAny _ _ (updateSeq s.heap.objs.size (fun _ => #[]) >>= fun _ => letGo (#[] : Array Value).toList.reverse >>= fun _ => Builtin.List.listExtendWith (.ref s.heap.objs.size) (.ref it) .none) _ _ _
  refine wpAny_bind (wpAny_updateSeq hS rfl ?_)
  have hS₂ := Heap.get?_update_self (Obj.mapSeq (fun _ => (#[] : Array Value))) hS rfl
  have oth : ∀ b o, b ≠ s.heap.objs.size → (s.heap.push { cls := .type "list", data := .seq #[] }).get? b = some o → ((s.heap.push { cls := .type "list", data := .seq #[] }).update s.heap.objs.size (Obj.mapSeq (fun _ => (#[] : Array Value)))).get? b = some o :=
    fun b o hb e => (Heap.get?_update_other _ _ (Ne.symm hb)).trans e
  refine wpAny_bind (wpAny_letGo ?_)
  generalize hH : ((s.heap.push { cls := .type "list", data := .seq #[] }).update s.heap.objs.size (Obj.mapSeq (fun _ => (#[] : Array Value)))) = h2 at hS₂ oth ⊢
  have hit1 : h2.IsRevIter it l ((items.size : Int) - 1) := (hit.at fun o e => oth _ _ hSi.symm (Heap.get?_push_of_some _ e))
  have hl1 : h2.IsList l items := by
    obtain ⟨o, e, r⟩ := hl
    exact ⟨o, oth _ _ hSl.symm (Heap.get?_push_of_some _ e), r⟩
  have hT : ({ s with heap := h2 } : Shared).TypeIs (.ref it) "list_reverseiterator" := Heap.IsRevIter.typeIs (s := { s with heap := h2 }) hit1
  have h1 : Builtin.List.listSameRef (.ref s.heap.objs.size) (.ref it) = false := by simp [Builtin.List.listSameRef, hSi]
  unfold Builtin.List.listExtendWith
  refine wpAny_bind (wpAny_typeOf hT ?_)
  rw [if_neg (by rw [h1]; decide)]
  refine wpAny_bind (wpAny_pyIter_revIter (s := { s with heap := h2 }) hit1 ?_)
  refine wpAny_bind (wpAny_holding ?_)
  unfold Builtin.List.listLengthHint
  refine wpAny_bind (wpAny_specialOf hT nolen_lri ?_)
  show wpAny _ _ (specialOf (Value.ref it) (Str.ofString "__length_hint__") >>= _) _ _ _
  refine wpAny_bind (wpAny_specialOf hT hint_lri ?_)
  generalize hid : ("list_reverseiterator.__length_hint__" : String) = id0
  wp_delta
  rw [show splitId id0 = some ("list_reverseiterator", "__length_hint__") from by subst hid; decide +kernel]
  subst hid
  refine wpAny_bind (wpAny_isInstance (b := true) hT (by rw [isSubtype_type]; kernel_rfl) ?_)
  refine wpAny_pure ?_
  rw [if_neg (by decide)]
  have e0 : ((items.size : Nat) : Int) - 1 - ((0 : Nat) : Int) = (items.size : Int) - 1 := by omega
  refine wpAny_pure ⟨plainId_quiet F.plain_extend_loop _, codeAny_extend_loopS W hn _ hSf _ items.size 0 _ _ _ rfl (Nat.zero_le _) ⟨Nat.zero_le _, by rw [e0]; exact hit1, hl1⟩ hS₂ (ItemsOf.nil _) fun s' acc' c' hm hS' hacc => ?_⟩
  rw [Moved.eq_with hm]
  refine ⟨rfl, hQ s'.heap s'.toks acc' c' (fun b o hb e => hm.heap b o (fun hmem => ?_) (oth b o (Nat.ne_of_lt (Heap.lt_size e)) (Heap.get?_push_of_some _ e))) hS' hacc⟩
  rcases List.mem_cons.mp hmem with e' | hmem
  · exact absurd (Heap.lt_size e) (by rw [e']; exact Nat.lt_irrefl _)
  · exact hb (List.mem_singleton.mp hmem)
end
def tListRev (K : PySem.W.Frag) (te : TE) : TE := fun σ H Q => te σ H fun v H1 => ∃ (a : Addr) (xs : List V), v = .ref a ∧ SqL K H1 a xs ∧ ∀ q, H1 q = none → Q (.ref q) (upd H1 q (.lst xs.reverse))
section
variable {X : Cx}
theorem pe_listRev {e : Expr} {te : TE} {p p2 pos pos2 : Pos} (hc : X.calm = true) (hg : Gl X "list") (hm : X.mg "list" = none) (hg2 : Gl X "reversed") (hm2 : X.mg "reversed" = none) (he : PE X e te)
    (hs : starEach [e] X.env = (false, eval e X.env) :: starEach [] X.env := by rfl)
    (hs2 : starEach [.Call (.Name "reversed" p2) [e] [] pos2] X.env = (false, eval (.Call (.Name "reversed" p2) [e] [] pos2) X.env) :: starEach [] X.env := by rfl) :
    PE X (.Call (.Name "list" p) [.Call (.Name "reversed" p2) [e] [] pos2] [] pos) (tListRev X.K te) := by
  refine ⟨fun pins s σ H Q I h => ?_⟩
  refine Call_ (ld_blt I hg hm boot_list (PyProof.Rows.callWith_type1 (args_cons (Call_ (ld_blt I hg2 hm2 PyProof.Rows.boot_reversed (PyProof.Rows.callWith_type1 (args_cons (thn (he.run pins s σ H _ I h) fun u s1 ⟨v, H1, I1, r1, q1⟩ => args_nil ?_) hs) hs rfl))) hs2) hs2 rfl))
  obtain ⟨a, xs, ev, hq, q⟩ := q1
  subst ev
  obtain rfl : u = Value.ref a := r1
  obtain ⟨its, rv, p', hz⟩ := I1.list hq
  refine call_reversed_list p'.isList (args_nil ?_)
  have k0 : ∀ b o, s1.heap.get? b = some o → (s1.heap.push (revObj a ((its.toArray.size : Int) - 1))).get? b = some o := fun b o e => Heap.get?_push_of_some _ e
  have I2 : Inv X pins σ H1 { s1 with heap := s1.heap.push (revObj a ((its.toArray.size : Int) - 1)) } := I1.kept (t' := s1.toks) k0
  obtain ⟨f0, f1, f2, f3, f4, f5⟩ := I1.fpOk (H' := H1) (b := s1.heap.objs.size) (Nat.le_refl _) (I1.hok.fresh (Nat.le_refl _))
  have hl := p'.isList
  obtain ⟨ol, hol, _⟩ := id hl
  have hne : a ≠ s1.heap.objs.size := Nat.ne_of_lt (Heap.lt_size hol)
  have hn : its.toArray.size ≤ sizeLine := by rw [List.size_toArray, ← rv.length]; exact hz
  refine call_list_rev (s := { s1 with heap := s1.heap.push (revObj a ((its.toArray.size : Int) - 1)) }) (I1.ok.hd hc) ⟨_, Heap.get?_push_size _ rfl, rfl, rfl⟩ (hl.push _) hne hn fun h' tk acc c' hk hS hi => ?_
  have hf : ∀ b ∈ [s1.heap.objs.size], FpOk X pins H1 b := fun b hb => by
    rw [List.mem_singleton.mp hb]
    exact ⟨f0, f1, f2, f3, f4, f5⟩
  have fr : H1 (s1.heap.push (revObj a ((its.toArray.size : Int) - 1))).objs.size = none := I2.hok.fresh (Nat.le_refl _)
  have hlen : xs.reverse.length ≤ sizeLine := by rw [List.length_reverse]; exact hz
  have new : ObjOk X.prog X.w (upd H1 (s1.heap.push (revObj a ((its.toArray.size : Int) - 1))).objs.size (.lst xs.reverse)) h' (s1.heap.push (revObj a ((its.toArray.size : Int) - 1))).objs.size (.lst xs.reverse) := by
    refine ⟨hlen, acc.toList, c', vals_rev rv hi, ?_⟩
    rw [Array.toArray_toList]
    exact hS
  have I4 := I2.turnedNew (t' := tk) (ch := [s1.heap.objs.size]) (h' := h') (fun b o hb e => hk b o (fun z => hb (by rw [z]; exact List.mem_singleton_self _)) e) hf (Nat.le_refl _) new
  exact ⟨.ref _, _, I4, rfl, q _ fr⟩
end
end RT
namespace DL
open PySem PySem.Spec L2
theorem ditems_at [Bs] {K : PySem.W.Frag} {ρ : List Addr} {H : Hp} {st : Store} {k : Nat} {xs : List D} {v : V} (r : RelS K ρ H st) (px : Rep K ρ H (.ref k) v) (e : st[k]? = some (.lst xs)) : ∃ a vs, v = .ref a ∧ SqL K H a vs ∧ Reps K ρ H xs vs := by
  obtain ⟨a, ha, rfl⟩ := rep_ref px
  obtain ⟨vs, hv, hr⟩ := r.lst ha e
  exact ⟨a, vs, rfl, SqL.of hv, hr⟩
/-- of a list: its items from the end -/
def dRevOf (te : DTE) (fin : List D → Store → DQ → Prop) : DTE := fun env st Q => te env st fun x st1 => match x with
  | .ref k => match st1[k]? with
    | some (.lst xs) => fin xs.reverse st1 Q
    | _ => False
  | .rol xs => fin xs.reverse st1 Q
  | _ => False
def dTupleRev (te : DTE) : DTE := dRevOf te fun xs st Q => Q (.tup xs) st
def dListRev (te : DTE) : DTE := dRevOf te fun xs st Q => Q (.ref st.length) (st ++ [.lst xs])
section
variable {X : Cx} {e : Expr} {te : TE} {de : DTE} {p p2 pos pos2 : Pos}
theorem se_tupRev [Bs] {K : PySem.W.Frag} [hk : HasK X K] (hc : X.calm = true) (hg : Gl X "tuple") (hm : X.mg "tuple" = none) (hg2 : Gl X "reversed") (hm2 : X.mg "reversed" = none) (he : SE X e te de)
    (hs : starEach [e] X.env = (false, eval e X.env) :: starEach [] X.env := by rfl)
    (hs2 : starEach [.Call (.Name "reversed" p2) [e] [] pos2] X.env = (false, eval (.Call (.Name "reversed" p2) [e] [] pos2) X.env) :: starEach [] X.env := by rfl) :
    SE X (.Call (.Name "tuple" p) [.Call (.Name "reversed" p2) [e] [] pos2] [] pos) (RT.tTupRev K te) (dTupleRev de) := by
  obtain rfl := hk.eq
  refine ⟨RT.pe_tupRev hc hg hm hg2 hm2 he.pe hs hs2, fun ρ env st σ H Q W rs re q w => ?_⟩
  refine he.sim ρ env st σ H _ _ rs re q fun x H1 ⟨ρ1, dx, st1, k1, r1, px, q1⟩ => ?_
  cases dx with
  | ref k =>
    dsimp only at q1
    split at q1
    · rename_i xs e
      obtain ⟨a, vs, rfl, hs, hr⟩ := ditems_at r1 px e
      exact ⟨a, vs, rfl, hs, fun q hq => w _ _ ((PostE.tup r1 hq hr.rev q1).keep k1)⟩
    · exact q1.elim
  | rol xs =>
    obtain ⟨a, vs, rfl, hs, hr⟩ := rep_rol px
    exact ⟨a, vs, rfl, sqf_l hs, fun q hq => w _ _ ((PostE.tup r1 hq hr.rev q1).keep k1)⟩
  | _ => exact q1.elim
theorem se_listRev [Bs] {K : PySem.W.Frag} [hk : HasK X K] (hc : X.calm = true) (hg : Gl X "list") (hm : X.mg "list" = none) (hg2 : Gl X "reversed") (hm2 : X.mg "reversed" = none) (he : SE X e te de)
    (hs : starEach [e] X.env = (false, eval e X.env) :: starEach [] X.env := by rfl)
    (hs2 : starEach [.Call (.Name "reversed" p2) [e] [] pos2] X.env = (false, eval (.Call (.Name "reversed" p2) [e] [] pos2) X.env) :: starEach [] X.env := by rfl) :
    SE X (.Call (.Name "list" p) [.Call (.Name "reversed" p2) [e] [] pos2] [] pos) (RT.tListRev K te) (dListRev de) := by
  obtain rfl := hk.eq
  refine ⟨RT.pe_listRev hc hg hm hg2 hm2 he.pe hs hs2, fun ρ env st σ H Q W rs re q w => ?_⟩
  refine he.sim ρ env st σ H _ _ rs re q fun x H1 ⟨ρ1, dx, st1, k1, r1, px, q1⟩ => ?_
  cases dx with
  | ref k =>
    dsimp only at q1
    split at q1
    · rename_i xs e
      obtain ⟨a, vs, rfl, hs, hr⟩ := ditems_at r1 px e
      exact ⟨a, vs, rfl, hs, fun q hq => w _ _ ((PostE.lst r1 hq hr.rev q1).keep k1)⟩
    · exact q1.elim
  | rol xs =>
    obtain ⟨a, vs, rfl, hs, hr⟩ := rep_rol px
    exact ⟨a, vs, rfl, sqf_l hs, fun q hq => w _ _ ((PostE.lst r1 hq hr.rev q1).keep k1)⟩
  | _ => exact q1.elim
end
/-! ### isinstance with a built-in class -/
def D.tyName (st : Store) : D → Option String
  | .non => some "NoneType"
  | .bl _ => some "bool"
  | .int _ => some "int"
  | .str _ => some "str"
  | .tup _ => some "tuple"
  | .rol _ => some "list"
  | .ref k => match st[k]? with
    | some (.lst _) => some "list"
    | _ => none
  | .ty _ => none
  | .adr _ => none
/-- the answer, for the classes that are written here -/
def isiD (t c : String) : Option Bool := match c with
  | "int" => match t with
    | "int" => some true | "bool" => some true | "str" => some false | "tuple" => some false | "list" => some false | "NoneType" => some false
    | _ => none
  | "bool" => match t with
    | "int" => some false | "bool" => some true | "str" => some false | "tuple" => some false | "list" => some false | "NoneType" => some false
    | _ => none
  | "str" => match t with
    | "int" => some false | "bool" => some false | "str" => some true | "tuple" => some false | "list" => some false | "NoneType" => some false
    | _ => none
  | "tuple" => match t with
    | "int" => some false | "bool" => some false | "str" => some false | "tuple" => some true | "list" => some false | "NoneType" => some false
    | _ => none
  | "list" => match t with
    | "int" => some false | "bool" => some false | "str" => some false | "tuple" => some false | "list" => some true | "NoneType" => some false
    | _ => none
  | _ => none
theorem isi_kit : ∀ {t c : String} {b : Bool}, isiD t c = some b → kitB t c = some b := by
  intro t c b h
  unfold isiD at h
  split at h <;> first | (cases h; done) | (split at h <;> first | (cases h; decide +kernel) | cases h)
def dIsi : DRA := fun ds st Q => match ds with
  | [x, .ty c] => match x.tyName st with
    | some t => match isiD t c with
      | some b => Q (.bl b) st
      | none => False
    | none => False
  | _ => False
theorem sqt_tyx {K : PySem.W.Frag} {H : Hp} {a : Addr} {vs : List V} (h : SqT K H a vs) : TyX K H (.ref a) (.type "tuple") := by
  rcases h with (h | ⟨o, h⟩) | ⟨o, its, n, hk, hc, _⟩
  · exact .base (.tup h)
  · exact .fTuple h
  · exact .kTuple hk hc
theorem sql_tyx {K : PySem.W.Frag} {H : Hp} {a : Addr} {vs : List V} (h : SqL K H a vs) : TyX K H (.ref a) (.type "list") := by
  rcases h with (h | ⟨o, h⟩) | ⟨o, its, n, hk, hc, _⟩
  · exact .base (.lst h)
  · exact .base (.frz h)
  · exact .kList hk hc
theorem sc_isi [Bs] {X : Cx} {K : PySem.W.Frag} [hk : HasK X K] : SCl X (.builtin "isinstance") (rIsi K) dIsi := by
  obtain rfl := hk.eq
  refine ⟨call_isi, fun ρ st H xs dxs Q W rs px q w => ?_⟩
  unfold dIsi at q
  split at q
  · rename_i x c
    obtain ⟨v, u, rfl, p1, p2⟩ := px.two
    obtain rfl := rep_ty p2
    split at q
    · rename_i t ht
      split at q
      · rename_i b hb
        have ty : TyX X.K H v (.type t) := by
          cases x with
          | non => cases ht; rw [rep_non p1]; exact .base .non
          | bl y => cases ht; rw [rep_bl p1]; exact .base (.bl y)
          | int y => cases ht; rw [rep_int p1]; exact .base (.int y)
          | str y => cases ht; rw [rep_str p1]; exact .base (.str y)
          | tup ys => cases ht; obtain ⟨a, vs, rfl, hs, _⟩ := rep_tup p1; exact sqt_tyx hs
          | rol ys => cases ht; obtain ⟨a, vs, rfl, hs, _⟩ := rep_rol p1; exact sql_tyx (sqf_l hs)
          | ref k =>
            unfold D.tyName at ht
            dsimp only at ht
            split at ht
            · rename_i ys e
              cases ht
              obtain ⟨a, vs, rfl, hs, _⟩ := ditems_at rs p1 e
              exact sql_tyx hs
            · cases ht
          | ty n => cases ht
          | adr n => cases ht
        exact ⟨v, .ty c, .type t, .type c, b, rfl, .ty c, ty, kit_ty (isi_kit hb), w _ H (.of rs (.bl _) q)⟩
      · exact q.elim
    · exact q.elim
  · exact q.elim
end DL

/-! words, and how the layer sees them -/
namespace DL
open PySem PySem.Spec L2
structure Letter where
  nm : Fin 128
  hs : List Int
  deriving DecidableEq
abbrev Run := Letter × Int
abbrev Word := List Run
def dL (l : Letter) : D := .tup (.str ⟨#[l.nm.val]⟩ :: l.hs.map D.int)
def dRun (r : Run) : D := .tup [dL r.1, .int r.2]
def dW (w : Word) : D := .tup (w.map dRun)
theorem strOk1 (n : Fin 128) : PyData.strOk ⟨#[n.val]⟩ = true := by
  unfold PyData.strOk
  have := n.isLt
  simp
  omega
theorem fl_ints (n : Nat) (hs : List Int) : (hs.map D.int).all (D.fl n) = true := by
  rw [List.all_eq_true]
  intro d hd
  obtain ⟨i, _, rfl⟩ := List.mem_map.mp hd
  cases n <;> rfl
theorem fl_L (n : Nat) (l : Letter) : (dL l).fl (n + 1) = true := by
  unfold dL D.fl
  rw [List.all_cons, fl_ints, Bool.and_true]
  cases n <;> exact strOk1 l.nm
theorem fl_run (n : Nat) (r : Run) : (dRun r).fl (n + 2) = true := by
  unfold dRun D.fl
  simp only [List.all_cons, List.all_nil, Bool.and_true, fl_L, Bool.true_and]
  rfl
theorem fl_runs (n : Nat) (w : Word) : (w.map dRun).all (D.fl (n + 2)) = true := by
  rw [List.all_eq_true]
  intro d hd
  obtain ⟨i, _, rfl⟩ := List.mem_map.mp hd
  exact fl_run n i
theorem fl_W (n : Nat) (w : Word) : (dW w).fl (n + 3) = true := by
  unfold dW
  show (w.map dRun).all (D.fl (n + 2)) = true
  exact fl_runs n w
theorem eqv_ints : ∀ hs ks : List Int, PyData.eqvAll (D.pys (hs.map D.int)) (D.pys (ks.map D.int)) = decide (hs = ks)
  | [], [] => by simp [D.pys, PyData.eqvAll]
  | [], k :: ks => by simp [D.pys, PyData.eqvAll]
  | h :: hs, [] => by simp [D.pys, PyData.eqvAll]
  | h :: hs, k :: ks => by
    have ih := eqv_ints hs ks
    simp only [List.map_cons, D.pys, PyData.eqvAll, D.py, PyData.eqv, ih]
    rw [Bool.eq_iff_iff]
    simp
theorem eqv_L (l m : Letter) : PyData.eqv (dL l).py (dL m).py = decide (l = m) := by
  obtain ⟨n, hs⟩ := l
  obtain ⟨k, ks⟩ := m
  unfold dL
  simp only [D.py, D.pys, PyData.eqv, PyData.eqvAll, eqv_ints]
  rw [Bool.eq_iff_iff]
  simp [Fin.ext_iff]
theorem eqv_run (r q : Run) : PyData.eqv (dRun r).py (dRun q).py = decide (r = q) := by
  obtain ⟨l, e⟩ := r
  obtain ⟨m, f⟩ := q
  unfold dRun
  have h := eqv_L l m
  simp only [D.py, D.pys, PyData.eqv, PyData.eqvAll, h, Bool.and_true]
  rw [Bool.eq_iff_iff]
  simp
theorem eqv_runs : ∀ u v : Word, PyData.eqvAll (D.pys (u.map dRun)) (D.pys (v.map dRun)) = decide (u = v)
  | [], [] => by simp [D.pys, PyData.eqvAll]
  | [], k :: ks => by simp [D.pys, PyData.eqvAll]
  | h :: hs, [] => by simp [D.pys, PyData.eqvAll]
  | h :: hs, k :: ks => by
    have ih := eqv_runs hs ks
    have h1 := eqv_run h k
    simp only [List.map_cons, D.pys, PyData.eqvAll, ih, h1]
    rw [Bool.eq_iff_iff]
    simp
theorem eqv_W (u v : Word) : PyData.eqv (dW u).py (dW v).py = decide (u = v) := by
  unfold dW
  simp only [D.py, PyData.eqv, eqv_runs]
theorem pyd_fl {st : Store} {d : D} (h : d.fl 8 = true) : pyd st d = some d.py := by
  unfold pyd
  rw [if_pos h]
theorem dEqv_fl {st : Store} {x y : D} (hx : x.fl 8 = true) (hy : y.fl 8 = true) : dEqv st x y = some (PyData.eqv x.py y.py) := by
  unfold dEqv
  rw [pyd_fl hx, pyd_fl hy]
theorem dEqv_int {st : Store} (i j : Int) : dEqv st (.int i) (.int j) = some (decide (i = j)) := by
  rw [dEqv_fl rfl rfl]
  simp only [D.py, PyData.eqv]
  congr 1
theorem dEqv_L {st : Store} (l m : Letter) : dEqv st (dL l) (dL m) = some (decide (l = m)) := by
  rw [dEqv_fl (fl_L 7 l) (fl_L 7 m), eqv_L]
theorem dEqv_run {st : Store} (l m : Run) : dEqv st (dRun l) (dRun m) = some (decide (l = m)) := by
  rw [dEqv_fl (fl_run 6 l) (fl_run 6 m), eqv_run]
theorem dEqv_W {st : Store} (l m : Word) : dEqv st (dW l) (dW m) = some (decide (l = m)) := by
  rw [dEqv_fl (fl_W 5 l) (fl_W 5 m), eqv_W]
end DL

/-! words as lists of runs: the mathematics -/
namespace Wd
variable {α : Type} [DecidableEq α]
/-- a run put ahead of a reduced word -/
def cons (r : α × Int) : List (α × Int) → List (α × Int)
  | [] => if r.2 = 0 then [] else [r]
  | m :: t => if m.1 = r.1 then (if r.2 + m.2 = 0 then t else (r.1, r.2 + m.2) :: t) else if r.2 = 0 then m :: t else r :: m :: t
def Red : List (α × Int) → Prop
  | [] => True
  | r :: t => r.2 ≠ 0 ∧ (∀ m ∈ t.head?, m.1 ≠ r.1) ∧ Red t
def act (u w : List (α × Int)) : List (α × Int) := u.foldr cons w
def red (u : List (α × Int)) : List (α × Int) := act u []
def inv (u : List (α × Int)) : List (α × Int) := (u.map fun r => (r.1, -r.2)).reverse
theorem c0 (r : α × Int) : cons r [] = if r.2 = 0 then [] else [r] := rfl
theorem c1 (r m : α × Int) (t : List (α × Int)) : cons r (m :: t) = if m.1 = r.1 then (if r.2 + m.2 = 0 then t else (r.1, r.2 + m.2) :: t) else if r.2 = 0 then m :: t else r :: m :: t := rfl
theorem Red.tail {r : α × Int} {t : List (α × Int)} (h : Red (r :: t)) : Red t := h.2.2
theorem Red.cons {r : α × Int} {w : List (α × Int)} (h : Red w) : Red (cons r w) := by
  obtain ⟨l, e⟩ := r
  cases w with
  | nil =>
    first | rw [c0] | rw [c1]
    by_cases he : e = 0
    · rw [if_pos he]
      trivial
    · rw [if_neg he]
      exact ⟨he, by simp, trivial⟩
  | cons m t =>
    first | rw [c0] | rw [c1]
    by_cases hm : m.1 = l
    · rw [if_pos hm]
      by_cases hz : e + m.2 = 0
      · rw [if_pos hz]
        exact h.2.2
      · rw [if_neg hz]
        refine ⟨hz, ?_, h.2.2⟩
        have := h.2.1
        rw [hm] at this
        exact this
    · rw [if_neg hm]
      by_cases he : e = 0
      · rw [if_pos he]
        exact h
      · rw [if_neg he]
        refine ⟨he, ?_, h⟩
        intro x hx
        simp at hx
        subst hx
        exact hm
theorem cons_zero {l : α} {w : List (α × Int)} (h : Red w) : cons (l, 0) w = w := by
  cases w with
  | nil => rfl
  | cons m t =>
    first | rw [c0] | rw [c1]
    by_cases hm : m.1 = l
    · rw [if_pos hm, if_neg (by have := h.1; simpa using this)]
      obtain ⟨a, b⟩ := m
      cases hm
      simp
    · rw [if_neg hm, if_pos rfl]
theorem cons_cons {l : α} {e f : Int} {w : List (α × Int)} (h : Red w) : cons (l, e) (cons (l, f) w) = cons (l, e + f) w := by
  cases w with
  | nil =>
    first | rw [c0] | rw [c1]
    by_cases hf : f = 0
    · subst hf
      simp
    · simp only [hf, if_false, ↓reduceIte]
      rw [c1, c0]
      simp
  | cons m t =>
    obtain ⟨a, b⟩ := m
    by_cases hm : a = l
    · subst hm
      by_cases hz : f + b = 0
      · have e1 : cons (a, f) ((a, b) :: t) = t := by simp [cons, hz]
        rw [e1]
        have hb : e + f + b = e := by omega
        cases t with
        | nil =>
          by_cases he : e = 0
          · simp [cons, he, hz]
          · simp [cons, he, hb]
        | cons q t =>
          have hq : q.1 ≠ a := h.2.1 q (by simp)
          by_cases he : e = 0
          · simp [cons, he, hq, hz]
          · simp [cons, he, hq, hb]
      · have e1 : cons (a, f) ((a, b) :: t) = (a, f + b) :: t := by simp [cons, hz]
        rw [e1]
        have hb : e + (f + b) = e + f + b := by omega
        simp [cons, hb]
    · by_cases hf : f = 0
      · subst hf
        have e1 : cons (l, 0) ((a, b) :: t) = (a, b) :: t := cons_zero h
        rw [e1]
        simp
      · have e1 : cons (l, f) ((a, b) :: t) = (l, f) :: (a, b) :: t := by simp [cons, hm, hf]
        rw [e1]
        by_cases hz : e + f = 0
        · simp [cons, hm, hz]
        · simp [cons, hm, hz]
theorem Red.act {u w : List (α × Int)} (h : Red w) : Red (act u w) := by
  induction u with
  | nil => exact h
  | cons r u ih => exact Red.cons ih
theorem Red.red {u : List (α × Int)} : Red (red u) := Red.act (w := []) trivial
theorem act_app (u v w : List (α × Int)) : act (u ++ v) w = act u (act v w) := List.foldr_append
theorem act_cons {r : α × Int} {u w : List (α × Int)} (h : Red w) : act (cons r u) w = cons r (act u w) := by
  obtain ⟨l, e⟩ := r
  cases u with
  | nil =>
    first | rw [c0] | rw [c1]
    by_cases he : e = 0
    · subst he
      rw [if_pos rfl]
      show w = _
      exact (cons_zero h).symm
    · rw [if_neg he]
      rfl
  | cons m t =>
    obtain ⟨a, b⟩ := m
    have ht : Red (act t w) := Red.act h
    show act (cons (l, e) ((a, b) :: t)) w = cons (l, e) (cons (a, b) (act t w))
    by_cases hm : a = l
    · subst hm
      rw [cons_cons ht]
      by_cases hz : e + b = 0
      · rw [hz, cons_zero ht]
        simp [cons, hz]
      · simp [cons, hz, act]
    · by_cases he : e = 0
      · subst he
        rw [cons_zero (Red.cons ht)]
        simp [cons, hm, act]
      · simp [cons, hm, he, act]
theorem act_red {u w : List (α × Int)} (h : Red w) : act (red u) w = act u w := by
  induction u with
  | nil => rfl
  | cons r u ih =>
    show act (cons r (red u)) w = cons r (act u w)
    rw [act_cons h, ih]
theorem red_of {u : List (α × Int)} (h : Red u) : red u = u := by
  induction u with
  | nil => rfl
  | cons r u ih =>
    show cons r (red u) = r :: u
    rw [ih h.2.2]
    cases u with
    | nil =>
      first | rw [c0] | rw [c1]
      rw [if_neg h.1]
    | cons m t =>
      first | rw [c0] | rw [c1]
      rw [if_neg (h.2.1 m (by simp)), if_neg h.1]
theorem red_app (u v : List (α × Int)) : red (u ++ v) = act u (red v) := act_app u v []
theorem red_red_app (u v : List (α × Int)) : red (red u ++ v) = red (u ++ v) := by
  rw [red_app, red_app, act_red Red.red]
theorem red_app_red (u v : List (α × Int)) : red (u ++ red v) = red (u ++ v) := by
  rw [red_app, red_app, red_of Red.red]
theorem act_inv {u w : List (α × Int)} (h : Red w) : act u (act (inv u) w) = w := by
  induction u generalizing w with
  | nil => rfl
  | cons r u ih =>
    obtain ⟨l, e⟩ := r
    have e1 : inv ((l, e) :: u) = inv u ++ [(l, -e)] := by simp [inv]
    rw [e1, act_app]
    show cons (l, e) (act u (act (inv u) (cons (l, -e) w))) = w
    rw [ih (Red.cons h), cons_cons h, Int.add_right_neg, cons_zero h]
theorem inv_inv (u : List (α × Int)) : inv (inv u) = u := by
  unfold inv
  rw [List.map_reverse, List.reverse_reverse, List.map_map]
  have : ((fun r : α × Int => (r.1, -r.2)) ∘ fun r => (r.1, -r.2)) = id := by
    funext r
    simp
  rw [this, List.map_id]
theorem red_app_inv (u : List (α × Int)) : red (u ++ inv u) = [] := by
  rw [red_app]
  exact act_inv trivial
theorem red_inv_app (u : List (α × Int)) : red (inv u ++ u) = [] := by
  have h := red_app_inv (inv u)
  rw [inv_inv] at h
  exact h
theorem act_cons_rev {r : α × Int} {u w : List (α × Int)} (h : Red w) : act (cons r u).reverse w = act (u.reverse ++ [r]) w := by
  obtain ⟨l, e⟩ := r
  cases u with
  | nil =>
    first | rw [c0] | rw [c1]
    by_cases he : e = 0
    · subst he
      rw [if_pos rfl]
      show w = cons (l, 0) w
      exact (cons_zero h).symm
    · rw [if_neg he]
      rfl
  | cons m t =>
    obtain ⟨a, b⟩ := m
    by_cases hm : a = l
    · subst hm
      have e2 : act (((a, b) :: t).reverse ++ [(a, e)]) w = act t.reverse (cons (a, b + e) w) := by
        rw [List.reverse_cons, act_app, act_app]
        show act t.reverse (cons (a, b) (cons (a, e) w)) = _
        rw [cons_cons h]
      rw [e2]
      by_cases hz : e + b = 0
      · have hz' : b + e = 0 := by omega
        rw [hz', cons_zero h]
        simp [cons, hz]
      · have hz' : b + e = e + b := by omega
        rw [hz']
        have : cons (a, e) ((a, b) :: t) = (a, e + b) :: t := by simp [cons, hz]
        rw [this, List.reverse_cons, act_app]
        rfl
    · by_cases he : e = 0
      · subst he
        have : cons (l, 0) ((a, b) :: t) = (a, b) :: t := by simp [cons, hm]
        rw [this, act_app]
        show _ = act _ (cons (l, 0) w)
        rw [cons_zero h]
      · have : cons (l, e) ((a, b) :: t) = (l, e) :: (a, b) :: t := by simp [cons, hm, he]
        rw [this, List.reverse_cons]
theorem act_red_rev {u w : List (α × Int)} (h : Red w) : act (red u).reverse w = act u.reverse w := by
  induction u generalizing w with
  | nil => rfl
  | cons r u ih =>
    show act (cons r (red u)).reverse w = _
    rw [act_cons_rev h, act_app, ih (w := act [r] w) (Red.act h), List.reverse_cons, act_app]
theorem red_iff {u : List (α × Int)} : Red u ↔ (∀ r ∈ u, r.2 ≠ 0) ∧ ∀ (i : Nat) a b, u[i]? = some a → u[i + 1]? = some b → a.1 ≠ b.1 := by
  induction u with
  | nil => simp [Red]
  | cons r u ih =>
    unfold Red
    rw [ih]
    constructor
    · rintro ⟨h1, h2, h3, h4⟩
      refine ⟨?_, ?_⟩
      · intro x hx
        rcases List.mem_cons.mp hx with rfl | hx
        · exact h1
        · exact h3 x hx
      · intro i a b ha hb
        cases i with
        | zero =>
          simp at ha hb
          subst ha
          exact (h2 b (by rw [List.head?_eq_getElem?]; exact hb)).symm
        | succ i =>
          simp at ha hb
          exact h4 i a b ha hb
    · rintro ⟨h1, h2⟩
      refine ⟨h1 r (by simp), ?_, fun x hx => h1 x (by simp [hx]), fun i a b ha hb => h2 (i + 1) a b (by simpa using ha) (by simpa using hb)⟩
      intro m hm
      rw [List.head?_eq_getElem?] at hm
      exact (h2 0 r m rfl (by simpa using hm)).symm
theorem Red.rev {u : List (α × Int)} (h : Red u) : Red u.reverse := by
  rw [red_iff] at h ⊢
  refine ⟨fun r hr => h.1 r (by simpa using hr), fun i a b ha hb => ?_⟩
  have hi : i + 1 < u.length := by
    have := (List.getElem?_eq_some_iff.mp hb).1
    simpa using this
  rw [List.getElem?_reverse (by omega)] at ha
  rw [List.getElem?_reverse (by omega)] at hb
  refine (h.2 (u.length - 1 - (i + 1)) b a hb ?_).symm
  rw [show u.length - 1 - (i + 1) + 1 = u.length - 1 - i by omega]
  exact ha
theorem red_rev (u : List (α × Int)) : (red u).reverse = red u.reverse := by
  have h := act_red_rev (u := u) (w := []) trivial
  rw [← red_of (Red.rev Red.red)]
  exact h
/-- what the program's loop from the left makes -/
theorem red_left (u : List (α × Int)) : (u.foldl (fun s r => cons r s) []).reverse = red u := by
  have e : u.foldl (fun s r => cons r s) [] = red u.reverse := by
    unfold red act
    rw [List.foldr_reverse]
  rw [e, red_rev, List.reverse_reverse]
theorem len_cons (r : α × Int) (w : List (α × Int)) : (cons r w).length ≤ w.length + 1 := by
  cases w with
  | nil =>
    rw [c0]
    by_cases h : r.2 = 0
    · rw [if_pos h]; simp
    · rw [if_neg h]; simp
  | cons m t =>
    rw [c1]
    split <;> split <;> simp <;> omega
theorem len_red (u : List (α × Int)) : (red u).length ≤ u.length := by
  induction u with
  | nil => exact Nat.le_refl _
  | cons r u ih =>
    have := len_cons r (red u)
    show (cons r (red u)).length ≤ u.length + 1
    omega
theorem Red.take {u : List (α × Int)} (h : Red u) (n : Nat) : Red (u.take n) := by
  rw [red_iff] at h ⊢
  refine ⟨fun r hr => h.1 r (List.mem_of_mem_take hr), fun i a b ha hb => ?_⟩
  rw [List.getElem?_take] at ha hb
  split at ha
  · split at hb
    · exact h.2 i a b ha hb
    · cases hb
  · cases ha
theorem Red.drop {u : List (α × Int)} (h : Red u) (n : Nat) : Red (u.drop n) := by
  rw [red_iff] at h ⊢
  refine ⟨fun r hr => h.1 r (List.mem_of_mem_drop hr), fun i a b ha hb => ?_⟩
  rw [List.getElem?_drop] at ha hb
  exact h.2 (n + i) a b ha hb
theorem Red.inv {u : List (α × Int)} (h : Red u) : Red (inv u) := by
  unfold Wd.inv
  apply Red.rev
  rw [red_iff] at h ⊢
  refine ⟨fun r hr => ?_, fun i a b ha hb => ?_⟩
  · obtain ⟨x, hx, rfl⟩ := List.mem_map.mp hr
    have := h.1 x hx
    show -x.2 ≠ 0
    omega
  · rw [List.getElem?_map] at ha hb
    obtain ⟨x, hx, rfl⟩ := Option.map_eq_some_iff.mp ha
    obtain ⟨y, hy, rfl⟩ := Option.map_eq_some_iff.mp hb
    exact h.2 i x y hx hy
/-- the product at a seam -/
theorem Red.app {u v : List (α × Int)} (hu : Red u) (hv : Red v) (h : ∀ a b, u.getLast? = some a → v.head? = some b → a.1 ≠ b.1) : Red (u ++ v) := by
  rw [red_iff] at hu hv ⊢
  refine ⟨fun r hr => (List.mem_append.mp hr).elim (hu.1 r) (hv.1 r), fun i a b ha hb => ?_⟩
  by_cases h1 : i + 1 < u.length
  · rw [List.getElem?_append_left (by omega)] at ha
    rw [List.getElem?_append_left h1] at hb
    exact hu.2 i a b ha hb
  · rw [List.getElem?_append_right (by omega)] at hb
    by_cases h2 : i < u.length
    · rw [List.getElem?_append_left h2] at ha
      refine h a b ?_ ?_
      · rw [List.getLast?_eq_getElem?, show u.length - 1 = i by omega]
        exact ha
      · rw [List.head?_eq_getElem?, ← hb, show i + 1 - u.length = 0 by omega]
    · rw [List.getElem?_append_right (by omega)] at ha
      refine hv.2 (i - u.length) a b ha ?_
      rw [show i - u.length + 1 = i + 1 - u.length by omega]
      exact hb
theorem Red.seam {A B : List (α × Int)} (h : Red (A ++ B)) {a b : α × Int} (ha : A.getLast? = some a) (hb : B.head? = some b) : a.1 ≠ b.1 := by
  rw [red_iff] at h
  have h0 : 0 < A.length := by
    cases A with
    | nil => simp at ha
    | cons _ _ => simp
  refine h.2 (A.length - 1) a b ?_ ?_
  · rw [List.getElem?_append_left (by omega), ← List.getLast?_eq_getElem?]
    exact ha
  · rw [List.getElem?_append_right (by omega), ← hb, List.head?_eq_getElem?, show A.length - 1 + 1 - A.length = 0 by omega]
theorem Red.left {A B : List (α × Int)} (h : Red (A ++ B)) : Red A := by
  have := h.take A.length
  rwa [List.take_left] at this
theorem Red.right {A B : List (α × Int)} (h : Red (A ++ B)) : Red B := by
  have := h.drop A.length
  rwa [List.drop_left] at this
theorem meet_eq (A B : List (α × Int)) (l : α) (e f : Int) : red (A ++ (l, e) :: (l, f) :: B) = red (A ++ (l, e + f) :: B) := by
  rw [red_app, red_app]
  show act A (cons (l, e) (cons (l, f) (red B))) = act A (cons (l, e + f) (red B))
  rw [cons_cons Red.red]
theorem zero_eq (A B : List (α × Int)) (l : α) : red (A ++ (l, 0) :: B) = red (A ++ B) := by
  rw [red_app, red_app]
  show act A (cons (l, 0) (red B)) = act A (red B)
  rw [cons_zero Red.red]
theorem Red.mid {A B : List (α × Int)} {l : α} {e f t : Int} (h1 : Red (A ++ [(l, e)])) (h2 : Red ((l, f) :: B)) (ht : t ≠ 0) : Red (A ++ (l, t) :: B) := by
  refine Red.app h1.left ⟨ht, h2.2.1, h2.2.2⟩ fun a b ha hb => ?_
  simp at hb
  subst hb
  exact h1.seam ha (b := (l, e)) rfl
end Wd

/-! powers and conjugates -/
namespace Wd
variable {α : Type} [DecidableEq α]
theorem cancel_l (x v : List (α × Int)) : red (inv x ++ (x ++ v)) = red v := by
  rw [red_app, red_app]
  have h := act_inv (u := inv x) (w := red v) Red.red
  rwa [inv_inv] at h
theorem cancel_r (x v : List (α × Int)) : red (x ++ (inv x ++ v)) = red v := by
  rw [red_app, red_app]
  exact act_inv Red.red
/-- the same elements -/
theorem app_congr {a b c d : List (α × Int)} (h : red a = red b) (k : red c = red d) : red (a ++ c) = red (b ++ d) := by
  rw [← red_red_app, h, red_red_app, ← red_app_red, k, red_app_red]
theorem red_red (u : List (α × Int)) : red (red u) = red u := red_of Red.red
def rep (n : Nat) (w : List (α × Int)) : List (α × Int) := (List.replicate n w).flatten
theorem rep_succ (n : Nat) (w : List (α × Int)) : rep (n + 1) w = w ++ rep n w := by
  unfold rep
  rw [List.replicate_succ, List.flatten_cons]
theorem len_rep (n : Nat) (w : List (α × Int)) : (rep n w).length = n * w.length := by
  induction n with
  | zero => simp [rep]
  | succ n ih => rw [rep_succ, List.length_append, ih, Nat.succ_mul, Nat.add_comm]
/-- the power -/
def pw (w : List (α × Int)) (e : Int) : List (α × Int) := red (rep e.natAbs (if 0 < e then w else inv w))
theorem Red.pw {w : List (α × Int)} {e : Int} : Red (pw w e) := Red.red
theorem len_inv (w : List (α × Int)) : (inv w).length = w.length := by
  unfold inv
  rw [List.length_reverse, List.length_map]
theorem len_pw (w : List (α × Int)) (e : Int) : (pw w e).length ≤ e.natAbs * w.length := by
  refine Nat.le_trans (len_red _) ?_
  rw [len_rep]
  split
  · exact Nat.le_refl _
  · rw [len_inv]
    exact Nat.le_refl _
theorem pw_zero (w : List (α × Int)) : pw w 0 = [] := rfl
theorem pw_nat (w : List (α × Int)) (n : Nat) : pw w n = red (rep n w) := by
  unfold pw
  rw [Int.natAbs_natCast]
  split
  · rfl
  · have : n = 0 := by omega
    subst this
    rfl
theorem pw_neg (w : List (α × Int)) (n : Nat) : pw w (-n) = red (rep n (inv w)) := by
  unfold pw
  rw [Int.natAbs_neg, Int.natAbs_natCast, if_neg (by omega)]
theorem pw_up (w : List (α × Int)) (e : Int) : red (w ++ pw w e) = pw w (e + 1) := by
  by_cases h : 0 ≤ e
  · obtain ⟨n, rfl⟩ : ∃ n : Nat, e = n := ⟨e.toNat, by omega⟩
    rw [pw_nat, show ((n : Int) + 1) = ((n + 1 : Nat) : Int) by omega, pw_nat, rep_succ, red_app_red]
  · obtain ⟨n, rfl⟩ : ∃ n : Nat, e = -((n + 1 : Nat) : Int) := ⟨(-e - 1).toNat, by omega⟩
    rw [pw_neg, rep_succ, red_app_red, cancel_r, show -((n + 1 : Nat) : Int) + 1 = -(n : Int) by omega, pw_neg]
theorem pw_down (w : List (α × Int)) (e : Int) : red (inv w ++ pw w e) = pw w (e - 1) := by
  have h := pw_up w (e - 1)
  rw [show e - 1 + 1 = e by omega] at h
  rw [← h, red_app_red, cancel_l]
  exact red_red _
theorem pw_one {w : List (α × Int)} (h : Red w) : pw w 1 = w := by
  have := pw_up w 0
  rw [pw_zero, List.append_nil, red_of h] at this
  exact this.symm
/-- by steps up and down -/
theorem int_steps {P : Int → Prop} (h0 : P 0) (up : ∀ e, P e → P (e + 1)) (down : ∀ e, P e → P (e - 1)) (e : Int) : P e := by
  have hp : ∀ n : Nat, P n := fun n => by
    induction n with
    | zero => exact h0
    | succ n ih => exact up _ ih
  have hn : ∀ n : Nat, P (-n) := fun n => by
    induction n with
    | zero => exact h0
    | succ n ih =>
      have := down _ ih
      rwa [show -(n : Int) - 1 = -((n + 1 : Nat) : Int) by omega] at this
  by_cases h : 0 ≤ e
  · have := hp e.toNat
    rwa [Int.toNat_of_nonneg h] at this
  · have := hn (-e).toNat
    rwa [Int.toNat_of_nonneg (by omega), Int.neg_neg] at this
theorem pw_add (w : List (α × Int)) (a b : Int) : red (pw w a ++ pw w b) = pw w (a + b) := by
  refine int_steps (P := fun a => red (pw w a ++ pw w b) = pw w (a + b)) ?_ (fun e ih => ?_) (fun e ih => ?_) a
  · show red (pw w 0 ++ pw w b) = pw w (0 + b)
    rw [pw_zero, List.nil_append, Int.zero_add]
    exact red_of Red.pw
  · rw [← pw_up, red_red_app, List.append_assoc, ← red_app_red, ih, pw_up]
    congr 1
    omega
  · rw [← pw_down, red_red_app, List.append_assoc, ← red_app_red, ih, pw_down]
    congr 1
    omega
theorem pw_mul (w : List (α × Int)) (a b : Int) : pw (pw w a) b = pw w (a * b) := by
  refine int_steps (P := fun b => pw (pw w a) b = pw w (a * b)) ?_ (fun e ih => ?_) (fun e ih => ?_) b
  · show pw (pw w a) 0 = pw w (a * 0)
    rw [Int.mul_zero, pw_zero, pw_zero]
  · rw [← pw_up, ih, pw_add, Int.mul_add, Int.mul_one, Int.add_comm]
  · rw [← pw_down, ih, show a * e = a + a * (e - 1) by rw [Int.mul_sub, Int.mul_one]; omega, ← pw_add, red_app_red, cancel_l]
    exact red_of Red.pw
theorem pw_conj (t w : List (α × Int)) (e : Int) : pw (red (t ++ (w ++ inv t))) e = red (t ++ (pw w e ++ inv t)) := by
  have key : ∀ e, red (red (t ++ (w ++ inv t)) ++ (t ++ (pw w e ++ inv t))) = red (t ++ (pw w (e + 1) ++ inv t)) := by
    intro e
    rw [red_red_app, List.append_assoc, List.append_assoc]
    refine app_congr rfl ?_
    have h1 : red (inv t ++ (t ++ (pw w e ++ inv t))) = red (pw w e ++ inv t) := cancel_l _ _
    rw [app_congr (rfl : red w = red w) h1, ← List.append_assoc, ← red_red_app, pw_up]
  refine int_steps (P := fun e => pw (red (t ++ (w ++ inv t))) e = red (t ++ (pw w e ++ inv t))) ?_ (fun e ih => ?_) (fun e ih => ?_) e
  · show pw _ 0 = red (t ++ (pw w 0 ++ inv t))
    rw [pw_zero, pw_zero, List.nil_append, red_app_inv]
  · rw [← pw_up, ih, red_app_red, key]
  · rw [← pw_down, ih]
    have h := key (e - 1)
    rw [show e - 1 + 1 = e by omega] at h
    rw [← h, red_app_red, cancel_l]
/-- one run, many times -/
theorem red_rep_one (l : α) (c : Int) (n : Nat) : red (rep n [(l, c)]) = if c * n = 0 then [] else [(l, c * n)] := by
  induction n with
  | zero => simp [rep, red, act]
  | succ n ih =>
    rw [rep_succ]
    show cons (l, c) (red (rep n [(l, c)])) = _
    rw [ih]
    have e : c * ((n + 1 : Nat) : Int) = c + c * n := by
      rw [show ((n + 1 : Nat) : Int) = n + 1 by omega, Int.mul_add, Int.mul_one, Int.add_comm]
    rw [e]
    by_cases h : c * (n : Int) = 0
    · rw [if_pos h, c0, h, Int.add_zero]
    · rw [if_neg h, c1, if_pos rfl]
theorem pw_single {l : α} {c e : Int} (hc : c ≠ 0) (he : e ≠ 0) : pw [(l, c)] e = [(l, c * e)] := by
  by_cases h : 0 ≤ e
  · obtain ⟨n, rfl⟩ : ∃ n : Nat, e = n := ⟨e.toNat, by omega⟩
    rw [pw_nat, red_rep_one, if_neg (Int.mul_ne_zero hc he)]
  · obtain ⟨n, rfl⟩ : ∃ n : Nat, e = -(n : Int) := ⟨(-e).toNat, by omega⟩
    have e1 : inv [(l, c)] = [(l, -c)] := rfl
    have e2 : -c * (n : Int) = c * -(n : Int) := by rw [Int.neg_mul, Int.mul_neg]
    rw [pw_neg, e1, red_rep_one, e2, if_neg (Int.mul_ne_zero hc he)]
theorem pw_nil (e : Int) : pw ([] : List (α × Int)) e = [] := by
  unfold pw
  have e1 : (if 0 < e then ([] : List (α × Int)) else inv []) = [] := by split <;> rfl
  rw [e1]
  have : ∀ n, rep n ([] : List (α × Int)) = [] := fun n => by
    induction n with
    | zero => rfl
    | succ n ih => rw [rep_succ, ih]; rfl
  rw [this]
  rfl
end Wd

/-! sizes, circles, cores -/
namespace Wd
variable {α : Type} [DecidableEq α]
def size (w : List (α × Int)) : Nat := (w.map fun r => r.2.natAbs).sum
theorem size_nil : size ([] : List (α × Int)) = 0 := rfl
theorem size_cons (r : α × Int) (w : List (α × Int)) : size (r :: w) = r.2.natAbs + size w := by
  unfold size
  rw [List.map_cons, List.sum_cons]
theorem size_app (u v : List (α × Int)) : size (u ++ v) = size u + size v := by
  induction u with
  | nil => simp [size_nil]
  | cons r u ih => rw [List.cons_append, size_cons, size_cons, ih]; omega
theorem size_inv (u : List (α × Int)) : size (inv u) = size u := by
  induction u with
  | nil => rfl
  | cons r u ih =>
    have e : inv (r :: u) = inv u ++ [(r.1, -r.2)] := by simp [inv]
    rw [e, size_app, ih, size_cons, size_cons, size_nil]
    simp only [Int.natAbs_neg]
    omega
theorem size_cons_le (r : α × Int) (w : List (α × Int)) : size (cons r w) ≤ r.2.natAbs + size w := by
  cases w with
  | nil =>
    rw [c0]
    split
    · simp [size_nil]
    · simp [size_cons, size_nil]
  | cons m t =>
    rw [c1, size_cons]
    split
    · split
      · omega
      · rw [size_cons]
        simp only
        omega
    · split
      · rw [size_cons]; omega
      · rw [size_cons, size_cons]; omega
theorem size_red (u : List (α × Int)) : size (red u) ≤ size u := by
  induction u with
  | nil => exact Nat.le_refl _
  | cons r u ih =>
    have := size_cons_le r (red u)
    rw [size_cons]
    show size (cons r (red u)) ≤ _
    omega
theorem size_pos {u : List (α × Int)} (h : Red u) (hn : u ≠ []) : 0 < size u := by
  cases u with
  | nil => exact absurd rfl hn
  | cons r u =>
    rw [size_cons]
    have := h.1
    omega
theorem inv_app (u v : List (α × Int)) : inv (u ++ v) = inv v ++ inv u := by simp [inv]
theorem inv_one (l : α) (e : Int) : inv [(l, e)] = [(l, -e)] := rfl
def cycb (w : List (α × Int)) : Bool := match w.head?, w.getLast? with
  | some a, some b => decide (w.length < 2) || (decide (a.1 ≠ b.1) || (decide (0 < a.2) == decide (0 < b.2)))
  | _, _ => true
/-- both ends -/
theorem ends {w : List (α × Int)} (h : 2 ≤ w.length) : ∃ a m b, w = a :: (m ++ [b]) := by
  match w, h with
  | a :: b :: t, _ =>
    rcases List.eq_nil_or_concat (b :: t) with h0 | ⟨m, c, h0⟩
    · cases h0
    · exact ⟨a, m, c, by rw [h0, List.concat_eq_append]⟩
theorem cycb_ends (a b : α × Int) (m : List (α × Int)) : cycb (a :: (m ++ [b])) = (decide (a.1 ≠ b.1) || (decide (0 < a.2) == decide (0 < b.2))) := by
  unfold cycb
  have e1 : (a :: (m ++ [b])).getLast? = some b := by rw [← List.cons_append, List.getLast?_concat]
  rw [e1]
  have : decide ((a :: (m ++ [b])).length < 2) = false := by simp
  simp only [List.head?_cons, this, Bool.false_or]
theorem cycb_small {w : List (α × Int)} (h : w.length < 2) : cycb w = true := by
  match w, h with
  | [], _ => rfl
  | [a], _ => simp [cycb]
theorem size_sq (w : List (α × Int)) (h : Red w) : (decide (size (red (w ++ w)) = 2 * size w)) = cycb w := by
  by_cases hs : w.length < 2
  · rw [cycb_small hs]
    match w, hs with
    | [], _ => rfl
    | [(l, e)], _ =>
      have he : e ≠ 0 := h.1
      have e1 : red ([(l, e)] ++ [(l, e)]) = [(l, e + e)] := by
        show cons (l, e) (cons (l, e) []) = _
        rw [c0, if_neg he, c1, if_pos rfl, if_neg (by simp only; omega)]
      rw [e1]
      simp only [size_cons, size_nil]
      simp
      omega
  · obtain ⟨⟨l, f⟩, m, ⟨l', e⟩, rfl⟩ := ends (w := w) (by omega)
    rw [cycb_ends]
    have hr1 : Red ((l, f) :: (m ++ [(l', e)])) := h
    have hr2 : Red (((l, f) :: m) ++ [(l', e)]) := by rw [List.cons_append]; exact h
    have he : e ≠ 0 := hr2.right.1
    have hf : f ≠ 0 := hr1.1
    by_cases hll : l = l'
    · subst hll
      have e1 : ((l, f) :: (m ++ [(l, e)])) ++ ((l, f) :: (m ++ [(l, e)])) = ((l, f) :: m) ++ (l, e) :: (l, f) :: (m ++ [(l, e)]) := by simp
      rw [e1, meet_eq]
      have e2 : decide ((l, f).1 ≠ (l, e).1) = false := by simp
      rw [e2, Bool.false_or]
      simp only
      by_cases hs : (0 < f ↔ 0 < e)
      · have hr : Red (((l, f) :: m) ++ (l, e + f) :: (m ++ [(l, e)])) := Red.mid hr2 hr1 (by omega)
        rw [red_of hr]
        have : (decide (0 < f) == decide (0 < e)) = true := by simp [hs]
        rw [this]
        simp only [size_app, size_cons, size_nil, decide_eq_true_eq]
        omega
      · have : (decide (0 < f) == decide (0 < e)) = false := by
          rw [Bool.eq_false_iff]
          intro hb
          apply hs
          simpa using hb
        rw [this]
        have := size_red (((l, f) :: m) ++ (l, e + f) :: (m ++ [(l, e)]))
        simp only [size_app, size_cons, size_nil, decide_eq_false_iff_not] at this ⊢
        omega
    · have hr : Red (((l, f) :: (m ++ [(l', e)])) ++ ((l, f) :: (m ++ [(l', e)]))) := Red.app h h fun a b ha hb => by
        rw [← List.cons_append, List.getLast?_concat] at ha
        cases ha
        cases hb
        exact fun z => hll z.symm
      rw [red_of hr]
      have : decide ((l, f).1 ≠ (l', e).1) = true := by simp [hll]
      rw [this, Bool.true_or]
      simp only [size_app, decide_eq_true_eq]
      omega
/-- a word, taken apart -/
structure Core (w o c : List (α × Int)) : Prop where
  ro : Red o
  rc : Red c
  eq : red (o ++ (c ++ inv o)) = w
  sz : size w = 2 * size o + size c
  cy : cycb c = true
theorem core_done {w p k : List (α × Int)} (hw : Red w) (e : w = p ++ (k ++ inv p)) (hc : cycb k = true) : Core w p k := by
  have hw' := hw
  rw [e] at hw'
  refine ⟨hw'.left, hw'.right.left, by rw [← e]; exact red_of hw, ?_, hc⟩
  rw [e, size_app, size_app, size_inv]
  omega
def taken (f e : Int) : Int := if f.natAbs < e.natAbs then f else -e
theorem core_taken {w p mid : List (α × Int)} {l : α} {f e : Int} (hw : Red w) (h : w = p ++ (((l, f) :: (mid ++ [(l, e)])) ++ inv p)) (hs : ¬ (0 < f ↔ 0 < e)) (hne : f ≠ -e) :
    Core w (p ++ [(l, taken f e)]) (red ((l, f - taken f e) :: (mid ++ [(l, e + taken f e)]))) := by
  have hw' := hw
  rw [h] at hw'
  have hk : Red ((l, f) :: (mid ++ [(l, e)])) := hw'.right.left
  have hk2 : Red (((l, f) :: mid) ++ [(l, e)]) := by rw [List.cons_append]; exact hk
  have hf : f ≠ 0 := hk.1
  have he : e ≠ 0 := hk2.right.1
  have hp : Red (p ++ [(l, f)]) := by
    have : p ++ (((l, f) :: (mid ++ [(l, e)])) ++ inv p) = (p ++ [(l, f)]) ++ ((mid ++ [(l, e)]) ++ inv p) := by simp
    rw [this] at hw'
    exact hw'.left
  have ht : taken f e ≠ 0 := by
    unfold taken
    split <;> omega
  obtain ⟨q, mid', rfl⟩ : ∃ q mid', mid = q :: mid' := by
    cases mid with
    | nil => exact absurd rfl (hk.2.1 (l, e) (by simp)).symm
    | cons q m => exact ⟨q, m, rfl⟩
  obtain ⟨m2, z, hz⟩ : ∃ m2 z, q :: mid' = m2 ++ [z] := by
    rcases List.eq_nil_or_concat (q :: mid') with h0 | ⟨m2, z, h0⟩
    · cases h0
    · exact ⟨m2, z, by rw [h0, List.concat_eq_append]⟩
  have hq : q.1 ≠ l := hk.2.1 q (by simp)
  have hzl : z.1 ≠ l := by
    have := hk2.seam (a := z) (b := (l, e)) (by rw [hz, ← List.cons_append, List.getLast?_concat]) rfl
    exact this
  have hmid : Red (q :: mid') := hk.2.2.left
  refine ⟨Red.mid (B := []) (f := f) hp ⟨hf, by simp, trivial⟩ ht, Red.red, ?_, ?_, ?_⟩
  · have e1 : (p ++ [(l, taken f e)]) ++ (red ((l, f - taken f e) :: (q :: mid' ++ [(l, e + taken f e)])) ++ inv (p ++ [(l, taken f e)])) = p ++ ([(l, taken f e)] ++ (red ((l, f - taken f e) :: (q :: mid' ++ [(l, e + taken f e)])) ++ ([(l, -taken f e)] ++ inv p))) := by
      rw [inv_app, inv_one]
      simp
    have e2 : red ([(l, taken f e)] ++ (((l, f - taken f e) :: (q :: mid' ++ [(l, e + taken f e)])) ++ ([(l, -taken f e)] ++ inv p))) = red (((l, f) :: (q :: mid' ++ [(l, e)])) ++ inv p) := by
      have a1 : [(l, taken f e)] ++ (((l, f - taken f e) :: (q :: mid' ++ [(l, e + taken f e)])) ++ ([(l, -taken f e)] ++ inv p)) = [] ++ (l, taken f e) :: (l, f - taken f e) :: (q :: mid' ++ ((l, e + taken f e) :: (l, -taken f e) :: inv p)) := by simp
      rw [a1, meet_eq]
      have a2 : [] ++ (l, taken f e + (f - taken f e)) :: (q :: mid' ++ ((l, e + taken f e) :: (l, -taken f e) :: inv p)) = ((l, f) :: (q :: mid')) ++ ((l, e + taken f e) :: (l, -taken f e) :: inv p) := by
        rw [show taken f e + (f - taken f e) = f by omega]
        simp
      rw [a2, meet_eq, show e + taken f e + -taken f e = e by omega]
      simp
    rw [e1, app_congr (rfl : red p = red p) (app_congr (rfl : red [(l, taken f e)] = _) (red_red_app _ _)), app_congr (rfl : red p = red p) e2, ← h]
    exact red_of hw
  · rw [h]
    simp only [size_app, size_cons, size_nil, size_inv]
    by_cases hlt : f.natAbs < e.natAbs
    · have t1 : taken f e = f := if_pos hlt
      rw [t1, show f - f = 0 by omega]
      have r1 : Red (q :: mid' ++ [(l, e + f)]) := Red.app hmid ⟨by simp only; omega, by simp, trivial⟩ fun a b ha hb => by
        rw [hz] at ha
        simp at ha hb
        subst ha hb
        exact hzl
      have := zero_eq [] (q :: mid' ++ [(l, e + f)]) l
      rw [List.nil_append, List.nil_append] at this
      rw [this, red_of r1]
      simp only [List.cons_append, size_app, size_cons, size_nil]
      omega
    · have t1 : taken f e = -e := if_neg hlt
      rw [t1, show e + -e = 0 by omega]
      have r1 : Red ((l, f - -e) :: (q :: mid')) := ⟨by simp only; omega, by intro x hx; simp at hx; subst hx; exact hq, hmid⟩
      have := zero_eq ((l, f - -e) :: (q :: mid')) [] l
      rw [List.append_nil] at this
      have a3 : (l, f - -e) :: (q :: mid' ++ [(l, 0)]) = ((l, f - -e) :: (q :: mid')) ++ [(l, 0)] := by simp
      rw [a3, this, red_of r1]
      simp only [size_app, size_cons, size_nil]
      omega
  · by_cases hlt : f.natAbs < e.natAbs
    · have t1 : taken f e = f := if_pos hlt
      rw [t1, show f - f = 0 by omega]
      have r1 : Red (q :: mid' ++ [(l, e + f)]) := Red.app hmid ⟨by simp only; omega, by simp, trivial⟩ fun a b ha hb => by
        rw [hz] at ha
        simp at ha hb
        subst ha hb
        exact hzl
      have := zero_eq [] (q :: mid' ++ [(l, e + f)]) l
      rw [List.nil_append, List.nil_append] at this
      rw [this, red_of r1]
      rw [List.cons_append, cycb_ends]
      simp [hq]
    · have t1 : taken f e = -e := if_neg hlt
      rw [t1, show e + -e = 0 by omega]
      have r1 : Red ((l, f - -e) :: (q :: mid')) := ⟨by simp only; omega, by intro x hx; simp at hx; subst hx; exact hq, hmid⟩
      have := zero_eq ((l, f - -e) :: (q :: mid')) [] l
      rw [List.append_nil] at this
      have a3 : (l, f - -e) :: (q :: mid' ++ [(l, 0)]) = ((l, f - -e) :: (q :: mid')) ++ [(l, 0)] := by simp
      rw [a3, this, red_of r1, hz, cycb_ends]
      have : l ≠ z.1 := fun h => hzl h.symm
      simp [this]
end Wd

/-! putting words for a letter; sums -/
namespace Wd
variable {α : Type} [DecidableEq α]
/-- what is put for a run -/
def put (m : α) (im : List (α × Int)) (r : α × Int) : List (α × Int) := if r.1 = m then pw im r.2 else [r]
def sub (m : α) (im w : List (α × Int)) : List (α × Int) := red (w.flatMap (put m im))
theorem put_add (m : α) (im : List (α × Int)) (l : α) (a b : Int) (v : List (α × Int)) : red (put m im (l, a) ++ (put m im (l, b) ++ v)) = red (put m im (l, a + b) ++ v) := by
  unfold put
  by_cases h : l = m
  · simp only [h, if_true]
    rw [← List.append_assoc, ← red_red_app, pw_add]
  · simp only [h, if_false]
    exact meet_eq [] v l a b
theorem put_zero (m : α) (im : List (α × Int)) (l : α) (v : List (α × Int)) : red (put m im (l, 0) ++ v) = red v := by
  unfold put
  by_cases h : l = m
  · simp only [h, if_true, pw_zero, List.nil_append]
  · simp only [h, if_false]
    exact zero_eq [] v l
theorem sub_cons (m : α) (im : List (α × Int)) (r : α × Int) (w : List (α × Int)) : red ((cons r w).flatMap (put m im)) = red (put m im r ++ w.flatMap (put m im)) := by
  obtain ⟨l, e⟩ := r
  cases w with
  | nil =>
    rw [c0]
    by_cases h : e = 0
    · subst h
      rw [if_pos rfl, put_zero]
    · rw [if_neg h]
      simp
  | cons q t =>
    obtain ⟨l', f⟩ := q
    rw [c1]
    by_cases h : l' = l
    · subst h
      simp only [if_true]
      rw [List.flatMap_cons, put_add]
      by_cases hz : e + f = 0
      · rw [if_pos hz, hz, put_zero]
      · rw [if_neg hz, List.flatMap_cons]
    · simp only [h, if_false]
      by_cases hz : e = 0
      · subst hz
        rw [if_pos rfl, put_zero]
      · rw [if_neg hz, List.flatMap_cons]
theorem sub_red (m : α) (im w : List (α × Int)) : sub m im (red w) = sub m im w := by
  unfold sub
  induction w with
  | nil => rfl
  | cons r w ih =>
    show red ((cons r (red w)).flatMap (put m im)) = _
    rw [sub_cons, List.flatMap_cons, ← red_app_red, ih, red_app_red]
theorem sub_app (m : α) (im u v : List (α × Int)) : sub m im (u ++ v) = red (sub m im u ++ sub m im v) := by
  unfold sub
  rw [List.flatMap_append, red_red_app, red_app_red]
theorem sub_nil (m : α) (im : List (α × Int)) : sub m im [] = [] := rfl
theorem inv_of {u v : List (α × Int)} (hu : Red u) (hv : Red v) (h : red (u ++ v) = []) : u = inv v := by
  have h1 : red (u ++ (v ++ inv v)) = red (inv v) := by
    rw [← List.append_assoc, ← red_red_app, h, List.nil_append]
  rw [app_congr (rfl : red u = red u) (show red (v ++ inv v) = red [] from red_app_inv v), List.append_nil, red_of hu, red_of hv.inv] at h1
  exact h1
theorem sub_inv (m : α) (im u : List (α × Int)) : sub m im (inv u) = inv (sub m im u) := by
  refine inv_of Red.red Red.red ?_
  show red (sub m im (inv u) ++ sub m im u) = []
  rw [← sub_app, ← sub_red, red_inv_app]
  rfl
/-- no such letter -/
theorem sub_none {m : α} {im w : List (α × Int)} (h : ∀ r ∈ w, r.1 ≠ m) : w.flatMap (put m im) = w := by
  induction w with
  | nil => rfl
  | cons r w ih =>
    rw [List.flatMap_cons, ih fun x hx => h x (by simp [hx])]
    unfold put
    rw [if_neg (h r (by simp))]
    rfl
theorem sub_self {m : α} {im w : List (α × Int)} (hw : Red w) (h : ∀ r ∈ w, r.1 ≠ m) : sub m im w = w := by
  unfold sub
  rw [sub_none h, red_of hw]
theorem put_nil (m : α) (w : List (α × Int)) : w.flatMap (put m []) = w.filter fun r => decide (r.1 ≠ m) := by
  induction w with
  | nil => rfl
  | cons r w ih =>
    rw [List.flatMap_cons, ih, List.filter_cons]
    unfold put
    by_cases h : r.1 = m
    · rw [if_pos h, pw_nil]
      simp [h]
    · rw [if_neg h]
      simp [h]
theorem flat_congr {f g : α × Int → List (α × Int)} (h : ∀ r, red (f r) = red (g r)) (w : List (α × Int)) : red (w.flatMap f) = red (w.flatMap g) := by
  induction w with
  | nil => rfl
  | cons r w ih =>
    rw [List.flatMap_cons, List.flatMap_cons]
    exact app_congr (h r) ih
theorem cons_mem {r x : α × Int} {w : List (α × Int)} (h : x ∈ cons r w) : x.1 = r.1 ∨ ∃ y ∈ w, y.1 = x.1 := by
  cases w with
  | nil =>
    rw [c0] at h
    split at h
    · cases h
    · simp at h
      exact .inl (by rw [h])
  | cons m t =>
    rw [c1] at h
    split at h
    · split at h
      · exact .inr ⟨x, by simp [h], rfl⟩
      · rcases List.mem_cons.mp h with h | h
        · exact .inl (by rw [h])
        · exact .inr ⟨x, by simp [h], rfl⟩
    · split at h
      · exact .inr ⟨x, h, rfl⟩
      · rcases List.mem_cons.mp h with h | h
        · exact .inl (by rw [h])
        · exact .inr ⟨x, h, rfl⟩
theorem red_mem {u : List (α × Int)} : ∀ {x : α × Int}, x ∈ red u → ∃ y ∈ u, y.1 = x.1 := by
  induction u with
  | nil => intro x h; cases h
  | cons r u ih =>
    intro x h
    rcases cons_mem (w := red u) h with h | ⟨y, hy, e⟩
    · exact ⟨r, by simp, h.symm⟩
    · obtain ⟨z, hz, e2⟩ := ih hy
      exact ⟨z, by simp [hz], e2.trans e⟩
/-- exponent sums -/
def esum (l : α) (w : List (α × Int)) : Int := (w.map fun r => if r.1 = l then r.2 else 0).sum
theorem esum_nil (l : α) : esum l ([] : List (α × Int)) = 0 := rfl
theorem esum_cons (l : α) (r : α × Int) (w : List (α × Int)) : esum l (r :: w) = (if r.1 = l then r.2 else 0) + esum l w := by
  unfold esum
  rw [List.map_cons, List.sum_cons]
theorem esum_app (l : α) (u v : List (α × Int)) : esum l (u ++ v) = esum l u + esum l v := by
  induction u with
  | nil => rw [List.nil_append, esum_nil]; omega
  | cons r u ih => rw [List.cons_append, esum_cons, esum_cons, ih]; omega
theorem esum_c (l : α) (r : α × Int) (w : List (α × Int)) : esum l (cons r w) = (if r.1 = l then r.2 else 0) + esum l w := by
  cases w with
  | nil =>
    rw [c0]
    split
    · rename_i h
      rw [h, esum_nil]
      split <;> rfl
    · rw [esum_cons]
  | cons m t =>
    rw [c1, esum_cons]
    split
    · rename_i h
      rw [h]
      split
      · rename_i hz
        split <;> omega
      · rw [esum_cons]
        simp only
        split <;> omega
    · split
      · rename_i h
        rw [h, esum_cons]
        split <;> omega
      · rw [esum_cons, esum_cons]
theorem esum_red (l : α) (w : List (α × Int)) : esum l (red w) = esum l w := by
  induction w with
  | nil => rfl
  | cons r w ih =>
    show esum l (cons r (red w)) = _
    rw [esum_c, ih, esum_cons]
theorem esum_inv (l : α) (w : List (α × Int)) : esum l (inv w) = -esum l w := by
  induction w with
  | nil => rfl
  | cons r w ih =>
    have e : inv (r :: w) = inv w ++ [(r.1, -r.2)] := by simp [inv]
    rw [e, esum_app, ih, esum_cons, esum_cons, esum_nil]
    simp only
    split <;> omega
theorem esum_pw (l : α) (w : List (α × Int)) (e : Int) : esum l (pw w e) = e * esum l w := by
  refine int_steps (P := fun e => esum l (pw w e) = e * esum l w) ?_ (fun e ih => ?_) (fun e ih => ?_) e
  · show esum l (pw w 0) = 0 * _
    rw [pw_zero, esum_nil, Int.zero_mul]
  · rw [← pw_up, esum_red, esum_app, ih, Int.add_mul, Int.one_mul, Int.add_comm]
  · rw [← pw_down, esum_red, esum_app, ih, esum_inv, Int.sub_mul, Int.one_mul]
    omega
theorem esum_sub {m l : α} (hl : l ≠ m) (im w : List (α × Int)) : esum l (sub m im w) = esum m w * esum l im + esum l (w.filter fun r => decide (r.1 ≠ m)) := by
  unfold sub
  rw [esum_red]
  induction w with
  | nil =>
    rw [List.flatMap_nil, List.filter_nil, esum_nil, esum_nil, Int.zero_mul]
    rfl
  | cons r w ih =>
    rw [List.flatMap_cons, esum_app, ih, List.filter_cons, esum_cons, put]
    by_cases h : r.1 = m
    · simp only [h, if_true, esum_pw, ne_eq, not_true_eq_false, decide_false, Bool.false_eq_true, if_false]
      rw [Int.add_mul]
      omega
    · simp only [h, if_false, ne_eq, not_false_eq_true, decide_true, if_true, esum_cons, esum_nil]
      rw [Int.zero_add]
      omega
/-- the torsion-free law -/
theorem core_ex : ∀ (n : Nat) (w p k : List (α × Int)), k.length ≤ n → Red w → w = p ++ (k ++ inv p) → ∃ o c, Core w o c := by
  intro n
  induction n with
  | zero =>
    intro w p k hk hw e
    have : k = [] := List.length_eq_zero_iff.mp (by omega)
    subst this
    exact ⟨p, [], core_done hw e rfl⟩
  | succ n ih =>
    intro w p k hk hw e
    by_cases hc : cycb k = true
    · exact ⟨p, k, core_done hw e hc⟩
    · obtain ⟨⟨l, f⟩, mid, ⟨l', y⟩, rfl⟩ := ends (w := k) (by
        rcases Nat.lt_or_ge k.length 2 with h | h
        · exact absurd (cycb_small h) hc
        · exact h)
      have hc' : cycb ((l, f) :: (mid ++ [(l', y)])) = false := by simpa using hc
      rw [cycb_ends] at hc'
      simp only [Bool.or_eq_false_iff, decide_eq_false_iff_not, ne_eq, Classical.not_not] at hc'
      obtain ⟨rfl, hs⟩ := hc'
      have hs' : ¬ (0 < f ↔ 0 < y) := by
        intro hh
        simp [hh] at hs
      by_cases hxy : f = -y
      · subst hxy
        refine ih w (p ++ [(l, -y)]) mid (by simp at hk; omega) hw ?_
        rw [e, inv_app, inv_one, Int.neg_neg]
        simp
      · exact ⟨_, _, core_taken hw e hs' hxy⟩
theorem rep_cyc {c : List (α × Int)} (hr : Red c) (hc : cycb c = true) (hn : c ≠ []) : ∀ n, ∃ f B, red (rep (n + 1) c) = ((c.head hn).1, f) :: B ∧ (0 < f ↔ 0 < (c.head hn).2) := by
  intro n
  induction n with
  | zero =>
    rw [rep_succ]
    show ∃ f B, red (c ++ []) = _ ∧ _
    rw [List.append_nil, red_of hr]
    cases c with
    | nil => exact absurd rfl hn
    | cons a t => exact ⟨a.2, t, rfl, Iff.rfl⟩
  | succ n ih =>
    obtain ⟨f, B, e, hs⟩ := ih
    rw [rep_succ, ← red_app_red, e]
    have hR : Red (((c.head hn).1, f) :: B) := by rw [← e]; exact Red.red
    by_cases hl : c.length < 2
    · obtain ⟨a, rfl⟩ : ∃ a, c = [a] := by
        match c, hn, hl with
        | [a], _, _ => exact ⟨a, rfl⟩
      obtain ⟨l, x⟩ := a
      have hx : x ≠ 0 := hr.1
      have hf : f ≠ 0 := hR.1
      simp only [List.head_cons] at hs e ⊢
      have : red ([(l, x)] ++ (l, f) :: B) = red ([] ++ (l, x + f) :: B) := meet_eq [] B l x f
      rw [this, List.nil_append, red_of (show Red ((l, x + f) :: B) from ⟨by simp only; omega, hR.2.1, hR.2.2⟩)]
      exact ⟨x + f, B, rfl, by omega⟩
    · obtain ⟨a, m, b, rfl⟩ := ends (w := c) (by omega)
      rw [cycb_ends] at hc
      simp only [List.head_cons] at hs e hR ⊢
      have hA : Red ((a :: m) ++ [b]) := by rw [List.cons_append]; exact hr
      have hb : b.2 ≠ 0 := hA.right.1
      have hf : f ≠ 0 := hR.1
      by_cases hab : a.1 = b.1
      · have hsg : (0 < a.2 ↔ 0 < b.2) := by
          simp [hab] at hc
          exact hc
        obtain ⟨lb, eb⟩ := b
        simp only at hab hb hsg
        rw [hab]
        have e1 : a :: (m ++ [(lb, eb)]) ++ (lb, f) :: B = (a :: m) ++ (lb, eb) :: (lb, f) :: B := by simp
        rw [hab] at hR
        have hR2 : Red ((a :: m) ++ (lb, eb + f) :: B) := Red.mid hA hR (by omega)
        rw [e1, meet_eq, red_of hR2]
        obtain ⟨la, ea⟩ := a
        simp only at hab
        subst hab
        exact ⟨ea, m ++ (la, eb + f) :: B, rfl, Iff.rfl⟩
      · have hR2 : Red ((a :: (m ++ [b])) ++ (a.1, f) :: B) := Red.app hr hR fun u v hu hv => by
          rw [← List.cons_append, List.getLast?_concat] at hu
          cases hu
          cases hv
          exact fun h => hab h.symm
        rw [red_of hR2]
        exact ⟨a.2, (m ++ [b]) ++ (a.1, f) :: B, rfl, Iff.rfl⟩
theorem pw_ne {w : List (α × Int)} (hw : Red w) (hn : w ≠ []) {e : Int} (he : e ≠ 0) : pw w e ≠ [] := by
  have pos : ∀ (w : List (α × Int)), Red w → w ≠ [] → ∀ n : Nat, pw w ((n + 1 : Nat) : Int) ≠ [] := by
    intro w hw hn n h
    obtain ⟨o, c, hc⟩ := core_ex w.length w [] w (Nat.le_refl _) hw (by simp [inv])
    have hcn : c ≠ [] := by
      rintro rfl
      have := hc.eq
      rw [List.nil_append, red_app_inv] at this
      exact hn this.symm
    have h2 := pw_conj o c ((n + 1 : Nat) : Int)
    rw [hc.eq, h] at h2
    have h3 : red (inv o ++ ((o ++ (pw c ((n + 1 : Nat) : Int) ++ inv o)) ++ o)) = pw c ((n + 1 : Nat) : Int) := by
      rw [List.append_assoc, List.append_assoc, cancel_l, app_congr (rfl : red (pw c ((n + 1 : Nat) : Int)) = _) (show red (inv o ++ o) = red [] from red_inv_app o), List.append_nil]
      exact red_of Red.pw
    have h4 : red (inv o ++ ((o ++ (pw c ((n + 1 : Nat) : Int) ++ inv o)) ++ o)) = [] := by
      rw [app_congr (rfl : red (inv o) = _) (app_congr (show red (o ++ (pw c ((n + 1 : Nat) : Int) ++ inv o)) = red [] from h2.symm) (rfl : red o = _)), List.nil_append, red_inv_app]
    rw [h4, pw_nat] at h3
    obtain ⟨f, B, e, _⟩ := rep_cyc hc.rc hc.cy hcn n
    rw [e] at h3
    cases h3
  by_cases h0 : 0 < e
  · obtain ⟨n, rfl⟩ : ∃ n : Nat, e = ((n + 1 : Nat) : Int) := ⟨(e - 1).toNat, by omega⟩
    exact pos w hw hn n
  · obtain ⟨n, rfl⟩ : ∃ n : Nat, e = -((n + 1 : Nat) : Int) := ⟨(-e - 1).toNat, by omega⟩
    intro h
    have h1 : pw w ((n + 1 : Nat) : Int) = [] := by
      have := pw_add w (-((n + 1 : Nat) : Int)) ((n + 1 : Nat) : Int)
      rw [h, List.nil_append, red_of Red.pw, Int.add_left_neg, pw_zero] at this
      exact this
    exact pos w hw hn n h1
theorem conj_ne {o i : List (α × Int)} (hi : Red i) (hn : i ≠ []) : red (o ++ (i ++ inv o)) ≠ [] := by
  intro h
  have h3 : red (inv o ++ ((o ++ (i ++ inv o)) ++ o)) = i := by
    rw [List.append_assoc, List.append_assoc, cancel_l, app_congr (rfl : red i = _) (show red (inv o ++ o) = red [] from red_inv_app o), List.append_nil]
    exact red_of hi
  have h4 : red (inv o ++ ((o ++ (i ++ inv o)) ++ o)) = [] := by
    rw [app_congr (rfl : red (inv o) = _) (app_congr (show red (o ++ (i ++ inv o)) = red [] from h) (rfl : red o = _)), List.nil_append, red_inv_app]
  rw [h4] at h3
  exact hn h3.symm
end Wd

/-! how many marks -/
namespace Wd
variable {α : Type} [DecidableEq α]
def msz (m : α) (w : List (α × Int)) : Nat := (w.map fun r => if r.1 = m then r.2.natAbs else 0).sum
theorem msz_nil (m : α) : msz m ([] : List (α × Int)) = 0 := rfl
theorem msz_cons (m : α) (r : α × Int) (w : List (α × Int)) : msz m (r :: w) = (if r.1 = m then r.2.natAbs else 0) + msz m w := by
  unfold msz
  rw [List.map_cons, List.sum_cons]
theorem msz_app (m : α) (u v : List (α × Int)) : msz m (u ++ v) = msz m u + msz m v := by
  induction u with
  | nil => rw [List.nil_append, msz_nil]; omega
  | cons r u ih => rw [List.cons_append, msz_cons, msz_cons, ih]; omega
theorem msz_inv (m : α) (w : List (α × Int)) : msz m (inv w) = msz m w := by
  induction w with
  | nil => rfl
  | cons r w ih =>
    have e : inv (r :: w) = inv w ++ [(r.1, -r.2)] := by simp [inv]
    rw [e, msz_app, ih, msz_cons, msz_cons, msz_nil]
    simp only [Int.natAbs_neg]
    omega
theorem msz_c (m : α) (r : α × Int) (w : List (α × Int)) : msz m (cons r w) ≤ (if r.1 = m then r.2.natAbs else 0) + msz m w := by
  cases w with
  | nil =>
    rw [c0]
    split
    · rw [msz_nil]; omega
    · rw [msz_cons]; exact Nat.le_refl _
  | cons q t =>
    rw [c1, msz_cons]
    split
    · rename_i h
      rw [h]
      split
      · omega
      · rw [msz_cons]
        simp only
        split <;> omega
    · split
      · rw [msz_cons]; omega
      · rw [msz_cons, msz_cons]; exact Nat.le_refl _
theorem msz_red (m : α) (w : List (α × Int)) : msz m (red w) ≤ msz m w := by
  induction w with
  | nil => exact Nat.le_refl _
  | cons r w ih =>
    have := msz_c m r (red w)
    rw [msz_cons]
    show msz m (cons r (red w)) ≤ _
    omega
theorem msz_mem {m : α} {w : List (α × Int)} {r : α × Int} (hr : r ∈ w) (h : r.1 = m) : r.2.natAbs ≤ msz m w := by
  induction w with
  | nil => cases hr
  | cons q w ih =>
    rw [msz_cons]
    rcases List.mem_cons.mp hr with rfl | hr
    · rw [if_pos h]; omega
    · have := ih hr; omega
theorem msz_drop (m : α) (w : List (α × Int)) (n : Nat) : msz m (w.drop n) ≤ msz m w := by
  have h := msz_app m (w.take n) (w.drop n)
  rw [List.take_append_drop] at h
  omega
theorem len_flat {m : α} {L : Nat} {f : α × Int → List (α × Int)} (hf : ∀ r, (f r).length ≤ if r.1 = m then r.2.natAbs * L else 1) (w : List (α × Int)) : (w.flatMap f).length ≤ msz m w * L + w.length := by
  induction w with
  | nil => simp
  | cons r w ih =>
    rw [List.flatMap_cons, List.length_append, msz_cons, List.length_cons]
    have := hf r
    split at this
    · rename_i h
      rw [if_pos h, Nat.add_mul]
      omega
    · rename_i h
      rw [if_neg h, Nat.add_mul, Nat.zero_mul]
      omega
theorem len_put (m : α) (im w : List (α × Int)) : (w.flatMap (put m im)).length ≤ msz m w * im.length + w.length := by
  refine len_flat (fun r => ?_) w
  unfold put
  split
  · exact len_pw im r.2
  · exact Nat.le_refl _
theorem esum_abs (m : α) (w : List (α × Int)) : (esum m w).natAbs ≤ msz m w := by
  induction w with
  | nil => exact Nat.le_refl _
  | cons r w ih =>
    rw [esum_cons, msz_cons]
    split <;> omega
end Wd

/-! putting twice -/
namespace Wd
variable {α : Type} [DecidableEq α]
theorem sub_none' {m : α} {im w : List (α × Int)} (h : ∀ r ∈ w, r.1 ≠ m) : sub m im w = red w := by
  unfold sub
  rw [sub_none h]
theorem sub_congr (m : α) (im : List (α × Int)) {u v : List (α × Int)} (h : red u = red v) : sub m im u = sub m im v := by
  rw [← sub_red m im u, h, sub_red]
theorem sub_pw (m : α) (g w : List (α × Int)) (e : Int) : sub m g (pw w e) = pw (sub m g w) e := by
  refine int_steps (P := fun e => sub m g (pw w e) = pw (sub m g w) e) ?_ (fun e ih => ?_) (fun e ih => ?_) e
  · rfl
  · rw [← pw_up, sub_red, sub_app, ih, pw_up]
  · rw [← pw_down, sub_red, sub_app, sub_inv, ih, pw_down]
/-- g for the marks of k, k for the marks of w -/
theorem sub_sub (m : α) (g k w : List (α × Int)) : sub m g (sub m k w) = sub m (sub m g k) w := by
  unfold sub at *
  rw [show red ((red (w.flatMap (put m k))).flatMap (put m g)) = red ((w.flatMap (put m k)).flatMap (put m g)) from sub_red m g _]
  rw [List.flatMap_assoc]
  refine flat_congr (fun r => ?_) w
  unfold put
  by_cases h : r.1 = m
  · rw [if_pos h, if_pos h]
    have e := sub_pw m g k r.2
    unfold sub at e
    have e2 : red (pw (red (k.flatMap (put m g))) r.2) = pw (red (k.flatMap (put m g))) r.2 := red_of Red.pw
    rw [show (fun r : α × Int => if r.1 = m then pw g r.2 else [r]) = put m g from rfl, e, ← e2]
    exact (red_red _).symm
  · rw [if_neg h, if_neg h]
    simp [h]
theorem put_one (m : α) {w : List (α × Int)} (h : ∀ r ∈ w, r.2 ≠ 0) : w.flatMap (put m [(m, 1)]) = w := by
  induction w with
  | nil => rfl
  | cons r w ih =>
    rw [List.flatMap_cons, ih fun x hx => h x (by simp [hx])]
    obtain ⟨l, e⟩ := r
    have he : e ≠ 0 := h (l, e) (by simp)
    unfold put
    by_cases hl : l = m
    · subst hl
      rw [if_pos rfl, pw_single (by omega) he, Int.one_mul]
      rfl
    · rw [if_neg hl]
      rfl
theorem sub_one (m : α) {w : List (α × Int)} (h : Red w) : sub m [(m, 1)] w = w := by
  unfold sub
  rw [put_one m (red_iff.mp h).1, red_of h]
/-- letter by letter -/
def spell1 (r : α × Int) : List (α × Int) := List.replicate r.2.natAbs (r.1, if r.2 < 0 then -1 else 1)
def spelled (w : List (α × Int)) : List (α × Int) := w.flatMap spell1
theorem red_spell1 (r : α × Int) : red (spell1 r) = red [r] := by
  obtain ⟨l, e⟩ := r
  have key : ∀ (s : Int) (n : Nat), List.replicate n (l, s) = rep n [(l, s)] := fun s n => by
    induction n with
    | zero => rfl
    | succ n ih => rw [List.replicate_succ, ih, rep_succ]; rfl
  unfold spell1
  rw [key, red_rep_one]
  simp only
  have e1 : (if e < 0 then (-1 : Int) else 1) * (e.natAbs : Int) = e := by split <;> omega
  rw [e1]
  show _ = cons (l, e) []
  rw [c0]
theorem red_spelled (w : List (α × Int)) : red (spelled w) = red w := by
  unfold spelled
  have h := flat_congr (f := spell1) (g := fun r => [r]) (fun r => red_spell1 r) w
  rw [h]
  congr 1
  induction w with
  | nil => rfl
  | cons r w ih => rw [List.flatMap_cons, ih (flat_congr (fun r => red_spell1 r) w)]; rfl
theorem len_spelled (w : List (α × Int)) : (spelled w).length = size w := by
  induction w with
  | nil => rfl
  | cons r w ih =>
    unfold spelled at ih ⊢
    rw [List.flatMap_cons, List.length_append, ih, size_cons]
    unfold spell1
    rw [List.length_replicate]
theorem len_sub_nil (m : α) (w : List (α × Int)) : (sub m [] w).length ≤ w.length := by
  have h3 := len_red (w.flatMap (put m []))
  unfold sub
  rw [put_nil] at h3 ⊢
  exact Nat.le_trans h3 (List.length_filter_le _ _)
theorem no_sub_nil (m : α) (u : List (α × Int)) : ∀ r ∈ sub m [] u, r.1 ≠ m := by
  intro r hr
  unfold sub at hr
  rw [put_nil] at hr
  obtain ⟨y, hy, e⟩ := red_mem hr
  rw [List.mem_filter] at hy
  rw [← e]
  simpa using hy.2
theorem no_inv {m : α} {u : List (α × Int)} (h : ∀ r ∈ u, r.1 ≠ m) : ∀ r ∈ inv u, r.1 ≠ m := fun r hr => by
  unfold inv at hr
  rw [List.mem_reverse] at hr
  obtain ⟨x, hx, rfl⟩ := List.mem_map.mp hr
  exact h x hx
/-- a word without the letter stays -/
theorem sub_tt (m : α) (g u : List (α × Int)) : sub m g (sub m [] u) = sub m [] u := sub_self Red.red (no_sub_nil m u)
end Wd

/-! equations of words, by the action -/
namespace Wd
variable {α : Type} [DecidableEq α]
theorem red_inv (u : List (α × Int)) : red (inv u) = inv (red u) := by
  refine inv_of Red.red Red.red ?_
  rw [red_red_app, red_app_red]
  exact red_inv_app u
theorem a_red {u w : List (α × Int)} (h : Red w) : act (red u) w = act u w := act_red h
theorem a_ired {u w : List (α × Int)} (h : Red w) : act (inv (red u)) w = act (inv u) w := by rw [← red_inv, act_red h]
theorem a_r {u w : List (α × Int)} (h : Red w) : act u (act (inv u) w) = w := act_inv h
theorem a_l {u w : List (α × Int)} (h : Red w) : act (inv u) (act u w) = w := by
  have := act_inv (u := inv u) (w := w) h
  rwa [inv_inv] at this
theorem a_Red {u w : List (α × Int)} (h : Red w) : Red (act u w) = True := eq_true (Red.act h)
theorem a_nil : Red ([] : List (α × Int)) = True := eq_true trivial
theorem a_e {w : List (α × Int)} : act ([] : List (α × Int)) w = w := rfl
/-- behind one, its target's inverse and the next -/
def aft (m : α) (A B : List (α × Int)) : List (α × Int) := red (A ++ (inv (sub m [] A) ++ B))
def tb (m : α) (im A : List (α × Int)) : List (α × Int) := red (sub m [] A ++ (inv A ++ sub m im A))
theorem by_act {u v : List (α × Int)} (h : act u [] = act v []) : red u = red v := h
theorem to_act {u v : List (α × Int)} (hv : Red v) (h : act u [] = act v []) : red u = v := by
  rw [← red_of hv]
  exact h
theorem sub_aft (m : α) (im A B : List (α × Int)) : sub m im (aft m A B) = red (sub m im A ++ (inv (sub m [] A) ++ sub m im B)) := by
  unfold aft
  rw [sub_red, sub_app, sub_app, sub_inv, sub_tt]
  apply by_act
  simp (config := { maxDischargeDepth := 40 }) only [act_app, a_red, a_ired, a_r, a_l, a_Red, a_nil, a_e, inv_app, inv_inv]
theorem sub_aft_eq {m : α} {im A B : List (α × Int)} (h : sub m im B = sub m [] A) : sub m im (aft m A B) = sub m im A := by
  rw [sub_aft, h]
  apply to_act (v := sub m im A) Red.red
  simp (config := { maxDischargeDepth := 40 }) only [act_app, a_red, a_ired, a_r, a_l, a_Red, a_nil, a_e, inv_app, inv_inv]
theorem tgt_aft (m : α) (A B : List (α × Int)) : sub m [] (aft m A B) = sub m [] B := by
  rw [sub_aft]
  apply to_act (v := sub m [] B) Red.red
  simp (config := { maxDischargeDepth := 40 }) only [act_app, a_red, a_ired, a_r, a_l, a_Red, a_nil, a_e, inv_app, inv_inv]
theorem aft_aft (m : α) (A B C : List (α × Int)) : aft m A (aft m B C) = aft m (aft m A B) C := by
  show red (A ++ (inv (sub m [] A) ++ aft m B C)) = red (aft m A B ++ (inv (sub m [] (aft m A B)) ++ C))
  rw [tgt_aft]
  unfold aft
  apply by_act
  simp (config := { maxDischargeDepth := 40 }) only [act_app, a_red, a_ired, a_r, a_l, a_Red, a_nil, a_e, inv_app, inv_inv]
section
variable {m : α} {im A W : List (α × Int)} (hW : sub m im W = W) (hT : sub m [] W = W) (h : sub m im A = W)
include hW hT h
theorem sub_tb : sub m im (tb m im A) = sub m [] A := by
  unfold tb
  rw [h, sub_red, sub_app, sub_app, sub_tt, sub_inv, h, hW]
  apply to_act (v := sub m [] A) Red.red
  simp (config := { maxDischargeDepth := 40 }) only [act_app, a_red, a_ired, a_r, a_l, a_Red, a_nil, a_e, inv_app, inv_inv]
theorem tgt_tb : sub m [] (tb m im A) = W := by
  have hR : Red W := by rw [← hT]; exact Red.red
  unfold tb
  rw [h, sub_red, sub_app, sub_app, sub_tt, sub_inv, hT]
  apply to_act hR
  simp (config := { maxDischargeDepth := 40 }) only [act_app, a_red, a_ired, a_r, a_l, a_Red, a_nil, a_e, inv_app, inv_inv]
theorem tb_tb (hA : Red A) : tb m im (tb m im A) = A := by
  show red (sub m [] (tb m im A) ++ (inv (tb m im A) ++ sub m im (tb m im A))) = A
  rw [sub_tb hW hT h, tgt_tb hW hT h]
  unfold tb
  rw [h]
  apply to_act hA
  simp (config := { maxDischargeDepth := 40 }) only [act_app, a_red, a_ired, a_r, a_l, a_Red, a_nil, a_e, inv_app, inv_inv]
theorem aft_tb : aft m A (tb m im A) = W := by
  have hR : Red W := by rw [← hT]; exact Red.red
  unfold aft tb
  rw [h]
  apply to_act hR
  simp (config := { maxDischargeDepth := 40 }) only [act_app, a_red, a_ired, a_r, a_l, a_Red, a_nil, a_e, inv_app, inv_inv]
theorem tb_aft : aft m (tb m im A) A = sub m [] A := by
  show red (tb m im A ++ (inv (sub m [] (tb m im A)) ++ A)) = _
  rw [tgt_tb hW hT h]
  unfold tb
  rw [h]
  apply to_act (v := sub m [] A) Red.red
  simp (config := { maxDischargeDepth := 40 }) only [act_app, a_red, a_ired, a_r, a_l, a_Red, a_nil, a_e, inv_app, inv_inv]
end
/-- under a keeper -/
theorem keep_sub {m : α} {g k im : List (α × Int)} (hk : sub m g k = im) (w : List (α × Int)) : sub m g (sub m k w) = sub m im w := by rw [sub_sub, hk]
theorem keep_tgt {m : α} {k : List (α × Int)} (hk : sub m [] k = []) (w : List (α × Int)) : sub m [] (sub m k w) = sub m [] w := by rw [sub_sub, hk]
theorem keep_aft {m : α} {k : List (α × Int)} (hk : sub m [] k = []) (A B : List (α × Int)) : aft m (sub m k A) (sub m k B) = sub m k (aft m A B) := by
  rw [sub_aft]
  unfold aft
  rw [keep_tgt hk]
theorem keep_tb {m : α} {g k im A W : List (α × Int)} (hg : sub m g k = im) (hk : sub m [] k = []) (hW : sub m k W = W) (h : sub m im A = W) : tb m g (sub m k A) = sub m k (tb m im A) := by
  unfold tb
  rw [keep_tgt hk, keep_sub hg, h, sub_red, sub_app, sub_app, sub_inv, sub_tt, hW]
  apply by_act
  simp (config := { maxDischargeDepth := 40 }) only [act_app, a_red, a_ired, a_r, a_l, a_Red, a_nil, a_e, inv_app, inv_inv]
/-! sizes -/
theorem msz_le (m : α) (w : List (α × Int)) : msz m w ≤ size w := by
  induction w with
  | nil => exact Nat.le_refl _
  | cons r w ih =>
    rw [msz_cons, size_cons]
    split <;> omega
theorem len_le {w : List (α × Int)} (h : Red w) : w.length ≤ size w := by
  induction w with
  | nil => exact Nat.le_refl _
  | cons r w ih =>
    have h1 := ih h.2.2
    have h2 := h.1
    rw [size_cons, List.length_cons]
    omega
theorem size_filter (m : α) (w : List (α × Int)) : size (w.filter fun r => decide (r.1 ≠ m)) ≤ size w := by
  induction w with
  | nil => exact Nat.le_refl _
  | cons r w ih =>
    rw [List.filter_cons, size_cons]
    split
    · rw [size_cons]; omega
    · omega
theorem size_tgt (m : α) (w : List (α × Int)) : size (sub m [] w) ≤ size w := by
  unfold sub
  rw [put_nil]
  exact Nat.le_trans (size_red _) (size_filter m w)
theorem size_aft (m : α) (A B : List (α × Int)) : size (aft m A B) ≤ 2 * size A + size B := by
  have h1 := size_red (A ++ (inv (sub m [] A) ++ B))
  rw [size_app, size_app, size_inv] at h1
  have := size_tgt m A
  unfold aft
  omega
end Wd

/-! words letter by letter -/
namespace Wd
variable {α : Type} [DecidableEq α]
/-- every exponent is 1 or -1 -/
def Lt (X : List (α × Int)) : Prop := ∀ r ∈ X, r.2 = 1 ∨ r.2 = -1
/-- no two neighbours cancel -/
def Fr : List (α × Int) → Prop
  | [] => True
  | a :: t => (∀ b ∈ t.head?, ¬ (b.1 = a.1 ∧ b.2 = -a.2)) ∧ Fr t
theorem Lt.nil : Lt ([] : List (α × Int)) := fun r hr => by cases hr
theorem Lt.app {X Y : List (α × Int)} (h : Lt X) (k : Lt Y) : Lt (X ++ Y) := fun r hr => (List.mem_append.mp hr).elim (h r) (k r)
theorem Lt.left {X Y : List (α × Int)} (h : Lt (X ++ Y)) : Lt X := fun r hr => h r (List.mem_append_left _ hr)
theorem Lt.right {X Y : List (α × Int)} (h : Lt (X ++ Y)) : Lt Y := fun r hr => h r (List.mem_append_right _ hr)
theorem Lt.inv {X : List (α × Int)} (h : Lt X) : Lt (inv X) := fun r hr => by
  unfold Wd.inv at hr
  rw [List.mem_reverse] at hr
  obtain ⟨x, hx, rfl⟩ := List.mem_map.mp hr
  have := h x hx
  show -x.2 = 1 ∨ -x.2 = -1
  omega
theorem Lt.spell1 (r : α × Int) : Lt (spell1 r) := fun x hx => by
  unfold Wd.spell1 at hx
  obtain ⟨_, rfl⟩ := List.mem_replicate.mp hx
  dsimp only
  split
  · exact .inr rfl
  · exact .inl rfl
theorem Lt.spelled (w : List (α × Int)) : Lt (spelled w) := fun x hx => by
  unfold Wd.spelled at hx
  obtain ⟨r, _, h⟩ := List.mem_flatMap.mp hx
  exact Lt.spell1 r x h
theorem Lt.rep {X : List (α × Int)} (h : Lt X) (n : Nat) : Lt (rep n X) := by
  induction n with
  | zero => exact Lt.nil
  | succ n ih =>
    rw [rep_succ]
    exact h.app ih
theorem Fr.left {X Y : List (α × Int)} (h : Fr (X ++ Y)) : Fr X := by
  induction X with
  | nil => trivial
  | cons a X ih =>
    refine ⟨fun b hb => h.1 b ?_, ih h.2⟩
    cases X with
    | nil => cases hb
    | cons c X => exact hb
theorem Fr.right {X Y : List (α × Int)} (h : Fr (X ++ Y)) : Fr Y := by
  induction X with
  | nil => exact h
  | cons a X ih => exact ih h.2
/-- at a seam -/
theorem Fr.app {X Y : List (α × Int)} (h : Fr X) (k : Fr Y) (s : ∀ a b, X.getLast? = some a → Y.head? = some b → ¬ (b.1 = a.1 ∧ b.2 = -a.2)) : Fr (X ++ Y) := by
  induction X with
  | nil => exact k
  | cons a X ih =>
    cases X with
    | nil =>
      refine ⟨fun b hb => ?_, k⟩
      exact s a b rfl hb
    | cons c X =>
      refine ⟨h.1, ih h.2 fun a' b' h1 h2 => s a' b' ?_ h2⟩
      rw [List.getLast?_cons_cons]
      exact h1
theorem Fr.seam {X Y : List (α × Int)} {a b : α × Int} (h : Fr (X ++ Y)) (h1 : X.getLast? = some a) (h2 : Y.head? = some b) : ¬ (b.1 = a.1 ∧ b.2 = -a.2) := by
  induction X with
  | nil => cases h1
  | cons c X ih =>
    cases X with
    | nil =>
      simp at h1
      subst h1
      exact h.1 b h2
    | cons d X =>
      rw [List.getLast?_cons_cons] at h1
      exact ih h.2 h1
theorem head_inv (X : List (α × Int)) : (inv X).head? = X.getLast?.map fun r => (r.1, -r.2) := by
  unfold inv
  rw [List.head?_reverse, List.getLast?_map]
theorem last_inv (X : List (α × Int)) : (inv X).getLast? = X.head?.map fun r => (r.1, -r.2) := by
  unfold inv
  rw [List.getLast?_reverse, List.head?_map]
theorem Fr.inv {X : List (α × Int)} (h : Fr X) : Fr (inv X) := by
  induction X with
  | nil => trivial
  | cons a X ih =>
    have e : Wd.inv (a :: X) = Wd.inv X ++ [(a.1, -a.2)] := by simp [Wd.inv]
    rw [e]
    refine Fr.app (ih h.2) ⟨by simp, trivial⟩ fun x y hx hy => ?_
    simp at hy
    subst hy
    rw [last_inv] at hx
    cases X with
    | nil => cases hx
    | cons b X =>
      simp at hx
      subst hx
      have := h.1 b rfl
      intro hh
      dsimp only at hh
      exact this ⟨hh.1.symm, by omega⟩
theorem Fr.take {X : List (α × Int)} (h : Fr X) (n : Nat) : Fr (X.take n) := by
  have : Fr (X.take n ++ X.drop n) := by rw [List.take_append_drop]; exact h
  exact this.left
theorem Fr.drop {X : List (α × Int)} (h : Fr X) (n : Nat) : Fr (X.drop n) := by
  have : Fr (X.take n ++ X.drop n) := by rw [List.take_append_drop]; exact h
  exact this.right
/-- runs of one letter -/
theorem Fr.spell1 (r : α × Int) : Fr (spell1 r) := by
  unfold Wd.spell1
  generalize r.2.natAbs = n
  induction n with
  | zero => trivial
  | succ n ih =>
    rw [List.replicate_succ]
    refine ⟨fun b hb => ?_, ih⟩
    cases n with
    | zero => cases hb
    | succ n =>
      rw [List.replicate_succ] at hb
      cases hb
      intro hh
      dsimp only at hh
      have := hh.2
      split at this <;> omega
theorem spell1_head {r : α × Int} (h : r.2 ≠ 0) : (spell1 r).head? = some (r.1, if r.2 < 0 then -1 else 1) := by
  unfold spell1
  obtain ⟨n, hn⟩ : ∃ n, r.2.natAbs = n + 1 := ⟨r.2.natAbs - 1, by omega⟩
  rw [hn, List.replicate_succ]
  rfl
theorem spell1_last {r : α × Int} (h : r.2 ≠ 0) : (spell1 r).getLast? = some (r.1, if r.2 < 0 then -1 else 1) := by
  unfold spell1
  obtain ⟨n, hn⟩ : ∃ n, r.2.natAbs = n + 1 := ⟨r.2.natAbs - 1, by omega⟩
  rw [hn, List.replicate_succ', List.getLast?_concat]
theorem spelled_cons (r : α × Int) (w : List (α × Int)) : spelled (r :: w) = spell1 r ++ spelled w := by
  unfold spelled
  rw [List.flatMap_cons]
theorem spelled_app (u v : List (α × Int)) : spelled (u ++ v) = spelled u ++ spelled v := by
  unfold spelled
  rw [List.flatMap_append]
theorem spelled_head {r : α × Int} {w : List (α × Int)} (h : r.2 ≠ 0) : (spelled (r :: w)).head? = some (r.1, if r.2 < 0 then -1 else 1) := by
  rw [spelled_cons, List.head?_append, spell1_head h]
  rfl
theorem spelled_last {r : α × Int} {w : List (α × Int)} (h : r.2 ≠ 0) : (spelled (w ++ [r])).getLast? = some (r.1, if r.2 < 0 then -1 else 1) := by
  rw [spelled_app, List.getLast?_append, spelled_cons]
  have : spelled ([] : List (α × Int)) = [] := rfl
  rw [this, List.append_nil, spell1_last h]
  rfl
theorem Fr.spelled {w : List (α × Int)} (h : Red w) : Fr (spelled w) := by
  induction w with
  | nil => trivial
  | cons r w ih =>
    rw [spelled_cons]
    refine Fr.app (Fr.spell1 r) (ih h.2.2) fun a b h1 h2 => ?_
    rw [spell1_last h.1] at h1
    cases h1
    cases w with
    | nil => cases h2
    | cons q w =>
      rw [spelled_head h.2.2.1] at h2
      cases h2
      intro hh
      exact h.2.1 q rfl hh.1
/-- the word of such letters -/
theorem spelled_red {X : List (α × Int)} (h : Lt X) (k : Fr X) : spelled (red X) = X ∧ ∀ b ∈ X.head?, ∃ g t, red X = (b.1, g) :: t ∧ (0 < g ↔ b.2 = 1) := by
  induction X with
  | nil => exact ⟨rfl, fun b hb => by cases hb⟩
  | cons a X ih =>
    obtain ⟨l, e⟩ := a
    obtain ⟨ih1, ih2⟩ := ih (fun r hr => h r (by simp [hr])) k.2
    have he : e = 1 ∨ e = -1 := h (l, e) (by simp)
    have hr : red ((l, e) :: X) = cons (l, e) (red X) := rfl
    cases X with
    | nil =>
      have : red ((l, e) :: []) = [(l, e)] := by
        rw [hr]
        show cons (l, e) [] = _
        rw [c0, if_neg (by omega)]
      rw [this]
      refine ⟨?_, fun b hb => ?_⟩
      · rcases he with rfl | rfl <;> rfl
      · simp at hb
        subst hb
        exact ⟨e, [], rfl, by omega⟩
    | cons b X =>
      obtain ⟨l', f⟩ := b
      have hf : f = 1 ∨ f = -1 := h (l', f) (by simp)
      obtain ⟨g, t, hg, hs⟩ := ih2 (l', f) rfl
      dsimp only at hg hs
      have hn := k.1 (l', f) rfl
      dsimp only at hn
      rw [hr, hg, c1]
      rw [hg] at ih1
      by_cases hll : l' = l
      · subst hll
        have hef : f = e := by
          have : ¬ f = -e := fun z => hn ⟨rfl, z⟩
          omega
        subst hef
        have hred : Red ((l', g) :: t) := by rw [← hg]; exact Red.red
        have hg0 : g ≠ 0 := hred.1
        dsimp only
        rw [if_pos rfl, if_neg (by omega)]
        refine ⟨?_, fun b hb => ?_⟩
        · rw [spelled_cons] at ih1 ⊢
          have : spell1 (l', f + g) = (l', f) :: spell1 (l', g) := by
            unfold spell1
            dsimp only
            have e1 : (f + g).natAbs = g.natAbs + 1 := by omega
            rw [e1, List.replicate_succ]
            have e2 : (if f + g < 0 then (-1 : Int) else 1) = f := by split <;> omega
            have e3 : (if g < 0 then (-1 : Int) else 1) = f := by split <;> omega
            rw [e2, e3]
          rw [this, List.cons_append, ih1]
        · simp at hb
          subst hb
          exact ⟨f + g, t, rfl, by omega⟩
      · dsimp only
        rw [if_neg hll, if_neg (by omega)]
        refine ⟨?_, fun b hb => ?_⟩
        · rw [spelled_cons, ih1]
          rcases he with rfl | rfl <;> rfl
        · simp at hb
          subst hb
          exact ⟨e, _, rfl, by omega⟩
theorem spelled_of {X : List (α × Int)} (h : Lt X) (k : Fr X) : spelled (red X) = X := (spelled_red h k).1
theorem spelled_inj {u v : List (α × Int)} (hu : Red u) (hv : Red v) (h : spelled u = spelled v) : u = v := by
  have e1 := red_spelled u
  have e2 := red_spelled v
  rw [h, e2, red_of hv, red_of hu] at e1
  exact e1.symm
theorem size_lt {X : List (α × Int)} (h : Lt X) : size X = X.length := by
  induction X with
  | nil => rfl
  | cons a X ih =>
    rw [size_cons, List.length_cons, ih fun r hr => h r (by simp [hr])]
    have := h a (by simp)
    omega
theorem size_fr {X : List (α × Int)} (h : Lt X) (k : Fr X) : size (red X) = X.length := by
  rw [← len_spelled, spelled_of h k]
theorem spell1_inv (r : α × Int) (h : r.2 ≠ 0) : inv (spell1 r) = spell1 (r.1, -r.2) := by
  unfold inv spell1
  rw [List.map_replicate, List.reverse_replicate]
  dsimp only
  rw [show (-r.2).natAbs = r.2.natAbs by omega]
  congr 2
  split <;> split <;> omega
theorem spelled_inv {w : List (α × Int)} (h : ∀ r ∈ w, r.2 ≠ 0) : spelled (inv w) = inv (spelled w) := by
  induction w with
  | nil => rfl
  | cons r w ih =>
    have e : inv (r :: w) = inv w ++ [(r.1, -r.2)] := by simp [inv]
    rw [e, spelled_app, ih fun x hx => h x (by simp [hx]), spelled_cons r w, inv_app, spell1_inv r (h r (by simp)), spelled_cons]
    show _ ++ (_ ++ []) = _
    rw [List.append_nil]
theorem Red.nz {w : List (α × Int)} (h : Red w) : ∀ r ∈ w, r.2 ≠ 0 := by
  induction w with
  | nil => intro r hr; cases hr
  | cons a w ih =>
    intro r hr
    rcases List.mem_cons.mp hr with rfl | hr
    · exact h.1
    · exact ih h.2.2 r hr
end Wd

/-! cores letter by letter; reading copies -/
namespace Wd
variable {α : Type} [DecidableEq α]
theorem fr_of_size {X : List (α × Int)} (h : Lt X) (hs : size (red X) = X.length) : Fr X := by
  induction X with
  | nil => trivial
  | cons a X ih =>
    have h1 := size_red X
    have h2 := size_lt (X := X) fun r hr => h r (by simp [hr])
    have h3 := size_cons_le a (red X)
    have ha : a.2 = 1 ∨ a.2 = -1 := h a (by simp)
    have hr : red (a :: X) = cons a (red X) := rfl
    rw [hr, List.length_cons] at hs
    have hX : size (red X) = X.length := by omega
    have fX := ih (fun r hr => h r (by simp [hr])) hX
    refine ⟨fun b hb hc => ?_, fX⟩
    obtain ⟨g, t, hg, hgs⟩ := (spelled_red (fun r hr => h r (by simp [hr])) fX).2 b hb
    have hbl : b.2 = 1 ∨ b.2 = -1 := by
      cases X with
      | nil => cases hb
      | cons c X =>
        cases hb
        exact h b (by simp)
    rw [hg] at hs hX
    rw [c1, if_pos hc.1] at hs
    rw [size_cons] at hX
    dsimp only at hs hX
    have hg0 : g ≠ 0 := by
      have : Red ((b.1, g) :: t) := by rw [← hg]; exact Red.red
      exact this.1
    split at hs
    · omega
    · rw [size_cons] at hs
      dsimp only at hs
      omega
theorem lt_app3 {O C : List (α × Int)} (h : Lt O) (k : Lt C) : Lt (O ++ (C ++ inv O)) := h.app (k.app h.inv)
theorem red_spelled3 (o c : List (α × Int)) (ho : Red o) : red (spelled o ++ (spelled c ++ inv (spelled o))) = red (o ++ (c ++ inv o)) := by
  refine app_congr (red_spelled o) (app_congr (red_spelled c) ?_)
  rw [← spelled_inv ho.nz, red_spelled]
theorem Core.spell {w o c : List (α × Int)} (h : Core w o c) : spelled w = spelled o ++ (spelled c ++ inv (spelled o)) ∧ Fr (spelled o ++ (spelled c ++ inv (spelled o))) := by
  have hl : Lt (spelled o ++ (spelled c ++ inv (spelled o))) := lt_app3 (Lt.spelled o) (Lt.spelled c)
  have e : red (spelled o ++ (spelled c ++ inv (spelled o))) = w := by rw [red_spelled3 o c h.ro, h.eq]
  have hf : Fr (spelled o ++ (spelled c ++ inv (spelled o))) := fr_of_size hl (by
    rw [e, h.sz, List.length_append, List.length_append, len_inv, len_spelled, len_spelled]
    omega)
  refine ⟨?_, hf⟩
  rw [← spelled_of hl hf, e]
theorem cyc_fr {c : List (α × Int)} (hr : Red c) (hc : cycb c = true) : Fr (spelled c ++ spelled c) := by
  refine fr_of_size ((Lt.spelled c).app (Lt.spelled c)) ?_
  have h := size_sq c hr
  rw [hc] at h
  have h' : size (red (c ++ c)) = 2 * size c := by simpa using h
  rw [app_congr (red_spelled c) (red_spelled c), h', List.length_append, len_spelled]
  omega
theorem fr_cyc {c : List (α × Int)} (hr : Red c) (h : Fr (spelled c ++ spelled c)) : cycb c = true := by
  rw [← size_sq c hr, decide_eq_true_eq, ← app_congr (red_spelled c) (red_spelled c), size_fr ((Lt.spelled c).app (Lt.spelled c)) h, List.length_append, len_spelled]
  omega
theorem rep_one (X : List (α × Int)) : rep 1 X = X := by simp [rep]
theorem rep_zero (X : List (α × Int)) : rep 0 X = [] := rfl
theorem rep_snoc' (n : Nat) (v : List (α × Int)) : rep n v ++ v = rep (n + 1) v := by
  induction n with
  | zero => simp [rep]
  | succ n ih => rw [rep_succ, List.append_assoc, ih, ← rep_succ]
theorem rep_head {C : List (α × Int)} (hn : C ≠ []) (n : Nat) : (rep (n + 1) C).head? = C.head? := by
  rw [rep_succ]
  cases C with
  | nil => exact absurd rfl hn
  | cons a C => rfl
theorem rep_last {C : List (α × Int)} (hn : C ≠ []) (n : Nat) : (rep (n + 1) C).getLast? = C.getLast? := by
  rw [← rep_snoc', List.getLast?_append]
  cases h : C.getLast? with
  | none => exact absurd (List.getLast?_eq_none_iff.mp h) hn
  | some a => rfl
theorem Fr.rep {C : List (α × Int)} (h : Fr (C ++ C)) : ∀ n, Fr (rep n C)
  | 0 => trivial
  | n + 1 => by
    by_cases hn : C = []
    · subst hn
      have : ∀ n, Wd.rep n ([] : List (α × Int)) = [] := fun n => by
        induction n with
        | zero => rfl
        | succ n ih => rw [rep_succ, ih]; rfl
      rw [this]
      trivial
    rw [rep_succ]
    refine Fr.app h.left (Fr.rep h n) fun a b h1 h2 => ?_
    cases n with
    | zero => cases h2
    | succ n =>
      rw [rep_head hn] at h2
      exact h.seam h1 h2
theorem inv_rep (n : Nat) (C : List (α × Int)) : inv (rep n C) = rep n (inv C) := by
  induction n with
  | zero => rfl
  | succ n ih => rw [rep_succ, inv_app, ih, rep_snoc']
theorem fr_block {O C : List (α × Int)} (h1 : Fr (O ++ (C ++ inv O))) (h2 : Fr (C ++ C)) (hn : C ≠ []) (n : Nat) : Fr (O ++ (rep (n + 1) C ++ inv O)) := by
  refine Fr.app h1.left (Fr.app (Fr.rep h2 _) h1.right.right fun a b ha hb => ?_) fun a b ha hb => ?_
  · rw [rep_last hn] at ha
    exact h1.right.seam ha hb
  · rw [List.head?_append, rep_head hn] at hb
    refine h1.seam (X := O) (Y := C ++ inv O) ha ?_
    rw [List.head?_append]
    exact hb
theorem ne_inv {C : List (α × Int)} (hl : Lt C) (h : Fr (C ++ C)) (hn : C ≠ []) : C ≠ inv C := by
  intro e
  have h1 := size_fr (hl.app hl) h
  have h2 : red (C ++ C) = [] := by
    conv => lhs; arg 1; rhs; rw [e]
    exact red_app_inv C
  rw [h2, List.length_append] at h1
  have : C.length = 0 := by
    have : size ([] : List (α × Int)) = 0 := rfl
    omega
  exact hn (List.length_eq_zero_iff.mp this)
/-! reading copies -/
def pre (W Y : List (α × Int)) : Bool := decide (Y.take W.length = W)
theorem pre_app (W Y : List (α × Int)) : pre W (W ++ Y) = true := by
  unfold pre
  rw [List.take_left]
  simp
theorem pre_nil (Y : List (α × Int)) : pre [] Y = true := by simp [pre]
theorem of_pre {W Y : List (α × Int)} (h : pre W Y = true) : Y = W ++ Y.drop W.length := by
  have h1 : Y.take W.length = W := by simpa [pre] using h
  conv => lhs; rw [← List.take_append_drop W.length Y, h1]
theorem pre_head {W Y : List (α × Int)} (h : pre W Y = true) {a : α × Int} (ha : W.head? = some a) : Y.head? = some a := by
  rw [of_pre h, List.head?_append, ha]
  rfl
theorem pre_len {V W Y : List (α × Int)} (hl : V.length = W.length) (h : pre V (W ++ Y) = true) : V = W := by
  have h1 : (W ++ Y).take V.length = V := by simpa [pre] using h
  rw [hl, List.take_left] at h1
  exact h1.symm
/-- so many copies stand there -/
def cnt (K : List (α × Int)) : Nat → List (α × Int) → Nat
  | 0, _ => 0
  | f + 1, Y => if pre K Y = true then cnt K f (Y.drop K.length) + 1 else 0
theorem cnt_le (K : List (α × Int)) : ∀ (f : Nat) (Y : List (α × Int)), Y = rep (cnt K f Y) K ++ Y.drop (cnt K f Y * K.length)
  | 0, Y => by simp [cnt, rep]
  | f + 1, Y => by
    unfold cnt
    split
    · rename_i h
      have ih := cnt_le K f (Y.drop K.length)
      rw [rep_succ, List.append_assoc, Nat.succ_mul, Nat.add_comm (_ * _), ← List.drop_drop, ← ih]
      exact of_pre h
    · simp [rep]
theorem cnt_stop {K : List (α × Int)} (hn : K ≠ []) : ∀ (f : Nat) (Y : List (α × Int)), Y.length < f → pre K (Y.drop (cnt K f Y * K.length)) = false
  | 0, Y, h => by omega
  | f + 1, Y, h => by
    have hk : 0 < K.length := List.length_pos_iff.mpr hn
    unfold cnt
    split
    · rename_i hp
      have hY := of_pre hp
      have hl : K.length ≤ Y.length := by
        have := congrArg List.length hY
        rw [List.length_append] at this
        omega
      have ih := cnt_stop hn f (Y.drop K.length) (by rw [List.length_drop]; omega)
      rw [List.drop_drop] at ih
      rw [Nat.succ_mul, Nat.add_comm (_ * _)]
      exact ih
    · rename_i hp
      simpa using hp
theorem cnt_rep {K Z : List (α × Int)} (hn : K ≠ []) (hz : pre K Z = false) : ∀ (n f : Nat), n < f → cnt K f (rep n K ++ Z) = n
  | 0, f + 1, _ => by
    show cnt K (f + 1) Z = 0
    unfold cnt
    rw [hz]
    simp
  | n + 1, f + 1, h => by
    unfold cnt
    rw [rep_succ, List.append_assoc, pre_app, if_pos rfl, List.drop_left, cnt_rep hn hz n f (by omega)]
/-- what is read at a place: how many copies, how many letters -/
def readc (O C Y : List (α × Int)) : Int × Nat :=
  if pre O Y = true then
    let Y1 := Y.drop O.length
    let sg : Int := if pre C Y1 = true then 1 else -1
    let K := if pre C Y1 = true then C else inv C
    let n := if O = [] then (if pre K Y1 = true then 1 else 0) else cnt K (Y1.length + 1) Y1
    if pre (inv O) (Y1.drop (n * K.length)) = true then (sg * n, O.length + n * K.length + O.length) else (0, 0)
  else (0, 0)
theorem readc_sound {O C Y : List (α × Int)} (h : (readc O C Y).1 ≠ 0) :
    ∃ (n : Nat) (K : List (α × Int)), 0 < n ∧ Y = O ++ (rep n K ++ inv O) ++ Y.drop (readc O C Y).2 ∧ (readc O C Y).2 = O.length + n * C.length + O.length ∧ ((K = C ∧ (readc O C Y).1 = n) ∨ (K = inv C ∧ (readc O C Y).1 = -n)) := by
  unfold readc at h ⊢
  split
  · rename_i hp
    rw [if_pos hp] at h
    have hY := of_pre hp
    dsimp only at h ⊢
    generalize hY1 : Y.drop O.length = Y1 at *
    generalize hK : (if pre C Y1 = true then C else inv C) = K at *
    have hKl : K.length = C.length := by rw [← hK]; split <;> simp [len_inv]
    generalize hn : (if O = [] then (if pre K Y1 = true then 1 else 0) else cnt K (Y1.length + 1) Y1 : Nat) = n at *
    split
    · rename_i hq
      rw [if_pos hq] at h
      have hn0 : n ≠ 0 := by
        intro z
        rw [z] at h
        simp at h
      have e1 : Y1 = rep n K ++ Y1.drop (n * K.length) := by
        rw [← hn]
        split
        · split
          · rename_i hk
            rw [rep_one, Nat.one_mul]
            exact of_pre hk
          · simp [rep]
        · exact cnt_le K _ Y1
      have e2 := of_pre hq
      rw [List.drop_drop] at e2
      refine ⟨n, K, by omega, ?_, ?_, ?_⟩
      · dsimp only
        have e3 : Y.drop (O.length + n * K.length + O.length) = Y1.drop (n * K.length + (inv O).length) := by
          rw [← hY1, List.drop_drop, len_inv]
          congr 1
          omega
        rw [e3, List.append_assoc, List.append_assoc, ← e2, ← e1]
        exact hY
      · dsimp only
        rw [hKl]
      · dsimp only
        by_cases hc : pre C Y1 = true
        · rw [if_pos hc] at hK ⊢
          exact .inl ⟨hK.symm, by omega⟩
        · rw [if_neg hc] at hK ⊢
          exact .inr ⟨hK.symm, by omega⟩
    · rename_i hq
      rw [if_neg hq] at h
      exact absurd rfl h
  · rename_i hp
    rw [if_neg hp] at h
    exact absurd rfl h
/-- a block is read whole -/
theorem readc_block {O C Z : List (α × Int)} (hO : O ≠ []) (hl : Lt C) (h1 : Fr (O ++ (C ++ inv O))) (h2 : Fr (C ++ C)) (hn : C ≠ []) (n : Nat) (pos : Bool) :
    readc O C (O ++ (rep (n + 1) (if pos = true then C else inv C) ++ inv O) ++ Z) = ((if pos = true then 1 else -1) * ((n + 1 : Nat) : Int), O.length + (n + 1) * C.length + O.length) := by
  have hin : inv C ≠ [] := fun e => hn (by rw [← inv_inv C, e]; rfl)
  have hOi : inv O ≠ [] := fun e => hO (by rw [← inv_inv O, e]; rfl)
  obtain ⟨a, ha⟩ : ∃ a, O.getLast? = some a := by
    cases h : O.getLast? with
    | none => exact absurd (List.getLast?_eq_none_iff.mp h) hO
    | some a => exact ⟨a, rfl⟩
  have hio : (inv O).head? = some (a.1, -a.2) := by rw [head_inv, ha]; rfl
  unfold readc
  rw [List.append_assoc, pre_app, if_pos rfl, List.drop_left]
  dsimp only
  -- the sign
  have sg : pre C ((rep (n + 1) (if pos = true then C else inv C) ++ inv O) ++ Z) = pos := by
    rw [rep_succ, List.append_assoc, List.append_assoc]
    cases pos with
    | true =>
      rw [if_pos rfl]
      exact pre_app _ _
    | false =>
      rw [if_neg Bool.false_ne_true]
      cases h : pre C (inv C ++ (rep n (inv C) ++ (inv O ++ Z))) with
      | false => rfl
      | true => exact absurd (pre_len (len_inv C).symm h) (ne_inv hl h2 hn)
  rw [sg]
  generalize hK : (if pos = true then C else inv C) = K
  have hKn : K ≠ [] := by rw [← hK]; split <;> assumption
  have hKl : K.length = C.length := by rw [← hK]; split <;> simp [len_inv]
  have stop : pre K (inv O ++ Z) = false := by
    cases h : pre K (inv O ++ Z) with
    | false => rfl
    | true =>
      exfalso
      obtain ⟨b, hb⟩ : ∃ b, K.head? = some b := by
        cases h : K.head? with
        | none => exact absurd (List.head?_eq_none_iff.mp h) hKn
        | some a => exact ⟨a, rfl⟩
      have h3 := pre_head h hb
      rw [List.head?_append, hio] at h3
      have h4 : (a.1, -a.2) = b := Option.some.inj h3
      cases pos with
      | true =>
        rw [if_pos rfl] at hK
        subst hK
        refine h1.seam (X := O) (Y := C ++ inv O) ha (b := b) (by rw [List.head?_append, hb]; rfl) ?_
        rw [← h4]
        exact ⟨rfl, rfl⟩
      | false =>
        rw [if_neg Bool.false_ne_true] at hK
        subst hK
        rw [head_inv] at hb
        obtain ⟨c, hc, hcb⟩ := Option.map_eq_some_iff.mp hb
        refine h1.right.seam hc hio ?_
        rw [← h4] at hcb
        have e1 := congrArg Prod.fst hcb
        have e2 := congrArg Prod.snd hcb
        dsimp only at e1 e2
        exact ⟨e1.symm, by omega⟩
  rw [if_neg hO, List.append_assoc (rep (n + 1) K), cnt_rep hKn stop (n + 1) _ (by
    rw [List.length_append, len_rep]
    have : 0 < K.length := List.length_pos_iff.mpr hKn
    have : (n + 1) * 1 ≤ (n + 1) * K.length := Nat.mul_le_mul_left _ this
    omega)]
  have e3 : (rep (n + 1) K ++ (inv O ++ Z)).drop ((n + 1) * K.length) = inv O ++ Z := by
    rw [← len_rep (n + 1) K, List.drop_left]
  rw [e3, pre_app, if_pos rfl, hKl]
/-- one copy, nothing around it -/
theorem readc_one {C Z : List (α × Int)} (hl : Lt C) (h2 : Fr (C ++ C)) (hn : C ≠ []) (pos : Bool) :
    readc [] C ((if pos = true then C else inv C) ++ Z) = ((if pos = true then 1 else -1), C.length) := by
  unfold readc
  rw [pre_nil, if_pos rfl, List.length_nil, List.drop_zero]
  dsimp only
  have sg : pre C ((if pos = true then C else inv C) ++ Z) = pos := by
    cases pos with
    | true =>
      rw [if_pos rfl]
      exact pre_app _ _
    | false =>
      rw [if_neg Bool.false_ne_true]
      cases h : pre C (inv C ++ Z) with
      | false => rfl
      | true => exact absurd (pre_len (len_inv C).symm h) (ne_inv hl h2 hn)
  rw [sg]
  generalize hK : (if pos = true then C else inv C) = K
  have hKl : K.length = C.length := by rw [← hK]; split <;> simp [len_inv]
  rw [if_pos rfl, pre_app, if_pos rfl, Nat.one_mul, List.drop_left]
  have : inv ([] : List (α × Int)) = [] := rfl
  rw [this, pre_nil, if_pos rfl, hKl]
  simp
end Wd

/-! unwinding -/
namespace Wd
variable {α : Type} [DecidableEq α]
theorem rep_congr {A B : List (α × Int)} (h : red A = red B) : ∀ n, red (rep n A) = red (rep n B)
  | 0 => rfl
  | n + 1 => by
    rw [rep_succ, rep_succ]
    exact app_congr h (rep_congr h n)
/-- the loop L = l M r, M = o c o^-1, read at the letter x; m stands for the loop -/
structure Lp (m x : α) (L l M r o c : List (α × Int)) : Prop where
  mx : m ≠ x
  rL : Red L
  eq : L = l ++ (M ++ r)
  Lm : ∀ q ∈ L, q.1 ≠ m
  lx : ∀ q ∈ l, q.1 ≠ x
  rx : ∀ q ∈ r, q.1 ≠ x
  hd : ∃ q, M.head? = some q ∧ q.1 = x
  lst : ∃ q, M.getLast? = some q ∧ q.1 = x
  core : Core M o c
def turnW (m : α) (l r : List (α × Int)) : List (α × Int) := red (inv l ++ ([(m, 1)] ++ inv r))
def unw (x : α) (O C T : List (α × Int)) : Nat → List (α × Int) → Option (List (α × Int))
  | 0, _ => none
  | _ + 1, [] => some []
  | f + 1, a :: Y => if a.1 ≠ x then (unw x O C T f Y).map (a :: ·)
    else if (readc O C (a :: Y)).1 = 0 then none else (unw x O C T f ((a :: Y).drop (readc O C (a :: Y)).2)).map (pw T (readc O C (a :: Y)).1 ++ ·)
section
variable {m x : α} {L l M r o c : List (α × Int)}
theorem Lp.rM (h : Lp m x L l M r o c) : Red M := by
  have := h.rL
  rw [h.eq] at this
  exact this.right.left
theorem Lp.Mn (h : Lp m x L l M r o c) : M ≠ [] := by
  obtain ⟨q, hq, _⟩ := h.hd
  intro e
  rw [e] at hq
  cases hq
theorem Lp.cn (h : Lp m x L l M r o c) : c ≠ [] := by
  intro e
  have h1 := h.core.eq
  rw [e, List.nil_append, red_app_inv] at h1
  exact h.Mn h1.symm
theorem Lp.Cn (h : Lp m x L l M r o c) : spelled c ≠ [] := by
  intro e
  have h1 := len_spelled c
  rw [e, List.length_nil] at h1
  exact h.cn (by
    have := size_pos h.core.rc h.cn
    omega)
theorem Lp.lm (h : Lp m x L l M r o c) : ∀ q ∈ l, q.1 ≠ m := fun q hq => h.Lm q (by rw [h.eq]; simp [hq])
theorem Lp.rm (h : Lp m x L l M r o c) : ∀ q ∈ r, q.1 ≠ m := fun q hq => h.Lm q (by rw [h.eq]; simp [hq])
theorem Lp.Mm (h : Lp m x L l M r o c) : ∀ q ∈ M, q.1 ≠ m := fun q hq => h.Lm q (by rw [h.eq]; simp [hq])
theorem sub_m (m : α) (im : List (α × Int)) : sub m im [(m, 1)] = red im := by
  unfold sub
  show red (put m im (m, 1) ++ []) = _
  rw [List.append_nil]
  unfold put
  rw [if_pos rfl]
  show red (red (rep 1 im)) = _
  rw [red_red, rep_one]
theorem no_inv' {m : α} {u : List (α × Int)} (h : ∀ r ∈ u, r.1 ≠ m) : ∀ r ∈ inv u, r.1 ≠ m := no_inv h
/-- the turn stands for the middle -/
theorem Lp.turn (h : Lp m x L l M r o c) : sub m L (turnW m l r) = M := by
  unfold turnW
  rw [sub_red, sub_app, sub_app m L [(m, 1)], sub_none' (no_inv h.lm), sub_none' (no_inv h.rm), sub_m, red_of h.rL]
  rw [red_red_app, red_app_red, h.eq]
  rw [show inv l ++ (l ++ (M ++ r) ++ red (inv r)) = inv l ++ (l ++ ((M ++ r) ++ red (inv r))) by simp]
  rw [cancel_l]
  rw [red_app_red, List.append_assoc, red_app, show red (r ++ inv r) = [] from red_app_inv r]
  exact red_of h.rM
theorem Lp.turnx (h : Lp m x L l M r o c) : ∀ q ∈ turnW m l r, q.1 ≠ x := by
  intro q hq
  unfold turnW at hq
  obtain ⟨y, hy, e⟩ := red_mem hq
  rw [← e]
  rcases List.mem_append.mp hy with hy | hy
  · exact no_inv h.lx y hy
  · rcases List.mem_append.mp hy with hy | hy
    · rw [List.mem_singleton] at hy
      rw [hy]
      exact h.mx
    · exact no_inv h.rx y hy
theorem pw_no {x : α} {T : List (α × Int)} (h : ∀ q ∈ T, q.1 ≠ x) (n : Int) : ∀ q ∈ pw T n, q.1 ≠ x := by
  intro q hq
  unfold pw at hq
  obtain ⟨y, hy, e⟩ := red_mem hq
  rw [← e]
  unfold rep at hy
  obtain ⟨l, hl, hy⟩ := List.mem_flatten.mp hy
  obtain ⟨_, rfl⟩ := List.mem_replicate.mp hl
  split at hy
  · exact h y hy
  · exact no_inv h y hy
theorem pw_spelled (c : List (α × Int)) (hc : Red c) (n : Nat) : red (rep n (spelled c)) = pw c n ∧ red (rep n (inv (spelled c))) = pw c (-n) := by
  constructor
  · rw [pw_nat]
    exact rep_congr (red_spelled c) n
  · rw [pw_neg]
    refine rep_congr ?_ n
    rw [← spelled_inv hc.nz, red_spelled]
theorem red_blk (h : Core M o c) (e : Int) (n : Nat) (K : List (α × Int)) (hK : (K = spelled c ∧ e = (n : Int)) ∨ (K = inv (spelled c) ∧ e = -(n : Int))) : red (spelled o ++ (rep n K ++ inv (spelled o))) = pw M e := by
  rw [← h.eq, pw_conj]
  have hk : red (rep n K) = red (pw c e) := by
    rw [red_of Red.pw]
    rcases hK with ⟨rfl, rfl⟩ | ⟨rfl, rfl⟩
    · exact (pw_spelled c h.rc n).1
    · exact (pw_spelled c h.rc n).2
  refine app_congr (red_spelled o) (app_congr hk ?_)
  rw [← spelled_inv h.ro.nz, red_spelled]
theorem sub_pw' (m : α) (L T : List (α × Int)) (e : Int) : sub m L (pw T e) = pw (sub m L T) e := sub_pw m L T e
theorem unw_sound (h : Lp m x L l M r o c) : ∀ (f : Nat) (Y R : List (α × Int)), (∀ q ∈ Y, q.1 ≠ m) → unw x (spelled o) (spelled c) (turnW m l r) f Y = some R → (∀ q ∈ R, q.1 ≠ x) ∧ sub m L R = red Y
  | 0, Y, R, hY, e => by cases e
  | f + 1, [], R, hY, e => by
    cases e
    exact ⟨fun q hq => (by cases hq), rfl⟩
  | f + 1, a :: Y, R, hY, e => by
    unfold unw at e
    split at e
    · rename_i ha
      obtain ⟨R', hR, rfl⟩ := Option.map_eq_some_iff.mp e
      obtain ⟨i1, i2⟩ := unw_sound h f Y R' (fun q hq => hY q (by simp [hq])) hR
      refine ⟨fun q hq => ?_, ?_⟩
      · rcases List.mem_cons.mp hq with rfl | hq
        · exact ha
        · exact i1 q hq
      · rw [show a :: R' = [a] ++ R' from rfl, sub_app, i2, show a :: Y = [a] ++ Y from rfl]
        rw [sub_none' (w := [a]) (fun q hq => by rw [List.mem_singleton] at hq; rw [hq]; exact hY a (by simp))]
        rw [red_red_app, red_app_red]
    · rename_i ha
      split at e
      · cases e
      · rename_i hc
        obtain ⟨R', hR, rfl⟩ := Option.map_eq_some_iff.mp e
        obtain ⟨n, K, hn, hY', hlen, hK⟩ := readc_sound hc
        generalize readc (spelled o) (spelled c) (a :: Y) = rc at *
        obtain ⟨ct, k⟩ := rc
        dsimp only at *
        have hYd : ∀ q ∈ (a :: Y).drop k, q.1 ≠ m := fun q hq => hY q (List.mem_of_mem_drop hq)
        obtain ⟨i1, i2⟩ := unw_sound h f _ R' hYd hR
        refine ⟨fun q hq => ?_, ?_⟩
        · rcases List.mem_append.mp hq with hq | hq
          · exact pw_no h.turnx _ q hq
          · exact i1 q hq
        · rw [sub_app, sub_pw', h.turn, i2]
          have hb := red_blk h.core ct n K hK
          rw [← hb, red_red_app, red_app_red, ← hY']
/-- the letters of a word in which m stands for the middle -/
def blk (O C : List (α × Int)) (e : Int) : List (α × Int) := O ++ (rep e.natAbs (if decide (0 < e) = true then C else inv C) ++ inv O)
def blks (m : α) (O C W : List (α × Int)) : List (α × Int) := W.flatMap fun q => if q.1 = m then blk O C q.2 else spell1 q
theorem Lp.O_head (h : Lp m x L l M r o c) (hO : spelled o ≠ []) : ∃ s, (spelled o).head? = some (x, s) := by
  obtain ⟨q, hq, hx⟩ := h.hd
  have h1 := h.core.spell.1
  cases hM : M with
  | nil => exact absurd hM h.Mn
  | cons a t =>
    rw [hM] at hq h1
    cases hq
    have h2 := spelled_head (r := q) (w := t) (by have := h.rM; rw [hM] at this; exact this.1)
    rw [h1, List.head?_append] at h2
    cases hh : (spelled o).head? with
    | none => exact absurd (List.head?_eq_none_iff.mp hh) hO
    | some b =>
      rw [hh] at h2
      have h3 : b = (q.1, _) := Option.some.inj h2
      rw [h3, hx]
      exact ⟨_, rfl⟩
theorem Lp.C_head (h : Lp m x L l M r o c) (hO : spelled o = []) : (∃ s, (spelled c).head? = some (x, s)) ∧ ∃ s, (spelled c).getLast? = some (x, s) := by
  have h1 := h.core.spell.1
  rw [hO] at h1
  have e : inv ([] : List (α × Int)) = [] := rfl
  rw [e, List.nil_append, List.append_nil] at h1
  rw [← h1]
  constructor
  · obtain ⟨q, hq, hx⟩ := h.hd
    cases hM : M with
    | nil => exact absurd hM h.Mn
    | cons a t =>
      rw [hM] at hq
      cases hq
      rw [spelled_head (by have := h.rM; rw [hM] at this; exact this.1), hx]
      exact ⟨_, rfl⟩
  · obtain ⟨q, hq, hx⟩ := h.lst
    obtain rfl | ⟨t, b, hM⟩ := List.eq_nil_or_concat M
    · exact absurd rfl h.Mn
    · rw [List.concat_eq_append] at hM
      rw [hM, List.getLast?_concat] at hq
      cases hq
      rw [hM, spelled_last (by have := h.rM; rw [hM] at this; exact this.right.1), hx]
      exact ⟨_, rfl⟩
/-- the ends of a block are the letter -/
theorem Lp.blk_ends (h : Lp m x L l M r o c) {e : Int} (he : e ≠ 0) : (∃ s, (blk (spelled o) (spelled c) e).head? = some (x, s)) ∧ ∃ s, (blk (spelled o) (spelled c) e).getLast? = some (x, s) := by
  obtain ⟨n, hn⟩ : ∃ n, e.natAbs = n + 1 := ⟨e.natAbs - 1, by omega⟩
  unfold blk
  rw [hn]
  by_cases hO : spelled o = []
  · obtain ⟨⟨s1, h1⟩, s2, h2⟩ := h.C_head hO
    have hK : ∀ K : List (α × Int), (K = spelled c ∨ K = inv (spelled c)) → K ≠ [] ∧ (∃ s, K.head? = some (x, s)) ∧ ∃ s, K.getLast? = some (x, s) := by
      rintro K (rfl | rfl)
      · exact ⟨h.Cn, ⟨s1, h1⟩, s2, h2⟩
      · refine ⟨fun e => h.Cn (by rw [← inv_inv (spelled c), e]; rfl), ⟨-s2, by rw [head_inv, h2]; rfl⟩, -s1, by rw [last_inv, h1]; rfl⟩
    obtain ⟨k1, ⟨s3, k2⟩, s4, k3⟩ := hK (if decide (0 < e) = true then spelled c else inv (spelled c)) (by split <;> simp)
    rw [hO]
    have e0 : inv ([] : List (α × Int)) = [] := rfl
    rw [e0, List.nil_append, List.append_nil, rep_head k1, rep_last k1]
    exact ⟨⟨s3, k2⟩, s4, k3⟩
  · obtain ⟨s, hs⟩ := h.O_head hO
    constructor
    · refine ⟨s, ?_⟩
      rw [List.head?_append, hs]
      rfl
    · refine ⟨-s, ?_⟩
      rw [List.getLast?_append, List.getLast?_append, last_inv, hs]
      rfl
theorem Lp.blk_fr (h : Lp m x L l M r o c) {e : Int} (he : e ≠ 0) : Fr (blk (spelled o) (spelled c) e) ∧ Lt (blk (spelled o) (spelled c) e) := by
  obtain ⟨n, hn⟩ : ∃ n, e.natAbs = n + 1 := ⟨e.natAbs - 1, by omega⟩
  have h1 := h.core.spell.2
  have h2 := cyc_fr h.core.rc h.core.cy
  unfold blk
  rw [hn]
  constructor
  · split
    · exact fr_block h1 h2 h.Cn n
    · have h3 := (fr_block h1 h2 h.Cn n).inv
      rw [inv_app, inv_app, inv_inv, inv_rep, List.append_assoc] at h3
      exact h3
  · refine lt_app3 (Lt.spelled o) (Lt.rep ?_ _)
    split
    · exact Lt.spelled c
    · exact (Lt.spelled c).inv
theorem spell1_ne {q : α × Int} (h : q.2 ≠ 0) : spell1 q ≠ [] := by
  intro e
  have := spell1_head h
  rw [e] at this
  cases this
theorem Lp.blks_fr (h : Lp m x L l M r o c) : ∀ {W : List (α × Int)}, Red W → (∀ q ∈ W, q.1 ≠ x) → Fr (blks m (spelled o) (spelled c) W) ∧ Lt (blks m (spelled o) (spelled c) W) ∧
    (∀ q ∈ W.head?, ∃ b, (blks m (spelled o) (spelled c) W).head? = some b ∧ b.1 = if q.1 = m then x else q.1)
  | [], _, _ => ⟨trivial, Lt.nil, fun q hq => by cases hq⟩
  | q :: W, hW, hx => by
    obtain ⟨i1, i2, i3⟩ := h.blks_fr hW.2.2 fun y hy => hx y (by simp [hy])
    have hq : q.2 ≠ 0 := hW.1
    have hqx := hx q (by simp)
    have e : blks m (spelled o) (spelled c) (q :: W) = (if q.1 = m then blk (spelled o) (spelled c) q.2 else spell1 q) ++ blks m (spelled o) (spelled c) W := by
      unfold blks
      rw [List.flatMap_cons]
    rw [e]
    -- the piece
    have hp : ∃ P, (if q.1 = m then blk (spelled o) (spelled c) q.2 else spell1 q) = P ∧ Fr P ∧ Lt P ∧ (∃ b, P.head? = some b ∧ b.1 = if q.1 = m then x else q.1) ∧ ∃ b, P.getLast? = some b ∧ b.1 = if q.1 = m then x else q.1 := by
      refine ⟨_, rfl, ?_⟩
      split
      · obtain ⟨⟨s1, h1⟩, s2, h2⟩ := h.blk_ends hq
        obtain ⟨h3, h4⟩ := h.blk_fr hq
        exact ⟨h3, h4, ⟨_, h1, rfl⟩, _, h2, rfl⟩
      · exact ⟨Fr.spell1 q, Lt.spell1 q, ⟨_, spell1_head hq, rfl⟩, _, spell1_last hq, rfl⟩
    obtain ⟨P, hP, p1, p2, ⟨b1, p3, p4⟩, b2, p5, p6⟩ := hp
    rw [hP]
    refine ⟨Fr.app p1 i1 fun u v hu hv => ?_, p2.app i2, fun y hy => ?_⟩
    · rw [p5] at hu
      cases hu
      cases W with
      | nil => cases hv
      | cons q2 W =>
        obtain ⟨b3, h5, h6⟩ := i3 q2 rfl
        rw [h5] at hv
        cases hv
        have hne := hW.2.1 q2 rfl
        have hq2x := hx q2 (by simp)
        intro hh
        have h7 := hh.1
        rw [p6, h6] at h7
        split at h7 <;> split at h7
        · rename_i a b
          exact hne (a.trans b.symm)
        · exact hqx h7.symm
        · exact hq2x h7
        · exact hne h7
    · cases hy
      refine ⟨b1, ?_, p4⟩
      rw [List.head?_append, p3]
      rfl
theorem Lp.blks_red (h : Lp m x L l M r o c) (W : List (α × Int)) : red (blks m (spelled o) (spelled c) W) = sub m M W := by
  unfold blks sub
  refine flat_congr (fun q => ?_) W
  unfold put
  split
  · unfold blk
    rw [red_of Red.pw]
    refine red_blk h.core q.2 _ _ ?_
    by_cases hp : 0 < q.2
    · rw [if_pos (by simpa using hp)]
      exact .inl ⟨rfl, by omega⟩
    · rw [if_neg (by simpa using hp)]
      exact .inr ⟨rfl, by omega⟩
  · exact red_spell1 q
/-- one block is read -/
theorem Lp.unw_blk (h : Lp m x L l M r o c) {e : Int} (he : e ≠ 0) {Z V : List (α × Int)}
    (hZ : ∀ f, Z.length < f → ∃ R, unw x (spelled o) (spelled c) (turnW m l r) f Z = some R ∧ red R = V) : ∀ f, (blk (spelled o) (spelled c) e ++ Z).length < f →
      ∃ R, unw x (spelled o) (spelled c) (turnW m l r) f (blk (spelled o) (spelled c) e ++ Z) = some R ∧ red R = red (pw (turnW m l r) e ++ V) := by
  have h1 := h.core.spell.2
  have h2 := cyc_fr h.core.rc h.core.cy
  have hl : Lt (spelled c) := Lt.spelled c
  by_cases hO : spelled o = []
  · obtain ⟨⟨s1, hc1⟩, s2, hc2⟩ := h.C_head hO
    have e0 : inv ([] : List (α × Int)) = [] := rfl
    have key : ∀ (pos : Bool) (n f : Nat), (rep n (if pos = true then spelled c else inv (spelled c)) ++ Z).length < f →
        ∃ R, unw x (spelled o) (spelled c) (turnW m l r) f (rep n (if pos = true then spelled c else inv (spelled c)) ++ Z) = some R ∧ red R = red (pw (turnW m l r) ((if pos = true then 1 else -1) * (n : Int)) ++ V) := by
      intro pos n
      induction n with
      | zero =>
        intro f hf
        obtain ⟨R, hR, hv⟩ := hZ f (by simpa [rep] using hf)
        refine ⟨R, hR, ?_⟩
        rw [show ((if pos = true then (1 : Int) else -1) * ((0 : Nat) : Int)) = 0 by simp, pw_zero, List.nil_append, ← hv, red_red]
      | succ n ih =>
        intro f hf
        have hcl : (if pos = true then spelled c else inv (spelled c)).length = (spelled c).length := by split <;> simp [len_inv]
        have hcp : 0 < (spelled c).length := List.length_pos_iff.mpr h.Cn
        rw [rep_succ, List.append_assoc] at hf ⊢
        obtain ⟨a, Y, hY, ha⟩ : ∃ a Y, (if pos = true then spelled c else inv (spelled c)) ++ (rep n (if pos = true then spelled c else inv (spelled c)) ++ Z) = a :: Y ∧ a.1 = x := by
          have hh : ∃ s, ((if pos = true then spelled c else inv (spelled c)) ++ (rep n (if pos = true then spelled c else inv (spelled c)) ++ Z)).head? = some (x, s) := by
            rw [List.head?_append]
            split
            · rw [hc1]; exact ⟨_, rfl⟩
            · rw [head_inv, hc2]; exact ⟨_, rfl⟩
          obtain ⟨s, hs⟩ := hh
          generalize (if pos = true then spelled c else inv (spelled c)) ++ (rep n (if pos = true then spelled c else inv (spelled c)) ++ Z) = U at hs
          cases U with
          | nil => cases hs
          | cons a Y =>
            cases hs
            exact ⟨_, Y, rfl, rfl⟩
        have rc := readc_one (Z := rep n (if pos = true then spelled c else inv (spelled c)) ++ Z) hl h2 h.Cn pos
        cases f with
        | zero => exact absurd hf (Nat.not_lt_zero _)
        | succ f =>
          rw [List.length_append] at hf
          obtain ⟨R, hR, hv⟩ := ih f (by omega)
          refine ⟨pw (turnW m l r) (if pos = true then 1 else -1) ++ R, ?_, ?_⟩
          · rw [hO] at hR ⊢
            rw [hY] at rc ⊢
            unfold unw
            rw [if_neg (by rw [ha]; simp), rc]
            dsimp only
            rw [if_neg (by split <;> omega)]
            rw [← hY, ← hcl, List.drop_left, hR]
            rfl
          · rw [← red_app_red, hv, red_app_red, ← List.append_assoc, ← red_red_app, pw_add]
            congr 3
            push_cast
            split <;> omega
    intro f hf
    unfold blk at hf ⊢
    rw [hO, e0, List.nil_append, List.append_nil] at hf ⊢
    rw [← hO]
    obtain ⟨R, hR, hv⟩ := key (decide (0 < e)) e.natAbs f hf
    refine ⟨R, hR, ?_⟩
    rw [hv]
    congr 3
    by_cases hp : 0 < e
    · rw [if_pos (by simpa using hp)]; omega
    · rw [if_neg (by simpa using hp)]; omega
  · intro f hf
    obtain ⟨s, hs⟩ := h.O_head hO
    obtain ⟨n, hn⟩ : ∃ n, e.natAbs = n + 1 := ⟨e.natAbs - 1, by omega⟩
    have hbl : (blk (spelled o) (spelled c) e).length = (spelled o).length + (n + 1) * (spelled c).length + (spelled o).length := by
      unfold blk
      rw [hn, List.length_append, List.length_append, len_rep, len_inv]
      have : (if decide (0 < e) = true then spelled c else inv (spelled c)).length = (spelled c).length := by split <;> simp [len_inv]
      rw [this]
      omega
    have rc := readc_block (Z := Z) hO hl h1 h2 h.Cn n (decide (0 < e))
    have hop : 0 < (spelled o).length := List.length_pos_iff.mpr hO
    have e1 : (if decide (0 < e) = true then (1 : Int) else -1) * ((n + 1 : Nat) : Int) = e := by
      by_cases hp : 0 < e
      · rw [if_pos (by simpa using hp)]; omega
      · rw [if_neg (by simpa using hp)]; omega
    rw [e1] at rc
    have hB : spelled o ++ (rep (n + 1) (if decide (0 < e) = true then spelled c else inv (spelled c)) ++ inv (spelled o)) = blk (spelled o) (spelled c) e := by
      unfold blk
      rw [hn]
    rw [hB] at rc
    obtain ⟨a, Y, hY, ha⟩ : ∃ a Y, blk (spelled o) (spelled c) e ++ Z = a :: Y ∧ a.1 = x := by
      obtain ⟨⟨s, hs⟩, _⟩ := h.blk_ends he
      cases hU : blk (spelled o) (spelled c) e with
      | nil =>
        rw [hU] at hs
        cases hs
      | cons a Y =>
        rw [hU] at hs
        cases hs
        exact ⟨_, _, rfl, rfl⟩
    cases f with
    | zero => exact absurd hf (Nat.not_lt_zero _)
    | succ f =>
      rw [List.length_append] at hf
      obtain ⟨R, hR, hv⟩ := hZ f (by omega)
      refine ⟨pw (turnW m l r) e ++ R, ?_, ?_⟩
      · rw [hY] at rc ⊢
        unfold unw
        rw [if_neg (by rw [ha]; simp), rc]
        dsimp only
        rw [if_neg he]
        rw [← hY, ← hbl, List.drop_left, hR]
        rfl
      · rw [← red_app_red, hv]
theorem Lp.unw_spell1 (h : Lp m x L l M r o c) {q : α × Int} (hx : q.1 ≠ x) {Z V : List (α × Int)}
    (hZ : ∀ f, Z.length < f → ∃ R, unw x (spelled o) (spelled c) (turnW m l r) f Z = some R ∧ red R = V) : ∀ f, (spell1 q ++ Z).length < f →
      ∃ R, unw x (spelled o) (spelled c) (turnW m l r) f (spell1 q ++ Z) = some R ∧ red R = red (spell1 q ++ V) := by
  unfold spell1
  generalize q.2.natAbs = n
  induction n with
  | zero =>
    intro f hf
    obtain ⟨R, hR, hv⟩ := hZ f (by simpa using hf)
    exact ⟨R, hR, by rw [List.replicate_zero, List.nil_append, ← hv, red_red]⟩
  | succ n ih =>
    intro f hf
    rw [List.replicate_succ, List.cons_append] at hf ⊢
    cases f with
    | zero => exact absurd hf (Nat.not_lt_zero _)
    | succ f =>
      rw [List.length_cons] at hf
      obtain ⟨R, hR, hv⟩ := ih f (by omega)
      refine ⟨(q.1, if q.2 < 0 then -1 else 1) :: R, ?_, ?_⟩
      · unfold unw
        rw [if_pos hx, hR]
        rfl
      · show cons _ (red R) = red (_ :: (_ ++ V))
        rw [hv]
        show _ = cons _ (red (_ ++ V))
        rfl
theorem Lp.unw_blks (h : Lp m x L l M r o c) : ∀ (W : List (α × Int)), Red W → (∀ q ∈ W, q.1 ≠ x) → ∀ f, (blks m (spelled o) (spelled c) W).length < f →
    ∃ R, unw x (spelled o) (spelled c) (turnW m l r) f (blks m (spelled o) (spelled c) W) = some R ∧ red R = sub m (turnW m l r) W
  | [], _, _, f, hf => by
    cases f with
    | zero => exact absurd hf (Nat.not_lt_zero _)
    | succ f => exact ⟨[], rfl, rfl⟩
  | q :: W, hW, hx, f, hf => by
    have ih := h.unw_blks W hW.2.2 fun y hy => hx y (by simp [hy])
    have e : blks m (spelled o) (spelled c) (q :: W) = (if q.1 = m then blk (spelled o) (spelled c) q.2 else spell1 q) ++ blks m (spelled o) (spelled c) W := by
      unfold blks
      rw [List.flatMap_cons]
    rw [e] at hf ⊢
    have e2 : sub m (turnW m l r) (q :: W) = red (put m (turnW m l r) q ++ sub m (turnW m l r) W) := by
      unfold sub
      rw [List.flatMap_cons, red_app_red]
    rw [e2]
    unfold put
    split
    · rename_i hq
      rw [if_pos hq] at hf
      exact h.unw_blk hW.1 ih f hf
    · rename_i hq
      rw [if_neg hq] at hf
      obtain ⟨R, hR, hv⟩ := h.unw_spell1 (hx q (by simp)) ih f hf
      refine ⟨R, hR, ?_⟩
      rw [hv]
      exact app_congr (red_spell1 q) rfl
/-- what the reading gives is right -/
theorem Lp.unw_right (h : Lp m x L l M r o c) {w R : List (α × Int)} {f : Nat} (hw : Red w) (hm : ∀ q ∈ w, q.1 ≠ m) (e : unw x (spelled o) (spelled c) (turnW m l r) f (spelled w) = some R) :
    (∀ q ∈ red R, q.1 ≠ x) ∧ sub m L (red R) = w := by
  obtain ⟨h1, h2⟩ := unw_sound h f _ R (fun q hq => by
    unfold spelled at hq
    obtain ⟨y, hy, hq⟩ := List.mem_flatMap.mp hq
    unfold spell1 at hq
    obtain ⟨_, rfl⟩ := List.mem_replicate.mp hq
    exact hm y hy) e
  refine ⟨fun q hq => ?_, by rw [sub_red, h2, red_spelled, red_of hw]⟩
  obtain ⟨y, hy, e⟩ := red_mem hq
  rw [← e]
  exact h1 y hy
/-- and what can be given is given -/
theorem Lp.unw_all (h : Lp m x L l M r o c) {t : List (α × Int)} (ht : Red t) (hx : ∀ q ∈ t, q.1 ≠ x) {f : Nat} (hf : (spelled (sub m L t)).length < f) :
    ∃ R, unw x (spelled o) (spelled c) (turnW m l r) f (spelled (sub m L t)) = some R ∧ red R = t := by
  have k1 : sub m M (red (l ++ ([(m, 1)] ++ r))) = L := by
    rw [sub_red, sub_app, sub_app m M [(m, 1)], sub_none' h.lm, sub_none' h.rm, sub_m, red_app_red, red_red_app, red_of h.rM, red_app, red_app, red_red, ← red_app, ← red_app, ← h.eq, red_of h.rL]
  have k2 : sub m (turnW m l r) (red (l ++ ([(m, 1)] ++ r))) = [(m, 1)] := by
    rw [sub_red, sub_app, sub_app m _ [(m, 1)], sub_none' h.lm, sub_none' h.rm, sub_m]
    unfold turnW
    refine to_act (v := [(m, 1)]) ⟨by simp, by simp, trivial⟩ ?_
    simp (config := { maxDischargeDepth := 40 }) only [act_app, a_red, a_ired, a_r, a_l, a_Red, a_nil, a_e, inv_app, inv_inv]
  have kx : ∀ q ∈ sub m (red (l ++ ([(m, 1)] ++ r))) t, q.1 ≠ x := by
    intro q hq
    unfold sub at hq
    obtain ⟨y, hy, e⟩ := red_mem hq
    rw [← e]
    obtain ⟨z, hz, hy⟩ := List.mem_flatMap.mp hy
    unfold put at hy
    split at hy
    · refine pw_no (fun q hq => ?_) _ y hy
      obtain ⟨y, hy, e⟩ := red_mem hq
      rw [← e]
      rcases List.mem_append.mp hy with hy | hy
      · exact h.lx y hy
      · rcases List.mem_append.mp hy with hy | hy
        · rw [List.mem_singleton] at hy
          rw [hy]
          exact h.mx
        · exact h.rx y hy
    · rw [List.mem_singleton] at hy
      rw [hy]
      exact hx z hz
  have hb := h.blks_fr (W := sub m (red (l ++ ([(m, 1)] ++ r))) t) Red.red kx
  have e1 : spelled (sub m L t) = blks m (spelled o) (spelled c) (sub m (red (l ++ ([(m, 1)] ++ r))) t) := by
    rw [← spelled_of hb.2.1 hb.1, h.blks_red, sub_sub, k1]
  rw [e1] at hf ⊢
  have hWr : Red (sub m (red (l ++ ([(m, 1)] ++ r))) t) := Red.red
  have k3 : sub m (turnW m l r) (sub m (red (l ++ ([(m, 1)] ++ r))) t) = t := by rw [sub_sub, k2, sub_one m ht]
  generalize sub m (red (l ++ ([(m, 1)] ++ r))) t = W at *
  obtain ⟨R, hR, hv⟩ := h.unw_blks W hWr kx f hf
  exact ⟨R, hR, by rw [hv, k3]⟩
end
end Wd

/-! walks: a loop drawn as a stem and a circle, and what comes back to the start -/
namespace Wd
variable {α : Type} [DecidableEq α]
abbrev Edge (α : Type) := Nat × (α × Int) × Nat
def edg (low : Nat) : Nat → List (α × Int) → List (Edge α)
  | _, [] => []
  | k, [a] => [(k, a, low)]
  | k, a :: b :: R => (k, a, k + 1) :: edg low (k + 1) (b :: R)
def toE (low n k : Nat) : Nat := if k + 1 = n then low else k + 1
theorem edg_mem (low : Nat) : ∀ (R : List (α × Int)) (k0 : Nat) (e : Edge α), e ∈ edg low k0 R → ∃ k, R[k]? = some e.2.1 ∧ e.1 = k0 + k ∧ e.2.2 = (if k + 1 = R.length then low else k0 + k + 1)
  | [], _, e, h => nomatch h
  | [a], k0, e, h => by
    unfold edg at h
    rw [List.mem_singleton] at h
    subst h
    exact ⟨0, rfl, rfl, rfl⟩
  | a :: b :: R, k0, e, h => by
    unfold edg at h
    rcases List.mem_cons.mp h with rfl | h
    · exact ⟨0, rfl, rfl, by rw [if_neg (by simp)]⟩
    · obtain ⟨k, h1, h2, h3⟩ := edg_mem low (b :: R) (k0 + 1) e h
      refine ⟨k + 1, by simpa using h1, by omega, ?_⟩
      rw [h3]
      simp only [List.length_cons]
      split
      · rw [if_pos (by omega)]
      · rw [if_neg (by omega)]
        omega
theorem mem_edg (low : Nat) : ∀ (R : List (α × Int)) (k0 k : Nat) (a : α × Int), R[k]? = some a → (k0 + k, a, if k + 1 = R.length then low else k0 + k + 1) ∈ edg low k0 R
  | [], _, _, _, h => by simp at h
  | [a], k0, k, b, h => by
    cases k with
    | zero => cases h; simp [edg]
    | succ k => simp at h
  | a :: b :: R, k0, k, c, h => by
    unfold edg
    cases k with
    | zero =>
      cases h
      rw [if_neg (by simp)]
      exact List.mem_cons_self
    | succ k =>
      have h1 := mem_edg low (b :: R) (k0 + 1) k c (by simpa using h)
      refine List.mem_cons_of_mem _ ?_
      have e1 : k0 + (k + 1) = k0 + 1 + k := by omega
      have e2 : (k + 1 + 1 = (a :: b :: R).length) = (k + 1 = (b :: R).length) := by simp
      rw [e1]
      simp only [e2]
      exact h1
def pick1 (at' : Nat) (it : α × Int) (acc : Option Nat) (e : Edge α) : Option Nat :=
  if e.2.2 = at' ∧ e.2.1 = (it.1, 0 - it.2) then some e.1 else if e.1 = at' ∧ e.2.1 = it then some e.2.2 else acc
def pick (es : List (Edge α)) (at' : Nat) (it : α × Int) (acc : Option Nat) : Option Nat := es.foldl (pick1 at' it) acc
def Fits (e : Edge α) (at' : Nat) (it : α × Int) (to : Nat) : Prop := (e.1 = at' ∧ e.2.1 = it ∧ e.2.2 = to) ∨ (e.2.2 = at' ∧ e.2.1 = (it.1, 0 - it.2) ∧ e.1 = to)
theorem pick_of : ∀ (es : List (Edge α)) (at' : Nat) (it : α × Int) (acc : Option Nat) (to : Nat), pick es at' it acc = some to → acc = some to ∨ ∃ e ∈ es, Fits e at' it to
  | [], _, _, _, _, h => .inl h
  | e :: es, at', it, acc, to, h => by
    rcases pick_of es at' it _ to h with h1 | ⟨e', h1, h2⟩
    · unfold pick1 at h1
      split at h1
      · rename_i hh
        exact .inr ⟨e, by simp, .inr ⟨hh.1, hh.2, Option.some.inj h1⟩⟩
      · split at h1
        · rename_i hh
          exact .inr ⟨e, by simp, .inl ⟨hh.1, hh.2, Option.some.inj h1⟩⟩
        · exact .inl h1
    · exact .inr ⟨e', List.mem_cons_of_mem _ h1, h2⟩
theorem pick_none : ∀ (es : List (Edge α)) (at' : Nat) (it : α × Int) (acc : Option Nat), pick es at' it acc = none → (acc = none) ∧ ∀ e ∈ es, ∀ to, ¬ Fits e at' it to
  | [], _, _, _, h => ⟨h, fun e he => nomatch he⟩
  | e :: es, at', it, acc, h => by
    obtain ⟨h1, h2⟩ := pick_none es at' it _ h
    unfold pick1 at h1
    split at h1
    · cases h1
    · rename_i n1
      split at h1
      · cases h1
      · rename_i n2
        refine ⟨h1, fun e' he' to => ?_⟩
        rcases List.mem_cons.mp he' with rfl | he'
        · rintro (⟨a, b, _⟩ | ⟨a, b, _⟩)
          · exact n2 ⟨a, b⟩
          · exact n1 ⟨a, b⟩
        · exact h2 e' he' to
theorem pick_to {es : List (Edge α)} {at' : Nat} {it : α × Int} {acc : Option Nat} {to : Nat} (h : ∃ e ∈ es, Fits e at' it to) (u : ∀ e ∈ es, ∀ t, Fits e at' it t → t = to) (ha : acc = none ∨ acc = some to) : pick es at' it acc = some to := by
  cases hp : pick es at' it acc with
  | none =>
    obtain ⟨e, he, hf⟩ := h
    exact absurd hf ((pick_none es at' it acc hp).2 e he to)
  | some t =>
    rcases pick_of es at' it acc t hp with h1 | ⟨e, he, hf⟩
    · rcases ha with ha | ha
      · rw [ha] at h1; cases h1
      · rw [ha] at h1
        exact h1.symm
    · rw [u e he t hf]
def stepE (es : List (Edge α)) (x : α) (at' : Nat) (it : α × Int) : Option Nat := pick es at' it (if at' = 0 ∧ it.1 ≠ x then some 0 else none)
def runE (es : List (Edge α)) (x : α) : Nat → List (α × Int) → Option Nat
  | k, [] => some k
  | k, it :: Y => match stepE es x k it with
    | none => none
    | some to => runE es x to Y
theorem runE_app (es : List (Edge α)) (x : α) : ∀ (X Y : List (α × Int)) (k j : Nat), runE es x k X = some j → runE es x k (X ++ Y) = runE es x j Y
  | [], Y, k, j, h => by cases h; rfl
  | a :: X, Y, k, j, h => by
    rw [List.cons_append]
    simp only [runE] at h ⊢
    cases hs : stepE es x k a with
    | none => rw [hs] at h; cases h
    | some t =>
      rw [hs] at h
      simp only at h ⊢
      exact runE_app es x X Y t j h
/-- in the subgroup -/
def InH (m x : α) (M g : List (α × Int)) : Prop := ∃ t, (∀ q ∈ t, q.1 ≠ x) ∧ sub m M t = red g
theorem InH.nil {m x : α} {M : List (α × Int)} : InH m x M [] := ⟨[], fun q hq => (nomatch hq), rfl⟩
theorem InH.congr {m x : α} {M g h : List (α × Int)} (i : InH m x M g) (e : red g = red h) : InH m x M h := by
  obtain ⟨t, h1, h2⟩ := i
  exact ⟨t, h1, h2.trans e⟩
theorem InH.app {m x : α} {M g h : List (α × Int)} (i : InH m x M g) (j : InH m x M h) : InH m x M (g ++ h) := by
  obtain ⟨t, h1, h2⟩ := i
  obtain ⟨u, h3, h4⟩ := j
  refine ⟨t ++ u, fun q hq => (List.mem_append.mp hq).elim (h1 q) (h3 q), ?_⟩
  rw [sub_app, h2, h4]
  rw [red_red_app, red_app_red]
theorem InH.inv {m x : α} {M g : List (α × Int)} (i : InH m x M g) : InH m x M (inv g) := by
  obtain ⟨t, h1, h2⟩ := i
  exact ⟨Wd.inv t, no_inv h1, by rw [sub_inv, h2, red_inv]⟩
theorem InH.other {m x : α} {M : List (α × Int)} {a : α × Int} (hx : a.1 ≠ x) (hm : a.1 ≠ m) : InH m x M [a] := by
  refine ⟨[a], fun q hq => ?_, ?_⟩
  · rw [List.mem_singleton] at hq
    rw [hq]
    exact hx
  · refine sub_none' fun q hq => ?_
    rw [List.mem_singleton] at hq
    rw [hq]
    exact hm
section
variable {m x : α} {L l M r o c O C : List (α × Int)}
theorem Lp.inM (h : Lp m x L l M r o c) : InH m x M M := ⟨[(m, 1)], fun q hq => by
  rw [List.mem_singleton] at hq
  rw [hq]
  exact h.mx, sub_m m M⟩
theorem Lp.edge_in (h : Lp m x L l M r o c) {k : Nat} {a : α × Int} (hk : (spelled o ++ spelled c)[k]? = some a) :
    InH m x M ((spelled o ++ spelled c).take k ++ ([a] ++ inv ((spelled o ++ spelled c).take (if k + 1 = (spelled o ++ spelled c).length then (spelled o).length else k + 1)))) := by
  have e1 : (spelled o ++ spelled c).take (k + 1) = (spelled o ++ spelled c).take k ++ [a] := by
    rw [List.take_succ, hk]
    rfl
  split
  · rename_i hl
    refine h.inM.congr ?_
    rw [← List.append_assoc, ← e1, hl, List.take_length, List.take_left, List.append_assoc, red_spelled3 o c h.core.ro, h.core.eq]
    exact red_of h.rM
  · refine InH.nil.congr ?_
    rw [← List.append_assoc, ← e1, ]
    have := act_inv (u := (spelled o ++ spelled c).take (k + 1)) (w := ([] : List (α × Int))) trivial
    unfold red
    rw [act_app]
    exact this.symm
/-- what comes back lies in the subgroup -/
theorem Lp.run_in (h : Lp m x L l M r o c) : ∀ (Y P : List (α × Int)) (k : Nat), (∀ q ∈ Y, q.1 ≠ m) → InH m x M (P ++ inv ((spelled o ++ spelled c).take k)) → runE (edg (spelled o).length 0 (spelled o ++ spelled c)) x k Y = some 0 → InH m x M (P ++ Y)
  | [], P, k, _, hi, hr => by
    unfold runE at hr
    cases hr
    rw [List.take_zero] at hi
    exact hi
  | a :: Y, P, k, hm, hi, hr => by
    unfold runE at hr
    cases hs : stepE (edg (spelled o).length 0 (spelled o ++ spelled c)) x k a with
    | none => rw [hs] at hr; cases hr
    | some t =>
      rw [hs] at hr
      have := h.run_in Y (P ++ [a]) t (fun q hq => hm q (by simp [hq])) ?_ hr
      · rwa [List.append_assoc] at this
      · rcases pick_of _ _ _ _ _ hs with h1 | ⟨e, he, hf⟩
        · split at h1
          · rename_i hh
            cases h1
            have hi' := hi
            rw [hh.1] at hi'
            rw [List.take_zero] at hi' ⊢
            have e : Wd.inv ([] : List (α × Int)) = [] := rfl
            rw [e, List.append_nil] at hi' ⊢
            exact hi'.app (InH.other hh.2 (hm a (by simp)))
          · cases h1
        · obtain ⟨j, g1, g2, g3⟩ := edg_mem _ _ _ _ he
          rw [Nat.zero_add] at g2
          have he' := h.edge_in g1
          rcases hf with ⟨f1, f2, f3⟩ | ⟨f1, f2, f3⟩
          · rw [← f1] at hi
            rw [← f3, g3, ← f2]
            rw [g2] at hi
            refine (hi.app he').congr ?_
            rw [Nat.zero_add]
            refine by_act ?_
            simp (config := { maxDischargeDepth := 40 }) only [act_app, a_red, a_ired, a_r, a_l, a_Red, a_nil, a_e, inv_app, inv_inv, a_Red]
          · rw [← f1, g3] at hi
            rw [← f3, g2]
            rw [f2] at he'
            rw [Nat.zero_add] at hi
            refine (hi.app he'.inv).congr ?_
            have e : Wd.inv [(a.1, 0 - a.2)] = [a] := by
              rw [inv_one]
              congr 1
              exact Prod.ext rfl (by show -(0 - a.2) = a.2; omega)
            rw [inv_app, inv_app, inv_inv, e]
            refine by_act ?_
            simp (config := { maxDischargeDepth := 40 }) only [act_app, a_red, a_ired, a_r, a_l, a_Red, a_nil, a_e, inv_app, inv_inv, a_Red]
/-! the other way: every word of the subgroup comes back -/
theorem fr_get : ∀ {X : List (α × Int)} (_ : Fr X) {k : Nat} {a b : α × Int}, X[k]? = some a → X[k + 1]? = some b → ¬ (b.1 = a.1 ∧ b.2 = -a.2)
  | [], _, _, _, _, h, _ => by simp at h
  | y :: X, h, 0, a, b, h1, h2 => by
    cases h1
    refine h.1 b ?_
    cases X with
    | nil => simp at h2
    | cons z X => simpa using h2
  | y :: X, h, k + 1, a, b, h1, h2 => fr_get h.2 (by simpa using h1) (by simpa using h2)
structure Lol (O C : List (α × Int)) (x : α) : Prop where
  f1 : Fr (O ++ (C ++ inv O))
  f2 : Fr (C ++ C)
  cn : C ≠ []
  lt : Lt (O ++ C)
  h0 : ∀ a, (O ++ C)[0]? = some a → a.1 = x
  l0 : O = [] → ∀ a, C.getLast? = some a → a.1 = x
theorem Lol.R (h : Lol O C x) : Fr (O ++ C) := by
  have := h.f1
  rw [← List.append_assoc] at this
  exact this.left
theorem Lol.last (h : Lol O C x) {a : α × Int} {k : Nat} (ha : (O ++ C)[k]? = some a) (hk : k + 1 = (O ++ C).length) : C.getLast? = some a := by
  rw [List.getLast?_eq_getElem?]
  rw [List.length_append] at hk
  have : 0 < C.length := List.length_pos_iff.mpr h.cn
  rw [List.getElem?_append_right (by omega)] at ha
  rw [← ha]
  congr 1
  omega
theorem Lol.first (h : Lol O C x) {b : α × Int} (hb : (O ++ C)[O.length]? = some b) : C.head? = some b := by
  rw [List.getElem?_append_right (Nat.le_refl _), Nat.sub_self] at hb
  rw [← hb]
  cases C <;> rfl
/-- behind an edge the way does not turn back -/
theorem Lol.turn (h : Lol O C x) {k j : Nat} {a b : α × Int} (ha : (O ++ C)[k]? = some a) (hb : (O ++ C)[j]? = some b) (hj : j = if k + 1 = (O ++ C).length then O.length else k + 1) : ¬ (b.1 = a.1 ∧ b.2 = -a.2) := by
  split at hj
  · rename_i hk
    subst hj
    exact h.f2.seam (h.last ha hk) (h.first hb)
  · subst hj
    exact fr_get h.R ha hb
/-- two edges into one place differ -/
theorem Lol.into (h : Lol O C x) {k j : Nat} {a b : α × Int} (ha : (O ++ C)[k]? = some a) (hb : (O ++ C)[j]? = some b) (he : (if k + 1 = (O ++ C).length then O.length else k + 1) = if j + 1 = (O ++ C).length then O.length else j + 1) (hab : a = b) : k = j := by
  have key : ∀ {k j : Nat} {a b : α × Int}, (O ++ C)[k]? = some a → (O ++ C)[j]? = some b → k + 1 = (O ++ C).length → O.length = j + 1 → a = b → False := by
    intro k j a b ha hb hk hj hab
    have h1 := h.last ha hk
    have h2 := h.f1.right
    rw [List.getElem?_append_left (by omega)] at hb
    have h3 : O.getLast? = some b := by
      rw [List.getLast?_eq_getElem?, ← hb]
      congr 1
      omega
    have h4 : (inv O).head? = some (b.1, -b.2) := by
      rw [head_inv, h3]
      rfl
    exact h2.seam h1 h4 ⟨by rw [hab], by rw [hab]⟩
  split at he <;> split at he
  · omega
  · exact (key ha hb (by assumption) he hab).elim
  · exact (key hb ha (by assumption) he.symm hab.symm).elim
  · omega
theorem Lol.fwd (h : Lol O C x) {k : Nat} {a : α × Int} (ha : (O ++ C)[k]? = some a) : stepE (edg O.length 0 (O ++ C)) x k a = some (if k + 1 = (O ++ C).length then O.length else k + 1) := by
  have hm := mem_edg O.length (O ++ C) 0 k a ha
  refine pick_to ⟨_, hm, .inl ⟨by simp, rfl, by simp⟩⟩ (fun e he t hf => ?_) (.inl (if_neg ?_))
  · obtain ⟨j, g1, g2, g3⟩ := edg_mem _ _ _ _ he
    rw [Nat.zero_add] at g2 g3
    rcases hf with ⟨f1, f2, f3⟩ | ⟨f1, f2, f3⟩
    · have : j = k := by omega
      subst this
      rw [← f3, g3]
    · rw [f1] at g3
      have := h.turn g1 ha g3
      rw [f2] at this
      exact absurd ⟨rfl, by show a.2 = -(0 - a.2); omega⟩ this
  · rintro ⟨rfl, hx⟩
    exact hx (h.h0 a ha)
theorem Lol.bwd (h : Lol O C x) {k : Nat} {a : α × Int} (ha : (O ++ C)[k]? = some a) : stepE (edg O.length 0 (O ++ C)) x (if k + 1 = (O ++ C).length then O.length else k + 1) (a.1, -a.2) = some k := by
  have hm := mem_edg O.length (O ++ C) 0 k a ha
  refine pick_to ⟨_, hm, .inr ⟨by simp, by show a = (a.1, 0 - -a.2); exact Prod.ext rfl (by show a.2 = 0 - -a.2; omega), by simp⟩⟩ (fun e he t hf => ?_) (.inl (if_neg ?_))
  · obtain ⟨j, g1, g2, g3⟩ := edg_mem _ _ _ _ he
    rw [Nat.zero_add] at g2 g3
    rcases hf with ⟨f1, f2, f3⟩ | ⟨f1, f2, f3⟩
    · rw [f1] at g2
      have := h.turn ha g1 g2.symm
      rw [f2] at this
      exact absurd ⟨rfl, rfl⟩ this
    · rw [f1] at g3
      have := h.into ha g1 g3 (by rw [f2]; exact Prod.ext rfl (by show a.2 = 0 - -a.2; omega))
      omega
  · rintro ⟨h0, hx⟩
    split at h0
    · rename_i hk
      exact hx (h.l0 (List.length_eq_zero_iff.mp h0) a (h.last ha hk))
    · omega
theorem Lol.stay (h : Lol O C x) {a : α × Int} (hx : a.1 ≠ x) : stepE (edg O.length 0 (O ++ C)) x 0 a = some 0 := by
  unfold stepE
  rw [if_pos ⟨rfl, hx⟩]
  cases hp : pick (edg O.length 0 (O ++ C)) 0 a (some 0) with
  | none => exact absurd (pick_none _ _ _ _ hp).1 (by simp)
  | some t =>
    rcases pick_of _ _ _ _ _ hp with h1 | ⟨e, he, hf⟩
    · exact h1.symm
    · obtain ⟨j, g1, g2, g3⟩ := edg_mem _ _ _ _ he
      rw [Nat.zero_add] at g2 g3
      rcases hf with ⟨f1, f2, f3⟩ | ⟨f1, f2, f3⟩
      · have : j = 0 := by omega
        subst this
        have := h.h0 _ g1
        rw [f2] at this
        exact absurd this hx
      · rw [f1] at g3
        split at g3
        · rename_i hj
          have := h.l0 (List.length_eq_zero_iff.mp g3.symm) _ (h.last g1 hj)
          rw [f2] at this
          exact absurd this hx
        · omega
theorem Lol.path (h : Lol O C x) : ∀ (X P Z : List (α × Int)), O ++ C = P ++ (X ++ Z) → Z ≠ [] → runE (edg O.length 0 (O ++ C)) x P.length X = some (P.length + X.length) ∧ runE (edg O.length 0 (O ++ C)) x (P.length + X.length) (inv X) = some P.length
  | [], P, Z, _, _ => ⟨rfl, rfl⟩
  | a :: X, P, Z, e, hz => by
    have ha : (O ++ C)[P.length]? = some a := by
      rw [e, List.getElem?_append_right (Nat.le_refl _), Nat.sub_self]
      rfl
    have hl : ¬ P.length + 1 = (O ++ C).length := by
      have : 0 < Z.length := List.length_pos_iff.mpr hz
      rw [e, List.length_append, List.length_append, List.length_cons]
      omega
    have h1 := h.fwd ha
    have h2 := h.bwd ha
    rw [if_neg hl] at h1 h2
    obtain ⟨i1, i2⟩ := h.path X (P ++ [a]) Z (by rw [e]; simp) hz
    rw [List.length_append, List.length_singleton] at i1 i2
    have e3 : P.length + (a :: X).length = P.length + 1 + X.length := by rw [List.length_cons]; omega
    rw [e3]
    constructor
    · simp only [runE, h1]
      exact i1
    · have e4 : inv (a :: X) = inv X ++ [(a.1, -a.2)] := by simp [inv]
      rw [e4, runE_app _ _ _ _ _ _ i2]
      simp only [runE, h2]
theorem Lol.circle (h : Lol O C x) : runE (edg O.length 0 (O ++ C)) x O.length C = some O.length ∧ runE (edg O.length 0 (O ++ C)) x O.length (inv C) = some O.length := by
  rcases List.eq_nil_or_concat C with e | ⟨C', a, e⟩
  · exact absurd e h.cn
  rw [List.concat_eq_append] at e
  obtain ⟨i1, i2⟩ := h.path C' O [a] (by rw [e]) (by simp)
  have ha : (O ++ C)[O.length + C'.length]? = some a := by
    rw [e, ← List.append_assoc, ← List.length_append, List.getElem?_concat_length]
  have hl : O.length + C'.length + 1 = (O ++ C).length := by
    rw [e, List.length_append, List.length_append, List.length_singleton]
    omega
  have h1 := h.fwd ha
  have h2 := h.bwd ha
  rw [if_pos hl] at h1 h2
  generalize hE : edg O.length 0 (O ++ C) = E at *
  constructor
  · rw [e, runE_app _ _ _ _ _ _ i1]
    simp only [runE, h1]
  · have e4 : inv C = (a.1, -a.2) :: inv C' := by rw [e]; simp [inv]
    rw [e4]
    simp only [runE, h2]
    exact i2
theorem runE_rep {E : List (Edge α)} {x : α} {k : Nat} {X : List (α × Int)} (h : runE E x k X = some k) : ∀ n, runE E x k (rep n X) = some k
  | 0 => rfl
  | n + 1 => by
    rw [rep_succ, runE_app _ _ _ _ _ _ h]
    exact runE_rep h n
theorem Lol.blk (h : Lol O C x) (e : Int) : runE (edg O.length 0 (O ++ C)) x 0 (blk O C e) = some 0 := by
  obtain ⟨i1, i2⟩ := h.path O [] C (by simp) h.cn
  obtain ⟨c1, c2⟩ := h.circle
  rw [List.length_nil, Nat.zero_add] at i1 i2
  unfold Wd.blk
  rw [runE_app _ _ _ _ _ _ i1]
  have : runE (edg O.length 0 (O ++ C)) x O.length (rep e.natAbs (if decide (0 < e) = true then C else inv C)) = some O.length := by
    refine runE_rep ?_ _
    split
    · exact c1
    · exact c2
  rw [runE_app _ _ _ _ _ _ this]
  exact i2
theorem Lol.blks (h : Lol O C x) (m : α) : ∀ W : List (α × Int), (∀ q ∈ W, q.1 ≠ x) → runE (edg O.length 0 (O ++ C)) x 0 (blks m O C W) = some 0
  | [], _ => rfl
  | q :: W, hx => by
    have e : Wd.blks m O C (q :: W) = (if q.1 = m then Wd.blk O C q.2 else spell1 q) ++ Wd.blks m O C W := by
      unfold Wd.blks
      rw [List.flatMap_cons]
    have h1 : runE (edg O.length 0 (O ++ C)) x 0 (if q.1 = m then Wd.blk O C q.2 else spell1 q) = some 0 := by
      split
      · exact h.blk _
      · unfold spell1
        have : ∀ (n : Nat) (s : Int), runE (edg O.length 0 (O ++ C)) x 0 (List.replicate n (q.1, s)) = some 0 := by
          intro n s
          induction n with
          | zero => rfl
          | succ n ih =>
            rw [List.replicate_succ]
            have := h.stay (a := (q.1, s)) (hx q (by simp))
            simp only [runE, this]
            exact ih
        exact this _ _
    rw [e, runE_app _ _ _ _ _ _ h1]
    exact h.blks m W fun y hy => hx y (by simp [hy])
theorem Lp.lol (h : Lp m x L l M r o c) : Lol (spelled o) (spelled c) x := by
  have h1 := h.core.spell
  refine ⟨h1.2, cyc_fr h.core.rc h.core.cy, h.Cn, (Lt.spelled o).app (Lt.spelled c), fun a ha => ?_, fun ho a ha => ?_⟩
  · by_cases ho : spelled o = []
    · rw [ho, List.nil_append] at ha
      obtain ⟨⟨s, hs⟩, _⟩ := h.C_head ho
      rw [← List.head?_eq_getElem?, hs] at ha
      cases ha
      rfl
    · obtain ⟨s, hs⟩ := h.O_head ho
      rw [← List.head?_eq_getElem?, List.head?_append, hs] at ha
      cases ha
      rfl
  · obtain ⟨_, s, hs⟩ := h.C_head ho
    rw [hs] at ha
    cases ha
    rfl
/-- the two ways of winding by a loop and by its middle -/
theorem Lp.swap (h : Lp m x L l M r o c) {w : List (α × Int)} : (∃ t, Red t ∧ (∀ q ∈ t, q.1 ≠ x) ∧ sub m L t = w) ↔ (∃ t, Red t ∧ (∀ q ∈ t, q.1 ≠ x) ∧ sub m M t = w) := by
  have avs : ∀ {K t : List (α × Int)}, (∀ q ∈ K, q.1 ≠ x) → (∀ q ∈ t, q.1 ≠ x) → ∀ q ∈ sub m K t, q.1 ≠ x := by
    intro K t hK ht q hq
    unfold sub at hq
    obtain ⟨y, hy, e⟩ := red_mem hq
    rw [← e]
    obtain ⟨z, hz, hy⟩ := List.mem_flatMap.mp hy
    unfold put at hy
    split at hy
    · exact pw_no hK _ y hy
    · rw [List.mem_singleton] at hy
      rw [hy]
      exact ht z hz
  constructor
  · rintro ⟨t, t1, t2, rfl⟩
    have k1 : sub m M (red (l ++ ([(m, 1)] ++ r))) = L := by
      rw [sub_red, sub_app, sub_app m M [(m, 1)], sub_none' h.lm, sub_none' h.rm, sub_m, red_app_red, red_red_app, red_of h.rM, red_app, red_app, red_red, ← red_app, ← red_app, ← h.eq, red_of h.rL]
    refine ⟨sub m (red (l ++ ([(m, 1)] ++ r))) t, Red.red, avs (fun q hq => ?_) t2, by rw [sub_sub, k1]⟩
    obtain ⟨y, hy, e⟩ := red_mem hq
    rw [← e]
    rcases List.mem_append.mp hy with hy | hy
    · exact h.lx y hy
    · rcases List.mem_append.mp hy with hy | hy
      · rw [List.mem_singleton] at hy
        rw [hy]
        exact h.mx
      · exact h.rx y hy
  · rintro ⟨t, t1, t2, rfl⟩
    exact ⟨sub m (turnW m l r) t, Red.red, avs h.turnx t2, by rw [sub_sub, h.turn]⟩
/-- a word comes back if and only if it can be unwound -/
theorem Lp.closes (h : Lp m x L l M r o c) {w : List (α × Int)} (hw : Red w) (hm : ∀ q ∈ w, q.1 ≠ m) : runE (edg (spelled o).length 0 (spelled o ++ spelled c)) x 0 (spelled w) = some 0 ↔ ∃ t, Red t ∧ (∀ q ∈ t, q.1 ≠ x) ∧ sub m L t = w := by
  rw [h.swap]
  constructor
  · intro hr
    obtain ⟨t, t1, t2⟩ := h.run_in (spelled w) [] 0 (fun q hq => by
      unfold spelled at hq
      obtain ⟨y, hy, hq⟩ := List.mem_flatMap.mp hq
      unfold spell1 at hq
      obtain ⟨_, rfl⟩ := List.mem_replicate.mp hq
      exact hm y hy) InH.nil hr
    rw [List.nil_append, red_spelled, red_of hw] at t2
    exact ⟨red t, Red.red, fun q hq => by
      obtain ⟨y, hy, e⟩ := red_mem hq
      rw [← e]
      exact t1 y hy, by rw [sub_red]; exact t2⟩
  · rintro ⟨t, t1, t2, rfl⟩
    obtain ⟨b1, b2, _⟩ := h.blks_fr t1 t2
    have : spelled (sub m M t) = blks m (spelled o) (spelled c) t := by
      rw [← h.blks_red t, spelled_of b2 b1]
    rw [this]
    exact h.lol.blks m t t2
end
end Wd

/-! cores are one; roots; what commutes -/
namespace Wd
variable {α : Type} [DecidableEq α]
/-! a core is one -/
theorem core_nil {o c : List (α × Int)} (h : Core ([] : List (α × Int)) o c) : o = [] ∧ c = [] := by
  have h1 := h.sz
  rw [size_nil] at h1
  constructor
  · cases o with
    | nil => rfl
    | cons a t =>
      have := size_pos h.ro (List.cons_ne_nil a t)
      omega
  · cases c with
    | nil => rfl
    | cons a t =>
      have := size_pos h.rc (List.cons_ne_nil a t)
      omega
theorem core_ne {w o c : List (α × Int)} (h : Core w o c) (hw : w ≠ []) : c ≠ [] := by
  rintro rfl
  have := h.eq
  rw [List.nil_append] at this
  have e : red (o ++ inv o) = [] := by
    unfold red
    rw [act_app]
    exact act_inv trivial
  rw [e] at this
  exact hw this.symm
theorem spelled_nil_iff {c : List (α × Int)} (h : Red c) : spelled c = [] ↔ c = [] := by
  constructor
  · intro e
    have := len_spelled c
    rw [e] at this
    cases c with
    | nil => rfl
    | cons a t =>
      have h2 := size_pos h (List.cons_ne_nil a t)
      simp at this
      omega
  · rintro rfl
    rfl
/-- the outer part cannot be shorter -/
theorem core_lt {O C O' C' : List (α × Int)} (e : O ++ (C ++ inv O) = O' ++ (C' ++ inv O')) (hC : Fr (C ++ C)) (hC' : C ≠ []) : ¬ O.length < O'.length := by
  intro hl
  have e1 : O'.take O.length = O := by
    have := congrArg (List.take O.length) e
    rw [List.take_left, List.take_append_of_le_length (by omega)] at this
    exact this.symm
  obtain ⟨X, hX⟩ : ∃ X, O' = O ++ X := ⟨O'.drop O.length, by
    have := List.take_append_drop O.length O'
    rw [e1] at this
    exact this.symm⟩
  have hXn : X ≠ [] := by
    rintro rfl
    rw [List.append_nil] at hX
    rw [hX] at hl
    exact Nat.lt_irrefl _ hl
  rw [hX, inv_app, List.append_assoc] at e
  have e2 := List.append_cancel_left e
  have e3 : C = X ++ (C' ++ inv X) := by
    have : C ++ inv O = (X ++ (C' ++ inv X)) ++ inv O := by rw [e2]; simp
    exact List.append_cancel_right this
  obtain ⟨a, ha⟩ : ∃ a, X.head? = some a := by
    cases X with
    | nil => exact absurd rfl hXn
    | cons a t => exact ⟨a, rfl⟩
  have h1 : C.head? = some a := by rw [e3, List.head?_append, ha]; rfl
  have h2 : C.getLast? = some (a.1, -a.2) := by
    rw [e3, List.getLast?_append, List.getLast?_append, last_inv, ha]
    rfl
  exact hC.seam h2 h1 ⟨rfl, by show a.2 = - -a.2; omega⟩
theorem core_unique {w o c o' c' : List (α × Int)} (h : Core w o c) (h' : Core w o' c') : o = o' ∧ c = c' := by
  by_cases hw : w = []
  · subst hw
    obtain ⟨a1, a2⟩ := core_nil h
    obtain ⟨b1, b2⟩ := core_nil h'
    exact ⟨a1.trans b1.symm, a2.trans b2.symm⟩
  have e : spelled o ++ (spelled c ++ inv (spelled o)) = spelled o' ++ (spelled c' ++ inv (spelled o')) := by rw [← h.spell.1, ← h'.spell.1]
  have n1 := core_lt e (cyc_fr h.rc h.cy) fun hh => core_ne h hw ((spelled_nil_iff h.rc).mp hh)
  have n2 := core_lt e.symm (cyc_fr h'.rc h'.cy) fun hh => core_ne h' hw ((spelled_nil_iff h'.rc).mp hh)
  have hl : (spelled o).length = (spelled o').length := by omega
  obtain ⟨e1, e2⟩ := List.append_inj e hl
  have eo : o = o' := spelled_inj h.ro h'.ro e1
  subst eo
  exact ⟨rfl, spelled_inj h.rc h'.rc (List.append_cancel_right e2)⟩
/-! powers -/
theorem cyc_inv {C : List (α × Int)} (h : Fr (C ++ C)) : Fr (inv C ++ inv C) := by
  rw [← inv_app]
  exact h.inv
theorem len_rep' (n : Nat) (C : List (α × Int)) : (rep n C).length = n * C.length := len_rep n C
theorem core_blk {o c : List (α × Int)} (ho : Red o) (hc : Red c) (hf : Fr (spelled o ++ (spelled c ++ inv (spelled o)))) (hcy : cycb c = true) (hn : c ≠ []) (n : Nat) : Core (red (spelled o ++ (rep (n + 1) (spelled c) ++ inv (spelled o)))) o (red (rep (n + 1) (spelled c))) := by
  have hcc := cyc_fr hc hcy
  have hcn : spelled c ≠ [] := fun h => hn ((spelled_nil_iff hc).mp h)
  have hlr : Lt (rep (n + 1) (spelled c)) := (Lt.spelled c).rep _
  have hfb := fr_block hf hcc hcn n
  have hfr : Fr (rep (n + 1) (spelled c)) := hfb.right.left
  have hlb : Lt (spelled o ++ (rep (n + 1) (spelled c) ++ inv (spelled o))) := lt_app3 (Lt.spelled o) hlr
  refine ⟨ho, Red.red, ?_, ?_, ?_⟩
  · refine app_congr (red_spelled o).symm (app_congr (by rw [red_of Red.red]) ?_)
    rw [← spelled_inv ho.nz, red_spelled]
  · rw [size_fr hlb hfb, size_fr hlr hfr, List.length_append, List.length_append, len_inv, len_spelled]
    omega
  · refine fr_cyc Red.red ?_
    rw [spelled_of hlr hfr]
    have := hcc.rep (n + 1 + (n + 1))
    unfold rep at this ⊢
    rw [← List.flatten_append, List.replicate_append_replicate]
    exact this
theorem core_pw {w o c : List (α × Int)} (h : Core w o c) (hn : c ≠ []) {e : Int} (he : e ≠ 0) : Core (pw w e) o (pw c e) := by
  obtain ⟨hs, hf⟩ := h.spell
  obtain ⟨n, hn'⟩ : ∃ n, e.natAbs = n + 1 := ⟨e.natAbs - 1, by omega⟩
  by_cases hp : 0 < e
  · have e1 : e = ((n + 1 : Nat) : Int) := by omega
    have := core_blk h.ro h.rc hf h.cy hn n
    rw [red_blk h e (n + 1) _ (.inl ⟨rfl, e1⟩), (pw_spelled c h.rc (n + 1)).1, ← e1] at this
    exact this
  · have e1 : e = -((n + 1 : Nat) : Int) := by omega
    have hi : Fr (spelled o ++ (spelled (inv c) ++ inv (spelled o))) := by
      have := hf.inv
      rw [inv_app, inv_app, inv_inv, List.append_assoc, ← spelled_inv h.rc.nz] at this
      exact this
    have hcy : cycb (inv c) = true := fr_cyc h.rc.inv (by
      rw [spelled_inv h.rc.nz]
      exact cyc_inv (cyc_fr h.rc h.cy))
    have hin : inv c ≠ [] := fun hh => hn (by have := congrArg inv hh; rw [inv_inv] at this; exact this)
    have := core_blk h.ro h.rc.inv hi hcy hin n
    rw [spelled_inv h.rc.nz, red_blk h e (n + 1) _ (.inr ⟨rfl, e1⟩), (pw_spelled c h.rc (n + 1)).2, ← e1] at this
    exact this
theorem size_pw_cyc {c : List (α × Int)} (hr : Red c) (hc : cycb c = true) (e : Int) : size (pw c e) = e.natAbs * size c := by
  by_cases hn : c = []
  · subst hn
    rw [pw_nil]
    simp [size_nil]
  by_cases he : e = 0
  · subst he
    rw [pw_zero]
    simp [size_nil]
  have h0 : Core c [] c := core_done hr (by simp [inv]) hc
  have hcc := cyc_fr hr hc
  obtain ⟨n, hn'⟩ : ∃ n, e.natAbs = n + 1 := ⟨e.natAbs - 1, by omega⟩
  by_cases hp : 0 < e
  · have e1 : e = ((n + 1 : Nat) : Int) := by omega
    have h1 := (pw_spelled c hr (n + 1)).1
    rw [hn', e1, ← h1, size_fr ((Lt.spelled c).rep _) (hcc.rep _), len_rep, len_spelled]
  · have e1 : e = -((n + 1 : Nat) : Int) := by omega
    have h1 := (pw_spelled c hr (n + 1)).2
    rw [hn', e1, ← h1, size_fr ((Lt.spelled c).inv.rep _) ((cyc_inv hcc).rep _), len_rep, len_inv, len_spelled]
theorem size_pw_core {w o c : List (α × Int)} (h : Core w o c) (hn : c ≠ []) {e : Int} (he : e ≠ 0) : size (pw w e) = 2 * size o + e.natAbs * size c := by
  rw [(core_pw h hn he).sz, size_pw_cyc h.rc h.cy]
/-- exponents are one -/
theorem pw_inj {w : List (α × Int)} (hw : Red w) (hn : w ≠ []) {a b : Int} (h : pw w a = pw w b) : a = b := by
  by_cases hab : a - b = 0
  · omega
  · have h1 := pw_add w a (-b)
    rw [h, pw_add, show b + -b = 0 by omega, pw_zero] at h1
    exact absurd h1.symm (by rw [show a + -b = a - b by omega]; exact pw_ne hw hn hab)
theorem pw_eq_nil {w : List (α × Int)} (hw : Red w) (hn : w ≠ []) {a : Int} (h : pw w a = []) : a = 0 := pw_inj hw hn (h.trans (pw_zero w).symm)
/-- a core is not longer than what is turned -/
theorem core_small {t i w o c : List (α × Int)} (hw : w = red (t ++ (i ++ inv t))) (h : Core w o c) : size c ≤ size i := by
  by_cases hn : c = []
  · subst hn
    exact Nat.zero_le _
  have key : ∀ n : Nat, (n + 1) * size c ≤ 2 * size t + (n + 1) * size i := by
    intro n
    have h1 := size_pw_core h hn (e := ((n + 1 : Nat) : Int)) (by omega)
    rw [Int.natAbs_natCast] at h1
    have h2 : size (pw w ((n + 1 : Nat) : Int)) ≤ 2 * size t + (n + 1) * size i := by
      rw [hw, pw_conj]
      refine Nat.le_trans (size_red _) ?_
      rw [size_app, size_app, size_inv, pw_nat]
      have h3 := size_red (rep (n + 1) i)
      have h4 : ∀ m, size (rep m i) = m * size i := fun m => by
        induction m with
        | zero => simp [rep, size_nil]
        | succ m ih => rw [rep_succ, size_app, ih, Nat.add_mul, Nat.one_mul, Nat.add_comm]
      rw [h4] at h3
      omega
    omega
  rcases Nat.lt_or_ge (size i) (size c) with hlt | hge
  · have h1 := key (2 * size t)
    have h2 : (2 * size t + 1) * (size i + 1) ≤ (2 * size t + 1) * size c := Nat.mul_le_mul_left _ hlt
    rw [Nat.mul_add, Nat.mul_one] at h2
    omega
  · exact hge
/-! rotations -/
def rot (j : Nat) (X : List (α × Int)) : List (α × Int) := X.drop j ++ X.take j
theorem rot_zero (X : List (α × Int)) : rot 0 X = X := by simp [rot]
theorem rot_len (j : Nat) (X : List (α × Int)) : (rot j X).length = X.length := by
  unfold rot
  rw [List.length_append, List.length_drop, List.length_take]
  omega
theorem rot_all (X : List (α × Int)) : rot X.length X = X := by simp [rot]
theorem rot_rot {a b : Nat} {X : List (α × Int)} (h : a + b ≤ X.length) : rot b (rot a X) = rot (a + b) X := by
  unfold rot
  have h1 : b ≤ (X.drop a).length := by rw [List.length_drop]; omega
  rw [List.drop_append_of_le_length h1, List.take_append_of_le_length h1, List.drop_drop, List.append_assoc, ← List.take_add]
theorem rot_mul {q : Nat} {X : List (α × Int)} (h : rot q X = X) : ∀ k, k * q ≤ X.length → rot (k * q) X = X
  | 0, _ => by rw [Nat.zero_mul, rot_zero]
  | k + 1, hk => by
    rw [Nat.add_mul, Nat.one_mul] at hk ⊢
    rw [← rot_rot hk, rot_mul h k (by omega), h]
theorem rot_rest {a b : Nat} {X : List (α × Int)} (h : a + b ≤ X.length) (h1 : rot a X = X) (h2 : rot (a + b) X = X) : rot b X = X := by
  rw [← rot_rot h, h1] at h2
  exact h2
theorem rot_cyc {X : List (α × Int)} (h : Fr (X ++ X)) {j : Nat} (hj : j ≤ X.length) : Fr (rot j X ++ rot j X) := by
  have h3 := h.rep 3
  have : rep 3 X = X.take j ++ ((rot j X ++ rot j X) ++ X.drop j) := by
    unfold rot rep
    have e := List.take_append_drop j X
    have : (List.replicate 3 X).flatten = X ++ (X ++ X) := by simp [List.replicate]
    rw [this]
    calc X ++ (X ++ X) = (X.take j ++ X.drop j) ++ ((X.take j ++ X.drop j) ++ (X.take j ++ X.drop j)) := by rw [e]
      _ = _ := by simp only [List.append_assoc]
  rw [this] at h3
  exact h3.right.left
/-- the way round is a power of its part -/
theorem rep_of {U : List (α × Int)} : ∀ (m : Nat) (V : List (α × Int)), V.length = m * U.length → V ++ U = U ++ V → V = rep m U
  | 0, V, hl, _ => by
    rw [Nat.zero_mul] at hl
    rw [List.length_eq_zero_iff.mp hl]
    rfl
  | m + 1, V, hl, h => by
    rw [Nat.add_mul, Nat.one_mul] at hl
    have e1 : V.take U.length = U := by
      have := congrArg (List.take U.length) h
      rw [List.take_left, List.take_append_of_le_length (by omega)] at this
      exact this
    have e2 : V = U ++ V.drop U.length := by
      have := List.take_append_drop U.length V
      rw [e1] at this
      exact this.symm
    have e3 : V.drop U.length ++ U = U ++ V.drop U.length := by
      have : U ++ (V.drop U.length ++ U) = U ++ (U ++ V.drop U.length) := by
        rw [← List.append_assoc, ← e2]
        exact h
      exact List.append_cancel_left this
    rw [rep_succ, ← rep_of m (V.drop U.length) (by rw [List.length_drop]; omega) e3]
    exact e2
theorem rot_rep {X : List (α × Int)} {p m : Nat} (hp : 0 < p) (hm : X.length = m * p) (h : rot p X = X) (hX : X ≠ []) : X = rep m (X.take p) := by
  have hm0 : 0 < m := by
    rcases Nat.eq_zero_or_pos m with h0 | h0
    · rw [h0, Nat.zero_mul] at hm
      exact absurd (List.length_eq_zero_iff.mp hm) hX
    · exact h0
  obtain ⟨k, rfl⟩ : ∃ k, m = k + 1 := ⟨m - 1, by omega⟩
  rw [Nat.add_mul, Nat.one_mul] at hm
  have e := List.take_append_drop p X
  have hl : (X.take p).length = p := by rw [List.length_take]; omega
  have h1 : X.drop p ++ X.take p = X.take p ++ X.drop p := by
    rw [e]
    exact h
  have := rep_of k (X.drop p) (by rw [List.length_drop, hl]; omega) h1
  rw [rep_succ, ← this, e]
theorem rep_rot {U : List (α × Int)} (m : Nat) : rot U.length (rep (m + 1) U) = rep (m + 1) U := by
  unfold rot
  rw [rep_succ, List.drop_left, List.take_left, rep_snoc', rep_succ]
/-- the least way round -/
structure Per (X : List (α × Int)) (p m : Nat) : Prop where
  pos : 0 < p
  len : X.length = m * p
  rt : rot p X = X
  least : ∀ q, 0 < q → q < p → (q ∣ X.length) → rot q X ≠ X
theorem Per.dvd {X : List (α × Int)} {p m : Nat} (h : Per X p m) (hX : X ≠ []) {j : Nat} (hj : j ≤ X.length) (hr : rot j X = X) : p ∣ j := by
  have hXl : 0 < X.length := List.length_pos_iff.mpr hX
  -- the least of all
  have ex : ∃ q, 0 < q ∧ q ≤ X.length ∧ rot q X = X ∧ ∀ s, 0 < s → s < q → rot s X ≠ X := by
    have : ∀ n, (∃ q, 0 < q ∧ q ≤ n ∧ q ≤ X.length ∧ rot q X = X) → ∃ q, 0 < q ∧ q ≤ X.length ∧ rot q X = X ∧ ∀ s, 0 < s → s < q → rot s X ≠ X := by
      intro n
      induction n with
      | zero => rintro ⟨q, h1, h2, _⟩; omega
      | succ n ih =>
        rintro ⟨q, h1, h2, h3, h4⟩
        by_cases hh : ∃ s, 0 < s ∧ s < q ∧ rot s X = X
        · obtain ⟨s, s1, s2, s3⟩ := hh
          exact ih ⟨s, s1, by omega, by omega, s3⟩
        · exact ⟨q, h1, h3, h4, fun s s1 s2 s3 => hh ⟨s, s1, s2, s3⟩⟩
    exact this X.length ⟨X.length, hXl, Nat.le_refl _, Nat.le_refl _, rot_all X⟩
  obtain ⟨q, q1, q2, q3, q4⟩ := ex
  have dv : ∀ {i : Nat}, i ≤ X.length → rot i X = X → q ∣ i := by
    intro i hi hri
    have h1 := Nat.div_add_mod i q
    have h2 := Nat.mod_lt i q1
    rcases Nat.eq_zero_or_pos (i % q) with h0 | h0
    · exact Nat.dvd_of_mod_eq_zero h0
    · have h3 : rot (i / q * q) X = X := rot_mul q3 _ (by rw [Nat.mul_comm]; omega)
      have h4 : i / q * q + i % q = i := by rw [Nat.mul_comm]; exact h1
      exact absurd (rot_rest (by omega) h3 (by rw [h4]; exact hri)) (q4 _ h0 h2)
  have hqn : q ∣ X.length := dv (Nat.le_refl _) (rot_all X)
  have hpq : p = q := by
    rcases Nat.lt_trichotomy p q with hh | hh | hh
    · exact absurd h.rt (q4 p h.pos hh)
    · exact hh
    · exact absurd q3 (h.least q q1 hh hqn)
  rw [hpq]
  exact dv hj hr
/-! what commutes with a cyclic word -/
theorem rot_head {X : List (α × Int)} {j : Nat} (hj : j < X.length) : rot j X = X[j] :: (X.drop (j + 1) ++ X.take j) := by
  unfold rot
  rw [List.drop_eq_getElem_cons hj]
  rfl
theorem take_next {X : List (α × Int)} {j : Nat} (hj : j < X.length) : X.take (j + 1) = X.take j ++ [X[j]] := by
  rw [List.take_succ, List.getElem?_eq_getElem hj]
  rfl
/-- turning by one letter -/
theorem rot_next {X : List (α × Int)} {j : Nat} (hj : j < X.length) : (X.drop (j + 1) ++ X.take j) ++ [X[j]] = rot (j + 1) X := by
  unfold rot
  rw [take_next hj, List.append_assoc]
theorem conj_step {V1 D' C : List (α × Int)} {y : α × Int} (h : red ((V1 ++ [(y.1, -y.2)]) ++ ((y :: D') ++ inv (V1 ++ [(y.1, -y.2)]))) = red C) : red (V1 ++ ((D' ++ [y]) ++ inv V1)) = red C := by
  rw [← h]
  have e1 : inv (V1 ++ [(y.1, -y.2)]) = [y] ++ inv V1 := by
    rw [inv_app, inv_one]
    congr 2
    exact Prod.ext rfl (by show - -y.2 = y.2; omega)
  have e2 : (y :: D') = [y] ++ D' := rfl
  have e3 : [(y.1, -y.2)] = inv [y] := rfl
  rw [e1, e2, e3]
  refine by_act ?_
  simp (config := { maxDischargeDepth := 40 }) only [act_app, a_red, a_ired, a_r, a_l, a_Red, a_nil, a_e, inv_app, inv_inv]
theorem conj_step' {V1 D' C : List (α × Int)} {x : α × Int} (h : red ((V1 ++ [x]) ++ ((D' ++ [x]) ++ inv (V1 ++ [x]))) = red C) : red (V1 ++ ((x :: D') ++ inv V1)) = red C := by
  rw [← h]
  have e2 : (x :: D') = [x] ++ D' := rfl
  rw [inv_app, e2]
  refine by_act ?_
  simp (config := { maxDischargeDepth := 40 }) only [act_app, a_red, a_ired, a_r, a_l, a_Red, a_nil, a_e, inv_app, inv_inv]
section
variable {C : List (α × Int)} {p m : Nat}
theorem Per.pwU (h : Per C p m) (hC : C ≠ []) : red C = pw (C.take p) (m : Int) := by
  rw [pw_nat, ← rot_rep h.pos h.len h.rt hC]
theorem com_cyc (h : Per C p m) (hl : Lt C) (hf : Fr (C ++ C)) (hC : C ≠ []) : ∀ (n : Nat) (V : List (α × Int)), V.length = n → Lt V → Fr V → ∀ j, j < C.length → red (V ++ (rot j C ++ inv V)) = red C →
    ∃ k : Int, red V = red (pw (C.take p) k ++ C.take j) := by
  intro n
  induction n with
  | zero =>
    intro V hV _ _ j hj he
    rw [List.length_eq_zero_iff] at hV
    subst hV
    have e0 : inv ([] : List (α × Int)) = [] := rfl
    rw [List.nil_append, e0, List.append_nil] at he
    have hr : Fr (rot j C ++ rot j C) := rot_cyc hf (by omega)
    have lr : Lt (rot j C) := (fun r hr => by
      unfold rot at hr
      rcases List.mem_append.mp hr with hr | hr
      · exact hl r (List.mem_of_mem_drop hr)
      · exact hl r (List.mem_of_mem_take hr))
    have e1 : rot j C = C := by
      rw [← spelled_of lr hr.left, he, spelled_of hl hf.left]
    obtain ⟨q, hq⟩ := h.dvd hC (by omega) e1
    -- the prefix is a power
    have hpl : (C.take p).length = p := by
      have : p ≤ C.length := by
        rw [h.len]
        have hm : 0 < m := by
          rcases Nat.eq_zero_or_pos m with h0 | h0
          · have := h.len
            rw [h0, Nat.zero_mul] at this
            exact absurd (List.length_eq_zero_iff.mp this) hC
          · exact h0
        exact Nat.le_mul_of_pos_left p hm
      rw [List.length_take]
      omega
    have hqm : q ≤ m := by
      have h1 := h.len
      rw [hq] at hj
      rw [h1] at hj
      rcases Nat.lt_or_ge m q with h2 | h2
      · have := Nat.mul_le_mul_right p (Nat.le_of_lt h2)
        rw [Nat.mul_comm q p] at this
        omega
      · exact h2
    have e2 : C.take j = rep q (C.take p) := by
      have h1 := rot_rep h.pos h.len h.rt hC
      obtain ⟨d, rfl⟩ : ∃ d, m = q + d := ⟨m - q, by omega⟩
      have h2 : rep (q + d) (C.take p) = rep q (C.take p) ++ rep d (C.take p) := by
        unfold rep
        rw [← List.flatten_append, List.replicate_append_replicate]
      rw [h2] at h1
      have h3 : (rep q (C.take p)).length = j := by
        rw [len_rep, hpl, hq, Nat.mul_comm]
      rw [h1, ← h3]
      generalize rep d (C.take p) = Z at *
      generalize hY : rep q (C.take p) = Y at *
      rw [← h1, hY] 
      rw [h1, List.take_left]
    refine ⟨-(q : Int), ?_⟩
    have h5 : red (C.take j) = pw (C.take p) (q : Int) := by rw [e2, pw_nat]
    rw [← red_app_red, h5, pw_add, show -(q : Int) + q = 0 by omega, pw_zero]
    rfl
  | succ n ih =>
    intro V hV hVl hVf j hj he
    rcases List.eq_nil_or_concat V with rfl | ⟨V1, x, rfl⟩
    · cases hV
    rw [List.concat_eq_append] at *
    have hV1 : V1.length = n := by
      rw [List.length_append, List.length_singleton] at hV
      omega
    have ih' := ih V1 hV1 hVl.left hVf.left
    have hxl : x.2 = 1 ∨ x.2 = -1 := hVl x (by simp)
    have hpm := h.pwU hC
    have hcl : C.take C.length = C := List.take_length
    generalize C.take p = U at *
    -- the two neighbours
    have hA : x = (C[j].1, -C[j].2) → ∃ k : Int, red (V1 ++ [x]) = red (pw U k ++ C.take j) := by
      intro hx
      rw [rot_head hj] at he
      subst hx
      have h1 := conj_step he
      rw [rot_next hj] at h1
      have e1 : [(C[j].1, -C[j].2)] = inv [C[j]] := rfl
      rcases Nat.lt_or_ge (j + 1) C.length with hlt | hge
      · obtain ⟨k, hk⟩ := ih' (j + 1) hlt h1
        refine ⟨k, ?_⟩
        rw [← red_red_app, hk, take_next hj, e1]
        refine by_act ?_
        simp (config := { maxDischargeDepth := 40 }) only [act_app, a_red, a_ired, a_r, a_l, a_Red, a_nil, a_e, inv_app, inv_inv]
      · have hj1 : j + 1 = C.length := by omega
        rw [hj1, rot_all] at h1
        obtain ⟨k, hk⟩ := ih' 0 (by omega) (by rw [rot_zero]; exact h1)
        rw [List.take_zero, List.append_nil, red_of Red.pw] at hk
        refine ⟨k - m, ?_⟩
        have h2 : pw U k = red (pw U (k - m) ++ (C.take j ++ [C[j]])) := by
          rw [← take_next hj, hj1, hcl, ← red_app_red, hpm, pw_add]
          congr 1
          omega
        rw [← red_red_app, hk, h2, e1]
        refine by_act ?_
        simp (config := { maxDischargeDepth := 40 }) only [act_app, a_red, a_ired, a_r, a_l, a_Red, a_nil, a_e, inv_app, inv_inv]
    have hB : ∀ i, (hi : i < C.length) → (i + 1 = j ∨ (j = 0 ∧ i + 1 = C.length)) → x = C[i] → ∃ k : Int, red (V1 ++ [x]) = red (pw U k ++ C.take j) := by
      intro i hi hij hx
      have er : rot j C = (C.drop (i + 1) ++ C.take i) ++ [C[i]] := by
        rw [rot_next hi]
        rcases hij with rfl | ⟨rfl, hh⟩
        · rfl
        · rw [hh, rot_all, rot_zero]
      rw [er, ← hx] at he
      have h1 := conj_step' he
      rw [hx, ← rot_head hi] at h1
      obtain ⟨k, hk⟩ := ih' i hi h1
      rcases hij with rfl | ⟨rfl, hh⟩
      · refine ⟨k, ?_⟩
        rw [take_next hi, ← red_red_app, hk, hx, red_red_app, List.append_assoc]
      · refine ⟨k + m, ?_⟩
        rw [List.take_zero, List.append_nil, red_of Red.pw, ← pw_add, ← hpm, red_app_red, ← red_red_app, hk, hx, red_red_app, List.append_assoc, ← take_next hi, hh, hcl]
    by_cases h1 : x = (C[j].1, -C[j].2)
    · exact hA h1
    have bad : ∀ z, (rot j C).getLast? = some z → x ≠ z → ∃ k : Int, red (V1 ++ [x]) = red (pw U k ++ C.take j) := by
      intro z hz hxz
      have hD := (rot_cyc hf (j := j) (by omega)).left
      have lD : Lt (rot j C) := fun r hr => by
        unfold rot at hr
        rcases List.mem_append.mp hr with hr | hr
        · exact hl r (List.mem_of_mem_drop hr)
        · exact hl r (List.mem_of_mem_take hr)
      have hfr : Fr ((V1 ++ [x]) ++ (rot j C ++ inv (V1 ++ [x]))) := by
        refine Fr.app hVf (Fr.app hD hVf.inv fun a b ha hb => ?_) fun a b ha hb => ?_
        · rw [hz] at ha
          cases ha
          rw [head_inv, List.getLast?_concat] at hb
          cases hb
          rintro ⟨c1, c2⟩
          refine hxz (Prod.ext c1 ?_)
          dsimp only at c2
          omega
        · rw [List.getLast?_concat] at ha
          cases ha
          rw [rot_head hj] at hb
          cases hb
          rintro ⟨c1, c2⟩
          refine h1 (Prod.ext c1.symm ?_)
          show x.2 = -C[j].2
          omega
      have hll : Lt ((V1 ++ [x]) ++ (rot j C ++ inv (V1 ++ [x]))) := hVl.app (lD.app hVl.inv)
      have s1 := size_fr hll hfr
      rw [he, size_fr hl hf.left] at s1
      simp only [List.length_append, rot_len, len_inv, List.length_singleton] at s1
      omega
    by_cases h0 : j = 0
    · subst h0
      by_cases h2 : x = C[C.length - 1]
      · exact hB (C.length - 1) (by omega) (.inr ⟨rfl, by omega⟩) h2
      · exact bad _ (by rw [rot_zero, List.getLast?_eq_getElem?, List.getElem?_eq_getElem (by omega)]) h2
    · by_cases h2 : x = C[j - 1]
      · exact hB (j - 1) (by omega) (.inl (by omega)) h2
      · refine bad _ ?_ h2
        have e := rot_next (X := C) (j := j - 1) (by omega)
        rw [show j - 1 + 1 = j by omega] at e
        rw [← e, List.getLast?_concat]
/-- the root: what it gives, and what commutes with a word -/
structure Root (w o c : List (α × Int)) (p m : Nat) : Prop where
  core : Core w o c
  ne : w ≠ []
  per : Per (spelled c) p m
def rootW (o c : List (α × Int)) (p : Nat) : List (α × Int) := red (o ++ (red ((spelled c).take p) ++ inv o))
variable {w o c v : List (α × Int)}
theorem Root.cn (h : Root w o c p m) : spelled c ≠ [] := fun hh => core_ne h.core h.ne ((spelled_nil_iff h.core.rc).mp hh)
theorem Root.pw (h : Root w o c p m) : Wd.pw (rootW o c p) (m : Int) = w := by
  unfold rootW
  rw [pw_conj]
  have h1 := h.per.pwU h.cn
  rw [red_spelled, red_of h.core.rc] at h1
  have h2 : Wd.pw (red ((spelled c).take p)) (m : Int) = c := by
    refine Eq.trans ?_ h1.symm
    rw [pw_nat, pw_nat]
    exact rep_congr (by rw [red_of Red.red]) m
  rw [h2, h.core.eq]
theorem Root.ne' (h : Root w o c p m) : rootW o c p ≠ [] := by
  intro e
  have := h.pw
  rw [e, pw_nil] at this
  exact h.ne this.symm
/-- what commutes with a word is a power of its root -/
theorem Root.com (h : Root w o c p m) (hv : Red v) (hc : red (v ++ w) = red (w ++ v)) : ∃ k : Int, Wd.pw (rootW o c p) k = v := by
  have hrw : Red w := by rw [← h.core.eq]; exact Red.red
  -- turned
  have e1 : red (red (inv o ++ (v ++ o)) ++ (c ++ inv (red (inv o ++ (v ++ o))))) = c := by
    have h2 : red (v ++ (w ++ inv v)) = w := by
      have : red (v ++ (w ++ inv v)) = red (red (v ++ w) ++ inv v) := by rw [red_red_app, List.append_assoc]
      rw [this, hc]
      refine to_act hrw ?_
      simp (config := { maxDischargeDepth := 40 }) only [act_app, a_red, a_ired, a_r, a_l, a_Red, a_nil, a_e, inv_app, inv_inv]
    have h3 : red (inv o ++ (w ++ o)) = c := by
      refine to_act h.core.rc ?_
      rw [← h.core.eq]
      simp (config := { maxDischargeDepth := 40 }) only [act_app, a_red, a_ired, a_r, a_l, a_Red, a_nil, a_e, inv_app, inv_inv]
    have h4 : red (red (inv o ++ (v ++ o)) ++ (c ++ inv (red (inv o ++ (v ++ o))))) = red (inv o ++ (red (v ++ (w ++ inv v)) ++ o)) := by
      rw [← h3]
      refine by_act ?_
      simp (config := { maxDischargeDepth := 40 }) only [act_app, a_red, a_ired, a_r, a_l, a_Red, a_nil, a_e, inv_app, inv_inv]
    rw [h4, h2, h3]
  generalize hV : red (inv o ++ (v ++ o)) = V at *
  have hrV : Red V := by rw [← hV]; exact Red.red
  have hcl : 0 < (spelled c).length := List.length_pos_iff.mpr h.cn
  obtain ⟨k, hk⟩ := com_cyc h.per (Lt.spelled c) (cyc_fr h.core.rc h.core.cy) h.cn _ (spelled V) rfl (Lt.spelled V) (Fr.spelled hrV) 0 hcl (by
    rw [rot_zero, red_spelled, red_of h.core.rc]
    rw [← spelled_inv hrV.nz]
    rw [app_congr (red_spelled V) (app_congr (red_spelled c) (red_spelled (inv V)))]
    exact e1)
  rw [List.take_zero, List.append_nil, red_spelled, red_of hrV, red_of Red.pw] at hk
  refine ⟨k, ?_⟩
  unfold rootW
  rw [pw_conj]
  have h5 : Wd.pw (red ((spelled c).take p)) k = V := by
    rw [hk]
    unfold Wd.pw
    split
    · exact rep_congr (by rw [red_of Red.red]) _
    · exact rep_congr (by rw [← red_inv, red_of Red.red]) _
  rw [h5, ← hV]
  refine to_act hv ?_
  simp (config := { maxDischargeDepth := 40 }) only [act_app, a_red, a_ired, a_r, a_l, a_Red, a_nil, a_e, inv_app, inv_inv]
end
end Wd

namespace DL
open PySem PySem.Spec L2 Wd
/-! the store -/
theorem get_app {st l : Store} {k : Nat} {o : O} (h : st[k]? = some o) : (st ++ l)[k]? = some o := by
  rw [List.getElem?_append_left (List.getElem?_eq_some_iff.mp h).1, h]
theorem set_app {st l : Store} {k : Nat} {o o' : O} (h : st[k]? = some o) : (st ++ l).set k o' = st.set k o' ++ l := by
  rw [List.set_append_left _ _ (List.getElem?_eq_some_iff.mp h).1]
theorem get_end {st : Store} {o : O} : (st ++ [o])[st.length]? = some o := by simp
theorem set_end {st : Store} {o o' : O} : (st ++ [o]).set st.length o' = st ++ [o'] := by simp
theorem get_end2 {st : Store} {o u : O} : (st ++ [o, u])[st.length]? = some o := by simp
theorem set_get {st : Store} {k : Nat} {o o' : O} (h : st[k]? = some o) : (st.set k o')[k]? = some o' := by
  rw [List.getElem?_set_self (List.getElem?_eq_some_iff.mp h).1]
theorem set_set {st : Store} {k : Nat} {o o' : O} : (st.set k o).set k o' = st.set k o' := by simp
theorem O.lts_lst {n : Nat} {xs : List D} (h : ∀ d ∈ xs, d.lt n) : O.lt n (.lst xs) := by
  show D.lts n xs
  rw [lts_iff]
  exact h
theorem Wf.set {st : Store} {k : Nat} {o : O} (w : Wf st) (h : o.lt st.length) : Wf (st.set k o) := by
  intro j u e
  rw [List.length_set]
  by_cases hj : k = j
  · subst hj
    by_cases hk : k < st.length
    · rw [List.getElem?_set_self hk] at e
      cases e
      exact h
    · rw [List.getElem?_eq_none (by rw [List.length_set]; omega)] at e
      cases e
  · rw [List.getElem?_set_ne hj] at e
    exact w j u e
theorem Wf.app {st : Store} {o : O} (w : Wf st) (h : o.lt (st.length + 1)) : Wf (st ++ [o]) := by
  intro j u e
  rw [List.length_append, List.length_singleton]
  by_cases hj : j < st.length
  · rw [List.getElem?_append_left hj] at e
    exact O.lt_mono (by omega) u (w j u e)
  · have := (List.getElem?_eq_some_iff.mp e).1
    rw [List.length_append, List.length_singleton] at this
    have : j = st.length := by omega
    subst this
    rw [List.getElem?_append_right (Nat.le_refl _), Nat.sub_self] at e
    simp at e
    subst e
    exact h
/-- the answer leaves the new cells -/
theorem ret_app {n : Nat} {Q : DQ} {d : D} {st0 l : Store} (hn : n = st0.length) (hw : Wf st0) (hd : d.lt n) (h : Q d st0) : Ret n Q d (st0 ++ l) := by
  subst hn
  exact ret_old (Nat.le_refl _) (fun i hi => List.getElem?_append_left hi) hw hd h
theorem ret_eq {n : Nat} {Q : DQ} {d : D} {st0 : Store} (hn : n = st0.length) (hw : Wf st0) (hd : d.lt n) (h : Q d st0) : Ret n Q d st0 := by
  have := ret_app (l := []) hn hw hd h
  rw [List.append_nil] at this
  exact this
/-- the answer is one new cell -/
theorem ret_cell {n k : Nat} {Q : DQ} {o : O} {st0 l : Store} (hn : n = st0.length) (hw : Wf st0) (hk : st0.length ≤ k) (hl : (st0 ++ l)[k]? = some o) (ho : o.lt n) (h : Q (.ref n) (st0 ++ [o])) : Ret n Q (.ref k) (st0 ++ l) := by
  subst hn
  exact ret_new rfl hk (fun i hi => List.getElem?_append_left hi) hw hl ho h
/-! data -/
theorem lt_of_fl {n m : Nat} {d : D} (h : d.fl m = true) : d.lt n := fl_lt m d h
theorem lt_W {n : Nat} {w : Word} : (dW w).lt n := fl_lt 8 _ (fl_W 5 w)
theorem lt_L {n : Nat} {l : Letter} : (dL l).lt n := fl_lt 8 _ (fl_L 7 l)
theorem lt_run {n : Nat} {l : Run} : (dRun l).lt n := fl_lt 8 _ (fl_run 6 l)
theorem lt_runs {n : Nat} (w : List Run) : O.lt n (.lst (w.map dRun)) := O.lts_lst fun d hd => by
  obtain ⟨r, _, rfl⟩ := List.mem_map.mp hd
  exact lt_run
theorem lt_Ls {n : Nat} (w : List Letter) : O.lt n (.lst (w.map dL)) := O.lts_lst fun d hd => by
  obtain ⟨r, _, rfl⟩ := List.mem_map.mp hd
  exact lt_L
theorem lt_Ws {n : Nat} (w : List Word) : O.lt n (.lst (w.map dW)) := O.lts_lst fun d hd => by
  obtain ⟨r, _, rfl⟩ := List.mem_map.mp hd
  exact lt_W
theorem dItems_app {st l : Store} {x : D} {xs : List D} (h : dItems st x = some xs) : dItems (st ++ l) x = some xs := by
  cases x with
  | ref k =>
    unfold dItems at h ⊢
    dsimp only at h ⊢
    split at h
    · rename_i ys e
      rw [get_app e]
      exact h
    · cases h
  | _ => exact h
/-- where a walked thing stands -/
theorem ok_app {st l : Store} {x : D} {xs : List D} (h : dItems st x = some xs) : okOf x xs (st ++ l) := by
  cases x with
  | ref k =>
    unfold dItems at h
    dsimp only at h
    split at h
    · rename_i ys e
      cases h
      exact get_app e
    · cases h
  | _ => trivial
theorem ok_of {st : Store} {x : D} {xs : List D} (h : dItems st x = some xs) : okOf x xs st := by
  have := ok_app (l := []) h
  rw [List.append_nil] at this
  exact this
theorem atI_nn {α : Type} {xs : List α} {i : Int} (h0 : 0 ≤ i) (h1 : i < xs.length) : atI xs i = xs[i.toNat]? := by
  unfold atI ixN
  rw [if_pos h0, if_pos h1]
  rfl
theorem atI_zero {α : Type} {x : α} {xs : List α} : atI (x :: xs) 0 = some x := by
  rw [atI_nn (by omega) (by simp)]
  rfl
theorem atI_one {α : Type} {x y : α} {xs : List α} : atI (x :: y :: xs) 1 = some y := by
  rw [atI_nn (by omega) (by simp; omega)]
  rfl
theorem atI_two {α : Type} {x y z : α} {xs : List α} : atI (x :: y :: z :: xs) 2 = some z := by
  rw [atI_nn (by omega) (by simp; omega)]
  rfl
theorem atI_end {α : Type} (xs : List α) (v : α) : atI (xs ++ [v]) (-1) = some v := atI_last xs v
theorem getLastIx {α : Type} (xs : List α) (v : α) : (xs ++ [v])[(xs ++ [v]).length - 1]? = some v := by simp
theorem item_tup {st : Store} {xs : List D} {i : Int} : dItem st (.tup xs) i = atI xs i := rfl
theorem item_rol {st : Store} {xs : List D} {i : Int} : dItem st (.rol xs) i = atI xs i := rfl
theorem item_ref {st : Store} {k : Nat} {xs : List D} {i : Int} (h : st[k]? = some (.lst xs)) : dItem st (.ref k) i = atI xs i := by
  show (match st[k]? with
    | some (.lst xs) => atI xs i
    | _ => none) = _
  rw [h]
theorem setIx_ref {st : Store} {k : Nat} {xs : List D} {i : Int} {v : D} (h : st[k]? = some (.lst xs)) : dSetIx st (.ref k) i v = (ixN xs.length i).map fun j => st.set k (.lst (xs.set j v)) := by
  show (match st[k]? with
    | some (.lst xs) => (ixN xs.length i).map fun j => st.set k (.lst (xs.set j v))
    | _ => none) = _
  rw [h]
theorem ixN30 : ixN 3 0 = some 0 := rfl
theorem ixN31 : ixN 3 1 = some 1 := rfl
theorem ixN32 : ixN 3 2 = some 2 := rfl
theorem item_run0 {st : Store} {r : Run} : dItem st (dRun r) 0 = some (dL r.1) := atI_zero
theorem item_run1 {st : Store} {r : Run} : dItem st (dRun r) 1 = some (.int r.2) := atI_one
theorem item_W {st : Store} {w : Word} {i : Int} (h0 : 0 ≤ i) (h1 : i < w.length) : ∃ r, w[i.toNat]? = some r ∧ dItem st (dW w) i = some (dRun r) := by
  have hl : i.toNat < w.length := by omega
  refine ⟨w[i.toNat], List.getElem?_eq_getElem hl, ?_⟩
  unfold dW
  rw [item_tup, atI_nn h0 (by rw [List.length_map]; exact h1), List.getElem?_map, List.getElem?_eq_getElem hl]
  rfl
theorem CMulA.left {i j : Int} (h0 : -(2 ^ 64) < i) (h1 : i < 2 ^ 64) : CMulA i j := .inl (.inl ⟨h0, h1⟩)
theorem CMulA.right {i j : Int} (h0 : -(2 ^ 64) < j) (h1 : j < 2 ^ 64) : CMulA i j := .inl (.inr ⟨h0, h1⟩)
theorem small_line {n : Nat} (h : n ≤ 16777216) : n ≤ sizeLine := by rw [sizeLine_eq]; exact h
theorem small_line' {n : Nat} (h : n < 16777216) : n < sizeLine := by rw [sizeLine_eq]; exact h
/-! slices -/
theorem cut_to {xs : List D} {k : Nat} : cutD xs none (some (k : Int)) = xs.take k := by
  unfold cutD
  rw [HT.sIx_none, HT.sIx_nat, List.drop_zero, Nat.sub_zero]
  by_cases h : k ≤ xs.length
  · rw [Nat.min_eq_left h]
  · rw [Nat.min_eq_right (by omega), List.take_length, List.take_of_length_le (by omega)]
theorem cut_from {xs : List D} {k : Nat} : cutD xs (some (k : Int)) none = xs.drop k := by
  unfold cutD
  rw [HT.sIx_none, HT.sIx_nat]
  by_cases h : k ≤ xs.length
  · rw [Nat.min_eq_left h, List.take_of_length_le (by rw [List.length_drop]; omega)]
  · rw [Nat.min_eq_right (by omega), List.drop_eq_nil_of_le (Nat.le_refl _), List.drop_eq_nil_of_le (by omega)]
    simp
theorem cut_toI {xs : List D} {k : Int} (h : 0 ≤ k) : cutD xs none (some k) = xs.take k.toNat := by
  rw [← cut_to, Int.toNat_of_nonneg h]
theorem cut_fromI {xs : List D} {k : Int} (h : 0 ≤ k) : cutD xs (some k) none = xs.drop k.toNat := by
  rw [← cut_from, Int.toNat_of_nonneg h]
/-! pools -/
def IsPool (o : O) : Prop := ∃ c n s : Int, o = .lst [.int c, .int n, .int s] ∧ 0 ≤ c
theorem IsPool.lt {o : O} {n : Nat} (h : IsPool o) : o.lt n := by
  obtain ⟨c, k, s, rfl, _⟩ := h
  exact ⟨trivial, trivial, trivial, trivial⟩
/-! small rules for the readings -/
theorem item_end {st : Store} {xs : List D} {i : Int} : dItem (st ++ [.lst xs]) (.ref st.length) i = atI xs i := item_ref get_end
theorem dgTup_run {t : DTGs} {r : Run} {env : DEnv} {st : Store} {Q : DEnv → Store → Prop} : dgTup 2 t (dRun r) env st Q = t [dL r.1, .int r.2] env st Q := by
  unfold dgTup dRun
  simp
theorem tup_run {l : Letter} {e : Int} : D.tup [dL l, .int e] = dRun (l, e) := rfl
theorem ty_run {st : Store} {r : Run} : D.tyName st (dRun r) = some "tuple" := rfl
theorem ty_L {st : Store} {r : Letter} : D.tyName st (dL r) = some "tuple" := rfl
theorem ty_W {st : Store} {r : Word} : D.tyName st (dW r) = some "tuple" := rfl
theorem dEqv_L0 {st : Store} (l : Letter) : dEqv st (dL l) (.tup []) = some false := by
  rw [dEqv_fl (fl_L 7 l) rfl]
  rfl
theorem item_W' {st : Store} {w : Word} {i : Int} (h0 : 0 ≤ i) (h1 : i < w.length) : dItem st (dW w) i = some (dRun (w[i.toNat]'(by omega))) := by
  obtain ⟨r, h, e⟩ := item_W (st := st) h0 h1
  rw [e, List.getElem?_eq_getElem (by omega)] at *
  cases h
  rfl
theorem isEmpty_snoc {α : Type} (xs : List α) (v : α) : (xs ++ [v]).isEmpty = false := by simp
theorem len_W {w : Word} {st : Store} {Q : DQ} : dLen [dW w] st Q = Q (.int w.length) st := by
  unfold dLen dW
  simp
theorem add_W {u v : Word} {st : Store} {Q : DQ} : dAdd (dW u) (dW v) st Q = (u.length + v.length ≤ sizeLine ∧ Q (dW (u ++ v)) st) := by
  unfold dAdd dW
  simp
theorem sl_to {w : Word} {k : Int} {st : Store} {Q : DQ} (h : 0 ≤ k) : dSl (dW w) none (some k) st Q = Q (dW (w.take k.toNat)) st := by
  unfold dSl dW
  dsimp only
  rw [cut_toI h, List.map_take]
theorem sl_from {w : Word} {k : Int} {st : Store} {Q : DQ} (h : 0 ≤ k) : dSl (dW w) (some k) none st Q = Q (dW (w.drop k.toNat)) st := by
  unfold dSl dW
  dsimp only
  rw [cut_fromI h, List.map_drop]
theorem tup_W1 {r : Run} : D.tup [dRun r] = dW [r] := rfl
end DL

namespace L2
open PySem PySem.Spec PyProof.Rows
theorem tuple_mul1 (l : Addr) (items : Array Value) (n : Nat) (dd : Option Addr) (sl : Array (Option Value)) (x : Int) (u : Tok) (c0 : (decide (x < -(2 ^ 63)) || decide (x ≥ 2 ^ 63)) = false) (c1 : (items.isEmpty || x == 1) = true) :
    Meets (Builtin.«tuple.__mul__» ⟨[.ref l, .int x u], []⟩) (fun _ R s => s.heap.get? l = some { cls := .type "tuple", dict := dd, data := .seq items n, slots := sl } ∧
      R (.ok (.ret (Value.ref l))) s) :=
  .of_wp fun prog w A R s h => by
    obtain ⟨hp, g, d, tk, os⟩ := s
    obtain ⟨hl, h⟩ := h
    have f1 := AutoSeq1.idx_int
    wp_walk using wpAny_loadPart' hl
    repeat (first
      | (refine wpAny_ite_false (decide_eq_false (by rw [c0]; exact Bool.false_ne_true)) ?_; wp_walk using wpAny_loadPart' hl)
      | (refine wpAny_ite_true (decide_eq_true (by rw [c1])) ?_; wp_walk using wpAny_loadPart' hl))
    exact ⟨_, rfl, h⟩
/-- tuple * 1, or of nothing: the tuple itself -/
def rRepT1 (K : PySem.W.Frag) : R2 := fun x y H Q => ∃ l k xs, x = .ref l ∧ y = .int k ∧ SqT K H l xs ∧ k = 1 ∧ Q (.ref l) H
theorem op_repT1 {X : Cx} : OpR X (binaryOp .Mult) (rRepT1 X.K) := by
  intro pins s σ H x y v u Q I rx ry h
  obtain ⟨l, k, xs, rfl, rfl, hT, rfl, q⟩ := h
  cases rx
  obtain ⟨t, rfl⟩ := ry
  obtain ⟨its, r, ⟨⟨cls, dd, data, sl⟩, ho, hc, n, hd⟩, hs⟩ := I.tuple hT
  simp only at hc hd
  subst hc hd
  have c0 : (decide ((1 : Int) < -(2 ^ 63)) || decide ((1 : Int) ≥ 2 ^ 63)) = false := by decide
  have c1 : (its.toArray.isEmpty || (1 : Int) == 1) = true := by simp
  refine wpAny_binaryOp_repeat_ref (T := "tuple") (U := "int") (by decide) ⟨_, ho, rfl⟩ (fun s' => typeIs_int s' 1 t) noFill_tuple_mul F.fills_int_mul F.slot_int_rmul repeat_tuple F.slot_int_index.lookup
    (call_meets F.slot_int_rmul (typeIs_int s 1 t) F.entry_int_rmul (F.args_int_rmul_2 _ _) (int_rmul_tuple 1 t l its.toArray n dd sl)
      ⟨ho, rfl, ⟨_, ho, rfl⟩, call_meets F.slot_tuple_mul ⟨_, ho, rfl⟩ F.entry_tuple_mul (F.args_tuple_mul_2 _ _) (tuple_mul1 l its.toArray n dd sl 1 t c0 c1) ⟨ho, ?_⟩⟩)
  exact ⟨.ref l, H, I, rfl, q⟩
end L2
namespace DL
open PySem PySem.Spec L2
/-! min, max, sum; a star in a display; a tuple many times -/
def dMin : DRA := fun ds st Q => match ds with
  | [.int i, .int j] => Q (.int (if j < i then j else i)) st
  | _ => False
def dMax : DRA := fun ds st Q => match ds with
  | [.int i, .int j] => Q (.int (if j > i then j else i)) st
  | _ => False
theorem sc_min [Bs] {X : Cx} (hc : X.calm = true) : SCl X (.builtin "min") (fun xs H Q => ∃ i j, xs = [.int i, .int j] ∧ Q (.int (if j < i then j else i)) H) dMin := by
  refine ⟨call_min2 hc, fun ρ st H xs dxs Q W rs px q w => ?_⟩
  unfold dMin at q
  split at q
  · rename_i i j
    obtain ⟨v, u, rfl, r, r'⟩ := px.two
    obtain rfl := rep_int r
    obtain rfl := rep_int r'
    exact ⟨i, j, rfl, w _ H (.of rs (.int _) q)⟩
  · exact q.elim
theorem sc_max [Bs] {X : Cx} (hc : X.calm = true) : SCl X (.builtin "max") (fun xs H Q => ∃ i j, xs = [.int i, .int j] ∧ Q (.int (if j > i then j else i)) H) dMax := by
  refine ⟨call_max2 hc, fun ρ st H xs dxs Q W rs px q w => ?_⟩
  unfold dMax at q
  split at q
  · rename_i i j
    obtain ⟨v, u, rfl, r, r'⟩ := px.two
    obtain rfl := rep_int r
    obtain rfl := rep_int r'
    exact ⟨i, j, rfl, w _ H (.of rs (.int _) q)⟩
  · exact q.elim
/-- the sum of a list of ints -/
def dSum : DRA := fun ds st Q => ∃ (k : Nat) (ns : List Int), ds = [.ref k] ∧ st[k]? = some (.lst (ns.map D.int)) ∧ Q (.int ns.sum) st
theorem reps_ints {K : PySem.W.Frag} {ρ : List Addr} {H : Hp} : ∀ {ns : List Int} {vs : List V}, Reps K ρ H (ns.map D.int) vs → vs = ns.map V.int
  | [], vs, h => by unfold List.map Reps at h; rw [h]; rfl
  | n :: ns, vs, h => by
    rw [List.map_cons] at h
    unfold Reps at h
    obtain ⟨v, r, rfl, h1, h2⟩ := h
    rw [rep_int h1, reps_ints h2]
    rfl
theorem sc_sum [Bs] {X : Cx} {K : PySem.W.Frag} [hk : HasK X K] (hc : X.calm = true) : SCl X (.builtin "sum") (rSum K) dSum := by
  obtain rfl := hk.eq
  refine ⟨cr_sum hc, fun ρ st H xs dxs Q W rs px q w => ?_⟩
  obtain ⟨k, ns, rfl, hk, q⟩ := q
  obtain ⟨v, rfl, r⟩ := px.one
  obtain ⟨a, ha, rfl⟩ := rep_ref r
  obtain ⟨vs, hv, hr⟩ := rs.lst ha hk
  obtain rfl := reps_ints hr
  exact ⟨a, ns, rfl, SqL.of hv, w _ H (.of rs (.int _) q)⟩
def dStar (de : DTE) (dr : DTA) : DTA := fun env st Q => de env st fun x st1 => (match x with | .str _ => False | _ => True) ∧ match dItems st1 x with
  | some xs => dr env st1 fun ys st2 => Q (xs ++ ys) st2
  | none => False
section
variable {X : Cx} {e : Expr} {es : List Expr} {te : TE} {t : TA} {de : DTE} {da : DTA} {p pos : Pos}
theorem sa_star [Bs] {K : PySem.W.Frag} [hk : HasK X K] (he : SE X e te de) (hr : SA X es t da) (hs : starEach (.Starred e p :: es) X.env = (true, eval e X.env) :: starEach es X.env := by rfl) : SA X (.Starred e p :: es) (StX.tStar K te t) (dStar de da) := by
  obtain rfl := hk.eq
  refine ⟨StX.pa_star he.pe hr.pa hs, fun ρ env st σ H Q W rs re q w => ?_⟩
  refine he.sim ρ env st σ H _ _ rs re q fun x H1 ⟨ρ1, dx, st1, k1, r1, px, q1⟩ => ?_
  obtain ⟨hz, q1⟩ := q1
  split at q1
  · rename_i items e1
    have go : ∀ (a : Addr) (vs : List V), (SqT X.K H1 a vs ∨ SqL X.K H1 a vs) → Reps X.K ρ1 H1 items vs → x = .ref a → StX.tStar X.K te t σ H1 W ∨ True := fun _ _ _ _ _ => .inr trivial
    clear go
    have fin : ∀ (a : Addr) (vs : List V), x = .ref a → (SqT X.K H1 a vs ∨ SqL X.K H1 a vs) → Reps X.K ρ1 H1 items vs → ∃ p xs, x = V.ref p ∧ (SqT X.K H1 p xs ∨ SqL X.K H1 p xs) ∧ t σ H1 fun ys H2 => W (xs ++ ys) H2 := by
      intro a vs ea hs hrr
      refine ⟨a, vs, ea, hs, ?_⟩
      refine hr.sim ρ1 env st1 σ H1 _ _ r1 (re.keep k1) q1 fun ys H2 ⟨ρ2, ds, st2, k2, r2, pys, q2⟩ => ?_
      exact w _ H2 ⟨ρ2, _, st2, k1.trans k2, r2, (hrr.keep k2).app pys, q2⟩
    cases dx with
    | tup xs =>
      cases e1
      obtain ⟨a, vs, rfl, hs, hrr⟩ := rep_tup px
      exact fin a vs rfl (.inl hs) hrr
    | rol xs =>
      cases e1
      obtain ⟨a, vs, rfl, hs, hrr⟩ := rep_rol px
      exact fin a vs rfl (.inr (sqf_l hs)) hrr
    | ref n =>
      obtain ⟨a, ha, rfl⟩ := rep_ref px
      unfold dItems at e1
      dsimp only at e1
      split at e1
      · rename_i xs e3
        cases e1
        obtain ⟨vs, hv, hrr⟩ := r1.lst ha e3
        exact fin a vs rfl (.inr (SqL.of hv)) hrr
      · cases e1
    | str z => exact hz.elim
    | _ => cases e1
  · exact q1.elim
end
/-! tuple * int, at least once -/
def dMulT : DR2 := fun x y st Q => match x, y with
  | .tup a, .int n => a ≠ [] ∧ 1 ≤ n ∧ n ≤ 1000 ∧ a.length ≤ 1000 ∧ Q (.tup (List.replicate n.toNat a).flatten) st
  | x, y => dMul x y st Q
def rMulT (K : PySem.W.Frag) : R2 := fun x y H Q => rMulAll x y H Q ∨ (rRepT K x y H Q ∨ rRepT1 K x y H Q)
theorem sim_mulT [Bs] {K : PySem.W.Frag} : SimR2 K (rMulT K) dMulT := by
  intro ρ st H x y dx dy Q W rs px py q w
  by_cases h : ∃ a n, dx = .tup a ∧ dy = .int n
  · obtain ⟨a, n, rfl, rfl⟩ := h
    obtain ⟨h1, h2, h3, h4, q⟩ := q
    have px' := px
    obtain ⟨l, vs, rfl, hs, hr⟩ := rep_tup px
    obtain rfl := rep_int py
    by_cases hn : n = 1
    · subst hn
      have e : (List.replicate (1 : Int).toNat a).flatten = a := by simp
      rw [e] at q
      exact .inr (.inr ⟨l, 1, vs, rfl, rfl, hs, rfl, w _ _ (.of rs px' q)⟩)
    · refine .inr (.inl ⟨l, n, vs, rfl, rfl, hs, ?_, by omega, h3, by rw [← hr.len]; exact h4, fun p hp => w _ _ (.tup rs hp (hr.repl _) q)⟩)
      rintro rfl
      exact h1 (List.eq_nil_of_length_eq_zero hr.len)
  · have q' : dMul dx dy st Q := by
      cases dx with
      | tup a =>
        cases dy with
        | int n => exact absurd ⟨a, n, rfl, rfl⟩ h
        | _ => exact q
      | _ => exact q
    exact .inl (sim_mul ρ st H x y dx dy Q W rs px py q' w)
theorem so_mulT [Bs] {X : Cx} {K : PySem.W.Frag} [hk : HasK X K] : SOp X (binaryOp .Mult) (rMulT K) dMulT := by
  obtain rfl := hk.eq
  exact ⟨.or so_mul.op (.or op_repT op_repT1), sim_mulT⟩
/-! f(a, k = b) -/
def gK {α : Type} (n m : Nat) (us ws : List α) : List α := if us.length = n ∧ ws.length = m then us ++ ws else []
structure SK [Bs] (X : Cx) (kws : List Keyword) (t : TA) (da : DTA) : Prop where
  pk : PK X kws t
  sim : SimA X.K t da
def dCallK (n m : Nat) (dsp : DSp) (da dk : DTA) : DTE := fun env st Q => da env st fun ds st1 => dk env st1 fun zs st2 => dsp (gK n m ds zs) st2 Q
section
variable {X : Cx} {k : Nat} {f : Addr} {fd : FuncData} {ps ks : List Str} {dsp : DSp} {x : Str} {p pos kpos : Pos} {e : Expr} {es : List Expr} {t tk : TA} {te : TE} {de : DTE} {da dk : DTA} {kws : List Keyword} {nm : Option Str} {n m : Nat}
theorem sk_nil [Bs] : SK X [] tNil dNil := ⟨pk_nil, fun ρ env st σ H Q W rs re q w => w [] H ⟨ρ, [], st, Keep.refl, rs, Reps.nil, q⟩⟩
theorem sk_cons [Bs] (ha : SE X e te de) (hr : SK X kws t da) : SK X (⟨nm, e, kpos⟩ :: kws) (tCons te t) (dCons de da) := by
  refine ⟨pk_cons ha.pe hr.pk, fun ρ env st σ H Q W rs re q w => ?_⟩
  refine ha.sim ρ env st σ H _ _ rs re q fun x H1 ⟨ρ1, dx, st1, k1, r1, px, q1⟩ => ?_
  refine hr.sim ρ1 env st1 σ H1 _ _ r1 (re.keep k1) q1 fun xs H2 ⟨ρ2, ds, st2, k2, r2, pxs, q2⟩ => ?_
  exact w _ H2 ⟨ρ2, _, st2, k1.trans k2, r2, .cons (px.keep k2) pxs, q2⟩
theorem se_callK [Bs] {K : PySem.W.Frag} [hK : HasK X K] (F : FnOk X.prog X.w K X.mg X.base CX0 k f fd ps (spOf K dsp)) (hr : Room k X.A) (hg : Gl X x) (hm : X.mg x = some (.ref f)) (hk : PySem.W.keepIn K (.ref f) = true) (hb : KBinds K fd ps ks (gK n m) (gK n m))
    (ha : SA X (e :: es) t da) (hkw : SK X kws tk dk) (hall : (backToKw pos (keywordEach kws X.env)).all (·.1.isSome) = true := by rfl) (hks : (backToKw pos (keywordEach kws X.env)).filterMap (·.1) = ks := by rfl)
    (hdb : (x == ("__debug__" : Str)) = false := by decide) (he : starEach (e :: es) X.env = (false, eval e X.env) :: starEach es X.env := by rfl)
    (hpl : ((backTo pos (starEach (e :: es) X.env)).any (·.1) || (backToKw pos (keywordEach kws X.env)).any (·.1.isNone)) = false := by rfl) :
    SE X (.Call (.Name x p) (e :: es) kws pos) (tCallK (spOf K dsp) (gK n m) E0 t tk) (dCallK n m dsp da dk) := by
  obtain rfl := hK.eq
  refine ⟨pe_callK F hr hg hm hk hb pass0 ha.pa hkw.pk hall hks hdb he hpl, fun ρ env st σ H Q W rs re q w => ?_⟩
  refine ha.sim ρ env st σ H _ _ rs re q fun xs H1 ⟨ρ1, ds, st1, k1, r1, px, q1⟩ => ?_
  refine hkw.sim ρ1 env st1 σ H1 _ _ r1 (re.keep k1) q1 fun zs H2 ⟨ρ2, dz, st2, k2, r2, pz, q2⟩ => ?_
  refine ⟨ρ2, gK n m ds dz, st2, Q, r2.dn, ?_, q2, fun v H' pq => w v H' (((PostE.up r2 pq).keep k2).keep k1)⟩
  unfold gK
  rw [← px.len, ← pz.len]
  split
  · exact (px.keep k2).app pz
  · exact Reps.nil
end
theorem kbinds_mk {K : PySem.W.Frag} {fd : FuncData} {ps ks : List Str} {n m : Nat} (hn : ps.length = n + m) (hm : ks.length = m) (h0 : 0 < n + m) (h : ∀ us ws : List Value, us.length = n → ws.length = m → bindArgs fd ⟨us, ks.zip ws⟩ = pure (ps.zip (us ++ ws))) : KBinds K fd ps ks (gK n m) (gK n m) := by
  refine ⟨fun s us ws _ hl => ?_, fun {vs us zs ws} r1 r2 => ?_⟩
  · unfold gK at hl ⊢
    split at hl
    · rename_i hc
      rw [if_pos hc]
      exact .of_eq (h us ws hc.1 hc.2)
    · rw [List.length_nil] at hl
      omega
  · unfold gK
    rw [r1.length, r2.length]
    split
    · exact r1.append r2
    · exact .nil
end DL
namespace L2
open PySem PySem.Spec PyProof.Rows
theorem list_extend_tup (l : Addr) (items : Array Value) (n : Nat) (b : Addr) (items2 : Array Value) (n2 : Nat) (dd : Option Addr) (sl : Array (Option Value)) (hs0 : ¬(!items.isEmpty && Builtin.List.listTooLong (items.size + items2.size)) = true) (hs1 : items.size ≤ sizeLine) (hs2 : items.size + items2.size ≤ sizeLine + 1) :
    Meets (Builtin.«list.extend» ⟨[.ref l, .ref b], []⟩) (fun _ R s => s.heap.get? l = some { cls := .type "list", dict := none, data := .seq items n, slots := #[] } ∧ s.heap.get? b = some { cls := .type "tuple", dict := dd, data := .seq items2 n2, slots := sl } ∧ R (.ok (.ret Value.none)) { s with heap := s.heap.update l (Obj.mapSeq fun x => x ++ items2), toks := s.toks }) :=
  .of_wp fun prog w A R s h => by
    obtain ⟨hp, g, d, tk, os⟩ := s; obtain ⟨hl, hb, h⟩ := h; have f1 := AutoSeq1.idx_int; have f2 := AutoSeq1.sub_tuple_tuple; have f3 := AutoSeq1.sub_list_list; have f4 := AutoSeq1.sub_tuple_list; have f5 := AutoSeq1.sub_list_tuple;
    have hz' : (items ++ items2).size ≤ sizeLine + 1 := by rw [Array.size_append]; exact hs2
    wp_walk using (wpAny_updateSeq hl rfl (hz := hs1) (_hz' := hz')), wpAny_loadPart' hl, wpAny_loadPart' hb; exact ⟨_, rfl, h⟩
def rExtT (K : PySem.W.Frag) : V → List V → Hp → VK → Prop := fun x vs H Q => ∃ l b xs zs, x = .ref l ∧ vs = [.ref b] ∧ H l = some (.lst xs) ∧ SqT K H b zs ∧ xs.length + zs.length ≤ sizeLine ∧ Q .non (upd H l (.lst (xs ++ zs)))
theorem mt_extT {X : Cx} : MtM X "list.extend" (rExtT X.K) := by
  intro pins s σ H x vs v us Q I rx rv h
  obtain ⟨l, b, xs, zs, rfl, rfl, hH, hB, hz, q⟩ := h
  cases rx
  obtain ⟨u, rfl, ru⟩ := rv.one
  cases ru
  obtain ⟨z, its, n, r, hl, e⟩ := I.lstM hH
  obtain ⟨its2, r2, ⟨⟨cls, dd, data, sl⟩, ho, hc, n2, hd⟩, hs⟩ := I.tuple hB
  simp only at hc hd
  subst hc hd
  have hl2 : its2.length = zs.length := r2.length.symm
  have hl1 : its.length = xs.length := r.length.symm
  have hsz : its.toArray.size + its2.toArray.size ≤ sizeLine := by rw [List.size_toArray, List.size_toArray]; omega
  have hlong : ¬ (!its.toArray.isEmpty && Builtin.List.listTooLong (its.toArray.size + its2.toArray.size)) = true := by
    rw [notLongL hsz, Bool.and_false]
    exact Bool.false_ne_true
  refine call_meets F.slot_list_extend ⟨_, e, rfl⟩ F.entry_list_extend (F.args_list_extend_2 _ _)
    (list_extend_tup l its.toArray n b its2.toArray n2 dd sl hlong (by rw [List.size_toArray]; omega) (by omega)) ⟨e, ho, ?_⟩
  refine ⟨.non, _, I.lset (its' := its ++ its2) hH e (by simp) (r.append r2) ?_, rfl, q⟩
  rw [List.length_append]
  omega
def rExtA (K : PySem.W.Frag) : V → List V → Hp → VK → Prop := fun x vs H Q => rExtend x vs H Q ∨ rExtT K x vs H Q
theorem mt_extA {X : Cx} : MtM X "list.extend" (rExtA X.K) := by
  intro pins s σ H x vs v us Q I rx rv h
  rcases h with h | h
  · exact mt_extend _ _ _ _ _ _ _ _ _ I rx rv h
  · exact mt_extT _ _ _ _ _ _ _ _ _ I rx rv h
end L2
namespace DL
open PySem PySem.Spec L2
def dExtT : DRM := fun x ds st Q => match x, ds with
  | .ref k, [.tup ys] => match st[k]? with
    | some (.lst xs) => xs.length + ys.length ≤ sizeLine ∧ Q .non (st.set k (.lst (xs ++ ys)))
    | _ => False
  | _, _ => False
theorem sim_extT [Bs] {K : PySem.W.Frag} : SimRM K (rExtA K) dExtT := by
  intro ρ st H x dx xs dxs Q W rs px pxs q w
  unfold dExtT at q
  split at q
  · obtain ⟨a, ha, rfl⟩ := rep_ref px
    obtain ⟨v, rfl, pv⟩ := pxs.one
    obtain ⟨b, vs2, rfl, hs, hr2⟩ := rep_tup pv
    split at q
    · rename_i ys e1
      obtain ⟨vs, hv, hr⟩ := rs.lst ha e1
      exact .inr ⟨a, b, vs, vs2, rfl, rfl, hv, hs, by rw [← hr.len, ← hr2.len]; exact q.1, w _ _ (.put rs ha hv (hr.app hr2) .non q.2)⟩
    · exact q.elim
  · exact q.elim
section
variable {X : Cx} {o e : Expr} {es : List Expr} {to : TE} {t : TA} {dO : DTE} {da : DTA} {pos apos : Pos}
theorem se_extendT [Bs] {K : PySem.W.Frag} [hk : HasK X K] (ho : SE X o to dO) (ha : SA X (e :: es) t da) (hbase : attributeBase o "extend" X.env (eval o X.env) = eval o X.env := by rfl)
    (hfew : ((backTo pos (starEach (e :: es) X.env)).all (fun x => !x.1) && (backToKw pos (keywordEach [] X.env)).all (fun x => x.1.isSome)
      && decide ((e :: es).length + ([] : List Keyword).length + (if ([] : List Keyword).isEmpty then 0 else 1) < 30)) = true := by rfl)
    (hline : (apos.endLine == pos.line) = true := by rfl) (hs : starEach (e :: es) X.env = (false, eval e X.env) :: starEach es X.env := by rfl) (hplain : (backTo pos (starEach es X.env)).any (·.1) = false := by rfl) :
    SE X (.Call (.Attribute o "extend" apos) (e :: es) [] pos) (tBM K "list" (rExtA K) to t) (dBM dExtT dO da) := by
  obtain rfl := hk.eq
  exact ⟨pe_bm PySem.F.plainAttrs_list PySem.F.slot_list_extend PySem.F.type_list_extend mt_extA ho.pe ha.pa hbase hfew hline hs hplain, sim_bm sim_extT ho.sim ha.sim⟩
end
end DL

/-! for loops in the body of a generator -/
namespace L2
open PySem PySem.Spec PyProof.Rows GenW
section
variable {M : Model} {A : Around} {R : GenEnd} {Y : Protocol} {n : Nat} {s₀ : Shared} {c : Code} {fs : List Frame} {s : Shared} {env : Env}
  {K : Flow → Sem PySem.Fin} {H : Value → Sem PySem.Fin} {gd : Bool → Bool} {lv : List Value → List Value}
theorem seg_For {target iter : Expr} {body : List Stmt} {pos : Pos}
    (h : wpAny M (A.over c fs) (eval iter env) (fun x s₁ => wpAny M (A.over c fs) (pyIter x) (fun it s₂ => ∀ p,
      Seg M A R Y n s₀ (.forLoop target it body [] env) (M.den (.forLoop target it body [] env))
      (.ret (fun r => ((match r with | .ok f => (.pure f : Sem Flow) | .error e => .raise e).onRaise (cameBack env)).wrap K H gd lv) none (gd false) (lv []) c p [] :: fs) s₂)
        (fun e s' => Seg M A R Y n s₀ c (H e) fs s') s₁) (fun e s' => Seg M A R Y n s₀ c (H e) fs s') s)
    (hs : ∀ x, foldedSetIterable iter env x = pure x := by intro _; rfl) :
    Seg M A R Y n s₀ c ((exec (.For target iter body [] pos) env).wrap K H gd lv) fs s := by
  rw [exec_For]
  show Seg M A R Y n s₀ c (.at pos fun _ => Sem.wrap K H gd lv (eval iter env >>= fun v => foldedSetIterable iter env v >>= fun x => standAt iter.pos >>= fun _ => holding [x] (pyIter x) >>= fun it => runOwn (.forLoop target it body [] env) env)) fs s
  refine seg_at ?_
  rw [Sem.bind_eq_wrap', Sem.wrap_wrap]
  refine seg_wrap (wpAny_mono h (fun x s1 h1 => ?_) fun _ _ z => z)
  rw [hs x]
  show Seg M A R Y n s₀ c (.at iter.pos fun _ => Sem.wrap K H gd lv (holding [x] (pyIter x) >>= fun it => runOwn (.forLoop target it body [] env) env)) fs s1
  refine seg_at ?_
  rw [Sem.bind_eq_wrap', Sem.wrap_wrap]
  refine seg_wrap (wpAny_holding (wpAny_mono h1 (fun it s2 h2 => ?_) fun _ _ z => z))
  exact seg_call h2
end
section
variable {prog : Program} {w : World} {A : Around} {R : GenEnd} {Y : Protocol} {n : Nat} {s₀ : Shared} {fs : List Frame} {s : Shared} {env : Env}
abbrev NF (x : Value) (env : Env) : Sem PySem.Fin := (do noteFrame x env; theTreesLotGoes x : Sem Unit).wrap (fun _ => .raise x) .raise id id
theorem seg_forLoop {target : Expr} {it : Value} {body : List Stmt}
    (h : wpAny (model prog w) (A.over (.forLoop target it body [] env) fs) (pyNext it) (fun r s₁ => match r with
      | none => Seg (model prog w) A R Y n s₀ (.forLoop target it body [] env) (.pure (.again (.block [] env))) fs s₁
      | some v => wpAny (model prog w) (A.over (.forLoop target it body [] env) fs) (letOwnedTupleGo target it v) (fun _ s₁' =>
          wpAny (model prog w) (A.over (.forLoop target it body [] env) fs) (assign target env v) (fun _ s₂ =>
            Seg (model prog w) A R Y n s₀ (.forLoop target it body [] env) ((execs body env).wrap (fun f => match f with
              | .next | .cont => .pure (.again (.forLoop target it body [] env))
              | .brk => .pure (.done .next)
              | .ret v => .pure (.done (.ret v))) (fun e => NF e env) id id) fs s₂)
            (fun e s' => Seg (model prog w) A R Y n s₀ (.forLoop target it body [] env) (NF e env) fs s') s₁')
          (fun e s' => Seg (model prog w) A R Y n s₀ (.forLoop target it body [] env) (NF e env) fs s') s₁)
      (fun e s' => Seg (model prog w) A R Y n s₀ (.forLoop target it body [] env) (NF e env) fs s') s) :
    Seg (model prog w) A R Y n s₀ (.forLoop target it body [] env) ((model prog w).den (.forLoop target it body [] env)) fs s := by
  have nf : ∀ e, ((do noteFrame e env; theTreesLotGoes e : Sem Unit).bind fun _ => (.raise e : Sem PySem.Fin)) = NF e env := fun e => Sem.bind_eq_wrap _ _
  show Seg _ A R Y n s₀ _ ((forTurn target it body [] env).onRaise (fun x => do noteFrame x env; theTreesLotGoes x)) fs s
  unfold forTurn
  rw [Sem.onRaise_eq_wrap]
  simp only [nf]
  refine seg_at ?_
  show Seg _ A R Y n s₀ _ (Sem.wrap _ _ _ _ (((pyNext it).onRaise _) >>= _)) fs s
  rw [Sem.bind_eq_wrap', Sem.wrap_wrap]
  refine seg_wrap (wpAny_onRaise (wpAny_mono h (fun r s1 h1 => ?_) fun e s' h' => wpAny_standAt h'))
  cases r with
  | none => exact h1
  | some v =>
    show Seg _ A R Y n s₀ _ (Sem.wrap _ _ _ _ ((letOwnedTupleGo target it v) >>= _)) fs s1
    rw [Sem.bind_eq_wrap', Sem.wrap_wrap]
    refine seg_wrap (wpAny_mono h1 (fun _ s2 h2 => ?_) fun e s' h' => h')
    show Seg _ A R Y n s₀ _ (Sem.wrap _ _ _ _ ((assign target env v) >>= _)) fs s2
    rw [Sem.bind_eq_wrap', Sem.wrap_wrap]
    refine seg_wrap (wpAny_mono h2 (fun _ s3 h3 => ?_) fun e s' h' => h')
    show Seg _ A R Y n s₀ _ (Sem.wrap _ _ _ _ ((execs body env) >>= _)) fs s3
    rw [Sem.bind_eq_wrap', Sem.wrap_wrap]
    refine Eq.mpr (congrArg (fun t => Seg (model prog w) A R Y n s₀ (.forLoop target it body [] env) t fs s3) (Sem.wrap_congr (execs body env) id id (fun f => ?_) (fun e => ?_))) h3
    · cases f <;> rfl
    · rfl
end
/-- a for loop that hands out -/
def tGFor (wi : TI) (g : TG) (tb : TGn) : TGn := fun D ys σ H => wi σ H fun J H1 => ∃ W : Nat → Nat → List V → St → Hp → Prop, (∃ m, W 0 m ys σ H1) ∧ ∀ i m ys σ H, W i m ys σ H →
  (J.stop i H ∧ D.nx ys σ H) ∨ (J.go i H ∧ ∃ N : List V → St → Hp → Prop, (∀ ys' σ' H', N ys' σ' H' → ∃ m', m' < m ∧ W (i + 1) m' ys' σ' H') ∧ ∀ x H', J.yld i H x H' → g x σ H' fun σ2 H2 => tb { D with nx := N, ct := N, bk := D.nx } ys σ2 H2)
section
variable {X : Cx}
theorem gs_for {tg iter : Expr} {body : List Stmt} {wi : TI} {g : TG} {tb : TGn} {pos : Pos} (hp : PassesOwn (model X.prog X.w) X.A X.env X.xe) (hc : X.calm = true) (hi : PI X tg iter wi) (hg : PG X tg g) (hb : GSs X body tb)
    (hs : ∀ x, foldedSetIterable iter X.env x = pure x := by intro _; rfl) : GS X (.For tg iter body [] pos) (tGFor wi g tb) := by
  refine ⟨fun A S ip R n ys s₀ c fs K J gd lv s σ H D gc hn k hI ht => ?_⟩
  obtain ⟨acc, cc, r, I⟩ := hI
  refine seg_For ?_ hs
  rw [gc.over]
  refine wpAny_mono (hi.run _ s σ H _ I ht) (fun v s1 h1 => wpAny_mono h1 (fun itv s2 h2 => ?_) fun e s' hx => k.exc n s₀ e s' hx) fun e s' hx => k.exc n s₀ e s' hx
  intro p
  obtain ⟨it, fp, tn, Jt, H2, e, I2, T, st2, f2, W, ⟨m0, w0⟩, turn⟩ := h2
  subst e
  have gl := fun (kk : Result → Sem PySem.Fin) => gc_loop (k := kk) (c' := .forLoop tg (.ref it) body [] X.env) (l := lv []) (kp := []) (p := p) gc rfl rfl
  have stat : ∀ {o : Obj} {H' : Hp}, (∀ b ∈ fp, H' b = none) → ∀ b ∈ fp, FpOk X ((S, o) :: ip) H' b := fun {o H'} hn b hb => by
    obtain ⟨_, f1, f3, f4, f5, f6⟩ := f2 b hb
    refine ⟨hn b hb, f1, f3, f4, f5, fun q hq => ?_⟩
    rcases List.mem_append.mp hq with hq | hq
    · exact f6 q (List.mem_append_left _ hq)
    · rcases List.mem_cons.mp hq with hq | hq
      · have := f6 (S, lstObj acc cc) (List.mem_append_right _ List.mem_cons_self)
        rw [hq]
        exact this
      · exact f6 q (List.mem_append_right _ (List.mem_cons_of_mem _ hq))
  have loop : ∀ (m n : Nat) (ys : List V) (s₀ s : Shared) (σ : St) (H : Hp) (i : Nat) (acc : Array Value) (cc : Nat), n + ys.length = sizeLine → Vals ys acc.toList → Inv X ((S, lstObj acc cc) :: ip) σ H s → tn i s.heap → (∀ b ∈ fp, H b = none) → W i m ys σ H →
      Seg (model X.prog X.w) A R (GY X S) n s₀ (.forLoop tg (.ref it) body [] X.env) ((model X.prog X.w).den (.forLoop tg (.ref it) body [] X.env))
        (.ret (fun r => ((match r with | .ok f => (.pure f : Sem Flow) | .error e => .raise e).onRaise (cameBack X.env)).wrap K J gd lv) none (gd false) (lv []) c p [] :: fs) s := by
    intro m
    induction m using Nat.strongRecOn with
    | ind m ih =>
      intro n ys s₀ s σ H i acc cc hn r I st fr w
      have ee : ∀ (n : Nat) (s₀ : Shared) (x : Value) (s' : Shared), X.xe x s' → Seg (model X.prog X.w) A R (GY X S) n s₀ (.forLoop tg (.ref it) body [] X.env) (NF x X.env)
          (.ret (fun r => ((match r with | .ok f => (.pure f : Sem Flow) | .error e => .raise e).onRaise (cameBack X.env)).wrap K J gd lv) none (gd false) (lv []) c p [] :: fs) s' := fun n s₀ x s' hx => by
        refine seg_wrap ?_
        rw [(gl _).over]
        refine wpAny_bind (wpAny_mono (hp x s' hx) (fun _ s'' hcb => wpAny_theTreesLotGoes ?_) fun y s'' hcb => ?_)
        · exact seg_leaf (.error x) (seg_cameBack gc k hcb)
        · exact seg_leaf (.error y) (seg_cameBack gc k hcb)
      refine seg_forLoop ?_
      rw [(gl _).over]
      rcases turn i m ys σ H w with ⟨stop, qn⟩ | ⟨go, N, hN, step⟩
      · refine wpAny_mono (T.done X rfl rfl rfl hc i _ s σ H X.xe I (stat fr) st stop) (fun rr s4 h4 => ?_) fun x s' hx => ee n s₀ x s' hx
        obtain ⟨hr, I4⟩ := h4
        subst hr
        refine seg_again rfl ?_
        exact seg_leaf (.ok .next) (k.ok n ys s₀ s4 .next hn ⟨σ, H, ⟨acc, cc, r, I4⟩, qn⟩)
      · refine wpAny_mono (T.item X rfl rfl rfl hc i _ s σ H X.xe I (stat fr) st go) (fun rr s4 h4 => ?_) fun x s' hx => ee n s₀ x s' hx
        obtain ⟨u, hr, h4⟩ := h4
        subst hr
        refine wpAny_mono h4 (fun _ s5 h5 => ?_) fun x s' hx => ee n s₀ x s' hx
        obtain ⟨x, H5, I5, r5, y5, st5, fr5⟩ := h5
        have I5' := I5.pinned (stat fr5) (T.obj _ _ st5)
        refine wpAny_mono (hg.run _ s5 σ H5 x u _ I5' r5 (step x H5 y5)) (fun _ s6 h6 => ?_) fun x s' hx => ee n s₀ x s' hx
        obtain ⟨σ6, H6, I6, q6⟩ := h6
        have gcB : GC X S (ip ++ pinsAt fp s5.heap) A (.forLoop tg (.ref it) body [] X.env) (.ret (fun r => ((match r with | .ok f => (.pure f : Sem Flow) | .error e => .raise e).onRaise (cameBack X.env)).wrap K J gd lv) none (gd false) (lv []) c p [] :: fs) id :=
          ⟨gc.pn, fun q hq => by
              rcases List.mem_append.mp hq with hq | hq
              · exact gc.ip q hq
              · obtain ⟨hb, _⟩ := of_pinsAt hq
                have := (stat (o := lstObj acc cc) fr5 q.1 hb).2.2.2.2.2 (S, lstObj acc cc) (List.mem_append_right _ List.mem_cons_self)
                exact fun z => this z.symm, gc.apart, (gl _).over, (gl _).split, (gl _).guard, rfl⟩
        refine hb.run A S (ip ++ pinsAt fp s5.heap) R n ys s₀ _ _ _ _ id id s6 σ6 H6 { D with nx := N, ct := N, bk := D.nx } gcB hn ⟨fun n' ys' s₀' s7 f hn' hs => ?_, fun n' s₀' x s7 hx => ee n' s₀' x s7 hx⟩ ⟨acc, cc, r, I6⟩ q6
        have again : ∀ {σ7 : St} {H7 : Hp}, GI X S (ip ++ pinsAt fp s5.heap) ys' σ7 H7 s7 → N ys' σ7 H7 → Seg (model X.prog X.w) A R (GY X S) n' s₀' (.forLoop tg (.ref it) body [] X.env) (.pure (.again (.forLoop tg (.ref it) body [] X.env)))
            (.ret (fun r => ((match r with | .ok f => (.pure f : Sem Flow) | .error e => .raise e).onRaise (cameBack X.env)).wrap K J gd lv) none (gd false) (lv []) c p [] :: fs) s7 := fun {σ7 H7} h7 n7 => by
          obtain ⟨acc', cc', r', I7⟩ := h7
          obtain ⟨m', hm, w7⟩ := hN ys' σ7 H7 n7
          have pa : ∀ b ∈ fp, ∀ o, s5.heap.get? b = some o → s7.heap.get? b = some o ∧ H7 b = none := fun b hb o e => by
            have := I7.pin (b, o) (List.mem_append_right _ (List.mem_cons_of_mem _ (List.mem_append_right _ (mem_pinsAt hb e))))
            exact ⟨this.1, this.2.1⟩
          have I7' : Inv X ((S, lstObj acc' cc') :: ip) σ7 H7 s7 := I7.pins_of fun q hq => by
            rcases List.mem_cons.mp hq with hq | hq
            · rw [hq]; exact I7.pin _ (List.mem_append_right _ List.mem_cons_self)
            · exact I7.pin q (List.mem_append_right _ (List.mem_cons_of_mem _ (List.mem_append_left _ hq)))
          refine seg_again rfl (ih m' hm n' ys' s₀' s7 σ7 H7 (i + 1) acc' cc' hn' r' I7' (T.keep _ _ _ st5 fun b hb o e => (pa b hb o e).1) (fun b hb => ?_) w7)
          obtain ⟨o, e, _⟩ := T.obj _ _ st5 b hb
          exact (pa b hb o e).2
        have less : ∀ {σ7 : St} {H7 : Hp}, GI X S (ip ++ pinsAt fp s5.heap) ys' σ7 H7 s7 → GI X S ip ys' σ7 H7 s7 := fun {σ7 H7} h7 => by
          obtain ⟨acc', cc', r', I7⟩ := h7
          refine ⟨acc', cc', r', I7.pins_of fun q hq => ?_⟩
          rcases List.mem_cons.mp hq with hq | hq
          · rw [hq]; exact I7.pin _ (List.mem_append_right _ List.mem_cons_self)
          · exact I7.pin q (List.mem_append_right _ (List.mem_cons_of_mem _ (List.mem_append_left _ hq)))
        cases f with
        | next =>
          obtain ⟨σ7, H7, I7, n7⟩ := hs
          exact again I7 n7
        | cont =>
          obtain ⟨σ7, H7, I7, n7⟩ := hs
          exact again I7 n7
        | brk =>
          obtain ⟨σ7, H7, I7, q7⟩ := hs
          exact seg_leaf (.ok .next) (k.ok n' ys' s₀' s7 .next hn' ⟨σ7, H7, less I7, q7⟩)
        | ret v =>
          obtain ⟨x7, σ7, H7, I7, r7, q7⟩ := hs
          exact seg_leaf (.ok (.ret v)) (k.ok n' ys' s₀' s7 (.ret v) hn' ⟨x7, σ7, H7, less I7, r7, q7⟩)
  exact loop m0 n ys s₀ s2 σ H2 0 acc cc hn r I2 st2 (fun b hb => (f2 b hb).1) w0
end
end L2

/-! generators over data -/
namespace DL
open PySem PySem.Spec L2
instance {P : Program} {w : World} {K : PySem.W.Frag} {mg : Str → Option Value} {base : Heap} {N : List Str} {qual : Str} {scope : Scope} {f : Addr} {cd : Value} {A : Around} {outer : List Env} {s : Shared} {H : Hp} {E : XK} {pn : List (Addr × Obj)} : HasK (gcxOf P w K mg base N qual scope f cd A outer s H E pn) K := ⟨rfl⟩
structure DGEnds where
  nx : List D → DEnv → Store → Prop
  rt : List D → DQ
  bk : List D → DEnv → Store → Prop := fun _ _ _ => False
  ct : List D → DEnv → Store → Prop := fun _ _ _ => False
abbrev DTGn := DGEnds → List D → DEnv → Store → Prop
structure GEndsOk [Bs] (K : PySem.W.Frag) (ρ : List Addr) (H : Hp) (d : DGEnds) (W : GEnds) : Prop where
  nx : ∀ ys σ' H' ρ' ds env' st', Keep ρ ρ' H H' → RelS K ρ' H' st' → RelE K ρ' H' env' σ' → Reps K ρ' H' ds ys → d.nx ds env' st' → W.nx ys σ' H'
  rt : ∀ ys v H' ρ' ds x st', Keep ρ ρ' H H' → RelS K ρ' H' st' → Reps K ρ' H' ds ys → Rep K ρ' H' x v → d.rt ds x st' → W.rt ys v H'
  bk : ∀ ys σ' H' ρ' ds env' st', Keep ρ ρ' H H' → RelS K ρ' H' st' → RelE K ρ' H' env' σ' → Reps K ρ' H' ds ys → d.bk ds env' st' → W.bk ys σ' H'
  ct : ∀ ys σ' H' ρ' ds env' st', Keep ρ ρ' H H' → RelS K ρ' H' st' → RelE K ρ' H' env' σ' → Reps K ρ' H' ds ys → d.ct ds env' st' → W.ct ys σ' H'
  bn : Bs.n ≤ ρ.length
def SimGn [Bs] (K : PySem.W.Frag) (t : TGn) (tg : DTGn) : Prop := ∀ ρ env st σ H ds ys (d : DGEnds) (W : GEnds), RelS K ρ H st → RelE K ρ H env σ → Reps K ρ H ds ys → tg d ds env st → GEndsOk K ρ H d W → t W ys σ H
structure SGn [Bs] (X : Cx) (s : Stmt) (t : TGn) (tg : DTGn) : Prop where
  gs : GS X s t
  sim : SimGn X.K t tg
structure SGns [Bs] (X : Cx) (s : List Stmt) (t : TGn) (tg : DTGn) : Prop where
  gss : GSs X s t
  sim : SimGn X.K t tg
theorem GEndsOk.adv [Bs] {K : PySem.W.Frag} {ρ ρ' : List Addr} {H H' : Hp} {d : DGEnds} {W : GEnds} (e : GEndsOk K ρ H d W) (k : Keep ρ ρ' H H') : GEndsOk K ρ' H' d W :=
  ⟨fun ys σ' H2 ρ2 ds env' st' k2 => e.nx ys σ' H2 ρ2 ds env' st' (k.trans k2), fun ys v H2 ρ2 ds x st' k2 => e.rt ys v H2 ρ2 ds x st' (k.trans k2),
    fun ys σ' H2 ρ2 ds env' st' k2 => e.bk ys σ' H2 ρ2 ds env' st' (k.trans k2), fun ys σ' H2 ρ2 ds env' st' k2 => e.ct ys σ' H2 ρ2 ds env' st' (k.trans k2), Nat.le_trans e.bn k.len⟩
def dGNext : DTGn := fun d ds env st => d.nx ds env st
def dGSeq (t u : DTGn) : DTGn := fun d ds env st => t { d with nx := u d } ds env st
def dGYield (te : DTE) : DTGn := fun d ds env st => ds.length < sizeLine ∧ te env st fun x st1 => d.nx (ds ++ [x]) env st1
def dGPlain (ts : DTS) : DTGn := fun d ds env st => ts st.length { nx := d.nx ds, rt := d.rt ds, bk := d.bk ds, ct := d.ct ds } env st
section
variable {X : Cx} {s : Stmt} {rest : List Stmt} {t u : TGn} {tg ug : DTGn} {e : Expr} {te : TE} {de : DTE} {pos yp : Pos} {ts : TS} {ds : DTS}
theorem sgs_nil' [Bs] : SGns X [] tG0 dGNext := ⟨gss_nil, fun ρ env st σ H ds ys d W rs re ry q w => w.nx ys σ H ρ ds env st Keep.refl rs re ry q⟩
theorem sim_gseq [Bs] {K : PySem.W.Frag} (h1 : SimGn K t tg) (h2 : SimGn K u ug) : SimGn K (tGThen t u) (dGSeq tg ug) := by
  intro ρ env st σ H ds ys d W rs re ry q w
  refine h1 ρ env st σ H ds ys _ _ rs re ry q ⟨fun ys' σ' H' ρ' ds' env' st' k rs' re' ry' q' => ?_, w.rt, w.bk, w.ct, w.bn⟩
  exact h2 ρ' env' st' σ' H' ds' ys' d W rs' re' ry' q' (w.adv k)
theorem sgs_cons' [Bs] (h1 : SGn X s t tg) (h2 : SGns X rest u ug) : SGns X (s :: rest) (tGThen t u) (dGSeq tg ug) := ⟨gss_cons h1.gs h2.gss, sim_gseq h1.sim h2.sim⟩
theorem sgs_one' [Bs] (h1 : SGn X s t tg) : SGns X [s] (tGThen t tG0) (dGSeq tg dGNext) := sgs_cons' h1 sgs_nil'
theorem sg_yield [Bs] (he : SE X e te de) (hco : X.env.scope.isCoroutine = false := by rfl) (hi : interactive X.env = false := by rfl) : SGn X (.Expr (.Yield (some e) yp) pos) (tGYield te) (dGYield de) := by
  refine ⟨gs_yield he.pe hco hi, fun ρ env st σ H ds ys d W rs re ry q w => ⟨by rw [← ry.len]; exact q.1, ?_⟩⟩
  refine he.sim ρ env st σ H _ _ rs re q.2 fun x H1 ⟨ρ1, dx, st1, k1, r1, px, q1⟩ => ?_
  exact w.nx _ σ H1 ρ1 _ env st1 k1 r1 (re.keep k1) ((ry.keep k1).app (.cons px .nil)) q1
theorem sg_plain [Bs] (h : SS X s ts ds) : SGn X s (tPlain ts) (dGPlain ds) := by
  refine ⟨gs_ps h.ps, fun ρ env st σ H ds' ys d W rs re ry q w => ?_⟩
  have et : ρ.take st.length = ρ := by rw [← rs.len, List.take_length]
  refine h.sim st.length ρ env st σ H _ _ (by rw [rs.len]; exact Nat.le_refl _) rs re q ?_
  rw [et]
  exact ⟨fun σ' H' ρ' env' st' k rs' re' q' => w.nx ys σ' H' ρ' ds' env' st' k rs' re' (ry.keep k) q', fun v H' ρ' x st' k rs' rx q' => w.rt ys v H' ρ' ds' x st' k rs' (ry.keep k) rx q',
    fun σ' H' ρ' env' st' k rs' re' q' => w.bk ys σ' H' ρ' ds' env' st' k rs' re' (ry.keep k) q', fun σ' H' ρ' env' st' k rs' re' q' => w.ct ys σ' H' ρ' ds' env' st' k rs' re' (ry.keep k) q', w.bn⟩
end
/-! for -/
def dGLoop (dg : DTG) (tb : DTGn) (d : DGEnds) (ok : Store → Prop) : List D → List D → DEnv → Store → Prop
  | [] => fun ds env st => ok st ∧ d.nx ds env st
  | x :: r => fun ds env st => ok st ∧ dg x env st fun env' st' => tb { d with nx := dGLoop dg tb d ok r, ct := dGLoop dg tb d ok r, bk := d.nx } ds env' st'
def dGFor (di : DTI) (dg : DTG) (tb : DTGn) : DTGn := fun d ds env st => di env st fun items ok st1 => dGLoop dg tb d ok items ds env st1
theorem dGLoop_ok {dg : DTG} {tb : DTGn} {d : DGEnds} {ok : Store → Prop} {items ds : List D} {env : DEnv} {st : Store} (h : dGLoop dg tb d ok items ds env st) : ok st := by
  cases items <;> exact h.1
theorem sim_gfor [Bs] {K : PySem.W.Frag} {wi : TI} {g : TG} {t : TGn} {di : DTI} {dg : DTG} {tb : DTGn} (hi : SimI K wi di) (hg : SimG K g dg) (hb : SimGn K t tb) : SimGn K (tGFor wi g t) (dGFor di dg tb) := by
  intro ρ env st σ H ds ys d W rs re ry q w
  refine hi ρ env st σ H _ _ rs re q fun J H1 ρ1 items ok st1 k1 r1 wk q1 => ?_
  refine ⟨fun i m ys' σ' H' => m = items.length - i ∧ i ≤ items.length ∧ ∃ ρ' ds' env' st', Keep ρ1 ρ' H1 H' ∧ RelS K ρ' H' st' ∧ RelE K ρ' H' env' σ' ∧ Reps K ρ' H' ds' ys' ∧ dGLoop dg tb d ok (items.drop i) ds' env' st',
    ⟨items.length, rfl, Nat.zero_le _, ρ1, ds, env, st1, Keep.refl, r1, re.keep k1, ry.keep k1, q1⟩, fun i m ys' σ' H' hW => ?_⟩
  obtain ⟨rfl, hi, ρ', ds', env', st', k', rs', re', ry', q'⟩ := hW
  by_cases hlt : i < items.length
  · refine .inr ⟨wk.go i ρ' H' st' hlt k' rs' (dGLoop_ok q'), fun ys2 σ2 H2 => i + 1 ≤ items.length ∧ ∃ ρ2 ds2 env2 st2, Keep ρ1 ρ2 H1 H2 ∧ RelS K ρ2 H2 st2 ∧ RelE K ρ2 H2 env2 σ2 ∧ Reps K ρ2 H2 ds2 ys2 ∧ dGLoop dg tb d ok (items.drop (i + 1)) ds2 env2 st2, fun ys2 σ2 H2 h2 => ?_, fun x H2 hy => ?_⟩
    · exact ⟨items.length - (i + 1), by omega, rfl, h2⟩
    · have hok := dGLoop_ok q'
      obtain ⟨sm, dx, hd, rd⟩ := wk.yld i x ρ' H' H2 st' hlt k' rs' hok hy
      rw [List.drop_eq_getElem_cons hlt] at q'
      have e : items[i] = dx := by
        rw [List.getElem?_eq_getElem hlt] at hd
        exact Option.some.inj hd
      rw [e] at q'
      obtain ⟨_, q'⟩ := q'
      have k2 : Keep ρ' ρ' H' H2 := same_keep sm
      refine hg ρ' env' st' σ' H2 x dx _ _ (rs'.same sm) (re'.keep k2) rd q' fun σ3 H3 ρ3 env3 st3 k3 rs3 re3 q3 => ?_
      have k13 : Keep ρ1 ρ3 H1 H3 := (k'.trans k2).trans k3
      refine hb ρ3 env3 st3 σ3 H3 ds' ys' _ _ rs3 re3 ((ry'.keep k2).keep k3) q3 ⟨fun ys4 σ4 H4 ρ4 ds4 env4 st4 k4 rs4 re4 ry4 q4 => ?_, fun ys4 v H4 ρ4 ds4 y st4 k4 rs4 ry4 rv4 q4 => ?_, fun ys4 σ4 H4 ρ4 ds4 env4 st4 k4 rs4 re4 ry4 q4 => ?_, fun ys4 σ4 H4 ρ4 ds4 env4 st4 k4 rs4 re4 ry4 q4 => ?_, Nat.le_trans w.bn (Nat.le_trans k1.len k13.len)⟩
      · exact ⟨hlt, ρ4, ds4, env4, st4, k13.trans k4, rs4, re4, ry4, q4⟩
      · exact w.rt ys4 v H4 ρ4 ds4 y st4 (k1.trans (k13.trans k4)) rs4 ry4 rv4 q4
      · exact w.nx ys4 σ4 H4 ρ4 ds4 env4 st4 (k1.trans (k13.trans k4)) rs4 re4 ry4 q4
      · exact ⟨hlt, ρ4, ds4, env4, st4, k13.trans k4, rs4, re4, ry4, q4⟩
  · have e : items.drop i = [] := List.drop_eq_nil_of_le (by omega)
    have hok := dGLoop_ok q'
    rw [e] at q'
    exact .inl ⟨wk.stop i ρ' H' st' (by omega) k' rs' hok, w.nx ys' σ' H' ρ' ds' env' st' (k1.trans k') rs' re' ry' q'.2⟩
section
variable {X : Cx}
theorem sg_for [Bs] {tg iter : Expr} {body : List Stmt} {wi : TI} {g : TG} {t : TGn} {di : DTI} {dg : DTG} {tb : DTGn} {pos : Pos} (hp : PassesOwn (model X.prog X.w) X.A X.env X.xe) (hc : X.calm = true) (hi : SI X tg iter wi di) (hg : SG X tg g dg) (hb : SGns X body t tb)
    (hs : ∀ x, foldedSetIterable iter X.env x = pure x := by intro _; rfl) : SGn X (.For tg iter body [] pos) (tGFor wi g t) (dGFor di dg tb) := ⟨gs_for hp hc hi.pi hg.pg hb.gss hs, sim_gfor hi.sim hg.sim hb.sim⟩
end
/-! a generator def's promise -/
abbrev DSpG := List D → Store → (List D → Store → Prop) → Prop
def spGOf (K : PySem.W.Frag) (dsp : DSpG) : SpG := fun vs H Q _ => ∃ ρ ds st QD, @RelS K ρ H triv st ∧ Reps K ρ H ds vs ∧ dsp ds st QD ∧ ∀ out H', @PostA triv K ρ H QD out H' → Q out H'
section
variable {P : Program} {w : World} {K : PySem.W.Frag} {mg : Str → Option Value} {base : Heap}
theorem Fun.okG {x qual : Str} {st : Stmt} {f : Addr} {fd : FuncData} {N ps : List Str} {k : Nat} {dsp : DSpG} (F : Fun K x qual st f fd) (S : GScope N ps (defScope st)) (len : ∀ ds s Q, dsp ds s Q → ds.length = ps.length)
    (hbody : ∀ (cdv : Value) (A : Around) (outer : List Env) (s : Shared) (H : Hp) (E : XK) (pn : List (Addr × Obj)), Room k (A.deeper (PyProof.Rows.envOfC qual (defScope st) s.heap.objs.size f cdv)) →
      ∃ t tg, SGns (gcxOf P w K mg base N qual (defScope st) f cdv A outer s H E pn) (defBody st) t tg ∧
        ∀ ds st Q, Wf st → D.lts st.length ds → dsp ds st Q → tg { nx := fun out _ st' => Q out st', rt := fun _ _ _ => False } [] (dstart N ds) st) : GFn P w K mg base (k + 1) f fd ps (spGOf K dsp) := by
  obtain ⟨oc, od, kV, doc, pm, an, cdv, ct, osl, rfl, lk, hcd⟩ := F.ex
  refine gfn_of lk hcd S (fun vs H Q E h => ?_) fun A outer s H vs Q E pn hr h => ?_
  · obtain ⟨ρ, ds, st, QD, _, r, q, _⟩ := h
    rw [← r.len]
    exact len ds st QD q
  · obtain ⟨ρ, ds, sto, QD, rs, r, q, wq⟩ := h
    obtain ⟨t, tg, hS, hb⟩ := hbody cdv A outer s H E pn hr
    refine ⟨t, hS.gss, ?_⟩
    refine hS.sim ρ (dstart N ds) sto (start N vs) H [] [] _ _ rs (relE_start r) .nil (hb ds sto QD rs.wf (by rw [← rs.len]; exact reps_lt ds vs r) q) ?_
    exact ⟨fun ys σ' H' ρ' ds' env' st' k rs' re' ry' q' => wq ys H' ⟨ρ', ds', st', k, rs', ry', q'⟩, fun _ _ _ _ _ _ _ _ _ _ _ z => z.elim, fun _ _ _ _ _ _ _ _ _ _ _ z => z.elim, fun _ _ _ _ _ _ _ _ _ _ _ z => z.elim, Nat.zero_le _⟩
end
/-! list(f(..)) -/
def dListG (dsp : DSpG) (da : DTA) : DTE := fun env st Q => da env st fun ds st1 => dsp ds st1 fun out st2 => Q (.ref st2.length) (st2 ++ [.lst out])
abbrev EN : XK := fun _ _ _ => False
theorem passN {X : Cx} : Passes (CX X.prog X.w) X EN := fun pins σ H s e s' I hc => by
  obtain ⟨_, _, _, _, _, _, _, _, _, _, _, _, w⟩ := hc
  exact w.elim
section
variable {X : Cx} {k : Nat} {f : Addr} {fd : FuncData} {ps : List Str} {dsp : DSpG} {x : Str} {p p2 pos pos' : Pos} {e : Expr} {es : List Expr} {t : TA} {da : DTA}
theorem se_listG [Bs] {K : PySem.W.Frag} [hK : HasK X K] (F : GFn X.prog X.w K X.mg X.base k f fd ps (spGOf K dsp)) (hr : Room (k + 3) X.A) (hg : Gl X x) (hm : X.mg x = some (.ref f)) (hk : PySem.W.keepIn K (.ref f) = true) (hb : Binds K fd ps [])
    (hg2 : Gl X "list") (hm2 : X.mg "list" = none) (ha : SA X (e :: es) t da) (hdb : (x == ("__debug__" : Str)) = false := by decide) (he : starEach (e :: es) X.env = (false, eval e X.env) :: starEach es X.env := by rfl) (hpl : (backTo pos' (starEach es X.env)).any (·.1) = false := by rfl)
    (he2 : starEach [.Call (.Name x p) (e :: es) [] pos'] X.env = (false, eval (.Call (.Name x p) (e :: es) [] pos') X.env) :: starEach [] X.env := by rfl) :
    SE X (.Call (.Name "list" p2) [.Call (.Name x p) (e :: es) [] pos'] [] pos) (tListG (tCallG (spGOf K dsp) [] EN t)) (dListG dsp da) := by
  obtain rfl := hK.eq
  refine ⟨pe_listG (pgen_call F (hr.mono (by omega)) hg hm hk hb .nil ha.pa hdb he hpl) passN (fun _ _ _ h => h.elim) hr hg2 hm2 (by decide +kernel) (by decide) (by decide) he2, fun ρ env st σ H Q W rs re q w => ?_⟩
  refine ha.sim ρ env st σ H _ _ rs re q fun xs H1 ⟨ρ1, ds, st1, k1, r1, px, q1⟩ => ?_
  rw [List.append_nil]
  refine ⟨ρ1, ds, st1, _, r1.dn, px, q1, fun out H2 h2 => ?_⟩
  obtain ⟨ρ2, ds2, st2, k2, r2, px2, q2⟩ := PostA.up r1 h2
  exact fun p hp => w _ _ ((PostE.lst r2 hp px2 q2).keep (k1.trans k2))
end
end DL

/-! enumerate(a tuple) -/
namespace PySem
theorem meets_enumerate_new1 {v : Value} {o : Obj} {H : Heap → Prop} (B : Begins v o H) :
    Meets (Builtin.«enumerate.__new__» ⟨[.type "enumerate", v], []⟩) (fun _ R s => H s.heap ∧
      R (.ok (.ret (.ref (s.heap.push o).objs.size))) { s with heap := (s.heap.push o).push { cls := .type "enumerate", data := .fields #[.none, .bool false, .ref s.heap.objs.size, rawInt 0, .none, .none] } }) :=
  .of_wp fun prog w A R s h => by
    obtain ⟨hp, g, d, tk, os⟩ := s; obtain ⟨h1, h⟩ := h
    have hsub := sub_enumerate
    have q1 : ∀ {A' : Around} {E : Value → Shared → Prop} {Q : Value → Shared → Prop}, Q (.ref hp.objs.size) ⟨hp.push o, g, d, tk, os⟩ → wpAny (model prog w) A' (pyIter v) Q E ⟨hp, g, d, tk, os⟩ :=
      fun q => B.iter prog w _ _ ⟨hp, g, d, tk, os⟩ _ h1 q
    wp_walk using q1
    refine wpAny_stack_any fun st => wpAny_pure ?_
    split
    · rename_i c _ _ _ _ _
      cases (c == Value.type "enumerate")
      · wp_walk using q1
        exact ⟨_, rfl, h⟩
      · wp_walk using q1
        exact ⟨_, rfl, h⟩
    · wp_walk using q1
      exact ⟨_, rfl, h⟩
section
variable {prog : Program} {w : World} {A : Around} {E : Value → Shared → Prop} {s : Shared}
theorem enum_begins1 {v : Value} {o : Obj} {H : Heap → Prop} {Q : Value → Shared → Prop} (B : Begins v o H) (h1 : H s.heap)
    (h : ∀ h', IsEnum h' (s.heap.objs.size + 1) s.heap.objs.size 0 .none → h'.get? s.heap.objs.size = some o → h'.objs.size = s.heap.objs.size + 2 →
      (∀ b o, s.heap.get? b = some o → h'.get? b = some o) → Q (.ref (s.heap.objs.size + 1)) { s with heap := h' }) :
    wpAny (model prog w) A (call (.type "enumerate") [v]) Q E s := by
  refine callType_new F.called_enumerate (by decide) (F.typeCall_enumerate_1 _) (F.newCall_enumerate_1 _) (fun obj => F.args_object_init_2 obj _) F.entry_enumerate_new
    (meets_enumerate_new1 B) ⟨h1, ?_⟩
  have hz : (s.heap.push o).objs.size = s.heap.objs.size + 1 := Heap.size_push ..
  show _ ∧ _
  rw [hz]
  have he : IsEnum ((s.heap.push o).push { cls := .type "enumerate", data := .fields #[.none, .bool false, .ref s.heap.objs.size, rawInt 0, .none, .none] }) (s.heap.objs.size + 1) s.heap.objs.size 0 .none := by
    have := Heap.get?_push_size (s.heap.push o) (o := { cls := .type "enumerate", data := .fields #[.none, .bool false, .ref s.heap.objs.size, rawInt 0, .none, .none] }) rfl
    rw [hz] at this; exact this
  refine ⟨⟨_, he, rfl⟩, h _ he (Heap.get?_push_of_some _ (Heap.get?_push_size _ B.free)) (by rw [Heap.size_push, hz]) fun b o x => Heap.get?_push_of_some _ (Heap.get?_push_of_some _ x)⟩
theorem wpAny_pyNext_enum_endT {e it l : Addr} {i : Nat} {items : Array Value} {old : Value} {Q : Option Value → Shared → Prop} (hh : A.handled = none)
    (he : IsEnum s.heap e it i old) (hit : s.heap.IsTupleIter it l i) (hl : s.heap.IsTuple l items) (hx : items[i]? = none)
    (hQ : ∀ h', Heap.ExtBut it s.heap h' → Q none { s with heap := h' }) : wpAny (model prog w) A (pyNext (.ref e)) Q E s := by
  have hT : s.TypeIs (.ref e) "enumerate" := ⟨_, he, rfl⟩
  unfold pyNext
  refine wpAny_bind (wpAny_attempt (wpAny_callSpecial?_slot (name := Str.ofString "__next__") hT F.slot_enumerate_next
    (wpAny_call_entry F.slot_enumerate_next hT F.entry_enumerate_next ?_ (F.args_enumerate_next_1 _))))
  show wpAny _ _ (field (.ref e) 2 >>= _) _ _ _
  refine wpAny_bind (wpAny_field he rfl (x := .ref it) rfl ?_)
  refine wpAny_bind (wpAny_nextOf_tuple_end hh hit hl hx fun h' x he' hx' => ?_)
  obtain ⟨o, ho, hc⟩ := hx'
  refine wpAny_bind (wpAny_isInstance (T := "StopIteration") (b := true) ⟨o, ho, hc⟩ isSubtype_stop ?_)
  exact wpAny_pure (hQ _ he')
end
end PySem
namespace L2
open PySem PySem.Spec PyProof.Rows
/-- the tuple at a, each item in a new pair -/
def IteT (K : PySem.W.Frag) (a : Addr) : It :=
  ⟨fun i H => ∃ (xs : List V) (x : V), SqT K H a xs ∧ xs[i]? = some x, fun i H v H' => ∃ T x, v = .ref T ∧ H T = none ∧ H' = upd H T (.tup [.int (i : Nat), x]) ∧ ∀ xs, SqT K H a xs → xs[i]? = some x, fun i H => ∃ xs : List V, SqT K H a xs ∧ xs.length ≤ i⟩
theorem turn_enumT {P : Program} {w : World} {K : PySem.W.Frag} {elts : List Expr} {kk : Nat} {tpos : Pos} (a e it : Addr) :
    Turn P w K (.Tuple elts kk tpos) (IteT K a) [e, it] e (fun i h => (∃ old, IsEnum h e it ((i : Nat) : Int) old) ∧ h.IsTupleIter it a i ∧ e ≠ it ∧ a ≠ it ∧ a ≠ e) where
  mem := by simp
  obj := fun i h st b hb => by
    obtain ⟨⟨old, he⟩, ⟨o, ho, hc, hd⟩, _⟩ := st
    have e' : b = e ∨ b = it := by simpa using hb
    rcases e' with z | z
    · rw [z]; exact ⟨_, he, fun v q => nomatch q⟩
    · rw [z]; exact ⟨o, ho, fun v q => by rw [hd] at q; cases q⟩
  keep := fun i h h' st k => let ⟨⟨old, he⟩, hi, hne⟩ := st; ⟨⟨old, k e (by simp) _ he⟩, hi.at fun o q => k it (by simp) o q, hne⟩
  item := by
    intro X hP hw hK hc i pins s σ H E I hf st hg
    subst hP hw hK
    obtain ⟨⟨old, he⟩, hit, hne, hai, hae⟩ := st
    obtain ⟨xs, x, hq, hx⟩ := hg
    obtain ⟨its, rv, p, hz⟩ := I.tuple hq
    obtain ⟨u, hu, ru⟩ := rv.get hx
    have hel : e < s.heap.objs.size := Heap.lt_size he
    have hil : it < s.heap.objs.size := by obtain ⟨_, q, _⟩ := hit; exact Heap.lt_size q
    have hlt : i < its.toArray.size := by
      have := (List.getElem?_eq_some_iff.mp hu).1
      simpa using this
    have hh : X.A.in1.handled = none := I.ok.hd hc
    refine wpAny_pyNext_enum_itemD (Draws.tuple hh it a hai its.toArray) he ⟨hit, (show s.heap.IsTuple a its.toArray from p)⟩ hlt hne (by simp [hne, hae.symm]) fun y h' tk hy ho hst' hT hsz hk => ?_
    have hyu : y = u := by
      have h1 : its[i]? = some y := by simpa using hy
      rw [hu] at h1
      exact (Option.some.inj h1).symm
    subst hyu
    obtain ⟨hit', _⟩ := hst'
    refine ⟨_, rfl, wpAny_letOwnedTupleGo_enum (s := { s with heap := h', toks := tk + 1 }) ho fun h'' he' sb => ?_⟩
    have hT2 : h''.get? s.heap.objs.size = some { cls := .type "tuple", data := .seq #[.int i tk, y] } := (sb.2 _ (Nat.ne_of_gt hel)).trans hT
    have new : ObjOk X.prog X.w (upd H s.heap.objs.size (.tup [.int (i : Nat), x])) h'' s.heap.objs.size (.tup [.int (i : Nat), x]) :=
      ⟨by show 2 ≤ sizeLine; decide, [.int i tk, y], .cons ⟨_, rfl⟩ (.cons ru .nil), ⟨_, hT2, rfl, _, rfl⟩⟩
    have I1 : Inv X pins σ (upd H s.heap.objs.size (.tup [.int (i : Nat), x])) { s with heap := h'', toks := tk + 1 } :=
      I.turnedNew (ch := [e, it]) (fun b ob hb q => (sb.2 b (fun z => hb (by simp [z]))).trans (hk b ob (fun z => hb (by simp [z])) (fun z => hb (by simp [z])) q)) hf (Nat.le_refl _) new
    refine ⟨.ref s.heap.objs.size, _, I1, rfl, ⟨_, x, rfl, I.hok.fresh (Nat.le_refl _), rfl, fun ys hy => by rw [I.tuple_inj hy hq]; exact hx⟩, ⟨⟨y, ?_⟩, hit'.at fun o q => (sb.2 it (Ne.symm hne)).trans q, hne, hai, hae⟩, fun b hb => ?_⟩
    · have e1 : ((i + 1 : Nat) : Int) = (i : Int) + 1 := by omega
      rw [e1]; exact he'
    · have hb' : b < s.heap.objs.size := by
        have e' : b = e ∨ b = it := by simpa using hb
        rcases e' with z | z
        · rw [z]; exact hel
        · rw [z]; exact hil
      rw [upd_ne (Nat.ne_of_lt hb')]
      exact (hf b hb).1
  done := by
    intro X hP hw hK hc i pins s σ H E I hf st hg
    subst hP hw hK
    obtain ⟨⟨old, he⟩, hit, hne, hai, hae⟩ := st
    obtain ⟨xs, hq, hx⟩ := hg
    obtain ⟨its, rv, p, hz⟩ := I.tuple hq
    obtain ⟨f0, f1, f2, f3, f4, f5⟩ := hf it (by simp)
    have hl := rv.length
    exact wpAny_pyNext_enum_endT (I.ok.hd hc) he hit (show s.heap.IsTuple a its.toArray from p) (by simp; omega) fun h' eb => ⟨rfl, I.turned (t' := s.toks) (fun b o hb q => eb b o hb q) f0 f1 f3 f4 f5⟩
  self := fun A i s Q E st h => let ⟨⟨_, he⟩, _⟩ := st; wpAny_pyIter_enum he h
/-- enumerate(a list or a tuple) -/
def iEnumA (K : PySem.W.Frag) (ta : TA) : TI := fun σ H R => ta σ H fun vs H1 => ∃ a xs, vs = [.ref a] ∧ ((SqL K H1 a xs ∧ R (Ite K a) H1) ∨ (SqT K H1 a xs ∧ R (IteT K a) H1))
theorem pi_enumA {X : Cx} {e : Expr} {ta : TA} {p pos tpos : Pos} {elts : List Expr} {kk : Nat} (hg : Gl X "enumerate") (hm : X.mg "enumerate" = none) (ha : PA X [e] ta) (hs : starEach [e] X.env = [(false, eval e X.env)] := by rfl) :
    PI X (.Tuple elts kk tpos) (.Call (.Name "enumerate" p) [e] [] pos) (iEnumA X.K ta) := by
  refine ⟨fun pins s σ H R I h => ?_⟩
  refine Call_ (ld_blt I hg hm boot_enumerate (PyProof.Rows.callWith_type1 (thn (ha.run pos pins s σ H _ I h) fun us s1 ⟨vs, H1, I1, r1, q1⟩ => ?_) hs rfl))
  obtain ⟨a, xs, ex, hq⟩ := q1
  subst ex
  cases r1 with
  | cons r rr =>
    cases rr
    cases r
    have two : ∀ b : Addr, b ∈ [s1.heap.objs.size + 1, s1.heap.objs.size] → s1.heap.objs.size ≤ b := fun b hb => by
      have e' : b = s1.heap.objs.size + 1 ∨ b = s1.heap.objs.size := by simpa using hb
      rcases e' with z | z
      · rw [z]; exact Nat.le_add_right _ _
      · rw [z]; exact Nat.le_refl _
    rcases hq with ⟨hq, q⟩ | ⟨hq, q⟩
    · obtain ⟨its, rv, p', hz⟩ := I1.list hq
      refine call_enumerate_list p'.isList fun h' he hit hsz hk => wpAny_pyIter_enum he ?_
      have I2 : Inv X pins σ H1 { s1 with heap := h' } := I1.kept (t' := s1.toks) hk
      exact ⟨s1.heap.objs.size + 1, [s1.heap.objs.size + 1, s1.heap.objs.size], _, _, H1, rfl, I2, turn_enum a (s1.heap.objs.size + 1) s1.heap.objs.size, ⟨⟨.none, he⟩, hit, Nat.succ_ne_self _⟩, fun b hb => I1.fpOk (two b hb) (I1.hok.fresh (two b hb)), q⟩
    · obtain ⟨its, rv, p', hz⟩ := I1.tuple hq
      have p'' : s1.heap.IsTuple a its.toArray := p'
      have ha : a < s1.heap.objs.size := by
        obtain ⟨o, ho, _⟩ := id p''
        exact Heap.lt_size ho
      refine enum_begins1 (begins_tuple a its.toArray) p'' fun h' he hit hsz hk => wpAny_pyIter_enum he ?_
      have I2 : Inv X pins σ H1 { s1 with heap := h' } := I1.kept (t' := s1.toks) hk
      exact ⟨s1.heap.objs.size + 1, [s1.heap.objs.size + 1, s1.heap.objs.size], _, _, H1, rfl, I2, turn_enumT a (s1.heap.objs.size + 1) s1.heap.objs.size, ⟨⟨.none, he⟩, ⟨_, hit, rfl, rfl⟩, Nat.succ_ne_self _, Nat.ne_of_lt ha, Nat.ne_of_lt (Nat.lt_succ_of_lt ha)⟩, fun b hb => I1.fpOk (two b hb) (I1.hok.fresh (two b hb)), q⟩
end L2

/-! enumerate, divmod, all -/
namespace DL
open PySem PySem.Spec L2
def enumD (i : Nat) : List D → List D
  | [] => []
  | x :: r => .tup [.int i, x] :: enumD (i + 1) r
theorem enumD_len : ∀ (xs : List D) (i : Nat), (enumD i xs).length = xs.length
  | [], _ => rfl
  | x :: r, i => by rw [enumD, List.length_cons, List.length_cons, enumD_len r]
theorem enumD_get : ∀ (xs : List D) (i j : Nat) (d : D), xs[j]? = some d → (enumD i xs)[j]? = some (.tup [.int ((i + j : Nat) : Int), d])
  | [], _, _, _, h => by simp at h
  | x :: r, i, 0, d, h => by
    simp at h
    subst h
    rfl
  | x :: r, i, j + 1, d, h => by
    have := enumD_get r (i + 1) j d (by simpa using h)
    rw [enumD, List.getElem?_cons_succ, this, show i + 1 + j = i + (j + 1) by omega]
def dEnum (da : DTA) : DTI := fun env st R => da env st fun xs st1 => match xs with
  | [x] => (match x with | .str _ => False | _ => True) ∧ match dItems st1 x with
    | some items => R (enumD 0 items) (okOf x items) st1
    | none => False
  | _ => False
theorem same_tup {H : Hp} {T : Addr} {vs : List V} (h : H T = none) : Same H (upd H T (.tup vs)) := fun b o e => by rw [upd_ne (ne_of_none e h)]; exact e
theorem walks_enumL [Bs] {K : PySem.W.Frag} {ρ : List Addr} {H : Hp} {a : Addr} {ds : List D} {ok : Store → Prop} (hq : ∀ ρ' H' st', Keep ρ ρ' H H' → RelS K ρ' H' st' → ok st' → ∃ vs, SqL K H' a vs ∧ Reps K ρ' H' ds vs) :
    WalksD K ρ H (Ite K a) (enumD 0 ds) ok := by
  refine ⟨fun i ρ' H' st' hi k rs ho => ?_, fun i x ρ' H' H2 st' hi k rs ho y => ?_, fun i ρ' H' st' hi k rs ho => ?_⟩
  · rw [enumD_len] at hi
    obtain ⟨vs, hs, hr⟩ := hq ρ' H' st' k rs ho
    obtain ⟨v, hv, _⟩ := hr.get (List.getElem?_eq_getElem hi)
    exact ⟨vs, v, hs, hv⟩
  · rw [enumD_len] at hi
    obtain ⟨T, v, rfl, hT, rfl, hv⟩ := y
    obtain ⟨vs, hs, hr⟩ := hq ρ' H' st' k rs ho
    obtain ⟨v', hv', rv⟩ := hr.get (List.getElem?_eq_getElem hi)
    have e := hv vs hs
    rw [hv'] at e
    cases e
    have k2 : Keep ρ' ρ' H' (upd H' T (.tup [.int (i : Nat), v])) := same_keep (same_tup hT)
    refine ⟨same_tup hT, _, enumD_get ds 0 i _ (List.getElem?_eq_getElem hi), .tup (.inl (.inl upd_same)) ?_⟩
    rw [Nat.zero_add]
    exact .cons (.int _) (.cons (rv.keep k2) .nil)
  · rw [enumD_len] at hi
    obtain ⟨vs, hs, hr⟩ := hq ρ' H' st' k rs ho
    exact ⟨vs, hs, by rw [← hr.len]; exact hi⟩
theorem walks_enumT [Bs] {K : PySem.W.Frag} {ρ : List Addr} {H : Hp} {a : Addr} {ds : List D} {ok : Store → Prop} (hq : ∀ ρ' H' st', Keep ρ ρ' H H' → RelS K ρ' H' st' → ok st' → ∃ vs, SqT K H' a vs ∧ Reps K ρ' H' ds vs) :
    WalksD K ρ H (IteT K a) (enumD 0 ds) ok := by
  refine ⟨fun i ρ' H' st' hi k rs ho => ?_, fun i x ρ' H' H2 st' hi k rs ho y => ?_, fun i ρ' H' st' hi k rs ho => ?_⟩
  · rw [enumD_len] at hi
    obtain ⟨vs, hs, hr⟩ := hq ρ' H' st' k rs ho
    obtain ⟨v, hv, _⟩ := hr.get (List.getElem?_eq_getElem hi)
    exact ⟨vs, v, hs, hv⟩
  · rw [enumD_len] at hi
    obtain ⟨T, v, rfl, hT, rfl, hv⟩ := y
    obtain ⟨vs, hs, hr⟩ := hq ρ' H' st' k rs ho
    obtain ⟨v', hv', rv⟩ := hr.get (List.getElem?_eq_getElem hi)
    have e := hv vs hs
    rw [hv'] at e
    cases e
    have k2 : Keep ρ' ρ' H' (upd H' T (.tup [.int (i : Nat), v])) := same_keep (same_tup hT)
    refine ⟨same_tup hT, _, enumD_get ds 0 i _ (List.getElem?_eq_getElem hi), .tup (.inl (.inl upd_same)) ?_⟩
    rw [Nat.zero_add]
    exact .cons (.int _) (.cons (rv.keep k2) .nil)
  · rw [enumD_len] at hi
    obtain ⟨vs, hs, hr⟩ := hq ρ' H' st' k rs ho
    exact ⟨vs, hs, by rw [← hr.len]; exact hi⟩
section
variable {X : Cx} {e : Expr} {ta : TA} {da : DTA} {p pos tpos : Pos} {elts : List Expr} {kk : Nat}
theorem si_enum [Bs] {K : PySem.W.Frag} [hk : HasK X K] (hg : Gl X "enumerate") (hm : X.mg "enumerate" = none) (h : SA X [e] ta da) (hs : starEach [e] X.env = [(false, eval e X.env)] := by rfl) : SI X (.Tuple elts kk tpos) (.Call (.Name "enumerate" p) [e] [] pos) (iEnumA K ta) (dEnum da) := by
  obtain rfl := hk.eq
  refine ⟨pi_enumA hg hm h.pa hs, fun ρ env st σ H R W rs re q w => ?_⟩
  refine h.sim ρ env st σ H _ _ rs re q fun vs H1 ⟨ρ1, ds, st1, k1, r1, px, q1⟩ => ?_
  dsimp only at q1
  split at q1
  · rename_i x
    obtain ⟨v, rfl, pv⟩ := px.one
    obtain ⟨c, q1⟩ := q1
    cases x with
    | tup xs =>
      obtain ⟨a, vs, rfl, hs, hr⟩ := rep_tup pv
      exact ⟨a, vs, rfl, .inr ⟨hs, w _ H1 ρ1 _ _ st1 k1 r1 (walks_enumT fun ρ' H' st' k rs ho => ⟨vs, k.sqt hs, hr.keep k⟩) q1⟩⟩
    | rol xs =>
      obtain ⟨a, vs, rfl, hs, hr⟩ := rep_rol pv
      exact ⟨a, vs, rfl, .inl ⟨sqf_l hs, w _ H1 ρ1 _ _ st1 k1 r1 (walks_enumL fun ρ' H' st' k rs ho => ⟨vs, sqf_l (k.sqf hs), hr.keep k⟩) q1⟩⟩
    | ref k =>
      obtain ⟨a, ha, rfl⟩ := rep_ref pv
      unfold dItems at q1
      dsimp only at q1
      split at q1
      · rename_i items e
        split at e
        · rename_i ys e2
          cases e
          obtain ⟨vs, hv, hr⟩ := r1.lst ha e2
          refine ⟨a, vs, rfl, .inl ⟨SqL.of hv, w _ H1 ρ1 _ _ st1 k1 r1 (walks_enumL fun ρ' H' st' k' rs ho => ?_) q1⟩⟩
          obtain ⟨vs', hv', hr'⟩ := rs.lst (k'.get ha) ho
          exact ⟨vs', SqL.of hv', hr'⟩
        · cases e
      · exact q1.elim
    | str _ => exact c.elim
    | _ => exact q1.elim
  · exact q1.elim
def dDivmod : DRA := fun ds st Q => match ds with
  | [.int i, .int j] => CDiv i j ∧ Q (.tup [.int (i / j), .int (i % j)]) st
  | _ => False
theorem sc_divmod [Bs] : SCl X (.builtin "divmod") (fun xs H Q => ∃ i j, xs = [.int i, .int j] ∧ CDiv i j ∧ ∀ p, H p = none → Q (.ref p) (upd H p (.tup [.int (i / j), .int (i % j)]))) dDivmod := by
  refine ⟨call_divmod, fun ρ st H xs dxs Q W rs px q w => ?_⟩
  unfold dDivmod at q
  split at q
  · rename_i i j
    obtain ⟨v, u, rfl, r, r'⟩ := px.two
    obtain rfl := rep_int r
    obtain rfl := rep_int r'
    exact ⟨i, j, rfl, q.1, fun p hp => w _ _ (.tup rs hp (.cons (.int _) (.cons (.int _) .nil)) q.2)⟩
  · exact q.elim
theorem Reps.bls {K : PySem.W.Frag} {ρ : List Addr} {H : Hp} : ∀ {bs : List Bool} {vs : List V}, Reps K ρ H (bs.map D.bl) vs → vs = bs.map V.bl
  | [], vs, h => by unfold Reps at h; exact h
  | b :: bs, vs, h => by
    obtain ⟨v, r, rfl, h1, h2⟩ := (by unfold Reps at h; exact h : ∃ v r, vs = v :: r ∧ Rep K ρ H (.bl b) v ∧ Reps K ρ H (bs.map D.bl) r)
    rw [rep_bl h1, Reps.bls h2]
    rfl
def dAll : DRA := fun ds st Q => ∃ (k : Nat) (bs : List Bool), ds = [.ref k] ∧ st[k]? = some (.lst (bs.map D.bl)) ∧ Q (.bl (bs.all id)) st
theorem sc_all [Bs] {K : PySem.W.Frag} [hk : HasK X K] (hc : X.calm = true) : SCl X (.builtin "all") (rAll K) dAll := by
  obtain rfl := hk.eq
  refine ⟨cr_all hc, fun ρ st H xs dxs Q W rs px q w => ?_⟩
  obtain ⟨k, bs, rfl, hs, q⟩ := q
  obtain ⟨v, rfl, r⟩ := px.one
  obtain ⟨a, ha, rfl⟩ := rep_ref r
  obtain ⟨vs, hv, hr⟩ := rs.lst ha hs
  obtain rfl := hr.bls
  exact ⟨a, bs, rfl, SqL.of hv, w _ H (.of rs (.bl _) q)⟩
end
end DL

/-! instances of an own class; gcd -/
namespace DL
open PySem PySem.Spec L2
/-- the class cn stands at C -/
structure ClsD (K : PySem.W.Frag) (cn : Str) (C : Addr) : Prop where
  ns : PySem.W.nsIn K mainGlobals cn = some (some (.ref C))
  cls : Cls K C
def insOf (st : Store) (cn : Str) (x : D) : Option (Nat × List (Str × D)) := match x with
  | .ref k => match st[k]? with
    | some (.ins y fs) => if y = cn then some (k, fs) else none
    | _ => none
  | _ => none
def dFld (cn : Str) (de : DTE) (f : Str) : DTE := fun env st Q => de env st fun x st1 => match insOf st1 cn x with
  | some (_, fs) => match fs.lookup f with
    | some d => Q d st1
    | none => False
  | none => False
def putD (f : Str) (v : D) : List (Str × D) → List (Str × D)
  | [] => [(f, v)]
  | (g, x) :: r => if g = f then (g, v) :: r else (g, x) :: putD f v r
def dgFld (cn : Str) (dO : DTE) (f : Str) : DTG := fun x env st Q => dO env st fun o st1 => match insOf st1 cn o with
  | some (k, fs) => fs.length < 1000 ∧ Q env (st1.set k (.ins cn (putD f x fs)))
  | none => False
def dMeth (cn m : Str) (dsp : DSp) (dO : DTE) (da : DTA) : DTE := fun env st Q => dO env st fun x st1 => match insOf st1 cn x with
  | some (_, fs) => fs.lookup m = none ∧ da env st1 fun ds st2 => dsp (x :: ds) st2 Q
  | none => False
def dMake (cn : Str) (dsp : DSp) (da : DTA) : DTE := fun env st Q => da env st fun ds st1 => dsp (.ref st1.length :: ds) (st1 ++ [.ins cn []]) fun v st2 => v = .non ∧ Q (.ref st1.length) st2
section
variable {K : PySem.W.Frag} {ρ : List Addr} {H : Hp} {st : Store} {cn : Str} {C : Addr}
theorem fs_lookup : ∀ {fs : List (Str × D)} {vs : List (Str × V)} {f : Str}, vs.map Prod.fst = fs.map Prod.fst → Reps K ρ H (fs.map Prod.snd) (vs.map Prod.snd) →
    (∀ d, fs.lookup f = some d → ∃ v, vs.lookup f = some v ∧ Rep K ρ H d v) ∧ (fs.lookup f = none → vs.lookup f = none)
  | [], [], f, _, _ => ⟨fun d h => by simp at h, fun _ => rfl⟩
  | [], v :: vs, f, h, _ => by simp at h
  | a :: fs, [], f, h, _ => by simp at h
  | (g, d) :: fs, (g', v) :: vs, f, h, r => by
    rw [List.map_cons, List.map_cons] at h
    obtain ⟨h1, h2⟩ := List.cons.inj h
    dsimp only at h1
    subst h1
    rw [List.map_cons, List.map_cons] at r
    unfold Reps at r
    obtain ⟨v', r', e, p1, p2⟩ := r
    obtain ⟨e1, e2⟩ := List.cons.inj e
    subst e1 e2
    obtain ⟨i1, i2⟩ := fs_lookup (f := f) h2 p2
    by_cases hf : (f == g') = true
    · rw [List.lookup_cons, List.lookup_cons, hf]
      exact ⟨fun x hx => by cases hx; exact ⟨_, rfl, p1⟩, fun hx => by cases hx⟩
    · have hf' : (f == g') = false := by simpa using hf
      rw [List.lookup_cons, List.lookup_cons, hf']
      exact ⟨i1, i2⟩
theorem fs_put : ∀ {fs : List (Str × D)} {vs : List (Str × V)} {f : Str} {d : D} {v : V}, vs.map Prod.fst = fs.map Prod.fst → Reps K ρ H (fs.map Prod.snd) (vs.map Prod.snd) → Rep K ρ H d v →
    (putF f v vs).map Prod.fst = (putD f d fs).map Prod.fst ∧ Reps K ρ H ((putD f d fs).map Prod.snd) ((putF f v vs).map Prod.snd)
  | [], [], f, d, v, _, _, p => ⟨rfl, .cons p .nil⟩
  | [], v :: vs, f, _, _, h, _, _ => by simp at h
  | a :: fs, [], f, _, _, h, _, _ => by simp at h
  | (g, d') :: fs, (g', v') :: vs, f, d, v, h, r, p => by
    rw [List.map_cons, List.map_cons] at h
    obtain ⟨h1, h2⟩ := List.cons.inj h
    dsimp only at h1
    subst h1
    rw [List.map_cons, List.map_cons] at r
    unfold Reps at r
    obtain ⟨w, r', e, p1, p2⟩ := r
    obtain ⟨e1, e2⟩ := List.cons.inj e
    subst e1 e2
    obtain ⟨i1, i2⟩ := fs_put (f := f) h2 p2 p
    unfold putF putD
    by_cases hg : g' = f
    · rw [if_pos hg, if_pos hg]
      exact ⟨by rw [List.map_cons, List.map_cons, h2], .cons p p2⟩
    · rw [if_neg hg, if_neg hg]
      exact ⟨by rw [List.map_cons, List.map_cons, i1], .cons p1 i2⟩
/-- what stands there -/
theorem ins_at [Bs] (T : ClsD K cn C) (r : RelS K ρ H st) {x : D} {v : V} {k : Nat} {fs : List (Str × D)} (p : Rep K ρ H x v) (h : insOf st cn x = some (k, fs)) :
    x = .ref k ∧ st[k]? = some (.ins cn fs) ∧ ∃ a dx vs, ρ[k]? = some a ∧ v = .ref a ∧ H a = some (.ins C dx vs) ∧ vs.map Prod.fst = fs.map Prod.fst ∧ Reps K ρ H (fs.map Prod.snd) (vs.map Prod.snd) := by
  unfold insOf at h
  split at h
  · rename_i i
    split at h
    · rename_i y gs e
      split at h
      · rename_i hy
        cases h
        subst hy
        obtain ⟨a, ha, rfl⟩ := rep_ref p
        obtain ⟨C', dx, vs, hv, hx, hn, hr⟩ := r.at ha e
        rw [T.ns] at hx
        cases hx
        exact ⟨rfl, e, a, dx, vs, ha, rfl, hv, hn, hr⟩
      · cases h
    · cases h
  · cases h
theorem keep_updI {a dx : Addr} {vs ws : List (Str × V)} (h : H a = some (.ins C dx vs)) : Keep ρ ρ H (upd H a (.ins C dx ws)) :=
  ⟨⟨[], by simp⟩, fun b xs e => by rw [upd_ne (ne_of e h (by intro z; cases z))]; exact e, fun b ob u e => by rw [upd_ne (ne_of e h (by intro z; cases z))]; exact e, fun b u e => by rw [upd_ne (ne_of e h (by intro z; cases z))]; exact e⟩
theorem RelS.putI [Bs] (T : ClsD K cn C) {k : Nat} {a dx : Addr} {vs ws : List (Str × V)} {fs : List (Str × D)} (r : RelS K ρ H st) (e : ρ[k]? = some a) (ha : H a = some (.ins C dx vs)) (hn : ws.map Prod.fst = fs.map Prod.fst) (h : Reps K ρ H (fs.map Prod.snd) (ws.map Prod.snd)) :
    RelS K ρ (upd H a (.ins C dx ws)) (st.set k (.ins cn fs)) := by
  have kp : Keep ρ ρ H (upd H a (.ins C dx ws)) := keep_updI ha
  refine ⟨by rw [List.length_set, r.len], r.nd, fun j o q => ?_, Bs.kl kp r.bs⟩
  by_cases hj : k = j
  · subst hj
    have hk : k < st.length := by rw [← r.len]; exact (List.getElem?_eq_some_iff.mp e).1
    rw [List.getElem?_set_self hk] at q
    cases q
    exact ⟨a, e, C, dx, ws, upd_same, T.ns, hn, h.keep kp⟩
  · rw [List.getElem?_set_ne hj] at q
    obtain ⟨b, e2, q2⟩ := r.ob j o q
    refine ⟨b, e2, repO_keep q2 kp fun u hu => ?_⟩
    rw [upd_ne]
    · exact hu
    · rintro rfl
      exact hj (nd_ix r.nd e e2)
theorem RelS.cellI [Bs] (T : ClsD K cn C) {p dx : Addr} (r : RelS K ρ H st) (hp : H p = none) (hd : H dx = none) (ne : dx ≠ p) :
    RelS K (ρ ++ [p]) (upd (upd H dx (.own p)) p (.ins C dx [])) (st ++ [.ins cn []]) ∧ Keep ρ (ρ ++ [p]) H (upd (upd H dx (.own p)) p (.ins C dx [])) := by
  have r1 := r.new (o := .own p) hd
  have hp1 : upd H dx (.own p) p = none := by rw [upd_ne (fun z => ne z.symm)]; exact hp
  have kp : Keep ρ (ρ ++ [p]) (upd H dx (.own p)) (upd (upd H dx (.own p)) p (.ins C dx [])) := keep_cell hp1
  have kd : Keep ρ ρ H (upd H dx (.own p)) := keep_new hd
  refine ⟨⟨by rw [List.length_append, List.length_append, r.len]; rfl, ?_, fun k o e => ?_, Bs.kl (kd.trans kp) r.bs⟩, kd.trans kp⟩
  · rw [List.nodup_append]
    refine ⟨r.nd, by simp, fun a ha b hb => ?_⟩
    have hb' : b = p := by simpa using hb
    subst hb'
    obtain ⟨i, hi⟩ := List.getElem?_of_mem ha
    obtain ⟨o, ho⟩ := r.tracked hi
    exact ne_of_none ho hp
  · by_cases hk : k < st.length
    · rw [List.getElem?_append_left hk] at e
      obtain ⟨a, e2, q⟩ := r1.ob k o e
      refine ⟨a, kp.get e2, repO_keep q kp fun u hu => ?_⟩
      rw [upd_ne (ne_of_none hu hp1)]
      exact hu
    · have hk2 : k = st.length := by
        have := (List.getElem?_eq_some_iff.mp e).1
        rw [List.length_append, List.length_singleton] at this
        omega
      subst hk2
      rw [List.getElem?_append_right (Nat.le_refl _), Nat.sub_self] at e
      simp at e
      subst e
      refine ⟨p, ?_, C, dx, [], upd_same, T.ns, rfl, Reps.nil⟩
      rw [List.getElem?_append_right (by rw [r.len]; exact Nat.le_refl _), r.len, Nat.sub_self]
      rfl
end
section
variable {X : Cx} {o e value : Expr} {f m : Str} {pos apos : Pos} {to : TE} {dO : DTE} {K : PySem.W.Frag} {cn : Str} {C : Addr}
theorem se_fld [Bs] [hk : HasK X K] (T : ClsD K cn C) (hn : NoAttr K C f) (ho : SE X o to dO) (hb : attributeBase o f X.env (eval o X.env) = eval o X.env := by rfl) : SE X (.Attribute o f pos) (tFld K to f) (dFld cn dO f) := by
  obtain rfl := hk.eq
  refine ⟨pe_fld ho.pe hb, fun ρ env st σ H Q W rs re q w => ?_⟩
  refine ho.sim ρ env st σ H _ _ rs re q fun v H1 ⟨ρ1, dx, st1, k1, r1, px, q1⟩ => ?_
  dsimp only at q1
  split at q1
  · rename_i k fs e
    split at q1
    · rename_i d hl
      obtain ⟨rfl, e2, a, dx, vs, ha, rfl, hv, hnm, hr⟩ := ins_at T r1 px e
      obtain ⟨y, hy, ry⟩ := (fs_lookup hnm hr).1 d hl
      exact ⟨a, C, dx, vs, y, rfl, hv, T.cls, hn, hy, w _ _ ((PostE.of r1 ry q1).keep k1)⟩
    · exact q1.elim
  · exact q1.elim
/-- o.f = .. -/
def gFld (K : PySem.W.Frag) (to : TE) (f : Str) : TG := fun v σ H Q => to σ H fun x H1 => ∃ a C dx fs, x = .ref a ∧ H1 a = some (.ins C dx fs) ∧ Cls K C ∧ NoAttr K C f ∧ fs.length < 1000 ∧ Q σ (upd H1 a (.ins C dx (putF f v fs)))
theorem pg_fld (ho : PE X o to) : PG X (.Attribute o f pos) (gFld X.K to f) := by
  refine ⟨fun pins s σ H v u Q I r h => ?_⟩
  rw [arm_assign_Attribute]
  refine wpAny_bind (wpAny_holding (thn (ho.run pins s σ H _ I h) fun ov s1 ⟨x, H1, I1, rx, a, C, dx, fs, ex, ea, c, n, l, q⟩ => ?_))
  subst ex
  obtain rfl : ov = Value.ref a := rx
  refine wpAny_bind (wpAny_standAt (wpAny_bind (wpAny_holding (setattr_ok I1 ea c n l r fun s3 I3 => ?_))))
  exact wpAny_release ⟨σ, _, I3, q⟩
theorem sg_fld [Bs] [hk : HasK X K] (T : ClsD K cn C) (hn : NoAttr K C f) (ho : SE X o to dO) : SG X (.Attribute o f pos) (gFld K to f) (dgFld cn dO f) := by
  obtain rfl := hk.eq
  refine ⟨pg_fld ho.pe, fun ρ env st σ H x dx Q W rs re px q w => ?_⟩
  refine ho.sim ρ env st σ H _ _ rs re q fun v H1 ⟨ρ1, d1, st1, k1, r1, p1, q1⟩ => ?_
  dsimp only at q1
  split at q1
  · rename_i k fs e
    obtain ⟨rfl, e2, a, dx', vs, ha, rfl, hv, hnm, hr⟩ := ins_at T r1 p1 e
    obtain ⟨n1, n2⟩ := fs_put (f := f) hnm hr (px.keep k1)
    have hl : vs.length = fs.length := by
      have := congrArg List.length hnm
      rwa [List.length_map, List.length_map] at this
    have kk := keep_updI (ρ := ρ1) (ws := putF f x vs) hv
    exact ⟨a, C, dx', vs, rfl, hv, T.cls, hn, by rw [hl]; exact q1.1, w σ _ ρ1 env _ (k1.trans kk) (r1.putI T ha hv n1 n2) ((re.keep k1).keep kk) q1.2⟩
  · exact q1.elim
end
section
variable {X : Cx} {K : PySem.W.Frag} {cn m x : Str} {C g : Addr} {o e : Expr} {es : List Expr} {to : TE} {dO : DTE} {t : TA} {da : DTA} {k : Nat} {fd : FuncData} {ps : List Str} {dsp : DSp} {apos pos p : Pos}
theorem sim_meth [Bs] (T : ClsD K cn C) (ho : Sim K to dO) (ha : SimA K t da) : Sim K (tMeth C m (spOf K dsp) [] E0 to t) (dMeth cn m dsp dO da) := by
  intro ρ env st σ H Q W rs re q w
  refine ho ρ env st σ H _ _ rs re q fun v H1 ⟨ρ1, d1, st1, k1, r1, p1, q1⟩ => ?_
  dsimp only at q1
  split at q1
  · rename_i k fs e
    obtain ⟨rfl, e2, a, dx, vs, hadd, rfl, hv, hnm, hr⟩ := ins_at T r1 p1 e
    refine ⟨a, dx, vs, rfl, hv, (fs_lookup hnm hr).2 q1.1, ?_⟩
    refine ha ρ1 env st1 σ H1 _ _ r1 (re.keep k1) q1.2 fun xs H2 ⟨ρ2, ds, st2, k2, r2, px, q2⟩ => ?_
    rw [List.append_nil]
    exact ⟨ρ2, .ref k :: ds, st2, Q, r2.dn, .cons (p1.keep k2) px, q2, fun v H' pq => w v H' ((PostE.up r2 pq).keep (k1.trans k2))⟩
  · exact q1.elim
theorem se_meth [Bs] [hk : HasK X K] {pl : Sem Bool} (T : ClsD K cn C) (hm : Meth K C m g) (F : FnOk X.prog X.w K X.mg X.base CX0 k g fd ps (spOf K dsp)) (hr : Room k X.A) (hb : Binds K fd ps []) (ho : SE X o to dO) (ha : SA X (e :: es) t da)
    (hst : starEach (e :: es) X.env = (false, eval e X.env) :: starEach es X.env := by rfl) (hpl : (backTo pos (starEach es X.env)).any (·.1) = false := by rfl)
    (ht : eval (.Call (.Attribute o m apos) (e :: es) [] pos) X.env = (do
      let ov ← eval o X.env
      standAt apos.atName
      let (f, first) ← holding [ov] (getMethod ov m pl)
      callWith pos f first (backTo pos (starEach (e :: es) X.env)) (backToKw pos (keywordEach [] X.env))) := by rfl) :
    SE X (.Call (.Attribute o m apos) (e :: es) [] pos) (tMeth C m (spOf K dsp) [] E0 to t) (dMeth cn m dsp dO da) := by
  obtain rfl := hk.eq
  exact ⟨pe_meth ho.pe T.cls hm F hr hb .nil pass0 ha.pa hst hpl ht, sim_meth T ho.sim ha.sim⟩
theorem se_make [Bs] [hk : HasK X K] (T : ClsD K cn C) (M : Mk K C g) (F : FnOk X.prog X.w K X.mg X.base CX0 k g fd ps (spOf K dsp)) (hr : Room (k + 1) X.A) (hg : Gl X x) (hm : X.mg x = some (.ref C)) (hb : Binds K fd ps []) (ha : SA X (e :: es) t da)
    (hdb : (x == ("__debug__" : Str)) = false := by decide) (he : starEach (e :: es) X.env = (false, eval e X.env) :: starEach es X.env := by rfl) (hpl : (backTo pos (starEach es X.env)).any (·.1) = false := by rfl) :
    SE X (.Call (.Name x p) (e :: es) [] pos) (tMake C (spOf K dsp) [] E0 t) (dMake cn dsp da) := by
  obtain rfl := hk.eq
  refine ⟨pe_make M F hr hg hm hb .nil pass0 ha.pa hdb he hpl, fun ρ env st σ H Q W rs re q w => ?_⟩
  refine ha.sim ρ env st σ H _ _ rs re q fun xs H1 ⟨ρ1, ds, st1, k1, r1, px, q1⟩ => ?_
  intro a dx h1 h2 h3
  obtain ⟨r2, k2⟩ := r1.cellI T h1 h2 h3
  rw [List.append_nil]
  have pa : Rep X.K (ρ1 ++ [a]) (upd (upd H1 dx (.own a)) a (.ins C dx [])) (.ref st1.length) (.ref a) := by
    unfold Rep
    exact ⟨a, by rw [List.getElem?_append_right (by rw [r1.len]; exact Nat.le_refl _), r1.len, Nat.sub_self]; rfl, rfl⟩
  refine ⟨ρ1 ++ [a], .ref st1.length :: ds, st1 ++ [.ins cn []], _, r2.dn, .cons pa (px.keep k2), q1, fun v H' hh => ?_⟩
  obtain ⟨ρ3, d3, st3, k3, r3, p3, q3⟩ := PostE.up r2 hh
  obtain ⟨rfl, q3⟩ := q3
  exact ⟨rep_non p3, w _ _ ⟨ρ3, .ref st1.length, st3, (k1.trans k2).trans k3, r3, pa.keep k3, q3⟩⟩
/-! gcd -/
def dGcd : DRA := fun ds st Q => match ds with
  | [.int a, .int b] => Q (.int ((Nat.gcd a.natAbs b.natAbs : Nat) : Int)) st
  | _ => False
theorem sim_gcd [Bs] {K : PySem.W.Frag} : SimRA K rGcd dGcd := by
  intro ρ st H xs dxs Q W rs px q w
  unfold dGcd at q
  split at q
  · rename_i a b
    obtain ⟨v, u, rfl, p1, p2⟩ := px.two
    rw [rep_int p1, rep_int p2]
    exact ⟨a, b, rfl, w _ H (.of rs (.int _) q)⟩
  · exact q.elim
theorem se_gcd [Bs] [hk : HasK X K] (hg : Gl X x) (hm : X.mg x = some (.builtin "math.gcd")) (ha : SA X (e :: es) t da) (hdb : (x == ("__debug__" : Str)) = false := by decide)
    (he : starEach (e :: es) X.env = (false, eval e X.env) :: starEach es X.env := by rfl) (hpl : (backTo pos (starEach es X.env)).any (·.1) = false := by rfl) : SE X (.Call (.Name x p) (e :: es) [] pos) (tCB rGcd t) (dCB dGcd da) := by
  obtain rfl := hk.eq
  exact ⟨pe_callBfun cr_gcd hg hm ha.pa hdb he hpl, sim_cb sim_gcd ha.sim⟩
end
/-! min, max of a list of ints -/
def dMinL : DRA := fun ds st Q => ∃ (k : Nat) (ns : List Int), ds = [.ref k] ∧ st[k]? = some (.lst (ns.map D.int)) ∧ 0 < ns.length ∧ ∀ m, m ∈ ns → (∀ y, y ∈ ns → m ≤ y) → Q (.int m) st
def dMaxL : DRA := fun ds st Q => ∃ (k : Nat) (ns : List Int), ds = [.ref k] ∧ st[k]? = some (.lst (ns.map D.int)) ∧ 0 < ns.length ∧ ∀ m, m ∈ ns → (∀ y, y ∈ ns → y ≤ m) → Q (.int m) st
theorem sc_minL [Bs] {X : Cx} {K : PySem.W.Frag} [hk : HasK X K] (hc : X.calm = true) : SCl X (.builtin "min") (rMin K) dMinL := by
  obtain rfl := hk.eq
  refine ⟨cr_min hc, fun ρ st H xs dxs Q W rs px q w => ?_⟩
  obtain ⟨k, ns, rfl, hk, hn, q⟩ := q
  obtain ⟨v, rfl, r⟩ := px.one
  obtain ⟨a, ha, rfl⟩ := rep_ref r
  obtain ⟨vs, hv, hr⟩ := rs.lst ha hk
  obtain rfl := reps_ints hr
  exact ⟨a, ns, rfl, SqL.of hv, hn, fun m h1 h2 => w _ H (.of rs (.int _) (q m h1 h2))⟩
theorem sc_maxL [Bs] {X : Cx} {K : PySem.W.Frag} [hk : HasK X K] (hc : X.calm = true) : SCl X (.builtin "max") (rMax K) dMaxL := by
  obtain rfl := hk.eq
  refine ⟨cr_max hc, fun ρ st H xs dxs Q W rs px q w => ?_⟩
  obtain ⟨k, ns, rfl, hk, hn, q⟩ := q
  obtain ⟨v, rfl, r⟩ := px.one
  obtain ⟨a, ha, rfl⟩ := rep_ref r
  obtain ⟨vs, hv, hr⟩ := rs.lst ha hk
  obtain rfl := reps_ints hr
  exact ⟨a, ns, rfl, SqL.of hv, hn, fun m h1 h2 => w _ H (.of rs (.int _) (q m h1 h2))⟩
end DL

/-! sorted(a list of letters): some order of them -/
namespace DL
open PySem PySem.Spec L2 PyProof.Rows
section
variable {prog : Program} {w : World} {A : Around} {E : Value → Shared → Prop} {s : Shared}
def IsLet (h : Heap) (v : Value) : Prop := ∃ (a : Addr) (o : Obj) (z : Str) (t : Tok) (xs : List Value) (n : Nat), v = .ref a ∧ h.get? a = some o ∧ o.cls = .type "tuple" ∧ o.data = .seq (.str z t :: xs).toArray n ∧ ∀ x ∈ xs, ∃ i t, x = Value.int i t
theorem IsLet.keeps {h h' : Heap} {v : Value} (p : IsLet h v) (k : ∀ b o, h.get? b = some o → o.cls = .type "tuple" → h'.get? b = some o) : IsLet h' v := by
  obtain ⟨a, o, z, t, xs, n, e, ho, hc, hd, hx⟩ := p
  exact ⟨a, o, z, t, xs, n, e, k _ _ ho hc, hc, hd, hx⟩
theorem kat_ints {fin : Bool} : ∀ (xs ys : List Value) (i : Nat), 0 < i → (∀ x ∈ xs, ∃ j t, x = Value.int j t) → (∀ x ∈ ys, ∃ j t, x = Value.int j t) →
    ∃ b : Bool, PySem.W.KatLex prog w A true fin (fun r s' => s' = s ∧ r = b) (xs.zip ys) i s
  | [], ys, i, _, _, _ => ⟨fin, by rw [List.zip_nil_left]; exact PySem.W.kat_nil ⟨rfl, rfl⟩⟩
  | x :: xs, [], i, _, _, _ => ⟨fin, by rw [List.zip_nil_right]; exact PySem.W.kat_nil ⟨rfl, rfl⟩⟩
  | x :: xs, y :: ys, i, hi, hx, hy => by
    obtain ⟨b, hb⟩ := kat_ints (fin := fin) xs ys (i + 1) (by omega) (fun x hh => hx x (by simp [hh])) (fun x hh => hy x (by simp [hh]))
    obtain ⟨p, t, rfl⟩ := hx x (by simp)
    obtain ⟨q, u, rfl⟩ := hy y (by simp)
    have hi0 : (true && i == 0) = false := by
      have : (i == 0) = false := by
        rw [beq_eq_false_iff_ne]
        omega
      rw [this]
      rfl
    refine ⟨if p = q then b else decide (p < q), ?_⟩
    rw [List.zip_cons_cons]
    refine PySem.W.kat_cons (SeqAt.EqAt.int_int p t q u prog w _ _ ?_)
    refine PySem.W.kat_go (fun e1 => ?_) (fun e1 => ?_)
    · have ex : p = q := by simpa using e1
      rw [if_pos ex]
      exact PySem.W.kat_yes hb
    · have ex : ¬ p = q := by simpa using e1
      rw [if_neg ex]
      refine PySem.W.kat_no ?_
      rw [hi0]
      exact PySem.W.kat_one _ _ (PyProof.Rows.lt_int ⟨rfl, rfl⟩)
theorem let_tot {vs : List Value} (hp : ∀ v ∈ vs, IsLet s.heap v) : Srt.Tot prog w A s (tuples' true) (fun p => p.1 ∈ vs) := by
  intro p q hm hm'
  obtain ⟨a, o, z, t, xs, n, e, ho, hc, hd, hx⟩ := hp _ hm
  obtain ⟨a', o', z', t', xs', n', e', ho', hc', hd', hx'⟩ := hp _ hm'
  rw [e, e']
  obtain ⟨b, hb⟩ := kat_ints (prog := prog) (w := w) (A := A) (s := s) (fin := decide ((Value.str z t :: xs).toArray.size < (Value.str z' t' :: xs').toArray.size)) xs xs' 1 (by decide) hx hx'
  refine ⟨if z == z' then b else decide (z.cps.toList < z'.cps.toList), ?_⟩
  refine PySem.W.kat_lt ho hd ho' hd' ?_
  show PySem.W.KatLex prog w A true _ _ ((Value.str z t, Value.str z' t') :: xs.zip xs') 0 s
  refine PySem.W.kat_cons (SeqAt.EqAt.str_str z t z' t' prog w _ _ ?_)
  refine PySem.W.kat_go (fun e1 => ?_) (fun e1 => ?_)
  · rw [e1]
    exact PySem.W.kat_yes hb
  · rw [e1]
    refine PySem.W.kat_no (PyProof.Rows.oneLt_str ?_)
    exact ⟨rfl, rfl⟩
theorem let_firsts {h : Heap} : ∀ {vs : List Value}, (∀ v ∈ vs, IsLet h v) → ∃ fs : List Value, PySem.W.KatTups h vs fs ∧ fs.length = vs.length ∧ ∀ f ∈ fs, ∃ z t, f = Value.str z t
  | [], _ => ⟨[], PySem.W.KatTups.nil, rfl, fun _ hm => by simp at hm⟩
  | v :: vs, hp => by
    obtain ⟨fs, h1, h2, h3⟩ := let_firsts (vs := vs) fun v' hm => hp v' (List.mem_cons_of_mem _ hm)
    obtain ⟨a, o, z, t, xs, n, e, ho, hc, hd, hx⟩ := hp v (List.mem_cons_self ..)
    subst e
    refine ⟨.str z t :: fs, PySem.W.KatTups.cons ho hc hd rfl h1, by rw [List.length_cons, List.length_cons, h2], fun f hm => ?_⟩
    rcases List.mem_cons.mp hm with rfl | hm
    · exact ⟨z, t, rfl⟩
    · exact h3 f hm
theorem let_sortable {a : Addr} {vs : List Value} (h0 : 0 < vs.length) (hp : ∀ v ∈ vs, IsLet s.heap v) (ha : ∀ o, s.heap.get? a = some o → o.cls ≠ .type "tuple") : Srt.Sortable prog w A s a vs := by
  intro h' keep
  have hp' : ∀ v ∈ vs, IsLet h' v := fun v hm => (hp v hm).keeps fun b o e c => keep b o (fun z => by subst z; exact ha o e c) e
  obtain ⟨fs, h1, h2, h3⟩ := let_firsts hp'
  refine ⟨tuples' true, fun Q E hq => ?_, let_tot hp'⟩
  refine PySem.W.kat_kind (T := .type "str") h1 (by omega) (fun f hm => ?_) (by rfl) ?_
  · obtain ⟨x, t, rfl⟩ := h3 f hm
    exact PySem.W.Looks.now
  · have e : (Value.type "str" != Value.type "tuple") = true := by first | decide +kernel | rfl | decide
    rw [e]
    exact hq
theorem sorted_lets {l : Addr} {vs : List Value} {Q : Value → Shared → Prop} (hl : s.heap.IsList l vs.toArray) (hz : vs.length ≤ sizeLine) (hp : ∀ v ∈ vs, IsLet s.heap v)
    (h : ∀ (h' : Heap) (d : Addr) (out : List Value), out.Perm vs → (∀ b o, s.heap.get? b = some o → h'.get? b = some o) → s.heap.objs.size ≤ d → (∃ n, h'.get? d = some (seqObj "list" out.toArray n)) → Q (.ref d) { s with heap := h' }) :
    wpAny (model prog w) A (call (.builtin "sorted") [.ref l]) Q E s := by
  refine Srt.sorted_any hl hz (fun h2 h₁ a ha k => ?_) fun out ho => ?_
  · refine let_sortable (s := { s with heap := h₁ }) (by omega) (fun v hm => (hp v hm).keeps fun b o e _ => (k b o e).2) fun o e => ?_
    have e' : some o = some (seqObj "list" vs.toArray 0) := e.symm.trans ha
    cases e'
    intro c
    exact absurd (Value.type.inj c) (by decide)
  · exact h _ _ out ho (fun b o e => sortedAll_old e) (Nat.le_succ _) (sortedAll_at s.heap vs out.toArray)
end
def rSortedL (K : PySem.W.Frag) : List V → Hp → VK → Prop := fun vs H Q => ∃ a xs, vs = [V.ref a] ∧ SqL K H a xs ∧ (∀ x ∈ xs, ∃ (t : Addr) (z : Str) (ns : List Int), x = V.ref t ∧ SqT K H t (.str z :: ns.map V.int)) ∧
  ∀ ys p, ys.Perm xs → H p = none → Q (.ref p) (upd H p (.lst ys))
theorem vals_ints : ∀ {ns : List Int} {us : List Value}, Vals (ns.map V.int) us → ∀ x ∈ us, ∃ i t, x = Value.int i t
  | [], us, h, x, hx => by
    cases h
    cases hx
  | n :: ns, us, h, x, hx => by
    cases h with
    | cons r rr =>
      rcases List.mem_cons.mp hx with rfl | hx
      · obtain ⟨t, rfl⟩ := r
        exact ⟨n, t, rfl⟩
      · exact vals_ints rr x hx
theorem cr_sortedL {X : Cx} : CallR X (.builtin "sorted") (rSortedL X.K) := by
  intro pins s σ H vs us Q I r h
  obtain ⟨a, xs, rfl, hs, hx, q⟩ := h
  obtain ⟨its, rv, hl, hz⟩ := I.list hs
  obtain ⟨u, rfl, ru⟩ := vals1 r
  obtain rfl : u = Value.ref a := ru
  obtain ⟨e1, e2⟩ := refs_back rv fun x m => by
    obtain ⟨t, _, _, e, _⟩ := hx x m
    exact ⟨t, e⟩
  refine sorted_lets hl.isList (by rw [← rv.length]; exact hz) (fun v hv => ?_) fun h' d out hp k hd hn => ?_
  · obtain ⟨t, rfl⟩ := e2 v hv
    have hm : V.ref t ∈ xs := by rw [e1]; exact List.mem_map.mpr ⟨_, hv, rfl⟩
    obtain ⟨t', z, ns, e, ht⟩ := hx _ hm
    cases e
    obtain ⟨its2, r2, ⟨o, ho, hc, n, hd⟩, _⟩ := I.tuple ht
    cases r2 with
    | cons r1 rr =>
      obtain ⟨tk, rfl⟩ := r1
      exact ⟨t, o, z, tk, _, n, rfl, ho, hc, hd, vals_ints rr⟩
  · have h3 : ∀ u ∈ out, ∃ a, u = Value.ref a := fun u hu => e2 u (hp.mem_iff.mp hu)
    obtain ⟨n, hn⟩ := hn
    refine ⟨.ref d, upd H d (.lst (out.map backV)), I.laid (t' := s.toks) k hd ⟨?_, out, n, vals_back h3, hn⟩, rfl, q _ d ?_ (I.hok.fresh hd)⟩
    · rw [List.length_map, hp.length_eq, ← rv.length]; exact hz
    · rw [e1]; exact hp.map backV
def Lets (xs : List D) : Prop := ∀ x ∈ xs, ∃ (z : Str) (ns : List Int), x = .tup (.str z :: ns.map D.int)
def dSorted : DRA := fun ds st Q => match ds with
  | [x] => match dItems st x with
    | some xs => Lets xs ∧ (∀ z, x ≠ .str z) ∧ (∀ ys, x ≠ .tup ys) ∧ ∀ ys : List D, ys.Perm xs → Q (.ref st.length) (st ++ [.lst ys])
    | none => False
  | _ => False
theorem reps_perm {K : PySem.W.Frag} {ρ : List Addr} {H : Hp} {vs vs' : List V} (p : vs'.Perm vs) : ∀ {xs : List D}, Reps K ρ H xs vs → ∃ ys : List D, ys.Perm xs ∧ Reps K ρ H ys vs' := by
  induction p with
  | nil => exact fun {xs} h => ⟨xs, List.Perm.refl _, h⟩
  | cons v p ih =>
    intro xs h
    cases xs with
    | nil => unfold Reps at h; cases h
    | cons x xs =>
      unfold Reps at h
      obtain ⟨v', r, e, h1, h2⟩ := h
      obtain ⟨rfl, rfl⟩ := List.cons.inj e
      obtain ⟨ys, p1, p2⟩ := ih h2
      exact ⟨x :: ys, p1.cons x, .cons h1 p2⟩
  | swap v u l =>
    intro xs h
    cases xs with
    | nil => unfold Reps at h; cases h
    | cons x xs =>
      unfold Reps at h
      obtain ⟨v', r, e, h1, h2⟩ := h
      obtain ⟨rfl, rfl⟩ := List.cons.inj e
      cases xs with
      | nil => unfold Reps at h2; cases h2
      | cons y ys =>
        unfold Reps at h2
        obtain ⟨v2, r2, e2, h3, h4⟩ := h2
        obtain ⟨rfl, rfl⟩ := List.cons.inj e2
        exact ⟨y :: x :: ys, List.Perm.swap x y ys, .cons h3 (.cons h1 h4)⟩
  | trans p1 p2 i1 i2 =>
    intro xs h
    obtain ⟨ys, q1, q2⟩ := i2 h
    obtain ⟨zs, q3, q4⟩ := i1 q2
    exact ⟨zs, q3.trans q1, q4⟩
theorem reps_mem {K : PySem.W.Frag} {ρ : List Addr} {H : Hp} : ∀ {xs : List D} {vs : List V}, Reps K ρ H xs vs → ∀ v ∈ vs, ∃ x ∈ xs, Rep K ρ H x v
  | [], vs, h, v, hv => by unfold Reps at h; rw [h] at hv; cases hv
  | x :: xs, vs, h, v, hv => by
    unfold Reps at h
    obtain ⟨u, r, rfl, h1, h2⟩ := h
    rcases List.mem_cons.mp hv with rfl | hv
    · exact ⟨x, by simp, h1⟩
    · obtain ⟨y, hy, h3⟩ := reps_mem h2 v hv
      exact ⟨y, by simp [hy], h3⟩
theorem sc_sorted [Bs] {X : Cx} {K : PySem.W.Frag} [hk : HasK X K] : SCl X (.builtin "sorted") (rSortedL K) dSorted := by
  obtain rfl := hk.eq
  refine ⟨cr_sortedL, fun ρ st H xs dxs Q W rs px q w => ?_⟩
  unfold dSorted at q
  split at q
  · rename_i x
    unfold Reps at px
    obtain ⟨v, r, rfl, p1, p2⟩ := px
    unfold Reps at p2
    subst p2
    split at q
    · rename_i ys e
      obtain ⟨hlets, hns, hnt, q⟩ := q
      have hSq : ∃ a vs, v = .ref a ∧ SqL X.K H a vs ∧ Reps X.K ρ H ys vs := by
        cases x with
        | rol zs =>
          cases e
          obtain ⟨a, vs, rfl, hs, hr⟩ := rep_rol p1
          exact ⟨a, vs, rfl, sqf_l hs, hr⟩
        | ref k =>
          obtain ⟨a, ha, rfl⟩ := rep_ref p1
          unfold dItems at e
          dsimp only at e
          split at e
          · rename_i zs e2
            cases e
            obtain ⟨vs, hv, hr⟩ := rs.lst ha e2
            exact ⟨a, vs, rfl, SqL.of hv, hr⟩
          · cases e
        | tup zs => exact absurd rfl (hnt zs)
        | str z => exact absurd rfl (hns z)
        | _ => first | cases e | skip
      obtain ⟨a, vs, rfl, hs, hr⟩ := hSq
      refine ⟨a, vs, rfl, hs, fun u hu => ?_, fun us p hp hf => ?_⟩
      · obtain ⟨y, hy, ry⟩ := reps_mem hr u hu
        obtain ⟨z, ns, rfl⟩ := hlets y hy
        obtain ⟨t, ws, rfl, hst, hrs⟩ := rep_tup ry
        unfold Reps at hrs
        obtain ⟨v1, r1, rfl, h1, h2⟩ := hrs
        rw [rep_str h1, reps_ints h2] at hst
        exact ⟨t, z, ns, rfl, hst⟩
      · obtain ⟨zs, z1, z2⟩ := reps_perm hp hr
        exact w _ _ (PostE.lst rs hf z2 (q zs z1))
    · exact q.elim
  · exact q.elim
end DL

/-! the readings, by what they are given -/
namespace DL
open PySem PySem.Spec L2 Wd
section
variable {st : Store} {Q : DQ} {k l : Nat} {xs ys : List D} {x y : D} {i j : Int} {z u : Str} {env : DEnv} {w v : Word} {QB : Bool → Store → Prop}
theorem w_add_i : dAdd (.int i) (.int j) st Q = Q (.int (i + j)) st := rfl
theorem w_add_t : dAdd (.tup xs) (.tup ys) st Q = (xs.length + ys.length ≤ sizeLine ∧ Q (.tup (xs ++ ys)) st) := rfl
theorem w_add_s : dAdd (.str z) (.str u) st Q = (z.length + u.length ≤ sizeLine ∧ Q (.str (z ++ u)) st) := rfl
theorem w_add_r : dAdd (.ref k) (.ref l) st Q = match st[k]?, st[l]? with
    | some (.lst a), some (.lst b) => a.length + b.length ≤ sizeLine ∧ Q (.ref st.length) (st ++ [.lst (a ++ b)])
    | _, _ => False := rfl
theorem w_mul_i : dMul (.int i) (.int j) st Q = (CMulA i j ∧ Q (.int (i * j)) st) := rfl
theorem w_ii {C : Int → Int → Prop} {g : Int → Int → D} : dII C g (.int i) (.int j) st Q = (C i j ∧ Q (g i j) st) := rfl
theorem w_i0 {g : Int → Int → D} : dI0 g (.int i) (.int j) st Q = Q (g i j) st := rfl
theorem w_int_i : D.int? (.int i) = some i := rfl
theorem w_int_b {b : Bool} : D.int? (.bl b) = some (if b then 1 else 0) := rfl
theorem w_min : dMin [.int i, .int j] st Q = Q (.int (if j < i then j else i)) st := rfl
theorem w_max : dMax [.int i, .int j] st Q = Q (.int (if j > i then j else i)) st := rfl
theorem w_mulT_i : dMulT (.int i) (.int j) st Q = (CMulA i j ∧ Q (.int (i * j)) st) := rfl
theorem w_mulT_t : dMulT (.tup xs) (.int j) st Q = (xs ≠ [] ∧ 1 ≤ j ∧ j ≤ 1000 ∧ xs.length ≤ 1000 ∧ Q (.tup (List.replicate j.toNat xs).flatten) st) := rfl
theorem w_mulT_W : dMulT (dW w) (.int j) st Q = (w ≠ [] ∧ 1 ≤ j ∧ j ≤ 1000 ∧ w.length ≤ 1000 ∧ Q (dW (List.replicate j.toNat w).flatten) st) := by
  unfold dW
  rw [w_mulT_t]
  rw [List.length_map, List.map_flatten, List.map_replicate]
  simp
theorem w_gK11 : gK 1 1 [x] [y] = [x, y] := rfl
def dStarK (x : D) (env : DEnv) (dr : DTA) (st : Store) (R : List D → Store → Prop) : Prop := (match x with | .str _ => False | _ => True) ∧ match dItems st x with
  | some xs => dr env st fun ys st2 => R (xs ++ ys) st2
  | none => False
theorem w_star {de : DTE} {dr : DTA} {R : List D → Store → Prop} : dStar de dr env st R = de env st fun x st1 => dStarK x env dr st1 R := rfl
theorem w_star_t {dr : DTA} {R : List D → Store → Prop} : dStarK (.tup xs) env dr st R = dr env st fun ys st2 => R (xs ++ ys) st2 := by
  simp [dStarK, dItems]
theorem w_star_W {dr : DTA} {R : List D → Store → Prop} : dStarK (dW w) env dr st R = dr env st fun ys st2 => R (w.map dRun ++ ys) st2 := by
  simp [dStarK, dItems, dW]
theorem dEqv_bl {b c : Bool} : dEqv st (.bl b) (.bl c) = some (b == c) := by
  rw [dEqv_fl rfl rfl]
  simp only [D.py, PyData.eqv]
theorem dSum_ref {ns : List Int} {m : Nat} (h : st[m]? = some (.lst (ns.map D.int))) (q : Q (.int ns.sum) st) : dSum [.ref m] st Q := ⟨m, ns, rfl, h, q⟩
theorem dEqv_W0 : dEqv st (dW w) (.tup []) = some (decide (w = [])) := dEqv_W w []
theorem cut_mid {s e : Nat} (h1 : s ≤ e) (h2 : e ≤ xs.length) : cutD xs (some (s : Int)) (some (e : Int)) = (xs.drop s).take (e - s) := by
  unfold cutD
  rw [HT.sIx_nat, HT.sIx_nat, Nat.min_eq_left h2, Nat.min_eq_left (by omega)]
theorem cut_inner {a b : D} : cutD (a :: (xs ++ [b])) (some 1) (some (-1)) = xs := by
  unfold cutD
  have e1 : HT.sIx (a :: (xs ++ [b])).length 0 (some 1) = 1 := by
    have := HT.sIx_nat (a :: (xs ++ [b])).length 0 1
    rw [List.length_cons, List.length_append] at this ⊢
    simp at this ⊢
    omega
  have e2 : HT.sIx (a :: (xs ++ [b])).length (a :: (xs ++ [b])).length (some (-1)) = xs.length + 1 := by
    show (if (-1 : Int) < 0 then (-1 + ((a :: (xs ++ [b])).length : Int)).toNat else min (-1 : Int).toNat (a :: (xs ++ [b])).length) = _
    rw [if_pos (by omega), List.length_cons, List.length_append, List.length_singleton]
    omega
  rw [e1, e2, List.drop_succ_cons, List.drop_zero, Nat.add_sub_cancel, List.take_left]
theorem sl_midW {s e : Nat} (h1 : s ≤ e) (h2 : e ≤ w.length) : dSl (dW w) (some (s : Int)) (some (e : Int)) st Q = Q (dW ((w.drop s).take (e - s))) st := by
  unfold dSl dW
  dsimp only
  rw [cut_mid h1 (by rw [List.length_map]; exact h2), List.map_take, List.map_drop]
theorem sl_innerW {a b : Run} : dSl (dW (a :: (w ++ [b]))) (some 1) (some (-1)) st Q = Q (dW w) st := by
  unfold dSl dW
  dsimp only
  rw [List.map_cons, List.map_append, List.map_cons, List.map_nil, cut_inner]
theorem item_lastW {b : Run} : dItem st (dW (w ++ [b])) (-1) = some (dRun b) := by
  unfold dW
  rw [List.map_append]
  exact atI_end _ _
def mk : Letter := ⟨33, []⟩
theorem w_mark : D.tup [D.str (Str.ofString "!")] = dL mk := by
  have e : Str.ofString "!" = ⟨#[33]⟩ := by decide
  rw [e]
  rfl
theorem w_extT {zs : List D} : dExtT (.ref k) [.tup zs] st Q = match st[k]? with
    | some (.lst xs) => xs.length + zs.length ≤ sizeLine ∧ Q .non (st.set k (.lst (xs ++ zs)))
    | _ => False := rfl
theorem w_extT_W : dExtT (.ref k) [dW w] st Q = match st[k]? with
    | some (.lst xs) => xs.length + w.length ≤ sizeLine ∧ Q .non (st.set k (.lst (xs ++ w.map dRun)))
    | _ => False := by
  unfold dW
  rw [w_extT, List.length_map]
theorem w_neg : dNeg (.int i) st Q = Q (.int (-i)) st := rfl
theorem w_ix : dIx x (.int i) st Q = match dItem st x i with
    | some d => Q d st
    | none => False := rfl
theorem w_len_t : dLen [.tup xs] st Q = Q (.int xs.length) st := rfl
theorem w_len_l : dLen [.rol xs] st Q = Q (.int xs.length) st := rfl
theorem w_len_r : dLen [.ref k] st Q = match st[k]? with
    | some (.lst xs) => Q (.int xs.length) st
    | _ => False := rfl
theorem w_list_t : dListOf [.tup xs] st Q = Q (.ref st.length) (st ++ [.lst xs]) := rfl
theorem w_list_l : dListOf [.rol xs] st Q = Q (.ref st.length) (st ++ [.lst xs]) := rfl
theorem w_list_r : dListOf [.ref k] st Q = match st[k]? with
    | some (.lst xs) => Q (.ref st.length) (st ++ [.lst xs])
    | _ => False := rfl
theorem w_list_W : dListOf [dW w] st Q = Q (.ref st.length) (st ++ [.lst (w.map dRun)]) := rfl
theorem w_tuple_t : dTupleOf [.tup xs] st Q = Q (.tup xs) st := rfl
theorem w_tuple_l : dTupleOf [.rol xs] st Q = Q (.tup xs) st := rfl
theorem w_tuple_r : dTupleOf [.ref k] st Q = match st[k]? with
    | some (.lst xs) => Q (.tup xs) st
    | _ => False := rfl
theorem w_tuple_W : dTupleOf [dW w] st Q = Q (dW w) st := rfl
theorem w_tup_W : D.tup (w.map dRun) = dW w := rfl
theorem w_item_t : dItem st (.tup xs) i = atI xs i := rfl
theorem w_item_l : dItem st (.rol xs) i = atI xs i := rfl
theorem w_items_t : dItems st (.tup xs) = some xs := rfl
theorem w_items_l : dItems st (.rol xs) = some xs := rfl
theorem w_items_W : dItems st (dW w) = some (w.map dRun) := rfl
theorem w_items_r : dItems st (.ref k) = match st[k]? with
    | some (.lst xs) => some xs
    | _ => none := rfl
theorem w_tru_b {b : Bool} : dTru (.bl b) st QB = QB b st := rfl
theorem w_tru_i : dTru (.int i) st QB = QB (i != 0) st := rfl
theorem w_tru_t : dTru (.tup xs) st QB = QB (!xs.isEmpty) st := rfl
theorem w_tru_W : dTru (dW w) st QB = QB (!w.isEmpty) st := by
  unfold dTru dW
  simp
theorem w_tru_l : dTru (.rol xs) st QB = QB (!xs.isEmpty) st := rfl
theorem w_tru_n : dTru .non st QB = QB false st := rfl
theorem w_tru_r : dTru (.ref k) st QB = match st[k]? with
    | some (.lst xs) => QB (!xs.isEmpty) st
    | _ => False := rfl
theorem w_gtup {n : Nat} {t : DTGs} {R : DEnv → Store → Prop} : dgTup n t (.tup xs) env st R = (xs.length = n ∧ t xs env st R) := rfl
theorem w_gcons {t : DTG} {u : DTGs} {R : DEnv → Store → Prop} : dgCons t u (x :: xs) env st R = t x env st fun env' st' => u xs env' st' R := rfl
theorem w_gnil {R : DEnv → Store → Prop} : dgNil [] env st R = R env st := rfl
def dRevK (x : D) (fin : List D → Store → DQ → Prop) (st : Store) (Q : DQ) : Prop := match x with
  | .ref k => match st[k]? with
    | some (.lst xs) => fin xs.reverse st Q
    | _ => False
  | .rol xs => fin xs.reverse st Q
  | _ => False
theorem w_revOf {te : DTE} {fin : List D → Store → DQ → Prop} : dRevOf te fin env st Q = te env st fun x st1 => dRevK x fin st1 Q := rfl
theorem w_rev_r {fin : List D → Store → DQ → Prop} : dRevK (.ref k) fin st Q = match st[k]? with
    | some (.lst xs) => fin xs.reverse st Q
    | _ => False := rfl
theorem w_rev_l {fin : List D → Store → DQ → Prop} : dRevK (.rol xs) fin st Q = fin xs.reverse st Q := rfl
theorem w_sl_t {lo hi : Option Int} : dSl (.tup xs) lo hi st Q = Q (.tup (cutD xs lo hi)) st := rfl
theorem w_sl_l {lo hi : Option Int} : dSl (.rol xs) lo hi st Q = Q (.ref st.length) (st ++ [.lst (cutD xs lo hi)]) := rfl
theorem w_sl_r {lo hi : Option Int} : dSl (.ref k) lo hi st Q = match st[k]? with
    | some (.lst xs) => Q (.ref st.length) (st ++ [.lst (cutD xs lo hi)])
    | _ => False := rfl
theorem w_ty_n : D.tyName st .non = some "NoneType" := rfl
theorem w_ty_b {b : Bool} : D.tyName st (.bl b) = some "bool" := rfl
theorem w_ty_i : D.tyName st (.int i) = some "int" := rfl
theorem w_ty_s : D.tyName st (.str z) = some "str" := rfl
theorem w_ty_t : D.tyName st (.tup xs) = some "tuple" := rfl
theorem w_ty_l : D.tyName st (.rol xs) = some "list" := rfl
theorem w_snoc {α : Type} {f : α → D} {xs : List α} {x : α} : xs.map f ++ [f x] = (xs ++ [x]).map f := by simp
theorem w_app {α : Type} {f : α → D} {xs ys : List α} : xs.map f ++ ys.map f = (xs ++ ys).map f := by simp
theorem w_end {α : Type} {f : α → D} {xs : List α} {x : α} : atI ((xs ++ [x]).map f) (-1) = some (f x) := by
  rw [List.map_append]
  exact atI_end _ _
theorem w_endN {α : Type} {f : α → D} {xs : List α} {x : α} : ((xs ++ [x]).map f)[(xs ++ [x]).length - 1]? = some (f x) := by simp
theorem w_endN2 {α : Type} {f : α → D} {xs : List α} {x : α} : ((xs ++ [x]).map f)[xs.length]? = some (f x) := by simp
theorem w_dl {α : Type} {f : α → D} {xs : List α} {x : α} : ((xs ++ [x]).map f).dropLast = xs.map f := by simp
theorem w_nilmap {α : Type} {f : α → D} : ([] : List α).map f = [] := rfl
theorem w_emp {α : Type} {f : α → D} {xs : List α} : (xs.map f).isEmpty = xs.isEmpty := by simp
theorem w_beq0 {b : Bool} : ((!b) = true) = (b = false) := by simp
theorem w_items_ref (h : st[k]? = some (.lst xs)) : dItems st (.ref k) = some xs := by
  rw [w_items_r, h]
theorem dEqv_0L (l : Letter) : dEqv st (.tup []) (dL l) = some false := by
  rw [dEqv_fl rfl (fl_L 7 l)]
  rfl
theorem item_WN {n : Nat} {r : Run} (h : w[n]? = some r) : dItem st (dW w) (n : Int) = some (dRun r) := by
  obtain ⟨r', h', e⟩ := item_W (st := st) (w := w) (i := n) (by omega) (by have := (List.getElem?_eq_some_iff.mp h).1; omega)
  rw [e]
  rw [Int.toNat_natCast, h] at h'
  cases h'
  rfl
theorem w_sl_toN {n : Nat} : dSl (dW w) none (some (n : Int)) st Q = Q (dW (w.take n)) st := by
  rw [sl_to (by omega)]
  rfl
theorem w_sl_fromN {n : Nat} : dSl (dW w) (some (n : Int)) none st Q = Q (dW (w.drop n)) st := by
  rw [sl_from (by omega)]
  rfl
theorem w_cut_tail : cutD (x :: xs) (some 1) none = xs := by
  have := cut_from (xs := x :: xs) (k := 1)
  exact this
def IsSeq (st : Store) (x : D) (xs : List D) : Prop := dItems st x = some xs ∧ ∀ z, x ≠ .str z
theorem IsSeq.app {s2 : Store} (h : IsSeq st x xs) : IsSeq (st ++ s2) x xs := ⟨dItems_app h.1, h.2⟩
theorem IsSeq.W : IsSeq st (dW w) (w.map dRun) := ⟨rfl, fun _ e => by cases e⟩
theorem IsSeq.ref (h : st[k]? = some (.lst xs)) : IsSeq st (.ref k) xs := ⟨w_items_ref h, fun _ e => by cases e⟩
theorem list_seq (h : IsSeq st x xs) : dListOf [x] st Q = Q (.ref st.length) (st ++ [.lst xs]) := by
  obtain ⟨h, hz⟩ := h
  cases x with
  | tup ys => cases h; rfl
  | rol ys => cases h; rfl
  | ref k =>
    rw [w_items_r] at h
    rw [w_list_r]
    split at h
    · rename_i e
      cases h
      rfl
    · cases h
  | str z => exact absurd rfl (hz z)
  | _ => cases h
theorem dWh_step {c : DTT} {tb : DTS} {n f : Nat} {d : DEnds} : dWh c tb n d (f + 1) env st = c env st fun b st1 => if b = true then tb n { d with nx := dWh c tb n d f, ct := dWh c tb n d f, bk := d.nx } env st1 else d.nx env st1 := rfl
theorem w_gc {Q1 : DTS} {n : Nat} {d : DEnds} (hn : n ≤ st.length) (wf : Wf st) (we : ∀ (i : Nat) x, env[i]? = some (some x) → x.lt st.length) (h : Q1 n d env st) : dGc Q1 n d env st := gc_id hn wf we h
end
theorem w_isi_int_int : isiD "int" "int" = some true := rfl
theorem w_isi_bool_int : isiD "bool" "int" = some true := rfl
theorem w_isi_str_int : isiD "str" "int" = some false := rfl
theorem w_isi_tuple_int : isiD "tuple" "int" = some false := rfl
theorem w_isi_list_int : isiD "list" "int" = some false := rfl
theorem w_isi_NoneType_int : isiD "NoneType" "int" = some false := rfl
theorem w_isi_int_bool : isiD "int" "bool" = some false := rfl
theorem w_isi_bool_bool : isiD "bool" "bool" = some true := rfl
theorem w_isi_str_bool : isiD "str" "bool" = some false := rfl
theorem w_isi_tuple_bool : isiD "tuple" "bool" = some false := rfl
theorem w_isi_list_bool : isiD "list" "bool" = some false := rfl
theorem w_isi_NoneType_bool : isiD "NoneType" "bool" = some false := rfl
theorem w_isi_int_str : isiD "int" "str" = some false := rfl
theorem w_isi_bool_str : isiD "bool" "str" = some false := rfl
theorem w_isi_str_str : isiD "str" "str" = some true := rfl
theorem w_isi_tuple_str : isiD "tuple" "str" = some false := rfl
theorem w_isi_list_str : isiD "list" "str" = some false := rfl
theorem w_isi_NoneType_str : isiD "NoneType" "str" = some false := rfl
theorem w_isi_int_tuple : isiD "int" "tuple" = some false := rfl
theorem w_isi_bool_tuple : isiD "bool" "tuple" = some false := rfl
theorem w_isi_str_tuple : isiD "str" "tuple" = some false := rfl
theorem w_isi_tuple_tuple : isiD "tuple" "tuple" = some true := rfl
theorem w_isi_list_tuple : isiD "list" "tuple" = some false := rfl
theorem w_isi_NoneType_tuple : isiD "NoneType" "tuple" = some false := rfl
theorem w_isi_int_list : isiD "int" "list" = some false := rfl
theorem w_isi_bool_list : isiD "bool" "list" = some false := rfl
theorem w_isi_str_list : isiD "str" "list" = some false := rfl
theorem w_isi_tuple_list : isiD "tuple" "list" = some false := rfl
theorem w_isi_list_list : isiD "list" "list" = some true := rfl
theorem w_isi_NoneType_list : isiD "NoneType" "list" = some false := rfl

/-! pools and cells -/
abbrev Pool := {o : O // IsPool o}
theorem Pool.lt {n : Nat} (p : Pool) : p.1.lt n := IsPool.lt p.2
theorem ex_pool {p0 : Pool} {R : Pool → Prop} : (∃ p : Pool, some p0.1 = some p.1 ∧ R p) = R p0 := by
  apply propext
  constructor
  · rintro ⟨p, e, h⟩
    have : p = p0 := Subtype.ext (Option.some.inj e).symm
    rw [← this]
    exact h
  · intro h
    exact ⟨p0, rfl, h⟩
theorem p_app {S l : Store} {k : Nat} (h : k < S.length) : (S ++ l)[k]? = S[k]? := List.getElem?_append_left h
theorem p_setapp {S l : Store} {k : Nat} {o : O} (h : k < S.length) : (S ++ l).set k o = S.set k o ++ l := List.set_append_left _ _ h
theorem p_self {S : Store} {k : Nat} {o : O} (h : k < S.length) : (S.set k o)[k]? = some o := List.getElem?_set_self h
theorem p_ne {S : Store} {k j : Nat} {o : O} (h : k ≠ j) : (S.set k o)[j]? = S[j]? := List.getElem?_set_ne h
theorem p_fix {S : Store} {k : Nat} {o : O} (h : S[k]? = some o) : S.set k o = S := by
  have hk := (List.getElem?_eq_some_iff.mp h)
  obtain ⟨h1, h2⟩ := hk
  rw [← h2]
  exact List.set_getElem_self h1
theorem ix_end {n : Nat} : ixN (n + 1) (-1) = some n := by
  unfold ixN
  rw [if_neg (by omega), if_pos (by omega)]
  congr 1
  omega
theorem set_end_map {α : Type} {f : α → D} {xs : List α} {x y : α} : ((xs ++ [x]).map f).set xs.length (f y) = (xs ++ [y]).map f := by simp
theorem dEqv_cells {S : Store} {a b : Nat} {xs ys : List D} (ha : S[a]? = some (.lst xs)) (hb : S[b]? = some (.lst ys)) (fx : xs.all (D.fl 8) = true) (fy : ys.all (D.fl 8) = true) : dEqv S (.ref a) (.ref b) = some (PyData.eqvAll (D.pys xs) (D.pys ys)) := by
  have e1 : pyd S (.ref a) = some (.list (D.pys xs)) := by
    unfold pyd
    rw [if_neg (by simp [D.fl])]
    dsimp only
    rw [ha]
    dsimp only
    rw [if_pos fx]
  have e2 : pyd S (.ref b) = some (.list (D.pys ys)) := by
    unfold pyd
    rw [if_neg (by simp [D.fl])]
    dsimp only
    rw [hb]
    dsimp only
    rw [if_pos fy]
  unfold dEqv
  rw [e1, e2]
  dsimp only
  simp only [PyData.eqv]
theorem dEqv_runs {S : Store} {a b : Nat} {u v : Word} (ha : S[a]? = some (.lst (u.map dRun))) (hb : S[b]? = some (.lst (v.map dRun))) : dEqv S (.ref a) (.ref b) = some (decide (u = v)) := by
  rw [dEqv_cells ha hb (fl_runs 6 u) (fl_runs 6 v), eqv_runs]
theorem fl_Ws (ws : List Word) : (ws.map dW).all (D.fl 8) = true := by
  rw [List.all_eq_true]
  intro d hd
  obtain ⟨i, _, rfl⟩ := List.mem_map.mp hd
  exact fl_W 5 i
theorem eqv_Ws : ∀ u v : List Word, PyData.eqvAll (D.pys (u.map dW)) (D.pys (v.map dW)) = decide (u = v)
  | [], [] => by simp [D.pys, PyData.eqvAll]
  | [], k :: ks => by simp [D.pys, PyData.eqvAll]
  | h :: hs, [] => by simp [D.pys, PyData.eqvAll]
  | h :: hs, k :: ks => by
    have ih := eqv_Ws hs ks
    have h1 := eqv_W h k
    simp only [List.map_cons, D.pys, PyData.eqvAll, ih, h1]
    rw [Bool.eq_iff_iff]
    simp
theorem dEqv_Ws {S : Store} {a b : Nat} {u v : List Word} (ha : S[a]? = some (.lst (u.map dW))) (hb : S[b]? = some (.lst (v.map dW))) : dEqv S (.ref a) (.ref b) = some (decide (u = v)) := by
  rw [dEqv_cells ha hb (fl_Ws u) (fl_Ws v), eqv_Ws]
theorem flatten_le {α : Type} {m : Nat} : ∀ {ws : List (List α)}, (∀ w ∈ ws, w.length ≤ m) → ws.flatten.length ≤ ws.length * m
  | [], _ => by simp
  | w :: ws, h => by
    have h1 := h w (by simp)
    have h2 := flatten_le (ws := ws) fun x hx => h x (by simp [hx])
    rw [List.flatten_cons, List.length_append, List.length_cons, Nat.succ_mul]
    omega
theorem ret_pre {st T : Store} {Q : DQ} {d : D} (wf : Wf st) (hd : d.lt st.length) (hT : ∀ i, i < st.length → T[i]? = st[i]?) (q : Q d st) : Ret st.length Q d T := ret_old (Nat.le_refl _) hT wf hd q
theorem at_map {α : Type} {f : α → D} {xs : List α} {v : Int} (h0 : 0 ≤ v) (h1 : v < (xs.length : Int)) : ∃ x ∈ xs, atI (xs.map f) v = some (f x) := by
  have h : v.toNat < xs.length := by omega
  refine ⟨xs[v.toNat], List.getElem_mem h, ?_⟩
  rw [atI_nn h0 (by rw [List.length_map]; exact h1), List.getElem?_map, List.getElem?_eq_getElem h]
  rfl
theorem pool_ne {α : Type} {f : α → D} {S : Store} {k a : Nat} {p : Pool} {xs : List α} (hk : S[k]? = some p.1) (ha : S[a]? = some (.lst (xs.map f))) (hf : ∀ x i, f x ≠ .int i) : k ≠ a := by
  rintro rfl
  obtain ⟨o, c, n, s, rfl, _⟩ := p
  rw [ha] at hk
  injection hk with hk
  injection hk with hk
  cases xs with
  | nil => cases hk
  | cons x xs =>
    rw [List.map_cons] at hk
    injection hk with h1 h2
    exact hf _ _ h1
theorem dL_ne (l : Letter) (i : Int) : dL l ≠ .int i := fun e => by cases e
theorem dRun_ne (l : Run) (i : Int) : dRun l ≠ .int i := fun e => by cases e
theorem dW_ne (l : Word) (i : Int) : dW l ≠ .int i := fun e => by cases e
theorem lt_of_get {S : Store} {k : Nat} {o : O} (h : S[k]? = some o) : k < S.length := (List.getElem?_eq_some_iff.mp h).1
/-- what the laws' drawn words keep -/
def WOk (ls : List Letter) (g : Int) (w : Word) : Prop := ∀ r ∈ w, r.1 ∈ ls ∧ -(10 ^ 30) < r.2 ∧ r.2 < 10 ^ 30 ∧ (g = 0 → -3 ≤ r.2 ∧ r.2 ≤ 3)
theorem WOk.app {ls : List Letter} {g : Int} {u v : Word} (h1 : WOk ls g u) (h2 : WOk ls g v) : WOk ls g (u ++ v) := fun r hr => (List.mem_append.mp hr).elim (h1 r) (h2 r)
theorem WOk.inv {ls : List Letter} {g : Int} {u : Word} (h : WOk ls g u) : WOk ls g (inv u) := fun r hr => by
  unfold Wd.inv at hr
  rw [List.mem_reverse] at hr
  obtain ⟨x, hx, rfl⟩ := List.mem_map.mp hr
  obtain ⟨h1, h2, h3, h4⟩ := h x hx
  exact ⟨h1, by show _ < -x.2; omega, by show -x.2 < _; omega, fun hg => by have := h4 hg; show -3 ≤ -x.2 ∧ -x.2 ≤ 3; omega⟩
theorem WOk.drop {ls : List Letter} {g : Int} {u : Word} (n : Nat) (h : WOk ls g u) : WOk ls g (u.drop n) := fun r hr => h r (List.mem_of_mem_drop hr)
theorem WOk.nil {ls : List Letter} {g : Int} : WOk ls g [] := fun r hr => by cases hr
theorem WOk.one {ls : List Letter} {g : Int} {l : Letter} {e : Int} (h : l ∈ ls) (h1 : -(10 ^ 30) < e) (h2 : e < 10 ^ 30) (h3 : g = 0 → -3 ≤ e ∧ e ≤ 3) : WOk ls g [(l, e)] := fun r hr => by
  rw [List.mem_singleton] at hr
  subst hr
  exact ⟨h, h1, h2, h3⟩
theorem Wf.apps {S l : Store} (w : Wf S) (h : ∀ o ∈ l, o.lt (S.length + l.length)) : Wf (S ++ l) := by
  intro j u e
  rw [List.length_append]
  by_cases hj : j < S.length
  · rw [List.getElem?_append_left hj] at e
    exact O.lt_mono (by omega) u (w j u e)
  · rw [List.getElem?_append_right (by omega)] at e
    exact h u (List.mem_of_getElem? e)
theorem lt_ints {n : Nat} (hs : List Int) : D.lts n (hs.map D.int) := by
  rw [lts_iff]
  intro d hd
  obtain ⟨r, _, rfl⟩ := List.mem_map.mp hd
  trivial
def EnvOk (n : Nat) : DEnv → DEnv → Prop
  | [], [] => True
  | none :: a, _ :: b => EnvOk n a b
  | some x :: a, y :: b => y = some x ∧ x.lt n ∧ EnvOk n a b
  | _, _ => False
theorem EnvOk.get {n : Nat} : ∀ {a b : DEnv}, EnvOk n a b → a.length = b.length ∧ ∀ (i : Nat) x, a[i]? = some (some x) → b[i]? = some (some x) ∧ x.lt n
  | [], [], _ => ⟨rfl, fun i x e => by simp at e⟩
  | none :: a, y :: b, h => by
    obtain ⟨h1, h2⟩ := EnvOk.get (a := a) (b := b) h
    refine ⟨by simp [h1], fun i x e => ?_⟩
    cases i with
    | zero => simp at e
    | succ i => simpa using h2 i x (by simpa using e)
  | some z :: a, y :: b, h => by
    obtain ⟨e1, e2, h⟩ := h
    obtain ⟨h1, h2⟩ := EnvOk.get (a := a) (b := b) h
    refine ⟨by simp [h1], fun i x e => ?_⟩
    cases i with
    | zero =>
      simp at e
      subst e
      subst e1
      exact ⟨rfl, e2⟩
    | succ i => simpa using h2 i x (by simpa using e)
theorem gc_drop {ts : DTS} {n : Nat} {d : DEnds} {env env0 : DEnv} {A l : Store} (hn : n ≤ A.length) (wf : Wf A) (he : EnvOk A.length env0 env) (h : ts n d env0 A) : dGc ts n d env (A ++ l) :=
  ⟨env0, A, fun i => i, ⟨fun _ _ => rfl, hn, fun _ _ _ _ e => e, fun i o e => ⟨by rw [O.ren_id (n := A.length) (fun _ _ => rfl) o (wf i o e)]; exact get_app e, wf i o e⟩⟩, he.get.1, fun i x e => ⟨by rw [ren_id (n := A.length) (fun _ _ => rfl) x (he.get.2 i x e).2]; exact (he.get.2 i x e).1, (he.get.2 i x e).2⟩, h⟩
theorem mem_L {S : Store} {k : Nat} {ls : List Letter} {l : Letter} (h : S[k]? = some (.lst (ls.map dL))) : dMem S (dL l) (.ref k) = some (decide (l ∈ ls)) := by
  show (match S[k]? with
    | some (.lst xs) => if (dL l).fl 8 = true ∧ xs.all (D.fl 8) = true then some (xs.any fun z => PyData.eqv z.py (dL l).py) else none
    | _ => none) = _
  rw [h]
  have h1 : (ls.map dL).all (D.fl 8) = true := by
    rw [List.all_eq_true]
    intro d hd
    obtain ⟨i, _, rfl⟩ := List.mem_map.mp hd
    exact fl_L 7 i
  dsimp only
  rw [if_pos ⟨fl_L 7 l, h1⟩, List.any_map]
  congr 1
  rw [Bool.eq_iff_iff]
  simp only [List.any_eq_true, Function.comp, eqv_L, decide_eq_true_eq]
  constructor
  · rintro ⟨x, hx, rfl⟩
    exact hx
  · intro hx
    exact ⟨l, hx, rfl⟩

theorem p_get0 {S l : Store} {c0 : O} : (S ++ c0 :: l)[S.length]? = some c0 := by rw [List.getElem?_append_right (by omega)]; simp
theorem p_gets0 {S l : Store} {k : Nat} {p c0 : O} : (S.set k p ++ c0 :: l)[S.length]? = some c0 := by rw [List.getElem?_append_right (by simp)]; simp
theorem p_set0 {S l : Store} {c0 o : O} : (S ++ c0 :: l).set (S.length) o = S ++ o :: l := by rw [List.set_append_right _ _ (by omega)]; simp
theorem p_sets0 {S l : Store} {k : Nat} {p c0 o : O} : (S.set k p ++ c0 :: l).set (S.length) o = S.set k p ++ o :: l := by rw [List.set_append_right _ _ (by simp)]; simp
theorem p_get1 {S l : Store} {c0 c1 : O} : (S ++ c0 :: c1 :: l)[S.length + 1]? = some c1 := by rw [List.getElem?_append_right (by omega)]; simp
theorem p_gets1 {S l : Store} {k : Nat} {p c0 c1 : O} : (S.set k p ++ c0 :: c1 :: l)[S.length + 1]? = some c1 := by rw [List.getElem?_append_right (by simp)]; simp
theorem p_set1 {S l : Store} {c0 c1 o : O} : (S ++ c0 :: c1 :: l).set (S.length + 1) o = S ++ c0 :: o :: l := by rw [List.set_append_right _ _ (by omega)]; simp
theorem p_sets1 {S l : Store} {k : Nat} {p c0 c1 o : O} : (S.set k p ++ c0 :: c1 :: l).set (S.length + 1) o = S.set k p ++ c0 :: o :: l := by rw [List.set_append_right _ _ (by simp)]; simp
theorem p_get2 {S l : Store} {c0 c1 c2 : O} : (S ++ c0 :: c1 :: c2 :: l)[S.length + 2]? = some c2 := by rw [List.getElem?_append_right (by omega)]; simp
theorem p_gets2 {S l : Store} {k : Nat} {p c0 c1 c2 : O} : (S.set k p ++ c0 :: c1 :: c2 :: l)[S.length + 2]? = some c2 := by rw [List.getElem?_append_right (by simp)]; simp
theorem p_set2 {S l : Store} {c0 c1 c2 o : O} : (S ++ c0 :: c1 :: c2 :: l).set (S.length + 2) o = S ++ c0 :: c1 :: o :: l := by rw [List.set_append_right _ _ (by omega)]; simp
theorem p_sets2 {S l : Store} {k : Nat} {p c0 c1 c2 o : O} : (S.set k p ++ c0 :: c1 :: c2 :: l).set (S.length + 2) o = S.set k p ++ c0 :: c1 :: o :: l := by rw [List.set_append_right _ _ (by simp)]; simp
theorem p_get3 {S l : Store} {c0 c1 c2 c3 : O} : (S ++ c0 :: c1 :: c2 :: c3 :: l)[S.length + 3]? = some c3 := by rw [List.getElem?_append_right (by omega)]; simp
theorem p_gets3 {S l : Store} {k : Nat} {p c0 c1 c2 c3 : O} : (S.set k p ++ c0 :: c1 :: c2 :: c3 :: l)[S.length + 3]? = some c3 := by rw [List.getElem?_append_right (by simp)]; simp
theorem p_set3 {S l : Store} {c0 c1 c2 c3 o : O} : (S ++ c0 :: c1 :: c2 :: c3 :: l).set (S.length + 3) o = S ++ c0 :: c1 :: c2 :: o :: l := by rw [List.set_append_right _ _ (by omega)]; simp
theorem p_sets3 {S l : Store} {k : Nat} {p c0 c1 c2 c3 o : O} : (S.set k p ++ c0 :: c1 :: c2 :: c3 :: l).set (S.length + 3) o = S.set k p ++ c0 :: c1 :: c2 :: o :: l := by rw [List.set_append_right _ _ (by simp)]; simp
theorem p_get4 {S l : Store} {c0 c1 c2 c3 c4 : O} : (S ++ c0 :: c1 :: c2 :: c3 :: c4 :: l)[S.length + 4]? = some c4 := by rw [List.getElem?_append_right (by omega)]; simp
theorem p_gets4 {S l : Store} {k : Nat} {p c0 c1 c2 c3 c4 : O} : (S.set k p ++ c0 :: c1 :: c2 :: c3 :: c4 :: l)[S.length + 4]? = some c4 := by rw [List.getElem?_append_right (by simp)]; simp
theorem p_set4 {S l : Store} {c0 c1 c2 c3 c4 o : O} : (S ++ c0 :: c1 :: c2 :: c3 :: c4 :: l).set (S.length + 4) o = S ++ c0 :: c1 :: c2 :: c3 :: o :: l := by rw [List.set_append_right _ _ (by omega)]; simp
theorem p_sets4 {S l : Store} {k : Nat} {p c0 c1 c2 c3 c4 o : O} : (S.set k p ++ c0 :: c1 :: c2 :: c3 :: c4 :: l).set (S.length + 4) o = S.set k p ++ c0 :: c1 :: c2 :: c3 :: o :: l := by rw [List.set_append_right _ _ (by simp)]; simp
theorem p_get5 {S l : Store} {c0 c1 c2 c3 c4 c5 : O} : (S ++ c0 :: c1 :: c2 :: c3 :: c4 :: c5 :: l)[S.length + 5]? = some c5 := by rw [List.getElem?_append_right (by omega)]; simp
theorem p_gets5 {S l : Store} {k : Nat} {p c0 c1 c2 c3 c4 c5 : O} : (S.set k p ++ c0 :: c1 :: c2 :: c3 :: c4 :: c5 :: l)[S.length + 5]? = some c5 := by rw [List.getElem?_append_right (by simp)]; simp
theorem p_set5 {S l : Store} {c0 c1 c2 c3 c4 c5 o : O} : (S ++ c0 :: c1 :: c2 :: c3 :: c4 :: c5 :: l).set (S.length + 5) o = S ++ c0 :: c1 :: c2 :: c3 :: c4 :: o :: l := by rw [List.set_append_right _ _ (by omega)]; simp
theorem p_sets5 {S l : Store} {k : Nat} {p c0 c1 c2 c3 c4 c5 o : O} : (S.set k p ++ c0 :: c1 :: c2 :: c3 :: c4 :: c5 :: l).set (S.length + 5) o = S.set k p ++ c0 :: c1 :: c2 :: c3 :: c4 :: o :: l := by rw [List.set_append_right _ _ (by simp)]; simp
theorem p_get6 {S l : Store} {c0 c1 c2 c3 c4 c5 c6 : O} : (S ++ c0 :: c1 :: c2 :: c3 :: c4 :: c5 :: c6 :: l)[S.length + 6]? = some c6 := by rw [List.getElem?_append_right (by omega)]; simp
theorem p_gets6 {S l : Store} {k : Nat} {p c0 c1 c2 c3 c4 c5 c6 : O} : (S.set k p ++ c0 :: c1 :: c2 :: c3 :: c4 :: c5 :: c6 :: l)[S.length + 6]? = some c6 := by rw [List.getElem?_append_right (by simp)]; simp
theorem p_set6 {S l : Store} {c0 c1 c2 c3 c4 c5 c6 o : O} : (S ++ c0 :: c1 :: c2 :: c3 :: c4 :: c5 :: c6 :: l).set (S.length + 6) o = S ++ c0 :: c1 :: c2 :: c3 :: c4 :: c5 :: o :: l := by rw [List.set_append_right _ _ (by omega)]; simp
theorem p_sets6 {S l : Store} {k : Nat} {p c0 c1 c2 c3 c4 c5 c6 o : O} : (S.set k p ++ c0 :: c1 :: c2 :: c3 :: c4 :: c5 :: c6 :: l).set (S.length + 6) o = S.set k p ++ c0 :: c1 :: c2 :: c3 :: c4 :: c5 :: o :: l := by rw [List.set_append_right _ _ (by simp)]; simp
theorem p_get7 {S l : Store} {c0 c1 c2 c3 c4 c5 c6 c7 : O} : (S ++ c0 :: c1 :: c2 :: c3 :: c4 :: c5 :: c6 :: c7 :: l)[S.length + 7]? = some c7 := by rw [List.getElem?_append_right (by omega)]; simp
theorem p_gets7 {S l : Store} {k : Nat} {p c0 c1 c2 c3 c4 c5 c6 c7 : O} : (S.set k p ++ c0 :: c1 :: c2 :: c3 :: c4 :: c5 :: c6 :: c7 :: l)[S.length + 7]? = some c7 := by rw [List.getElem?_append_right (by simp)]; simp
theorem p_set7 {S l : Store} {c0 c1 c2 c3 c4 c5 c6 c7 o : O} : (S ++ c0 :: c1 :: c2 :: c3 :: c4 :: c5 :: c6 :: c7 :: l).set (S.length + 7) o = S ++ c0 :: c1 :: c2 :: c3 :: c4 :: c5 :: c6 :: o :: l := by rw [List.set_append_right _ _ (by omega)]; simp
theorem p_sets7 {S l : Store} {k : Nat} {p c0 c1 c2 c3 c4 c5 c6 c7 o : O} : (S.set k p ++ c0 :: c1 :: c2 :: c3 :: c4 :: c5 :: c6 :: c7 :: l).set (S.length + 7) o = S.set k p ++ c0 :: c1 :: c2 :: c3 :: c4 :: c5 :: c6 :: o :: l := by rw [List.set_append_right _ _ (by simp)]; simp
theorem p_get8 {S l : Store} {c0 c1 c2 c3 c4 c5 c6 c7 c8 : O} : (S ++ c0 :: c1 :: c2 :: c3 :: c4 :: c5 :: c6 :: c7 :: c8 :: l)[S.length + 8]? = some c8 := by rw [List.getElem?_append_right (by omega)]; simp
theorem p_gets8 {S l : Store} {k : Nat} {p c0 c1 c2 c3 c4 c5 c6 c7 c8 : O} : (S.set k p ++ c0 :: c1 :: c2 :: c3 :: c4 :: c5 :: c6 :: c7 :: c8 :: l)[S.length + 8]? = some c8 := by rw [List.getElem?_append_right (by simp)]; simp
theorem p_set8 {S l : Store} {c0 c1 c2 c3 c4 c5 c6 c7 c8 o : O} : (S ++ c0 :: c1 :: c2 :: c3 :: c4 :: c5 :: c6 :: c7 :: c8 :: l).set (S.length + 8) o = S ++ c0 :: c1 :: c2 :: c3 :: c4 :: c5 :: c6 :: c7 :: o :: l := by rw [List.set_append_right _ _ (by omega)]; simp
theorem p_sets8 {S l : Store} {k : Nat} {p c0 c1 c2 c3 c4 c5 c6 c7 c8 o : O} : (S.set k p ++ c0 :: c1 :: c2 :: c3 :: c4 :: c5 :: c6 :: c7 :: c8 :: l).set (S.length + 8) o = S.set k p ++ c0 :: c1 :: c2 :: c3 :: c4 :: c5 :: c6 :: c7 :: o :: l := by rw [List.set_append_right _ _ (by simp)]; simp
theorem p_get9 {S l : Store} {c0 c1 c2 c3 c4 c5 c6 c7 c8 c9 : O} : (S ++ c0 :: c1 :: c2 :: c3 :: c4 :: c5 :: c6 :: c7 :: c8 :: c9 :: l)[S.length + 9]? = some c9 := by rw [List.getElem?_append_right (by omega)]; simp
theorem p_gets9 {S l : Store} {k : Nat} {p c0 c1 c2 c3 c4 c5 c6 c7 c8 c9 : O} : (S.set k p ++ c0 :: c1 :: c2 :: c3 :: c4 :: c5 :: c6 :: c7 :: c8 :: c9 :: l)[S.length + 9]? = some c9 := by rw [List.getElem?_append_right (by simp)]; simp
theorem p_set9 {S l : Store} {c0 c1 c2 c3 c4 c5 c6 c7 c8 c9 o : O} : (S ++ c0 :: c1 :: c2 :: c3 :: c4 :: c5 :: c6 :: c7 :: c8 :: c9 :: l).set (S.length + 9) o = S ++ c0 :: c1 :: c2 :: c3 :: c4 :: c5 :: c6 :: c7 :: c8 :: o :: l := by rw [List.set_append_right _ _ (by omega)]; simp
theorem p_sets9 {S l : Store} {k : Nat} {p c0 c1 c2 c3 c4 c5 c6 c7 c8 c9 o : O} : (S.set k p ++ c0 :: c1 :: c2 :: c3 :: c4 :: c5 :: c6 :: c7 :: c8 :: c9 :: l).set (S.length + 9) o = S.set k p ++ c0 :: c1 :: c2 :: c3 :: c4 :: c5 :: c6 :: c7 :: c8 :: o :: l := by rw [List.set_append_right _ _ (by simp)]; simp
theorem p_get10 {S l : Store} {c0 c1 c2 c3 c4 c5 c6 c7 c8 c9 c10 : O} : (S ++ c0 :: c1 :: c2 :: c3 :: c4 :: c5 :: c6 :: c7 :: c8 :: c9 :: c10 :: l)[S.length + 10]? = some c10 := by rw [List.getElem?_append_right (by omega)]; simp
theorem p_gets10 {S l : Store} {k : Nat} {p c0 c1 c2 c3 c4 c5 c6 c7 c8 c9 c10 : O} : (S.set k p ++ c0 :: c1 :: c2 :: c3 :: c4 :: c5 :: c6 :: c7 :: c8 :: c9 :: c10 :: l)[S.length + 10]? = some c10 := by rw [List.getElem?_append_right (by simp)]; simp
theorem p_set10 {S l : Store} {c0 c1 c2 c3 c4 c5 c6 c7 c8 c9 c10 o : O} : (S ++ c0 :: c1 :: c2 :: c3 :: c4 :: c5 :: c6 :: c7 :: c8 :: c9 :: c10 :: l).set (S.length + 10) o = S ++ c0 :: c1 :: c2 :: c3 :: c4 :: c5 :: c6 :: c7 :: c8 :: c9 :: o :: l := by rw [List.set_append_right _ _ (by omega)]; simp
theorem p_sets10 {S l : Store} {k : Nat} {p c0 c1 c2 c3 c4 c5 c6 c7 c8 c9 c10 o : O} : (S.set k p ++ c0 :: c1 :: c2 :: c3 :: c4 :: c5 :: c6 :: c7 :: c8 :: c9 :: c10 :: l).set (S.length + 10) o = S.set k p ++ c0 :: c1 :: c2 :: c3 :: c4 :: c5 :: c6 :: c7 :: c8 :: c9 :: o :: l := by rw [List.set_append_right _ _ (by simp)]; simp
theorem p_get11 {S l : Store} {c0 c1 c2 c3 c4 c5 c6 c7 c8 c9 c10 c11 : O} : (S ++ c0 :: c1 :: c2 :: c3 :: c4 :: c5 :: c6 :: c7 :: c8 :: c9 :: c10 :: c11 :: l)[S.length + 11]? = some c11 := by rw [List.getElem?_append_right (by omega)]; simp
theorem p_gets11 {S l : Store} {k : Nat} {p c0 c1 c2 c3 c4 c5 c6 c7 c8 c9 c10 c11 : O} : (S.set k p ++ c0 :: c1 :: c2 :: c3 :: c4 :: c5 :: c6 :: c7 :: c8 :: c9 :: c10 :: c11 :: l)[S.length + 11]? = some c11 := by rw [List.getElem?_append_right (by simp)]; simp
theorem p_set11 {S l : Store} {c0 c1 c2 c3 c4 c5 c6 c7 c8 c9 c10 c11 o : O} : (S ++ c0 :: c1 :: c2 :: c3 :: c4 :: c5 :: c6 :: c7 :: c8 :: c9 :: c10 :: c11 :: l).set (S.length + 11) o = S ++ c0 :: c1 :: c2 :: c3 :: c4 :: c5 :: c6 :: c7 :: c8 :: c9 :: c10 :: o :: l := by rw [List.set_append_right _ _ (by omega)]; simp
theorem p_sets11 {S l : Store} {k : Nat} {p c0 c1 c2 c3 c4 c5 c6 c7 c8 c9 c10 c11 o : O} : (S.set k p ++ c0 :: c1 :: c2 :: c3 :: c4 :: c5 :: c6 :: c7 :: c8 :: c9 :: c10 :: c11 :: l).set (S.length + 11) o = S.set k p ++ c0 :: c1 :: c2 :: c3 :: c4 :: c5 :: c6 :: c7 :: c8 :: c9 :: c10 :: o :: l := by rw [List.set_append_right _ _ (by simp)]; simp
theorem p_get12 {S l : Store} {c0 c1 c2 c3 c4 c5 c6 c7 c8 c9 c10 c11 c12 : O} : (S ++ c0 :: c1 :: c2 :: c3 :: c4 :: c5 :: c6 :: c7 :: c8 :: c9 :: c10 :: c11 :: c12 :: l)[S.length + 12]? = some c12 := by rw [List.getElem?_append_right (by omega)]; simp
theorem p_gets12 {S l : Store} {k : Nat} {p c0 c1 c2 c3 c4 c5 c6 c7 c8 c9 c10 c11 c12 : O} : (S.set k p ++ c0 :: c1 :: c2 :: c3 :: c4 :: c5 :: c6 :: c7 :: c8 :: c9 :: c10 :: c11 :: c12 :: l)[S.length + 12]? = some c12 := by rw [List.getElem?_append_right (by simp)]; simp
theorem p_set12 {S l : Store} {c0 c1 c2 c3 c4 c5 c6 c7 c8 c9 c10 c11 c12 o : O} : (S ++ c0 :: c1 :: c2 :: c3 :: c4 :: c5 :: c6 :: c7 :: c8 :: c9 :: c10 :: c11 :: c12 :: l).set (S.length + 12) o = S ++ c0 :: c1 :: c2 :: c3 :: c4 :: c5 :: c6 :: c7 :: c8 :: c9 :: c10 :: c11 :: o :: l := by rw [List.set_append_right _ _ (by omega)]; simp
theorem p_sets12 {S l : Store} {k : Nat} {p c0 c1 c2 c3 c4 c5 c6 c7 c8 c9 c10 c11 c12 o : O} : (S.set k p ++ c0 :: c1 :: c2 :: c3 :: c4 :: c5 :: c6 :: c7 :: c8 :: c9 :: c10 :: c11 :: c12 :: l).set (S.length + 12) o = S.set k p ++ c0 :: c1 :: c2 :: c3 :: c4 :: c5 :: c6 :: c7 :: c8 :: c9 :: c10 :: c11 :: o :: l := by rw [List.set_append_right _ _ (by simp)]; simp
theorem p_get13 {S l : Store} {c0 c1 c2 c3 c4 c5 c6 c7 c8 c9 c10 c11 c12 c13 : O} : (S ++ c0 :: c1 :: c2 :: c3 :: c4 :: c5 :: c6 :: c7 :: c8 :: c9 :: c10 :: c11 :: c12 :: c13 :: l)[S.length + 13]? = some c13 := by rw [List.getElem?_append_right (by omega)]; simp
theorem p_gets13 {S l : Store} {k : Nat} {p c0 c1 c2 c3 c4 c5 c6 c7 c8 c9 c10 c11 c12 c13 : O} : (S.set k p ++ c0 :: c1 :: c2 :: c3 :: c4 :: c5 :: c6 :: c7 :: c8 :: c9 :: c10 :: c11 :: c12 :: c13 :: l)[S.length + 13]? = some c13 := by rw [List.getElem?_append_right (by simp)]; simp
theorem p_set13 {S l : Store} {c0 c1 c2 c3 c4 c5 c6 c7 c8 c9 c10 c11 c12 c13 o : O} : (S ++ c0 :: c1 :: c2 :: c3 :: c4 :: c5 :: c6 :: c7 :: c8 :: c9 :: c10 :: c11 :: c12 :: c13 :: l).set (S.length + 13) o = S ++ c0 :: c1 :: c2 :: c3 :: c4 :: c5 :: c6 :: c7 :: c8 :: c9 :: c10 :: c11 :: c12 :: o :: l := by rw [List.set_append_right _ _ (by omega)]; simp
theorem p_sets13 {S l : Store} {k : Nat} {p c0 c1 c2 c3 c4 c5 c6 c7 c8 c9 c10 c11 c12 c13 o : O} : (S.set k p ++ c0 :: c1 :: c2 :: c3 :: c4 :: c5 :: c6 :: c7 :: c8 :: c9 :: c10 :: c11 :: c12 :: c13 :: l).set (S.length + 13) o = S.set k p ++ c0 :: c1 :: c2 :: c3 :: c4 :: c5 :: c6 :: c7 :: c8 :: c9 :: c10 :: c11 :: c12 :: o :: l := by rw [List.set_append_right _ _ (by simp)]; simp
theorem p_get14 {S l : Store} {c0 c1 c2 c3 c4 c5 c6 c7 c8 c9 c10 c11 c12 c13 c14 : O} : (S ++ c0 :: c1 :: c2 :: c3 :: c4 :: c5 :: c6 :: c7 :: c8 :: c9 :: c10 :: c11 :: c12 :: c13 :: c14 :: l)[S.length + 14]? = some c14 := by rw [List.getElem?_append_right (by omega)]; simp
theorem p_gets14 {S l : Store} {k : Nat} {p c0 c1 c2 c3 c4 c5 c6 c7 c8 c9 c10 c11 c12 c13 c14 : O} : (S.set k p ++ c0 :: c1 :: c2 :: c3 :: c4 :: c5 :: c6 :: c7 :: c8 :: c9 :: c10 :: c11 :: c12 :: c13 :: c14 :: l)[S.length + 14]? = some c14 := by rw [List.getElem?_append_right (by simp)]; simp
theorem p_set14 {S l : Store} {c0 c1 c2 c3 c4 c5 c6 c7 c8 c9 c10 c11 c12 c13 c14 o : O} : (S ++ c0 :: c1 :: c2 :: c3 :: c4 :: c5 :: c6 :: c7 :: c8 :: c9 :: c10 :: c11 :: c12 :: c13 :: c14 :: l).set (S.length + 14) o = S ++ c0 :: c1 :: c2 :: c3 :: c4 :: c5 :: c6 :: c7 :: c8 :: c9 :: c10 :: c11 :: c12 :: c13 :: o :: l := by rw [List.set_append_right _ _ (by omega)]; simp
theorem p_sets14 {S l : Store} {k : Nat} {p c0 c1 c2 c3 c4 c5 c6 c7 c8 c9 c10 c11 c12 c13 c14 o : O} : (S.set k p ++ c0 :: c1 :: c2 :: c3 :: c4 :: c5 :: c6 :: c7 :: c8 :: c9 :: c10 :: c11 :: c12 :: c13 :: c14 :: l).set (S.length + 14) o = S.set k p ++ c0 :: c1 :: c2 :: c3 :: c4 :: c5 :: c6 :: c7 :: c8 :: c9 :: c10 :: c11 :: c12 :: c13 :: o :: l := by rw [List.set_append_right _ _ (by simp)]; simp
theorem p_get15 {S l : Store} {c0 c1 c2 c3 c4 c5 c6 c7 c8 c9 c10 c11 c12 c13 c14 c15 : O} : (S ++ c0 :: c1 :: c2 :: c3 :: c4 :: c5 :: c6 :: c7 :: c8 :: c9 :: c10 :: c11 :: c12 :: c13 :: c14 :: c15 :: l)[S.length + 15]? = some c15 := by rw [List.getElem?_append_right (by omega)]; simp
theorem p_gets15 {S l : Store} {k : Nat} {p c0 c1 c2 c3 c4 c5 c6 c7 c8 c9 c10 c11 c12 c13 c14 c15 : O} : (S.set k p ++ c0 :: c1 :: c2 :: c3 :: c4 :: c5 :: c6 :: c7 :: c8 :: c9 :: c10 :: c11 :: c12 :: c13 :: c14 :: c15 :: l)[S.length + 15]? = some c15 := by rw [List.getElem?_append_right (by simp)]; simp
theorem p_set15 {S l : Store} {c0 c1 c2 c3 c4 c5 c6 c7 c8 c9 c10 c11 c12 c13 c14 c15 o : O} : (S ++ c0 :: c1 :: c2 :: c3 :: c4 :: c5 :: c6 :: c7 :: c8 :: c9 :: c10 :: c11 :: c12 :: c13 :: c14 :: c15 :: l).set (S.length + 15) o = S ++ c0 :: c1 :: c2 :: c3 :: c4 :: c5 :: c6 :: c7 :: c8 :: c9 :: c10 :: c11 :: c12 :: c13 :: c14 :: o :: l := by rw [List.set_append_right _ _ (by omega)]; simp
theorem p_sets15 {S l : Store} {k : Nat} {p c0 c1 c2 c3 c4 c5 c6 c7 c8 c9 c10 c11 c12 c13 c14 c15 o : O} : (S.set k p ++ c0 :: c1 :: c2 :: c3 :: c4 :: c5 :: c6 :: c7 :: c8 :: c9 :: c10 :: c11 :: c12 :: c13 :: c14 :: c15 :: l).set (S.length + 15) o = S.set k p ++ c0 :: c1 :: c2 :: c3 :: c4 :: c5 :: c6 :: c7 :: c8 :: c9 :: c10 :: c11 :: c12 :: c13 :: c14 :: o :: l := by rw [List.set_append_right _ _ (by simp)]; simp
theorem p_get16 {S l : Store} {c0 c1 c2 c3 c4 c5 c6 c7 c8 c9 c10 c11 c12 c13 c14 c15 c16 : O} : (S ++ c0 :: c1 :: c2 :: c3 :: c4 :: c5 :: c6 :: c7 :: c8 :: c9 :: c10 :: c11 :: c12 :: c13 :: c14 :: c15 :: c16 :: l)[S.length + 16]? = some c16 := by rw [List.getElem?_append_right (by omega)]; simp
theorem p_gets16 {S l : Store} {k : Nat} {p c0 c1 c2 c3 c4 c5 c6 c7 c8 c9 c10 c11 c12 c13 c14 c15 c16 : O} : (S.set k p ++ c0 :: c1 :: c2 :: c3 :: c4 :: c5 :: c6 :: c7 :: c8 :: c9 :: c10 :: c11 :: c12 :: c13 :: c14 :: c15 :: c16 :: l)[S.length + 16]? = some c16 := by rw [List.getElem?_append_right (by simp)]; simp
theorem p_set16 {S l : Store} {c0 c1 c2 c3 c4 c5 c6 c7 c8 c9 c10 c11 c12 c13 c14 c15 c16 o : O} : (S ++ c0 :: c1 :: c2 :: c3 :: c4 :: c5 :: c6 :: c7 :: c8 :: c9 :: c10 :: c11 :: c12 :: c13 :: c14 :: c15 :: c16 :: l).set (S.length + 16) o = S ++ c0 :: c1 :: c2 :: c3 :: c4 :: c5 :: c6 :: c7 :: c8 :: c9 :: c10 :: c11 :: c12 :: c13 :: c14 :: c15 :: o :: l := by rw [List.set_append_right _ _ (by omega)]; simp
theorem p_sets16 {S l : Store} {k : Nat} {p c0 c1 c2 c3 c4 c5 c6 c7 c8 c9 c10 c11 c12 c13 c14 c15 c16 o : O} : (S.set k p ++ c0 :: c1 :: c2 :: c3 :: c4 :: c5 :: c6 :: c7 :: c8 :: c9 :: c10 :: c11 :: c12 :: c13 :: c14 :: c15 :: c16 :: l).set (S.length + 16) o = S.set k p ++ c0 :: c1 :: c2 :: c3 :: c4 :: c5 :: c6 :: c7 :: c8 :: c9 :: c10 :: c11 :: c12 :: c13 :: c14 :: c15 :: o :: l := by rw [List.set_append_right _ _ (by simp)]; simp
theorem p_get17 {S l : Store} {c0 c1 c2 c3 c4 c5 c6 c7 c8 c9 c10 c11 c12 c13 c14 c15 c16 c17 : O} : (S ++ c0 :: c1 :: c2 :: c3 :: c4 :: c5 :: c6 :: c7 :: c8 :: c9 :: c10 :: c11 :: c12 :: c13 :: c14 :: c15 :: c16 :: c17 :: l)[S.length + 17]? = some c17 := by rw [List.getElem?_append_right (by omega)]; simp
theorem p_gets17 {S l : Store} {k : Nat} {p c0 c1 c2 c3 c4 c5 c6 c7 c8 c9 c10 c11 c12 c13 c14 c15 c16 c17 : O} : (S.set k p ++ c0 :: c1 :: c2 :: c3 :: c4 :: c5 :: c6 :: c7 :: c8 :: c9 :: c10 :: c11 :: c12 :: c13 :: c14 :: c15 :: c16 :: c17 :: l)[S.length + 17]? = some c17 := by rw [List.getElem?_append_right (by simp)]; simp
theorem p_set17 {S l : Store} {c0 c1 c2 c3 c4 c5 c6 c7 c8 c9 c10 c11 c12 c13 c14 c15 c16 c17 o : O} : (S ++ c0 :: c1 :: c2 :: c3 :: c4 :: c5 :: c6 :: c7 :: c8 :: c9 :: c10 :: c11 :: c12 :: c13 :: c14 :: c15 :: c16 :: c17 :: l).set (S.length + 17) o = S ++ c0 :: c1 :: c2 :: c3 :: c4 :: c5 :: c6 :: c7 :: c8 :: c9 :: c10 :: c11 :: c12 :: c13 :: c14 :: c15 :: c16 :: o :: l := by rw [List.set_append_right _ _ (by omega)]; simp
theorem p_sets17 {S l : Store} {k : Nat} {p c0 c1 c2 c3 c4 c5 c6 c7 c8 c9 c10 c11 c12 c13 c14 c15 c16 c17 o : O} : (S.set k p ++ c0 :: c1 :: c2 :: c3 :: c4 :: c5 :: c6 :: c7 :: c8 :: c9 :: c10 :: c11 :: c12 :: c13 :: c14 :: c15 :: c16 :: c17 :: l).set (S.length + 17) o = S.set k p ++ c0 :: c1 :: c2 :: c3 :: c4 :: c5 :: c6 :: c7 :: c8 :: c9 :: c10 :: c11 :: c12 :: c13 :: c14 :: c15 :: c16 :: o :: l := by rw [List.set_append_right _ _ (by simp)]; simp
theorem p_get18 {S l : Store} {c0 c1 c2 c3 c4 c5 c6 c7 c8 c9 c10 c11 c12 c13 c14 c15 c16 c17 c18 : O} : (S ++ c0 :: c1 :: c2 :: c3 :: c4 :: c5 :: c6 :: c7 :: c8 :: c9 :: c10 :: c11 :: c12 :: c13 :: c14 :: c15 :: c16 :: c17 :: c18 :: l)[S.length + 18]? = some c18 := by rw [List.getElem?_append_right (by omega)]; simp
theorem p_gets18 {S l : Store} {k : Nat} {p c0 c1 c2 c3 c4 c5 c6 c7 c8 c9 c10 c11 c12 c13 c14 c15 c16 c17 c18 : O} : (S.set k p ++ c0 :: c1 :: c2 :: c3 :: c4 :: c5 :: c6 :: c7 :: c8 :: c9 :: c10 :: c11 :: c12 :: c13 :: c14 :: c15 :: c16 :: c17 :: c18 :: l)[S.length + 18]? = some c18 := by rw [List.getElem?_append_right (by simp)]; simp
theorem p_set18 {S l : Store} {c0 c1 c2 c3 c4 c5 c6 c7 c8 c9 c10 c11 c12 c13 c14 c15 c16 c17 c18 o : O} : (S ++ c0 :: c1 :: c2 :: c3 :: c4 :: c5 :: c6 :: c7 :: c8 :: c9 :: c10 :: c11 :: c12 :: c13 :: c14 :: c15 :: c16 :: c17 :: c18 :: l).set (S.length + 18) o = S ++ c0 :: c1 :: c2 :: c3 :: c4 :: c5 :: c6 :: c7 :: c8 :: c9 :: c10 :: c11 :: c12 :: c13 :: c14 :: c15 :: c16 :: c17 :: o :: l := by rw [List.set_append_right _ _ (by omega)]; simp
theorem p_sets18 {S l : Store} {k : Nat} {p c0 c1 c2 c3 c4 c5 c6 c7 c8 c9 c10 c11 c12 c13 c14 c15 c16 c17 c18 o : O} : (S.set k p ++ c0 :: c1 :: c2 :: c3 :: c4 :: c5 :: c6 :: c7 :: c8 :: c9 :: c10 :: c11 :: c12 :: c13 :: c14 :: c15 :: c16 :: c17 :: c18 :: l).set (S.length + 18) o = S.set k p ++ c0 :: c1 :: c2 :: c3 :: c4 :: c5 :: c6 :: c7 :: c8 :: c9 :: c10 :: c11 :: c12 :: c13 :: c14 :: c15 :: c16 :: c17 :: o :: l := by rw [List.set_append_right _ _ (by simp)]; simp
theorem p_get19 {S l : Store} {c0 c1 c2 c3 c4 c5 c6 c7 c8 c9 c10 c11 c12 c13 c14 c15 c16 c17 c18 c19 : O} : (S ++ c0 :: c1 :: c2 :: c3 :: c4 :: c5 :: c6 :: c7 :: c8 :: c9 :: c10 :: c11 :: c12 :: c13 :: c14 :: c15 :: c16 :: c17 :: c18 :: c19 :: l)[S.length + 19]? = some c19 := by rw [List.getElem?_append_right (by omega)]; simp
theorem p_gets19 {S l : Store} {k : Nat} {p c0 c1 c2 c3 c4 c5 c6 c7 c8 c9 c10 c11 c12 c13 c14 c15 c16 c17 c18 c19 : O} : (S.set k p ++ c0 :: c1 :: c2 :: c3 :: c4 :: c5 :: c6 :: c7 :: c8 :: c9 :: c10 :: c11 :: c12 :: c13 :: c14 :: c15 :: c16 :: c17 :: c18 :: c19 :: l)[S.length + 19]? = some c19 := by rw [List.getElem?_append_right (by simp)]; simp
theorem p_set19 {S l : Store} {c0 c1 c2 c3 c4 c5 c6 c7 c8 c9 c10 c11 c12 c13 c14 c15 c16 c17 c18 c19 o : O} : (S ++ c0 :: c1 :: c2 :: c3 :: c4 :: c5 :: c6 :: c7 :: c8 :: c9 :: c10 :: c11 :: c12 :: c13 :: c14 :: c15 :: c16 :: c17 :: c18 :: c19 :: l).set (S.length + 19) o = S ++ c0 :: c1 :: c2 :: c3 :: c4 :: c5 :: c6 :: c7 :: c8 :: c9 :: c10 :: c11 :: c12 :: c13 :: c14 :: c15 :: c16 :: c17 :: c18 :: o :: l := by rw [List.set_append_right _ _ (by omega)]; simp
theorem p_sets19 {S l : Store} {k : Nat} {p c0 c1 c2 c3 c4 c5 c6 c7 c8 c9 c10 c11 c12 c13 c14 c15 c16 c17 c18 c19 o : O} : (S.set k p ++ c0 :: c1 :: c2 :: c3 :: c4 :: c5 :: c6 :: c7 :: c8 :: c9 :: c10 :: c11 :: c12 :: c13 :: c14 :: c15 :: c16 :: c17 :: c18 :: c19 :: l).set (S.length + 19) o = S.set k p ++ c0 :: c1 :: c2 :: c3 :: c4 :: c5 :: c6 :: c7 :: c8 :: c9 :: c10 :: c11 :: c12 :: c13 :: c14 :: c15 :: c16 :: c17 :: c18 :: o :: l := by rw [List.set_append_right _ _ (by simp)]; simp
theorem p_get20 {S l : Store} {c0 c1 c2 c3 c4 c5 c6 c7 c8 c9 c10 c11 c12 c13 c14 c15 c16 c17 c18 c19 c20 : O} : (S ++ c0 :: c1 :: c2 :: c3 :: c4 :: c5 :: c6 :: c7 :: c8 :: c9 :: c10 :: c11 :: c12 :: c13 :: c14 :: c15 :: c16 :: c17 :: c18 :: c19 :: c20 :: l)[S.length + 20]? = some c20 := by rw [List.getElem?_append_right (by omega)]; simp
theorem p_gets20 {S l : Store} {k : Nat} {p c0 c1 c2 c3 c4 c5 c6 c7 c8 c9 c10 c11 c12 c13 c14 c15 c16 c17 c18 c19 c20 : O} : (S.set k p ++ c0 :: c1 :: c2 :: c3 :: c4 :: c5 :: c6 :: c7 :: c8 :: c9 :: c10 :: c11 :: c12 :: c13 :: c14 :: c15 :: c16 :: c17 :: c18 :: c19 :: c20 :: l)[S.length + 20]? = some c20 := by rw [List.getElem?_append_right (by simp)]; simp
theorem p_set20 {S l : Store} {c0 c1 c2 c3 c4 c5 c6 c7 c8 c9 c10 c11 c12 c13 c14 c15 c16 c17 c18 c19 c20 o : O} : (S ++ c0 :: c1 :: c2 :: c3 :: c4 :: c5 :: c6 :: c7 :: c8 :: c9 :: c10 :: c11 :: c12 :: c13 :: c14 :: c15 :: c16 :: c17 :: c18 :: c19 :: c20 :: l).set (S.length + 20) o = S ++ c0 :: c1 :: c2 :: c3 :: c4 :: c5 :: c6 :: c7 :: c8 :: c9 :: c10 :: c11 :: c12 :: c13 :: c14 :: c15 :: c16 :: c17 :: c18 :: c19 :: o :: l := by rw [List.set_append_right _ _ (by omega)]; simp
theorem p_sets20 {S l : Store} {k : Nat} {p c0 c1 c2 c3 c4 c5 c6 c7 c8 c9 c10 c11 c12 c13 c14 c15 c16 c17 c18 c19 c20 o : O} : (S.set k p ++ c0 :: c1 :: c2 :: c3 :: c4 :: c5 :: c6 :: c7 :: c8 :: c9 :: c10 :: c11 :: c12 :: c13 :: c14 :: c15 :: c16 :: c17 :: c18 :: c19 :: c20 :: l).set (S.length + 20) o = S.set k p ++ c0 :: c1 :: c2 :: c3 :: c4 :: c5 :: c6 :: c7 :: c8 :: c9 :: c10 :: c11 :: c12 :: c13 :: c14 :: c15 :: c16 :: c17 :: c18 :: c19 :: o :: l := by rw [List.set_append_right _ _ (by simp)]; simp
theorem p_get21 {S l : Store} {c0 c1 c2 c3 c4 c5 c6 c7 c8 c9 c10 c11 c12 c13 c14 c15 c16 c17 c18 c19 c20 c21 : O} : (S ++ c0 :: c1 :: c2 :: c3 :: c4 :: c5 :: c6 :: c7 :: c8 :: c9 :: c10 :: c11 :: c12 :: c13 :: c14 :: c15 :: c16 :: c17 :: c18 :: c19 :: c20 :: c21 :: l)[S.length + 21]? = some c21 := by rw [List.getElem?_append_right (by omega)]; simp
theorem p_gets21 {S l : Store} {k : Nat} {p c0 c1 c2 c3 c4 c5 c6 c7 c8 c9 c10 c11 c12 c13 c14 c15 c16 c17 c18 c19 c20 c21 : O} : (S.set k p ++ c0 :: c1 :: c2 :: c3 :: c4 :: c5 :: c6 :: c7 :: c8 :: c9 :: c10 :: c11 :: c12 :: c13 :: c14 :: c15 :: c16 :: c17 :: c18 :: c19 :: c20 :: c21 :: l)[S.length + 21]? = some c21 := by rw [List.getElem?_append_right (by simp)]; simp
theorem p_set21 {S l : Store} {c0 c1 c2 c3 c4 c5 c6 c7 c8 c9 c10 c11 c12 c13 c14 c15 c16 c17 c18 c19 c20 c21 o : O} : (S ++ c0 :: c1 :: c2 :: c3 :: c4 :: c5 :: c6 :: c7 :: c8 :: c9 :: c10 :: c11 :: c12 :: c13 :: c14 :: c15 :: c16 :: c17 :: c18 :: c19 :: c20 :: c21 :: l).set (S.length + 21) o = S ++ c0 :: c1 :: c2 :: c3 :: c4 :: c5 :: c6 :: c7 :: c8 :: c9 :: c10 :: c11 :: c12 :: c13 :: c14 :: c15 :: c16 :: c17 :: c18 :: c19 :: c20 :: o :: l := by rw [List.set_append_right _ _ (by omega)]; simp
theorem p_sets21 {S l : Store} {k : Nat} {p c0 c1 c2 c3 c4 c5 c6 c7 c8 c9 c10 c11 c12 c13 c14 c15 c16 c17 c18 c19 c20 c21 o : O} : (S.set k p ++ c0 :: c1 :: c2 :: c3 :: c4 :: c5 :: c6 :: c7 :: c8 :: c9 :: c10 :: c11 :: c12 :: c13 :: c14 :: c15 :: c16 :: c17 :: c18 :: c19 :: c20 :: c21 :: l).set (S.length + 21) o = S.set k p ++ c0 :: c1 :: c2 :: c3 :: c4 :: c5 :: c6 :: c7 :: c8 :: c9 :: c10 :: c11 :: c12 :: c13 :: c14 :: c15 :: c16 :: c17 :: c18 :: c19 :: c20 :: o :: l := by rw [List.set_append_right _ _ (by simp)]; simp
theorem p_get22 {S l : Store} {c0 c1 c2 c3 c4 c5 c6 c7 c8 c9 c10 c11 c12 c13 c14 c15 c16 c17 c18 c19 c20 c21 c22 : O} : (S ++ c0 :: c1 :: c2 :: c3 :: c4 :: c5 :: c6 :: c7 :: c8 :: c9 :: c10 :: c11 :: c12 :: c13 :: c14 :: c15 :: c16 :: c17 :: c18 :: c19 :: c20 :: c21 :: c22 :: l)[S.length + 22]? = some c22 := by rw [List.getElem?_append_right (by omega)]; simp
theorem p_gets22 {S l : Store} {k : Nat} {p c0 c1 c2 c3 c4 c5 c6 c7 c8 c9 c10 c11 c12 c13 c14 c15 c16 c17 c18 c19 c20 c21 c22 : O} : (S.set k p ++ c0 :: c1 :: c2 :: c3 :: c4 :: c5 :: c6 :: c7 :: c8 :: c9 :: c10 :: c11 :: c12 :: c13 :: c14 :: c15 :: c16 :: c17 :: c18 :: c19 :: c20 :: c21 :: c22 :: l)[S.length + 22]? = some c22 := by rw [List.getElem?_append_right (by simp)]; simp
theorem p_set22 {S l : Store} {c0 c1 c2 c3 c4 c5 c6 c7 c8 c9 c10 c11 c12 c13 c14 c15 c16 c17 c18 c19 c20 c21 c22 o : O} : (S ++ c0 :: c1 :: c2 :: c3 :: c4 :: c5 :: c6 :: c7 :: c8 :: c9 :: c10 :: c11 :: c12 :: c13 :: c14 :: c15 :: c16 :: c17 :: c18 :: c19 :: c20 :: c21 :: c22 :: l).set (S.length + 22) o = S ++ c0 :: c1 :: c2 :: c3 :: c4 :: c5 :: c6 :: c7 :: c8 :: c9 :: c10 :: c11 :: c12 :: c13 :: c14 :: c15 :: c16 :: c17 :: c18 :: c19 :: c20 :: c21 :: o :: l := by rw [List.set_append_right _ _ (by omega)]; simp
theorem p_sets22 {S l : Store} {k : Nat} {p c0 c1 c2 c3 c4 c5 c6 c7 c8 c9 c10 c11 c12 c13 c14 c15 c16 c17 c18 c19 c20 c21 c22 o : O} : (S.set k p ++ c0 :: c1 :: c2 :: c3 :: c4 :: c5 :: c6 :: c7 :: c8 :: c9 :: c10 :: c11 :: c12 :: c13 :: c14 :: c15 :: c16 :: c17 :: c18 :: c19 :: c20 :: c21 :: c22 :: l).set (S.length + 22) o = S.set k p ++ c0 :: c1 :: c2 :: c3 :: c4 :: c5 :: c6 :: c7 :: c8 :: c9 :: c10 :: c11 :: c12 :: c13 :: c14 :: c15 :: c16 :: c17 :: c18 :: c19 :: c20 :: c21 :: o :: l := by rw [List.set_append_right _ _ (by simp)]; simp
theorem p_get23 {S l : Store} {c0 c1 c2 c3 c4 c5 c6 c7 c8 c9 c10 c11 c12 c13 c14 c15 c16 c17 c18 c19 c20 c21 c22 c23 : O} : (S ++ c0 :: c1 :: c2 :: c3 :: c4 :: c5 :: c6 :: c7 :: c8 :: c9 :: c10 :: c11 :: c12 :: c13 :: c14 :: c15 :: c16 :: c17 :: c18 :: c19 :: c20 :: c21 :: c22 :: c23 :: l)[S.length + 23]? = some c23 := by rw [List.getElem?_append_right (by omega)]; simp
theorem p_gets23 {S l : Store} {k : Nat} {p c0 c1 c2 c3 c4 c5 c6 c7 c8 c9 c10 c11 c12 c13 c14 c15 c16 c17 c18 c19 c20 c21 c22 c23 : O} : (S.set k p ++ c0 :: c1 :: c2 :: c3 :: c4 :: c5 :: c6 :: c7 :: c8 :: c9 :: c10 :: c11 :: c12 :: c13 :: c14 :: c15 :: c16 :: c17 :: c18 :: c19 :: c20 :: c21 :: c22 :: c23 :: l)[S.length + 23]? = some c23 := by rw [List.getElem?_append_right (by simp)]; simp
theorem p_set23 {S l : Store} {c0 c1 c2 c3 c4 c5 c6 c7 c8 c9 c10 c11 c12 c13 c14 c15 c16 c17 c18 c19 c20 c21 c22 c23 o : O} : (S ++ c0 :: c1 :: c2 :: c3 :: c4 :: c5 :: c6 :: c7 :: c8 :: c9 :: c10 :: c11 :: c12 :: c13 :: c14 :: c15 :: c16 :: c17 :: c18 :: c19 :: c20 :: c21 :: c22 :: c23 :: l).set (S.length + 23) o = S ++ c0 :: c1 :: c2 :: c3 :: c4 :: c5 :: c6 :: c7 :: c8 :: c9 :: c10 :: c11 :: c12 :: c13 :: c14 :: c15 :: c16 :: c17 :: c18 :: c19 :: c20 :: c21 :: c22 :: o :: l := by rw [List.set_append_right _ _ (by omega)]; simp
theorem p_sets23 {S l : Store} {k : Nat} {p c0 c1 c2 c3 c4 c5 c6 c7 c8 c9 c10 c11 c12 c13 c14 c15 c16 c17 c18 c19 c20 c21 c22 c23 o : O} : (S.set k p ++ c0 :: c1 :: c2 :: c3 :: c4 :: c5 :: c6 :: c7 :: c8 :: c9 :: c10 :: c11 :: c12 :: c13 :: c14 :: c15 :: c16 :: c17 :: c18 :: c19 :: c20 :: c21 :: c22 :: c23 :: l).set (S.length + 23) o = S.set k p ++ c0 :: c1 :: c2 :: c3 :: c4 :: c5 :: c6 :: c7 :: c8 :: c9 :: c10 :: c11 :: c12 :: c13 :: c14 :: c15 :: c16 :: c17 :: c18 :: c19 :: c20 :: c21 :: c22 :: o :: l := by rw [List.set_append_right _ _ (by simp)]; simp
theorem p_get24 {S l : Store} {c0 c1 c2 c3 c4 c5 c6 c7 c8 c9 c10 c11 c12 c13 c14 c15 c16 c17 c18 c19 c20 c21 c22 c23 c24 : O} : (S ++ c0 :: c1 :: c2 :: c3 :: c4 :: c5 :: c6 :: c7 :: c8 :: c9 :: c10 :: c11 :: c12 :: c13 :: c14 :: c15 :: c16 :: c17 :: c18 :: c19 :: c20 :: c21 :: c22 :: c23 :: c24 :: l)[S.length + 24]? = some c24 := by rw [List.getElem?_append_right (by omega)]; simp
theorem p_gets24 {S l : Store} {k : Nat} {p c0 c1 c2 c3 c4 c5 c6 c7 c8 c9 c10 c11 c12 c13 c14 c15 c16 c17 c18 c19 c20 c21 c22 c23 c24 : O} : (S.set k p ++ c0 :: c1 :: c2 :: c3 :: c4 :: c5 :: c6 :: c7 :: c8 :: c9 :: c10 :: c11 :: c12 :: c13 :: c14 :: c15 :: c16 :: c17 :: c18 :: c19 :: c20 :: c21 :: c22 :: c23 :: c24 :: l)[S.length + 24]? = some c24 := by rw [List.getElem?_append_right (by simp)]; simp
theorem p_set24 {S l : Store} {c0 c1 c2 c3 c4 c5 c6 c7 c8 c9 c10 c11 c12 c13 c14 c15 c16 c17 c18 c19 c20 c21 c22 c23 c24 o : O} : (S ++ c0 :: c1 :: c2 :: c3 :: c4 :: c5 :: c6 :: c7 :: c8 :: c9 :: c10 :: c11 :: c12 :: c13 :: c14 :: c15 :: c16 :: c17 :: c18 :: c19 :: c20 :: c21 :: c22 :: c23 :: c24 :: l).set (S.length + 24) o = S ++ c0 :: c1 :: c2 :: c3 :: c4 :: c5 :: c6 :: c7 :: c8 :: c9 :: c10 :: c11 :: c12 :: c13 :: c14 :: c15 :: c16 :: c17 :: c18 :: c19 :: c20 :: c21 :: c22 :: c23 :: o :: l := by rw [List.set_append_right _ _ (by omega)]; simp
theorem p_sets24 {S l : Store} {k : Nat} {p c0 c1 c2 c3 c4 c5 c6 c7 c8 c9 c10 c11 c12 c13 c14 c15 c16 c17 c18 c19 c20 c21 c22 c23 c24 o : O} : (S.set k p ++ c0 :: c1 :: c2 :: c3 :: c4 :: c5 :: c6 :: c7 :: c8 :: c9 :: c10 :: c11 :: c12 :: c13 :: c14 :: c15 :: c16 :: c17 :: c18 :: c19 :: c20 :: c21 :: c22 :: c23 :: c24 :: l).set (S.length + 24) o = S.set k p ++ c0 :: c1 :: c2 :: c3 :: c4 :: c5 :: c6 :: c7 :: c8 :: c9 :: c10 :: c11 :: c12 :: c13 :: c14 :: c15 :: c16 :: c17 :: c18 :: c19 :: c20 :: c21 :: c22 :: c23 :: o :: l := by rw [List.set_append_right _ _ (by simp)]; simp
theorem p_get25 {S l : Store} {c0 c1 c2 c3 c4 c5 c6 c7 c8 c9 c10 c11 c12 c13 c14 c15 c16 c17 c18 c19 c20 c21 c22 c23 c24 c25 : O} : (S ++ c0 :: c1 :: c2 :: c3 :: c4 :: c5 :: c6 :: c7 :: c8 :: c9 :: c10 :: c11 :: c12 :: c13 :: c14 :: c15 :: c16 :: c17 :: c18 :: c19 :: c20 :: c21 :: c22 :: c23 :: c24 :: c25 :: l)[S.length + 25]? = some c25 := by rw [List.getElem?_append_right (by omega)]; simp
theorem p_gets25 {S l : Store} {k : Nat} {p c0 c1 c2 c3 c4 c5 c6 c7 c8 c9 c10 c11 c12 c13 c14 c15 c16 c17 c18 c19 c20 c21 c22 c23 c24 c25 : O} : (S.set k p ++ c0 :: c1 :: c2 :: c3 :: c4 :: c5 :: c6 :: c7 :: c8 :: c9 :: c10 :: c11 :: c12 :: c13 :: c14 :: c15 :: c16 :: c17 :: c18 :: c19 :: c20 :: c21 :: c22 :: c23 :: c24 :: c25 :: l)[S.length + 25]? = some c25 := by rw [List.getElem?_append_right (by simp)]; simp
theorem p_set25 {S l : Store} {c0 c1 c2 c3 c4 c5 c6 c7 c8 c9 c10 c11 c12 c13 c14 c15 c16 c17 c18 c19 c20 c21 c22 c23 c24 c25 o : O} : (S ++ c0 :: c1 :: c2 :: c3 :: c4 :: c5 :: c6 :: c7 :: c8 :: c9 :: c10 :: c11 :: c12 :: c13 :: c14 :: c15 :: c16 :: c17 :: c18 :: c19 :: c20 :: c21 :: c22 :: c23 :: c24 :: c25 :: l).set (S.length + 25) o = S ++ c0 :: c1 :: c2 :: c3 :: c4 :: c5 :: c6 :: c7 :: c8 :: c9 :: c10 :: c11 :: c12 :: c13 :: c14 :: c15 :: c16 :: c17 :: c18 :: c19 :: c20 :: c21 :: c22 :: c23 :: c24 :: o :: l := by rw [List.set_append_right _ _ (by omega)]; simp
theorem p_sets25 {S l : Store} {k : Nat} {p c0 c1 c2 c3 c4 c5 c6 c7 c8 c9 c10 c11 c12 c13 c14 c15 c16 c17 c18 c19 c20 c21 c22 c23 c24 c25 o : O} : (S.set k p ++ c0 :: c1 :: c2 :: c3 :: c4 :: c5 :: c6 :: c7 :: c8 :: c9 :: c10 :: c11 :: c12 :: c13 :: c14 :: c15 :: c16 :: c17 :: c18 :: c19 :: c20 :: c21 :: c22 :: c23 :: c24 :: c25 :: l).set (S.length + 25) o = S.set k p ++ c0 :: c1 :: c2 :: c3 :: c4 :: c5 :: c6 :: c7 :: c8 :: c9 :: c10 :: c11 :: c12 :: c13 :: c14 :: c15 :: c16 :: c17 :: c18 :: c19 :: c20 :: c21 :: c22 :: c23 :: c24 :: o :: l := by rw [List.set_append_right _ _ (by simp)]; simp
theorem p_item_r {S : Store} {k : Nat} {i : Int} : dItem S (.ref k) i = match S[k]? with
    | some (.lst xs) => atI xs i
    | _ => none := rfl
theorem p_setIx_r {S : Store} {k : Nat} {i : Int} {v : D} : dSetIx S (.ref k) i v = match S[k]? with
    | some (.lst xs) => (ixN xs.length i).map fun j => S.set k (.lst (xs.set j v))
    | _ => none := rfl
end DL

/-! letters with heights -/
namespace DL
open PySem PySem.Spec L2 Wd
def up (l : Letter) (h : Int) : Letter := ⟨l.nm, l.hs ++ [h]⟩
def dn (l : Letter) : Letter := ⟨l.nm, l.hs.dropLast⟩
def lh (l : Letter) : Int := l.hs.getLastD 0
def stp : Letter := ⟨47, []⟩
theorem dn_up (l : Letter) (h : Int) : dn (up l h) = l := by
  unfold dn up
  simp
theorem lh_up (l : Letter) (h : Int) : lh (up l h) = h := by
  unfold lh up
  simp
theorem up_of {l : Letter} (h : l.hs ≠ []) : l = up (dn l) (lh l) := by
  obtain ⟨n, hs⟩ := l
  obtain rfl | ⟨hs', x, rfl⟩ := List.eq_nil_or_concat hs
  · exact absurd rfl h
  · simp [up, dn, lh]
theorem up_inj {l m : Letter} {a b : Int} : up l a = up m b ↔ l = m ∧ a = b := by
  constructor
  · intro h
    have h1 := congrArg dn h
    have h2 := congrArg lh h
    rw [dn_up, dn_up] at h1
    rw [lh_up, lh_up] at h2
    exact ⟨h1, h2⟩
  · rintro ⟨rfl, rfl⟩
    rfl
theorem up_ne (l : Letter) (h : Int) : (up l h).hs ≠ [] := by
  unfold up
  simp
theorem up_len (l : Letter) (h : Int) : (up l h).hs.length = l.hs.length + 1 := by
  unfold up
  simp
section
variable {st : Store} {Q : DQ} {l : Letter} {h i : Int}
theorem w_stp : D.tup [D.str (Str.ofString "/")] = dL stp := by
  have e : Str.ofString "/" = ⟨#[47]⟩ := by decide
  rw [e]
  rfl
theorem w_mkh : D.tup [D.str (Str.ofString "!"), .int h] = dL (up mk h) := by
  have e : Str.ofString "!" = ⟨#[33]⟩ := by decide
  rw [e]
  rfl
theorem w_addL : dAdd (dL l) (.tup [.int h]) st Q = (l.hs.length + 1 + 1 ≤ sizeLine ∧ Q (dL (up l h)) st) := by
  unfold dL up
  rw [w_add_t]
  simp
theorem w_lenL : dLen [dL l] st Q = Q (.int ((l.hs.length + 1 : Nat) : Int)) st := by
  unfold dL
  rw [w_len_t]
  simp
theorem dL_up : dL (up l h) = .tup (.str ⟨#[l.nm.val]⟩ :: (l.hs.map D.int ++ [.int h])) := by
  unfold dL up
  simp
theorem cut_dl {xs : List D} {a : D} : cutD (xs ++ [a]) none (some (-1)) = xs := by
  unfold cutD
  have e1 : HT.sIx (xs ++ [a]).length 0 none = 0 := HT.sIx_none _ _
  have e2 : HT.sIx (xs ++ [a]).length (xs ++ [a]).length (some (-1)) = xs.length := by
    show (if (-1 : Int) < 0 then (-1 + ((xs ++ [a]).length : Int)).toNat else min (-1 : Int).toNat (xs ++ [a]).length) = _
    rw [if_pos (by omega), List.length_append, List.length_singleton]
    omega
  rw [e1, e2]
  simp
theorem w_sl_dn : dSl (dL (up l h)) none (some (-1)) st Q = Q (dL l) st := by
  rw [dL_up, ← List.cons_append]
  unfold dSl
  dsimp only
  rw [cut_dl]
  rfl
theorem w_sl_dnN : dSl (dL (up l h)) none (some ((l.hs.length : Int) + 1)) st Q = Q (dL l) st := by
  rw [dL_up, ← List.cons_append]
  unfold dSl
  dsimp only
  rw [cut_toI (by omega), show ((l.hs.length : Int) + 1).toNat = l.hs.length + 1 by omega, List.take_left' (by simp)]
  rfl
theorem w_it_up : dItem st (dL (up l h)) (-1) = some (.int h) := by
  rw [dL_up, ← List.cons_append]
  exact atI_end _ _
theorem w_it_upN : dItem st (dL (up l h)) ((l.hs.length : Int) + 1) = some (.int h) := by
  rw [dL_up, ← List.cons_append, w_item_t, atI_nn (by omega) (by simp; omega), show ((l.hs.length : Int) + 1).toNat = l.hs.length + 1 by omega]
  rw [List.getElem?_append_right (by simp)]
  simp
theorem w_it_0 : dItem st (dL l) 0 = some (.str ⟨#[l.nm.val]⟩) := by
  unfold dL
  exact atI_zero
end
section
variable {st : Store} {Q : DQ} {i j : Int}
theorem cut_any {xs : List D} {p q : Nat} (hp : p ≤ xs.length) : cutD xs (some (p : Int)) (some (q : Int)) = (xs.drop p).take (q - p) := by
  unfold cutD
  rw [HT.sIx_nat, HT.sIx_nat, Nat.min_eq_left hp]
  by_cases h : q ≤ xs.length
  · rw [Nat.min_eq_left h]
  · rw [Nat.min_eq_right (by omega), List.take_of_length_le (by rw [List.length_drop]; omega), List.take_of_length_le (by rw [List.length_drop]; omega)]
theorem w_divmod : dDivmod [.int i, .int j] st Q = (CDiv i j ∧ Q (.tup [.int (i / j), .int (i % j)]) st) := rfl
theorem dAll_ref {bs : List Bool} {m : Nat} (h : st[m]? = some (.lst (bs.map D.bl))) (q : Q (.bl (bs.all id)) st) : dAll [.ref m] st Q := ⟨m, bs, rfl, h, q⟩
theorem zs {n : Nat} (h : n ≤ 16777216) : (n ≤ sizeLine) = True := eq_true (small_line h)
theorem zs_0 : (0 ≤ sizeLine) = True := zs (by decide)
theorem zs_1 : (1 ≤ sizeLine) = True := zs (by decide)
theorem zs_2 : (2 ≤ sizeLine) = True := zs (by decide)
theorem zs_3 : (3 ≤ sizeLine) = True := zs (by decide)
theorem zs_4 : (4 ≤ sizeLine) = True := zs (by decide)
theorem zs_5 : (5 ≤ sizeLine) = True := zs (by decide)
theorem zs_6 : (6 ≤ sizeLine) = True := zs (by decide)
theorem zs_7 : (7 ≤ sizeLine) = True := zs (by decide)
theorem zs_8 : (8 ≤ sizeLine) = True := zs (by decide)
theorem zs_9 : (9 ≤ sizeLine) = True := zs (by decide)
theorem zs_10 : (10 ≤ sizeLine) = True := zs (by decide)
theorem zs_11 : (11 ≤ sizeLine) = True := zs (by decide)
theorem zs_12 : (12 ≤ sizeLine) = True := zs (by decide)
theorem zs_13 : (13 ≤ sizeLine) = True := zs (by decide)
theorem zs_14 : (14 ≤ sizeLine) = True := zs (by decide)
theorem zs_15 : (15 ≤ sizeLine) = True := zs (by decide)
theorem zs_16 : (16 ≤ sizeLine) = True := zs (by decide)
end
/-! shifting -/
def shl (n : Int) (l : Letter) : Letter := up (dn l) (lh l + n)
def shw (n : Int) (w : Word) : Word := w.map fun r => (shl n r.1, r.2)
theorem shl_up (n : Int) (l : Letter) (h : Int) : shl n (up l h) = up l (h + n) := by
  unfold shl
  rw [dn_up, lh_up]
theorem shl_inj {n : Int} {l m : Letter} (hl : l.hs ≠ []) (hm : m.hs ≠ []) (h : shl n l = shl n m) : l = m := by
  unfold shl at h
  obtain ⟨h1, h2⟩ := up_inj.mp h
  rw [up_of hl, up_of hm, h1, show lh l = lh m by omega]
theorem shl_ne (n : Int) (l : Letter) : (shl n l).hs ≠ [] := up_ne _ _
theorem shl_shl (n m : Int) (l : Letter) : shl n (shl m l) = shl (m + n) l := by
  unfold shl
  rw [dn_up, lh_up, Int.add_assoc]
theorem shl_zero {l : Letter} (h : l.hs ≠ []) : shl 0 l = l := by
  unfold shl
  rw [Int.add_zero]
  exact (up_of h).symm
theorem shw_shw (n m : Int) (w : Word) : shw n (shw m w) = shw (m + n) w := by
  unfold shw
  rw [List.map_map]
  congr 1
  funext r
  simp only [Function.comp, shl_shl]
theorem shw_zero {w : Word} (h : ∀ r ∈ w, r.1.hs ≠ []) : shw 0 w = w := by
  unfold shw
  conv => rhs; rw [← List.map_id w]
  apply List.map_congr_left
  intro r hr
  rw [shl_zero (h r hr)]
  rfl
theorem shw_ne (n : Int) (w : Word) : ∀ r ∈ shw n w, r.1.hs ≠ [] := by
  intro r hr
  obtain ⟨x, _, rfl⟩ := List.mem_map.mp hr
  exact shl_ne _ _
theorem shw_len (n : Int) (w : Word) : (shw n w).length = w.length := by
  unfold shw
  rw [List.length_map]
theorem Red.shw {n : Int} {w : Word} (hw : Red w) (h : ∀ r ∈ w, r.1.hs ≠ []) : Red (shw n w) := by
  induction w with
  | nil => trivial
  | cons r w ih =>
    refine ⟨hw.1, ?_, ih hw.2.2 fun x hx => h x (by simp [hx])⟩
    intro m hm e
    cases w with
    | nil => cases hm
    | cons q w =>
      cases hm
      exact hw.2.1 q rfl (shl_inj (h q (by simp)) (h r (by simp)) e)
section
variable {st : Store} {Q : DQ} {x : D} {xs : List D} {w : Word} {l : Letter} {i : Int} {k : Nat} {b : Bool}
theorem w_isn : dIsN x .non st Q = Q (.bl x.isNon) st := rfl
theorem w_notn : dNotN x .non st Q = Q (.bl (!x.isNon)) st := rfl
theorem w_nonN : D.non.isNon = true := rfl
theorem w_nonW : (dW w).isNon = false := rfl
theorem w_nonL : (dL l).isNon = false := rfl
theorem w_nonI : (D.int i).isNon = false := rfl
theorem w_nonT : (D.tup xs).isNon = false := rfl
theorem w_nonR : (D.ref k).isNon = false := rfl
theorem w_nonB : (D.bl b).isNon = false := rfl
end
theorem cdivA_small {a m : Int} (h0 : 0 < m) (h1 : m ≤ 10 ^ 30) : CDivA a m := by
  refine .inr ⟨h0, ?_⟩
  have h2 : m.natAbs < 2 ^ 100 := by
    have : (10 : Int) ^ 30 < 2 ^ 100 := by decide
    omega
  have := PySem.Flt.log2_lt_of (show 0 < 100 by decide) h2
  omega
theorem lt_Wi {n : Nat} {w : Word} {i : Int} : (D.tup [dW w, .int i]).lt n := lt_of_fl (m := 9) (by
  unfold D.fl
  simp only [List.all_cons, List.all_nil, Bool.and_true, fl_W 5, Bool.true_and]
  rfl)
theorem lt_WW' {n : Nat} {w u : Word} : (D.tup [dW w, dW u]).lt n := lt_of_fl (m := 9) (by
  unfold D.fl
  simp only [List.all_cons, List.all_nil, Bool.and_true, fl_W 5, Bool.true_and])
end DL

/-! rows of runs: single rows, stripping -/
namespace DL
open PySem PySem.Spec L2 Wd
theorem at_run {X : Word} {k : Nat} {r : Letter × Int} (h : X[k]? = some r) : atI (X.map dRun) (k : Int) = some (dRun r) := by
  have hk : k < X.length := by
    rcases Nat.lt_or_ge k X.length with h1 | h1
    · exact h1
    · rw [List.getElem?_eq_none h1] at h
      cases h
  rw [atI_nn (by omega) (by rw [List.length_map]; omega), Int.toNat_natCast, List.getElem?_map, h]
  rfl
/-- the two ends of what is not stripped yet -/
theorem strip_go {O C : Word} {j : Nat} (h : j < O.length) : ∃ a, (O ++ (C ++ inv O))[j]? = some a ∧ (O ++ (C ++ inv O))[(O ++ (C ++ inv O)).length - j - 1]? = some (a.1, -a.2) := by
  obtain ⟨a, ha⟩ : ∃ a, O[j]? = some a := ⟨O[j], List.getElem?_eq_getElem h⟩
  refine ⟨a, by rw [List.getElem?_append_left h, ha], ?_⟩
  have hi : (inv O).length = O.length := len_inv O
  have e : (O ++ (C ++ inv O)).length = O.length + (C.length + O.length) := by rw [List.length_append, List.length_append, hi]
  rw [e, List.getElem?_append_right (by omega), List.getElem?_append_right (by omega)]
  unfold Wd.inv
  rw [List.getElem?_reverse (by rw [List.length_map]; omega), List.getElem?_map, List.length_map]
  have : O.length - 1 - (O.length + (C.length + O.length) - j - 1 - O.length - C.length) = j := by omega
  rw [this, ha]
  rfl
theorem strip_stop {O C : Word} (h : Fr (C ++ C)) (hc : C ≠ []) : ∃ a b, (O ++ (C ++ inv O))[O.length]? = some a ∧ (O ++ (C ++ inv O))[(O ++ (C ++ inv O)).length - O.length - 1]? = some b ∧ ¬ (a.1 = b.1 ∧ a.2 + b.2 = 0) := by
  have hC : 0 < C.length := List.length_pos_iff.mpr hc
  have hi : (inv O).length = O.length := len_inv O
  have e : (O ++ (C ++ inv O)).length = O.length + (C.length + O.length) := by rw [List.length_append, List.length_append, hi]
  obtain ⟨a, ha⟩ : ∃ a, C.head? = some a := by
    cases C with
    | nil => exact absurd rfl hc
    | cons a t => exact ⟨a, rfl⟩
  obtain ⟨b, hb⟩ : ∃ b, C.getLast? = some b := ⟨C.getLast hc, List.getLast?_eq_some_getLast hc⟩
  refine ⟨a, b, ?_, ?_, fun hh => h.seam hb ha ⟨hh.1, by omega⟩⟩
  · rw [List.getElem?_append_right (Nat.le_refl _), Nat.sub_self, List.getElem?_append_left hC, ← List.head?_eq_getElem?, ha]
  · rw [e, List.getElem?_append_right (by omega), List.getElem?_append_left (by omega), ← hb, List.getLast?_eq_getElem?]
    congr 1
    omega
theorem spelled_no {x : Letter} {u : Word} (h : ∀ y ∈ u, y.1 ≠ x) : ∀ y ∈ spelled u, y.1 ≠ x := fun y hy => by
  unfold spelled at hy
  obtain ⟨z, hz, hy⟩ := List.mem_flatMap.mp hy
  unfold spell1 at hy
  obtain ⟨_, rfl⟩ := List.mem_replicate.mp hy
  exact h z hz
theorem spelled_in {ls : List Letter} {u : Word} (h : ∀ y ∈ u, y.1 ∈ ls) : ∀ y ∈ spelled u, y.1 ∈ ls := fun y hy => by
  unfold spelled at hy
  obtain ⟨z, hz, hy⟩ := List.mem_flatMap.mp hy
  unfold spell1 at hy
  obtain ⟨_, rfl⟩ := List.mem_replicate.mp hy
  exact h z hz
theorem w_mulR {st : Store} {Q : DQ} {k : Nat} {n : Int} {a : List D} (h : st[k]? = some (.lst a)) : dMul (.ref k) (.int n) st Q = (-(2 ^ 63) ≤ n ∧ n < 2 ^ 63 ∧ a.length * n.toNat ≤ sizeLine ∧ Q (.ref st.length) (st ++ [.lst (List.replicate n.toNat a).flatten])) := by
  unfold dMul
  simp only [h]
theorem dW_inj {u v : Word} (e : dW u = dW v) : u = v := by
  have h1 := eqv_W u v
  rw [← e, eqv_W u u] at h1
  simpa using h1
theorem dL_inj {u v : Letter} (e : dL u = dL v) : u = v := by
  have h1 := eqv_L u v
  rw [← e, eqv_L u u] at h1
  simpa using h1
theorem dIfS_tt {c : DTT} {a b : DTS} {n : Nat} {d : DEnds} {env : DEnv} {st st' : Store} (h : ∀ Q, c env st Q = Q true st') : dIfS c a b n d env st = a n d env st' := by
  unfold dIfS
  rw [h]
  simp
theorem dIfS_ff {c : DTT} {a b : DTS} {n : Nat} {d : DEnds} {env : DEnv} {st st' : Store} (h : ∀ Q, c env st Q = Q false st') : dIfS c a b n d env st = b n d env st' := by
  unfold dIfS
  rw [h]
  simp
end DL

/-! an own class of exceptions whose __init__ says super().__init__(a text) and stores its one argument -/
namespace XS
open PySem PySem.Spec PyProof.Rows L2
/-- what a class says for this -/
structure SupC (K : PySem.W.Frag) (C : Addr) : Prop where
  ox : OexC K C
  sup : PySem.W.ks_superIn K C C "__init__" = some (some (.builtin "ValueError.__init__"))
  isV : PySem.W.subIn K (.ref C) (.type "ValueError") = some true
  isC : PySem.W.mroIn K C (.ref C) = some true
  opq : PySem.W.nsIn K cStatics "thirdparty.any" = some none
/-- its __init__ -/
structure SupF (K : PySem.W.Frag) (prog : Program) (C fI : Addr) (f txt : Str) : Prop where
  find : PySem.W.findIn K (.ref C) "__init__" = some (some (.ref fI))
  ty : PySem.W.typeIn K (.ref fI) = some (.type "function")
  ex : ∃ (qual : Str) (params : Arguments) (body : List Stmt) (scope : Scope) (dV kV doc pm ct oc ccl cl : Value) (an od cdd cld : Option Addr) (osl ccs csl : Array (Option Value)) (cda cc : Addr) (vs : Array Value) (file : Str) (tf : Tok)
      (p0 p1 p2 p3 p4 p5 p6 p7 p8 p9 : Pos) (j : Nat) (ar1 ar2 : Arg),
    K.lookup fI = some ⟨oc, od, .func (PySem.W.ksFn "__init__" qual params body scope dV kV doc pm an (.ref cda) ct cc), osl⟩ ∧ PySem.W.codeIn K (.ref cda) qual = true ∧
    K.lookup cda = some ⟨ccl, cdd, .fields vs, ccs⟩ ∧ vs[2]? = some (.str file tf) ∧ ((prog.main.file : Str) == file) = true ∧ (prog.main.scope.names.lookup ("super" : Str)).isSome = false ∧
    K.lookup cc = some ⟨cl, cld, .cell (some (.ref C)), csl⟩ ∧
    body = [.Expr (.Call (.Attribute (.Call (.Name "super" p0) [] [] p1) "__init__" p2) [.Constant (.str txt) j p3] [] p4) p5, .Assign [.Attribute (.Name "self" p6) f p7] (.Name f p8) p9] ∧
    (∀ (s : Shared) (x u : Value), BindsTo s (PySem.W.ksFn "__init__" qual params body scope dV kV doc pm an (.ref cda) ct cc) ⟨[x, u], []⟩ [("self", x), (f, u)]) ∧
    (params.posonlyargs ++ params.args) = [ar1, ar2] ∧ ar1.arg = "self" ∧
    scope.names.lookup ("super" : Str) = some .globalImplicit ∧ scope.names.lookup ("__class__" : Str) = some .free ∧ scope.names.lookup ("self" : Str) = some .local ∧ scope.names.lookup f = some .local ∧
    (∀ x ∈ scope.names, x.2 ≠ .cell) ∧ scope.kind = .function ∧ scope.isCoroutine = false ∧ scope.isGenerator = false ∧ f ≠ "self" ∧ (f == ("__debug__" : Str)) = false ∧
    (∀ (L : Addr) (env : PySem.Env), env = callEnv (PySem.W.ksFn "__init__" qual params body scope dV kV doc pm an (.ref cda) ct cc) L fI →
      interactive env = false ∧ swapsWith (.Call (.Attribute (.Call (.Name "super" p0) [] [] p1) "__init__" p2) [.Constant (.str txt) j p3] [] p4) none p5.line env = pure false ∧
      (∃ pl : Sem Bool, eval (.Call (.Attribute (.Call (.Name "super" p0) [] [] p1) "__init__" p2) [.Constant (.str txt) j p3] [] p4) env = (do
        let ov ← attributeBase (.Call (.Name "super" p0) [] [] p1) "__init__" env (eval (.Call (.Name "super" p0) [] [] p1) env)
        standAt p2.atName
        let (f, first) ← holding [ov] (getMethod ov "__init__" pl)
        callWith p4 f first (backTo p4 (starEach [.Constant (.str txt) j p3] env)) [])) ∧
      swapsWith (.Name f p8) (some (.Attribute (.Name "self" p6) f p7)) p9.line env = pure false)
section
variable {X : Cx} {e : Expr} {p pos : Pos} {te : TE} {C fI : Addr} {x f txt : Str} {k : Nat}
def tMkS (C : Addr) (f : Str) (te : TE) : L2.St → Hp → XK → Prop := fun σ H Q => te σ H fun v H1 => ∀ d, H1 d = none → Q (.ref C) (some d) (upd H1 d (.xd [(f, v)]))
theorem pmk_sup (T : SupC X.K C) (S : SupF X.K X.prog C fI f txt) (hr : Room (k + 2) X.A) (hsu : X.mg "super" = none) (hno : PySem.W.findIn X.K (.ref C) f = some none) (hg : Gl X x) (hm : X.mg x = some (.ref C)) (he : PE X e te)
    (hdb : (x == ("__debug__" : Str)) = false := by decide) (hse : starEach [e] X.env = (false, eval e X.env) :: starEach [] X.env := by rfl) (hpl : (backTo pos (starEach [] X.env)).any (·.1) = false := by rfl) :
    PMk X (.Call (.Name x p) [e] [] pos) (tMkS C f te) := by
  intro pins s σ H Q I h
  obtain ⟨qual, params, body, scope, dV, kV, doc, pm, ct, oc, ccl, cl, an, od, cdd, cld, osl, ccs, csl, cda, cc, vs, file, tf, p0, p1, p2, p3, p4, p5, p6, p7, p8, p9, j, ar1, ar2, lkF, lkC, lkD, hvs, hfile, htop, lkCell, hbody, hbind, hpar, har, sSup, sCls, sSelf, sF, sCell, sKind, sCo, sGen, hfs, hfd, hEnv⟩ := S.ex
  obtain ⟨nm, q, N, bs, bm, sn, sub, ab, col, dd, k0, k1, k2, k3, k5, hC, hbm⟩ := T.ox.cls
  have ha : PA X [e] (tCons te tNil) := pa_cons he pa_nil hse
  refine wpAny_Call_Name_kw (ld_glob I hg hm ?_ hdb)
  refine PySem.W.callWith_K (h₀ := X.base) I.ok.mod.kin T.ox.kC (thn (ha.run pos pins s σ H (fun ws H1 => match ws with | [v] => ∀ d, H1 d = none → Q (.ref C) (some d) (upd H1 d (.xd [(f, v)])) | _ => False) I h) fun us s1 ⟨ws, H1, I1, r1, hq⟩ => ⟨I1.kIn, ?_⟩) hse hpl
  obtain ⟨v, rfl⟩ : ∃ v, ws = [v] := by
    match ws, hq with
    | [v], _ => exact ⟨v, rfl⟩
  dsimp only at hq
  obtain ⟨u, rfl, ru⟩ : ∃ u, us = [u] ∧ RelV v u := by
    cases r1 with
    | cons ru rn => cases rn; exact ⟨_, rfl, ru⟩
  show wpAny _ _ (call (.ref C) [u]) _ _ _
  obtain ⟨hp, g, dr, tk, os⟩ := s1
  have hus : [u].length ≤ sizeLine := by rw [sizeLine_eq]; simp
  have kk : ∀ b o, hp.get? b = some o → ((hp.push (PySem.W.kdv_tup [u])).push (PySem.HandSPX.excO C hp.objs.size)).get? b = some o := fun b o e => Heap.get?_push_of_some _ (Heap.get?_push_of_some _ e)
  have hget : ((hp.push (PySem.W.kdv_tup [u])).push (PySem.HandSPX.excO C hp.objs.size)).get? (hp.objs.size + 1) = some (PySem.HandSPX.excO C hp.objs.size) := by heap_get
  generalize hp2E : (hp.push (PySem.W.kdv_tup [u])).push (PySem.HandSPX.excO C hp.objs.size) = hp2 at kk hget
  have KX : X.K.In hp2 := I1.kIn.keeps kk
  have lim : hp2.NoLimit := I1.ok.mod.nolimit.keeps fun b o e => kk b o (I1.bk b o e)
  refine wpAny_call (PySem.HandSPX.call_own F.excBase_ValueError (fun Y => PySem.HandSPX.refsVE_contains Y bm hbm) (I1.kIn _ _ hC) (PySem.W.looks_findIn I1.kIn S.find) (fun self => PySem.W.bind_fn I1.kIn self S.ty) hus ?_)
  rw [hp2E]
  have hr2 := (hr.make C [u] [])
  refine PySem.ks_codeAny_call_defAt (fd := PySem.W.ksFn "__init__" qual params body scope dV kV doc pm an (.ref cda) ct cc) (body := body) (binds := [("self", .ref (hp.objs.size + 1)), (f, u)]) hr2.depth (KX _ _ lkF) rfl lim (PySem.W.codeRec_of KX lkC) rfl (hbind _ _ _) sCell (fun y hy => ?_) (fun h1 hns hk1 => ?_) sCo sGen sKind
  · simp only [List.mem_cons, List.not_mem_nil, or_false] at hy
    rcases hy with rfl | rfl
    · exact sSelf
    · exact sF
  have K1 : X.K.In h1 := KX.keeps hk1
  have hget1 := hk1 _ _ hget
  have nsS : (fun y => ([(("self" : Str), Value.ref (hp.objs.size + 1)), (f, u)] : List (Str × Value)).reverse.lookup y) ("self" : Str) = some (.ref (hp.objs.size + 1)) := by
    show List.lookup ("self" : Str) [(f, u), (("self" : Str), Value.ref (hp.objs.size + 1))] = _
    rw [List.lookup_cons, show (("self" : Str) == f) = false from by simpa using Ne.symm hfs]
    rfl
  have nsF : (fun y => ([(("self" : Str), Value.ref (hp.objs.size + 1)), (f, u)] : List (Str × Value)).reverse.lookup y) f = some u := by
    show List.lookup f [(f, u), (("self" : Str), Value.ref (hp.objs.size + 1))] = _
    rw [List.lookup_cons, show (f == f) = true from by simp]
  generalize hm1 : (fun y => ([(("self" : Str), Value.ref (hp.objs.size + 1)), (f, u)] : List (Str × Value)).reverse.lookup y) = m1 at hns nsS nsF
  obtain ⟨L, hL⟩ : ∃ L, L = hp2.objs.size := ⟨_, rfl⟩
  have hD2 : ∃ cd : ClassData, (excClassObj nm q C N bs bm true sn sub ab col dd k0 k1 k2 k3 k5 "ValueError.__new__").data = .cls cd := ⟨_, rfl⟩
  obtain ⟨cdD, hD2⟩ := hD2
  have IX : PySem.W.InstAt h1 (hp.objs.size + 1) (PySem.HandSPX.excO C hp.objs.size) C none := ⟨hget1, rfl, rfl, trivial⟩
  subst hbody
  obtain ⟨hi, hs1, ⟨pl, he1⟩, hs2⟩ := hEnv L _ rfl
  obtain ⟨mb, hblt, hmb⟩ := I1.ok.mod.blt
  have kb1 : ∀ b o, X.base.get? b = some o → h1.get? b = some o := fun b o e => hk1 b o (kk b o (I1.bk b o e))
  rw [← hL] at hns
  show PySem.wpAt _ _ _ (execs _ (callEnv _ hp2.objs.size fI)) _ _ _
  rw [← hL]
  refine PySem.ks_wpAt_execs_cons (PySem.ks_wpAt_Expr_any (PySem.ks_wpAt_MethodCall ?_ he1) hi hs1)
  refine PySem.ks_wpAt_super_base sSup sCls rfl rfl (K1 _ _ lkF) rfl (ar := ar1) (by show (params.posonlyargs ++ params.args).head? = _; rw [hpar]; rfl) rfl (K1 _ _ lkD) rfl hvs hfile htop ?_
  refine PySem.W.ks_loadName_global sKind sSup (Calls.loadGlobal_builtin (I1.ok.mod.glob.keeps kb1) hsu (hblt.keeps kb1) ((hmb _ (by decide +kernel)).trans (by decide +kernel)) ⟨rfl, ?_⟩)
  refine wpAny_loadName_free sKind sCls rfl ⟨_, K1 _ _ lkCell, rfl⟩ ?_
  rw [har]
  refine wpAny_loadName_local sKind sSelf hns nsS ?_
  refine PySem.ks_wpAny_isType_cls (K1 _ _ hC) hD2 ⟨rfl, ?_⟩
  refine PySem.ks_wpAny_call_super (K1 _ _ hC) hD2 hget1 rfl (fun c e => by cases e) (PySem.W.looks_mroIn K1 T.isC) (fun h2 e2 k2 => ?_)
  have K2 : X.K.In h2 := K1.keeps k2
  have hxC : hp.objs.size + 1 ≠ C := fun z => by
    have h3 : C < hp.objs.size := Heap.lt_size (I1.kIn _ _ hC)
    rw [← z] at h3
    exact absurd h3 (Nat.not_lt.mpr (Nat.le_succ _))
  have hIs : PySem.W.Looks (model X.prog X.w) h2 (isInstance (.ref (hp.objs.size + 1)) (.type "ValueError")) true := by
    have hI : PySem.W.Looks (model X.prog X.w) h1 (isInstance (.ref (hp.objs.size + 1)) (.type "ValueError")) true := IX.type.andThen (PySem.W.looks_subIn K1 T.isV)
    exact hI.keeps k2
  have hcl : PySem.W.clsIn X.K C = some { name := nm, bases := bs, mro := .ref C :: bm, ns := N, qualname := q, hasDict := true, slotNames := sn, subclasses := sub, abstract := ab, collection := col, hasDel := false } := by unfold PySem.W.clsIn; rw [hC] <;> rfl
  have hsup := T.sup
  unfold PySem.W.ks_superIn at hsup
  rw [hcl] at hsup
  refine PySem.W.kxs_getMethod PySem.W.kxs_ValueError e2 (PySem.W.looks_opaque K2 T.opq) (l₀ := .ref C :: bm) ?_ rfl K2 hsup hIs hxC rfl ?_
  · exact fun A Q E s k q => wpAny_bind ((PySem.W.looks_clsIn K2 hcl) A _ E s k (wpAny_pure q))
  obtain ⟨h3, h3E⟩ : ∃ h3, h3 = h2.push (PySem.W.kxs_mw "ValueError.__init__" (hp.objs.size + 1)) := ⟨_, rfl⟩
  rw [← h3E]
  have k3 : ∀ b o, h2.get? b = some o → h3.get? b = some o := fun b o e => by rw [h3E]; exact Heap.get?_push_of_some _ e
  have hmw : h3.get? h2.objs.size = some (PySem.W.kxs_mw "ValueError.__init__" (hp.objs.size + 1)) := by rw [h3E]; exact Heap.get?_push_at rfl rfl
  have k03 : ∀ b o, h1.get? b = some o → h3.get? b = some o := fun b o e => k3 b o (k2 b o e)
  dsimp only
  refine PySem.W.kxs_callWith (i := "ValueError.__init__") (x := hp.objs.size + 1) rfl (Calls.evalArgs_plain ?_)
  refine Calls.spliced_cons (Calls.Constant_str (k := j) (pos := p3) (Calls.spliced_nil ⟨hmw, ?_⟩))
  have hget3 := k03 _ _ hget1
  have K3 : X.K.In h3 := K1.keeps k03
  refine wpAny_call (codeAny_of_tree ?_)
  show wpAny _ _ (callAny (.ref h2.objs.size) ⟨[] ++ [.str txt _], []⟩) _ _ _
  simp only [callAny, List.nil_append]
  refine wpAny_bind (wpAny_load hmw ?_)
  simp only [PySem.W.kxs_mw, show (Value.type "method-wrapper" == Value.type "method" || Value.type "method-wrapper" == Value.type "builtin_function_or_method" || Value.type "method-wrapper" == Value.type "method-wrapper") = true by decide, if_true]
  refine PySem.W.KFB.if_so (by decide) ?_
  refine wpAny_bind (PySem.W.check_bound_init F.excBase_ValueError.toExcCallFacts (K3 _ _ hC) hget3 rfl ?_)
  refine wpAny_bind (wpAny_pure (wpAny_pure ?_))
  refine ⟨plainId_quiet F.excBase_ValueError.init.plain _, codeAny_builtin F.excBase_ValueError.initEntry ?_⟩
  refine PySem.W.exc_init_tree (cls := .ref C) (t0 := hp.objs.size) (dv := none) (c2 := .none) (c3 := .none) (b4 := .bool false) hget3 (by rw [sizeLine_eq]; simp) fun h4 k4 e4 _ => ?_
  have xn : ∀ b o, hp.get? b = some o → b ≠ hp.objs.size + 1 := fun b o e => Nat.ne_of_lt (Nat.lt_succ_of_lt (Heap.lt_size e))
  have kp4 : ∀ b o, hp.get? b = some o → h4.get? b = some o := fun b o e => k4 b o (xn b o e) (k03 b o (hk1 b o (kk b o e)))
  have K4 : X.K.In h4 := I1.kIn.keeps kp4
  have hns4 : h4.Ns L m1 := by
    obtain ⟨oL, es, ep, hLo, r⟩ := hns
    refine ⟨oL, es, ep, k4 _ _ (fun z => ?_) (k03 _ _ hLo), r⟩
    have h5 := Heap.lt_size hget
    rw [← z, hL] at h5
    exact absurd h5 (Nat.lt_irrefl _)
  refine wpAt_of_wpAny (wpAny_execs_cons (plainObj_wpAny_Assign_Attribute ?_ hs2))
  refine wpAny_Name (wpAny_loadName_local sKind sF hns4 nsF ?_) hfd
  refine wpAny_Name (wpAny_loadName_local sKind sSelf hns4 nsS ?_) rfl
  refine PySem.W.set_plain K4 (ox := { cls := .ref C, dict := none, data := .fields #[.ref h3.objs.size, .none, .none, .none, .bool false, .none] }) (od := none) ⟨e4, rfl, rfl, trivial⟩ T.ox.sa ?_
  refine PySem.HandSPX.exc_osa K4 e4 hcl (show PySem.HandSPX.refsVE (.ref C :: bm) = true from hbm) rfl hno (fun h5 tk' dx k5 dn dne hx hn => ?_)
  refine wpAny_execs_nil ⟨rfl, ?_⟩
  obtain ⟨G, g1', g2'⟩ := restrict h5 fun b => decide (b ≠ hp.objs.size + 1)
  have gk : ∀ b, b ≠ hp.objs.size + 1 → G.get? b = h5.get? b := fun b hb => g1' b (decide_eq_true hb)
  have ge : G.get? (hp.objs.size + 1) = none := g2' _ (by simp)
  have kG : ∀ b o, hp.get? b = some o → G.get? b = some o := fun b o e => by
    rw [gk b (xn b o e)]
    exact k5 b o (xn b o e) (kp4 b o e)
  have s1 : hp.objs.size < L := by
    have h6 := Heap.lt_size hget
    rw [← hL] at h6
    exact Nat.lt_of_succ_lt h6
  have s2 : L < h4.objs.size := by
    obtain ⟨oL, es, ep, hLo, r⟩ := hns4
    exact Heap.lt_size hLo
  have hsz : hp.objs.size ≤ dx := Nat.le_trans (Nat.le_of_lt (Nat.lt_trans s1 s2)) dn
  have hd1 : H1 dx = none := I1.hok.fresh hsz
  have hx1 : H1 (hp.objs.size + 1) = none := I1.hok.fresh (Nat.le_succ _)
  have J := I1.laid (t' := tk') (a := dx) (o := .xd [(f, v)]) (h' := G) kG hsz ⟨fun y => if y = f then some u else none, hn.at fun o y => (gk dx dne).trans y, fun n => ?_⟩
  · refine ⟨hp.objs.size + 1, _, _, _, _, .ref C, some dx, rfl, J, fun b o z => ?_, ge, hx, ⟨rfl, rfl⟩, rfl, rfl, ?_, rfl, I1.bare, raises_own T.ox.exC T.ox.tyC, hq dx hd1⟩
    · by_cases hb : b = hp.objs.size + 1
      · rw [hb, ge] at z
        cases z
      · exact (gk b hb).symm.trans z
    · rw [upd_ne (Ne.symm dne)]
      exact hx1
  · show RelO (List.lookup n [(f, v)]) (if n = f then some u else none)
    rw [List.lookup_cons]
    by_cases hn2 : n = f
    · rw [if_pos hn2, show (n == f) = true from by simpa using hn2]
      exact ru
    · rw [if_neg hn2, show (n == f) = false from by simpa using hn2]
      exact True.intro
end
end XS

/-! exceptions over data -/
namespace XS
open PySem PySem.Spec PyProof.Rows L2
/-- what the clauses wish, one after the other; o: the slot of the clause's name -/
def wMix (K : PySem.W.Frag) (Wout : WX) (D : Ends) : List (Value × Option Nat × (Addr → Value → Option Addr → TS)) → WX
  | [] => Wout
  | (c, o, ts) :: r => fun cls d σ H => ∃ b, PySem.W.exmOne K cls c = some b ∧ (b = true → ∀ a, H a = none → match o with
      | none => ts a cls d D σ H
      | some i => ts a cls d { nx := fun σ' H' => D.nx (σ'.set i none) H', rt := D.rt, bk := fun σ' H' => D.bk (σ'.set i none) H', ct := fun σ' H' => D.ct (σ'.set i none) H' } (σ.set i (some (.ref a))) H) ∧
    (b = false → wMix K Wout D r cls d σ H)
inductive HdX (X : Cx) : List ExceptHandler → List (Value × Option Nat × (Addr → Value → Option Addr → TS)) → Prop
  | nil : HdX X [] []
  | bare {x : Str} {c : Value} {ts : Addr → Value → Option Addr → TS} {b₀ : Stmt} {suite : List Stmt} {np pos' : Pos} {hds : List ExceptHandler} {l : List (Value × Option Nat × (Addr → Value → Option Addr → TS))} (hc : Names X x c)
      (hsu : ∀ (a : Addr) (oe : Obj) (cls : Value) (d : Option Addr) (pn : List (Addr × Obj)), Zc cls d oe → (∃ vs, oe.data = .fields vs) → PSs (X.suite a ((a, oe) :: pn)) (b₀ :: suite) (ts a cls d)) (r : HdX X hds l) :
      HdX X (.ExceptHandler (some (.Name x np)) none (b₀ :: suite) pos' :: hds) ((c, none, ts) :: l)
  | named {x n : Str} {i : Nat} {c : Value} {ts : Addr → Value → Option Addr → TS} {b₀ : Stmt} {suite : List Stmt} {np pos' : Pos} {hds : List ExceptHandler} {l : List (Value × Option Nat × (Addr → Value → Option Addr → TS))} (hc : Names X x c)
      (hi : X.N[i]? = some n) (hln : X.env.kindOf n = some .local)
      (hsu : ∀ (a : Addr) (oe : Obj) (cls : Value) (d : Option Addr) (pn : List (Addr × Obj)), Zc cls d oe → (∃ vs, oe.data = .fields vs) → PSs (X.suite a ((a, oe) :: pn)) (b₀ :: suite) (ts a cls d)) (r : HdX X hds l) :
      HdX X (.ExceptHandler (some (.Name x np)) (some n) (b₀ :: suite) pos' :: hds) ((c, some i, ts) :: l)
section
variable {X : Cx} {body : List Stmt} {h₀ : ExceptHandler} {hds : List ExceptHandler} {l : List (Value × Option Nat × (Addr → Value → Option Addr → TS))} {pos : Pos} {tb : WX → TS} {Wout : WX}
theorem ps_try_mix (hs : X.stack = X.env :: X.outer) (hf : X.env.frame = some X.env.locals) (hN : X.N.Nodup) (tk : Takes X Wout)
    (hb : ∀ (W : WX) (pn : List (Addr × Obj)) (xe : Value → Shared → Prop), Takes (X.tr pn xe) W → PassesOwn (model X.prog X.w) X.A X.env xe → PSs (X.tr pn xe) body (tb W))
    (hh : HdX X (h₀ :: hds) l) : PS X (.Try body (h₀ :: hds) [] [] pos) (fun D σ H => tb (wMix X.K Wout D l) D σ H) := by
  refine ⟨fun pins s σ H D I h => ?_⟩
  have ok := I.ok
  have hfr : X.A.frames = some (X.env :: X.outer) := by rw [ok.frames, hs]
  refine wpAny_Try_except ?_
  refine wpAny_mono ((hb (wMix X.K Wout D l) (X.pn ++ pins) (fun e s₁ => wpAny (model X.prog X.w) X.A (noteFrame e X.env) (fun _ s₂ => wpAny (model X.prog X.w) X.A (setFlight e none) (fun _ s₃ =>
    wpAny (model X.prog X.w) X.A (handleBy e X.env (h₀ :: hds)) (SP X pins D) X.xe s₃) X.xe s₂) X.xe s₁) (fun u s' xx => ?_) PassesOwn.looking).run [] s σ H D (I.toTry _) h) (fun f s1 hsp => ?_) (fun e s1 he => he)
  · obtain ⟨a, B, sI, pins', σ', H', cls, d, rfl, J', nb, up, sky, na, os, ag, w⟩ := xx
    have J : Inv X pins σ' H' sI := J'.ofTry ok
    have sky' : Sky B (X.env :: X.outer) a (Zc cls d) X.env.locals s'.heap := by rw [← hs]; exact sky
    show wpAny (model X.prog X.w) X.A (noteFrame (.ref a) X.env) _ _ _
    refine Sky.land Zc.steady hfr hf sky' fun h3 fl3 up3 => ?_
    have J3 : Inv X pins σ' H' { s' with heap := h3 } := J.landed nb fl3.1 (up.trans up3) os ag
    obtain ⟨oe3, vs3, he3, hz3, hd3⟩ := fl3.there
    have notFr : ∀ {h : Heap} {o : Obj} {vs : Array Value}, h.FunFrames B (X.env :: X.outer) → h.get? a = some o → o.data = .fields vs → a ∉ frs (X.env :: X.outer) := fun {h o vs} ff e dd hm => by
      obtain ⟨_, o', e', hnf⟩ := ff.mem hm
      rw [e] at e'; cases e'
      exact hnf _ dd
    have nfr := notFr fl3.2.2.1 he3 hd3
    have nL : a ≠ X.env.locals := fun z => nfr (List.mem_filterMap.mpr ⟨X.env, List.mem_cons_self, by rw [hf, z]⟩)
    have nF : a ∉ X.fs := fun hm => by
      obtain ⟨e, he, q⟩ := List.mem_filterMap.mp hm
      exact nfr (List.mem_filterMap.mpr ⟨e, List.mem_cons_of_mem _ he, q⟩)
    have S3 := J3.suite he3 hd3 na nL nF
    have tst : ∀ {x : Str} {c : Value} {np : Pos}, Names X x c → ∀ {Q : Value → Shared → Prop} {E : Value → Shared → Prop}, Q c { s' with heap := h3 } → wpAny (model X.prog X.w) (X.A.mark (some (.ref a))) (eval (.Name x np) X.env) Q E { s' with heap := h3 } := fun {x c np} hc {Q E} q => by
      obtain ⟨hg, hdbg, hm | ⟨hm, hv, hnn⟩⟩ := hc
      · exact ld_glob (X := X.suite a ((a, oe3) :: (X.pn ++ pins))) S3 hg hm q hdbg
      · exact ld_blt (X := X.suite a ((a, oe3) :: (X.pn ++ pins))) S3 hg hm hv q hnn hdbg
    have go : ∀ {hds' : List ExceptHandler} {l' : List (Value × Option Nat × (Addr → Value → Option Addr → TS))}, HdX X hds' l' → wMix X.K Wout D l' cls d σ' H' →
        wpAny (model X.prog X.w) X.A (handleBy (.ref a) X.env hds') (SP X pins D) X.xe { s' with heap := h3 } := by
      intro hds' l' hk
      induction hk with
      | nil =>
        intro w
        refine wpAny_handleBy_nil ?_
        obtain ⟨k1, k2, k3, oe, vs, T, oT, ts', he, hz, hd, h1, hr⟩ := id fl3
        unfold PySem.passOn
        refine wpAny_bind (wpAny_field he hd h1 ?_)
        rw [if_neg (show ¬ ((Value.ref T == Value.none) = true) from by simp)]
        have fin : wpAny (model X.prog X.w) X.A (setFlight (.ref a) X.env.frame) (fun _ s4 => wpAny (model X.prog X.w) X.A (throw (.ref a) : Sem Flow) (SP X pins D) X.xe s4) X.xe { s' with heap := h3 } := by
          rw [hf]
          refine HandSPX.setFlight_upZ fl3 fun h4 hh4 up4 => wpAny_throw (tk _ _ ?_)
          exact ⟨a, B, sI, pins, σ', H', cls, d, rfl, J, nb, (up.trans up3).trans up4, .inr (.inr (by rw [hs]; exact hh4)), na, os, ag, w⟩
        first
          | exact wpAny_bind (wpAny_pure (wpAny_bind fin))
          | exact wpAny_bind fin
      | @bare x c ts b₀ suite np pos' hds2 l2 hc hsu r ih =>
        intro w
        obtain ⟨b, hb1, hyes, hno⟩ := w
        refine wpAny_handleBy_cons (codeAny_handlers_test ?_) (by intro q; cases q)
        have LT : PySem.W.Looks (model X.prog X.w) h3 (typeOf (.ref a)) cls := fun A Q E s k q => wpAny_typeOf_ref (k _ _ he3) (by rw [hz3.1]; exact q)
        refine tst hc ((PySem.W.exm_one (M := model X.prog X.w) (J3.kIn) LT hb1).here ?_)
        cases b with
        | true =>
          refine codeAny_handlers_suite ?_
          refine HandSPX.lands_againZ fl3 fun h4 fl4 up4 => ?_
          have J4 : Inv X pins σ' H' { s' with heap := h4 } := J.landed nb fl4.1 ((up.trans up3).trans up4) os ag
          obtain ⟨oe4, vs4, he4, hz4, hd4⟩ := fl4.there
          have S4 := J4.suite he4 hd4 na nL nF
          refine wpAny_mono ((hsu a oe4 cls d (X.pn ++ pins) hz4 ⟨_, hd4⟩).run [] _ _ H' _ S4 (hyes rfl a na)) (fun f s6 hsp => ?_) (fun _ _ z => False.elim z)
          cases f with
          | ret u =>
            obtain ⟨v6, σ6, H6, S6, r6, q6⟩ := hsp
            exact ⟨_, _, _, S6.unsuite ok, r6, q6⟩
          | _ =>
            obtain ⟨σ6, H6, S6, q6⟩ := hsp
            exact ⟨_, _, S6.unsuite ok, q6⟩
        | false =>
          show wpAny _ X.A (handleBy (.ref a) X.env hds2) _ _ _
          exact ih (hno rfl)
      | @named x n i c ts b₀ suite np pos' hds2 l2 hc hi hln hsu r ih =>
        intro w
        obtain ⟨b, hb1, hyes, hno⟩ := w
        refine wpAny_handleBy_cons (codeAny_handlers_test ?_) (by intro q; cases q)
        have LT : PySem.W.Looks (model X.prog X.w) h3 (typeOf (.ref a)) cls := fun A Q E s k q => wpAny_typeOf_ref (k _ _ he3) (by rw [hz3.1]; exact q)
        refine tst hc ((PySem.W.exm_one (M := model X.prog X.w) (J3.kIn) LT hb1).here ?_)
        cases b with
        | true =>
          refine codeAny_handlers_suite_as ?_
          refine HandSPX.lands_againZ fl3 fun h4 fl4 up4 => ?_
          have J4 : Inv X pins σ' H' { s' with heap := h4 } := J.landed nb fl4.1 ((up.trans up3).trans up4) os ag
          obtain ⟨oe4, vs4, he4, hz4, hd4⟩ := fl4.there
          have S4 := J4.suite he4 hd4 na nL nF
          refine store_ok (X := X.suite a ((a, oe4) :: (X.pn ++ pins))) (v := .ref a) S4 hN hi (.inl hln) rfl (fun s5 S5 => ?_) (.inr hln)
          refine wpAny_mono ((hsu a oe4 cls d (X.pn ++ pins) hz4 ⟨_, hd4⟩).run [] s5 _ H' _ S5 (hyes rfl a na)) (fun f s6 hsp => ?_) (fun _ _ z => False.elim z)
          have end_ : ∀ {σ6 : L2.St} {H6 : Hp} {Q : Shared → Prop}, Inv (X.suite a ((a, oe4) :: (X.pn ++ pins))) [] σ6 H6 s6 → (∀ s7, Inv X pins (σ6.set i none) H6 s7 → Q s7) →
              wpAny (model X.prog X.w) X.A (do bindName X.env n .none; unbindBehindTheSuite X.env n pos') (fun _ s7 => Q s7) X.xe s6 := fun {σ6 H6 Q} S6 hq => gone_ok (S6.unsuite ok) hN hi hln hq
          cases f with
          | ret u =>
            obtain ⟨v6, σ6, H6, S6, r6, q6⟩ := hsp
            exact end_ S6 fun s7 J7 => ⟨_, _, _, J7, r6, q6⟩
          | _ =>
            obtain ⟨σ6, H6, S6, q6⟩ := hsp
            exact end_ S6 fun s7 J7 => ⟨_, _, J7, q6⟩
        | false =>
          show wpAny _ X.A (handleBy (.ref a) X.env hds2) _ _ _
          exact ih (hno rfl)
    exact go hh w
  · cases f with
    | next =>
      obtain ⟨σ', H', J', q⟩ := hsp
      exact wpAny_execs_nil ⟨σ', H', J'.ofTry ok, q⟩
    | ret u =>
      obtain ⟨v, σ', H', J', r, q⟩ := hsp
      exact ⟨v, σ', H', J'.ofTry ok, r, q⟩
    | _ =>
      obtain ⟨σ', H', J', q⟩ := hsp
      exact ⟨σ', H', J'.ofTry ok, q⟩
end
end XS

/-! isinstance of the error that a suite holds: own classes, with or without fields; a tuple of classes -/
namespace XS
section
open PySem PySem.W PySem.Spec PySem.Calls PyProof.Rows L2
variable {prog : Program} {w : World} {A : Around} {E : Value → Shared → Prop} {s : Shared} {K : Frag} {x D : Addr} {ox : Obj} {od : Option Obj}
theorem find_data {C : Addr} {name : Str} {a g : Value} (hc : (clsIn K C).isSome = true) (ha : findIn K (.ref C) name = some (some a)) (hg : specialIn K a "__get__" = some (some g)) (ht : takesIn K a = some true) : findObj K C od name = some (.bind g a) := by
  obtain ⟨cd, hc⟩ := Option.isSome_iff_exists.mp hc
  unfold findObj
  rw [hc, Option.bind_some, ha, Option.bind_some]
  simp [hg, ht]
theorem class_of (C : ExcC K D) {Q : Option Value → Shared → Prop} (X : K.In s.heap) (I : InstAt s.heap x ox D od) (h : Q (some (.ref D)) { s with toks := s.toks + 1 }) : wpAny (model prog w) A (getAttr? (.ref x) "__class__") Q E s := by
  have hf : findObj K D od "__class__" = some (.bind (.builtin "getset_descriptor.__get__") (.builtin "object.__class__")) := find_data (by obtain ⟨cd, hc, _⟩ := any_some C.hd; rw [hc]; rfl) C.ha C.hn C.ht
  obtain ⟨hp, g, d, t, os⟩ := s
  have L0 := I.type (M := model prog w)
  have L1 := looks_findIn (M := model prog w) X C.hg
  have L2 := looks_findIn (M := model prog w) X C.hk
  have L3 := looks_find (M := model prog w) X I hf
  have sub : Looks (model prog w) hp (isInstance (.ref x) (.type "BaseException")) true := L0.andThen (looks_subIn X C.hs)
  have hx2 : (Value.builtin "BaseException.__getattribute__" == Value.builtin "object.__getattribute__") = false := by decide +kernel
  have hx1 : (onTheHeap (Value.ref D) && Value.builtin "BaseException.__getattribute__" == Value.builtin "object.__getattribute__") = false := by rw [hx2]; rfl
  unfold getAttr? getAttrBy? getAttrBy
  refine wpAny_bind (wpAny_mkText (wpAny_bind (wpAny_attempt (wpAny_holding (wpAny_bind (L0.at (wpAny_bind (L1.at ?_))))))))
  show wpAny _ _ (if (onTheHeap (Value.ref D) && Value.builtin "BaseException.__getattribute__" == Value.builtin "object.__getattribute__") = true then _ else _) _ _ _
  rw [hx1, if_neg Bool.false_ne_true]
  unfold getAttrByItsOwn hookBefore
  refine wpAny_bind ?_
  rw [if_pos (show onTheHeap (Value.ref D) = true from rfl)]
  refine L2.at (wpAny_bind (wpAny_attempt (wpAny_holding ?_)))
  unfold callGetattribute
  rw [show (false && onTheHeap (Value.builtin "BaseException.__getattribute__")) = false from rfl, if_neg Bool.false_ne_true]
  unfold boundAndCalled
  rw [PySem.F.excAttr_ValueError.ga.bind (.ref x)]
  refine wpAny_bind (wpAny_pure ?_)
  show wpAny _ _ (call (.builtin "BaseException.__getattribute__") [.ref x, .str "__class__" t]) _ _ _
  refine wpAny_call (codeAny_call_builtin PySem.F.excAttr_ValueError.ga.plain PySem.F.entry_bexc_ga ?_)
  refine @check_slot (model prog w) _ _ ⟨hp, g, d, t + 1, os⟩ "BaseException.__getattribute__" "BaseException" "__getattribute__" (.ref x) [.str "__class__" t] [] _ (by decide +kernel) (by decide +kernel) sub (PySem.F.args_bexc_ga (.ref x) (.str "__class__" t)) ?_
  unfold Builtin.«object.__getattribute__»
  refine wpAny_bind (wpAny_of_eq (a := ((Value.ref x : Value), [Value.str "__class__" t])) (by first | rfl | (simp only [slotArgs]; rfl)) ?_)
  refine wpAny_bind (wpAny_pure (wpAny_bind (L0.at (wpAny_bind (L3.at ?_)))))
  show wpAny _ _ (holding [Value.builtin "object.__class__"] (call (.builtin "getset_descriptor.__get__") [.builtin "object.__class__", .ref x, .ref D]) >>= ret) _ _ _
  refine wpAny_bind (wpAny_holding (wpAny_call (class_get (s := ⟨hp, g, d, t + 1, os⟩) (ox := ox) (od := od) X I C.hm ?_)))
  refine wpAny_pure ?_
  show wpAny _ _ (handedOut (.ref D)) _ _ _
  rw [handedOut_of (v := .ref D) rfl]
  first
    | exact wpAny_pure (wpAny_pure h)
    | exact wpAny_pure h
    | exact wpAny_pure (wpAny_bind (wpAny_pure (wpAny_pure h)))
theorem kitx_od (C : ExcC K D) : KitX K (.ref x) (.ref D) (fun h => InstAt h x ox D od) where
  ty := fun _ _ _ I => I.type
  it := fun _ _ X _ => by
    obtain ⟨cdD, hcD, _⟩ := any_some C.hd
    unfold clsIn at hcD
    split at hcD
    · rename_i c' d' cd' sl' ho
      intro A' Q' E' s' k q
      unfold isType loadHead
      exact wpAny_bind (wpAny_loadPart (k _ _ (X _ _ ho)) (wpAny_pure q))
    · cases hcD
  ne := fun h tp dd its n sl X htp => by
    obtain ⟨cdD, hcD, _⟩ := any_some C.hd
    refine Bool.eq_false_iff.mpr fun q => ?_
    have e : D = tp := Value.ref.inj (beq_iff_eq.mp q)
    subst e
    unfold clsIn at hcD
    split at hcD
    · rename_i c' d' cd' sl' ho
      have z := (X _ _ ho).symm.trans htp
      cases z
    · cases hcD
  ca := fun X I k => class_of C X I k
end
section
open PySem PySem.Spec PyProof.Rows L2
/-- the error that the suite holds stands there -/
theorem inst_suite {X : Cx} {a D : Addr} {oe : Obj} {d : Option Addr} {pn pins : List (Addr × Obj)} {σ : L2.St} {H : Hp} {s : Shared} (hz : Zc (.ref D) d oe) (hf : ∃ vs, oe.data = .fields vs) (I : Inv (X.suite a ((a, oe) :: pn)) pins σ H s)
    (hd : ∀ dd, d = some dd → ∃ fs, H dd = some (.xd fs)) : ∃ od, PySem.W.InstAt s.heap a oe D od := by
  obtain ⟨hget, _⟩ := I.pin (a, oe) (List.mem_append.mpr (.inl List.mem_cons_self))
  obtain ⟨vs, hv⟩ := hf
  cases d with
  | none =>
    refine ⟨none, ?_⟩
    obtain ⟨oc, od, oda, osl⟩ := oe
    obtain ⟨h1, h2⟩ := hz
    dsimp only at h1 h2 hv
    subst h1 h2 hv
    exact ⟨hget, rfl, rfl, trivial⟩
  | some dd =>
    obtain ⟨fs, e⟩ := hd dd rfl
    have hx : ObjOk X.prog X.w H s.heap dd (.xd fs) := I.hok dd _ e
    obtain ⟨mA, hns, hr⟩ := hx
    obtain ⟨od, ho, hl⟩ := lookIn_ns hns
    exact ⟨some od, ⟨hget, hz.1, by unfold PySem.W.notCls; rw [hv] <;> rfl, by rw [hz.2]; exact ho⟩⟩
/-- isinstance(e, c) -/
def rIsX (K : PySem.W.Frag) (a : Addr) (cls : Value) (d : Option Addr) : List V → Hp → VK → Prop := fun xs H Q => ∃ (D : Addr) (c : V) (cv : Value) (b : Bool), cls = .ref D ∧ ExcC K D ∧ (∀ dd, d = some dd → ∃ fs, H dd = some (.xd fs)) ∧
  xs = [.ref a, c] ∧ (∀ u, RelV c u → u = cv) ∧ PySem.W.kitOne K (.ref D) cv = some b ∧ Q (.bl b) H
theorem call_isX {X : Cx} {a : Addr} {oe : Obj} {cls : Value} {d : Option Addr} {pn : List (Addr × Obj)} (hz : Zc cls d oe) (hf : ∃ vs, oe.data = .fields vs) : CallR (X.suite a ((a, oe) :: pn)) (.builtin "isinstance") (rIsX X.K a cls d) := by
  intro pins s σ H xs us Q I r h
  obtain ⟨D, c, cv, b, rfl, C, hd, rfl, hcv, e, q⟩ := h
  cases r with
  | cons rx rr =>
    cases rr with
    | cons rt rr =>
      cases rr
      cases rx
      have ec := hcv _ rt
      subst ec
      obtain ⟨od, J⟩ := inst_suite hz hf I hd
      exact PySem.W.kia_one (kitx_od C) I.kIn J e (fun z => nomatch z) fun tk => ⟨.bl b, H, I.kept (t' := tk) fun _ _ z => z, rfl, q⟩
/-- isinstance(e, (c, ..)) -/
def rIsXs (K : PySem.W.Frag) (a : Addr) (cls : Value) (d : Option Addr) : List V → Hp → VK → Prop := fun xs H Q => ∃ (D tp : Addr) (cs : List V) (cvs : List Value) (b : Bool), cls = .ref D ∧ ExcC K D ∧ (∀ dd, d = some dd → ∃ fs, H dd = some (.xd fs)) ∧
  xs = [.ref a, .ref tp] ∧ SqT K H tp cs ∧ (∀ us, Vals cs us → us = cvs) ∧ PySem.W.kitAny K (.ref D) cvs = some b ∧ Q (.bl b) H
theorem call_isXs {X : Cx} {a : Addr} {oe : Obj} {cls : Value} {d : Option Addr} {pn : List (Addr × Obj)} (hz : Zc cls d oe) (hf : ∃ vs, oe.data = .fields vs) : CallR (X.suite a ((a, oe) :: pn)) (.builtin "isinstance") (rIsXs X.K a cls d) := by
  intro pins s σ H xs us Q I r h
  obtain ⟨D, tp, cs, cvs, b, rfl, C, hd, rfl, hq, hcv, e, q⟩ := h
  cases r with
  | cons rx rr =>
    cases rr with
    | cons rt rr =>
      cases rr
      cases rx
      cases rt
      obtain ⟨od, J⟩ := inst_suite hz hf I hd
      obtain ⟨its, rv, p, hz'⟩ := I.tuple hq
      have ec := hcv _ rv
      subst ec
      obtain ⟨o, ho, hc, n, hd'⟩ : s.heap.IsTuple tp its.toArray := p
      obtain ⟨oc, odd, oda, osl⟩ := o
      dsimp only at hc hd'
      subst hc hd'
      exact PySem.W.kia_tup (kitx_od C) I.kIn J ho e (fun z => nomatch z) fun tk => ⟨.bl b, H, I.kept (t' := tk) fun _ _ z => z, rfl, q⟩
end
end XS

/-! exceptions over data: promises that may raise, raise, try -/
namespace DL
open PySem PySem.Spec L2 XS
/-- what is said of an exception: the class by its name, the fields; x, fs flat -/
abbrev DXQ := Str → List (Str × D) → Store → Prop
abbrev DWX := Str → List (Str × D) → DEnv → Store → Prop
abbrev DSpX := List D → Store → DQ → DXQ → Prop
def RepX (K : PySem.W.Frag) (H : Hp) (x : Str) (fs : List (Str × D)) (cls : Value) (d : Option Addr) : Prop :=
  ∃ C, PySem.W.nsIn K PySem.mainGlobals x = some (some (.ref C)) ∧ cls = .ref C ∧ ((fs = [] ∧ d = none) ∨ ∃ dd fv, d = some dd ∧ H dd = some (.xd fv) ∧ fv.map Prod.fst = fs.map Prod.fst ∧ Reps K [] H (fs.map Prod.snd) (fv.map Prod.snd))
section
variable {K : PySem.W.Frag} {ρ ρ' : List Addr} {H H' : Hp} {x : Str} {fs : List (Str × D)} {cls : Value} {d : Option Addr}
theorem Keep.bare (k : Keep ρ ρ' H H') : Keep [] [] H H' := ⟨⟨[], rfl⟩, k.tups, k.frzs, k.xds⟩
theorem RepX.keep (h : RepX K H x fs cls d) (k : Keep ρ ρ' H H') : RepX K H' x fs cls d := by
  obtain ⟨C, h1, h2, h3⟩ := h
  refine ⟨C, h1, h2, ?_⟩
  rcases h3 with h3 | ⟨dd, fv, e1, e2, e3, e4⟩
  · exact .inl h3
  · exact .inr ⟨dd, fv, e1, k.xds _ _ e2, e3, e4.keep k.bare⟩
/-- flat data stand for the same with no cells -/
theorem rep_flat {d : D} {v : V} (hl : d.lt 0) (h : Rep K ρ H d v) : Rep K [] H d v :=
  rep_ren (π := fun i => i) (m := 0) (fun i hi => absurd hi (Nat.not_lt_zero i)) d v hl (by rw [ren_id (n := 0) (fun i hi => rfl) d hl]; exact h)
end
/-- a wish and its data -/
def XOk [Bs] (K : PySem.W.Frag) (W : WX) (Wd : DWX) : Prop := ∀ ρ env st σ H x fs cls d, RelS K ρ H st → RelE K ρ H env σ → RepX K H x fs cls d → Wd x fs env st → W cls d σ H
def PostX [Bs] (K : PySem.W.Frag) (ρ : List Addr) (H : Hp) (E : DXQ) : XK := fun cls d H' => ∃ ρ' st' x fs, Keep ρ ρ' H H' ∧ RelS K ρ' H' st' ∧ RepX K H' x fs cls d ∧ E x fs st'
def spXOf (K : PySem.W.Frag) (dsp : DSpX) : Sp := fun vs H Q E => ∃ ρ ds st QD ED, @RelS K ρ H triv st ∧ Reps K ρ H ds vs ∧ dsp ds st QD ED ∧ (∀ v H', @PostE triv K ρ H QD v H' → Q v H') ∧ ∀ cls d H', @PostX triv K ρ H ED cls d H' → E cls d H'
/-- nothing is wished -/
def dNoX : DWX := fun _ _ _ _ => False
abbrev NoX : WX := fun _ _ _ _ => False
theorem takes_no {X : Cx} : Takes X NoX := fun _ _ ⟨_, _, _, _, _, _, _, _, _, _, _, _, _, _, _, _, w⟩ => w.elim
theorem wok_no [Bs] {K : PySem.W.Frag} {W : WX} : XOk K W dNoX := fun _ _ _ _ _ _ _ _ _ _ _ _ w => False.elim w
/-- a call that may raise -/
def dCallX (Wd : DWX) (dsp : DSpX) (da : DTA) : DTE := fun env st Q => da env st fun ds st1 => dsp ds st1 Q fun x fs st2 => Wd x fs env st2
theorem sim_callX [Bs] {K : PySem.W.Frag} {W : WX} {Wd : DWX} {dsp : DSpX} {t : TA} {da : DTA} (wo : XOk K W Wd) (h : SimA K t da) : Sim K (tCallS (spXOf K dsp) (WE W) t) (dCallX Wd dsp da) := by
  intro ρ env st σ H Q W' rs re q w
  refine h ρ env st σ H _ _ rs re q fun xs H1 ⟨ρ1, ds, st1, k1, r1, px, q1⟩ => ?_
  refine ⟨ρ1, ds, st1, Q, _, r1.dn, px, q1, fun v H' pq => w v H' ((PostE.up r1 pq).keep k1), fun cls d H' hx => ?_⟩
  obtain ⟨ρ2, st2, x, fs, k2, r2, rx, e⟩ := hx
  exact wo ρ2 env st2 σ H' x fs cls d (r1.up k2 r2) ((re.keep k1).keep k2) rx e
section
variable {X : Cx} {k : Nat} {f : Addr} {fd : FuncData} {ps : List Str} {dsp : DSpX} {x : Str} {p pos : Pos} {e : Expr} {es : List Expr} {t : TA} {da : DTA} {W : WX} {Wd : DWX}
theorem se_callX [Bs] {K : PySem.W.Frag} [hK : HasK X K] (tk : Takes X W) (wo : XOk K W Wd) (F : FnOk X.prog X.w K X.mg X.base (L2.CX X.prog X.w) k f fd ps (spXOf K dsp)) (hr : Room k X.A) (hg : Gl X x) (hm : X.mg x = some (.ref f)) (hk : PySem.W.keepIn K (.ref f) = true) (hb : Binds K fd ps [])
    (ha : SA X (e :: es) t da) (hdb : (x == ("__debug__" : Str)) = false := by decide) (he : starEach (e :: es) X.env = (false, eval e X.env) :: starEach es X.env := by rfl) (hpl : (backTo pos (starEach es X.env)).any (·.1) = false := by rfl) :
    SE X (.Call (.Name x p) (e :: es) [] pos) (tCallS (spXOf K dsp) (WE W) t) (dCallX Wd dsp da) := by
  obtain rfl := hK.eq
  exact ⟨pe_callS F hr hg hm hk hb (fun σ => passAt tk σ) ha.pa hdb he hpl, sim_callX wo ha.sim⟩
end
/-! ### raise -/
/-- an own class without __init__ of its own -/
structure XcC (K : PySem.W.Frag) (x : Str) (C : Addr) : Prop where
  ns : PySem.W.nsIn K PySem.mainGlobals x = some (some (.ref C))
  sub : PySem.W.subIn K (.ref C) (.type "BaseException") = some true
  ty : PySem.W.typeIn K (.ref C) = some (.type "type")
  kp : PySem.W.keepIn K (.ref C) = true
  ex : ∃ bmB, ∃ _ : ExcBaseFacts "ValueError" "ValueError.__new__" "ValueError.__init__" bmB, PySem.W.excIn K C bmB "ValueError.__new__" = true
def dRaise (Wd : DWX) (x : Str) : DTS := fun _ _ env st => Wd x [] env st
def dRaise1 (Wd : DWX) (x f : Str) (de : DTE) : DTS := fun _ _ env st => de env st fun v st1 => v.lt 0 ∧ Wd x [(f, v)] env st1
section
variable {X : Cx} {W : WX} {Wd : DWX} {x f txt : Str} {C fI : Addr} {p p2 pos pos2 : Pos} {j k : Nat} {e : Expr} {te : TE} {de : DTE}
theorem ss_raise [Bs] {K : PySem.W.Frag} [hK : HasK X K] (hc : X.calm = true) (tk : Takes X W) (wo : XOk K W Wd) (T : XcC K x C) (hg : Gl X x) (hm : X.mg x = some (.ref C)) (hdb : (x == ("__debug__" : Str)) = false := by decide) :
    SS X (.Raise (some (.Call (.Name x p) [.Constant (.str txt) j p2] [] pos)) none pos2) (fun _ σ H => W (.ref C) none σ H) (dRaise Wd x) := by
  obtain rfl := hK.eq
  obtain ⟨bmB, F, hx⟩ := T.ex
  refine ⟨ps_raise hc tk (pmk_own F hx hm T.kp (raises_own T.sub T.ty) hg hdb), fun n ρ env st σ H d D hn rs re q w => ?_⟩
  exact wo ρ env st σ H x [] _ none rs re ⟨C, T.ns, rfl, .inl ⟨rfl, rfl⟩⟩ q
theorem ss_raise1 [Bs] {K : PySem.W.Frag} [hK : HasK X K] (hc : X.calm = true) (tk : Takes X W) (wo : XOk K W Wd) (ns : PySem.W.nsIn K PySem.mainGlobals x = some (some (.ref C))) (T : SupC K C) (S : SupF K X.prog C fI f txt) (hr : Room (k + 2) X.A) (hsu : X.mg "super" = none) (hno : PySem.W.findIn K (.ref C) f = some none)
    (hg : Gl X x) (hm : X.mg x = some (.ref C)) (he : SE X e te de) (hdb : (x == ("__debug__" : Str)) = false := by decide) (hse : starEach [e] X.env = (false, eval e X.env) :: starEach [] X.env := by rfl) (hpl : (backTo pos (starEach [] X.env)).any (·.1) = false := by rfl) :
    SS X (.Raise (some (.Call (.Name x p) [e] [] pos)) none pos2) (fun _ σ H => tMkS C f te σ H fun cls d H' => W cls d σ H') (dRaise1 Wd x f de) := by
  obtain rfl := hK.eq
  refine ⟨ps_raise hc tk (pmk_sup T S hr hsu hno hg hm he.pe hdb hse hpl), fun n ρ env st σ H d D hn rs re q w => ?_⟩
  refine he.sim ρ env st σ H _ _ rs re q fun v H1 ⟨ρ1, dv, st1, k1, r1, p1, q1⟩ => ?_
  intro dd hdd
  have kn : Keep ρ1 ρ1 H1 (upd H1 dd (.xd [(f, v)])) := keep_new hdd
  refine wo ρ1 env st1 σ _ x [(f, dv)] _ (some dd) (r1.new hdd) ((re.keep k1).keep kn) ⟨C, ns, rfl, .inr ⟨dd, [(f, v)], rfl, upd_same, rfl, ?_⟩⟩ q1.2
  exact .cons (rep_flat q1.1 (p1.keep kn)) .nil
end
/-! ### suites -/
/-- the base of a suite tells of the error that it holds -/
def XIn (b : Bs) (K : PySem.W.Frag) (x : Str) (fs : List (Str × D)) (cls : Value) (d : Option Addr) : Prop := ∀ ρ H, b.B ρ H → RepX K H x fs cls d
/-- which own or built-in class an error of the program belongs to -/
def xsub (x c : Str) : Bool := decide (c = "OnelawError") || decide (c = "ValueError") || decide (x = c)
/-- the classes of xs asked by isinstance, c; by except, c -/
structure XTi (K : PySem.W.Frag) (xs : List Str) (c : Str) (cv : Value) : Prop where
  of : ∀ x ∈ xs, ∀ C, PySem.W.nsIn K PySem.mainGlobals x = some (some (.ref C)) → ExcC K C ∧ PySem.W.kitOne K (.ref C) cv = some (xsub x c)
structure XTe (K : PySem.W.Frag) (xs : List Str) (c : Str) (cv : Value) : Prop where
  of : ∀ x ∈ xs, ∀ C, PySem.W.nsIn K PySem.mainGlobals x = some (some (.ref C)) → PySem.W.exmOne K (.ref C) cv = some (xsub x c)
def dIsX (a : Addr) (x : Str) (xs : List Str) (c : Str) (de : DTE) : DTE := fun env st Q => de env st fun v st1 => v = .adr a ∧ x ∈ xs ∧ Q (.bl (xsub x c)) st1
def dIsXs (a : Addr) (x : Str) (xs : List Str) (cs : List Str) (de : DTE) : DTE := fun env st Q => de env st fun v st1 => v = .adr a ∧ x ∈ xs ∧ Q (.bl (cs.any fun c => xsub x c)) st1
/-- e.f -/
def dXf (a : Addr) (x : Str) (fs : List (Str × D)) (y f : Str) (de : DTE) : DTE := fun env st Q => x = y ∧ de env st fun v st1 => v = .adr a ∧ match fs.lookup f with
  | some d => Q d st1
  | none => False
instance {X : Cx} {K : PySem.W.Frag} {a : Addr} {pn : List (Addr × Obj)} [h : HasK X K] : HasK (X.suite a pn) K := ⟨h.eq⟩
instance {X : Cx} {K : PySem.W.Frag} {pn : List (Addr × Obj)} {xe : Value → Shared → Prop} [h : HasK X K] : HasK (X.tr pn xe) K := ⟨h.eq⟩
/-- the name of a class in a suite -/
structure ClN (X : Cx) (K : PySem.W.Frag) (xs : List Str) (ce : Expr) (c : Str) (v : V) (cv : Value) : Prop where
  pe : PE X ce (tC v)
  one : ∀ u, RelV v u → u = cv
  tab : XTi K xs c cv
theorem cln_own {X : Cx} {K : PySem.W.Frag} {xs : List Str} {c : Str} {C : Addr} {pos : Pos} (T : XTi K xs c (.ref C)) (hg : Gl X c) (hm : X.mg c = some (.ref C)) (hd : (c == ("__debug__" : Str)) = false := by decide) : ClN X K xs (.Name c pos) c (.ref C) (.ref C) :=
  ⟨pe_glob hg hm rfl hd, fun u h => h, T⟩
theorem cln_blt {X : Cx} {K : PySem.W.Frag} {xs : List Str} {pos : Pos} (T : XTi K xs "ValueError" (.type "ValueError")) (hg : Gl X "ValueError") (hm : X.mg "ValueError" = none) : ClN X K xs (.Name "ValueError" pos) "ValueError" (.ty "ValueError") (.type "ValueError") :=
  ⟨pe_bltn hg hm PyProof.Rows.Boot.«ValueError» rfl (by decide) (by decide), fun u h => h, T⟩
/-- a row of such names -/
inductive ClNs (X : Cx) (K : PySem.W.Frag) (xs : List Str) : List Expr → List Str → List V → List Value → Prop
  | nil : ClNs X K xs [] [] [] []
  | cons {ce : Expr} {c : Str} {v : V} {cv : Value} {es : List Expr} {cs : List Str} {vs : List V} {cvs : List Value} (h : ClN X K xs ce c v cv) (r : ClNs X K xs es cs vs cvs) (hs : starEach (ce :: es) X.env = (false, eval ce X.env) :: starEach es X.env) : ClNs X K xs (ce :: es) (c :: cs) (v :: vs) (cv :: cvs)
def tCs : List V → TA
  | [] => tNil
  | v :: vs => tCons (tC v) (tCs vs)
theorem tcs_run {vs : List V} {σ : L2.St} {H : Hp} {R : List V → Hp → Prop} (h : R vs H) : tCs vs σ H R := by
  induction vs generalizing R with
  | nil => exact h
  | cons v vs ih =>
    show tCs vs σ H fun xs H2 => R (v :: xs) H2
    exact ih h
theorem ClNs.pa {X : Cx} {K : PySem.W.Frag} {xs : List Str} {es : List Expr} {cs : List Str} {vs : List V} {cvs : List Value} (h : ClNs X K xs es cs vs cvs) : PA X es (tCs vs) := by
  induction h with
  | nil => exact pa_nil
  | cons h r hs ih => exact pa_cons h.pe ih hs
theorem ClNs.one {X : Cx} {K : PySem.W.Frag} {xs : List Str} {es : List Expr} {cs : List Str} {vs : List V} {cvs : List Value} (h : ClNs X K xs es cs vs cvs) : ∀ us, Vals vs us → us = cvs := by
  induction h with
  | nil =>
    intro us r
    cases r
    rfl
  | cons h r hs ih =>
    intro us q
    cases q with
    | cons q1 q2 => rw [h.one _ q1, ih _ q2]
theorem ClNs.kit {X : Cx} {K : PySem.W.Frag} {xs : List Str} {es : List Expr} {cs : List Str} {vs : List V} {cvs : List Value} (h : ClNs X K xs es cs vs cvs) {x : Str} (hx : x ∈ xs) {C : Addr} (ns : PySem.W.nsIn K PySem.mainGlobals x = some (some (.ref C))) : PySem.W.kitAny K (.ref C) cvs = some (cs.any fun c => xsub x c) := by
  induction h with
  | nil => rfl
  | cons h r hs ih =>
    unfold PySem.W.kitAny
    rw [(h.tab.of x hx C ns).2, List.any_cons, ih]
    cases xsub x _ <;> rfl
theorem ClNs.len {X : Cx} {K : PySem.W.Frag} {xs : List Str} {es : List Expr} {cs : List Str} {vs : List V} {cvs : List Value} (h : ClNs X K xs es cs vs cvs) : vs.length = es.length := by
  induction h with
  | nil => rfl
  | cons h r hs ih => rw [List.length_cons, List.length_cons, ih]
section
variable {X : Cx} {K : PySem.W.Frag} {a : Addr} {oe : Obj} {cls : Value} {d : Option Addr} {pn : List (Addr × Obj)} {x : Str} {fs : List (Str × D)} {xs : List Str} {e ce : Expr} {es : List Expr} {c y f : Str} {cs : List Str} {v : V} {vs : List V} {cv : Value} {cvs : List Value} {te : TE} {de : DTE} {p p2 pos : Pos} {C : Addr}
theorem repx_d {H : Hp} (h : RepX K H x fs cls d) : ∀ dd, d = some dd → ∃ fv, H dd = some (.xd fv) := by
  obtain ⟨C, _, _, h3⟩ := h
  intro dd e
  rcases h3 with ⟨_, h3⟩ | ⟨dd', fv, e1, e2, _⟩
  · rw [h3] at e
    cases e
  · rw [e1] at e
    cases e
    exact ⟨fv, e2⟩
theorem se_isX [b : Bs] [hK : HasK X K] (hz : Zc cls d oe) (hf : ∃ vs, oe.data = .fields vs) (hx : XIn b K x fs cls d) (hg : Gl X "isinstance") (hm : X.mg "isinstance" = none) (he : SE (X.suite a ((a, oe) :: pn)) e te de) (hc : ClN (X.suite a ((a, oe) :: pn)) K xs ce c v cv)
    (hs : starEach [e, ce] X.env = (false, eval e X.env) :: starEach [ce] X.env := by rfl) (hs2 : starEach [ce] X.env = (false, eval ce X.env) :: starEach [] X.env := by rfl)
    (hpl : (backTo pos (starEach [ce] X.env)).any (·.1) = false := by rfl) :
    SE (X.suite a ((a, oe) :: pn)) (.Call (.Name "isinstance" p) [e, ce] [] pos) (tCB (rIsX K a cls d) (tCons te (tCons (tC v) tNil))) (dIsX a x xs c de) := by
  obtain rfl := hK.eq
  refine ⟨pe_callB (call_isX hz hf) hg hm (by decide +kernel) (pa_cons he.pe (pa_cons hc.pe pa_nil hs2) hs) (by decide) (by decide) hs hpl, fun ρ env st σ H Q W rs re q w => ?_⟩
  refine he.sim ρ env st σ H _ _ rs re q fun xv H1 ⟨ρ1, dv, st1, k1, r1, p1, q1⟩ => ?_
  obtain ⟨rfl, hxs, q1⟩ := q1
  obtain rfl := rep_adr p1
  have RX := hx ρ1 H1 r1.bs
  obtain ⟨C, ns, rfl, _⟩ := id RX
  exact ⟨C, v, cv, xsub x c, rfl, (hc.tab.of x hxs C ns).1, repx_d RX, rfl, hc.one, (hc.tab.of x hxs C ns).2, w _ H1 ⟨ρ1, .bl _, st1, k1, r1, .bl _, q1⟩⟩
theorem se_isXs [b : Bs] [hK : HasK X K] {kt : Nat} {pt : Pos} {c1 : Str} {cv1 : Value} (hz : Zc cls d oe) (hf : ∃ vs, oe.data = .fields vs) (hx : XIn b K x fs cls d) (hg : Gl X "isinstance") (hm : X.mg "isinstance" = none) (he : SE (X.suite a ((a, oe) :: pn)) e te de) (hc : ClNs (X.suite a ((a, oe) :: pn)) K xs es cs vs cvs) (hl : es.length ≤ 100) (h1 : XTi K xs c1 cv1)
    (hs : starEach [e, .Tuple es kt pt] X.env = (false, eval e X.env) :: starEach [.Tuple es kt pt] X.env := by rfl) (hs2 : starEach [.Tuple es kt pt] X.env = (false, eval (.Tuple es kt pt) X.env) :: starEach [] X.env := by rfl)
    (hpl : (backTo pos (starEach [.Tuple es kt pt] X.env)).any (·.1) = false := by rfl) :
    SE (X.suite a ((a, oe) :: pn)) (.Call (.Name "isinstance" p) [e, .Tuple es kt pt] [] pos) (tCB (rIsXs K a cls d) (tCons te (tCons (tTup (tCs vs)) tNil))) (dIsXs a x xs cs de) := by
  obtain rfl := hK.eq
  refine ⟨pe_callB (call_isXs hz hf) hg hm (by decide +kernel) (pa_cons he.pe (pa_cons (pe_tup hc.pa) pa_nil hs2) hs) (by decide) (by decide) hs hpl, fun ρ env st σ H Q W rs re q w => ?_⟩
  refine he.sim ρ env st σ H _ _ rs re q fun xv H1 ⟨ρ1, dv, st1, k1, r1, p1, q1⟩ => ?_
  obtain ⟨rfl, hxs, q1⟩ := q1
  obtain rfl := rep_adr p1
  have RX := hx ρ1 H1 r1.bs
  obtain ⟨C, ns, rfl, _⟩ := id RX
  refine tcs_run ⟨by rw [hc.len]; exact Nat.le_trans hl (by decide), fun tp htp => ?_⟩
  have kn : Keep ρ1 ρ1 H1 (upd H1 tp (.tup vs)) := keep_new htp
  exact ⟨C, tp, vs, cvs, cs.any fun c => xsub x c, rfl, (h1.of x hxs C ns).1, repx_d (RX.keep kn), rfl, .inl (.inl upd_same), hc.one, hc.kit hxs ns, w _ _ ⟨ρ1, .bl _, st1, k1.trans kn, r1.new htp, .bl _, q1⟩⟩
theorem se_xf [b : Bs] [hK : HasK X K] (T : XfC K C) (hno : PySem.W.findIn K (.ref C) f = some none) (ns : PySem.W.nsIn K PySem.mainGlobals y = some (some (.ref C))) (hz : Zc cls d oe) (hf : ∃ vs, oe.data = .fields vs) (hx : XIn b K x fs cls d) (he : SE (X.suite a ((a, oe) :: pn)) e te de)
    (hb : attributeBase e f X.env (eval e X.env) = eval e X.env := by rfl) : SE (X.suite a ((a, oe) :: pn)) (.Attribute e f pos) (tXf a cls d C f te) (dXf a x fs y f de) := by
  obtain rfl := hK.eq
  refine ⟨pe_xf T hno hz hf he.pe hb, fun ρ env st σ H Q W rs re q w => ?_⟩
  obtain ⟨rfl, q⟩ := q
  refine he.sim ρ env st σ H _ _ rs re q fun xv H1 ⟨ρ1, dv, st1, k1, r1, p1, q1⟩ => ?_
  obtain ⟨rfl, q1⟩ := q1
  obtain rfl := rep_adr p1
  obtain ⟨C', ns', rfl, h3⟩ := hx ρ1 H1 r1.bs
  rw [ns] at ns'
  cases ns'
  refine ⟨rfl, rfl, ?_⟩
  split at q1
  · rename_i dv hl
    rcases h3 with ⟨h3, _⟩ | ⟨dd, fv, e1, e2, e3, e4⟩
    · rw [h3] at hl
      cases hl
    · obtain ⟨yv, hy, ry⟩ := (fs_lookup e3 e4).1 dv hl
      exact ⟨dd, fv, yv, e1, e2, hy, w _ H1 ⟨ρ1, dv, st1, k1, r1, ry.keep ⟨⟨ρ1, rfl⟩, fun _ _ h => h, fun _ _ _ h => h, fun _ _ h => h⟩, q1⟩⟩
  · exact q1.elim
end
end DL

/-! try, and defs that may raise -/
namespace DL
open PySem PySem.Spec L2 XS
def DEnds.gone (d : DEnds) (i : Nat) : DEnds := { nx := fun env st => d.nx (env.set i none) st, rt := d.rt, bk := fun env st => d.bk (env.set i none) st, ct := fun env st => d.ct (env.set i none) st }
abbrev DSu := Addr → Str → List (Str × D) → DTS
/-- the clauses, one after the other -/
def dHandle (xs : List Str) (Wout : DWX) (n : Nat) (d : DEnds) : List (Str × Option Nat × DSu) → DWX
  | [] => Wout
  | (c, o, u) :: r => fun x fs env st => x ∈ xs ∧ if xsub x c = true then ∀ a : Addr, (match o with
      | none => u a x fs n d env st
      | some i => u a x fs n (d.gone i) (env.set i (some (.adr a))) st)
    else dHandle xs Wout n d r x fs env st
def dTry (xs : List Str) (Wout : DWX) (db : DWX → DTS) (l : List (Str × Option Nat × DSu)) : DTS := fun n d env st => db (dHandle xs Wout n d l) n d env st
inductive HdS (X : Cx) (K : PySem.W.Frag) (xs : List Str) : List ExceptHandler → List (Value × Option Nat × (Addr → Value → Option Addr → TS)) → List (Str × Option Nat × DSu) → Prop
  | nil : HdS X K xs [] [] []
  | bare {x : Str} {c : Value} {ts : Addr → Value → Option Addr → TS} {u : DSu} {b₀ : Stmt} {suite : List Stmt} {np pos' : Pos} {hds : List ExceptHandler} {l : List (Value × Option Nat × (Addr → Value → Option Addr → TS))} {m : List (Str × Option Nat × DSu)} (hc : Names X x c) (hT : XTe K xs x c)
      (hsu : ∀ (b : Bs) (a : Addr) (oe : Obj) (cls : Value) (d : Option Addr) (pn : List (Addr × Obj)) (y : Str) (fs : List (Str × D)), Zc cls d oe → (∃ vs, oe.data = .fields vs) → XIn b K y fs cls d → SSs (X.suite a ((a, oe) :: pn)) (b₀ :: suite) (ts a cls d) (u a y fs)) (r : HdS X K xs hds l m) :
      HdS X K xs (.ExceptHandler (some (.Name x np)) none (b₀ :: suite) pos' :: hds) ((c, none, ts) :: l) ((x, none, u) :: m)
  | named {x n : Str} {i : Nat} {c : Value} {ts : Addr → Value → Option Addr → TS} {u : DSu} {b₀ : Stmt} {suite : List Stmt} {np pos' : Pos} {hds : List ExceptHandler} {l : List (Value × Option Nat × (Addr → Value → Option Addr → TS))} {m : List (Str × Option Nat × DSu)} (hc : Names X x c) (hT : XTe K xs x c)
      (hi : X.N[i]? = some n) (hln : X.env.kindOf n = some .local)
      (hsu : ∀ (b : Bs) (a : Addr) (oe : Obj) (cls : Value) (d : Option Addr) (pn : List (Addr × Obj)) (y : Str) (fs : List (Str × D)), Zc cls d oe → (∃ vs, oe.data = .fields vs) → XIn b K y fs cls d → SSs (X.suite a ((a, oe) :: pn)) (b₀ :: suite) (ts a cls d) (u a y fs)) (r : HdS X K xs hds l m) :
      HdS X K xs (.ExceptHandler (some (.Name x np)) (some n) (b₀ :: suite) pos' :: hds) ((c, some i, ts) :: l) ((x, some i, u) :: m)
/-- a base under which nothing runs -/
def bsF : Bs := ⟨0, fun _ _ => False, fun _ h => h, fun _ _ h => h⟩
theorem HdS.hdx {X : Cx} {K : PySem.W.Frag} {xs : List Str} {hds : List ExceptHandler} {l : List (Value × Option Nat × (Addr → Value → Option Addr → TS))} {m : List (Str × Option Nat × DSu)} (h : HdS X K xs hds l m) : HdX X hds l := by
  induction h with
  | nil => exact .nil
  | bare hc hT hsu r ih => exact .bare hc (fun a oe cls d pn hz hf => @SSs.pss bsF _ _ _ _ (hsu bsF a oe cls d pn "" [] hz hf (fun _ _ h => False.elim h))) ih
  | named hc hT hi hln hsu r ih => exact .named hc hi hln (fun a oe cls d pn hz hf => @SSs.pss bsF _ _ _ _ (hsu bsF a oe cls d pn "" [] hz hf (fun _ _ h => False.elim h))) ih
/-- the base of a try's body, of a suite -/
def tryBs (b : Bs) (n : Nat) (ρ0 : List Addr) (H0 : Hp) (hb : b.n ≤ n) (hn : ρ0.length ≤ n) : Bs :=
  ⟨n, fun ρ H => b.B ρ H ∧ (baseAt n ρ0 H0 hn).B ρ H, fun k h => ⟨b.kl k h.1, (baseAt n ρ0 H0 hn).kl k h.2⟩, fun hm e h => ⟨b.gl (Nat.le_trans hb hm) e h.1, (baseAt n ρ0 H0 hn).gl hm e h.2⟩⟩
def suiteBs (b : Bs) (K : PySem.W.Frag) (x : Str) (fs : List (Str × D)) (cls : Value) (d : Option Addr) : Bs :=
  ⟨b.n, fun ρ H => b.B ρ H ∧ RepX K H x fs cls d, fun k h => ⟨b.kl k h.1, h.2.keep k⟩, fun hm e h => ⟨b.gl hm e h.1, h.2⟩⟩
section
variable {K : PySem.W.Frag} {ρ : List Addr} {H : Hp} {st : Store}
theorem rel_of {b b' : Bs} (r : @RelS K ρ H b st) (h : b'.B ρ H) : @RelS K ρ H b' st := @RelS.mk K ρ H b' st (@RelS.len K ρ H b st r) (@RelS.nd K ρ H b st r) (@RelS.ob K ρ H b st r) h
theorem ends_of {b b' : Bs} {d : DEnds} {W : Ends} (e : @EndsOk b K ρ H d W) (h : ∀ ρ H, b'.B ρ H → b.B ρ H) (hn : b'.n ≤ ρ.length) : @EndsOk b' K ρ H d W :=
  @EndsOk.mk b' K ρ H d W (fun σ' H' ρ' env' st' k rs re q => @EndsOk.nx b K ρ H d W e σ' H' ρ' env' st' k (rel_of rs (h _ _ (@RelS.bs K ρ' H' b' st' rs))) re q)
    (fun v H' ρ' x st' k rs re q => @EndsOk.rt b K ρ H d W e v H' ρ' x st' k (rel_of rs (h _ _ (@RelS.bs K ρ' H' b' st' rs))) re q)
    (fun σ' H' ρ' env' st' k rs re q => @EndsOk.bk b K ρ H d W e σ' H' ρ' env' st' k (rel_of rs (h _ _ (@RelS.bs K ρ' H' b' st' rs))) re q)
    (fun σ' H' ρ' env' st' k rs re q => @EndsOk.ct b K ρ H d W e σ' H' ρ' env' st' k (rel_of rs (h _ _ (@RelS.bs K ρ' H' b' st' rs))) re q) hn
theorem RelE.gone {env : DEnv} {σ : L2.St} (r : RelE K ρ H env σ) (i : Nat) : RelE K ρ H (env.set i none) (σ.set i none) := by
  refine ⟨by rw [List.length_set, List.length_set, r.len], fun j d e => ?_⟩
  by_cases hj : i = j
  · subst hj
    by_cases hi : i < env.length
    · rw [List.getElem?_set_self hi] at e
      cases e
    · rw [List.getElem?_eq_none (by rw [List.length_set]; omega)] at e
      cases e
  · rw [List.getElem?_set_ne hj] at e ⊢
    exact r.get j d e
theorem ends_gone [Bs] {d : DEnds} {W : Ends} (e : EndsOk K ρ H d W) (i : Nat) : EndsOk K ρ H (d.gone i) { nx := fun σ' H' => W.nx (σ'.set i none) H', rt := W.rt, bk := fun σ' H' => W.bk (σ'.set i none) H', ct := fun σ' H' => W.ct (σ'.set i none) H' } :=
  ⟨fun σ' H' ρ' env' st' k rs re q => e.nx _ H' ρ' _ st' k rs (re.gone i) q, e.rt, fun σ' H' ρ' env' st' k rs re q => e.bk _ H' ρ' _ st' k rs (re.gone i) q, fun σ' H' ρ' env' st' k rs re q => e.ct _ H' ρ' _ st' k rs (re.gone i) q, e.bn⟩
end
theorem ends_adv (b : Bs) {K : PySem.W.Frag} {ρ ρ' : List Addr} {H H' : Hp} {d : DEnds} {W : Ends} (e : @EndsOk b K ρ H d W) (k : Keep ρ ρ' H H') : @EndsOk b K ρ' H' d W := e.adv k
theorem ends_gone' (b : Bs) {K : PySem.W.Frag} {ρ : List Addr} {H : Hp} {d : DEnds} {W : Ends} (e : @EndsOk b K ρ H d W) (i : Nat) : @EndsOk b K ρ H (d.gone i) { nx := fun σ' H' => W.nx (σ'.set i none) H', rt := W.rt, bk := fun σ' H' => W.bk (σ'.set i none) H', ct := fun σ' H' => W.ct (σ'.set i none) H' } := ends_gone e i
theorem sim_handle {X : Cx} {K : PySem.W.Frag} [hK : HasK X K] {xs : List Str} {n : Nat} {ρ0 : List Addr} {H0 : Hp} {d : DEnds} {D' : Ends} {Wout : WX} {Woutd : DWX} (b b1 : Bs) (wo : @XOk b K Wout Woutd) (w : @EndsOk b K ρ0 H0 d D') (hb1 : ∀ ρ H, b1.B ρ H → b.B ρ H ∧ Keep ρ0 ρ H0 H) (h0 : ρ0.length = n) (hn : b1.n ≤ n)
    {hds : List ExceptHandler} {l : List (Value × Option Nat × (Addr → Value → Option Addr → TS))} {m : List (Str × Option Nat × DSu)} (h : HdS X K xs hds l m) : @XOk b1 K (wMix K Wout D' l) (dHandle xs Woutd n d m) := by
  obtain rfl := hK.eq
  induction h with
  | nil =>
    intro ρ env st σ H x fs cls dd rs re rx q
    exact wo ρ env st σ H x fs cls dd (rel_of rs (hb1 _ _ (@RelS.bs X.K ρ H b1 st rs)).1) re rx q
  | @bare y c ts u b₀ suite np pos' hds2 l2 m2 hc hT hsu r ih =>
    intro ρ env st σ H x fs cls dd rs re rx q
    obtain ⟨hx, q⟩ := q
    obtain ⟨C, ns, rfl, _⟩ := id rx
    have hB := hb1 _ _ (@RelS.bs X.K ρ H b1 st rs)
    refine ⟨xsub x y, hT.of x hx C ns, fun ht a ha => ?_, fun hf => ?_⟩
    · rw [if_pos ht] at q
      have et : ρ.take n = ρ0 := by
        obtain ⟨t, rfl⟩ := hB.2.pre
        rw [← h0, List.take_left' rfl]
      have hz : ∃ oe : Obj, Zc (.ref C) dd oe ∧ ∃ vs, oe.data = .fields vs := ⟨⟨.ref C, dd, .fields #[], #[]⟩, ⟨rfl, rfl⟩, #[], rfl⟩
      obtain ⟨oe, hz, hf⟩ := hz
      have S := hsu (suiteBs b1 X.K x fs (.ref C) dd) a oe (.ref C) dd [] x fs hz hf (fun _ _ h => h.2)
      refine @SSs.sim (suiteBs b1 X.K x fs (.ref C) dd) _ _ _ _ S n ρ env st σ H d D' ?_ (rel_of rs ⟨@RelS.bs X.K ρ H b1 st rs, rx⟩) re (q a) ?_
      · rw [← h0]
        exact hB.2.len
      · rw [et]
        refine ends_of (b := b) (ends_adv b w ⟨⟨[], by simp⟩, hB.2.tups, hB.2.frzs, hB.2.xds⟩) (fun _ _ h => (hb1 _ _ h.1).1) ?_
        rw [h0]
        exact hn
    · rw [if_neg (by rw [hf]; decide)] at q
      exact ih ρ env st σ H x fs (.ref C) dd rs re rx q
  | @named y nm i c ts u b₀ suite np pos' hds2 l2 m2 hc hT hi hln hsu r ih =>
    intro ρ env st σ H x fs cls dd rs re rx q
    obtain ⟨hx, q⟩ := q
    obtain ⟨C, ns, rfl, _⟩ := id rx
    have hB := hb1 _ _ (@RelS.bs X.K ρ H b1 st rs)
    refine ⟨xsub x y, hT.of x hx C ns, fun ht a ha => ?_, fun hf => ?_⟩
    · rw [if_pos ht] at q
      have et : ρ.take n = ρ0 := by
        obtain ⟨t, rfl⟩ := hB.2.pre
        rw [← h0, List.take_left' rfl]
      have hz : ∃ oe : Obj, Zc (.ref C) dd oe ∧ ∃ vs, oe.data = .fields vs := ⟨⟨.ref C, dd, .fields #[], #[]⟩, ⟨rfl, rfl⟩, #[], rfl⟩
      obtain ⟨oe, hz, hf⟩ := hz
      have S := hsu (suiteBs b1 X.K x fs (.ref C) dd) a oe (.ref C) dd [] x fs hz hf (fun _ _ h => h.2)
      refine @SSs.sim (suiteBs b1 X.K x fs (.ref C) dd) _ _ _ _ S n ρ (env.set i (some (.adr a))) st (σ.set i (some (.ref a))) H (d.gone i) _ ?_ (rel_of rs ⟨@RelS.bs X.K ρ H b1 st rs, rx⟩) (re.set i (show Rep X.K ρ H (.adr a) (.ref a) from by unfold Rep; rfl)) (q a) ?_
      · rw [← h0]
        exact hB.2.len
      · rw [et]
        refine ends_of (b := b) (ends_gone' b (ends_adv b w ⟨⟨[], by simp⟩, hB.2.tups, hB.2.frzs, hB.2.xds⟩) i) (fun _ _ h => (hb1 _ _ h.1).1) ?_
        rw [h0]
        exact hn
    · rw [if_neg (by rw [hf]; decide)] at q
      exact ih ρ env st σ H x fs (.ref C) dd rs re rx q
section
variable {X : Cx} {body : List Stmt} {h₀ : ExceptHandler} {hds : List ExceptHandler} {l : List (Value × Option Nat × (Addr → Value → Option Addr → TS))} {m : List (Str × Option Nat × DSu)} {pos : Pos} {tb : WX → TS} {db : DWX → DTS} {Wout : WX} {Woutd : DWX} {xs : List Str}
theorem takes_look {X : Cx} {W : WX} {pn : List (Addr × Obj)} (hs : X.stack = X.env :: X.outer) (hf : X.env.frame = some X.env.locals) : Takes (X.tr pn (fun e s' => wpAny (model X.prog X.w) X.A (noteFrame e X.env) (fun _ _ => True) (fun _ _ => True) s')) W := by
  intro u s' xx
  obtain ⟨a, B, sI, pins, σ, H, cls, d, rfl, I, nb, up, sky, na, os, ag, w⟩ := xx
  have hfr : X.A.frames = some (X.env :: X.outer) := by rw [← hs]; exact I.ok.frames
  have sky' : Sky B (X.env :: X.outer) a (Zc cls d) X.env.locals s'.heap := by rw [← hs]; exact sky
  exact wpAny_mono (Sky.land (Q := fun _ _ => True) (E₁ := fun _ _ => True) Zc.steady hfr hf sky' fun _ _ _ => trivial) (fun _ _ _ => trivial) fun _ _ _ => trivial
theorem ss_try [b : Bs] {K : PySem.W.Frag} [hK : HasK X K] (hs : X.stack = X.env :: X.outer) (hf : X.env.frame = some X.env.locals) (hN : X.N.Nodup) (tk : Takes X Wout) (wo : XOk K Wout Woutd)
    (hb : ∀ (b : Bs) (W : WX) (Wd : DWX) (pn : List (Addr × Obj)) (xe : Value → Shared → Prop), Takes (X.tr pn xe) W → XOk K W Wd → PassesOwn (model X.prog X.w) X.A X.env xe → SSs (X.tr pn xe) body (tb W) (db Wd))
    (hh : HdS X K xs (h₀ :: hds) l m) : SS X (.Try body (h₀ :: hds) [] [] pos) (fun D σ H => tb (wMix K Wout D l) D σ H) (dTry xs Woutd db m) := by
  obtain rfl := hK.eq
  refine ⟨ps_try_mix hs hf hN tk (fun W pn xe tk' hp => @SSs.pss bsF _ _ _ _ (hb bsF W dNoX pn xe tk' (fun _ _ _ _ _ _ _ _ _ _ _ _ w => False.elim w) hp)) hh.hdx, fun n ρ env st σ H d D' hn rs re q w => ?_⟩
  have hl : (ρ.take n).length = n := by rw [List.length_take]; omega
  have hbn : b.n ≤ n := by
    have := w.bn
    rw [hl] at this
    exact this
  have S := hb (tryBs b n (ρ.take n) H hbn (by omega)) (wMix X.K Wout D' l) (dHandle xs Woutd n d m) [] _ (takes_look hs hf)
    (sim_handle b (tryBs b n (ρ.take n) H hbn (by omega)) wo w (fun _ _ h => h) hl (Nat.le_refl _) hh) PassesOwn.looking
  refine @SSs.sim (tryBs b n (ρ.take n) H hbn (by omega)) _ _ _ _ S n ρ env st σ H d D' hn (rel_of rs ⟨rs.bs, Keep.of_take hn⟩) re q (ends_of w (fun _ _ h => h.1) (Nat.le_of_eq hl.symm : n ≤ (ρ.take n).length))
end
/-! ### a def that may raise -/
/-- what an exception leaves behind: new cells are forgotten -/
def RetX (n : Nat) (E : DXQ) (x : Str) (fs : List (Str × D)) (st : Store) : Prop := ∃ st0 π, Gc n st st0 π ∧ E x fs st0
theorem retx_old {n : Nat} {E : DXQ} {x : Str} {fs : List (Str × D)} {st st0 : Store} (hn : n ≤ st0.length) (he : ∀ i, i < st0.length → st[i]? = st0[i]?) (hw : Wf st0) (h : E x fs st0) : RetX n E x fs st :=
  ⟨st0, fun i => i, ⟨fun _ _ => rfl, hn, fun _ _ _ _ e => e, fun i o e => ⟨by rw [O.ren_id (n := st0.length) (fun _ _ => rfl) o (hw i o e)]; exact (he i (List.getElem?_eq_some_iff.mp e).1).trans e, hw i o e⟩⟩, h⟩
theorem retx_eq {E : DXQ} {x : Str} {fs : List (Str × D)} {st : Store} (hw : Wf st) (h : E x fs st) : RetX st.length E x fs st := retx_old (Nat.le_refl _) (fun _ _ => rfl) hw h
theorem retx_app {E : DXQ} {x : Str} {fs : List (Str × D)} {st l : Store} (hw : Wf st) (h : E x fs st) : RetX st.length E x fs (st ++ l) := retx_old (Nat.le_refl _) (fun i hi => List.getElem?_append_left hi) hw h
section
variable {P : Program} {w : World} {K : PySem.W.Frag} {mg : Str → Option Value} {base : Heap}
theorem Fun.okX {x qual : Str} {st : Stmt} {f : Addr} {fd : FuncData} {N ps : List Str} {k : Nat} {dsp : DSpX} (F : Fun K x qual st f fd) (S : FnScope N ps (defScope st)) (len : ∀ ds s Q E, dsp ds s Q E → ds.length = ps.length)
    (hbody : ∀ (b : Bs) (cdv : Value) (A : Around) (outer : List Env) (s : Shared) (H : Hp) (E : XK) (Wd : DWX), Takes (cxOf (L2.CX P w) P w K mg base N qual (defScope st) f cdv A outer s H E) (fun cls d _ H => E cls d H) → XOk K (fun cls d _ H => E cls d H) Wd →
      PassesOwn (model P w) (A.deeper (PyProof.Rows.envOfC qual (defScope st) s.heap.objs.size f cdv)) (PyProof.Rows.envOfC qual (defScope st) s.heap.objs.size f cdv) (cxOf (L2.CX P w) P w K mg base N qual (defScope st) f cdv A outer s H E).xe → Room k (A.deeper (PyProof.Rows.envOfC qual (defScope st) s.heap.objs.size f cdv)) →
      ∃ (t : TS) (ts : DWX → DTS), SSs (cxOf (L2.CX P w) P w K mg base N qual (defScope st) f cdv A outer s H E) (defBody st) t (ts Wd) ∧
        ∀ ds st Q EX, Wf st → D.lts st.length ds → dsp ds st Q EX → ts (fun x fs _ st' => RetX st.length EX x fs st') st.length { nx := fun _ st' => Ret st.length Q .non st', rt := Ret st.length Q } (dstart N ds) st) : FnOk P w K mg base (L2.CX P w) (k + 1) f fd ps (spXOf K dsp) := by
  obtain ⟨oc, od, kV, doc, pm, an, cdv, ct, osl, rfl, lk, hcd⟩ := F.ex
  refine fn_of lk hcd S (fun vs H Q E h => ?_) fun A outer s H vs Q E hr h => ?_
  · obtain ⟨ρ, ds, st, QD, ED, _, r, q, _⟩ := h
    rw [← r.len]
    exact len ds st QD ED q
  · obtain ⟨ρ, ds, sto, QD, ED, rs, r, q, wq, we⟩ := h
    have hl : sto.length ≤ ρ.length := by rw [@RelS.len K ρ H triv sto rs]; exact Nat.le_refl _
    have et : ρ.take sto.length = ρ := by rw [← @RelS.len K ρ H triv sto rs, List.take_length]
    have gone : ∀ {ρ' : List Addr} {H' : Hp} {st' st0 : Store} {π : Nat → Nat}, Keep ρ ρ' H H' → @RelS K ρ' H' triv st' → Gc sto.length st' st0 π → Keep ρ (gcρ ρ' st0.length π) H H' := fun {ρ' H' st' st0 π} k rs' g => by
      have k2 := @Gc.keep K ρ' H' sto.length st' st0 π triv g rs'
      have e : ρ'.take sto.length = ρ := by
        obtain ⟨u, rfl⟩ := k.pre
        rw [List.take_append_of_le_length hl, et]
      rw [e] at k2
      exact ⟨k2.pre, k.tups, k.frzs, k.xds⟩
    have hl' : ρ.length ≤ sto.length := by rw [@RelS.len K ρ H triv sto rs]; exact Nat.le_refl _
    have wo : @XOk (baseAt sto.length ρ H hl') K (fun cls d _ H => E cls d H) (fun x fs _ st' => RetX sto.length ED x fs st') := by
      intro ρ' env' st' σ' H' x fs cls d rs' _ rx hh
      obtain ⟨st0, π, g, q⟩ := hh
      have k : Keep ρ ρ' H H' := @RelS.bs K ρ' H' (baseAt sto.length ρ H hl') st' rs'
      exact we cls d H' ⟨gcρ ρ' st0.length π, st0, x, fs, gone k (rel_of rs' trivial) g, @Gc.relS K ρ' H' sto.length st' st0 π triv (Nat.zero_le _) g (rel_of rs' trivial), rx, q⟩
    obtain ⟨t, ts, hS, hb⟩ := hbody (baseAt sto.length ρ H hl') cdv A outer s H E (fun x fs _ st' => RetX sto.length ED x fs st') (takes_of rfl rfl rfl (E₁ := fun e' s'' => L2.CX P w outer H s E e' s'') rfl) wo PassesOwn.leaving hr
    refine ⟨t, @SSs.pss (baseAt sto.length ρ H hl') _ _ _ _ hS, ?_⟩
    have fin : ∀ (v : V) (H' : Hp) (ρ' : List Addr) (y : D) (st' : Store), Keep ρ ρ' H H' → @RelS K ρ' H' triv st' → Rep K ρ' H' y v → Ret sto.length QD y st' → Q v H' := fun v H' ρ' y st' k rs' ry q => by
      obtain ⟨d0, st0, π, g, rfl, hlt, q⟩ := q
      exact wq v H' ⟨gcρ ρ' st0.length π, d0, st0, gone k rs' g, @Gc.relS K ρ' H' sto.length st' st0 π triv (Nat.zero_le _) g rs', rep_ren (@Gc.at K ρ' H' sto.length st' st0 π triv g rs') d0 v hlt ry, q⟩
    refine @SSs.sim (baseAt sto.length ρ H hl') _ _ _ _ hS sto.length ρ (dstart N ds) sto (start N vs) H _ _ hl (rel_of rs Keep.refl) (relE_start r) (hb ds sto QD ED (@RelS.wf K ρ H triv sto rs) (by rw [← @RelS.len K ρ H triv sto rs]; exact reps_lt ds vs r) q) ?_
    rw [et]
    exact @EndsOk.mk (baseAt sto.length ρ H hl') K ρ H _ _ (fun σ' H' ρ' env' st' k rs' re' q' => fin .non H' ρ' .non st' k (rel_of rs' trivial) .non q') (fun v H' ρ' y st' k rs' ry q' => fin v H' ρ' y st' k (rel_of rs' trivial) ry q') (fun _ _ _ _ _ _ _ _ z => z.elim) (fun _ _ _ _ _ _ _ _ z => z.elim) hl
end
end DL

/-! the tables of classes, from single facts -/
namespace DL
open PySem PySem.Spec L2 XS
/-- what a class of errors says of itself -/
structure XcB (K : PySem.W.Frag) (x : Str) (C : Addr) : Prop where
  ns : PySem.W.nsIn K PySem.mainGlobals x = some (some (.ref C))
  sub : PySem.W.subIn K (.ref C) (.type "BaseException") = some true
  dct : PySem.W.hasDictIn K C = true
  ty : PySem.W.typeIn K (.ref C) = some (.type "type")
section
variable {K : PySem.W.Frag} {x y : Str} {C D : Addr} {b : Bool} {xs : List Str} {cv : Value}
theorem kit_own (T : XcB K y D) (h : PySem.W.mroIn K C (.ref D) = some b) (hs : PySem.W.mroIn K C (.ref C) = some true) : PySem.W.kitOne K (.ref C) (.ref D) = some b := by
  unfold PySem.W.kitOne
  split
  · rename_i e
    obtain rfl := Value.ref.inj (beq_iff_eq.mp e)
    exact hs.symm.trans h
  · obtain ⟨cd, hc, _⟩ := PySem.W.any_some T.dct
    unfold PySem.W.kitCls
    have e2 : ((PySem.W.clsIn K D).isSome && PySem.W.typeIn K (.ref D) == some (.type "type")) = true := by rw [hc, T.ty] <;> rfl
    dsimp only
    rw [if_pos e2]
    exact h
theorem exm_own (T : XcB K y D) (h : PySem.W.mroIn K C (.ref D) = some b) : PySem.W.exmOne K (.ref C) (.ref D) = some b := PySem.W.exm_ref T.sub T.dct T.ty h
theorem xti_nil : XTi K [] y cv := ⟨fun x hx => absurd hx (by simp)⟩
theorem xti_own (E : ExcC K C) (ns : PySem.W.nsIn K PySem.mainGlobals x = some (some (.ref C))) (h : PySem.W.kitOne K (.ref C) cv = some (xsub x y)) (r : XTi K xs y cv) : XTi K (x :: xs) y cv := by
  refine ⟨fun z hz C' ns' => ?_⟩
  rcases List.mem_cons.mp hz with rfl | hz
  · rw [ns] at ns'
    cases ns'
    exact ⟨E, h⟩
  · exact r.of z hz C' ns'
theorem xte_nil : XTe K [] y cv := ⟨fun x hx => absurd hx (by simp)⟩
theorem xte_own (ns : PySem.W.nsIn K PySem.mainGlobals x = some (some (.ref C))) (h : PySem.W.exmOne K (.ref C) cv = some (xsub x y)) (r : XTe K xs y cv) : XTe K (x :: xs) y cv := by
  refine ⟨fun z hz C' ns' => ?_⟩
  rcases List.mem_cons.mp hz with rfl | hz
  · rw [ns] at ns'
    cases ns'
    exact h
  · exact r.of z hz C' ns'
theorem kit_ve (h : PySem.W.subIn K (.ref C) (.type "ValueError") = some true) : PySem.W.kitOne K (.ref C) (.type "ValueError") = some true := by
  unfold PySem.W.kitOne
  rw [if_neg (show ¬ ((Value.ref C == Value.type "ValueError") = true) from fun e => by cases beq_iff_eq.mp e)]
  show (if PySem.W.kitMeta "ValueError" = true then PySem.W.subIn K (.ref C) (.type "ValueError") else none) = some true
  rw [if_pos (by decide +kernel)]
  exact h
end
theorem x_BadText_BadText : xsub "BadText" "BadText" = true := by decide
theorem x_BadText_BadRule : xsub "BadText" "BadRule" = false := by decide
theorem x_BadText_BadLetter : xsub "BadText" "BadLetter" = false := by decide
theorem x_BadText_BadPair : xsub "BadText" "BadPair" = false := by decide
theorem x_BadText_TooLong : xsub "BadText" "TooLong" = false := by decide
theorem x_BadText_Mismatch : xsub "BadText" "Mismatch" = false := by decide
theorem x_BadText_NotKept : xsub "BadText" "NotKept" = false := by decide
theorem x_BadText_BadCommand : xsub "BadText" "BadCommand" = false := by decide
theorem x_BadText_UnknownName : xsub "BadText" "UnknownName" = false := by decide
theorem x_BadText_NameTaken : xsub "BadText" "NameTaken" = false := by decide
theorem x_BadText_NoFact : xsub "BadText" "NoFact" = false := by decide
theorem x_BadText_NothingToUndo : xsub "BadText" "NothingToUndo" = false := by decide
theorem x_BadText_BatchError : xsub "BadText" "BatchError" = false := by decide
theorem x_BadText_OnelawError : xsub "BadText" "OnelawError" = true := by decide
theorem x_BadText_ValueError : xsub "BadText" "ValueError" = true := by decide
theorem x_BadRule_BadText : xsub "BadRule" "BadText" = false := by decide
theorem x_BadRule_BadRule : xsub "BadRule" "BadRule" = true := by decide
theorem x_BadRule_BadLetter : xsub "BadRule" "BadLetter" = false := by decide
theorem x_BadRule_BadPair : xsub "BadRule" "BadPair" = false := by decide
theorem x_BadRule_TooLong : xsub "BadRule" "TooLong" = false := by decide
theorem x_BadRule_Mismatch : xsub "BadRule" "Mismatch" = false := by decide
theorem x_BadRule_NotKept : xsub "BadRule" "NotKept" = false := by decide
theorem x_BadRule_BadCommand : xsub "BadRule" "BadCommand" = false := by decide
theorem x_BadRule_UnknownName : xsub "BadRule" "UnknownName" = false := by decide
theorem x_BadRule_NameTaken : xsub "BadRule" "NameTaken" = false := by decide
theorem x_BadRule_NoFact : xsub "BadRule" "NoFact" = false := by decide
theorem x_BadRule_NothingToUndo : xsub "BadRule" "NothingToUndo" = false := by decide
theorem x_BadRule_BatchError : xsub "BadRule" "BatchError" = false := by decide
theorem x_BadRule_OnelawError : xsub "BadRule" "OnelawError" = true := by decide
theorem x_BadRule_ValueError : xsub "BadRule" "ValueError" = true := by decide
theorem x_BadLetter_BadText : xsub "BadLetter" "BadText" = false := by decide
theorem x_BadLetter_BadRule : xsub "BadLetter" "BadRule" = false := by decide
theorem x_BadLetter_BadLetter : xsub "BadLetter" "BadLetter" = true := by decide
theorem x_BadLetter_BadPair : xsub "BadLetter" "BadPair" = false := by decide
theorem x_BadLetter_TooLong : xsub "BadLetter" "TooLong" = false := by decide
theorem x_BadLetter_Mismatch : xsub "BadLetter" "Mismatch" = false := by decide
theorem x_BadLetter_NotKept : xsub "BadLetter" "NotKept" = false := by decide
theorem x_BadLetter_BadCommand : xsub "BadLetter" "BadCommand" = false := by decide
theorem x_BadLetter_UnknownName : xsub "BadLetter" "UnknownName" = false := by decide
theorem x_BadLetter_NameTaken : xsub "BadLetter" "NameTaken" = false := by decide
theorem x_BadLetter_NoFact : xsub "BadLetter" "NoFact" = false := by decide
theorem x_BadLetter_NothingToUndo : xsub "BadLetter" "NothingToUndo" = false := by decide
theorem x_BadLetter_BatchError : xsub "BadLetter" "BatchError" = false := by decide
theorem x_BadLetter_OnelawError : xsub "BadLetter" "OnelawError" = true := by decide
theorem x_BadLetter_ValueError : xsub "BadLetter" "ValueError" = true := by decide
theorem x_BadPair_BadText : xsub "BadPair" "BadText" = false := by decide
theorem x_BadPair_BadRule : xsub "BadPair" "BadRule" = false := by decide
theorem x_BadPair_BadLetter : xsub "BadPair" "BadLetter" = false := by decide
theorem x_BadPair_BadPair : xsub "BadPair" "BadPair" = true := by decide
theorem x_BadPair_TooLong : xsub "BadPair" "TooLong" = false := by decide
theorem x_BadPair_Mismatch : xsub "BadPair" "Mismatch" = false := by decide
theorem x_BadPair_NotKept : xsub "BadPair" "NotKept" = false := by decide
theorem x_BadPair_BadCommand : xsub "BadPair" "BadCommand" = false := by decide
theorem x_BadPair_UnknownName : xsub "BadPair" "UnknownName" = false := by decide
theorem x_BadPair_NameTaken : xsub "BadPair" "NameTaken" = false := by decide
theorem x_BadPair_NoFact : xsub "BadPair" "NoFact" = false := by decide
theorem x_BadPair_NothingToUndo : xsub "BadPair" "NothingToUndo" = false := by decide
theorem x_BadPair_BatchError : xsub "BadPair" "BatchError" = false := by decide
theorem x_BadPair_OnelawError : xsub "BadPair" "OnelawError" = true := by decide
theorem x_BadPair_ValueError : xsub "BadPair" "ValueError" = true := by decide
theorem x_TooLong_BadText : xsub "TooLong" "BadText" = false := by decide
theorem x_TooLong_BadRule : xsub "TooLong" "BadRule" = false := by decide
theorem x_TooLong_BadLetter : xsub "TooLong" "BadLetter" = false := by decide
theorem x_TooLong_BadPair : xsub "TooLong" "BadPair" = false := by decide
theorem x_TooLong_TooLong : xsub "TooLong" "TooLong" = true := by decide
theorem x_TooLong_Mismatch : xsub "TooLong" "Mismatch" = false := by decide
theorem x_TooLong_NotKept : xsub "TooLong" "NotKept" = false := by decide
theorem x_TooLong_BadCommand : xsub "TooLong" "BadCommand" = false := by decide
theorem x_TooLong_UnknownName : xsub "TooLong" "UnknownName" = false := by decide
theorem x_TooLong_NameTaken : xsub "TooLong" "NameTaken" = false := by decide
theorem x_TooLong_NoFact : xsub "TooLong" "NoFact" = false := by decide
theorem x_TooLong_NothingToUndo : xsub "TooLong" "NothingToUndo" = false := by decide
theorem x_TooLong_BatchError : xsub "TooLong" "BatchError" = false := by decide
theorem x_TooLong_OnelawError : xsub "TooLong" "OnelawError" = true := by decide
theorem x_TooLong_ValueError : xsub "TooLong" "ValueError" = true := by decide
theorem x_Mismatch_BadText : xsub "Mismatch" "BadText" = false := by decide
theorem x_Mismatch_BadRule : xsub "Mismatch" "BadRule" = false := by decide
theorem x_Mismatch_BadLetter : xsub "Mismatch" "BadLetter" = false := by decide
theorem x_Mismatch_BadPair : xsub "Mismatch" "BadPair" = false := by decide
theorem x_Mismatch_TooLong : xsub "Mismatch" "TooLong" = false := by decide
theorem x_Mismatch_Mismatch : xsub "Mismatch" "Mismatch" = true := by decide
theorem x_Mismatch_NotKept : xsub "Mismatch" "NotKept" = false := by decide
theorem x_Mismatch_BadCommand : xsub "Mismatch" "BadCommand" = false := by decide
theorem x_Mismatch_UnknownName : xsub "Mismatch" "UnknownName" = false := by decide
theorem x_Mismatch_NameTaken : xsub "Mismatch" "NameTaken" = false := by decide
theorem x_Mismatch_NoFact : xsub "Mismatch" "NoFact" = false := by decide
theorem x_Mismatch_NothingToUndo : xsub "Mismatch" "NothingToUndo" = false := by decide
theorem x_Mismatch_BatchError : xsub "Mismatch" "BatchError" = false := by decide
theorem x_Mismatch_OnelawError : xsub "Mismatch" "OnelawError" = true := by decide
theorem x_Mismatch_ValueError : xsub "Mismatch" "ValueError" = true := by decide
theorem x_NotKept_BadText : xsub "NotKept" "BadText" = false := by decide
theorem x_NotKept_BadRule : xsub "NotKept" "BadRule" = false := by decide
theorem x_NotKept_BadLetter : xsub "NotKept" "BadLetter" = false := by decide
theorem x_NotKept_BadPair : xsub "NotKept" "BadPair" = false := by decide
theorem x_NotKept_TooLong : xsub "NotKept" "TooLong" = false := by decide
theorem x_NotKept_Mismatch : xsub "NotKept" "Mismatch" = false := by decide
theorem x_NotKept_NotKept : xsub "NotKept" "NotKept" = true := by decide
theorem x_NotKept_BadCommand : xsub "NotKept" "BadCommand" = false := by decide
theorem x_NotKept_UnknownName : xsub "NotKept" "UnknownName" = false := by decide
theorem x_NotKept_NameTaken : xsub "NotKept" "NameTaken" = false := by decide
theorem x_NotKept_NoFact : xsub "NotKept" "NoFact" = false := by decide
theorem x_NotKept_NothingToUndo : xsub "NotKept" "NothingToUndo" = false := by decide
theorem x_NotKept_BatchError : xsub "NotKept" "BatchError" = false := by decide
theorem x_NotKept_OnelawError : xsub "NotKept" "OnelawError" = true := by decide
theorem x_NotKept_ValueError : xsub "NotKept" "ValueError" = true := by decide
theorem x_BadCommand_BadText : xsub "BadCommand" "BadText" = false := by decide
theorem x_BadCommand_BadRule : xsub "BadCommand" "BadRule" = false := by decide
theorem x_BadCommand_BadLetter : xsub "BadCommand" "BadLetter" = false := by decide
theorem x_BadCommand_BadPair : xsub "BadCommand" "BadPair" = false := by decide
theorem x_BadCommand_TooLong : xsub "BadCommand" "TooLong" = false := by decide
theorem x_BadCommand_Mismatch : xsub "BadCommand" "Mismatch" = false := by decide
theorem x_BadCommand_NotKept : xsub "BadCommand" "NotKept" = false := by decide
theorem x_BadCommand_BadCommand : xsub "BadCommand" "BadCommand" = true := by decide
theorem x_BadCommand_UnknownName : xsub "BadCommand" "UnknownName" = false := by decide
theorem x_BadCommand_NameTaken : xsub "BadCommand" "NameTaken" = false := by decide
theorem x_BadCommand_NoFact : xsub "BadCommand" "NoFact" = false := by decide
theorem x_BadCommand_NothingToUndo : xsub "BadCommand" "NothingToUndo" = false := by decide
theorem x_BadCommand_BatchError : xsub "BadCommand" "BatchError" = false := by decide
theorem x_BadCommand_OnelawError : xsub "BadCommand" "OnelawError" = true := by decide
theorem x_BadCommand_ValueError : xsub "BadCommand" "ValueError" = true := by decide
theorem x_UnknownName_BadText : xsub "UnknownName" "BadText" = false := by decide
theorem x_UnknownName_BadRule : xsub "UnknownName" "BadRule" = false := by decide
theorem x_UnknownName_BadLetter : xsub "UnknownName" "BadLetter" = false := by decide
theorem x_UnknownName_BadPair : xsub "UnknownName" "BadPair" = false := by decide
theorem x_UnknownName_TooLong : xsub "UnknownName" "TooLong" = false := by decide
theorem x_UnknownName_Mismatch : xsub "UnknownName" "Mismatch" = false := by decide
theorem x_UnknownName_NotKept : xsub "UnknownName" "NotKept" = false := by decide
theorem x_UnknownName_BadCommand : xsub "UnknownName" "BadCommand" = false := by decide
theorem x_UnknownName_UnknownName : xsub "UnknownName" "UnknownName" = true := by decide
theorem x_UnknownName_NameTaken : xsub "UnknownName" "NameTaken" = false := by decide
theorem x_UnknownName_NoFact : xsub "UnknownName" "NoFact" = false := by decide
theorem x_UnknownName_NothingToUndo : xsub "UnknownName" "NothingToUndo" = false := by decide
theorem x_UnknownName_BatchError : xsub "UnknownName" "BatchError" = false := by decide
theorem x_UnknownName_OnelawError : xsub "UnknownName" "OnelawError" = true := by decide
theorem x_UnknownName_ValueError : xsub "UnknownName" "ValueError" = true := by decide
theorem x_NameTaken_BadText : xsub "NameTaken" "BadText" = false := by decide
theorem x_NameTaken_BadRule : xsub "NameTaken" "BadRule" = false := by decide
theorem x_NameTaken_BadLetter : xsub "NameTaken" "BadLetter" = false := by decide
theorem x_NameTaken_BadPair : xsub "NameTaken" "BadPair" = false := by decide
theorem x_NameTaken_TooLong : xsub "NameTaken" "TooLong" = false := by decide
theorem x_NameTaken_Mismatch : xsub "NameTaken" "Mismatch" = false := by decide
theorem x_NameTaken_NotKept : xsub "NameTaken" "NotKept" = false := by decide
theorem x_NameTaken_BadCommand : xsub "NameTaken" "BadCommand" = false := by decide
theorem x_NameTaken_UnknownName : xsub "NameTaken" "UnknownName" = false := by decide
theorem x_NameTaken_NameTaken : xsub "NameTaken" "NameTaken" = true := by decide
theorem x_NameTaken_NoFact : xsub "NameTaken" "NoFact" = false := by decide
theorem x_NameTaken_NothingToUndo : xsub "NameTaken" "NothingToUndo" = false := by decide
theorem x_NameTaken_BatchError : xsub "NameTaken" "BatchError" = false := by decide
theorem x_NameTaken_OnelawError : xsub "NameTaken" "OnelawError" = true := by decide
theorem x_NameTaken_ValueError : xsub "NameTaken" "ValueError" = true := by decide
theorem x_NoFact_BadText : xsub "NoFact" "BadText" = false := by decide
theorem x_NoFact_BadRule : xsub "NoFact" "BadRule" = false := by decide
theorem x_NoFact_BadLetter : xsub "NoFact" "BadLetter" = false := by decide
theorem x_NoFact_BadPair : xsub "NoFact" "BadPair" = false := by decide
theorem x_NoFact_TooLong : xsub "NoFact" "TooLong" = false := by decide
theorem x_NoFact_Mismatch : xsub "NoFact" "Mismatch" = false := by decide
theorem x_NoFact_NotKept : xsub "NoFact" "NotKept" = false := by decide
theorem x_NoFact_BadCommand : xsub "NoFact" "BadCommand" = false := by decide
theorem x_NoFact_UnknownName : xsub "NoFact" "UnknownName" = false := by decide
theorem x_NoFact_NameTaken : xsub "NoFact" "NameTaken" = false := by decide
theorem x_NoFact_NoFact : xsub "NoFact" "NoFact" = true := by decide
theorem x_NoFact_NothingToUndo : xsub "NoFact" "NothingToUndo" = false := by decide
theorem x_NoFact_BatchError : xsub "NoFact" "BatchError" = false := by decide
theorem x_NoFact_OnelawError : xsub "NoFact" "OnelawError" = true := by decide
theorem x_NoFact_ValueError : xsub "NoFact" "ValueError" = true := by decide
theorem x_NothingToUndo_BadText : xsub "NothingToUndo" "BadText" = false := by decide
theorem x_NothingToUndo_BadRule : xsub "NothingToUndo" "BadRule" = false := by decide
theorem x_NothingToUndo_BadLetter : xsub "NothingToUndo" "BadLetter" = false := by decide
theorem x_NothingToUndo_BadPair : xsub "NothingToUndo" "BadPair" = false := by decide
theorem x_NothingToUndo_TooLong : xsub "NothingToUndo" "TooLong" = false := by decide
theorem x_NothingToUndo_Mismatch : xsub "NothingToUndo" "Mismatch" = false := by decide
theorem x_NothingToUndo_NotKept : xsub "NothingToUndo" "NotKept" = false := by decide
theorem x_NothingToUndo_BadCommand : xsub "NothingToUndo" "BadCommand" = false := by decide
theorem x_NothingToUndo_UnknownName : xsub "NothingToUndo" "UnknownName" = false := by decide
theorem x_NothingToUndo_NameTaken : xsub "NothingToUndo" "NameTaken" = false := by decide
theorem x_NothingToUndo_NoFact : xsub "NothingToUndo" "NoFact" = false := by decide
theorem x_NothingToUndo_NothingToUndo : xsub "NothingToUndo" "NothingToUndo" = true := by decide
theorem x_NothingToUndo_BatchError : xsub "NothingToUndo" "BatchError" = false := by decide
theorem x_NothingToUndo_OnelawError : xsub "NothingToUndo" "OnelawError" = true := by decide
theorem x_NothingToUndo_ValueError : xsub "NothingToUndo" "ValueError" = true := by decide
theorem x_BatchError_BadText : xsub "BatchError" "BadText" = false := by decide
theorem x_BatchError_BadRule : xsub "BatchError" "BadRule" = false := by decide
theorem x_BatchError_BadLetter : xsub "BatchError" "BadLetter" = false := by decide
theorem x_BatchError_BadPair : xsub "BatchError" "BadPair" = false := by decide
theorem x_BatchError_TooLong : xsub "BatchError" "TooLong" = false := by decide
theorem x_BatchError_Mismatch : xsub "BatchError" "Mismatch" = false := by decide
theorem x_BatchError_NotKept : xsub "BatchError" "NotKept" = false := by decide
theorem x_BatchError_BadCommand : xsub "BatchError" "BadCommand" = false := by decide
theorem x_BatchError_UnknownName : xsub "BatchError" "UnknownName" = false := by decide
theorem x_BatchError_NameTaken : xsub "BatchError" "NameTaken" = false := by decide
theorem x_BatchError_NoFact : xsub "BatchError" "NoFact" = false := by decide
theorem x_BatchError_NothingToUndo : xsub "BatchError" "NothingToUndo" = false := by decide
theorem x_BatchError_BatchError : xsub "BatchError" "BatchError" = true := by decide
theorem x_BatchError_OnelawError : xsub "BatchError" "OnelawError" = true := by decide
theorem x_BatchError_ValueError : xsub "BatchError" "ValueError" = true := by decide
end DL

/-! objects whose __init__ may raise; properties -/
namespace DL
open PySem PySem.Spec L2 XS
def tMkX (C : Addr) (sp : Sp) (E : L2.St → XK) (t : TA) : TE := fun σ H Q => t σ H fun vs H1 => ∀ x dx, H1 x = none → H1 dx = none → dx ≠ x →
  sp (.ref x :: vs) (upd (upd H1 dx (.own x)) x (.ins C dx [])) (fun v H2 => v = .non ∧ Q (.ref x) H2) (E σ)
section
variable {X : Cx} {k : Nat} {C g : Addr} {cn : Str} {fd : FuncData} {ps : List Str} {sp : Sp} {dsp : DSp} {dspx : DSpX} {x f : Str} {p pos : Pos} {e o : Expr} {es : List Expr} {t : TA} {da : DTA} {to : TE} {dO : DTE} {W : WX} {Wd : DWX} {pa : Addr}
/-- C(..), where __init__ may raise -/
theorem pe_mkX (tk : Takes X W) (M : Mk X.K C g) (F : FnOk X.prog X.w X.K X.mg X.base (L2.CX X.prog X.w) k g fd ps sp) (hr : Room (k + 1) X.A) (hg : Gl X x) (hm : X.mg x = some (.ref C)) (hb : Binds X.K fd ps [])
    (ha : PA X (e :: es) t) (hdb : (x == ("__debug__" : Str)) = false) (he : starEach (e :: es) X.env = (false, eval e X.env) :: starEach es X.env) (hpl : (backTo pos (starEach es X.env)).any (·.1) = false) :
    PE X (.Call (.Name x p) (e :: es) [] pos) (tMkX C sp (WE W) t) := by
  refine ⟨fun pins s σ H Q I h => wpAny_Call_Name_kw (ld_glob I hg hm ?_ hdb)⟩
  refine PySem.W.callWith_K (h₀ := X.base) I.ok.mod.kin M.kp (thn (ha.run pos pins s σ H _ I h) fun us s1 ⟨vs, H1, I1, r, q⟩ => ⟨I1.kIn, ?_⟩) he hpl
  have a1 := q (s1.heap.objs.size + 1) s1.heap.objs.size (I1.hok.fresh (Nat.le_succ _)) (I1.hok.fresh (Nat.le_refl _)) (Nat.ne_of_lt (Nat.lt_succ_self _))
  have J := Inv.made (C := C) I1
  have rr : Vals (V.ref (s1.heap.objs.size + 1) :: vs) (Value.ref (s1.heap.objs.size + 1) :: us) := .cons rfl r
  have hl : (Value.ref (s1.heap.objs.size + 1) :: us).length = ps.length := rr.length.symm.trans (F.len _ _ _ _ a1)
  have bb := hb _ (Value.ref (s1.heap.objs.size + 1) :: us) J.kIn (by rw [List.append_nil]; exact hl)
  rw [List.append_nil] at bb
  have go := F.run _ X.stack _ _ ⟨Value.ref (s1.heap.objs.size + 1) :: us, []⟩ _ _ _ _ (hr.make C us []) (J.env0.make C us []) bb rr a1
  refine wpAny_call (make_map (f := g) I1.kIn M.makes M.init (beq_iff_eq.mp M.fn) (codeAny_mono go fun w s' hw => ?_))
  rcases w with er | fl
  · exact passAt tk σ pins _ _ er s' J hw
  · cases fl with
    | ret u =>
      obtain ⟨v, H', I3, rv, ev, q3⟩ := J.after hw
      subst ev
      exact ⟨rv, V.ref (s1.heap.objs.size + 1), H', I3, rfl, q3⟩
    | next => exact hw.elim
    | brk => exact hw.elim
    | cont => exact hw.elim
def dMakeX (Wd : DWX) (cn : Str) (dsp : DSpX) (da : DTA) : DTE := fun env st Q => da env st fun ds st1 => dsp (.ref st1.length :: ds) (st1 ++ [.ins cn []]) (fun v st2 => v = .non ∧ Q (.ref st1.length) st2) fun x fs st2 => Wd x fs env st2
theorem se_makeX [Bs] {K : PySem.W.Frag} [hk : HasK X K] (tk : Takes X W) (wo : XOk K W Wd) (T : ClsD K cn C) (M : Mk K C g) (F : FnOk X.prog X.w K X.mg X.base (L2.CX X.prog X.w) k g fd ps (spXOf K dspx)) (hr : Room (k + 1) X.A) (hg : Gl X x) (hm : X.mg x = some (.ref C)) (hb : Binds K fd ps []) (ha : SA X (e :: es) t da)
    (hdb : (x == ("__debug__" : Str)) = false := by decide) (he : starEach (e :: es) X.env = (false, eval e X.env) :: starEach es X.env := by rfl) (hpl : (backTo pos (starEach es X.env)).any (·.1) = false := by rfl) :
    SE X (.Call (.Name x p) (e :: es) [] pos) (tMkX C (spXOf K dspx) (WE W) t) (dMakeX Wd cn dspx da) := by
  obtain rfl := hk.eq
  refine ⟨pe_mkX tk M F hr hg hm hb ha.pa hdb he hpl, fun ρ env st σ H Q W' rs re q w => ?_⟩
  refine ha.sim ρ env st σ H _ _ rs re q fun xs H1 ⟨ρ1, ds, st1, k1, r1, px, q1⟩ => ?_
  intro a dx h1 h2 h3
  obtain ⟨r2, k2⟩ := r1.cellI T h1 h2 h3
  have pp : Rep X.K (ρ1 ++ [a]) (upd (upd H1 dx (.own a)) a (.ins C dx [])) (.ref st1.length) (.ref a) := by
    unfold Rep
    exact ⟨a, by rw [List.getElem?_append_right (by rw [r1.len]; exact Nat.le_refl _), r1.len, Nat.sub_self]; rfl, rfl⟩
  refine ⟨ρ1 ++ [a], .ref st1.length :: ds, st1 ++ [.ins cn []], _, _, r2.dn, .cons pp (px.keep k2), q1, fun v H' hh => ?_, fun cls d H' hx => ?_⟩
  · obtain ⟨ρ3, d3, st3, k3, r3, p3, q3⟩ := PostE.up r2 hh
    obtain ⟨rfl, q3⟩ := q3
    exact ⟨rep_non p3, w _ _ ⟨ρ3, .ref st1.length, st3, (k1.trans k2).trans k3, r3, pp.keep k3, q3⟩⟩
  · obtain ⟨ρ2, st2, x, fs, k3, r3, rx, e⟩ := hx
    exact wo ρ2 env st2 σ H' x fs cls d (r2.up k3 r3) (((re.keep k1).keep k2).keep k3) rx e
/-! ### properties -/
def dProp (cn : Str) (dsp : DSp) (dO : DTE) : DTE := fun env st Q => dO env st fun x st1 => match insOf st1 cn x with
  | some _ => dsp [x] st1 Q
  | none => False
theorem se_prop [Bs] {K : PySem.W.Frag} [hk : HasK X K] (T : ClsD K cn C) (hp : PropOf K C f pa g) (F : FnOk X.prog X.w K X.mg X.base CX0 k g fd ps (spOf K dsp)) (hr : Room (k + 1) X.A) (hb : Binds K fd ps []) (ho : SE X o to dO)
    (hab : attributeBase o f X.env (eval o X.env) = eval o X.env := by rfl) : SE X (.Attribute o f pos) (tProp C (spOf K dsp) [] E0 to) (dProp cn dsp dO) := by
  obtain rfl := hk.eq
  refine ⟨pe_prop ho.pe T.cls hp F hr hb .nil pass0 hab, fun ρ env st σ H Q W' rs re q w => ?_⟩
  refine ho.sim ρ env st σ H _ _ rs re q fun v H1 ⟨ρ1, d1, st1, k1, r1, p1, q1⟩ => ?_
  dsimp only at q1
  split at q1
  · rename_i y e
    obtain ⟨k, fs⟩ := y
    obtain ⟨rfl, e2, a, dx, vs, hadd, rfl, hv, hnm, hr⟩ := ins_at T r1 p1 e
    exact ⟨a, dx, vs, rfl, hv, ρ1, [.ref k], st1, Q, r1.dn, .cons p1 .nil, q1, fun v H' pq => w v H' ((PostE.up r1 pq).keep k1)⟩
  · exact q1.elim
end
/-! ### x is True -/
def dIsB : DR2 := fun x y st Q => match x, y with
  | .bl a, .bl b => Q (.bl (decide (a = b))) st
  | _, _ => False
theorem so_isB [Bs] {X : Cx} : SOp X (compareOp .Is) rIsB dIsB := by
  refine ⟨op_isBl, fun ρ st H x y dx dy Q W rs px py q w => ?_⟩
  cases dx with
  | bl a => cases dy with
    | bl b =>
      exact ⟨a, b, rep_bl px, rep_bl py, w _ H (.of rs (.bl _) q)⟩
    | _ => exact q.elim
  | _ => cases dy <;> exact q.elim
def dNotB : DR2 := fun x y st Q => match x, y with
  | .bl a, .bl b => Q (.bl (!decide (a = b))) st
  | _, _ => False
theorem so_notB [Bs] {X : Cx} : SOp X (compareOp .IsNot) rNotB dNotB := by
  refine ⟨op_notBl, fun ρ st H x y dx dy Q W rs px py q w => ?_⟩
  cases dx with
  | bl a => cases dy with
    | bl b =>
      exact ⟨a, b, rep_bl px, rep_bl py, w _ H (.of rs (.bl _) q)⟩
    | _ => exact q.elim
  | _ => cases dy <;> exact q.elim
theorem w_isB {st : Store} {a b : Bool} {Q : DQ} : dIsB (.bl a) (.bl b) st Q = Q (.bl (decide (a = b))) st := rfl
theorem w_notB {st : Store} {a b : Bool} {Q : DQ} : dNotB (.bl a) (.bl b) st Q = Q (.bl (!decide (a = b))) st := rfl
/-! ### == of tuples that hold lists -/
def pydL (st : Store) : List D → Option (List PyData)
  | [] => some []
  | d :: ds => match pyd st d, pydL st ds with
    | some p, some ps => some (p :: ps)
    | _, _ => none
def pyd2 (st : Store) (d : D) : Option PyData := match d with
  | .tup xs => (pydL st xs).map PyData.tuple
  | _ => none
theorem pyd_lay {st : Store} {d : D} {p : PyData} (e : pyd st d = some p) : p.canLay0 = true ∧ p.depth ≤ 9 := by
  have go : ∀ {n : Nat} {x : D}, x.fl n = true → n ≤ 9 → x.py.canLay0 = true ∧ x.py.depth ≤ 9 := fun {n x} h hn => by
    obtain ⟨a, b⟩ := fl_lay n x h
    exact ⟨a, by omega⟩
  unfold pyd at e
  split at e
  · rename_i hf
    cases e
    exact go hf (by decide)
  · split at e
    · split at e
      · split at e
        · rename_i hall
          cases e
          exact go (n := 9) (x := .rol _) hall (by decide)
        · cases e
      · cases e
    · cases e
theorem pydL_lay {st : Store} : ∀ {ds : List D} {ps : List PyData}, pydL st ds = some ps → PyData.canLayAll0 ps = true ∧ PyData.depthAll ps ≤ 9
  | [], ps, e => by
    cases e
    simp [PyData.canLayAll0, PyData.depthAll]
  | d :: ds, ps, e => by
    unfold pydL at e
    split at e
    · rename_i p qs e1 e2
      cases e
      obtain ⟨a1, a2⟩ := pyd_lay e1
      obtain ⟨b1, b2⟩ := pydL_lay e2
      rw [PyData.canLayAll0, PyData.depthAll]
      exact ⟨by rw [a1, b1]; rfl, by omega⟩
    · cases e
theorem pydL_dp [Bs] {K : PySem.W.Frag} {ρ : List Addr} {H : Hp} {st : Store} (r : RelS K ρ H st) : ∀ {ds : List D} {vs : List V} {ps : List PyData}, Reps K ρ H ds vs → pydL st ds = some ps → DpAll K H vs ps
  | [], vs, ps, h, e => by
    cases e
    unfold Reps at h
    rw [h]
    exact .nil
  | d :: ds, vs, ps, h, e => by
    unfold Reps at h
    obtain ⟨v, w, rfl, r1, r2⟩ := h
    unfold pydL at e
    split at e
    · rename_i p qs e1 e2
      cases e
      exact .cons (pyd_dp r r1 e1).1 (pydL_dp r r2 e2)
    · cases e
theorem pyd2_dp [Bs] {K : PySem.W.Frag} {ρ : List Addr} {H : Hp} {st : Store} {d : D} {v : V} {p : PyData} (r : RelS K ρ H st) (h : Rep K ρ H d v) (e : pyd2 st d = some p) : Dp K H v p ∧ SeqAt.shaped p = true := by
  unfold pyd2 at e
  split at e
  · rename_i xs
    obtain ⟨a, vs, rfl, hs, hr⟩ := rep_tup h
    cases e1 : pydL st xs with
    | none =>
      rw [e1] at e
      cases e
    | some ps =>
      rw [e1] at e
      cases e
      obtain ⟨a1, a2⟩ := pydL_lay e1
      refine ⟨.tup hs (pydL_dp r hr e1), ?_⟩
      unfold SeqAt.shaped
      rw [PyData.canLay0, PyData.depth, a1, decide_eq_true (by omega)]
      rfl
  · cases e
def dEqv2 (st : Store) (x y : D) : Option Bool := match pyd2 st x, pyd2 st y with
  | some a, some b => some (PyData.eqv a b)
  | _, _ => none
def dEq2 : DR2 := fun x y st Q => match dEqv2 st x y with
  | some b => Q (.bl b) st
  | none => False
def dNe2 : DR2 := fun x y st Q => match dEqv2 st x y with
  | some b => Q (.bl (!b)) st
  | none => False
theorem so_eq2 [Bs] {X : Cx} {K : PySem.W.Frag} [hk : HasK X K] {k : Nat} (hr : Room k X.A) : SOp X (compareOp .Eq) (rEqD K) dEq2 := by
  obtain rfl := hk.eq
  refine ⟨op_eqD hr.units, fun ρ st H x y dx dy Q W rs px py q w => ?_⟩
  unfold dEq2 dEqv2 at q
  split at q
  · rename_i b e
    split at e
    · rename_i p1 p2 e1 e2
      cases e
      obtain ⟨a1, a2⟩ := pyd2_dp rs px e1
      obtain ⟨b1, b2⟩ := pyd2_dp rs py e2
      exact ⟨p1, p2, a1, b1, a2, b2, w _ H (.of rs (.bl _) q)⟩
    · cases e
  · exact q.elim
theorem so_ne2 [Bs] {X : Cx} {K : PySem.W.Frag} [hk : HasK X K] {k : Nat} (hr : Room k X.A) : SOp X (compareOp .NotEq) (rNeD K) dNe2 := by
  obtain rfl := hk.eq
  refine ⟨op_neD hr.units, fun ρ st H x y dx dy Q W rs px py q w => ?_⟩
  unfold dNe2 dEqv2 at q
  split at q
  · rename_i b e
    split at e
    · rename_i p1 p2 e1 e2
      cases e
      obtain ⟨a1, a2⟩ := pyd2_dp rs px e1
      obtain ⟨b1, b2⟩ := pyd2_dp rs py e2
      exact ⟨p1, p2, a1, b1, a2, b2, w _ H (.of rs (.bl _) q)⟩
    · cases e
  · exact q.elim
end DL

/-! zip of two lists in a for loop -/
namespace DL
open PySem PySem.Spec L2
def zipD : List D → List D → List D
  | x :: xs, y :: ys => .tup [x, y] :: zipD xs ys
  | _, _ => []
theorem zipD_len : ∀ (xs ys : List D), (zipD xs ys).length = min xs.length ys.length
  | [], ys => by simp [zipD]
  | x :: xs, [] => by simp [zipD]
  | x :: xs, y :: ys => by
    rw [zipD, List.length_cons, List.length_cons, List.length_cons, zipD_len xs ys]
    omega
theorem zipD_get : ∀ (xs ys : List D) (j : Nat) (a b : D), xs[j]? = some a → ys[j]? = some b → (zipD xs ys)[j]? = some (.tup [a, b])
  | [], _, _, _, _, h, _ => by simp at h
  | _ :: _, [], _, _, _, _, h => by simp at h
  | x :: xs, y :: ys, 0, a, b, h, k => by
    simp at h k
    subst h k
    rfl
  | x :: xs, y :: ys, j + 1, a, b, h, k => by
    rw [zipD, List.getElem?_cons_succ]
    exact zipD_get xs ys j a b (by simpa using h) (by simpa using k)
def dZip (da : DTA) : DTI := fun env st R => da env st fun zs st1 => match zs with
  | [.ref j, .ref k] => match st1[j]?, st1[k]? with
    | some (.lst xs), some (.lst ys) => R (zipD xs ys) (fun st => st[j]? = some (.lst xs) ∧ st[k]? = some (.lst ys)) st1
    | _, _ => False
  | _ => False
theorem walks_zip [Bs] {K : PySem.W.Frag} {ρ : List Addr} {H : Hp} {a b : Addr} {ds es : List D} {ok : Store → Prop} (hq : ∀ ρ' H' st', Keep ρ ρ' H H' → RelS K ρ' H' st' → ok st' → ∃ vs ws, SqL K H' a vs ∧ Reps K ρ' H' ds vs ∧ SqL K H' b ws ∧ Reps K ρ' H' es ws) :
    WalksD K ρ H (Itz K a b) (zipD ds es) ok := by
  refine ⟨fun i ρ' H' st' hi k rs ho => ?_, fun i x ρ' H' H2 st' hi k rs ho y => ?_, fun i ρ' H' st' hi k rs ho => ?_⟩
  · rw [zipD_len] at hi
    obtain ⟨vs, ws, hs, hr, ht, hw⟩ := hq ρ' H' st' k rs ho
    obtain ⟨v, hv, _⟩ := hr.get (List.getElem?_eq_getElem (show i < ds.length by omega))
    obtain ⟨u, hu, _⟩ := hw.get (List.getElem?_eq_getElem (show i < es.length by omega))
    exact ⟨vs, ws, v, u, hs, ht, hv, hu⟩
  · rw [zipD_len] at hi
    obtain ⟨T, v, u, rfl, hT, rfl, hv, hu⟩ := y
    obtain ⟨vs, ws, hs, hr, ht, hw⟩ := hq ρ' H' st' k rs ho
    obtain ⟨v', hv', rv⟩ := hr.get (List.getElem?_eq_getElem (show i < ds.length by omega))
    obtain ⟨u', hu', ru⟩ := hw.get (List.getElem?_eq_getElem (show i < es.length by omega))
    have e := hv vs hs
    rw [hv'] at e
    cases e
    have e := hu ws ht
    rw [hu'] at e
    cases e
    have k2 : Keep ρ' ρ' H' (upd H' T (.tup [v, u])) := same_keep (same_tup hT)
    exact ⟨same_tup hT, _, zipD_get ds es i _ _ (List.getElem?_eq_getElem (by omega)) (List.getElem?_eq_getElem (by omega)), .tup (.inl (.inl upd_same)) (.cons (rv.keep k2) (.cons (ru.keep k2) .nil))⟩
  · rw [zipD_len] at hi
    obtain ⟨vs, ws, hs, hr, ht, hw⟩ := hq ρ' H' st' k rs ho
    refine ⟨vs, ws, hs, ht, ?_⟩
    rw [← hr.len, ← hw.len]
    omega
section
variable {X : Cx} {e e2 : Expr} {ta : TA} {da : DTA} {p pos tpos : Pos} {elts : List Expr} {kk : Nat}
theorem si_zip [Bs] {K : PySem.W.Frag} [hk : HasK X K] (hg : Gl X "zip") (hm : X.mg "zip" = none) (h : SA X [e, e2] ta da) (hs : starEach [e, e2] X.env = (false, eval e X.env) :: starEach [e2] X.env := by rfl) (hpl : (backTo pos (starEach [e2] X.env)).any (·.1) = false := by rfl) : SI X (.Tuple elts kk tpos) (.Call (.Name "zip" p) [e, e2] [] pos) (iZip K ta) (dZip da) := by
  obtain rfl := hk.eq
  refine ⟨pi_zip hg hm h.pa hs hpl, fun ρ env st σ H R W rs re q w => ?_⟩
  refine h.sim ρ env st σ H _ _ rs re q fun vs H1 ⟨ρ1, ds, st1, k1, r1, px, q1⟩ => ?_
  dsimp only at q1
  split at q1
  · rename_i j k
    obtain ⟨v, u, rfl, pv, pu⟩ := px.two
    obtain ⟨a, ha, rfl⟩ := rep_ref pv
    obtain ⟨b, hb, rfl⟩ := rep_ref pu
    split at q1
    · rename_i xs ys e1 e2
      obtain ⟨vs, hv, hr⟩ := r1.lst ha e1
      obtain ⟨ws, hw, hr2⟩ := r1.lst hb e2
      refine ⟨a, b, vs, ws, rfl, SqL.of hv, SqL.of hw, w _ H1 ρ1 _ _ st1 k1 r1 (walks_zip fun ρ' H' st' k' rs ho => ?_) q1⟩
      obtain ⟨vs', hv', hr'⟩ := rs.lst (k'.get ha) ho.1
      obtain ⟨ws', hw', hr2'⟩ := rs.lst (k'.get hb) ho.2
      exact ⟨vs', ws', SqL.of hv', hr', SqL.of hw', hr2'⟩
    · exact q1.elim
  · exact q1.elim
end
end DL

/-! operators of an own class, static methods, isinstance of an own class -/
namespace DL
open PySem PySem.Spec L2 XS
/-- what an operator asks of the class -/
structure OpI (K : PySem.W.Frag) (C : Addr) (m : Str) (f : Addr) : Prop where
  at_ : PySem.W.findIn K (.ref C) m = some (some (.ref f))
  fn : PySem.W.isFn K (.ref f) = true
structure OpN (K : PySem.W.Frag) (C : Addr) (m r : Str) : Prop where
  rr : PySem.W.findIn K (.ref C) r = some none
  l1 : ∃ fo, PySem.W.findIn K (.type "int") m = some fo
  l2 : ∃ ro, PySem.W.findIn K (.type "int") r = some ro
  sub : PySem.W.subIn K (.type "int") (.ref C) = some false
theorem ep_back {X : Cx} {pins : List (Addr × Obj)} {σ : L2.St} {Q : VK} {v : Value} {s' : Shared} (h : EP X pins σ Q v s') : PySem.W.CmpBack (EP X pins σ Q) v s' := by
  obtain ⟨z, H', I', r, q⟩ := h
  exact SlX.cmpback r ⟨z, H', I', r, q⟩
def tOpO (C : Addr) (sp : Sp) (E : L2.St → XK) (ta tb : TE) : TE := fun σ H Q => ta σ H fun x H1 => tb σ H1 fun y H2 => ∃ a dx fs b dy gs, x = .ref a ∧ y = .ref b ∧ H2 a = some (.ins C dx fs) ∧ H2 b = some (.ins C dy gs) ∧ sp [x, y] H2 Q (E σ)
def tOpI (C : Addr) (sp : Sp) (ta tb : TE) : TE := fun σ H Q => ta σ H fun x H1 => tb σ H1 fun y H2 => ∃ a dx fs i, x = .ref a ∧ y = .int i ∧ H2 a = some (.ins C dx fs) ∧ sp [x, y] H2 Q E0
def rUnO (C : Addr) (sp : Sp) : V → Hp → VK → Prop := fun x H Q => ∃ a dx fs, x = .ref a ∧ H a = some (.ins C dx fs) ∧ sp [x] H Q E0
section
variable {X : Cx} {CX : CXT} {op : Operator} {k : Nat} {C g : Addr} {cn m : Str} {fd : FuncData} {ps : List Str} {sp : Sp} {dsp : DSp} {dspx : DSpX} {pos apos : Pos} {a b o : Expr} {es : List Expr} {ta tb : TE} {da db : DTE} {W : WX} {Wd : DWX} {E : L2.St → XK}
theorem pe_opO (hc : PySem.W.selfFirst X.K C = true) (O : OpI X.K C (PySem.dunder op.info.2) g) (F : FnOk X.prog X.w X.K X.mg X.base CX k g fd ps sp) (hr : Room k X.A) (hb : Binds X.K fd ps []) (hx : ∀ σ, PassesAt CX X σ (E σ)) (ha : PE X a ta) (hbb : PE X b tb) :
    PE X (.BinOp a op b pos) (tOpO C sp E ta tb) := by
  refine ⟨fun pins s σ H Q I h => wpAny_BinOp (binT ha hbb I (R := fun x y H2 => ∃ a dx fs b dy gs, x = .ref a ∧ y = .ref b ∧ H2 a = some (.ins C dx fs) ∧ H2 b = some (.ins C dy gs) ∧ sp [x, y] H2 Q (E σ)) h fun v u s2 x y H2 I2 rx ry q => ?_)⟩
  obtain ⟨a', dx, fs, b', dy, gs, rfl, rfl, e1, e2, q⟩ := q
  cases (show v = Value.ref a' from rx)
  cases (show u = Value.ref b' from ry)
  obtain ⟨mA, O1, _⟩ := ins_get I2.hok e1
  obtain ⟨od, J, _⟩ := O1.look
  obtain ⟨mB, O2, _⟩ := ins_get I2.hok e2
  obtain ⟨od2, J2, _⟩ := O2.look
  obtain ⟨mm, fr⟩ := I2.fr
  refine PySem.W.binop_K fr I2.mod.kin J J2.type hc O.at_ O.fn ?_
  exact wpAny_mono (run_fnS F hr hb (hx σ) I2 (.cons rx (.cons ry .nil)) q) (fun _ _ z => ep_back z) fun _ _ z => z
theorem pe_opI (hc : PySem.W.selfFirst X.K C = true) (O : OpI X.K C (PySem.dunder op.info.2) g) (N : OpN X.K C (PySem.dunder op.info.2) (dunderR op.info.2)) (F : FnOk X.prog X.w X.K X.mg X.base CX0 k g fd ps sp) (hr : Room k X.A) (hb : Binds X.K fd ps []) (ha : PE X a ta) (hbb : PE X b tb) :
    PE X (.BinOp a op b pos) (tOpI C sp ta tb) := by
  refine ⟨fun pins s σ H Q I h => wpAny_BinOp (binT ha hbb I (R := fun x y H2 => ∃ a dx fs i, x = .ref a ∧ y = .int i ∧ H2 a = some (.ins C dx fs) ∧ sp [x, y] H2 Q E0) h fun v u s2 x y H2 I2 rx ry q => ?_)⟩
  obtain ⟨a', dx, fs, i, rfl, rfl, e1, q⟩ := q
  cases (show v = Value.ref a' from rx)
  obtain ⟨t, rfl⟩ := (show ∃ t, u = Value.int i t from ry)
  obtain ⟨mA, O1, _⟩ := ins_get I2.hok e1
  obtain ⟨od, J, _⟩ := O1.look
  obtain ⟨mm, fr⟩ := I2.fr
  obtain ⟨fo, hf⟩ := N.l1
  obtain ⟨ro, hro⟩ := N.l2
  refine PySem.W.ksp_binT (T := "int") fr I2.mod.kin J rfl hc O.at_ O.fn N.rr (.inl rfl) hf hro N.sub ?_
  have z := run_fn (E := E0) F hr hb .nil pass0 I2 (us := [Value.ref a', Value.int i t]) (vs := [V.ref a', V.int i]) (r := .cons rx (.cons ry .nil)) (by rw [List.append_nil]; exact q)
  exact wpAny_mono z (fun _ _ z => ep_back z) fun _ _ z => z
theorem un_own (O : OpI X.K C "__invert__" g) (F : FnOk X.prog X.w X.K X.mg X.base CX0 k g fd ps sp) (hr : Room k X.A) (hb : Binds X.K fd ps []) : UnR X (unaryOp .Invert) (rUnO C sp) := by
  intro pins s σ H x v Q I rx q
  obtain ⟨a', dx, fs, rfl, e1, q⟩ := q
  cases (show v = Value.ref a' from rx)
  obtain ⟨mA, O1, _⟩ := ins_get I.hok e1
  obtain ⟨od, J, _⟩ := O1.look
  obtain ⟨mm, fr⟩ := I.fr
  refine PySem.W.ksp_inv fr I.mod.kin J O.at_ O.fn ?_
  exact run_fn (E := E0) F hr hb .nil pass0 I (us := [Value.ref a']) (vs := [V.ref a']) (r := .cons rx .nil) (by rw [List.append_nil]; exact q)
/-! ### over data -/
def dOpOX (Wd : DWX) (cn : Str) (dspx : DSpX) (da db : DTE) : DTE := fun env st Q => da env st fun x st1 => db env st1 fun y st2 => match insOf st2 cn x, insOf st2 cn y with
  | some _, some _ => dspx [x, y] st2 Q fun e fs st3 => Wd e fs env st3
  | _, _ => False
def dOpOI (cn : Str) (dsp : DSp) (da db : DTE) : DTE := fun env st Q => da env st fun x st1 => db env st1 fun y st2 => match insOf st2 cn x, y with
  | some _, .int i => dsp [x, .int i] st2 Q
  | _, _ => False
def dUnO (cn : Str) (dsp : DSp) (da : DTE) : DTE := fun env st Q => da env st fun x st1 => match insOf st1 cn x with
  | some _ => dsp [x] st1 Q
  | none => False
variable {K : PySem.W.Frag}
theorem se_opOX [Bs] [hk : HasK X K] (T : ClsD K cn C) (tk : Takes X W) (wo : XOk K W Wd) (hc : PySem.W.selfFirst K C = true) (O : OpI K C (PySem.dunder op.info.2) g) (F : FnOk X.prog X.w K X.mg X.base (L2.CX X.prog X.w) k g fd ps (spXOf K dspx)) (hr : Room k X.A) (hb : Binds K fd ps []) (ha : SE X a ta da) (hbb : SE X b tb db) :
    SE X (.BinOp a op b pos) (tOpO C (spXOf K dspx) (WE W) ta tb) (dOpOX Wd cn dspx da db) := by
  obtain rfl := hk.eq
  refine ⟨pe_opO hc O F hr hb (fun σ => passAt tk σ) ha.pe hbb.pe, fun ρ env st σ H Q W' rs re q w => ?_⟩
  refine ha.sim ρ env st σ H _ _ rs re q fun xv H1 ⟨ρ1, dx, st1, k1, r1, px, q1⟩ => ?_
  refine hbb.sim ρ1 env st1 σ H1 _ _ r1 (re.keep k1) q1 fun yv H2 ⟨ρ2, dy, st2, k2, r2, py, q2⟩ => ?_
  dsimp only at q2
  split at q2
  · rename_i y1 y2 e1 e2
    obtain ⟨j1, fs1⟩ := y1
    obtain ⟨j2, fs2⟩ := y2
    have px' := px.keep k2
    obtain ⟨rfl, _, a', dx', vs, ha', rfl, hv, _, _⟩ := ins_at T r2 px' e1
    obtain ⟨rfl, _, b', dy', ws, hb', rfl, hv2, _, _⟩ := ins_at T r2 py e2
    refine ⟨a', dx', vs, b', dy', ws, rfl, rfl, hv, hv2, ?_⟩
    refine ⟨ρ2, [.ref j1, .ref j2], st2, Q, _, r2.dn, .cons px' (.cons py .nil), q2, fun v H' pq => w v H' (((PostE.up r2 pq).keep k2).keep k1), fun cls d H' hx => ?_⟩
    obtain ⟨ρ3, st3, x, fs, k3, r3, rx, e⟩ := hx
    exact wo ρ3 env st3 σ H' x fs cls d (r2.up k3 r3) (((re.keep k1).keep k2).keep k3) rx e
  · exact q2.elim
theorem se_opOI [Bs] [hk : HasK X K] (T : ClsD K cn C) (hc : PySem.W.selfFirst K C = true) (O : OpI K C (PySem.dunder op.info.2) g) (N : OpN K C (PySem.dunder op.info.2) (dunderR op.info.2)) (F : FnOk X.prog X.w K X.mg X.base CX0 k g fd ps (spOf K dsp)) (hr : Room k X.A) (hb : Binds K fd ps []) (ha : SE X a ta da) (hbb : SE X b tb db) :
    SE X (.BinOp a op b pos) (tOpI C (spOf K dsp) ta tb) (dOpOI cn dsp da db) := by
  obtain rfl := hk.eq
  refine ⟨pe_opI hc O N F hr hb ha.pe hbb.pe, fun ρ env st σ H Q W' rs re q w => ?_⟩
  refine ha.sim ρ env st σ H _ _ rs re q fun xv H1 ⟨ρ1, dx, st1, k1, r1, px, q1⟩ => ?_
  refine hbb.sim ρ1 env st1 σ H1 _ _ r1 (re.keep k1) q1 fun yv H2 ⟨ρ2, dy, st2, k2, r2, py, q2⟩ => ?_
  dsimp only at q2
  split at q2
  · rename_i y1 i e1
    obtain ⟨j1, fs1⟩ := y1
    have px' := px.keep k2
    obtain ⟨rfl, _, a', dx', vs, ha', rfl, hv, _, _⟩ := ins_at T r2 px' e1
    have ey := rep_int py
    subst ey
    refine ⟨a', dx', vs, i, rfl, rfl, hv, ?_⟩
    exact ⟨ρ2, [.ref j1, .int i], st2, Q, r2.dn, .cons px' (.cons py .nil), q2, fun v H' pq => w v H' (((PostE.up r2 pq).keep k2).keep k1)⟩
  · exact q2.elim
theorem se_unO [Bs] [hk : HasK X K] (T : ClsD K cn C) (O : OpI K C "__invert__" g) (F : FnOk X.prog X.w K X.mg X.base CX0 k g fd ps (spOf K dsp)) (hr : Room k X.A) (hb : Binds K fd ps []) (ha : SE X a ta da) :
    SE X (.UnaryOp .Invert a pos) (tUn (rUnO C (spOf K dsp)) ta) (dUnO cn dsp da) := by
  obtain rfl := hk.eq
  refine ⟨pe_un (un_own O F hr hb) ha.pe, fun ρ env st σ H Q W' rs re q w => ?_⟩
  refine ha.sim ρ env st σ H _ _ rs re q fun xv H1 ⟨ρ1, dx, st1, k1, r1, px, q1⟩ => ?_
  dsimp only at q1
  split at q1
  · rename_i y1 e1
    obtain ⟨j1, fs1⟩ := y1
    obtain ⟨rfl, _, a', dx', vs, ha', rfl, hv, _, _⟩ := ins_at T r1 px e1
    exact ⟨a', dx', vs, rfl, hv, ρ1, [.ref j1], st1, Q, r1.dn, .cons px .nil, q1, fun v H' pq => w v H' ((PostE.up r1 pq).keep k1)⟩
  · exact q1.elim
/-- o.m() -/
def dMeth0 (cn m : Str) (dsp : DSp) (dO : DTE) : DTE := fun env st Q => dO env st fun x st1 => match insOf st1 cn x with
  | some (_, fs) => fs.lookup m = none ∧ dsp [x] st1 Q
  | none => False
theorem se_meth0 [Bs] [hk : HasK X K] {pl : Sem Bool} {to : TE} {dO : DTE} (T : ClsD K cn C) (hm : Meth K C m g) (F : FnOk X.prog X.w K X.mg X.base CX0 k g fd ps (spOf K dsp)) (hr : Room k X.A) (hb : Binds K fd ps []) (ho : SE X o to dO)
    (ht : eval (.Call (.Attribute o m apos) [] [] pos) X.env = (do
      let ov ← eval o X.env
      standAt apos.atName
      let (f, first) ← holding [ov] (getMethod ov m pl)
      callWith pos f first (backTo pos (starEach [] X.env)) (backToKw pos (keywordEach [] X.env))) := by rfl) :
    SE X (.Call (.Attribute o m apos) [] [] pos) (tMeth C m (spOf K dsp) [] E0 to tNil) (dMeth0 cn m dsp dO) := by
  obtain rfl := hk.eq
  refine ⟨pe_meth0 ho.pe T.cls hm F hr hb .nil pass0 ht, fun ρ env st σ H Q W rs re q w => ?_⟩
  refine ho.sim ρ env st σ H _ _ rs re q fun v H1 ⟨ρ1, d1, st1, k1, r1, p1, q1⟩ => ?_
  dsimp only at q1
  split at q1
  · rename_i j fs e
    obtain ⟨rfl, e2, a', dx, vs, hadd, rfl, hv, hnm, hr⟩ := ins_at T r1 p1 e
    refine ⟨a', dx, vs, rfl, hv, (fs_lookup hnm hr).2 q1.1, ?_⟩
    exact ⟨ρ1, [.ref j], st1, Q, r1.dn, .cons p1 .nil, q1.2, fun v H' pq => w v H' ((PostE.up r1 pq).keep k1)⟩
  · exact q1.elim
end
/-! ### static methods -/
structure StC (K : PySem.W.Frag) (C : Addr) : Prop where
  rd : PySem.W.readsIn K C (.type "type") = true
  ga : PySem.W.specialIn K (.ref C) "__getattribute__" = some (some (.builtin "type.__getattribute__"))
structure StM (K : PySem.W.Frag) (C : Addr) (m : Str) (p g : Addr) : Prop where
  at_ : PySem.W.findCls K (.ref C) (.type "type") m = some (.get (.builtin "staticmethod.__get__") (.ref p) .none (.ref C))
  rc : ∃ rest, PySem.W.recIn K p "staticmethod" = some (.ref g :: rest)
theorem getmeth_st {X : Cx} {pins : List (Addr × Obj)} {σ : L2.St} {H : Hp} {s : Shared} {C p g : Addr} {m : Str} {A : Around} {E : Value → Shared → Prop} {pl : Sem Bool} {Q : Value × List Value → Shared → Prop} (I : Inv X pins σ H s) (c : StC X.K C) (k : StM X.K C m p g)
    (h : ∀ s', Inv X pins σ H s' → Q (.ref g, []) s') : wpAny (model X.prog X.w) A (getMethod (.ref C) m pl) Q E s := by
  obtain ⟨rest, hp⟩ := k.rc
  refine PySem.W.method_cls I.kIn c.ga (PySem.W.cls_bind I.kIn c.rd k.at_ ?_)
  exact wpAny_call (PySem.W.sm_get (s := { s with toks := s.toks + 1 }) I.kIn hp (PySem.W.handed_on rfl (h _ (I.tok _))))
def dCallG (n m : Nat) (dsp : DSp) (gd : List D → List D → List D) (da dk : DTA) : DTE := fun env st Q => da env st fun ds st1 => dk env st1 fun zs st2 => ds.length = n ∧ zs.length = m ∧ dsp (gd ds zs) st2 Q
section
variable {X : Cx} {K : PySem.W.Frag} {k n : Nat} {C pa g : Addr} {cn m : Str} {fd : FuncData} {ps ks : List Str} {dsp : DSp} {pos apos p : Pos} {e : Expr} {es : List Expr} {kws : List Keyword} {t tk : TA} {da dk : DTA} {pl : Sem Bool} {gv : List Value → List Value → List Value} {gV : List V → List V → List V} {gd : List D → List D → List D}
theorem pe_stat {sp : Sp} (c : StC X.K C) (M : StM X.K C m pa g) (hk : PySem.W.keepIn X.K (.ref g) = true) (F : FnOk X.prog X.w X.K X.mg X.base CX0 k g fd ps sp) (hr : Room k X.A) (hg : Gl X cn) (hm : X.mg cn = some (.ref C)) (hb : Binds X.K fd ps []) (ha : PA X (e :: es) t)
    (hdb : (cn == ("__debug__" : Str)) = false) (hst : starEach (e :: es) X.env = (false, eval e X.env) :: starEach es X.env) (hpl : (backTo pos (starEach es X.env)).any (·.1) = false)
    (ht : eval (.Call (.Attribute (.Name cn p) m apos) (e :: es) [] pos) X.env = (do
      let ov ← eval (.Name cn p) X.env
      standAt apos.atName
      let (f, first) ← holding [ov] (getMethod ov m pl)
      callWith pos f first (backTo pos (starEach (e :: es) X.env)) (backToKw pos (keywordEach [] X.env)))) :
    PE X (.Call (.Attribute (.Name cn p) m apos) (e :: es) [] pos) (tCall sp [] E0 t) := by
  refine ⟨fun pins s σ H Q I h => ?_⟩
  refine PySem.W.methodCall_KW (pl := pl) (thn ((pe_glob (pos := p) (v := V.ref C) hg hm (rfl : RelV (V.ref C) (Value.ref C)) hdb).run pins s σ H (fun y H1 => y = V.ref C ∧ t σ H1 fun vs H2 => sp (vs ++ []) H2 Q E0) I ⟨rfl, h⟩) fun u s1 ⟨x, H1, I1, rx, ex, q⟩ => ?_) ht
  subst ex
  obtain rfl : u = Value.ref C := rx
  refine getmeth_st I1 c M fun s2 I2 => ?_
  refine PySem.W.callWith_K (first := []) (h₀ := X.base) I.ok.mod.kin hk (thn (ha.run pos pins s2 σ H1 _ I2 q) fun us s3 ⟨vs, H2, I3, r, q2⟩ => ⟨I3.kIn, ?_⟩) hst hpl
  exact run_fn (us := us) F hr hb .nil pass0 I3 r q2
theorem se_stat [Bs] [hK : HasK X K] (c : StC K C) (M : StM K C m pa g) (F : FnOk X.prog X.w K X.mg X.base CX0 k g fd ps (spOf K dsp)) (hr : Room k X.A) (hg : Gl X cn) (hm : X.mg cn = some (.ref C)) (hk : PySem.W.keepIn K (.ref g) = true) (hb : Binds K fd ps []) (ha : SA X (e :: es) t da)
    (hdb : (cn == ("__debug__" : Str)) = false := by decide) (hst : starEach (e :: es) X.env = (false, eval e X.env) :: starEach es X.env := by rfl) (hpl : (backTo pos (starEach es X.env)).any (·.1) = false := by rfl)
    (ht : eval (.Call (.Attribute (.Name cn p) m apos) (e :: es) [] pos) X.env = (do
      let ov ← eval (.Name cn p) X.env
      standAt apos.atName
      let (f, first) ← holding [ov] (getMethod ov m pl)
      callWith pos f first (backTo pos (starEach (e :: es) X.env)) (backToKw pos (keywordEach [] X.env))) := by rfl) :
    SE X (.Call (.Attribute (.Name cn p) m apos) (e :: es) [] pos) (tCall (spOf K dsp) [] E0 t) (dCall dsp da) := by
  obtain rfl := hK.eq
  exact ⟨pe_stat c M hk F hr hg hm hb ha.pa hdb hst hpl ht, sim_call ha.sim⟩
theorem pe_statK {sp : Sp} (c : StC X.K C) (M : StM X.K C m pa g) (hk : PySem.W.keepIn X.K (.ref g) = true) (F : FnOk X.prog X.w X.K X.mg X.base CX0 k g fd ps sp) (hr : Room k X.A) (hg : Gl X cn) (hm : X.mg cn = some (.ref C)) (hb : KBn X.K fd ps n ks gv gV) (ha : PA X (e :: es) t) (hkw : PK X kws tk)
    (hall : (backToKw pos (keywordEach kws X.env)).all (·.1.isSome) = true) (hks : (backToKw pos (keywordEach kws X.env)).filterMap (·.1) = ks)
    (hdb : (cn == ("__debug__" : Str)) = false) (hst : starEach (e :: es) X.env = (false, eval e X.env) :: starEach es X.env) (hpl : ((backTo pos (starEach (e :: es) X.env)).any (·.1) || (backToKw pos (keywordEach kws X.env)).any (·.1.isNone)) = false)
    (ht : eval (.Call (.Attribute (.Name cn p) m apos) (e :: es) kws pos) X.env = (do
      let ov ← eval (.Name cn p) X.env
      standAt apos.atName
      let (f, first) ← holding [ov] (getMethod ov m pl)
      callWith pos f first (backTo pos (starEach (e :: es) X.env)) (backToKw pos (keywordEach kws X.env)))) :
    PE X (.Call (.Attribute (.Name cn p) m apos) (e :: es) kws pos) (tCallN n ks.length sp gV E0 t tk) := by
  refine ⟨fun pins s σ H Q I h => ?_⟩
  refine PySem.W.methodCall_KW (pl := pl) (thn ((pe_glob (pos := p) (v := V.ref C) hg hm (rfl : RelV (V.ref C) (Value.ref C)) hdb).run pins s σ H (fun y H1 => y = V.ref C ∧ t σ H1 fun vs H2 => tk σ H2 fun zs H3 => vs.length = n ∧ zs.length = ks.length ∧ sp (gV vs zs) H3 Q E0) I ⟨rfl, h⟩) fun u s1 ⟨x, H1, I1, rx, ex, q⟩ => ?_) ht
  subst ex
  obtain rfl : u = Value.ref C := rx
  refine getmeth_st I1 c M fun s2 I2 => ?_
  refine PySem.W.callWith_KW (first := []) (h₀ := X.base) I.ok.mod.kin hk hall (thn (ha.run pos pins s2 σ H1 _ I2 q) fun us s3 ⟨vs, H2, I3, r, q2⟩ => ?_) hpl hst
  refine thn (hkw.run pos pins s3 σ H2 _ I3 q2) fun ws s4 ⟨zs, H3, I4, rz, l1, l2, q3⟩ => ⟨I4.kIn, ?_⟩
  rw [hks]
  exact run_fnN (us := us) F hr hb pass0 I4 r rz l1 l2 q3
theorem se_statK [Bs] [hK : HasK X K] (c : StC K C) (M : StM K C m pa g) (F : FnOk X.prog X.w K X.mg X.base CX0 k g fd ps (spOf K dsp)) (hr : Room k X.A) (hg : Gl X cn) (hm : X.mg cn = some (.ref C)) (hk : PySem.W.keepIn K (.ref g) = true) (hb : KBn K fd ps n ks gv gV)
    (hrel : ∀ ρ H ds dz vs zs, Reps K ρ H ds vs → Reps K ρ H dz zs → Reps K ρ H (gd ds dz) (gV vs zs)) (ha : SA X (e :: es) t da) (hkw : SK X kws tk dk)
    (hall : (backToKw pos (keywordEach kws X.env)).all (·.1.isSome) = true := by rfl) (hks : (backToKw pos (keywordEach kws X.env)).filterMap (·.1) = ks := by rfl)
    (hdb : (cn == ("__debug__" : Str)) = false := by decide) (hst : starEach (e :: es) X.env = (false, eval e X.env) :: starEach es X.env := by rfl) (hpl : ((backTo pos (starEach (e :: es) X.env)).any (·.1) || (backToKw pos (keywordEach kws X.env)).any (·.1.isNone)) = false := by rfl)
    (ht : eval (.Call (.Attribute (.Name cn p) m apos) (e :: es) kws pos) X.env = (do
      let ov ← eval (.Name cn p) X.env
      standAt apos.atName
      let (f, first) ← holding [ov] (getMethod ov m pl)
      callWith pos f first (backTo pos (starEach (e :: es) X.env)) (backToKw pos (keywordEach kws X.env))) := by rfl) :
    SE X (.Call (.Attribute (.Name cn p) m apos) (e :: es) kws pos) (tCallN n ks.length (spOf K dsp) gV E0 t tk) (dCallG n ks.length dsp gd da dk) := by
  obtain rfl := hK.eq
  refine ⟨pe_statK c M hk F hr hg hm hb ha.pa hkw.pk hall hks hdb hst hpl ht, fun ρ env st σ H Q W rs re q w => ?_⟩
  refine ha.sim ρ env st σ H _ _ rs re q fun xs H1 ⟨ρ1, ds, st1, k1, r1, px, q1⟩ => ?_
  refine hkw.sim ρ1 env st1 σ H1 _ _ r1 (re.keep k1) q1 fun zs H2 ⟨ρ2, dz, st2, k2, r2, pz, q2⟩ => ?_
  exact ⟨px.len.symm.trans q2.1, pz.len.symm.trans q2.2.1, ρ2, gd ds dz, st2, Q, r2.dn, hrel _ _ _ _ _ _ (px.keep k2) pz, q2.2.2, fun v H' pq => w v H' (((PostE.up r2 pq).keep k2).keep k1)⟩
/-! ### isinstance(x, C), C an own class, x of it -/
structure IsiC (K : PySem.W.Frag) (C : Addr) : Prop where
  ca : PySem.W.findIn K (.ref C) "__class__" = some (some (.builtin "object.__class__"))
  sg : PySem.W.specialIn K (.builtin "object.__class__") "__get__" = some (some (.builtin "getset_descriptor.__get__"))
  tk : PySem.W.takesIn K (.builtin "object.__class__") = some true
  ob : PySem.W.mroIn K C (.type "object") = some true
  me : PySem.W.mroIn K C (.ref C) = some true
theorem IsiC.kit {K : PySem.W.Frag} {C : Addr} (h : IsiC K C) : PySem.W.kitOne K (.ref C) (.ref C) = some true := by
  unfold PySem.W.kitOne
  rw [if_pos (by simp)]
def dIsO (cn : Str) (de : DTE) : DTE := fun env st Q => de env st fun x st1 => match insOf st1 cn x with
  | some _ => Q (.bl true) st1
  | none => False
theorem se_isO [Bs] [hK : HasK X K] {x2 : Expr} {te : TE} {de : DTE} {p2 : Pos} (T : ClsD K cn C) (S : IsiC K C) (hg : Gl X "isinstance") (hm : X.mg "isinstance" = none) (hgc : Gl X cn) (hmc : X.mg cn = some (.ref C)) (he : SE X x2 te de)
    (hdb : (cn == ("__debug__" : Str)) = false := by decide) (hs : starEach [x2, .Name cn p2] X.env = (false, eval x2 X.env) :: starEach [.Name cn p2] X.env := by rfl) (hs2 : starEach [.Name cn p2] X.env = (false, eval (.Name cn p2) X.env) :: starEach [] X.env := by rfl)
    (hpl : (backTo pos (starEach [.Name cn p2] X.env)).any (·.1) = false := by rfl) :
    SE X (.Call (.Name "isinstance" p) [x2, .Name cn p2] [] pos) (tCB (rIsi K) (tCons te (tCons (tC (.ref C)) tNil))) (dIsO cn de) := by
  obtain rfl := hK.eq
  refine ⟨pe_callB call_isi hg hm (by decide +kernel) (pa_cons he.pe (pa_cons (pe_glob (pos := p2) (v := V.ref C) hgc hmc (rfl : RelV (V.ref C) (Value.ref C)) hdb) pa_nil hs2) hs) (by decide) (by decide) hs hpl, fun ρ env st σ H Q W rs re q w => ?_⟩
  refine he.sim ρ env st σ H _ _ rs re q fun xv H1 ⟨ρ1, dv, st1, k1, r1, p1, q1⟩ => ?_
  dsimp only at q1
  split at q1
  · rename_i y e
    obtain ⟨j, fs⟩ := y
    obtain ⟨rfl, e2, a', dx, vs, hadd, rfl, hv, hnm, hr⟩ := ins_at T r1 p1 e
    exact ⟨.ref a', .ref C, .ref C, .ref C, true, rfl, .own C, .base (.ins hv T.cls S.ca S.sg S.tk S.ob), S.kit, w _ H1 ⟨ρ1, .bl true, st1, k1, r1, .bl _, q1⟩⟩
  · exact q1.elim
end
end DL

/-! LS: sets of letters (tuples of a text and ints), as a comprehension makes them, and their sorted lists -/
namespace LS
open PySem PySem.Spec PyProof.Rows L2
abbrev Lk := List Key
abbrev Mem := Addr × Lk
abbrev hv (pg : Program) (wd : World) (k : Lk) : Int := tupleKeyHash (mixKind pg wd) k
abbrev Tk (pg : Program) (wd : World) (hp : Heap) (k : Lk) (b : Addr) : Prop := IsTupleKey (mixKind pg wd) hp k b
section
variable {pg : Program} {wd : World} {ar : Around} {er : Value → Shared → Prop} {sh : Shared}
def Plainv (v : Value) : Prop := (∃ i t, v = Value.int i t) ∨ ∃ x t, v = Value.str x t
theorem plainv_of {k : Lk} {vs : List Value} (hi : ItemsAre (mixKind pg wd) k vs) : ∀ v ∈ vs, Plainv v := by
  induction hi with
  | nil =>
    intro v hv
    cases hv
  | cons h1 _ ih =>
    intro v hm
    rcases List.mem_cons.mp hm with e | hm
    · subst e
      rcases keyIs_shape h1 with ⟨i, t, _, e⟩ | ⟨x, t, _, e⟩
      · exact .inl ⟨i, t, e⟩
      · exact .inr ⟨x, t, e⟩
    · exact ih v hm
theorem noClass {v : Value} (h : Plainv v) (n : Nat) : ofAClassStatement n v = pure false := by
  rcases h with ⟨i, t, rfl⟩ | ⟨x, t, rfl⟩ <;> cases n <;> rfl
theorem byVal {v : Value} (h : Plainv v) (n : Nat) : ∃ b, hashByValue n v = pure b := by
  rcases h with ⟨i, t, rfl⟩ | ⟨x, t, rfl⟩
  · exact ⟨true, by cases n <;> rfl⟩
  · exact ⟨false, by cases n <;> rfl⟩
/-- a letter is of no class statement -/
theorem noClassT {k : Lk} {b : Addr} {R : Bool → Shared → Prop} (hk : Tk pg wd sh.heap k b) (q : R false sh) : wpAny (model pg wd) ar (ofAClassStatement 8 (.ref b)) R er sh := by
  have tt := hk.typeIs
  obtain ⟨ob, its, num, go, _, gd, gi⟩ := hk
  unfold ofAClassStatement
  refine wpAny_bind (wpAny_typeOf tt ?_)
  dsimp only
  have ee : (("tuple" : String) == "tuple") = true := rfl
  simp only [ee, if_true, Bool.not_true, Bool.false_eq_true, if_false]
  refine wpAny_bind (wpAny_pure ?_)
  simp only [Bool.not_true, Bool.false_eq_true, if_false]
  refine wpAny_bind (wpAny_seqItems go gd ?_)
  dsimp only
  refine wpAny_bind ?_
  rw [← Array.forIn_toList]
  refine wpAny_forIn_list _ (fun more st z => st.1 = none ∧ z = sh ∧ ∀ v ∈ more, Plainv v) _ ?_ ?_ _ _ ⟨rfl, rfl, plainv_of gi⟩
  · rintro v more st z ⟨e1, rfl, all⟩
    rw [noClass (all v List.mem_cons_self)]
    refine wpAny_bind (wpAny_pure ?_)
    simp only [Bool.false_eq_true, if_false]
    exact wpAny_pure ⟨rfl, rfl, fun y hy => all y (List.mem_cons_of_mem _ hy)⟩
  · rintro ⟨a1, a2⟩ z ⟨e1, rfl, _⟩
    dsimp only at e1
    subst e1
    exact wpAny_pure q
/-- whether its hash is of its value: some answer -/
theorem byValT {k : Lk} {b : Addr} {R : Bool → Shared → Prop} (hk : Tk pg wd sh.heap k b) (q : ∀ r, R r sh) : wpAny (model pg wd) ar (hashByValue 8 (.ref b)) R er sh := by
  have tt := hk.typeIs
  obtain ⟨ob, its, num, go, _, gd, gi⟩ := hk
  unfold hashByValue
  refine wpAny_bind (wpAny_specialOf tt F.slot_tuple_hash.lookup ?_)
  refine wpAny_bind (wpAny_seqItems go gd ?_)
  refine wpAny_bind ?_
  rw [← Array.forIn_toList]
  refine wpAny_forIn_list _ (fun more st z => (st.1 = none ∨ ∃ r, st.1 = some r) ∧ z = sh ∧ ∀ v ∈ more, Plainv v) _ ?_ ?_ _ _ ⟨.inl rfl, rfl, plainv_of gi⟩
  · rintro v more st z ⟨e1, rfl, all⟩
    obtain ⟨r, er⟩ := byVal (all v List.mem_cons_self) 7
    rw [er]
    refine wpAny_bind (wpAny_pure ?_)
    cases r with
    | true =>
      simp only [Bool.not_true, Bool.false_eq_true, if_false]
      exact wpAny_pure ⟨.inl rfl, rfl, fun y hy => all y (List.mem_cons_of_mem _ hy)⟩
    | false =>
      simp only [Bool.not_false, if_true]
      exact wpAny_pure (wpAny_pure (q _))
  · rintro ⟨a1, a2⟩ z ⟨e1, rfl, _⟩
    dsimp only at e1
    rcases e1 with e1 | ⟨r, e1⟩
    · subst e1
      exact wpAny_pure (q _)
    · subst e1
      exact wpAny_pure (q _)
/-- looking among letters shows nothing -/
theorem unseen {k : Lk} {b : Addr} {R : Bool → Shared → Prop} (hk : Tk pg wd sh.heap k b) {them : List Value} (hm : ∀ y ∈ them, ∃ k' c, y = Value.ref c ∧ Tk pg wd sh.heap k' c) (q : R false sh) :
    wpAny (model pg wd) ar (searchCouldBeSeen (.ref b) them) R er sh := by
  unfold searchCouldBeSeen
  refine wpAny_bind ?_
  refine wpAny_forIn_list _ (fun more st z => st.1 = none ∧ z = sh ∧ ∀ y ∈ more, ∃ k' c, y = Value.ref c ∧ Tk pg wd sh.heap k' c) _ ?_ ?_ _ _ ⟨rfl, rfl, hm⟩
  · rintro v more st z ⟨e1, rfl, all⟩
    have all' := fun y hy => all y (List.mem_cons_of_mem v hy)
    obtain ⟨k', c, rfl, hc⟩ := all v List.mem_cons_self
    dsimp only
    by_cases one : (b == c || (carriedByValue (.ref b) && carriedByValue (.ref c))) = true
    · exact wp_if_pos one (wpAny_pure ⟨rfl, rfl, all'⟩)
    · refine wp_if_neg one (wpAny_bind (wpAny_eqIsQuiet_tuple hk ?_))
      simp only [Bool.not_true, Bool.false_eq_true, if_false]
      refine wpAny_bind (wpAny_eqIsQuiet_tuple hc ?_)
      simp only [Bool.not_true, Bool.false_eq_true, if_false]
      refine wpAny_bind (noClassT hk ?_)
      simp only [Bool.false_eq_true, if_false]
      refine wpAny_bind (noClassT hc ?_)
      simp only [Bool.false_eq_true, if_false]
      exact wpAny_pure ⟨rfl, rfl, all'⟩
  · rintro ⟨a1, a2⟩ z ⟨e1, rfl, _⟩
    dsimp only at e1
    subst e1
    exact wpAny_pure q
end
def rowOf (pg : Program) (wd : World) (ms : List Mem) : List (Int × Value) := ms.map fun m => (hv pg wd m.2, Value.ref m.1)
/-- the set at a holds these letters -/
structure LSet (pg : Program) (wd : World) (hp : Heap) (a : Addr) (ms : List Mem) (rs : Array (Int × Value)) (num : Nat) (tb : SetTable) : Prop where
  obj : ∃ ob, hp.get? a = some ob ∧ ob.ExactSet ∧ ob.data = .set rs num tb
  row : rs.toList = rowOf pg wd ms
  tab : TabOk tb (ms.map fun m => hv pg wd m.2)
  dif : (ms.map (·.2)).Nodup
  tup : ∀ m ∈ ms, Tk pg wd hp m.2 m.1
  led : wd.params.followText "set-order" = true ∨ tb.led = true
  room : ms.length * 5 < tb.mask * 3
  few : ms.length < 64
section
variable {pg : Program} {wd : World} {ar : Around} {er : Value → Shared → Prop} {sh : Shared} {a : Addr} {ms : List Mem} {rs : Array (Int × Value)} {num : Nat} {tb : SetTable}
theorem len_row (pg : Program) (wd : World) (ms : List Mem) {rs : Array (Int × Value)} (h : rs.toList = rowOf pg wd ms) : rs.size = ms.length := by
  have := congrArg List.length h
  rwa [Array.length_toList, rowOf, List.length_map] at this
theorem LSet.sz (S : LSet pg wd sh.heap a ms rs num tb) : rs.size = ms.length := len_row pg wd ms S.row
theorem fits_of {n : Nat} (h1 : tb.place.size = n) (h2 : tb.dummies = #[]) (h3 : n ≤ tb.mask) : tb.fits n = true := by
  unfold SetTable.fits SetTable.fill
  rw [h2, Bool.and_eq_true, beq_iff_eq, decide_eq_true_eq]
  exact ⟨h1, by rw [h1]; exact h3⟩
theorem LSet.fit (S : LSet pg wd sh.heap a ms rs num tb) : tb.fits rs.size = true := by
  have h1 := S.tab.sz
  have h3 := S.room
  rw [List.length_map, ← S.sz] at h1
  rw [← S.sz] at h3
  exact fits_of h1 S.tab.dm (by omega)
theorem LSet.at (S : LSet pg wd sh.heap a ms rs num tb) {i : Nat} {m : Mem} (h : ms[i]? = some m) : rs[i]? = some (hv pg wd m.2, Value.ref m.1) := by
  have e1 : rs.toList[i]? = some (hv pg wd m.2, Value.ref m.1) := by
    rw [S.row, rowOf, List.getElem?_map, h]
    rfl
  rwa [Array.getElem?_toList] at e1
theorem LSet.ways (S : LSet pg wd sh.heap a ms rs num tb) : ¬ tb.gaveWay = true := by
  have := mask_odd S.tab.mok
  unfold SetTable.gaveWay
  rw [this]
  decide
abbrev beg (m : Nat) (h : Int) : SetTable.Probe := runAt m (SetTable.bits h % (m + 1)) (SetTable.bits h)
theorem no_dummy (m : Nat) : ∀ (n : Nat) (p : SetTable.Probe), p.dummy = none → (nth m p n).dummy = none
  | 0, _, h => h
  | n + 1, p, h => no_dummy m n (adv m p) (by
    unfold adv
    split <;> exact h)
/-- the search for a letter, from the c-th step of its way on -/
theorem look (S : LSet pg wd sh.heap a ms rs num tb) {x : Addr} {k : Lk} (hx : Tk pg wd sh.heap k x) (hu : ar.units < cLine) {N : Nat} (n1 : N < 10 * SetTable.turns tb.mask)
    (n2 : way tb.mask (hv pg wd k) N ∉ tb.place.toList) (n3 : ∀ c, c < N → way tb.mask (hv pg wd k) c ∈ tb.place.toList) {R : SetFound → Shared → Prop}
    (yes : k ∈ ms.map (·.2) → R (.there none) sh) (no : k ∉ ms.map (·.2) → R (.free (way tb.mask (hv pg wd k) N) false) sh) :
    ∀ (f c : Nat) (from? : Option SetTable.Probe), from?.getD (tb.probeStart (hv pg wd k)) = nth tb.mask (beg tb.mask (hv pg wd k)) c → c ≤ N → N - c < f →
      (∀ (i : Nat) m, ms[i]? = some m → m.2 = k → ∃ c', c ≤ c' ∧ c' < N ∧ tb.place.toList[i]? = some (way tb.mask (hv pg wd k) c')) →
      wpAny (model pg wd) ar (setSearchFrom a (.ref x) (hv pg wd k) true f from?) R er sh
  | 0, c, from?, _, _, hf, _ => absurd hf (Nat.not_lt_zero _)
  | f + 1, c, from?, hst, hc, hf, hre => by
    obtain ⟨ob, go, gx, gd⟩ := S.obj
    rw [setSearchFrom_succ]
    refine wpAny_bind (wpAny_setState_of go gd S.fit ?_)
    dsimp only
    refine wp_if_neg S.ways (wpAny_bind (wpAny_pure ?_))
    have join : ∀ q, nth tb.mask (nth tb.mask (beg tb.mask (hv pg wd k)) c) q = nth tb.mask (beg tb.mask (hv pg wd k)) (c + q) := fun q => (nth_add tb.mask c _ q).symm
    have wy : ∀ q, (nth tb.mask (nth tb.mask (beg tb.mask (hv pg wd k)) c) q).j = way tb.mask (hv pg wd k) (c + q) := fun q => by rw [join]
    have hs : ∀ (i : Nat) m, ms[i]? = some m → ((rs[i]?.map (·.1)).getD 0) = hv pg wd m.2 := fun i m hm => by
      rw [S.at hm]
      rfl
    rcases go_spec tb S.tab.ris S.tab.dm (fun i => (rs[i]?.map (·.1)).getD 0) (hv pg wd k) (10 * SetTable.turns tb.mask) (N - c) _ (no_dummy tb.mask c _ rfl) (by omega)
      (fun q hq => by rw [wy]; exact n3 _ (by omega)) (by rw [wy, Nat.add_sub_cancel' hc]; exact n2) with ⟨q, i, hq, hi, hh, hno, hpr⟩ | ⟨hno, hpr⟩
    · rw [wy] at hi
      have e1 : tb.probe (fun i => (rs[i]?.map (·.1)).getD 0) (hv pg wd k) (from?.getD (tb.probeStart (hv pg wd k))) = some (.candidate (way tb.mask (hv pg wd k) (c + q)) i (nth tb.mask (beg tb.mask (hv pg wd k)) (c + (q + 1)))) := by
        rw [hst, ← wy, ← join]
        exact hpr
      rw [e1]
      dsimp only
      have il : i < ms.length := by
        have h1 := (List.getElem?_eq_some_iff.mp hi).1
        have h2 := S.tab.sz
        rw [List.length_map] at h2
        rw [Array.length_toList] at h1
        omega
      obtain ⟨m, hm⟩ : ∃ m, ms[i]? = some m := ⟨_, List.getElem?_eq_getElem il⟩
      have hmm := List.mem_of_getElem? hm
      have slot : tb.slot (way tb.mask (hv pg wd k) (c + q)) = .live i := slot_live S.tab.ris hi
      have tail : wpAny (model pg wd) ar (searchRest a (.ref x) (hv pg wd k) true f rs tb (way tb.mask (hv pg wd k) (c + q)) i (nth tb.mask (beg tb.mask (hv pg wd k)) (c + (q + 1)))) R er sh := by
        unfold searchRest
        rw [S.at hm]
        dsimp only
        refine wpAny_bind (wpAny_holding (wpAny_eqBool_tuple hu (S.tup m hmm) hx ?_))
        refine wpAny_bind (wpAny_setState_of go gd S.fit ?_)
        dsimp only
        by_cases same : m.2 = k
        · exact wp_if_pos (by simp [same]) (wpAny_pure (yes (List.mem_map.mpr ⟨m, hmm, same⟩)))
        · refine wp_if_neg (by simp [same]) (wpAny_bind (wpAny_pure ?_))
          rw [sameMem]
          dsimp only
          simp only [if_true, slot, S.at hm]
          refine wpAny_bind (wpAny_isSame_ref_self (wpAny_bind (wpAny_pure ?_)))
          simp only [if_true]
          refine wp_if_neg (by simp [same]) ?_
          refine look S hx hu n1 n2 n3 yes no f (c + (q + 1)) _ rfl (by omega) (by omega) fun i0 m0 h0 k0 => ?_
          obtain ⟨c', g1, g2, g3⟩ := hre i0 m0 h0 k0
          refine ⟨c', Classical.byContradiction fun z => ?_, g2, g3⟩
          by_cases z2 : c' = c + q
          · subst z2
            have z3 := slot_live S.tab.ris g3
            rw [slot] at z3
            injection z3 with z3
            rw [← z3, hm] at h0
            cases h0
            exact same k0
          · refine hno (c' - c) i0 (by omega) ?_ ?_
            · rw [wy, Nat.add_sub_cancel' g1]
              exact g3
            · show ((rs[i0]?.map (·.1)).getD 0) = _
              rw [hs i0 m0 h0, k0]
      by_cases l1 : tb.led = true
      · exact wp_if_neg (by simp [l1]) (wpAny_bind (wpAny_pure tail))
      · refine wp_if_pos (by simp [l1]) (wpAny_bind (unseen hx (fun y hy => ?_) (wp_if_neg (by decide) (wpAny_bind (wpAny_pure tail)))))
        obtain ⟨r, hr, rfl⟩ := List.mem_map.mp hy
        have h1 : r ∈ rs ∧ r.1 = hv pg wd k := by simpa using hr
        have h2 : r ∈ rs.toList := by simpa using h1.1
        rw [S.row] at h2
        obtain ⟨m2, hm2, rfl⟩ := List.mem_map.mp h2
        exact ⟨m2.2, m2.1, rfl, S.tup m2 hm2⟩
    · have e1 : tb.probe (fun i => (rs[i]?.map (·.1)).getD 0) (hv pg wd k) (from?.getD (tb.probeStart (hv pg wd k))) = some (.empty (way tb.mask (hv pg wd k) N) none) := by
        have := wy (N - c)
        rw [Nat.add_sub_cancel' hc] at this
        rw [hst, ← this]
        exact hpr
      rw [e1]
      dsimp only
      refine wpAny_pure (no fun hm => ?_)
      obtain ⟨m0, hm0, k0⟩ := List.mem_map.mp hm
      obtain ⟨i0, hi0, e0⟩ := List.getElem_of_mem hm0
      have h0 : ms[i0]? = some m0 := by rw [List.getElem?_eq_getElem hi0, e0]
      obtain ⟨c', g1, g2, g3⟩ := hre i0 m0 h0 k0
      refine hno (c' - c) i0 (by omega) ?_ ?_
      · rw [wy, Nat.add_sub_cancel' g1]
        exact g3
      · show ((rs[i0]?.map (·.1)).getD 0) = _
        rw [hs i0 m0 h0, k0]
theorem find (S : LSet pg wd sh.heap a ms rs num tb) {x : Addr} {k : Lk} (hx : Tk pg wd sh.heap k x) (hu : ar.units < cLine) {R : SetFound → Shared → Prop} (yes : k ∈ ms.map (·.2) → R (.there none) sh)
    (no : ∀ N, k ∉ ms.map (·.2) → way tb.mask (hv pg wd k) N ∉ tb.place.toList → (∀ c, c < N → way tb.mask (hv pg wd k) c ∈ tb.place.toList) → R (.free (way tb.mask (hv pg wd k) N) false) sh) :
    wpAny (model pg wd) ar (setSearch a (.ref x) (hv pg wd k) true) R er sh := by
  have rm := S.room
  obtain ⟨N, n1, n2, n3⟩ := S.tab.first (by rw [List.length_map]; omega) (hv pg wd k)
  have nb : N < 100000 := by
    unfold SetTable.turns at n1
    rcases S.tab.mok with e | e | e <;> rw [e] at n1 <;> omega
  unfold setSearch
  refine look S hx hu n1 n2 n3 yes (fun z => no N z n2 n3) 100000 0 none rfl (Nat.zero_le _) (by omega) fun i m hm hk => ?_
  have h1 : (ms.map fun m => hv pg wd m.2)[i]? = some (hv pg wd k) := by
    rw [List.getElem?_map, hm, ← hk]
    rfl
  have h2 : i < tb.place.toList.length := by
    have h3 := (List.getElem?_eq_some_iff.mp hm).1
    have h4 := S.tab.sz
    rw [List.length_map] at h4
    rw [Array.length_toList]
    omega
  obtain ⟨c, c1, c2⟩ := S.tab.before n2 h1 (List.getElem?_eq_getElem h2)
  exact ⟨c, Nat.zero_le _, c1, by rw [List.getElem?_eq_getElem h2, c2]⟩
end
end LS

/-! LS2: adding a letter -/
namespace LS
open PySem PySem.Spec PyProof.Rows L2
section
variable {pg : Program} {wd : World} {ar : Around} {er : Value → Shared → Prop} {sh : Shared}
theorem tk_same {hp hp' : Heap} {k : Lk} {a b : Addr} {ob : Obj} {rs : Array (Int × Value)} {num : Nat} {tb : SetTable} (hb : Tk pg wd hp k b) (go : hp.get? a = some ob) (gd : ob.data = .set rs num tb) (sb : Heap.SameBut a hp hp') : Tk pg wd hp' k b := by
  obtain ⟨o2, its, n2, g2, c2, d2, i2⟩ := hb
  refine ⟨o2, its, n2, ?_, c2, d2, i2⟩
  rw [sb.2 b (fun e => ?_)]
  · exact g2
  · subst e
    rw [g2] at go
    cases go
    rw [d2] at gd
    cases gd
theorem tk_keep {hp hp' : Heap} {k : Lk} {b : Addr} (hb : Tk pg wd hp k b) (kp : ∀ c o, hp.get? c = some o → hp'.get? c = some o) : Tk pg wd hp' k b := by
  obtain ⟨o2, its, n2, g2, r⟩ := hb
  exact ⟨o2, its, n2, kp b o2 g2, r⟩
theorem LSet.keep {hp hp' : Heap} {a : Addr} {ms : List Mem} {rs : Array (Int × Value)} {num : Nat} {tb : SetTable} (S : LSet pg wd hp a ms rs num tb) (kp : ∀ c o, hp.get? c = some o → hp'.get? c = some o) : LSet pg wd hp' a ms rs num tb := by
  obtain ⟨ob, go, r⟩ := S.obj
  exact ⟨⟨ob, kp a ob go, r⟩, S.row, S.tab, S.dif, fun m hm => tk_keep (S.tup m hm) kp, S.led, S.room, S.few⟩
/-- rows picked by an order -/
theorem pick_rows (ms : List Mem) (rs : Array (Int × Value)) (od : Array Nat) (hr : rs.toList = rowOf pg wd ms) (hp : od.toList.Perm (List.range ms.length)) :
    ∃ ms', (od.filterMap (rs[·]?)).toList = rowOf pg wd ms' ∧ ms'.Perm ms ∧ (ms'.map fun m => hv pg wd m.2) = od.toList.map fun i => (rs.map (·.1)).getD i 0 := by
  have at' : ∀ {i : Nat} {m : Mem}, ms[i]? = some m → rs[i]? = some (hv pg wd m.2, Value.ref m.1) := fun {i m} h => by
    have e1 : rs.toList[i]? = some (hv pg wd m.2, Value.ref m.1) := by
      rw [hr, rowOf, List.getElem?_map, h]
      rfl
    rwa [Array.getElem?_toList] at e1
  have go : ∀ l : List Nat, (∀ i ∈ l, i < ms.length) → l.filterMap (fun i => rs[i]?) = rowOf pg wd (l.filterMap (fun i => ms[i]?)) ∧ ((l.filterMap (fun i => ms[i]?)).map fun m => hv pg wd m.2) = l.map fun i => (rs.map (·.1)).getD i 0 := by
    intro l
    induction l with
    | nil => exact fun _ => ⟨rfl, rfl⟩
    | cons i l ih =>
      intro hl
      obtain ⟨i1, i2⟩ := ih fun j hj => hl j (List.mem_cons_of_mem _ hj)
      obtain ⟨m, h1⟩ : ∃ m, ms[i]? = some m := ⟨_, List.getElem?_eq_getElem (hl i List.mem_cons_self)⟩
      rw [List.filterMap_cons_some (at' h1), List.filterMap_cons_some h1, i1]
      refine ⟨rfl, ?_⟩
      rw [List.map_cons, List.map_cons, i2]
      congr 1
      simp [Array.getD_eq_getD_getElem?, at' h1]
  obtain ⟨g1, g2⟩ := go od.toList fun i hi => List.mem_range.mp (hp.mem_iff.mp hi)
  refine ⟨od.toList.filterMap (fun i => ms[i]?), by simpa using g1, ?_, g2⟩
  have h1 := hp.filterMap fun i => ms[i]?
  have h2 : ∀ n, n ≤ ms.length → (List.range n).filterMap (fun i => ms[i]?) = ms.take n := fun n => by
    induction n with
    | zero => exact fun _ => rfl
    | succ n ih =>
      intro hn
      rw [List.range_succ, List.filterMap_append, ih (by omega), List.filterMap_cons_some (List.getElem?_eq_getElem hn), List.take_succ, List.getElem?_eq_getElem hn]
      rfl
  rwa [h2 _ (Nat.le_refl _), List.take_length] at h1
variable {a : Addr} {ms : List Mem} {rs : Array (Int × Value)} {num : Nat} {tb : SetTable}
/-- the table made larger -/
theorem grow {ob : Obj} (go : sh.heap.get? a = some ob) (gx : ob.ExactSet) (gd : ob.data = .set rs num tb) (hr : rs.toList = rowOf pg wd ms) (h1 : tb.place.size = rs.size) (h2 : tb.dummies = #[]) (h3 : rs.size ≤ tb.mask)
    (dif : (ms.map (·.2)).Nodup) (tup : ∀ m ∈ ms, Tk pg wd sh.heap m.2 m.1) (led : wd.params.followText "set-order" = true ∨ tb.led = true) (few : ms.length < 64) {want M : Nat} (m1 : SetTable.sizeAbove want - 1 = M) (m2 : MaskOk M) (m3 : SetTable.sizeAbove want ≤ 128) (m4 : ms.length * 5 < M * 3)
    {R : Unit → Shared → Prop} (q : ∀ hp' ms' rs' num' tb', Heap.SameBut a sh.heap hp' → LSet pg wd hp' a ms' rs' num' tb' → ms'.Perm ms → R () { sh with heap := hp' }) : wpAny (model pg wd) ar (setRelay a want) R er sh := by
  have z := len_row pg wd ms hr
  obtain ⟨tb', od, r1, r2, r3, r4, r5, _, _⟩ := relaid_ok tb (hs := rs.map (·.1)) (wanted := want) m1 m2 (by rw [Array.size_map, z]; omega)
  rw [Array.size_map, z] at r2
  obtain ⟨ms', p1, p2, p3⟩ := pick_rows (pg := pg) (wd := wd) ms rs od hr r2
  rw [← p3] at r3
  have z2 : (od.filterMap (rs[·]?)).size = ms.length := by rw [len_row pg wd ms' p1, p2.length_eq]
  rw [setRelay_eq]
  refine wpAny_bind (wpAny_setState_of go gd (fits_of h1 h2 h3) ?_)
  dsimp only
  refine wp_if_neg (by rw [sizeLine_eq]; omega) ?_
  rw [r1]
  dsimp only
  refine wpAny_bind (wp_if_neg (by rw [z2, z]; simp) (wpAny_pure ?_))
  dsimp only
  refine wpAny_storeSet_of go gd ?_ (by rw [z2, sizeLine_eq]; omega)
  have sb : Heap.SameBut a sh.heap (sh.heap.update a (Obj.putSet (od.filterMap (rs[·]?)) tb')) := Heap.SameBut.update ..
  refine q _ ms' _ (num + 1) tb' sb ⟨⟨_, store_at go gd, gx, rfl⟩, p1, r3, (p2.map (·.2)).nodup_iff.mpr dif, fun m hm => tk_same (tup m (p2.mem_iff.mp hm)) go gd sb, by rw [r5]; exact led, by rw [p2.length_eq, r4]; exact m4, by rw [p2.length_eq]; exact few⟩ p2
/-- adding a letter -/
theorem put (S : LSet pg wd sh.heap a ms rs num tb) {x : Addr} {k : Lk} (hx : Tk pg wd sh.heap k x) (hu : ar.units < cLine) (few : ms.length + 1 < 64) {R : Bool → Shared → Prop}
    (q : ∀ b hp' ms' rs' num' tb', Heap.SameBut a sh.heap hp' → LSet pg wd hp' a ms' rs' num' tb' → (k ∈ ms.map (·.2) ∧ ms' = ms ∨ k ∉ ms.map (·.2) ∧ ms'.Perm ((x, k) :: ms)) → R b { sh with heap := hp' }) :
    wpAny (model pg wd) ar (setAddHashed a (.ref x) (hv pg wd k)) R er sh := by
  obtain ⟨ob, go, gx, gd⟩ := S.obj
  have z := S.sz
  have rm := S.room
  unfold setAddHashed
  refine wpAny_holding ?_
  show wpAny (model pg wd) ar (setAddHashedIn a (.ref x) (hv pg wd k) (99999 + 1)) R er sh
  rw [setAddHashedIn_succ]
  refine wpAny_bind (wpAny_setState_of go gd S.fit ?_)
  dsimp only
  refine wp_if_neg (by simp [byScan, Value.scannable]) (wpAny_bind (find S hx hu (fun hm => ?_) fun N hm n2 n3 => ?_))
  · dsimp only
    exact wpAny_pure (q false sh.heap ms rs num tb (Heap.SameBut.refl a sh.heap) S (.inl ⟨hm, rfl⟩))
  · dsimp only
    refine wpAny_bind (wpAny_setState_of go gd S.fit ?_)
    dsimp only
    obtain ⟨q1, q2, q3, q4, q5, _, _, _, q9⟩ := S.tab.put n2 n3
    generalize tb.put (way tb.mask (hv pg wd k) N) = pt at q1 q3 q4 q5 q9 ⊢
    obtain ⟨t1, p⟩ := pt
    dsimp only at q1 q3 q4 q5 q9 ⊢
    subst q1
    generalize SetTable.below tb.place (way tb.mask (hv pg wd k) N) = p at q2 q3 ⊢
    have pm := put_perm ms p (x, k)
    have row1 : (SetTable.insertAt rs p (hv pg wd k, Value.ref x)).toList = rowOf pg wd (ms.take p ++ (x, k) :: ms.drop p) := by
      rw [SetTable.toList_insertAt, S.row, rowOf, rowOf, List.map_append, List.map_cons, List.map_take, List.map_drop]
    have q3' : TabOk t1 ((ms.take p ++ (x, k) :: ms.drop p).map fun m => hv pg wd m.2) := by
      rw [List.map_append, List.map_cons, List.map_take, List.map_drop]
      exact q3
    clear q3
    have l1 := pm.length_eq
    rw [List.length_cons] at l1
    have dif1 : ((ms.take p ++ (x, k) :: ms.drop p).map (·.2)).Nodup := (pm.map (·.2)).nodup_iff.mpr (by
      rw [List.map_cons]
      exact List.nodup_cons.mpr ⟨hm, S.dif⟩)
    have z1 := len_row pg wd _ row1
    rw [l1] at z1
    generalize SetTable.insertAt rs p (hv pg wd k, Value.ref x) = rs1 at row1 z1 ⊢
    generalize ms.take p ++ (x, k) :: ms.drop p = ms1 at pm l1 q3' dif1 row1
    -- whatever its flag
    have rest : ∀ t2 : SetTable, t2.place = t1.place → t2.dummies = t1.dummies → t2.mask = t1.mask → t2.led = t1.led → t2.tooFull = t1.tooFull → TabOk t2 (ms1.map fun m => hv pg wd m.2) →
        wpAny (model pg wd) ar (do
          storeSet a rs1 t2
          if (!false && t2.tooFull) = true then setRelay a (SetTable.grown (rs.size + 1))
          pure true) R er sh := fun t2 e1 e2 e3 e4 e5 tab2 => by
      refine wpAny_bind (wpAny_storeSet_of go gd ?_ (by rw [z1, sizeLine_eq]; omega))
      have sb : Heap.SameBut a sh.heap (sh.heap.update a (Obj.putSet rs1 t2)) := Heap.SameBut.update ..
      have go1 := store_at (es' := rs1) (t' := t2) go gd
      generalize sh.heap.update a (Obj.putSet rs1 t2) = hp1 at sb go1 ⊢
      have tup1 : ∀ m ∈ ms1, Tk pg wd hp1 m.2 m.1 := fun m hm1 => by
        rcases List.mem_cons.mp (pm.mem_iff.mp hm1) with rfl | hm1
        · exact tk_same hx go gd sb
        · exact tk_same (S.tup m hm1) go gd sb
      have led1 : wd.params.followText "set-order" = true ∨ t2.led = true := by
        rw [e4, q5]
        exact S.led
      have sz1 : t2.place.size = rs1.size := by
        have := tab2.sz
        rw [List.length_map, l1] at this
        rw [this, z1]
      have fl : t2.fill = ms.length + 1 := by
        unfold SetTable.fill at q9 ⊢
        rw [e1, e2, q9, List.length_map]
      by_cases hf : t2.tooFull = true
      · have big : (ms.length + 1) * 5 ≥ t2.mask * 3 := by
          have := hf
          unfold SetTable.tooFull at this
          rwa [decide_eq_true_eq, fl] at this
        rw [e3, q4] at big
        refine wp_if_pos (by simp [hf]) (wpAny_bind ?_)
        rw [z]
        have gr : ∀ M, SetTable.sizeAbove (SetTable.grown (ms.length + 1)) - 1 = M → MaskOk M → SetTable.sizeAbove (SetTable.grown (ms.length + 1)) ≤ 128 → (ms.length + 1) * 5 < M * 3 →
            wpAny (model pg wd) ar (setRelay a (SetTable.grown (ms.length + 1))) (fun _ s' => wpAny (model pg wd) ar (pure true) R er s') er { sh with heap := hp1 } := fun M g1 g2 g3 g4 => by
          refine grow (sh := { sh with heap := hp1 }) go1 ⟨gx.1, gx.2.1, gx.2.2⟩ rfl row1 sz1 tab2.dm (by rw [z1, e3, q4]; omega) dif1 tup1 led1 (by omega) g1 g2 g3 (by rw [l1]; exact g4) fun hp2 ms2 rs2 num2 tb2 sb2 S2 pm2 => ?_
          exact wpAny_pure (q true hp2 ms2 rs2 num2 tb2 (sb.trans sb2) S2 (.inr ⟨hm, pm2.trans pm⟩))
        rcases S.tab.mok with e | e | e
        · have e6 : ms.length = 4 := by omega
          exact gr 31 (by rw [e6, size_20]) (.inr (.inl rfl)) (by rw [e6, size_20]; decide) (by omega)
        · have e6 : ms.length = 18 := by omega
          exact gr 127 (by rw [e6, size_76]) (.inr (.inr rfl)) (by rw [e6, size_76]; decide) (by omega)
        · omega
      · have small : ¬ (ms.length + 1) * 5 ≥ t2.mask * 3 := fun z => hf (by
          unfold SetTable.tooFull
          rwa [decide_eq_true_eq, fl])
        refine wp_if_neg (by simp [hf]) (wpAny_pure (q true hp1 ms1 rs1 (num + 1) t2 sb ⟨⟨_, go1, ⟨gx.1, gx.2.1, gx.2.2⟩, rfl⟩, row1, tab2, dif1, tup1, led1, by omega, by omega⟩ (.inr ⟨hm, pm⟩)))
    have r1 := rest t1 rfl rfl rfl rfl rfl q3'
    have r2 := rest { t1 with plain := false } rfl rfl rfl rfl rfl ⟨q3'.ris, q3'.dm, q3'.sz, q3'.mok, q3'.bd, q3'.reach⟩
    by_cases hpl : t1.plain = true
    · refine wp_if_pos hpl (wpAny_bind (byValT hx fun b => ?_))
      cases b
      · exact r2
      · exact r1
    · refine wp_if_neg hpl (wpAny_bind (wpAny_pure ?_))
      exact r1
end
end LS

/-! LS3: letters in their order -/
namespace LS
open PySem PySem.Spec PyProof.Rows L2
abbrev Kl := Nat × List Int
def lexI : List Int → List Int → Bool
  | [], [] => false
  | [], _ :: _ => true
  | _ :: _, [] => false
  | a :: as, b :: bs => if a = b then lexI as bs else decide (a < b)
def ltK (p q : Kl) : Bool := if p.1 = q.1 then lexI p.2 q.2 else decide (p.1 < q.1)
theorem lexI_irr : ∀ as : List Int, lexI as as = false
  | [] => rfl
  | a :: as => by rw [lexI, if_pos rfl, lexI_irr as]
theorem lexI_asym : ∀ as bs : List Int, lexI as bs = true → lexI bs as = false
  | [], [], h => by cases h
  | [], _ :: _, _ => rfl
  | _ :: _, [], h => by cases h
  | a :: as, b :: bs, h => by
    rw [lexI] at h ⊢
    split at h
    · rename_i e
      rw [if_pos e.symm]
      exact lexI_asym as bs h
    · rename_i e
      rw [if_neg fun z => e z.symm]
      have := of_decide_eq_true h
      exact decide_eq_false (by omega)
theorem lexI_tr : ∀ as bs cs : List Int, lexI bs as = false → lexI cs bs = false → lexI cs as = false
  | [], [], cs, _, h => h
  | [], _ :: _, [], _, h => by cases h
  | [], _ :: _, _ :: _, _, _ => rfl
  | _ :: _, [], cs, h, _ => by cases h
  | a :: as, b :: bs, [], _, h => by cases h
  | a :: as, b :: bs, c :: cs, h1, h2 => by
    rw [lexI] at h1 h2 ⊢
    split at h1
    · rename_i e
      subst e
      split at h2
      · rename_i e
        subst e
        rw [if_pos rfl]
        exact lexI_tr as bs cs h1 h2
      · rename_i e
        rw [if_neg e]
        exact h2
    · rename_i e1
      have g1 := of_decide_eq_false h1
      split at h2
      · rename_i e
        subst e
        rw [if_neg e1]
        exact h1
      · rename_i e2
        have g2 := of_decide_eq_false h2
        rw [if_neg (by omega)]
        exact decide_eq_false (by omega)
theorem lexI_tot : ∀ as bs : List Int, lexI as bs = false → lexI bs as = false → as = bs
  | [], [], _, _ => rfl
  | [], _ :: _, h, _ => by cases h
  | _ :: _, [], _, h => by cases h
  | a :: as, b :: bs, h1, h2 => by
    rw [lexI] at h1 h2
    by_cases e : a = b
    · rw [if_pos e] at h1
      rw [if_pos e.symm] at h2
      rw [e, lexI_tot as bs h1 h2]
    · rw [if_neg e] at h1
      rw [if_neg fun z => e z.symm] at h2
      have g1 := of_decide_eq_false h1
      have g2 := of_decide_eq_false h2
      omega
theorem ltK_irr (p : Kl) : ltK p p = false := by
  unfold ltK
  rw [if_pos rfl, lexI_irr]
theorem ltK_asym (p q : Kl) (h : ltK p q = true) : ltK q p = false := by
  unfold ltK at h ⊢
  split at h
  · rename_i e
    rw [if_pos e.symm]
    exact lexI_asym _ _ h
  · rename_i e
    rw [if_neg fun z => e z.symm]
    have := of_decide_eq_true h
    exact decide_eq_false (by omega)
theorem ltK_tr (p q r : Kl) (h1 : ltK q p = false) (h2 : ltK r q = false) : ltK r p = false := by
  unfold ltK at h1 h2 ⊢
  split at h1
  · rename_i e1
    split at h2
    · rename_i e2
      rw [if_pos (e2.trans e1)]
      exact lexI_tr _ _ _ h1 h2
    · rename_i e2
      have g2 := of_decide_eq_false h2
      rw [if_neg (by omega)]
      exact decide_eq_false (by omega)
  · rename_i e1
    have g1 := of_decide_eq_false h1
    split at h2
    · rename_i e2
      rw [if_neg (by omega)]
      exact decide_eq_false (by omega)
    · rename_i e2
      have g2 := of_decide_eq_false h2
      rw [if_neg (by omega)]
      exact decide_eq_false (by omega)
theorem ltK_tot (p q : Kl) (h1 : ltK p q = false) (h2 : ltK q p = false) : p = q := by
  unfold ltK at h1 h2
  by_cases e : p.1 = q.1
  · rw [if_pos e] at h1
    rw [if_pos e.symm] at h2
    exact Prod.ext e (lexI_tot _ _ h1 h2)
  · rw [if_neg e] at h1
    rw [if_neg fun z => e z.symm] at h2
    have g1 := of_decide_eq_false h1
    have g2 := of_decide_eq_false h2
    omega
theorem ltK_swo (key : Value → Kl) : SrtO.Swo fun v u => ltK (key v) (key u) := ⟨fun x y h => ltK_asym _ _ h, fun x y z h1 h2 => ltK_tr _ _ _ h1 h2⟩
/-- v is the letter -/
def IsK (hp : Heap) (v : Value) (p : Kl) : Prop := ∃ (a : Addr) (ob : Obj) (t : Tok) (xs : List Value) (num : Nat), v = .ref a ∧ hp.get? a = some ob ∧ ob.cls = .type "tuple" ∧ ob.data = .seq (.str ⟨#[p.1]⟩ t :: xs).toArray num ∧ IntsAre xs p.2
theorem IsK.keep {hp hp' : Heap} {v : Value} {p : Kl} (k : IsK hp v p) (kp : ∀ b o, hp.get? b = some o → o.cls = .type "tuple" → hp'.get? b = some o) : IsK hp' v p := by
  obtain ⟨a, ob, t, xs, num, e, go, gc, r⟩ := k
  exact ⟨a, ob, t, xs, num, e, kp a ob go gc, gc, r⟩
def lexF (fin : Bool) : List Int → List Int → Bool
  | [], _ => fin
  | _ :: _, [] => fin
  | a :: as, b :: bs => if a = b then lexF fin as bs else decide (a < b)
theorem lexF_I : ∀ (as bs : List Int) (n m : Nat), (n < m ↔ as.length < bs.length) → lexF (decide (n < m)) as bs = lexI as bs
  | [], [], n, m, h => by
    rw [lexF, lexI]
    exact decide_eq_false (by rw [h]; simp)
  | [], _ :: _, n, m, h => by
    rw [lexF, lexI]
    exact decide_eq_true (by rw [h]; simp)
  | _ :: _, [], n, m, h => by
    rw [lexF, lexI]
    exact decide_eq_false (by rw [h]; simp)
  | a :: as, b :: bs, n, m, h => by
    rw [lexF, lexI]
    split
    · exact lexF_I as bs n m (by rw [h]; simp)
    · rfl
section
variable {pg : Program} {wd : World} {ar : Around} {er : Value → Shared → Prop} {sh : Shared}
theorem lex_ints (fin : Bool) {xs : List Value} {as : List Int} (h1 : IntsAre xs as) : ∀ {ys : List Value} {bs : List Int}, IntsAre ys bs → ∀ i : Nat, 0 < i → PySem.W.KatLex pg wd ar true fin (fun r z => z = sh ∧ r = lexF fin as bs) (xs.zip ys) i sh := by
  induction h1 with
  | nil =>
    intro ys bs _ i _
    rw [List.zip_nil_left]
    exact PySem.W.kat_nil ⟨rfl, by rw [lexF]⟩
  | cons n t _ ih =>
    intro ys bs h2 i hi
    cases h2 with
    | nil =>
      rw [List.zip_nil_right]
      exact PySem.W.kat_nil ⟨rfl, by rw [lexF]⟩
    | cons m u h2 =>
      have i0 : (true && i == 0) = false := by
        rw [Bool.true_and, beq_eq_false_iff_ne]
        omega
      rw [List.zip_cons_cons]
      refine PySem.W.kat_cons (SeqAt.EqAt.int_int n t m u pg wd _ _ ?_)
      refine PySem.W.kat_go (fun e1 => PySem.W.kat_yes ?_) fun e1 => PySem.W.kat_no ?_
      · have ex : n = m := by simpa using e1
        rw [lexF, if_pos ex]
        exact ih h2 (i + 1) (by omega)
      · have ex : ¬ n = m := by simpa using e1
        rw [i0, lexF, if_neg ex]
        exact PySem.W.kat_one _ _ (PyProof.Rows.lt_int ⟨rfl, rfl⟩)
theorem len_ints' {xs : List Value} {as : List Int} (h1 : IntsAre xs as) : xs.length = as.length := by
  induction h1 with
  | nil => rfl
  | cons n t _ ih => rw [List.length_cons, List.length_cons, ih]
theorem key_cmp {vs : List Value} {key : Value → Kl} (hk : ∀ v ∈ vs, IsK sh.heap v (key v)) : SrtO.Cmp pg wd ar sh (tuples' true) (fun p => p.1 ∈ vs) (SrtO.lt2 fun v u => ltK (key v) (key u)) := by
  intro p q m1 m2
  show wpAny (model pg wd) ar (keyLt' (tuples' true) p.1 q.1) (fun r z => z = sh ∧ r = ltK (key p.1) (key q.1)) (fun _ _ => False) sh
  have k1 := hk _ m1
  have k2 := hk _ m2
  generalize key p.1 = kp at k1 ⊢
  generalize key q.1 = kq at k2 ⊢
  obtain ⟨a, ob, t, xs, num, e, go, gc, gd, gi⟩ := k1
  obtain ⟨a', ob', t', xs', num', e', go', gc', gd', gi'⟩ := k2
  rw [e, e']
  refine PySem.W.kat_lt go gd go' gd' ?_
  show PySem.W.KatLex pg wd ar true _ _ ((Value.str ⟨#[kp.1]⟩ t, Value.str ⟨#[kq.1]⟩ t') :: xs.zip xs') 0 sh
  refine PySem.W.kat_cons (SeqAt.EqAt.str_str _ t _ t' pg wd _ _ ?_)
  unfold ltK
  refine PySem.W.kat_go (fun e1 => PySem.W.kat_yes ?_) fun e1 => PySem.W.kat_no (PyProof.Rows.oneLt_str ?_)
  · have ex : kp.1 = kq.1 := by simpa using e1
    rw [if_pos ex]
    have := lex_ints (pg := pg) (wd := wd) (ar := ar) (sh := sh) (decide ((Value.str ⟨#[kp.1]⟩ t :: xs).toArray.size < (Value.str ⟨#[kq.1]⟩ t' :: xs').toArray.size)) gi gi' 1 (by decide)
    rw [lexF_I _ _ _ _ (by rw [← len_ints' gi, ← len_ints' gi']; simp)] at this
    exact this
  · have ex : ¬ kp.1 = kq.1 := by simpa using e1
    rw [if_neg ex]
    refine ⟨rfl, ?_⟩
    show decide ([kp.1] < [kq.1]) = decide (kp.1 < kq.1)
    have hl : ([kp.1] < [kq.1]) ↔ kp.1 < kq.1 := by
      rw [List.cons_lt_cons_iff]
      simp
    simp only [hl]
theorem key_firsts {hp : Heap} {key : Value → Kl} : ∀ {vs : List Value}, (∀ v ∈ vs, IsK hp v (key v)) → ∃ fs : List Value, PySem.W.KatTups hp vs fs ∧ fs.length = vs.length ∧ ∀ f ∈ fs, ∃ z t, f = Value.str z t
  | [], _ => ⟨[], PySem.W.KatTups.nil, rfl, by simp⟩
  | v :: vs, hk => by
    obtain ⟨fs, h1, h2, h3⟩ := key_firsts (vs := vs) fun y hy => hk y (List.mem_cons_of_mem _ hy)
    obtain ⟨a, ob, t, xs, num, e, go, gc, gd, _⟩ := hk v List.mem_cons_self
    subst e
    refine ⟨.str _ t :: fs, PySem.W.KatTups.cons go gc gd rfl h1, by rw [List.length_cons, List.length_cons, h2], fun f hf => ?_⟩
    rcases List.mem_cons.mp hf with rfl | hf
    · exact ⟨_, t, rfl⟩
    · exact h3 f hf
theorem key_sortable {a : Addr} {vs : List Value} {key : Value → Kl} (h0 : 0 < vs.length) (hk : ∀ v ∈ vs, IsK sh.heap v (key v)) (ha : ∀ o, sh.heap.get? a = some o → o.cls ≠ .type "tuple") : SrtO.SortableO pg wd ar sh a vs fun v u => ltK (key v) (key u) := by
  intro hp' kp
  have hk' : ∀ v ∈ vs, IsK hp' v (key v) := fun v hm => (hk v hm).keep fun b o go gc => kp b o (fun z => by subst z; exact ha o go gc) go
  obtain ⟨fs, h1, h2, h3⟩ := key_firsts hk'
  refine ⟨tuples' true, fun Q E q => ?_, key_cmp hk'⟩
  refine PySem.W.kat_kind (T := .type "str") h1 (by omega) (fun f hf => ?_) rfl ?_
  · obtain ⟨z, t, rfl⟩ := h3 f hf
    exact PySem.W.Looks.now
  · have e : (Value.type "str" != Value.type "tuple") = true := by first | decide +kernel | rfl | decide
    rw [e]
    exact q
end
end LS

/-! LS4: set.add and sorted of a set of letters -/
namespace LS
open PySem PySem.Spec PyProof.Rows L2
def toL (p : Kl) : Lk := .inr ⟨#[p.1]⟩ :: p.2.map .inl
theorem toL_inj {p q : Kl} (h : toL p = toL q) : p = q := by
  obtain ⟨n, as⟩ := p
  obtain ⟨m, bs⟩ := q
  unfold toL at h
  injection h with h1 h2
  injection h1 with h1
  have e1 : n = m := by simpa using h1
  have e2 : as = bs := by
    dsimp only at h2
    exact List.map_inj_right (fun _ _ z => Sum.inl.inj z) |>.mp h2
  rw [e1, e2]
abbrev Pm := Addr × Kl
abbrev lm (q : Pm) : Mem := (q.1, toL q.2)
section
variable {pg : Program} {wd : World} {ar : Around} {er : Value → Shared → Prop} {sh : Shared}
theorem ints_mix {as : List Int} : ∀ {vs : List Value}, ItemsAre (mixKind pg wd) (as.map .inl) vs → IntsAre vs as := by
  induction as with
  | nil =>
    intro vs h
    cases h
    exact .nil
  | cons a as ih =>
    intro vs h
    cases h with
    | cons h1 h2 =>
      rcases keyIs_shape (k := .inl a) h1 with ⟨i, t, e1, e2⟩ | ⟨x, t, e1, e2⟩
      · injection e1 with e1
        subst e1 e2
        exact .cons _ t (ih h2)
      · cases e1
theorem isK_of {hp : Heap} {p : Kl} {b : Addr} (h : Tk pg wd hp (toL p) b) : IsK hp (.ref b) p := by
  obtain ⟨ob, its, num, go, gc, gd, gi⟩ := h
  have ei : its = its.toList.toArray := by simp
  generalize its.toList = l at gi ei
  subst ei
  unfold toL at gi
  cases gi with
  | cons h1 h2 =>
    rcases keyIs_shape (k := .inr ⟨#[p.1]⟩) h1 with ⟨i, t, e1, e2⟩ | ⟨x, t, e1, e2⟩
    · cases e1
    · injection e1 with e1
      subst e1 e2
      exact ⟨b, ob, t, _, num, rfl, go, gc, gd, ints_mix h2⟩
variable {a : Addr} {ms : List Mem} {rs : Array (Int × Value)} {num : Nat} {tb : SetTable}
/-- d.add(x) -/
theorem add_call (S : LSet pg wd sh.heap a ms rs num tb) {x : Addr} {k : Lk} (hx : Tk pg wd sh.heap k x) (hu : ar.units + 64 < cLine) (few : ms.length + 1 < 64) {R : Value → Shared → Prop}
    (q : ∀ hp' tk ms' rs' num' tb', Heap.SameBut a sh.heap hp' → LSet pg wd hp' a ms' rs' num' tb' → (k ∈ ms.map (·.2) ∧ ms' = ms ∨ k ∉ ms.map (·.2) ∧ ms'.Perm ((x, k) :: ms)) → R .none { sh with heap := hp', toks := tk }) :
    wpAny (model pg wd) ar (call (.builtin "set.add") [.ref a, .ref x]) R er sh := by
  obtain ⟨ob, go, gx, gd⟩ := S.obj
  have tt : sh.TypeIs (.ref a) "set" := ⟨ob, go, gx.1⟩
  refine wpAny_call_entry F.slot_set_add tt F.entry_set_add ?_ (F.args_set_add_2 _ _)
  unfold Builtin.«set.add» Builtin.Frozenset.oneOther
  simp only [List.isEmpty_nil, bind_assoc]
  unfold Builtin.Frozenset.addrOf setAdd
  refine wpAny_bind (wpAny_pure ?_)
  try dsimp only
  refine wpAny_bind (wpAny_pure ?_)
  try dsimp only
  refine wpAny_bind (wpAny_holding (wpAny_bind (wpAny_pyHash_tuple (by show ar.units + 1 < cLine; omega) hx ?_)))
  refine put (sh := { sh with toks := sh.toks + (k.length + 1) }) S hx (by show ar.units + 1 < cLine; omega) few fun b hp' ms' rs' num' tb' sb S' c => ?_
  show wpAny _ _ (ret Value.none) _ _ _
  exact wpAny_pure ⟨_, rfl, q hp' _ ms' rs' num' tb' sb S' c⟩
/-- sorted(d) -/
theorem sorted_set {ps : List Pm} (S : LSet pg wd sh.heap a (ps.map lm) rs num tb) (hh : ar.handled = none) {R : Value → Shared → Prop}
    (q : ∀ s' p (out : Array Value) (c : Nat) (ps' : List Pm), (∀ b o, sh.heap.get? b = some o → s'.heap.get? b = some o) → s'.gens = sh.gens → s'.os = sh.os → sh.heap.objs.size ≤ p →
      s'.heap.get? p = some (seqObj "list" out c) → out.toList = ps'.map (fun q => Value.ref q.1) → ps'.Perm ps → ps'.Pairwise (fun q r => ltK r.2 q.2 = false) → R (.ref p) s') :
    wpAny (model pg wd) ar (call (.builtin "sorted") [.ref a]) R er sh := by
  obtain ⟨ob, go, gx, gd⟩ := S.obj
  have z := S.sz
  have few := S.few
  rw [List.length_map] at z few
  refine Calls.call_function_entry kind_sorted plain_sorted entry_sorted (args_sorted1 _) ?_
  unfold Builtin.«sorted»
  refine wpAny_bind (m := checkCount "sorted" 1 1 _) (wpAny_pure (wpAny_bind (collect_set (A := ar.in1) hh ⟨ob, go, gx.1, gd⟩ S.fit (by rw [z]; unfold scanBound; omega) S.tab.ris S.led fun s1 vs k1 hz g1 o1 pm => ?_)))
  have hrow : rs.toList.map (·.2) = ps.map fun q => Value.ref q.1 := by
    rw [S.row, rowOf, List.map_map, List.map_map]
    rfl
  rw [hrow] at pm
  -- an address has one letter
  have one : ∀ q ∈ ps, ∀ r ∈ ps, q.1 = r.1 → q.2 = r.2 := fun q hq r hr e => by
    have a1 := S.tup (lm q) (List.mem_map.mpr ⟨q, hq, rfl⟩)
    have a2 := S.tup (lm r) (List.mem_map.mpr ⟨r, hr, rfl⟩)
    dsimp only at a1 a2
    rw [e] at a1
    exact toL_inj (a1.inj a2)
  obtain ⟨key, hkey⟩ : ∃ key : Value → Kl, ∀ q ∈ ps, key (.ref q.1) = q.2 := by
    refine ⟨fun v => match v with
      | .ref b => ((ps.find? fun q => q.1 == b).map (·.2)).getD (0, [])
      | _ => (0, []), fun q hq => ?_⟩
    dsimp only
    cases hf : ps.find? fun r => r.1 == q.1 with
    | none =>
      have := List.find?_eq_none.mp hf q hq
      simp at this
    | some r =>
      have h1 := List.mem_of_find?_eq_some hf
      have h2 := List.find?_some hf
      exact one r h1 q hq (by simpa using h2)
  have memV : ∀ v ∈ vs, ∃ q ∈ ps, v = .ref q.1 := fun v hv => by
    obtain ⟨q, hq, e⟩ := List.mem_map.mp (pm.mem_iff.mp hv)
    exact ⟨q, hq, e.symm⟩
  have vl : vs.length < 64 := by rw [pm.length_eq, List.length_map]; exact few
  refine wpAny_bind (wpAny_newList ?_ (by rw [sizeLine_eq]; omega))
  have gl : (s1.heap.push (seqObj "list" vs.toArray 0)).get? s1.heap.objs.size = some (seqObj "list" vs.toArray 0) := Heap.get?_push_size _ rfl
  have ks : ∀ v ∈ vs, IsK (s1.heap.push (seqObj "list" vs.toArray 0)) v (key v) := fun v hv => by
    obtain ⟨q, hq, rfl⟩ := memV v hv
    rw [hkey q hq]
    exact isK_of (tk_keep (S.tup (lm q) (List.mem_map.mpr ⟨q, hq, rfl⟩)) fun b o e => Heap.get?_push_of_some _ (k1 b o e))
  refine wpAny_bind (wpAny_holding (wpAny_call_entry slot_list_sort ⟨_, gl, rfl⟩ entry_list_sort (SrtO.list_sort_ord (s := { s1 with heap := s1.heap.push (seqObj "list" vs.toArray 0) }) (ltK_swo key) gl (by rw [sizeLine_eq]; omega) (fun h2 => key_sortable (by omega) ks fun o e => ?_) fun out so sb => ⟨_, rfl, ?_⟩) (args_list_sort _)))
  · have e' : some o = some (seqObj "list" vs.toArray 0) := e.symm.trans gl
    cases e'
    exact fun c => absurd (Value.type.inj c) (by decide)
  · obtain ⟨c, gc⟩ := sortedHeap_at (vs := vs) (out := out.toArray) gl
    let f : Value → Pm := fun v => match v with
      | .ref b => (b, key v)
      | _ => (0, (0, []))
    have fr : ∀ q ∈ ps, f (.ref q.1) = q := fun q hq => by
      show (q.1, key (.ref q.1)) = q
      rw [hkey q hq]
    have mo : ∀ v ∈ out, ∃ q ∈ ps, v = .ref q.1 := fun v hv => memV v (sb.perm.mem_iff.mp hv)
    have eo' : ∀ l : List Value, (∀ v ∈ l, ∃ q ∈ ps, v = .ref q.1) → l = (l.map f).map fun q => Value.ref q.1 := fun l => by
      induction l with
      | nil => exact fun _ => rfl
      | cons v l ih =>
        intro hl
        obtain ⟨q, hq, rfl⟩ := hl v List.mem_cons_self
        rw [List.map_cons, List.map_cons, fr q hq, ← ih fun u hu => hl u (List.mem_cons_of_mem _ hu)]
    have eo := eo' out mo
    have po : (out.map f).Perm ps := by
      have h1 := (sb.perm.trans pm).map f
      rw [List.map_map] at h1
      have h2 : ps.map (f ∘ fun q => Value.ref q.1) = ps := by
        rw [List.map_congr_left fun q hq => (show (f ∘ fun q : Pm => Value.ref q.1) q = id q from fr q hq), List.map_id]
      rwa [h2] at h1
    have so' : (out.map f).Pairwise fun q r => ltK r.2 q.2 = false := by
      rw [List.pairwise_map]
      refine List.Pairwise.imp_of_mem (fun {u v} hu hv h => ?_) so
      obtain ⟨q, hq, rfl⟩ := mo u hu
      obtain ⟨r, hr, rfl⟩ := mo v hv
      exact h
    refine wpAny_pure ⟨_, rfl, q _ s1.heap.objs.size out.toArray c (out.map f) (fun b u e => ?_) g1 o1 hz gc (by simpa using eo) po so'⟩
    have e1 := k1 b u e
    have lt := Heap.lt_size e1
    show (sortedHeap (s1.heap.push (seqObj "list" vs.toArray 0)) s1.heap.objs.size vs out.toArray).get? b = some u
    rw [sortedHeap_old (Nat.ne_of_lt lt) (by rw [size_push']; exact Nat.lt_succ_of_lt lt)]
    exact Heap.get?_push_of_some _ e1
end
end LS

/-! LS5: {letter for ..} and sorted of it, as rules of the hand layer -/
namespace LS
open PySem PySem.Spec PyProof.Rows L2
def kvs (p : Kl) : List V := .str ⟨#[p.1]⟩ :: p.2.map V.int
structure L0 (pg : Program) (wd : World) (hp : Heap) (a : Addr) (ps : List Pm) : Prop where
  ex : ∃ (rs : Array (Int × Value)) (num : Nat) (tb : SetTable), (∃ ob, hp.get? a = some ob ∧ ob.ExactSet ∧ ob.data = .set rs num tb) ∧ rs.toList = rowOf pg wd (ps.map lm) ∧ TabOk tb ((ps.map lm).map fun m => hv pg wd m.2) ∧ (ps.map (·.2)).Nodup ∧
    (wd.params.followText "set-order" = true ∨ tb.led = true) ∧ (ps.map lm).length * 5 < tb.mask * 3 ∧ (ps.map lm).length < 64
def LO (pg : Program) (wd : World) (a : Addr) (ps : List Pm) : HO := .ext fun hp => L0 pg wd hp a ps
section
variable {pg : Program} {wd : World}
theorem dif_iff {ps : List Pm} : ((ps.map lm).map (·.2)).Nodup ↔ (ps.map (·.2)).Nodup := by
  have e : (ps.map lm).map (·.2) = (ps.map (·.2)).map toL := by
    rw [List.map_map, List.map_map]
    rfl
  rw [e]
  constructor
  · exact fun h => List.Pairwise.of_map toL (fun _ _ hne z => hne (congrArg toL z)) h
  · exact fun h => h.map toL fun a b hne z => hne (toL_inj z)
theorem L0.full {hp : Heap} {a : Addr} {ps : List Pm} (S : L0 pg wd hp a ps) (ht : ∀ q ∈ ps, Tk pg wd hp (toL q.2) q.1) : ∃ rs num tb, LSet pg wd hp a (ps.map lm) rs num tb := by
  obtain ⟨rs, num, tb, h1, h2, h3, h4, h5, h6, h7⟩ := S.ex
  refine ⟨rs, num, tb, h1, h2, h3, dif_iff.mpr h4, fun m hm => ?_, h5, h6, h7⟩
  obtain ⟨q, hq, rfl⟩ := List.mem_map.mp hm
  exact ht q hq
theorem LSet.l0 {hp : Heap} {a : Addr} {ps : List Pm} {rs : Array (Int × Value)} {num : Nat} {tb : SetTable} (S : LSet pg wd hp a (ps.map lm) rs num tb) : L0 pg wd hp a ps := ⟨rs, num, tb, S.obj, S.row, S.tab, dif_iff.mp S.dif, S.led, S.room, S.few⟩
theorem lo_new {H : Hp} {hp : Heap} {a : Addr} {ps : List Pm} (S : L0 pg wd hp a ps) : ObjOk pg wd H hp a (LO pg wd a ps) := by
  have ⟨rs, num, tb, ⟨ob, go, _⟩, _⟩ := S.ex
  refine ⟨S, ⟨ob, go⟩, fun h1 h2 p k => ?_⟩
  have ⟨rs', num', tb', ⟨ob', go', r'⟩, q'⟩ := L0.ex p
  exact ⟨rs', num', tb', ⟨ob', k ob' go', r'⟩, q'⟩
theorem l0_fresh (hp : Heap) : L0 pg wd (hp.push { cls := .type "set", dict := none, data := .set #[] 0 (.fresh 0 0 (!wd.params.followText "set-order")) }) hp.objs.size [] := by
  refine ⟨#[], 0, _, ⟨_, Heap.get?_push_size _ rfl, ⟨rfl, rfl, rfl⟩, rfl⟩, rfl, ⟨List.Pairwise.nil, rfl, rfl, .inl rfl, by simp [SetTable.fresh], by simp⟩, List.nodup_nil, ?_, ?_, by simp⟩
  · show _ ∨ (!wd.params.followText "set-order") = true
    cases wd.params.followText "set-order" <;> simp
  · show 0 * 5 < 7 * 3
    decide
theorem items_mix : ∀ {as : List Int} {us : List Value}, Vals (as.map V.int) us → ItemsAre (mixKind pg wd) (as.map .inl) us
  | [], _, .nil => .nil
  | n :: as, _, .cons r t => by
    obtain ⟨tk, rfl⟩ := r
    exact .cons (mixKind_int pg wd n tk) (items_mix t)
theorem pm_of {ms : List Mem} {ps : List Pm} {c : Addr} {p : Kl} (h : ∀ m ∈ ms, m = lm (c, p) ∨ m ∈ ps.map lm) : ∃ ps' : List Pm, ps'.map lm = ms ∧ ∀ q ∈ ps', q = (c, p) ∨ q ∈ ps := by
  induction ms with
  | nil => exact ⟨[], rfl, by simp⟩
  | cons m ms ih =>
    obtain ⟨ps', e, hs⟩ := ih fun y hy => h y (List.mem_cons_of_mem _ hy)
    rcases h m List.mem_cons_self with rfl | hm
    · refine ⟨(c, p) :: ps', by rw [List.map_cons, e], fun q hq => ?_⟩
      rcases List.mem_cons.mp hq with rfl | hq
      · exact .inl rfl
      · exact hs q hq
    · obtain ⟨r, hr, rfl⟩ := List.mem_map.mp hm
      refine ⟨r :: ps', by rw [List.map_cons, e], fun q hq => ?_⟩
      rcases List.mem_cons.mp hq with rfl | hq
      · exact .inr hr
      · exact hs q hq
theorem keys_lm {ps : List Pm} {p : Kl} : toL p ∈ (ps.map lm).map (·.2) ↔ p ∈ ps.map (·.2) := by
  constructor
  · intro h
    obtain ⟨m, hm, e⟩ := List.mem_map.mp h
    obtain ⟨q, hq, rfl⟩ := List.mem_map.mp hm
    exact List.mem_map.mpr ⟨q, hq, toL_inj e⟩
  · intro h
    obtain ⟨q, hq, rfl⟩ := List.mem_map.mp h
    exact List.mem_map.mpr ⟨lm q, List.mem_map.mpr ⟨q, hq, rfl⟩, rfl⟩
end
/-- what a set is behind adding -/
def Added (c : Addr) (p : Kl) (ps ps' : List Pm) : Prop := (∀ q ∈ ps', q = (c, p) ∨ q ∈ ps) ∧ (∀ k, k ∈ ps'.map (·.2) ↔ k = p ∨ k ∈ ps.map (·.2)) ∧ (ps'.map (·.2)).Nodup
section
variable {X : Cx}
theorem tk_of {pins : List (Addr × Obj)} {σ : L2.St} {H : Hp} {sh : Shared} {b : Addr} {p : Kl} (J : Inv X pins σ H sh) (h : SqT X.K H b (kvs p)) : Tk X.prog X.w sh.heap (toL p) b := by
  obtain ⟨its, rv, ⟨ob, go, gc, num, gd⟩, _⟩ := J.tuple h
  refine ⟨ob, its.toArray, num, go, gc, gd, ?_⟩
  unfold kvs at rv
  cases rv with
  | cons r1 rr =>
    obtain ⟨tk, rfl⟩ := r1
    exact .cons (mixKind_str X.prog X.w _ tk) (items_mix rr)
theorem addL {pins : List (Addr × Obj)} {σ : L2.St} {H : Hp} {sh : Shared} {er : Value → Shared → Prop} {d c : Addr} {p : Kl} {ps : List Pm} {R : Value → Shared → Prop} (J : Inv X pins σ H sh) (hu : X.A.units + 64 < cLine) (gd : H d = some (LO X.prog X.w d ps)) (hc : SqT X.K H c (kvs p))
    (hps : ∀ q ∈ ps, SqT X.K H q.1 (kvs q.2)) (few : ps.length + 1 < 64) (h : ∀ z ps', Inv X pins σ (upd H d (LO X.prog X.w d ps')) z → Added c p ps ps' → R .none z) : wpAny (model X.prog X.w) X.A (call (.builtin "set.add") [.ref d, .ref c]) R er sh := by
  have s0 : L0 X.prog X.w sh.heap d ps := (J.hok d _ gd).1
  obtain ⟨rs, num, tb, S⟩ := s0.full fun q hq => tk_of J (hps q hq)
  refine add_call S (tk_of J hc) hu (by rw [List.length_map]; exact few) fun hp' tk ms' rs' num' tb' sb S' cs => ?_
  have memb : ∀ m ∈ ms', m = lm (c, p) ∨ m ∈ ps.map lm := fun m hm => by
    rcases cs with ⟨_, rfl⟩ | ⟨_, pm⟩
    · exact .inr hm
    · rcases List.mem_cons.mp (pm.mem_iff.mp hm) with z | z
      · exact .inl z
      · exact .inr z
  obtain ⟨ps', rfl, hs⟩ := pm_of memb
  have he : ∃ u, hp'.get? d = some u := by
    obtain ⟨ob, go, _⟩ := S'.obj
    exact ⟨ob, go⟩
  refine h _ ps' (J.write (e := d) (t' := tk) (by rw [gd]; trivial) (.inl rfl) (fun b u hb hu => (sb.2 b hb).trans hu) he (lo_new S'.l0)) ⟨hs, fun k => ?_, dif_iff.mp S'.dif⟩
  · rw [← keys_lm, ← keys_lm]
    rcases cs with ⟨h1, h2⟩ | ⟨h1, pm⟩
    · rw [h2]
      constructor
      · exact .inr
      · rintro (rfl | z)
        · exact h1
        · exact z
    · rw [(pm.map (·.2)).mem_iff, List.map_cons, List.mem_cons]
      constructor
      · rintro (z | z)
        · exact .inl (toL_inj z)
        · exact .inr z
      · rintro (rfl | z)
        · exact .inl rfl
        · exact .inr z
/-- sorted of the set -/
def rSortS (K : PySem.W.Frag) (pg : Program) (wd : World) : List V → Hp → VK → Prop := fun vs H Q => ∃ (a : Addr) (ps : List Pm), vs = [V.ref a] ∧ H a = some (LO pg wd a ps) ∧ (∀ q ∈ ps, SqT K H q.1 (kvs q.2)) ∧
  ∀ (ps' : List Pm) p, ps'.Perm ps → ps'.Pairwise (fun q r => ltK q.2 r.2 = true) → H p = none → Q (.ref p) (upd H p (.lst (ps'.map fun q => V.ref q.1)))
theorem strict {ps : List Pm} (h : ps.Pairwise fun q r => ltK r.2 q.2 = false) (nd : (ps.map (·.2)).Nodup) : ps.Pairwise fun q r => ltK q.2 r.2 = true := by
  have h2 := List.pairwise_map.mp nd
  refine (h.and h2).imp fun {q r} ⟨a, b⟩ => ?_
  cases e : ltK q.2 r.2 with
  | true => rfl
  | false => exact absurd (ltK_tot _ _ e a) b
theorem cr_sortS (hc : X.calm = true) : CallR X (.builtin "sorted") (rSortS X.K X.prog X.w) := by
  intro pins sh σ H vs us Q J r h
  obtain ⟨a, ps, rfl, ga, hps, q⟩ := h
  have s0 : L0 X.prog X.w sh.heap a ps := (J.hok a _ ga).1
  obtain ⟨rs, num, tb, S⟩ := s0.full fun q hq => tk_of J (hps q hq)
  rw [Vals.ref1 r]
  refine sorted_set S (J.ok.hd hc) fun z p out c ps' kp g o hp hg hout pm pw => ?_
  have few := S.few
  rw [List.length_map, ← pm.length_eq] at few
  have hn : H p = none := J.hok.fresh hp
  have vals : ∀ l : List Pm, Vals (l.map fun q => V.ref q.1) (l.map fun q => Value.ref q.1) := fun l => by
    induction l with
    | nil => exact .nil
    | cons q l ih => exact .cons rfl ih
  have J2 : Inv X pins σ (upd H p (.lst (ps'.map fun q => V.ref q.1))) { sh with heap := z.heap, gens := z.gens, drawn := z.drawn, toks := z.toks } :=
    J.call (ch := []) (Un.laid kp hp hn) (J.hok.laid kp hp ⟨by rw [List.length_map, sizeLine_eq]; omega, out.toList, c, by rw [hout]; exact vals ps', hg⟩) (by rw [g]; exact J.bare) fun _ y => nomatch y
  have e : z = { sh with heap := z.heap, gens := z.gens, drawn := z.drawn, toks := z.toks } := by
    cases z
    cases sh
    cases o
    rfl
  rw [e]
  exact ⟨.ref p, _, J2, rfl, q ps' p pm (strict pw ((pm.map (·.2)).nodup_iff.mpr s0.ex.choose_spec.choose_spec.choose_spec.2.2.2.1)) hn⟩
end
end LS

/-! LS6: {letter for target in iter if ..} -/
namespace LS
open PySem PySem.Spec PyProof.Rows L2
section
variable {X : Cx}
/-- what each turn must show -/
def tSl (K : PySem.W.Frag) (pg : Program) (wd : World) (wi : TI) (g : TG) (tt : TT) (te : TE) (vs : List Nat) : TE := fun σ H Q => wi σ H fun J H1 => ∀ d, H1 d = none → ∃ W : Nat → Nat → Hp → Prop, (∃ m, W 0 m (upd H1 d (LO pg wd d []))) ∧ ∀ i m H, W i m H →
  (J.stop i H ∧ Q (.ref d) H) ∨ (J.go i H ∧ ∃ Nx : Hp → Prop, (∀ H', Nx H' → ∃ m', m' < m ∧ W (i + 1) m' H') ∧ ∀ x H', J.yld i H x H' → g x (wipe σ vs) H' fun σ2 H2 => wipe σ2 vs = wipe σ vs ∧ tt σ2 H2 fun b H3 =>
    if b = true then te σ2 H3 fun y H4 => ∃ (c : Addr) (p : Kl) (ps : List Pm), y = .ref c ∧ SqT K H4 c (kvs p) ∧ H4 d = some (LO pg wd d ps) ∧ (∀ q ∈ ps, SqT K H4 q.1 (kvs q.2)) ∧ ps.length + 1 < 64 ∧ ∀ ps', Added c p ps ps' → Nx (upd H4 d (LO pg wd d ps')) else Nx H3)
theorem sl_run {pins : List (Addr × Obj)} {sh : Shared} {σ : L2.St} {H : Hp} {Q : VK} {el tg it0 : Expr} {ifs : List Expr} {sc : Scope} {own : List (PySem.Str × Nat)} {pos pos' : Pos} {wi : TI} {g : TG} {tt : TT} {te : TE} {Qf : Value → Shared → Prop} {use : Option (Value → Sem Unit)}
    (calm : X.calm = true) (hu : X.A.units + 64 < cLine) (nd : X.N.Nodup) (J : Inv X pins σ H sh) (hi : PI X tg it0 wi) (ok : BlkOk X.N X.env.scope sc own)
    (hg : ∀ (s : Shared) (H : Hp) (C : Addr) (cl : List (PySem.Str × Addr)) (fp : List Addr), PG (X.blk s H sc (compEnvC sc cl C X.env) fp) tg g)
    (ht : ∀ (s : Shared) (H : Hp) (C : Addr) (cl : List (PySem.Str × Addr)) (fp : List Addr), PTs (X.blk s H sc (compEnvC sc cl C X.env) fp) ifs tt)
    (he : ∀ (s : Shared) (H : Hp) (C : Addr) (cl : List (PySem.Str × Addr)) (fp : List Addr), PE (X.blk s H sc (compEnvC sc cl C X.env) fp) el te) (hs : ∀ x, foldedSetIterable it0 X.env x = pure x)
    (h : tSl X.K X.prog X.w wi g tt te (own.map (·.2)) σ H Q)
    (out : ∀ d C z m H', Inv X pins σ H' z → Q (.ref d) H' → z.heap.Ns C m → FpOk X pins H' C → compPost (model X.prog X.w) X.A X.xe use Qf (.ref d) C (.ok .next) z) :
    wpAny (model X.prog X.w) X.A (comprehension (.SetComp el [⟨tg, it0, ifs, 0⟩] sc pos) sc X.env pos' (newSet (.type "set")) false (eval it0 X.env) use) Qf X.xe sh := by
  have free' : ∀ y ∈ sc.names, y.2 = .free → ∃ c, X.env.cells.lookup y.1 = some c := fun y hy e => (ok.free y hy e).elim (fun k => J.ok.has _ (.inl k)) fun k => J.ok.has _ (.inr k)
  refine wpAny_comprehension_free (use := use) rfl hs (closure_ok free') ok.kind (fun y hy e => by rw [ok.uniq y hy, e]) (thn (hi.run pins sh σ H _ J h) fun xv z1 hx => thn hx fun iv z2 h2 => ?_)
  obtain ⟨ia, fp, tn, It, H2, rfl, J2, T, st2, f2, q⟩ := h2
  refine PpSet.newSet_ok (newEnv_comp ?_)
  generalize hd : z2.heap.objs.size = d
  have dn : H2 d = none := J2.hok.fresh (Nat.le_of_eq hd)
  obtain ⟨W, ⟨m0, w0⟩, turn⟩ := q d dn
  generalize ez : ({ z2 with heap := z2.heap.push { cls := .type "set", dict := none, data := .set #[] 0 (.fresh 0 0 (!X.w.params.followText "set-order")) } } : Shared) = z3
  have hz3 : z3.heap = z2.heap.push { cls := .type "set", dict := none, data := .set #[] 0 (.fresh 0 0 (!X.w.params.followText "set-order")) } := by rw [← ez]
  have J3 : Inv X pins σ (upd H2 d (LO X.prog X.w d [])) z3 := by
    rw [← ez]
    refine J2.laid (t' := z2.toks) (fun b o e => Heap.get?_push_of_some _ e) (Nat.le_of_eq hd) ?_
    rw [← hd]
    exact lo_new (l0_fresh _)
  have small : ∀ b ∈ fp, b < z2.heap.objs.size := fun b hb => by
    obtain ⟨o, e, _⟩ := T.obj _ _ st2 b hb
    exact Heap.lt_size e
  have f3 : ∀ b ∈ fp, FpOk X pins (upd H2 d (LO X.prog X.w d [])) b ∧ b < z3.heap.objs.size := fun b hb => by
    have lt := small b hb
    have e1 : upd H2 d (LO X.prog X.w d []) b = H2 b := upd_ne (by rw [← hd]; exact Nat.ne_of_lt lt)
    refine ⟨⟨by rw [e1]; exact (f2 b hb).1, (f2 b hb).2⟩, ?_⟩
    rw [hz3, Heap.size_push]
    exact Nat.lt_succ_of_lt lt
  have st3 : tn 0 z3.heap := T.keep _ _ _ st2 fun b _ o e => by
    rw [hz3]
    exact Heap.get?_push_of_some _ e
  have J4 := block_start J3 ok nd f3
  have pg := hg z3 (upd H2 d (LO X.prog X.w d [])) z3.heap.objs.size (cellsFrom (z3.heap.objs.size + 1) sc.names (cloFrom X.env.cells sc.names [])) fp
  have pt := ht z3 (upd H2 d (LO X.prog X.w d [])) z3.heap.objs.size (cellsFrom (z3.heap.objs.size + 1) sc.names (cloFrom X.env.cells sc.names [])) fp
  have pe := he z3 (upd H2 d (LO X.prog X.w d [])) z3.heap.objs.size (cellsFrom (z3.heap.objs.size + 1) sc.names (cloFrom X.env.cells sc.names [])) fp
  show codeAny _ _ (.compStart (.SetComp el [⟨tg, it0, ifs, 0⟩] sc pos) 0 (.ref ia) (.ref d) (compEnvC sc (cellsFrom (z3.heap.objs.size + 1) sc.names (cloFrom X.env.cells sc.names [])) z3.heap.objs.size X.env)) (compPost (model X.prog X.w) X.A X.xe use Qf (.ref d) z3.heap.objs.size) { z3 with heap := pushCells (z3.heap.push { cls := .type "dict", data := .dict #[] }) sc.names }
  have n3 : ∀ b ∈ fp, (upd H2 d (LO X.prog X.w d [])) b = none := fun b hb => (f3 b hb).1.1
  generalize hce : compEnvC sc (cellsFrom (z3.heap.objs.size + 1) sc.names (cloFrom X.env.cells sc.names [])) z3.heap.objs.size X.env = ce at J4 pg pt pe ⊢
  have cl : ce.locals = z3.heap.objs.size := by
    subst hce
    rfl
  generalize upd H2 d (LO X.prog X.w d []) = H3 at J3 J4 pg pt pe w0 n3 f3
  generalize hz4 : ({ z3 with heap := pushCells (z3.heap.push { cls := .type "dict", data := .dict #[] }) sc.names } : Shared) = z4 at J4 ⊢
  have st4 : tn 0 z4.heap := T.keep _ _ _ st3 fun b _ o e => by
    rw [← hz4]
    exact pushCells_keeps _ _ _ _ (Heap.get?_push_of_some _ e)
  have stay : ∀ {σ' : L2.St} {H' : Hp} {z : Shared}, Inv (X.blk z3 H3 sc ce fp) [] σ' H' z → (∀ b ∈ fp, H' b = none) → ∀ b ∈ fp, FpOk (X.blk z3 H3 sc ce fp) [] H' b := fun {σ' H' z} J' hn b hb =>
    ⟨hn b hb, (J'.ok.exf b hb).1, J'.ok.exfs b hb, .inl hb, fun x c e => (J'.ok.exf b hb).2 x c e, fun p hp => absurd (show p ∈ ([] : List (Addr × Obj)) ++ [] from hp) (by simp)⟩
  have loop : codeAny (model X.prog X.w) X.A (.compLoop (.SetComp el [⟨tg, it0, ifs, 0⟩] sc pos) 0 (.ref ia) (.ref d) ce) (compPost (model X.prog X.w) X.A X.xe use Qf (.ref d) z3.heap.objs.size) z4 := by
    refine PpSet.compLoopS_any (fun n z => ∃ i H', Inv (X.blk z3 H3 sc ce fp) [] (wipe σ (own.map (·.2))) H' z ∧ tn i z.heap ∧ (∀ b ∈ fp, H' b = none) ∧ W i n H') ?_ m0 ⟨0, H3, J4, st4, n3, w0⟩
    rintro n z5 ⟨i, H5, J5, st5, n5, w5⟩
    rcases turn i n H5 w5 with ⟨stop, qq⟩ | ⟨go, Nx, hNx, step⟩
    · have td := T.done (X.blk z3 H3 sc ce fp) rfl rfl rfl calm i [] z5 _ H5 (fun _ _ => False) J5 (stay J5 n5) st5 stop
      refine thnF td fun r z6 ⟨hr, J6⟩ => ?_
      subst hr
      have J7 : Inv X pins σ H5 z6 := J3.call' (ch := fp) J6.os J6.base J6.hok J6.bare fun b hb =>
        ⟨(f3 b hb).1.2.2.2.1, (f3 b hb).1.2.1, (f3 b hb).1.2.2.2.2.1, (f3 b hb).1.2.2.2.2.2⟩
      have nC : H5 z3.heap.objs.size = none := by
        have y : H5 ce.locals = none := J6.free
        rwa [cl] at y
      obtain ⟨m, hn, _⟩ := J6.loc
      have hn : z6.heap.Ns ce.locals m := hn
      rw [cl] at hn
      exact out d z3.heap.objs.size z6 m H5 J7 qq hn (J3.fpOk (Nat.le_refl _) nC)
    · have ti := T.item (X.blk z3 H3 sc ce fp) rfl rfl rfl calm i [] z5 _ H5 (fun _ _ => False) J5 (stay J5 n5) st5 go
      refine thnF ti fun r z6 ⟨u, hr, h6⟩ => ?_
      subst hr
      refine thnF h6 fun _ z7 ⟨x, H7, J7, r7, y7, st7, n7⟩ => ?_
      have J7' := J7.pinned (stay J7 n7) (T.obj _ _ st7)
      refine thnF (pg.run _ z7 _ H7 x u _ J7' r7 (step x H7 y7)) fun _ z8 ⟨σ8, H8, J8, hw8, q8⟩ => thnF (pt.run _ z8 σ8 H8 _ J8 q8) fun b z9 ⟨H9, J9, q9⟩ => ?_
      have fin : ∀ {z : Shared} {H' : Hp}, Inv (X.blk z3 H3 sc ce fp) ([] ++ pinsAt fp z7.heap) σ8 H' z → Nx H' → ∃ m, m < n ∧ ∃ i H', Inv (X.blk z3 H3 sc ce fp) [] (wipe σ (own.map (·.2))) H' z ∧ tn i z.heap ∧ (∀ b ∈ fp, H' b = none) ∧ W i m H' := fun {z H'} J' nx => by
        obtain ⟨m', hm, w'⟩ := hNx H' nx
        have pin' : ∀ b ∈ fp, ∀ o, z7.heap.get? b = some o → z.heap.get? b = some o ∧ H' b = none := fun b hb o e =>
          let y := J'.pin (b, o) (List.mem_append_right _ (List.mem_append_right _ (mem_pinsAt hb e)))
          ⟨y.1, y.2.1⟩
        have hl : (wipe σ (own.map (·.2))).length = σ8.length := by rw [← hw8, wipe_length]
        refine ⟨m', hm, i + 1, H', (J'.unpinned (pins := [])).weak hl (fun j v e => ?_), T.keep _ _ _ st7 fun b hb o e => (pin' b hb o e).1, fun b hb => ?_, w'⟩
        · rw [← hw8] at e
          exact (wipe_some e).1
        · obtain ⟨o, e, _⟩ := T.obj _ _ st7 b hb
          exact (pin' b hb o e).2
      cases b with
      | false =>
        simp only [Bool.false_eq_true, if_false] at q9 ⊢
        exact fin J9 q9
      | true =>
        simp only [if_true] at q9 ⊢
        refine thnF (pe.run _ z9 σ8 H9 _ J9 q9) fun y z10 ⟨yv, H10, J10, r10, c, p, ps, ey, hcp, gd, hps, few, nx⟩ => ?_
        subst ey
        cases (show y = Value.ref c from r10)
        exact addL (X := X.blk z3 H3 sc ce fp) J10 hu gd hcp hps few fun z11 ps' J11 ad => fin J11 (nx ps' ad)
  exact PpSet.codeAny_compStart_set loop (T.self X.A 0 _ _ _ st4 loop)
theorem pe_sl {el tg it0 : Expr} {ifs : List Expr} {sc : Scope} {own : List (PySem.Str × Nat)} {pos : Pos} {wi : TI} {g : TG} {tt : TT} {te : TE} (calm : X.calm = true) (hu : X.A.units + 64 < cLine) (nd : X.N.Nodup) (hi : PI X tg it0 wi) (ok : BlkOk X.N X.env.scope sc own)
    (hg : ∀ (s : Shared) (H : Hp) (C : Addr) (cl : List (PySem.Str × Addr)) (fp : List Addr), PG (X.blk s H sc (compEnvC sc cl C X.env) fp) tg g)
    (ht : ∀ (s : Shared) (H : Hp) (C : Addr) (cl : List (PySem.Str × Addr)) (fp : List Addr), PTs (X.blk s H sc (compEnvC sc cl C X.env) fp) ifs tt)
    (he : ∀ (s : Shared) (H : Hp) (C : Addr) (cl : List (PySem.Str × Addr)) (fp : List Addr), PE (X.blk s H sc (compEnvC sc cl C X.env) fp) el te) (hs : ∀ x, foldedSetIterable it0 X.env x = pure x := by intro _; rfl) :
    PE X (.SetComp el [⟨tg, it0, ifs, 0⟩] sc pos) (tSl X.K X.prog X.w wi g tt te (own.map (·.2))) := by
  refine ⟨fun pins sh σ H Q J h => ?_⟩
  rw [PpSet.eval_SetComp]
  refine sl_run calm hu nd J hi ok hg ht he hs h fun d C z m H' J' q hn f => ⟨m, hn, fun hp sb => ?_⟩
  obtain ⟨f0, f1, f2, f3, f4, f5⟩ := f
  exact ⟨.ref d, H', J'.turned (t' := z.toks) (fun b o hb e => (sb.2 b hb).trans e) f0 f1 f3 f4 f5, rfl, q⟩
end
end LS

/-! the letters of a word, in letter order -/
namespace DL
open PySem PySem.Spec L2 LS
def kl (l : Letter) : Kl := (l.nm.val, l.hs)
theorem kl_inj {l m : Letter} (h : kl l = kl m) : l = m := by
  obtain ⟨n, as⟩ := l
  obtain ⟨k, bs⟩ := m
  unfold kl at h
  injection h with h1 h2
  have e1 : n = k := Fin.ext h1
  dsimp only at h2
  rw [e1, h2]
/-- letter order -/
def LtL (l m : Letter) : Prop := ltK (kl l) (kl m) = true
instance (l m : Letter) : Decidable (LtL l m) := inferInstanceAs (Decidable (_ = true))
theorem LtL.irr (l : Letter) : ¬ LtL l l := fun h => by
  unfold LtL at h
  rw [ltK_irr] at h
  cases h
theorem LtL.asym {l m : Letter} (h : LtL l m) : ¬ LtL m l := fun h2 => by
  have := ltK_asym _ _ h
  unfold LtL at h2
  rw [this] at h2
  cases h2
theorem LtL.trans {l m n : Letter} (h1 : LtL l m) (h2 : LtL m n) : LtL l n := by
  unfold LtL at *
  cases e : ltK (kl l) (kl n) with
  | true => rfl
  | false =>
    have a := ltK_asym _ _ h2
    have b := ltK_tr _ _ _ a e
    rw [h1] at b
    cases b
theorem LtL.tot {l m : Letter} (h1 : ¬ LtL l m) (h2 : ¬ LtL m l) : l = m := kl_inj (ltK_tot _ _ (by
  unfold LtL at h1
  cases e : ltK (kl l) (kl m) with
  | true => exact absurd e h1
  | false => rfl) (by
  unfold LtL at h2
  cases e : ltK (kl m) (kl l) with
  | true => exact absurd e h2
  | false => rfl))
def lof (k : Kl) : Letter := ⟨⟨k.1 % 128, Nat.mod_lt _ (by decide)⟩, k.2⟩
theorem lof_kl (l : Letter) : lof (kl l) = l := by
  obtain ⟨⟨n, hn⟩, as⟩ := l
  unfold lof kl
  simp only [Nat.mod_eq_of_lt hn]
theorem nodup_le {α : Type} [DecidableEq α] : ∀ {l m : List α}, l.Nodup → (∀ x ∈ l, x ∈ m) → l.length ≤ m.length
  | [], _, _, _ => Nat.zero_le _
  | x :: l, m, hn, hs => by
    obtain ⟨h1, h2⟩ := List.nodup_cons.mp hn
    have hx := hs x List.mem_cons_self
    have ih := nodup_le (l := l) (m := m.erase x) h2 fun y hy => (List.mem_erase_of_ne (fun e => by subst e; exact h1 hy)).mpr (hs y (List.mem_cons_of_mem _ hy))
    have := List.length_erase_of_mem hx
    have := List.length_pos_of_mem hx
    rw [List.length_cons]
    omega
/-- sorted({letter for letter, _ in x}) -/
def dSortL (x : D) : Store → DQ → Prop := fun st Q => ∃ w : Word, x = dW w ∧ (∃ ds : List Letter, ds.length < 60 ∧ ∀ r ∈ w, r.1 ∈ ds) ∧ ∀ ls : List Letter, ls.Pairwise LtL → (∀ l, l ∈ ls ↔ ∃ r ∈ w, r.1 = l) → Q (.ref st.length) (st ++ [.lst (ls.map dL)])
def dLettersOf (k i j : Nat) : DTE := fun env st Q => (i < env.length ∧ j < env.length ∧ i ≠ j) ∧ dVar k env st fun x st1 => dSortL x st1 Q
section
variable {K : PySem.W.Frag}
theorem rep_kvs {ρ : List Addr} {H : Hp} {l : Letter} {v : V} (h : Rep K ρ H (dL l) v) : ∃ c, v = .ref c ∧ SqT K H c (kvs (kl l)) := by
  obtain ⟨c, us, rfl, hs, hr⟩ := rep_tup h
  unfold Reps at hr
  obtain ⟨u, r, rfl, h1, h2⟩ := hr
  rw [rep_str h1, reps_ints h2] at hs
  exact ⟨c, rfl, hs⟩
theorem reps_ofints {ρ : List Addr} {H : Hp} : ∀ ns : List Int, Reps K ρ H (ns.map D.int) (ns.map V.int)
  | [] => Reps.nil
  | n :: ns => .cons (.int n) (reps_ofints ns)
theorem rep_ofkvs {ρ : List Addr} {H : Hp} {l : Letter} {c : Addr} (h : SqT K H c (kvs (kl l))) : Rep K ρ H (dL l) (.ref c) := by
  unfold dL Rep
  refine ⟨c, _, rfl, h, ?_⟩
  exact .cons (by unfold Rep; rfl) (reps_ofints _)
theorem ne_lo [Bs] {ρ : List Addr} {H : Hp} {st : Store} {pg : Program} {wd : World} {d : Addr} {ps : List Pm} (r : RelS K ρ H st) (gd : H d = some (LO pg wd d ps)) {k : Nat} {a : Addr} {o : O} (e : ρ[k]? = some a) (h : st[k]? = some o) : a ≠ d := by
  have q := r.at e h
  rintro rfl
  cases o with
  | lst xs =>
    obtain ⟨vs, e2, _⟩ := q
    rw [gd] at e2
    unfold LO at e2
    cases e2
  | ins c fs =>
    obtain ⟨C, dx, vs, e2, _⟩ := q
    rw [gd] at e2
    unfold LO at e2
    cases e2
theorem keep_lo {ρ : List Addr} {H : Hp} {pg : Program} {wd : World} {d : Addr} {ps ps' : List Pm} (gd : H d = some (LO pg wd d ps)) : Keep ρ ρ H (upd H d (LO pg wd d ps')) :=
  ⟨⟨[], by simp⟩, fun b xs e => by rw [upd_ne (ne_of e gd (by intro z; unfold LO at z; cases z))]; exact e, fun b ob u e => by rw [upd_ne (ne_of e gd (by intro z; unfold LO at z; cases z))]; exact e, fun b fs e => by rw [upd_ne (ne_of e gd (by intro z; unfold LO at z; cases z))]; exact e⟩
theorem rels_lo [Bs] {ρ : List Addr} {H : Hp} {st : Store} {pg : Program} {wd : World} {d : Addr} {ps ps' : List Pm} (r : RelS K ρ H st) (gd : H d = some (LO pg wd d ps)) : RelS K ρ (upd H d (LO pg wd d ps')) st :=
  ⟨r.len, r.nd, fun k o e => let ⟨a, e2, q⟩ := r.ob k o e; ⟨a, e2, repO_keep q (keep_lo gd) fun u h => by rw [upd_ne (ne_lo r gd e2 e)]; exact h⟩, Bs.kl (keep_lo gd) r.bs⟩
theorem sim_letters [Bs] {pg : Program} {wd : World} {k i j : Nat} {vs : List Nat} (iv : i ∈ vs) (jv : j ∈ vs) :
    Sim K (tCB (rSortS K pg wd) (tCons (tSl K pg wd (iSeq K (tVar k)) (gTup K 2 (gCons (gName i) (gCons (gName j) gNil))) tYes (tVar i) vs) tNil)) (dLettersOf k i j) := by
  intro ρ env st σ H Q W rs re q w
  obtain ⟨⟨il, jl, ij⟩, q⟩ := q
  unfold tCB tCons LS.tSl iSeq
  refine sim_var ρ env st σ H _ _ rs re q fun v H1 ⟨ρ1, dx, st1, k1, r1, px, q1⟩ => ?_
  obtain ⟨u, rfl, ⟨ds, dn, hds⟩, q1⟩ := q1
  obtain ⟨a, us, rfl, hs, hr⟩ := rep_tup px
  have ul : u.length = us.length := by rw [← hr.len, List.length_map]
  refine .inl ⟨a, rfl, .inr ⟨⟨us, hs⟩, fun d hd => ?_⟩⟩
  -- after n runs
  let Z : Nat → Hp → Prop := fun n H' => ∃ ps : List Pm, Keep ρ1 ρ1 H1 H' ∧ RelS K ρ1 H' st1 ∧ H' d = some (LO pg wd d ps) ∧ (∀ q ∈ ps, SqT K H' q.1 (kvs q.2)) ∧ (ps.map (·.2)).Nodup ∧ ∀ p, p ∈ ps.map (·.2) ↔ ∃ r ∈ u.take n, kl r.1 = p
  refine ⟨fun n m H' => m = us.length - n ∧ n ≤ us.length ∧ Z n H', ⟨us.length, rfl, Nat.zero_le _, [], keep_new hd, r1.new hd, upd_same, by simp, by simp, by simp⟩, fun n m H' hW => ?_⟩
  obtain ⟨rfl, hn, ps, kk, rr, gd, hps, nd, hk⟩ := hW
  have hs' := kk.sqt hs
  have fewp : ps.length < 60 := by
    have h1 : (ps.map (·.2)).length ≤ (ds.map kl).length := nodup_le nd fun p hp => by
      obtain ⟨r, hr, rfl⟩ := (hk p).mp hp
      exact List.mem_map.mpr ⟨r.1, hds r (List.mem_of_mem_take hr), rfl⟩
    rw [List.length_map, List.length_map] at h1
    omega
  by_cases hlt : n < us.length
  · obtain ⟨x, hx⟩ : ∃ x, us[n]? = some x := ⟨_, List.getElem?_eq_getElem hlt⟩
    refine .inr ⟨⟨us, x, hs', hx⟩, Z (n + 1), fun H2 h2 => ⟨us.length - (n + 1), by omega, rfl, hlt, h2⟩, fun y H2 hy => ?_⟩
    obtain ⟨rfl, hy⟩ := hy
    have ey := hy us hs'
    rw [hx] at ey
    cases ey
    obtain ⟨r, hur⟩ : ∃ r, u[n]? = some r := ⟨_, List.getElem?_eq_getElem (by omega)⟩
    obtain ⟨x', hx', rx⟩ := hr.get (show (u.map dRun)[n]? = some (dRun r) by rw [List.getElem?_map, hur]; rfl)
    rw [hx] at hx'
    cases hx'
    obtain ⟨b, ws, rfl, hb, hwr⟩ := rep_tup (rx.keep kk)
    unfold Reps at hwr
    obtain ⟨y1, t1, rfl, h1, hwr⟩ := hwr
    unfold Reps at hwr
    obtain ⟨y2, t2, rfl, h2, hwr⟩ := hwr
    unfold Reps at hwr
    subst hwr
    obtain ⟨c, rfl, hc⟩ := rep_kvs h1
    refine ⟨b, [V.ref c, y2], rfl, hb, rfl, V.ref c, [y2], rfl, y2, [], rfl, rfl, ?_⟩
    have wl : (wipe σ vs).length = σ.length := wipe_length σ vs
    have sl := re.len
    refine ⟨by rw [wipe_set jv, wipe_set iv, wipe_wipe], ?_⟩
    unfold tYes
    simp only [if_true]
    unfold tVar
    refine ⟨V.ref c, ?_, c, kl r.1, ps, rfl, hc, gd, hps, by omega, fun ps' ad => ?_⟩
    · rw [List.getElem?_set_ne (fun e => ij e.symm), List.getElem?_set_self (by rw [wl]; omega)]
    · obtain ⟨a1, a2, a3⟩ := ad
      have kd := keep_lo (ρ := ρ1) (ps' := ps') gd
      refine ⟨ps', kk.trans kd, rels_lo rr gd, upd_same, fun q hq => ?_, a3, fun p => ?_⟩
      · rcases a1 q hq with rfl | hq
        · exact kd.sqt hc
        · exact kd.sqt (hps q hq)
      · rw [a2, hk, List.take_succ, hur]
        constructor
        · rintro (rfl | ⟨s, hs, rfl⟩)
          · exact ⟨r, by simp, rfl⟩
          · exact ⟨s, List.mem_append_left _ hs, rfl⟩
        · rintro ⟨s, hs, rfl⟩
          rcases List.mem_append.mp hs with hs | hs
          · exact .inr ⟨s, hs, rfl⟩
          · have : s = r := by simpa using hs
            subst this
            exact .inl rfl
  · have en : n = us.length := by omega
    subst en
    refine .inl ⟨⟨us, hs', Nat.le_refl _⟩, d, ps, rfl, gd, hps, fun ps' p pm pw hp => ?_⟩
    have hkl : ∀ q ∈ ps', ∃ l, kl l = q.2 ∧ ∃ r ∈ u, r.1 = l := fun q hq => by
      obtain ⟨r, hr, e⟩ := (hk q.2).mp (List.mem_map.mpr ⟨q, pm.mem_iff.mp hq, rfl⟩)
      exact ⟨r.1, e, r, List.mem_of_mem_take hr, rfl⟩
    have reps : ∀ l : List Pm, (∀ q ∈ l, q ∈ ps') → Reps K ρ1 H' ((l.map fun q => lof q.2).map dL) (l.map fun q => V.ref q.1) := fun l => by
      induction l with
      | nil => exact fun _ => Reps.nil
      | cons q l ih =>
        intro hl
        obtain ⟨m, e, _⟩ := hkl q (hl q List.mem_cons_self)
        refine .cons (rep_ofkvs ?_) (ih fun y hy => hl y (List.mem_cons_of_mem _ hy))
        show SqT K H' q.1 (kvs (kl (lof q.2)))
        rw [← e, lof_kl, e]
        exact hps q (pm.mem_iff.mp (hl q List.mem_cons_self))
    have gp : (ρ1 ++ [p])[st1.length]? = some p := by
      rw [List.getElem?_append_right (by rw [rr.len]; exact Nat.le_refl _), rr.len, Nat.sub_self]
      rfl
    refine w _ _ ⟨ρ1 ++ [p], .ref st1.length, st1 ++ [.lst ((ps'.map fun q => lof q.2).map dL)], (k1.trans kk).trans (keep_cell hp), rr.cell hp (reps ps' fun _ h => h), ⟨p, gp, rfl⟩, q1 _ ?_ fun l => ?_⟩
    · rw [List.pairwise_map]
      refine List.Pairwise.imp_of_mem (fun {q r} hq hr h => ?_) pw
      obtain ⟨m, e, _⟩ := hkl q hq
      obtain ⟨m2, e2, _⟩ := hkl r hr
      rw [← e, ← e2] at h ⊢
      rw [lof_kl, lof_kl]
      exact h
    · constructor
      · intro h
        obtain ⟨q, hq, rfl⟩ := List.mem_map.mp h
        obtain ⟨m, e, r, hr, e2⟩ := hkl q hq
        refine ⟨r, hr, ?_⟩
        rw [← e, lof_kl, e2]
      · rintro ⟨r, hr, rfl⟩
        have : kl r.1 ∈ ps.map (·.2) := (hk _).mpr ⟨r, by rw [← ul, List.take_length]; exact hr, rfl⟩
        obtain ⟨q, hq, e⟩ := List.mem_map.mp this
        refine List.mem_map.mpr ⟨q, pm.mem_iff.mpr hq, ?_⟩
        rw [e, lof_kl]
theorem se_letters [Bs] {X : Cx} {K : PySem.W.Frag} [hk : HasK X K] {y z x : Str} {i j k : Nat} {py pz pt px ps pc pos pos2 : Pos} {sc : Scope} {n2 : Nat} (hr : X.A.units + 64 < cLine) (hc : X.calm = true) (nd : X.N.Nodup) (hg : Gl X "sorted") (hm : X.mg "sorted" = none)
    (sx : SE X (.Name x px) (tVar k) (dVar k)) (ok : BlkOk X.N X.env.scope sc [(y, i), (z, j)])
    (hgt : ∀ (s : Shared) (H : Hp) (C : Addr) (cl : List (Str × Addr)) (fp : List Addr), PG (X.blk s H sc (compEnvC sc cl C X.env) fp) (.Tuple [.Name y py, .Name z pz] n2 pt) (gTup K 2 (gCons (gName i) (gCons (gName j) gNil))))
    (hel : ∀ (s : Shared) (H : Hp) (C : Addr) (cl : List (Str × Addr)) (fp : List Addr), PE (X.blk s H sc (compEnvC sc cl C X.env) fp) (.Name y ps) (tVar i)) :
    SE X (.Call (.Name "sorted" pc) [.SetComp (.Name y ps) [⟨.Tuple [.Name y py, .Name z pz] n2 pt, .Name x px, [], 0⟩] sc pos2] [] pos) (tCB (rSortS K X.prog X.w) (tCons (tSl K X.prog X.w (iSeq K (tVar k)) (gTup K 2 (gCons (gName i) (gCons (gName j) gNil))) tYes (tVar i) [i, j]) tNil)) (dLettersOf k i j) := by
  obtain rfl := hk.eq
  exact ⟨pe_callB (cr_sortS hc) hg hm rfl (pa_cons (pe_sl hc hr nd (pi_seq sx.pe) ok hgt (fun _ _ _ _ _ => pts_nil) hel) pa_nil), sim_letters (by simp) (by simp)⟩
end
end DL

/-! < of data; sorted lists of data; list.insert -/
namespace DL
open PySem PySem.Spec L2
open LS
open PySem.W (alike alikeAll dataLt rcLt_alike AllAlike Sortable EachIs dataLe keyToksAll)
open PyProof.Rows (itemOrd sortedAll_at sortedAll_old)
def rLtD (K : PySem.W.Frag) : R2 := fun x y H Q => ∃ d e : PyData, Dp K H x d ∧ Dp K H y e ∧ alike d e = true ∧ d ≠ .none ∧ d.depth ≤ 9 ∧ Q (.bl (dataLt d e)) H
theorem op_ltD {X : Cx} (hu : X.A.units + 64 < cLine) : OpR X (compareOp .Lt) (rLtD X.K) := by
  intro pins s σ H x y v u Q I rx ry h
  obtain ⟨d, e, hd, he, al, nn, dp, q⟩ := h
  obtain ⟨as, r1⟩ := Dp.reads I d x v hd rx
  obtain ⟨bs, r2⟩ := Dp.reads I e y u he ry
  exact rcLt_alike d e X.A s v u as bs r1 r2 al nn (by have := Nat.min_le_left d.depth e.depth; omega) X.prog X.w X.xe _ ⟨.bl _, H, I, rfl, q⟩
def dLtD : DR2 := fun x y st Q => match pyd st x, pyd st y with
  | some a, some b => alike a b = true ∧ a ≠ .none ∧ Q (.bl (dataLt a b)) st
  | _, _ => False
theorem sim_ltD [Bs] {K : PySem.W.Frag} : SimR2 K (rLtD K) dLtD := by
  intro ρ st H x y dx dy Q W rs px py q w
  unfold dLtD at q
  split at q
  · rename_i a b e1 e2
    exact ⟨a, b, (pyd_dp rs px e1).1, (pyd_dp rs py e2).1, q.1, q.2.1, (pyd_lay e1).2, w _ H (.of rs (.bl _) q.2.2)⟩
  · exact q.elim
theorem so_ltD [Bs] {X : Cx} {K : PySem.W.Frag} [hk : HasK X K] (hu : X.A.units + 64 < cLine) : SOp X (compareOp .Lt) (rLtD K) dLtD := by
  obtain rfl := hk.eq
  exact ⟨op_ltD hu, sim_ltD⟩
/-! ### letters -/
theorem lex_int_rows : ∀ as bs : List Int, PyProof.Rows.lexLt itemOrd (keyToksAll (as.map .int)) (keyToksAll (bs.map .int)) = lexI as bs
  | [], [] => by
    rw [lexI]
    exact PyProof.Rows.lex_irrefl (O := itemOrd) _
  | [], b :: bs => by rfl
  | a :: as, [] => by rfl
  | a :: as, b :: bs => by
    rw [List.map_cons, List.map_cons, PySem.W.dataLt_cons (x := .int a) (y := .int b) (by rfl), lexI, lex_int_rows as bs, PySem.W.dataLt_int]
    by_cases e : a = b
    · rw [if_pos e, if_pos (by subst e; simp [PyData.eqv])]
    · rw [if_neg e, if_neg (by simp [PyData.eqv, e])]
theorem pys_ints : ∀ ns : List Int, D.pys (ns.map D.int) = ns.map PyData.int
  | [] => rfl
  | n :: ns => by
    rw [List.map_cons, List.map_cons, D.pys, pys_ints ns]
    rfl
theorem all_int_rows : ∀ as bs : List Int, alikeAll (as.map PyData.int) (bs.map PyData.int) = true := PySem.W.alike_ints
theorem py_letter (l : Letter) : (dL l).py = .tuple (.str ⟨#[l.nm.val]⟩ :: l.hs.map PyData.int) := by
  show PyData.tuple (D.pys (D.str _ :: l.hs.map D.int)) = _
  rw [D.pys, pys_ints]
  rfl
theorem like_letters (l m : Letter) : alike (dL l).py (dL m).py = true := by
  rw [py_letter, py_letter, alike, alikeAll, all_int_rows]
  rfl
theorem lt_letters (l m : Letter) : dataLt (dL l).py (dL m).py = decide (LtL l m) := by
  rw [py_letter, py_letter, PySem.W.dataLt_tuple, PySem.W.dataLt_cons (by rfl), lex_int_rows, PySem.W.dataLt_str]
  show _ = decide (ltK (kl l) (kl m) = true)
  unfold ltK kl
  dsimp only
  rw [Bool.decide_eq_true]
  by_cases e : l.nm.val = m.nm.val
  · rw [if_pos (by rw [e]; simp [PyData.eqv]), if_pos e]
  · rw [if_neg (by simp [PyData.eqv, e]), if_neg e]
    have hl : ([l.nm.val] < [m.nm.val]) ↔ l.nm.val < m.nm.val := by
      rw [List.cons_lt_cons_iff]
      simp
    simp only [hl]
theorem pyd_letter {st : Store} (l : Letter) : pyd st (dL l) = some (dL l).py := by
  unfold pyd
  rw [if_pos (fl_L 7 l)]
theorem w_ltL {l m : Letter} {st : Store} {Q : DQ} : dLtD (dL l) (dL m) st Q = Q (.bl (decide (LtL l m))) st := by
  unfold dLtD
  rw [pyd_letter, pyd_letter]
  dsimp only
  rw [like_letters, lt_letters]
  have : (dL l).py ≠ .none := by rw [py_letter]; exact fun h => by cases h
  simp [this]
/-! ### list.insert -/
def dInsert : DRM := fun x ds st Q => match x, ds with
  | .ref k, [.int i, d] => match st[k]? with
    | some (.lst xs) => xs.length < sizeLine ∧ 0 ≤ i ∧ i < 2 ^ 63 ∧ Q .non (st.set k (.lst (xs.take i.toNat ++ [d] ++ xs.drop i.toNat)))
    | _ => False
  | _, _ => False
def rInsert : V → List V → Hp → VK → Prop := fun x vs H Q => ∃ (l : Addr) (xs : List V) (i : Int) (y : V), x = .ref l ∧ vs = [.int i, y] ∧ H l = some (.lst xs) ∧ xs.length < sizeLine ∧ 0 ≤ i ∧ i < 2 ^ 63 ∧
    Q .non (upd H l (.lst (xs.take i.toNat ++ [y] ++ xs.drop i.toNat)))
theorem sim_insert [Bs] {K : PySem.W.Frag} : SimRM K rInsert dInsert := by
  intro ρ st H x dx xs dxs Q W rs px pxs q w
  unfold dInsert at q
  split at q
  · rename_i k i d
    obtain ⟨a, ha, rfl⟩ := rep_ref px
    unfold Reps at pxs
    obtain ⟨v1, r1, rfl, h1, pxs⟩ := pxs
    obtain ⟨v, rfl, pv⟩ := pxs.one
    rw [rep_int h1]
    split at q
    · rename_i ys e
      obtain ⟨vs, hv, hr⟩ := rs.lst ha e
      exact ⟨a, vs, i, v, rfl, rfl, hv, by rw [← hr.len]; exact q.1, q.2.1, q.2.2.1, w _ _ (.put rs ha hv (((hr.take _).app (.cons pv .nil)).app (hr.drop _)) .non q.2.2.2)⟩
    · exact q.elim
  · exact q.elim
section
variable {X : Cx} {o e : Expr} {es : List Expr} {to : TE} {t : TA} {dO : DTE} {da : DTA} {pos apos : Pos}
theorem se_insert [Bs] {K : PySem.W.Frag} [hk : HasK X K] (ho : SE X o to dO) (ha : SA X (e :: es) t da) (hbase : attributeBase o "insert" X.env (eval o X.env) = eval o X.env := by rfl)
    (hfew : ((backTo pos (starEach (e :: es) X.env)).all (fun x => !x.1) && (backToKw pos (keywordEach [] X.env)).all (fun x => x.1.isSome)
      && decide ((e :: es).length + ([] : List Keyword).length + (if ([] : List Keyword).isEmpty then 0 else 1) < 30)) = true := by rfl)
    (hline : (apos.endLine == pos.line) = true := by rfl) (hs : starEach (e :: es) X.env = (false, eval e X.env) :: starEach es X.env := by rfl) (hplain : (backTo pos (starEach es X.env)).any (·.1) = false := by rfl) :
    SE X (.Call (.Attribute o "insert" apos) (e :: es) [] pos) (tBM K "list" rInsert to t) (dBM dInsert dO da) := by
  obtain rfl := hk.eq
  exact ⟨pe_bm PySem.F.plainAttrs_list PySem.F.slot_list_insert PySem.F.type_list_insert mt_insert ho.pe ha.pa hbase hfew hline hs hplain, sim_bm sim_insert ho.sim ha.sim⟩
end
/-! ### sorted -/
def rSortD (K : PySem.W.Frag) : List V → Hp → VK → Prop := fun vs H Q => ∃ a xs ds, vs = [V.ref a] ∧ SqL K H a xs ∧ DpAll K H xs ds ∧ AllAlike ds ∧ Sortable ds ∧ (∀ d ∈ ds, d.depth ≤ 9) ∧
  ∀ zs : List (V × PyData), zs.Perm (xs.zip ds) → zs.Pairwise (fun a b => dataLt b.2 a.2 = false) → ∀ p, H p = none → Q (.ref p) (upd H p (.lst (zs.map (·.1))))
theorem dpAll_len {K : PySem.W.Frag} {H : Hp} : ∀ {xs : List V} {ds : List PyData}, DpAll K H xs ds → xs.length = ds.length
  | _, _, .nil => rfl
  | _, _, .cons _ t => by rw [List.length_cons, List.length_cons, dpAll_len t]
theorem each_of {X : Cx} {pins : List (Addr × Obj)} {σ : L2.St} {H : Hp} {s : Shared} (I : Inv X pins σ H s) : ∀ {xs : List V} {us : List Value} {ds : List PyData}, Vals xs us → DpAll X.K H xs ds → EachIs (fun v (b : V × PyData) => RelV b.1 v ∧ ∃ as, Reads s.heap v b.2 as) us (xs.zip ds)
  | _, _, _, .nil, .nil => .nil
  | _, _, _, .cons r t, .cons d e => by
    rw [List.zip_cons_cons]
    exact .cons ⟨r, Dp.reads I _ _ _ d r⟩ (each_of I t e)
theorem vals_of : ∀ {us : List Value} {zs : List (V × PyData)}, EachIs (fun v (b : V × PyData) => RelV b.1 v) us zs → Vals (zs.map (·.1)) us
  | _, _, .nil => .nil
  | _, _, .cons r t => .cons r (vals_of t)
theorem cr_sortD {X : Cx} (hu : X.A.units + 64 < cLine) : CallR X (.builtin "sorted") (rSortD X.K) := by
  intro pins s σ H vs us Q I r h
  obtain ⟨a, xs, ds, rfl, hs, hd, hal, hk, hdp, q⟩ := h
  obtain ⟨its, rv, hl, hz⟩ := I.list hs
  obtain ⟨u, rfl, ru⟩ := vals1 r
  obtain rfl : u = Value.ref a := ru
  have el := dpAll_len hd
  have ez := each_of I rv hd
  have em : (xs.zip ds).map (·.2) = ds := List.map_snd_zip (by omega)
  refine PySem.W.sorted_data (enc := fun b : V × PyData => b.2) (R := fun v b => RelV b.1 v) hl.isList (ez.mono fun _ _ h => h.1) (ez.mono fun _ _ h => h.2) (by rw [em]; exact hal) (by rw [em]; exact hk) (by rw [List.length_zip]; omega) (fun b hb => ?_) fun out ol eo => ?_
  · have : b.2 ∈ ds := (List.of_mem_zip hb).2
    have := hdp _ this
    omega
  · obtain ⟨n, hn⟩ := sortedAll_at s.heap its out.toArray
    have hsz : s.heap.objs.size ≤ s.heap.objs.size + 1 := Nat.le_succ _
    refine ⟨.ref (s.heap.objs.size + 1), upd H (s.heap.objs.size + 1) (.lst (((xs.zip ds).mergeSort (dataLe false fun b : V × PyData => b.2)).map (·.1))), I.laid (t' := s.toks) (fun _ _ e => sortedAll_old e) hsz ⟨?_, out, n, vals_of eo, hn⟩, rfl, q _ (List.mergeSort_perm _ _) ?_ _ (I.hok.fresh hsz)⟩
    · rw [List.length_map, List.length_mergeSort, List.length_zip]
      omega
    · refine (PySem.W.sort_pairwise (PySem.W.sortLe_total _ _ _) _).imp fun {x y} h => ?_
      have : (!dataLt y.2 x.2) = true := h
      simpa using this
theorem perm_map_ex {α β : Type} {f : α → β} {zs l : List β} (p : zs.Perm l) : ∀ T : List α, l = T.map f → ∃ T' : List α, T'.Perm T ∧ zs = T'.map f := by
  induction p with
  | nil =>
    intro T e
    exact ⟨T, List.Perm.refl _, e⟩
  | cons x p ih =>
    intro T e
    cases T with
    | nil => cases e
    | cons t T =>
      rw [List.map_cons] at e
      have e2 := (List.cons.inj e).2
      obtain rfl := (List.cons.inj e).1
      obtain ⟨T', h1, rfl⟩ := ih T e2
      exact ⟨t :: T', h1.cons t, rfl⟩
  | swap x y l =>
    intro T e
    match T, e with
    | a :: b :: T, e =>
      rw [List.map_cons, List.map_cons] at e
      have e2 := (List.cons.inj e).2
      obtain rfl := (List.cons.inj e).1
      obtain rfl := (List.cons.inj e2).1
      obtain rfl := (List.cons.inj e2).2
      exact ⟨b :: a :: T, List.Perm.swap a b T, rfl⟩
  | trans p1 p2 i1 i2 =>
    intro T e
    obtain ⟨T1, h1, e1⟩ := i2 T e
    obtain ⟨T2, h2, e2⟩ := i1 T1 e1
    exact ⟨T2, h2.trans h1, e2⟩
theorem reps_zip {K : PySem.W.Frag} {ρ : List Addr} {H : Hp} : ∀ {xs : List D} {vs : List V}, Reps K ρ H xs vs → ∀ p ∈ vs.zip xs, Rep K ρ H p.2 p.1
  | [], vs, h, p, hp => by simp at hp
  | x :: xs, vs, h, p, hp => by
    unfold Reps at h
    obtain ⟨u, r, rfl, h1, h2⟩ := h
    rw [List.zip_cons_cons] at hp
    rcases List.mem_cons.mp hp with rfl | hp
    · exact h1
    · exact reps_zip h2 p hp
theorem reps_each {K : PySem.W.Frag} {ρ : List Addr} {H : Hp} : ∀ {T : List (V × D)}, (∀ p ∈ T, Rep K ρ H p.2 p.1) → Reps K ρ H (T.map (·.2)) (T.map (·.1))
  | [], _ => Reps.nil
  | t :: T, h => .cons (h t List.mem_cons_self) (reps_each fun p hp => h p (List.mem_cons_of_mem _ hp))
theorem pys_eq : ∀ xs : List D, D.pys xs = xs.map D.py
  | [] => rfl
  | x :: xs => by rw [D.pys, pys_eq xs]; rfl
theorem dpAll_of {K : PySem.W.Frag} {ρ : List Addr} {H : Hp} : ∀ {ds : List D} {vs : List V}, ds.all (D.fl 8) = true → Reps K ρ H ds vs → DpAll K H vs (D.pys ds)
  | [], vs, _, r => by
    unfold Reps at r
    rw [r]
    exact .nil
  | d :: ds, vs, h, r => by
    unfold Reps at r
    obtain ⟨v, w, rfl, r1, r2⟩ := r
    rw [List.all_cons, Bool.and_eq_true] at h
    exact .cons (fl_dp 8 d v h.1 r1) (dpAll_of h.2 r2)
/-- the list ys stands in order -/
def InOrd (ys : List D) : Prop := ys.Pairwise fun a b => dataLt b.py a.py = false
def dSortD : DRA := fun ds st Q => match ds with
  | [x] => match dItems st x with
    | some xs => xs.all (D.fl 8) = true ∧ (∀ z, x ≠ .str z) ∧ (∀ ys, x ≠ .tup ys) ∧ AllAlike (D.pys xs) ∧ Sortable (D.pys xs) ∧ ∀ ys : List D, ys.Perm xs → InOrd ys → Q (.ref st.length) (st ++ [.lst ys])
    | none => False
  | _ => False
theorem sc_sortD [Bs] {X : Cx} {K : PySem.W.Frag} [hk : HasK X K] (hu : X.A.units + 64 < cLine) : SCl X (.builtin "sorted") (rSortD K) dSortD := by
  obtain rfl := hk.eq
  refine ⟨cr_sortD hu, fun ρ st H xs dxs Q W rs px q w => ?_⟩
  unfold dSortD at q
  split at q
  · rename_i x
    unfold Reps at px
    obtain ⟨v, r, rfl, p1, p2⟩ := px
    unfold Reps at p2
    subst p2
    split at q
    · rename_i ys e
      obtain ⟨hfl, hns, hnt, hal, hk, q⟩ := q
      have hSq : ∃ a vs, v = .ref a ∧ SqL X.K H a vs ∧ Reps X.K ρ H ys vs := by
        cases x with
        | rol zs =>
          cases e
          obtain ⟨a, vs, rfl, hs, hr⟩ := rep_rol p1
          exact ⟨a, vs, rfl, sqf_l hs, hr⟩
        | ref k =>
          obtain ⟨a, ha, rfl⟩ := rep_ref p1
          unfold dItems at e
          dsimp only at e
          split at e
          · rename_i zs e2
            cases e
            obtain ⟨vs, hv, hr⟩ := rs.lst ha e2
            exact ⟨a, vs, rfl, SqL.of hv, hr⟩
          · cases e
        | tup zs => exact absurd rfl (hnt zs)
        | str z => exact absurd rfl (hns z)
        | _ => first | cases e | skip
      obtain ⟨a, vs, rfl, hs, hr⟩ := hSq
      refine ⟨a, vs, D.pys ys, rfl, hs, dpAll_of hfl hr, hal, hk, fun d hd => ?_, fun zs hp hw p hf => ?_⟩
      · rw [pys_eq] at hd
        obtain ⟨y, hy, rfl⟩ := List.mem_map.mp hd
        have := (fl_lay 8 y (List.all_eq_true.mp hfl y hy)).2
        omega
      · rw [pys_eq] at hp
        obtain ⟨T, t1, rfl⟩ := perm_map_ex (f := fun p : V × D => (p.1, p.2.py)) hp (vs.zip ys) (by rw [List.zip_map_right]; rfl)
        have hl := hr.len
        rw [List.map_map]
        refine w _ _ (PostE.lst rs hf (ds := T.map (·.2)) (reps_each fun p hp => reps_zip hr p (t1.mem_iff.mp hp)) (q _ ?_ ?_))
        · have := t1.map (·.2)
          rwa [List.map_snd_zip (by omega)] at this
        · unfold InOrd
          rw [List.pairwise_map] at hw ⊢
          exact hw
    · exact q.elim
  · exact q.elim
end DL

namespace K02
open PySem PySem.Spec L2 DL Wd
local macro_rules | `(tactic| walk_at "d") => `(tactic| try simp only [dLettersOf, dInsert, w_ltL, dSeq, dSet, dIfS, dRet, dRetN, dDrop, dAsg, dAug, dPar, dNext, dCont, dBreak, dFor, dgName, dgSub, dOp, dUn, dVar, dC, dB, dTruth, dAnd, dOr, dNot, dAndV, dOrV, dNotV, dIf, dCall, dCB, dBM, dTup, dLst, dCons, dNil, dSlice, dPart, dNoPart, dLc, dLc2, dYes, dwipe, dPut, dWhile,   dSub, dPow, dFdiv, dMod, dLt, dLe, dGt, dGe, dEq, dNe, dIn, dNotIn, dAbs, dInt1, w_int_i, w_int_b, dIter, dIterRev, dRng1, dRng2, dAppend, dExtend, dPop, dReverse, dIsi, dTupleRev, dListRev, dEqv_int, dEqv_L, dEqv_run, dEqv_W, dEqv_L0, dEqv_W0, dEqv_bl, dCallK, dFld, dgFld, dMeth, dMake, dMakeX, dProp, dOpOX, dOpOI, dUnO, dMeth0, dCallG, dIsO, w_isB, w_notB, dEq2, dNe2, dZip, zipD, dGcd, insOf, dCallX, dRaise, dRaise1, dTry, dHandle, dIsX, dIsXs, dXf, DEnds.gone, dEqv_0L, dEnum, dListG, dGSeq, dGYield, dGFor, dGNext, w_divmod,   dstart, List.map_cons, List.cons_append, List.nil_append, List.length_cons, List.length_nil, List.replicate, List.getElem?_cons_zero, List.getElem?_cons_succ, List.set_cons_zero, List.set_cons_succ, Nat.reduceAdd, Nat.reduceSub, Nat.reduceLeDiff, Int.reduceNeg, Int.reduceToNat, decide_eq_true_eq, decide_eq_false_iff_not, if_true, if_false, ite_true, ite_false, true_and, and_true, Bool.not_true, Bool.not_false, Bool.false_eq_true, reduceCtorEq, decide_true, decide_false, not_false_eq_true, bne_iff_ne, ne_eq, Bool.not_eq_true', Option.map_some, Option.map_none, ixN30, ixN31, ixN32, atI_zero, atI_one, atI_two, List.set_set,   get_end, set_end, item_end, item_run0, item_run1, dgTup_run, tup_run, tup_W1, ty_run, ty_L, ty_W, getLastIx, List.dropLast_concat, List.isEmpty_cons, List.isEmpty_nil, isEmpty_snoc, okOf, len_W, add_W, w_stp, w_mkh, w_isn, w_notn, w_nonN, w_nonW, w_nonL, w_nonI, w_nonT, w_nonR, w_nonB, Bool.not_true, Bool.not_false, w_addL, w_lenL, w_sl_dn, w_sl_dnN, w_it_up, w_it_upN, w_it_0, sl_to, sl_from, List.length_map, List.map_nil, List.reverse_nil, w_add_i, w_add_t, w_add_s, w_add_r, w_mul_i, w_ii, w_i0, w_int_i, w_int_b, w_min, w_max, w_mulT_i, w_mulT_t, w_mulT_W, w_gK11, w_star, w_star_t, w_star_W, w_mark, w_extT, w_extT_W, w_neg, w_ix, w_len_t, w_len_l, w_len_r, w_list_t, w_list_l, w_list_r, w_list_W, w_tuple_t, w_tuple_l, w_tuple_r, w_tuple_W, w_tup_W, w_item_t, w_item_l, w_items_t, w_items_l, w_items_W, w_items_r, w_tru_b, w_tru_i, w_tru_t, w_tru_W, w_tru_l, w_tru_n, w_tru_r, w_gtup, w_gcons, w_gnil, w_revOf, w_rev_r, w_rev_l, w_sl_t, w_sl_l, w_sl_r, w_ty_n, w_ty_b, w_ty_i, w_ty_s, w_ty_t, w_ty_l, w_snoc, w_app, w_end, w_endN, w_endN2, w_dl, w_nilmap, w_emp, w_beq0, w_sl_toN, w_sl_fromN, w_cut_tail, w_isi_int_int, w_isi_bool_int, w_isi_str_int, w_isi_tuple_int, w_isi_list_int, w_isi_NoneType_int, w_isi_int_bool, w_isi_bool_bool, w_isi_str_bool, w_isi_tuple_bool, w_isi_list_bool, w_isi_NoneType_bool, w_isi_int_str, w_isi_bool_str, w_isi_str_str, w_isi_tuple_str, w_isi_list_str, w_isi_NoneType_str, w_isi_int_tuple, w_isi_bool_tuple, w_isi_str_tuple, w_isi_tuple_tuple, w_isi_list_tuple, w_isi_NoneType_tuple, w_isi_int_list, w_isi_bool_list, w_isi_str_list, w_isi_tuple_list, w_isi_list_list, w_isi_NoneType_list])
local macro_rules | `(tactic| walk_at "e") => `(tactic| try simp only [dLettersOf, dInsert, w_ltL, dSeq, dSet, dIfS, dRet, dRetN, dDrop, dAsg, dAug, dPar, dNext, dCont, dBreak, dFor, dgName, dgSub, dOp, dUn, dVar, dC, dB, dTruth, dAnd, dOr, dNot, dAndV, dOrV, dNotV, dIf, dCall, dCB, dBM, dTup, dLst, dCons, dNil, dSlice, dPart, dNoPart, dLc, dLc2, dYes, dwipe, dPut, dWhile,   dSub, dPow, dFdiv, dMod, dLt, dLe, dGt, dGe, dEq, dNe, dIn, dNotIn, dAbs, dInt1, w_int_i, w_int_b, dIter, dIterRev, dRng1, dRng2, dAppend, dExtend, dPop, dReverse, dIsi, dTupleRev, dListRev, dEqv_int, dEqv_L, dEqv_run, dEqv_W, dEqv_L0, dEqv_W0, dEqv_bl, dCallK, dFld, dgFld, dMeth, dMake, dMakeX, dProp, dOpOX, dOpOI, dUnO, dMeth0, dCallG, dIsO, w_isB, w_notB, dEq2, dNe2, dZip, zipD, dGcd, insOf, dCallX, dRaise, dRaise1, dTry, dHandle, dIsX, dIsXs, dXf, DEnds.gone, dEqv_0L, dEnum, dListG, dGSeq, dGYield, dGFor, dGNext, w_divmod,   dstart, List.map_cons, List.cons_append, List.nil_append, List.length_cons, List.length_nil, List.replicate, List.getElem?_cons_zero, List.getElem?_cons_succ, List.set_cons_zero, List.set_cons_succ, Nat.reduceAdd, Nat.reduceSub, Nat.reduceLeDiff, Int.reduceNeg, Int.reduceToNat, decide_eq_true_eq, decide_eq_false_iff_not, if_true, if_false, ite_true, ite_false, true_and, and_true, Bool.not_true, Bool.not_false, Bool.false_eq_true, reduceCtorEq, decide_true, decide_false, not_false_eq_true, bne_iff_ne, ne_eq, Bool.not_eq_true', Option.map_some, Option.map_none, ixN30, ixN31, ixN32, atI_zero, atI_one, atI_two, List.set_set,   get_end, set_end, item_end, item_run0, item_run1, dgTup_run, tup_run, tup_W1, ty_run, ty_L, ty_W, getLastIx, List.dropLast_concat, List.isEmpty_cons, List.isEmpty_nil, isEmpty_snoc, okOf, len_W, add_W, w_stp, w_mkh, w_isn, w_notn, w_nonN, w_nonW, w_nonL, w_nonI, w_nonT, w_nonR, w_nonB, Bool.not_true, Bool.not_false, w_addL, w_lenL, w_sl_dn, w_sl_dnN, w_it_up, w_it_upN, w_it_0, sl_to, sl_from, List.length_map, List.map_nil, List.reverse_nil, w_add_i, w_add_t, w_add_s, w_add_r, w_mul_i, w_ii, w_i0, w_int_i, w_int_b, w_min, w_max, w_mulT_i, w_mulT_t, w_mulT_W, w_gK11, w_star, w_star_t, w_star_W, w_mark, w_extT, w_extT_W, w_neg, w_ix, w_len_t, w_len_l, w_len_r, w_list_t, w_list_l, w_list_r, w_list_W, w_tuple_t, w_tuple_l, w_tuple_r, w_tuple_W, w_tup_W, w_item_t, w_item_l, w_items_t, w_items_l, w_items_W, w_items_r, w_tru_b, w_tru_i, w_tru_t, w_tru_W, w_tru_l, w_tru_n, w_tru_r, w_gtup, w_gcons, w_gnil, w_revOf, w_rev_r, w_rev_l, w_sl_t, w_sl_l, w_sl_r, w_ty_n, w_ty_b, w_ty_i, w_ty_s, w_ty_t, w_ty_l, w_snoc, w_app, w_end, w_endN, w_endN2, w_dl, w_nilmap, w_emp, w_beq0, w_sl_toN, w_sl_fromN, w_cut_tail, w_isi_int_int, w_isi_bool_int, w_isi_str_int, w_isi_tuple_int, w_isi_list_int, w_isi_NoneType_int, w_isi_int_bool, w_isi_bool_bool, w_isi_str_bool, w_isi_tuple_bool, w_isi_list_bool, w_isi_NoneType_bool, w_isi_int_str, w_isi_bool_str, w_isi_str_str, w_isi_tuple_str, w_isi_list_str, w_isi_NoneType_str, w_isi_int_tuple, w_isi_bool_tuple, w_isi_str_tuple, w_isi_tuple_tuple, w_isi_list_tuple, w_isi_NoneType_tuple, w_isi_int_list, w_isi_bool_list, w_isi_str_list, w_isi_tuple_list, w_isi_list_list, w_isi_NoneType_list, *])
local macro_rules | `(tactic| walk_at "p") => `(tactic| try simp only [dLettersOf, dInsert, w_ltL, dSeq, dSet, dIfS, dRet, dRetN, dDrop, dAsg, dAug, dPar, dNext, dCont, dBreak, dFor, dgName, dgSub, dOp, dUn, dVar, dC, dB, dTruth, dAnd, dOr, dNot, dAndV, dOrV, dNotV, dIf, dCall, dCB, dBM, dTup, dLst, dCons, dNil, dSlice, dPart, dNoPart, dLc, dLc2, dYes, dwipe, dPut, dWhile,   dSub, dPow, dFdiv, dMod, dLt, dLe, dGt, dGe, dEq, dNe, dIn, dNotIn, dAbs, dInt1, w_int_i, w_int_b, dIter, dIterRev, dRng1, dRng2, dAppend, dExtend, dPop, dReverse, dIsi, dTupleRev, dListRev, dEqv_int, dEqv_L, dEqv_run, dEqv_W, dEqv_L0, dEqv_W0, dEqv_bl, dCallK, dFld, dgFld, dMeth, dMake, dMakeX, dProp, dOpOX, dOpOI, dUnO, dMeth0, dCallG, dIsO, w_isB, w_notB, dEq2, dNe2, dZip, zipD, dGcd, insOf, dCallX, dRaise, dRaise1, dTry, dHandle, dIsX, dIsXs, dXf, DEnds.gone, dEqv_0L, dEnum, dListG, dGSeq, dGYield, dGFor, dGNext, w_divmod,   dstart, p_get0, p_gets0, p_set0, p_sets0, p_get1, p_gets1, p_set1, p_sets1, p_get2, p_gets2, p_set2, p_sets2, p_get3, p_gets3, p_set3, p_sets3, p_get4, p_gets4, p_set4, p_sets4, p_get5, p_gets5, p_set5, p_sets5, p_get6, p_gets6, p_set6, p_sets6, p_get7, p_gets7, p_set7, p_sets7, p_get8, p_gets8, p_set8, p_sets8, p_get9, p_gets9, p_set9, p_sets9, p_get10, p_gets10, p_set10, p_sets10, p_get11, p_gets11, p_set11, p_sets11, p_get12, p_gets12, p_set12, p_sets12, p_get13, p_gets13, p_set13, p_sets13, p_get14, p_gets14, p_set14, p_sets14, p_get15, p_gets15, p_set15, p_sets15, p_get16, p_gets16, p_set16, p_sets16, p_get17, p_gets17, p_set17, p_sets17, p_get18, p_gets18, p_set18, p_sets18, p_get19, p_gets19, p_set19, p_sets19, p_get20, p_gets20, p_set20, p_sets20, p_get21, p_gets21, p_set21, p_sets21, p_get22, p_gets22, p_set22, p_sets22, p_get23, p_gets23, p_set23, p_sets23, p_get24, p_gets24, p_set24, p_sets24, p_get25, p_gets25, p_set25, p_sets25, p_app, p_setapp, p_self, p_ne, p_item_r, p_setIx_r, ex_pool, List.append_assoc, List.length_append, List.length_set, Nat.add_assoc, Nat.add_sub_cancel, List.map_cons, List.cons_append, List.nil_append, List.length_cons, List.length_nil, List.replicate, List.getElem?_cons_zero, List.getElem?_cons_succ, List.set_cons_zero, List.set_cons_succ, Nat.reduceAdd, Nat.reduceSub, Nat.reduceLeDiff, Int.reduceNeg, Int.reduceToNat, decide_eq_true_eq, decide_eq_false_iff_not, if_true, if_false, ite_true, ite_false, true_and, and_true, Bool.not_true, Bool.not_false, Bool.false_eq_true, reduceCtorEq, decide_true, decide_false, not_false_eq_true, bne_iff_ne, ne_eq, Bool.not_eq_true', Option.map_some, Option.map_none, ixN30, ixN31, ixN32, atI_zero, atI_one, atI_two, List.set_set,   item_run0, item_run1, dgTup_run, tup_run, tup_W1, ty_run, ty_L, ty_W, getLastIx, List.dropLast_concat, List.isEmpty_cons, List.isEmpty_nil, isEmpty_snoc, okOf, len_W, add_W, w_stp, w_mkh, w_isn, w_notn, w_nonN, w_nonW, w_nonL, w_nonI, w_nonT, w_nonR, w_nonB, Bool.not_true, Bool.not_false, w_addL, w_lenL, w_sl_dn, w_sl_dnN, w_it_up, w_it_upN, w_it_0, sl_to, sl_from, List.length_map, List.map_nil, List.reverse_nil, w_add_i, w_add_t, w_add_s, w_add_r, w_mul_i, w_ii, w_i0, w_int_i, w_int_b, w_min, w_max, w_mulT_i, w_mulT_t, w_mulT_W, w_gK11, w_star, w_star_t, w_star_W, w_mark, w_extT, w_extT_W, w_neg, w_ix, w_len_t, w_len_l, w_len_r, w_list_t, w_list_l, w_list_r, w_list_W, w_tuple_t, w_tuple_l, w_tuple_r, w_tuple_W, w_tup_W, w_item_t, w_item_l, w_items_t, w_items_l, w_items_W, w_items_r, w_tru_b, w_tru_i, w_tru_t, w_tru_W, w_tru_l, w_tru_n, w_tru_r, w_gtup, w_gcons, w_gnil, w_revOf, w_rev_r, w_rev_l, w_sl_t, w_sl_l, w_sl_r, w_ty_n, w_ty_b, w_ty_i, w_ty_s, w_ty_t, w_ty_l, w_snoc, w_app, w_end, w_endN, w_endN2, w_dl, w_nilmap, w_emp, w_beq0, w_sl_toN, w_sl_fromN, w_cut_tail, w_isi_int_int, w_isi_bool_int, w_isi_str_int, w_isi_tuple_int, w_isi_list_int, w_isi_NoneType_int, w_isi_int_bool, w_isi_bool_bool, w_isi_str_bool, w_isi_tuple_bool, w_isi_list_bool, w_isi_NoneType_bool, w_isi_int_str, w_isi_bool_str, w_isi_str_str, w_isi_tuple_str, w_isi_list_str, w_isi_NoneType_str, w_isi_int_tuple, w_isi_bool_tuple, w_isi_str_tuple, w_isi_tuple_tuple, w_isi_list_tuple, w_isi_NoneType_tuple, w_isi_int_list, w_isi_bool_list, w_isi_str_list, w_isi_tuple_list, w_isi_list_list, w_isi_NoneType_list, *])
local macro_rules | `(tactic| walk_at "w") => `(tactic| try simp only [dLettersOf, dInsert, w_ltL, zs_0, zs_1, zs_2, zs_3, zs_4, zs_5, zs_6, zs_7, zs_8, zs_9, zs_10, zs_11, zs_12, zs_13, zs_14, zs_15, zs_16, Int.reduceLT, Int.reduceLE, Nat.reduceLT, Nat.zero_le, Int.reduceSub, Int.reduceAdd, Int.reduceMul, Int.reducePow, Int.reduceNe, Nat.reduceEqDiff, Int.reduceEq, dSeq, dSet, dIfS, dRet, dRetN, dDrop, dAsg, dAug, dPar, dNext, dCont, dBreak, dFor, dgName, dgSub, dOp, dUn, dVar, dC, dB, dTruth, dAnd, dOr, dNot, dAndV, dOrV, dNotV, dIf, dCall, dCB, dBM, dTup, dLst, dCons, dNil, dSlice, dPart, dNoPart, dLc, dLc2, dYes, dwipe, dPut, dWhile,   dSub, dPow, dFdiv, dMod, dLt, dLe, dGt, dGe, dEq, dNe, dIn, dNotIn, dAbs, dInt1, w_int_i, w_int_b, dIter, dIterRev, dRng1, dRng2, dAppend, dExtend, dPop, dReverse, dIsi, dTupleRev, dListRev, dEqv_int, dEqv_L, dEqv_run, dEqv_W, dEqv_L0, dEqv_W0, dEqv_bl, dCallK, dFld, dgFld, dMeth, dMake, dMakeX, dProp, dOpOX, dOpOI, dUnO, dMeth0, dCallG, dIsO, w_isB, w_notB, dEq2, dNe2, dZip, zipD, dGcd, insOf, dCallX, dRaise, dRaise1, dTry, dHandle, dIsX, dIsXs, dXf, DEnds.gone, dEqv_0L, dEnum, dListG, dGSeq, dGYield, dGFor, dGNext, w_divmod,   dstart, p_get0, p_gets0, p_set0, p_sets0, p_get1, p_gets1, p_set1, p_sets1, p_get2, p_gets2, p_set2, p_sets2, p_get3, p_gets3, p_set3, p_sets3, p_get4, p_gets4, p_set4, p_sets4, p_get5, p_gets5, p_set5, p_sets5, p_get6, p_gets6, p_set6, p_sets6, p_get7, p_gets7, p_set7, p_sets7, p_get8, p_gets8, p_set8, p_sets8, p_get9, p_gets9, p_set9, p_sets9, p_get10, p_gets10, p_set10, p_sets10, p_get11, p_gets11, p_set11, p_sets11, p_get12, p_gets12, p_set12, p_sets12, p_get13, p_gets13, p_set13, p_sets13, p_get14, p_gets14, p_set14, p_sets14, p_get15, p_gets15, p_set15, p_sets15, p_get16, p_gets16, p_set16, p_sets16, p_get17, p_gets17, p_set17, p_sets17, p_get18, p_gets18, p_set18, p_sets18, p_get19, p_gets19, p_set19, p_sets19, p_get20, p_gets20, p_set20, p_sets20, p_get21, p_gets21, p_set21, p_sets21, p_get22, p_gets22, p_set22, p_sets22, p_get23, p_gets23, p_set23, p_sets23, p_get24, p_gets24, p_set24, p_sets24, p_get25, p_gets25, p_set25, p_sets25, p_app, p_setapp, p_self, p_ne, p_item_r, p_setIx_r, ex_pool, List.append_assoc, List.length_append, List.length_set, Nat.add_assoc, Nat.add_sub_cancel, List.map_cons, List.cons_append, List.nil_append, List.length_cons, List.length_nil, List.replicate, List.getElem?_cons_zero, List.getElem?_cons_succ, List.set_cons_zero, List.set_cons_succ, Nat.reduceAdd, Nat.reduceSub, Nat.reduceLeDiff, Int.reduceNeg, Int.reduceToNat, decide_eq_true_eq, decide_eq_false_iff_not, if_true, if_false, ite_true, ite_false, true_and, and_true, Bool.not_true, Bool.not_false, Bool.false_eq_true, reduceCtorEq, decide_true, decide_false, not_false_eq_true, bne_iff_ne, ne_eq, Bool.not_eq_true', Option.map_some, Option.map_none, ixN30, ixN31, ixN32, atI_zero, atI_one, atI_two, List.set_set,   item_run0, item_run1, dgTup_run, tup_run, tup_W1, ty_run, ty_L, ty_W, getLastIx, List.dropLast_concat, List.isEmpty_cons, List.isEmpty_nil, isEmpty_snoc, okOf, len_W, add_W, w_stp, w_mkh, w_isn, w_notn, w_nonN, w_nonW, w_nonL, w_nonI, w_nonT, w_nonR, w_nonB, Bool.not_true, Bool.not_false, w_addL, w_lenL, w_sl_dn, w_sl_dnN, w_it_up, w_it_upN, w_it_0, sl_to, sl_from, List.length_map, List.map_nil, List.reverse_nil, w_add_i, w_add_t, w_add_s, w_add_r, w_mul_i, w_ii, w_i0, w_int_i, w_int_b, w_min, w_max, w_mulT_i, w_mulT_t, w_mulT_W, w_gK11, w_star, w_star_t, w_star_W, w_mark, w_extT, w_extT_W, w_neg, w_ix, w_len_t, w_len_l, w_len_r, w_list_t, w_list_l, w_list_r, w_list_W, w_tuple_t, w_tuple_l, w_tuple_r, w_tuple_W, w_tup_W, w_item_t, w_item_l, w_items_t, w_items_l, w_items_W, w_items_r, w_tru_b, w_tru_i, w_tru_t, w_tru_W, w_tru_l, w_tru_n, w_tru_r, w_gtup, w_gcons, w_gnil, w_revOf, w_rev_r, w_rev_l, w_sl_t, w_sl_l, w_sl_r, w_ty_n, w_ty_b, w_ty_i, w_ty_s, w_ty_t, w_ty_l, w_snoc, w_app, w_end, w_endN, w_endN2, w_dl, w_nilmap, w_emp, w_beq0, w_sl_toN, w_sl_fromN, w_cut_tail, w_isi_int_int, w_isi_bool_int, w_isi_str_int, w_isi_tuple_int, w_isi_list_int, w_isi_NoneType_int, w_isi_int_bool, w_isi_bool_bool, w_isi_str_bool, w_isi_tuple_bool, w_isi_list_bool, w_isi_NoneType_bool, w_isi_int_str, w_isi_bool_str, w_isi_str_str, w_isi_tuple_str, w_isi_list_str, w_isi_NoneType_str, w_isi_int_tuple, w_isi_bool_tuple, w_isi_str_tuple, w_isi_tuple_tuple, w_isi_list_tuple, w_isi_NoneType_tuple, w_isi_int_list, w_isi_bool_list, w_isi_str_list, w_isi_tuple_list, w_isi_list_list, w_isi_NoneType_list, *])
local macro_rules | `(tactic| walk_at "x") => `(tactic| try simp only [dLettersOf, dInsert, w_ltL, x_BadText_BadText, x_BadText_BadRule, x_BadText_BadLetter, x_BadText_BadPair, x_BadText_TooLong, x_BadText_Mismatch, x_BadText_NotKept, x_BadText_BadCommand, x_BadText_UnknownName, x_BadText_NameTaken, x_BadText_NoFact, x_BadText_NothingToUndo, x_BadText_BatchError, x_BadText_OnelawError, x_BadText_ValueError, x_BadRule_BadText, x_BadRule_BadRule, x_BadRule_BadLetter, x_BadRule_BadPair, x_BadRule_TooLong, x_BadRule_Mismatch, x_BadRule_NotKept, x_BadRule_BadCommand, x_BadRule_UnknownName, x_BadRule_NameTaken, x_BadRule_NoFact, x_BadRule_NothingToUndo, x_BadRule_BatchError, x_BadRule_OnelawError, x_BadRule_ValueError, x_BadLetter_BadText, x_BadLetter_BadRule, x_BadLetter_BadLetter, x_BadLetter_BadPair, x_BadLetter_TooLong, x_BadLetter_Mismatch, x_BadLetter_NotKept, x_BadLetter_BadCommand, x_BadLetter_UnknownName, x_BadLetter_NameTaken, x_BadLetter_NoFact, x_BadLetter_NothingToUndo, x_BadLetter_BatchError, x_BadLetter_OnelawError, x_BadLetter_ValueError, x_BadPair_BadText, x_BadPair_BadRule, x_BadPair_BadLetter, x_BadPair_BadPair, x_BadPair_TooLong, x_BadPair_Mismatch, x_BadPair_NotKept, x_BadPair_BadCommand, x_BadPair_UnknownName, x_BadPair_NameTaken, x_BadPair_NoFact, x_BadPair_NothingToUndo, x_BadPair_BatchError, x_BadPair_OnelawError, x_BadPair_ValueError, x_TooLong_BadText, x_TooLong_BadRule, x_TooLong_BadLetter, x_TooLong_BadPair, x_TooLong_TooLong, x_TooLong_Mismatch, x_TooLong_NotKept, x_TooLong_BadCommand, x_TooLong_UnknownName, x_TooLong_NameTaken, x_TooLong_NoFact, x_TooLong_NothingToUndo, x_TooLong_BatchError, x_TooLong_OnelawError, x_TooLong_ValueError, x_Mismatch_BadText, x_Mismatch_BadRule, x_Mismatch_BadLetter, x_Mismatch_BadPair, x_Mismatch_TooLong, x_Mismatch_Mismatch, x_Mismatch_NotKept, x_Mismatch_BadCommand, x_Mismatch_UnknownName, x_Mismatch_NameTaken, x_Mismatch_NoFact, x_Mismatch_NothingToUndo, x_Mismatch_BatchError, x_Mismatch_OnelawError, x_Mismatch_ValueError, x_NotKept_BadText, x_NotKept_BadRule, x_NotKept_BadLetter, x_NotKept_BadPair, x_NotKept_TooLong, x_NotKept_Mismatch, x_NotKept_NotKept, x_NotKept_BadCommand, x_NotKept_UnknownName, x_NotKept_NameTaken, x_NotKept_NoFact, x_NotKept_NothingToUndo, x_NotKept_BatchError, x_NotKept_OnelawError, x_NotKept_ValueError, x_BadCommand_BadText, x_BadCommand_BadRule, x_BadCommand_BadLetter, x_BadCommand_BadPair, x_BadCommand_TooLong, x_BadCommand_Mismatch, x_BadCommand_NotKept, x_BadCommand_BadCommand, x_BadCommand_UnknownName, x_BadCommand_NameTaken, x_BadCommand_NoFact, x_BadCommand_NothingToUndo, x_BadCommand_BatchError, x_BadCommand_OnelawError, x_BadCommand_ValueError, x_UnknownName_BadText, x_UnknownName_BadRule, x_UnknownName_BadLetter, x_UnknownName_BadPair, x_UnknownName_TooLong, x_UnknownName_Mismatch, x_UnknownName_NotKept, x_UnknownName_BadCommand, x_UnknownName_UnknownName, x_UnknownName_NameTaken, x_UnknownName_NoFact, x_UnknownName_NothingToUndo, x_UnknownName_BatchError, x_UnknownName_OnelawError, x_UnknownName_ValueError, x_NameTaken_BadText, x_NameTaken_BadRule, x_NameTaken_BadLetter, x_NameTaken_BadPair, x_NameTaken_TooLong, x_NameTaken_Mismatch, x_NameTaken_NotKept, x_NameTaken_BadCommand, x_NameTaken_UnknownName, x_NameTaken_NameTaken, x_NameTaken_NoFact, x_NameTaken_NothingToUndo, x_NameTaken_BatchError, x_NameTaken_OnelawError, x_NameTaken_ValueError, x_NoFact_BadText, x_NoFact_BadRule, x_NoFact_BadLetter, x_NoFact_BadPair, x_NoFact_TooLong, x_NoFact_Mismatch, x_NoFact_NotKept, x_NoFact_BadCommand, x_NoFact_UnknownName, x_NoFact_NameTaken, x_NoFact_NoFact, x_NoFact_NothingToUndo, x_NoFact_BatchError, x_NoFact_OnelawError, x_NoFact_ValueError, x_NothingToUndo_BadText, x_NothingToUndo_BadRule, x_NothingToUndo_BadLetter, x_NothingToUndo_BadPair, x_NothingToUndo_TooLong, x_NothingToUndo_Mismatch, x_NothingToUndo_NotKept, x_NothingToUndo_BadCommand, x_NothingToUndo_UnknownName, x_NothingToUndo_NameTaken, x_NothingToUndo_NoFact, x_NothingToUndo_NothingToUndo, x_NothingToUndo_BatchError, x_NothingToUndo_OnelawError, x_NothingToUndo_ValueError, x_BatchError_BadText, x_BatchError_BadRule, x_BatchError_BadLetter, x_BatchError_BadPair, x_BatchError_TooLong, x_BatchError_Mismatch, x_BatchError_NotKept, x_BatchError_BadCommand, x_BatchError_UnknownName, x_BatchError_NameTaken, x_BatchError_NoFact, x_BatchError_NothingToUndo, x_BatchError_BatchError, x_BatchError_OnelawError, x_BatchError_ValueError, List.mem_cons, List.not_mem_nil, or_false, or_true, true_or, List.any_cons, List.any_nil, Bool.or_false, Bool.or_true, Bool.false_or, Bool.true_or, zs_0, zs_1, zs_2, zs_3, zs_4, zs_5, zs_6, zs_7, zs_8, zs_9, zs_10, zs_11, zs_12, zs_13, zs_14, zs_15, zs_16, Int.reduceLT, Int.reduceLE, Nat.reduceLT, Nat.zero_le, Int.reduceSub, Int.reduceAdd, Int.reduceMul, Int.reducePow, Int.reduceNe, Nat.reduceEqDiff, Int.reduceEq, dSeq, dSet, dIfS, dRet, dRetN, dDrop, dAsg, dAug, dPar, dNext, dCont, dBreak, dFor, dgName, dgSub, dOp, dUn, dVar, dC, dB, dTruth, dAnd, dOr, dNot, dAndV, dOrV, dNotV, dIf, dCall, dCB, dBM, dTup, dLst, dCons, dNil, dSlice, dPart, dNoPart, dLc, dLc2, dYes, dwipe, dPut, dWhile,   dSub, dPow, dFdiv, dMod, dLt, dLe, dGt, dGe, dEq, dNe, dIn, dNotIn, dAbs, dInt1, w_int_i, w_int_b, dIter, dIterRev, dRng1, dRng2, dAppend, dExtend, dPop, dReverse, dIsi, dTupleRev, dListRev, dEqv_int, dEqv_L, dEqv_run, dEqv_W, dEqv_L0, dEqv_W0, dEqv_bl, dCallK, dFld, dgFld, dMeth, dMake, dMakeX, dProp, dOpOX, dOpOI, dUnO, dMeth0, dCallG, dIsO, w_isB, w_notB, dEq2, dNe2, dZip, zipD, dGcd, insOf, dCallX, dRaise, dRaise1, dTry, dHandle, dIsX, dIsXs, dXf, DEnds.gone, dEqv_0L, dEnum, dListG, dGSeq, dGYield, dGFor, dGNext, w_divmod,   dstart, p_get0, p_gets0, p_set0, p_sets0, p_get1, p_gets1, p_set1, p_sets1, p_get2, p_gets2, p_set2, p_sets2, p_get3, p_gets3, p_set3, p_sets3, p_get4, p_gets4, p_set4, p_sets4, p_get5, p_gets5, p_set5, p_sets5, p_get6, p_gets6, p_set6, p_sets6, p_get7, p_gets7, p_set7, p_sets7, p_get8, p_gets8, p_set8, p_sets8, p_get9, p_gets9, p_set9, p_sets9, p_get10, p_gets10, p_set10, p_sets10, p_get11, p_gets11, p_set11, p_sets11, p_get12, p_gets12, p_set12, p_sets12, p_get13, p_gets13, p_set13, p_sets13, p_get14, p_gets14, p_set14, p_sets14, p_get15, p_gets15, p_set15, p_sets15, p_get16, p_gets16, p_set16, p_sets16, p_get17, p_gets17, p_set17, p_sets17, p_get18, p_gets18, p_set18, p_sets18, p_get19, p_gets19, p_set19, p_sets19, p_get20, p_gets20, p_set20, p_sets20, p_get21, p_gets21, p_set21, p_sets21, p_get22, p_gets22, p_set22, p_sets22, p_get23, p_gets23, p_set23, p_sets23, p_get24, p_gets24, p_set24, p_sets24, p_get25, p_gets25, p_set25, p_sets25, p_app, p_setapp, p_self, p_ne, p_item_r, p_setIx_r, ex_pool, List.append_assoc, List.length_append, List.length_set, Nat.add_assoc, Nat.add_sub_cancel, List.map_cons, List.cons_append, List.nil_append, List.length_cons, List.length_nil, List.replicate, List.getElem?_cons_zero, List.getElem?_cons_succ, List.set_cons_zero, List.set_cons_succ, Nat.reduceAdd, Nat.reduceSub, Nat.reduceLeDiff, Int.reduceNeg, Int.reduceToNat, decide_eq_true_eq, decide_eq_false_iff_not, if_true, if_false, ite_true, ite_false, true_and, and_true, Bool.not_true, Bool.not_false, Bool.false_eq_true, reduceCtorEq, decide_true, decide_false, not_false_eq_true, bne_iff_ne, ne_eq, Bool.not_eq_true', Option.map_some, Option.map_none, ixN30, ixN31, ixN32, atI_zero, atI_one, atI_two, List.set_set,   item_run0, item_run1, dgTup_run, tup_run, tup_W1, ty_run, ty_L, ty_W, getLastIx, List.dropLast_concat, List.isEmpty_cons, List.isEmpty_nil, isEmpty_snoc, okOf, len_W, add_W, w_stp, w_mkh, w_isn, w_notn, w_nonN, w_nonW, w_nonL, w_nonI, w_nonT, w_nonR, w_nonB, Bool.not_true, Bool.not_false, w_addL, w_lenL, w_sl_dn, w_sl_dnN, w_it_up, w_it_upN, w_it_0, sl_to, sl_from, List.length_map, List.map_nil, List.reverse_nil, w_add_i, w_add_t, w_add_s, w_add_r, w_mul_i, w_ii, w_i0, w_int_i, w_int_b, w_min, w_max, w_mulT_i, w_mulT_t, w_mulT_W, w_gK11, w_star, w_star_t, w_star_W, w_mark, w_extT, w_extT_W, w_neg, w_ix, w_len_t, w_len_l, w_len_r, w_list_t, w_list_l, w_list_r, w_list_W, w_tuple_t, w_tuple_l, w_tuple_r, w_tuple_W, w_tup_W, w_item_t, w_item_l, w_items_t, w_items_l, w_items_W, w_items_r, w_tru_b, w_tru_i, w_tru_t, w_tru_W, w_tru_l, w_tru_n, w_tru_r, w_gtup, w_gcons, w_gnil, w_revOf, w_rev_r, w_rev_l, w_sl_t, w_sl_l, w_sl_r, w_ty_n, w_ty_b, w_ty_i, w_ty_s, w_ty_t, w_ty_l, w_snoc, w_app, w_end, w_endN, w_endN2, w_dl, w_nilmap, w_emp, w_beq0, w_sl_toN, w_sl_fromN, w_cut_tail, w_isi_int_int, w_isi_bool_int, w_isi_str_int, w_isi_tuple_int, w_isi_list_int, w_isi_NoneType_int, w_isi_int_bool, w_isi_bool_bool, w_isi_str_bool, w_isi_tuple_bool, w_isi_list_bool, w_isi_NoneType_bool, w_isi_int_str, w_isi_bool_str, w_isi_str_str, w_isi_tuple_str, w_isi_list_str, w_isi_NoneType_str, w_isi_int_tuple, w_isi_bool_tuple, w_isi_str_tuple, w_isi_tuple_tuple, w_isi_list_tuple, w_isi_NoneType_tuple, w_isi_int_list, w_isi_bool_list, w_isi_str_list, w_isi_tuple_list, w_isi_list_list, w_isi_NoneType_list, *])

/-! length -/
abbrev N_length : List Str := ["word", "_", "exponent"]


def r_length : DTS :=
  (dRet (dCB dSum (dCons (dLc (dIter (dVar 0)) (dgTup 2 (dgCons (dgName 1) (dgCons (dgName 2) dgNil))) dYes (dCB dAbs (dCons (dVar 2) dNil)) [1, 2]) dNil)))
def sp_length : DSp := fun ds st Q => ∃ (w : Word), ds = [dW w] ∧ w.length ≤ 1000000 ∧ Q (.int (size w : Nat)) st
def absl (w : Word) : List Int := w.map fun r => ((r.2.natAbs : Nat) : Int)
theorem absl_sum (w : Word) : (absl w).sum = (size w : Nat) := by
  induction w with
  | nil => rfl
  | cons r w ih =>
    unfold absl at ih ⊢
    rw [List.map_cons, List.sum_cons, ih, size_cons]
    omega
theorem lp_length {st : Store} {ok fin : Store → Prop} {a : Option D} (hok : ∀ s, ok s) : ∀ (ps : Word) (acc : List Int), acc.length + ps.length ≤ 1000000 → fin (st ++ [.lst ((acc ++ absl ps).map D.int)]) →
    dLcL (dgTup 2 (dgCons (dgName 1) (dgCons (dgName 2) dgNil))) dYes (dCB dAbs (dCons (dVar 2) dNil)) ok [a, none, none] st.length fin (ps.map dRun) (st ++ [.lst (acc.map D.int)])
  | [], acc, hl, h => ⟨hok _, by
    have e : absl [] = [] := rfl
    rwa [e, List.append_nil] at h⟩
  | (l, e) :: ps, acc, hl, h => by
    have hl' : acc.length + (ps.length + 1) ≤ 1000000 := hl
    refine ⟨hok _, ?_⟩
    walk_at "d"
    have e2 : (if e < 0 then -e else e) = (e.natAbs : Nat) := by split <;> omega
    rw [e2]
    refine ⟨small_line' (by omega), lp_length hok ps _ (by simp; omega) ?_⟩
    rw [List.append_assoc]
    exact h
theorem read_length : ∀ ds st Q, Wf st → D.lts st.length ds → sp_length ds st Q → r_length st.length { nx := fun _ st' => Ret st.length Q .non st', rt := Ret st.length Q } (dstart N_length ds) st := by
  intro ds st Q wf wl h
  obtain ⟨w, rfl, hl, q⟩ := h
  unfold r_length N_length
  walk_at "d"
  refine lp_length (st := st) (fun _ => trivial) w [] (by simpa using hl) ?_
  refine dSum_ref get_end ?_
  rw [List.nil_append, absl_sum]
  exact ret_app rfl wf trivial q

theorem len_length : ∀ ds s Q, sp_length ds s Q → ds.length = 1 := by
  intro ds s Q h
  unfold sp_length at h
  repeat (obtain ⟨_, h⟩ := h)
  subst_vars
  rfl
/-! letters_of -/
abbrev N_letters_of : List Str := ["word", "letter", "_"]


def r_letters_of : DTS :=
  (dRet (dLettersOf 0 1 2))
def sp_letters_of : DSp := fun ds st Q => ∃ w : Word, ds = [dW w] ∧ (∃ ls : List Letter, ls.length < 60 ∧ ∀ r ∈ w, r.1 ∈ ls) ∧ ∀ ls : List Letter, ls.Pairwise LtL → (∀ l, l ∈ ls ↔ ∃ r ∈ w, r.1 = l) → Q (.ref st.length) (st ++ [.lst (ls.map dL)])
theorem read_letters_of : ∀ ds st Q, Wf st → D.lts st.length ds → sp_letters_of ds st Q → r_letters_of st.length { nx := fun _ st' => Ret st.length Q .non st', rt := Ret st.length Q } (dstart N_letters_of ds) st := by
  intro ds st Q wf wl h
  obtain ⟨w, rfl, hd, q⟩ := h
  unfold r_letters_of N_letters_of
  walk_at "p"
  refine ⟨by decide, w, rfl, hd, fun ls h1 h2 => ?_⟩
  exact ret_cell rfl wf (by omega) (p_get0 (l := [])) (lt_Ls ls) (q ls h1 h2)

theorem len_letters_of : ∀ ds s Q, sp_letters_of ds s Q → ds.length = 1 := by
  intro ds s Q h
  unfold sp_letters_of at h
  repeat (obtain ⟨_, h⟩ := h)
  subst_vars
  rfl
/-! exponent_sum -/
abbrev N_exponent_sum : List Str := ["word", "letter", "other", "exponent"]


def r_exponent_sum : DTS :=
  (dRet (dCB dSum (dCons (dLc (dIter (dVar 0)) (dgTup 2 (dgCons (dgName 2) (dgCons (dgName 3) dgNil))) (dB (dOp dEq (dVar 2) (dVar 1))) (dVar 3) [2, 3]) dNil)))
def sp_exponent_sum : DSp := fun ds st Q => ∃ (w : Word) (l : Letter), ds = [dW w, dL l] ∧ w.length ≤ 1000000 ∧ Q (.int (esum l w)) st
theorem len_exponent_sum : ∀ ds s Q, sp_exponent_sum ds s Q → ds.length = 2 := by
  intro ds s Q ⟨u, v, e, _⟩
  subst e
  rfl
def exps (l : Letter) : Word → List Int
  | [] => []
  | r :: w => if r.1 = l then r.2 :: exps l w else exps l w
theorem exps_sum (l : Letter) (w : Word) : (exps l w).sum = esum l w := by
  induction w with
  | nil => rfl
  | cons r w ih =>
    rw [exps, esum_cons]
    split
    · rw [List.sum_cons, ih]
    · rw [ih]; omega
theorem lp_exponent_sum {st : Store} {ok fin : Store → Prop} {a : Option D} {l : Letter} (hok : ∀ s, ok s) : ∀ (ps : Word) (acc : List Int), acc.length + ps.length ≤ 1000000 → fin (st ++ [.lst ((acc ++ exps l ps).map D.int)]) →
    dLcL (dgTup 2 (dgCons (dgName 2) (dgCons (dgName 3) dgNil))) (dB (dOp dEq (dVar 2) (dVar 1))) (dVar 3) ok [a, some (dL l), none, none] st.length fin (ps.map dRun) (st ++ [.lst (acc.map D.int)])
  | [], acc, hl, h => ⟨hok _, by rwa [exps, List.append_nil] at h⟩
  | r :: ps, acc, hl, h => by
    have hl' : acc.length + (ps.length + 1) ≤ 1000000 := hl
    refine ⟨hok _, ?_⟩
    walk_at "d"
    rw [exps] at h
    split
    · rename_i hll
      rw [if_pos hll] at h
      refine ⟨small_line' (by omega), lp_exponent_sum hok ps _ (by simp; omega) ?_⟩
      rw [List.append_assoc]
      exact h
    · rename_i hll
      rw [if_neg hll] at h
      exact lp_exponent_sum hok ps _ (by omega) h
theorem read_exponent_sum : ∀ ds st Q, Wf st → D.lts st.length ds → sp_exponent_sum ds st Q → r_exponent_sum st.length { nx := fun _ st' => Ret st.length Q .non st', rt := Ret st.length Q } (dstart N_exponent_sum ds) st := by
  intro ds st Q wf wl h
  obtain ⟨w, l, rfl, hl, q⟩ := h
  unfold r_exponent_sum N_exponent_sum
  walk_at "d"
  refine lp_exponent_sum (st := st) (fun _ => trivial) w [] (by simpa using hl) ?_
  refine dSum_ref get_end ?_
  rw [List.nil_append, exps_sum]
  exact ret_app rfl wf trivial q

/-! avoids -/
abbrev N_avoids : List Str := ["word", "letter", "other", "_"]


def r_avoids : DTS :=
  (dRet (dCB dAll (dCons (dLc (dIter (dVar 0)) (dgTup 2 (dgCons (dgName 2) (dgCons (dgName 3) dgNil))) dYes (dOp dNe (dVar 2) (dVar 1)) [2, 3]) dNil)))
def sp_avoids : DSp := fun ds st Q => ∃ (w : Word) (l : Letter), ds = [dW w, dL l] ∧ w.length ≤ 1000000 ∧ Q (.bl (decide (∀ r ∈ w, r.1 ≠ l))) st
theorem lp_avoids {st : Store} {ok fin : Store → Prop} {l : Letter} {x : Option D} (hok : ∀ s, ok s) : ∀ (ps : Word) (acc : List Bool), acc.length + ps.length ≤ 1000000 → fin (st ++ [.lst ((acc ++ ps.map fun r => decide (r.1 ≠ l)).map D.bl)]) →
    dLcL (dgTup 2 (dgCons (dgName 2) (dgCons (dgName 3) dgNil))) dYes (dOp dNe (dVar 2) (dVar 1)) ok [x, some (dL l), none, none] st.length fin (ps.map dRun) (st ++ [.lst (acc.map D.bl)])
  | [], acc, hl, h => ⟨hok _, by
    rwa [List.map_nil, List.append_nil] at h⟩
  | (m, e) :: ps, acc, hl, h => by
    have hl' : acc.length + (ps.length + 1) ≤ 1000000 := hl
    refine ⟨hok _, ?_⟩
    have ih := lp_avoids (x := x) (st := st) (l := l) (fin := fin) hok ps (acc ++ [decide (m ≠ l)]) (by simp; omega) (by rw [List.append_assoc]; exact h)
    clear h
    have e : (!decide (m = l)) = decide (m ≠ l) := by simp
    walk_at "d"
    unfold dYes at ih ⊢
    refine ⟨small_line' (by omega), ?_⟩
    first | exact ih | (rw [e]; exact ih)
theorem read_avoids : ∀ ds st Q, Wf st → D.lts st.length ds → sp_avoids ds st Q → r_avoids st.length { nx := fun _ st' => Ret st.length Q .non st', rt := Ret st.length Q } (dstart N_avoids ds) st := by
  intro ds st Q wf wl h
  obtain ⟨w, l, rfl, hl, q⟩ := h
  unfold r_avoids N_avoids
  walk_at "d"
  refine lp_avoids (st := st) (fun _ => trivial) w [] (by simpa using hl) ?_
  rw [List.nil_append]
  refine dAll_ref (bs := w.map fun r => decide (r.1 ≠ l)) get_end ?_
  have e : (w.map fun r => decide (r.1 ≠ l)).all id = decide (∀ r ∈ w, r.1 ≠ l) := by
    rw [List.all_map, Bool.eq_iff_iff]
    simp
  rw [e]
  exact ret_app rfl wf trivial q

theorem len_avoids : ∀ ds s Q, sp_avoids ds s Q → ds.length = 2 := by
  intro ds s Q h
  unfold sp_avoids at h
  repeat (obtain ⟨_, h⟩ := h)
  subst_vars
  rfl
/-! spell -/
abbrev N_spell : List Str := ["word", "letter", "exponent", "_"]

def g_spell_1 : DTG := (dgName 3)
def b_spell_1 : DTGn :=
  (dGSeq (dGYield (dTup (dCons (dVar 1) (dCons (dIf (dB (dOp dGt (dVar 2) (dC (.int 0)))) (dC (.int 1)) (dUn dNeg (dC (.int 1)))) dNil))))
  dGNext)
theorem ug_spell_1 {x env st Q} : g_spell_1 x env st Q = (dgName 3) x env st Q := rfl
theorem ub_spell_1 {d ds env st} : b_spell_1 d ds env st = (dGSeq (dGYield (dTup (dCons (dVar 1) (dCons (dIf (dB (dOp dGt (dVar 2) (dC (.int 0)))) (dC (.int 1)) (dUn dNeg (dC (.int 1)))) dNil))))
  dGNext) d ds env st := rfl
def g_spell_0 : DTG := (dgTup 2 (dgCons (dgName 1) (dgCons (dgName 2) dgNil)))
def b_spell_0 : DTGn :=
  (dGSeq (dGFor (dRng1 (dCons (dCB dAbs (dCons (dVar 2) dNil)) dNil)) g_spell_1 b_spell_1)
  dGNext)
theorem ug_spell_0 {x env st Q} : g_spell_0 x env st Q = (dgTup 2 (dgCons (dgName 1) (dgCons (dgName 2) dgNil))) x env st Q := rfl
theorem ub_spell_0 {d ds env st} : b_spell_0 d ds env st = (dGSeq (dGFor (dRng1 (dCons (dCB dAbs (dCons (dVar 2) dNil)) dNil)) g_spell_1 b_spell_1)
  dGNext) d ds env st := rfl
def r_spell : DTGn :=
  (dGSeq (dGFor (dIter (dVar 0)) g_spell_0 b_spell_0)
  dGNext)
def sp_spell : DSpG := fun ds st Q => ∃ (w : Word), ds = [dW w] ∧ size w ≤ 1000000 ∧ Q ((spelled w).map dRun) st
theorem lp1_spell {d : DGEnds} {S : Store} {w : Word} {l : Letter} {e : Int} : ∀ (n : Nat) (i : Int) (acc : Word) (x : Option D), acc.length + n ≤ 1000000 →
    (∀ x, d.nx ((acc ++ List.replicate n (l, if e < 0 then -1 else 1)).map dRun) [some (dW w), some (dL l), some (.int e), x] S) → e ≠ 0 →
    dGLoop g_spell_1 b_spell_1 d (fun _ => True) (rangeD i n) (acc.map dRun) [some (dW w), some (dL l), some (.int e), x] S
  | 0, i, acc, x, hl, h, he => ⟨trivial, by
    have := h x
    simpa using this⟩
  | n + 1, i, acc, x, hl, h, he => by
    have ih := fun x => lp1_spell (d := d) (S := S) (w := w) (l := l) (e := e) n (i + 1) (acc ++ [(l, if e < 0 then -1 else 1)]) x (by simp; omega) (by
      intro x
      have := h x
      rwa [List.replicate_succ, List.append_cons] at this) he
    clear h
    refine ⟨trivial, ?_⟩
    rw [ug_spell_1]
    walk_at "d"
    rw [ub_spell_1]
    have hsz : (acc.map dRun).length < sizeLine := small_line' (by rw [List.length_map]; omega)
    unfold dGSeq dGYield dGNext
    refine ⟨hsz, ?_⟩
    walk_at "d"
    have ih' := ih (some (.int i))
    by_cases h0 : 0 < e
    · rw [if_pos h0]
      rw [if_neg (show ¬ e < 0 by omega)] at ih'
      walk_at "d"
      refine ⟨by decide, ?_⟩
      exact ih'
    · rw [if_neg h0]
      rw [if_pos (show e < 0 by omega)] at ih'
      walk_at "d"
      refine ⟨by decide, ?_⟩
      exact ih'
theorem lp0_spell {d : DGEnds} {S : Store} {w : Word} {ok : Store → Prop} (hok : ok S) : ∀ (rest acc : Word) (x y z : Option D), acc.length + size rest ≤ 1000000 →
    (∀ x y z, d.nx ((acc ++ spelled rest).map dRun) [some (dW w), x, y, z] S) →
    dGLoop g_spell_0 b_spell_0 d ok (rest.map dRun) (acc.map dRun) [some (dW w), x, y, z] S
  | [], acc, x, y, z, hl, h => ⟨hok, by
    have := h x y z
    rwa [show spelled ([] : Word) = [] from rfl, List.append_nil] at this⟩
  | (l, e) :: rest, acc, x, y, z, hl, h => by
    rw [size_cons] at hl
    dsimp only at hl
    have ih := fun x y z => lp0_spell (d := d) (w := w) hok rest (acc ++ spell1 (l, e)) x y z (by
      rw [List.length_append]
      unfold spell1
      rw [List.length_replicate]
      dsimp only
      omega) (by
      intro x y z
      have := h x y z
      unfold spelled at this ⊢
      rwa [List.flatMap_cons, ← List.append_assoc] at this)
    clear h
    refine ⟨hok, ?_⟩
    rw [ug_spell_0]
    walk_at "d"
    rw [ub_spell_0]
    unfold dGSeq dGFor dGNext
    walk_at "d"
    have e2 : (if e < 0 then -e else e) = (e.natAbs : Nat) := by split <;> omega
    rw [e2, Int.toNat_natCast]
    refine ⟨⟨by omega, by omega⟩, ?_⟩
    by_cases he : e = 0
    · subst he
      have e0 : acc ++ spell1 (l, 0) = acc := by simp [spell1]
      rw [e0] at ih
      exact ⟨trivial, ih _ _ _⟩
    · exact lp1_spell e.natAbs 0 acc _ (by omega) (fun x => ih _ _ _) he
theorem read_spell : ∀ ds st Q, Wf st → D.lts st.length ds → sp_spell ds st Q → r_spell { nx := fun out _ st' => Q out st', rt := fun _ _ _ => False } [] (dstart N_spell ds) st := by
  intro ds st Q wf wl h
  obtain ⟨w, rfl, hl, q⟩ := h
  unfold r_spell N_spell dGSeq dGFor dGNext
  walk_at "d"
  exact lp0_spell (ok := fun _ => True) trivial w [] none none none (by simpa using hl) fun x y z => q

theorem len_spell : ∀ ds s Q, sp_spell ds s Q → ds.length = 1 := by
  intro ds s Q h
  unfold sp_spell at h
  repeat (obtain ⟨_, h⟩ := h)
  subst_vars
  rfl
/-! _law_pool -/
abbrev N__law_pool : List Str := ["script", "place", "cell", "seed"]


def r__law_pool : DTS :=
  (dSeq (dSet 2 (dC (.int 0)))
  (dSeq (dIfS (dB (dOp dLt (dVar 1) (dCB dLen (dCons (dVar 0) dNil)))) (dSet 2 (dCB dAbs (dCons (dCB dInt1 (dCons (dOp dIx (dVar 0) (dVar 1)) dNil)) dNil))) dNext)
  (dSeq (dSet 3 (dOp dAdd (dOp dAdd (dOp dMod (dCB dInt1 (dCons (dVar 2) dNil)) (dC (.int 2147483563))) (dOp dMul (dC (.int 7919)) (dVar 1))) (dC (.int 1))))
  (dSeq (dIfS (dB (dOp dLt (dVar 2) (dOp dPow (dC (.int 10)) (dC (.int 18))))) (dSet 2 (dC (.int 0))) dNext)
  (dRet (dLst (dCons (dVar 2) (dCons (dC (.int 0)) (dCons (dVar 3) dNil)))))))))
def sp__law_pool : DSp := fun ds st Q => ∃ (ns : List Int) (p : Int), ds = [.rol (ns.map D.int), .int p] ∧ 0 ≤ p ∧ p ≤ 100 ∧ ns.length ≤ 63 ∧ ∀ p : Pool, Q (.ref st.length) (st ++ [p.1])
theorem read__law_pool : ∀ ds st Q, Wf st → D.lts st.length ds → sp__law_pool ds st Q → r__law_pool st.length { nx := fun _ st' => Ret st.length Q .non st', rt := Ret st.length Q } (dstart N__law_pool ds) st := by
  intro ds st Q wf wl h
  obtain ⟨ns, p, rfl, h0, h1, hl, q⟩ := h
  have fin : ∀ c n s : Int, 0 ≤ c → 3 ≤ sizeLine ∧ Ret st.length Q (.ref st.length) (st ++ [.lst [.int c, .int n, .int s]]) := fun c n s hc =>
    ⟨by decide, ret_cell rfl wf (Nat.le_refl _) get_end (IsPool.lt ⟨c, n, s, rfl, hc⟩) (q ⟨_, c, n, s, rfl, hc⟩)⟩
  have cm : CMulA 7919 p := CMulA.left (by decide) (by decide)
  have cp : CPow 10 18 := ⟨by decide, by decide, by decide⟩
  have c3 : (2147483563 : Int) ≠ 0 := by decide
  unfold r__law_pool N__law_pool
  walk_at "d"
  split
  · rename_i hp
    rw [atI_nn h0 (by rw [List.length_map]; exact hp), List.getElem?_map, List.getElem?_eq_getElem (by omega)]
    walk_at "d"
    refine ⟨c3, cm, cp, ?_⟩
    repeat' split
    all_goals exact fin _ _ _ (by omega)
  · refine ⟨c3, cm, cp, ?_⟩
    repeat' split
    all_goals exact fin _ _ _ (by omega)

theorem len__law_pool : ∀ ds s Q, sp__law_pool ds s Q → ds.length = 2 := by
  intro ds s Q h
  unfold sp__law_pool at h
  repeat (obtain ⟨_, h⟩ := h)
  subst_vars
  rfl
/-! _law_draw -/
abbrev N__law_draw : List Str := ["pool", "many", "value", "mixed"]


def r__law_draw : DTS :=
  (dSeq (dIfS (dB (dOp dGt (dOp dIx (dVar 0) (dC (.int 0))) (dC (.int 0)))) (dSeq (dSet 2 (dOp dMod (dCB dInt1 (dCons (dOp dIx (dVar 0) (dC (.int 0))) dNil)) (dVar 1)))
  (dSeq (dAsg (dOp dFdiv (dCB dInt1 (dCons (dOp dIx (dVar 0) (dC (.int 0))) dNil)) (dVar 1)) (dgSub (dVar 0) (dC (.int 0))))
  (dRet (dVar 2)))) dNext)
  (dSeq (dAsg (dOp dAdd (dOp dIx (dVar 0) (dC (.int 1))) (dC (.int 1))) (dgSub (dVar 0) (dC (.int 1))))
  (dSeq (dSet 3 (dOp dMod (dCB dInt1 (dCons (dOp dAdd (dOp dMul (dOp dIx (dVar 0) (dC (.int 2))) (dC (.int 48271))) (dOp dMul (dOp dIx (dVar 0) (dC (.int 1))) (dC (.int 69621)))) dNil)) (dC (.int 2147483647))))
  (dSeq (dSet 3 (dOp dMod (dCB dInt1 (dCons (dOp dAdd (dOp dMul (dVar 3) (dVar 3)) (dOp dMul (dOp dIx (dVar 0) (dC (.int 1))) (dC (.int 7919)))) dNil)) (dC (.int 2147483629))))
  (dSeq (dSet 3 (dOp dMod (dCB dInt1 (dCons (dOp dAdd (dOp dMul (dVar 3) (dVar 3)) (dOp dIx (dVar 0) (dC (.int 2)))) dNil)) (dC (.int 2147483587))))
  (dRet (dOp dMod (dCB dInt1 (dCons (dVar 3) dNil)) (dVar 1))))))))
def sp__law_draw : DSp := fun ds st Q => ∃ (k : Nat) (m : Int) (p : Pool), ds = [.ref k, .int m] ∧ st[k]? = some p.1 ∧ 0 < m ∧ m ≤ 10 ^ 30 ∧ ∀ v (p' : Pool), 0 ≤ v → v < m → Q (.int v) (st.set k p'.1)
theorem draw_eq {k : Nat} {m : Int} {st : Store} {Q : DQ} : sp__law_draw [.ref k, .int m] st Q = ∃ p : Pool, st[k]? = some p.1 ∧ 0 < m ∧ m ≤ 10 ^ 30 ∧ ∀ v (p' : Pool), 0 ≤ v → v < m → Q (.int v) (st.set k p'.1) := by
  apply propext
  constructor
  · rintro ⟨k, m, p, e, h⟩
    cases e
    exact ⟨p, h⟩
  · rintro ⟨p, h⟩
    exact ⟨k, m, p, rfl, h⟩
theorem fmod_pos {a b : Int} (h : 0 < b) : 0 ≤ a.fmod b ∧ a.fmod b < b := by
  rw [Int.fmod_eq_emod_of_nonneg a (by omega)]
  exact ⟨Int.emod_nonneg a (by omega), Int.emod_lt_of_pos a h⟩
theorem sq_m {a b : Int} (h0 : 0 < b) (h1 : b < 2 ^ 63) : CMulA (a.fmod b) (a.fmod b) := by
  have := fmod_pos (a := a) h0
  exact CMulA.left (by omega) (by omega)
theorem log2_m {m : Int} (h0 : 0 < m) (h1 : m ≤ 10 ^ 30) : CDivA a m := by
  refine .inr ⟨h0, ?_⟩
  have h2 : m.natAbs < 2 ^ 100 := by
    have : (10 : Int) ^ 30 < 2 ^ 100 := by decide
    omega
  have := PySem.Flt.log2_lt_of (show 0 < 100 by decide) h2
  omega
theorem read__law_draw : ∀ ds st Q, Wf st → D.lts st.length ds → sp__law_draw ds st Q → r__law_draw st.length { nx := fun _ st' => Ret st.length Q .non st', rt := Ret st.length Q } (dstart N__law_draw ds) st := by
  intro ds st Q wf wl h
  obtain ⟨k, m, ⟨o, c, n, s, rfl, hc⟩, rfl, ho, h0, h1, q⟩ := h
  have fin : ∀ (v c n s : Int), 0 ≤ v → v < m → 0 ≤ c → Ret st.length Q (.int v) (st.set k (.lst [.int c, .int n, .int s])) := fun v c n s a b hc =>
    ret_eq (by rw [List.length_set]) (wf.set (IsPool.lt ⟨c, n, s, rfl, hc⟩)) trivial (q v ⟨_, c, n, s, rfl, hc⟩ a b)
  have i0 : ∀ i, dItem st (.ref k) i = atI [.int c, .int n, .int s] i := fun i => item_ref ho
  have i1 : ∀ xs i, dItem (st.set k (.lst xs)) (.ref k) i = atI xs i := fun xs i => item_ref (set_get ho)
  have s0 : ∀ i v, dSetIx st (.ref k) i v = (ixN 3 i).map fun j => st.set k (.lst ([D.int c, .int n, .int s].set j v)) := fun i v => setIx_ref ho
  have s1 : ∀ xs i v, dSetIx (st.set k (.lst xs)) (.ref k) i v = (ixN xs.length i).map fun j => st.set k (.lst (xs.set j v)) := fun xs i v => by rw [setIx_ref (set_get ho)]; simp only [List.set_set]
  clear ho q
  unfold r__law_draw N__law_draw
  walk_at "e"
  split
  · rename_i hp
    refine ⟨by omega, log2_m h0 h1, fin _ _ _ _ (fmod_pos h0).1 (fmod_pos h0).2 ?_⟩
    rw [Int.fdiv_eq_ediv_of_nonneg c (by omega)]
    exact Int.ediv_nonneg hc (by omega)
  · refine ⟨CMulA.right (by decide) (by decide), CMulA.right (by decide) (by decide), by decide, ?_, CMulA.right (by decide) (by decide), by decide, ?_, by decide, by omega, fin _ _ _ _ (fmod_pos h0).1 (fmod_pos h0).2 hc⟩
    all_goals exact sq_m (by decide) (by decide)

theorem len__law_draw : ∀ ds s Q, sp__law_draw ds s Q → ds.length = 2 := by
  intro ds s Q h
  unfold sp__law_draw at h
  repeat (obtain ⟨_, h⟩ := h)
  subst_vars
  rfl
/-! _law_size -/
abbrev N__law_size : List Str := ["word", "run"]


def r__law_size : DTS :=
  (dRet (dCB dSum (dCons (dLc (dIter (dVar 0)) (dgName 1) dYes (dCB dAbs (dCons (dOp dIx (dVar 1) (dC (.int 1))) dNil)) [1]) dNil)))
def sp__law_size : DSp := fun ds st Q => ∃ (w : Word), ds = [dW w] ∧ w.length ≤ 1000000 ∧ Q (.int (size w : Nat)) st
def absI (i : Int) : Int := if i < 0 then -i else i
theorem sum_abs (w : Word) : (w.map fun r => absI r.2).sum = (size w : Nat) := by
  induction w with
  | nil => rfl
  | cons r w ih =>
    rw [List.map_cons, List.sum_cons, ih, size_cons]
    unfold absI
    split <;> omega
theorem lp__law_size {st : Store} {ok fin : Store → Prop} {a : Option D} (hok : ∀ s, ok s) : ∀ (ps : Word) (acc : List Int), acc.length + ps.length ≤ 1000000 → fin (st ++ [.lst ((acc ++ ps.map fun r => absI r.2).map D.int)]) →
    dLcL (dgName 1) dYes (dCB dAbs (dCons (dOp dIx (dVar 1) (dC (.int 1))) dNil)) ok [a, none] st.length fin (ps.map dRun) (st ++ [.lst (acc.map D.int)])
  | [], acc, hl, h => ⟨hok _, by rwa [List.map_nil, List.append_nil] at h⟩
  | r :: ps, acc, hl, h => by
    have hl' : acc.length + (ps.length + 1) ≤ 1000000 := hl
    refine ⟨hok _, ?_⟩
    walk_at "d"
    refine ⟨small_line' (by omega), ?_⟩
    refine lp__law_size hok ps _ (by simp; omega) ?_
    rw [List.append_assoc]
    exact h
theorem read__law_size : ∀ ds st Q, Wf st → D.lts st.length ds → sp__law_size ds st Q → r__law_size st.length { nx := fun _ st' => Ret st.length Q .non st', rt := Ret st.length Q } (dstart N__law_size ds) st := by
  intro ds st Q wf wl h
  obtain ⟨w, rfl, hl, q⟩ := h
  unfold r__law_size N__law_size
  walk_at "d"
  refine lp__law_size (st := st) (fun _ => trivial) w [] (by simpa using hl) ?_
  refine dSum_ref get_end ?_
  rw [List.nil_append, sum_abs]
  exact ret_app rfl wf trivial q

theorem len__law_size : ∀ ds s Q, sp__law_size ds s Q → ds.length = 1 := by
  intro ds s Q h
  unfold sp__law_size at h
  repeat (obtain ⟨_, h⟩ := h)
  subst_vars
  rfl
/-! _law_sum -/
abbrev N__law_sum : List Str := ["word", "one", "run"]


def r__law_sum : DTS :=
  (dRet (dCB dSum (dCons (dLc (dIter (dVar 0)) (dgName 2) (dB (dOp dEq (dOp dIx (dVar 2) (dC (.int 0))) (dVar 1))) (dOp dIx (dVar 2) (dC (.int 1))) [2]) dNil)))
def sp__law_sum : DSp := fun ds st Q => ∃ (w : Word) (l : Letter), ds = [dW w, dL l] ∧ w.length ≤ 1000000 ∧ Q (.int (esum l w)) st
theorem len__law_sum : ∀ ds s Q, sp__law_sum ds s Q → ds.length = 2 := by
  intro ds s Q ⟨u, v, e, _⟩
  subst e
  rfl
def lexps (l : Letter) : Word → List Int
  | [] => []
  | r :: w => if r.1 = l then r.2 :: lexps l w else lexps l w
theorem lexps_sum (l : Letter) (w : Word) : (lexps l w).sum = esum l w := by
  induction w with
  | nil => rfl
  | cons r w ih =>
    rw [lexps, esum_cons]
    split
    · rw [List.sum_cons, ih]
    · rw [ih]; omega
theorem lp__law_sum {st : Store} {ok fin : Store → Prop} {a : Option D} {l : Letter} (hok : ∀ s, ok s) : ∀ (ps : Word) (acc : List Int), acc.length + ps.length ≤ 1000000 → fin (st ++ [.lst ((acc ++ lexps l ps).map D.int)]) →
    dLcL (dgName 2) (dB (dOp dEq (dOp dIx (dVar 2) (dC (.int 0))) (dVar 1))) (dOp dIx (dVar 2) (dC (.int 1))) ok [a, some (dL l), none] st.length fin (ps.map dRun) (st ++ [.lst (acc.map D.int)])
  | [], acc, hl, h => ⟨hok _, by rwa [lexps, List.append_nil] at h⟩
  | r :: ps, acc, hl, h => by
    have hl' : acc.length + (ps.length + 1) ≤ 1000000 := hl
    refine ⟨hok _, ?_⟩
    walk_at "d"
    rw [lexps] at h
    split
    · rename_i hll
      rw [if_pos hll] at h
      refine ⟨small_line' (by omega), lp__law_sum hok ps _ (by simp; omega) ?_⟩
      rw [List.append_assoc]
      exact h
    · rename_i hll
      rw [if_neg hll] at h
      exact lp__law_sum hok ps _ (by omega) h
theorem read__law_sum : ∀ ds st Q, Wf st → D.lts st.length ds → sp__law_sum ds st Q → r__law_sum st.length { nx := fun _ st' => Ret st.length Q .non st', rt := Ret st.length Q } (dstart N__law_sum ds) st := by
  intro ds st Q wf wl h
  obtain ⟨w, l, rfl, hl, q⟩ := h
  unfold r__law_sum N__law_sum
  walk_at "d"
  refine lp__law_sum (st := st) (fun _ => trivial) w [] (by simpa using hl) ?_
  refine dSum_ref get_end ?_
  rw [List.nil_append, lexps_sum]
  exact ret_app rfl wf trivial q

theorem law_sum_eq {w : Word} {l : Letter} {st : Store} {Q : DQ} (hw : w.length ≤ 1000000) : sp__law_sum [dW w, dL l] st Q = Q (.int (esum l w)) st := by
  apply propext
  constructor
  · rintro ⟨w', l', e, _, q⟩
    injection e with e1 e2
    injection e2 with e2 e3
    rw [dW_inj e1, dL_inj e2]
    exact q
  · intro q
    exact ⟨w, l, rfl, hw, q⟩

/-! _law_lacks -/
abbrev N__law_lacks : List Str := ["word", "one", "run"]


def r__law_lacks : DTS :=
  (dRet (dOp dEq (dCB dLen (dCons (dLc (dIter (dVar 0)) (dgName 2) (dB (dOp dEq (dOp dIx (dVar 2) (dC (.int 0))) (dVar 1))) (dVar 2) [2]) dNil)) (dC (.int 0))))
def sp__law_lacks : DSp := fun ds st Q => ∃ (w : Word) (l : Letter), ds = [dW w, dL l] ∧ w.length ≤ 1000000 ∧ Q (.bl (decide (∀ r ∈ w, r.1 ≠ l))) st
theorem lp__law_lacks {st : Store} {ok fin : Store → Prop} {l : Letter} {x : Option D} (hok : ∀ s, ok s) : ∀ (ps acc : Word), acc.length + ps.length ≤ 1000000 → fin (st ++ [.lst ((acc ++ ps.filter fun r => decide (r.1 = l)).map dRun)]) →
    dLcL (dgName 2) (dB (dOp dEq (dOp dIx (dVar 2) (dC (.int 0))) (dVar 1))) (dVar 2) ok [x, some (dL l), none] st.length fin (ps.map dRun) (st ++ [.lst (acc.map dRun)])
  | [], acc, hl, h => ⟨hok _, by
    rwa [List.filter_nil, List.append_nil] at h⟩
  | (m, e) :: ps, acc, hl, h => by
    have hl' : acc.length + (ps.length + 1) ≤ 1000000 := hl
    refine ⟨hok _, ?_⟩
    walk_at "d"
    by_cases hm : m = l
    · subst hm
      rw [if_pos rfl]
      try walk_at "d"
      refine ⟨small_line' (by omega), lp__law_lacks hok ps _ (by simp; omega) ?_⟩
      rw [List.append_assoc]
      rw [List.filter_cons_of_pos (by simp)] at h
      exact h
    · rw [if_neg hm]
      refine lp__law_lacks hok ps _ (by omega) ?_
      rwa [List.filter_cons_of_neg (by simpa using hm)] at h
theorem read__law_lacks : ∀ ds st Q, Wf st → D.lts st.length ds → sp__law_lacks ds st Q → r__law_lacks st.length { nx := fun _ st' => Ret st.length Q .non st', rt := Ret st.length Q } (dstart N__law_lacks ds) st := by
  intro ds st Q wf wl h
  obtain ⟨w, l, rfl, hl, q⟩ := h
  unfold r__law_lacks N__law_lacks
  walk_at "d"
  refine lp__law_lacks (st := st) (fun _ => trivial) w [] (by simpa using hl) ?_
  have e : decide (((w.filter fun r => decide (r.1 = l)).length : Int) = 0) = decide (∀ r ∈ w, r.1 ≠ l) := by
    rw [decide_eq_decide]
    rw [show (((w.filter fun r => decide (r.1 = l)).length : Int) = 0) ↔ (w.filter fun r => decide (r.1 = l)) = [] by rw [← List.length_eq_zero_iff]; omega]
    rw [List.filter_eq_nil_iff]
    simp
  rw [← e] at q
  walk_at "d"
  exact ret_app rfl wf trivial q

theorem len__law_lacks : ∀ ds s Q, sp__law_lacks ds s Q → ds.length = 2 := by
  intro ds s Q h
  unfold sp__law_lacks at h
  repeat (obtain ⟨_, h⟩ := h)
  subst_vars
  rfl
/-! _law_spelled -/
abbrev N__law_spelled : List Str := ["word", "rows", "run", "sign", "k"]

def g__law_spelled_1 : DTG := (dgName 4)
def b__law_spelled_1 : DTS :=
  (dDrop (dBM dAppend (dVar 1) (dCons (dTup (dCons (dOp dIx (dVar 2) (dC (.int 0))) (dCons (dVar 3) dNil))) dNil)))
theorem ug__law_spelled_1 {x env st Q} : g__law_spelled_1 x env st Q = (dgName 4) x env st Q := rfl
theorem ub__law_spelled_1 {n d env st} : b__law_spelled_1 n d env st = (dDrop (dBM dAppend (dVar 1) (dCons (dTup (dCons (dOp dIx (dVar 2) (dC (.int 0))) (dCons (dVar 3) dNil))) dNil))) n d env st := rfl
def g__law_spelled_0 : DTG := (dgName 2)
def b__law_spelled_0 : DTS :=
  (dSeq (dSet 3 (dC (.int 1)))
  (dSeq (dIfS (dB (dOp dLt (dOp dIx (dVar 2) (dC (.int 1))) (dC (.int 0)))) (dSet 3 (dOp dSub (dC (.int 0)) (dC (.int 1)))) dNext)
  (dFor (dRng1 (dCons (dCB dMin (dCons (dCB dAbs (dCons (dOp dIx (dVar 2) (dC (.int 1))) dNil)) (dCons (dC (.int 1000000)) dNil))) dNil)) g__law_spelled_1 b__law_spelled_1)))
theorem ug__law_spelled_0 {x env st Q} : g__law_spelled_0 x env st Q = (dgName 2) x env st Q := rfl
theorem ub__law_spelled_0 {n d env st} : b__law_spelled_0 n d env st = (dSeq (dSet 3 (dC (.int 1)))
  (dSeq (dIfS (dB (dOp dLt (dOp dIx (dVar 2) (dC (.int 1))) (dC (.int 0)))) (dSet 3 (dOp dSub (dC (.int 0)) (dC (.int 1)))) dNext)
  (dFor (dRng1 (dCons (dCB dMin (dCons (dCB dAbs (dCons (dOp dIx (dVar 2) (dC (.int 1))) dNil)) (dCons (dC (.int 1000000)) dNil))) dNil)) g__law_spelled_1 b__law_spelled_1))) n d env st := rfl
def r__law_spelled : DTS :=
  (dSeq (dSet 1 (dLst dNil))
  (dSeq (dFor (dIter (dVar 0)) g__law_spelled_0 b__law_spelled_0)
  (dRet (dVar 1))))
def sp__law_spelled : DSp := fun ds st Q => ∃ (w : Word), ds = [dW w] ∧ size w ≤ 1000000 ∧ Q (.ref st.length) (st ++ [.lst ((spelled w).map dRun)])
theorem lp1__law_spelled {m : Nat} {d : DEnds} {S : Store} {x0 : Option D} {l : Letter} {e s : Int} : ∀ (n : Nat) (i : Int) (acc : Word) (x : Option D), acc.length + n ≤ 1000000 →
    (∀ x, d.nx [x0, some (.ref S.length), some (dRun (l, e)), some (.int s), x] (S ++ [.lst ((acc ++ List.replicate n (l, s)).map dRun)])) →
    dLoop g__law_spelled_1 b__law_spelled_1 m d (fun _ => True) (rangeD i n) [x0, some (.ref S.length), some (dRun (l, e)), some (.int s), x] (S ++ [.lst (acc.map dRun)])
  | 0, i, acc, x, hl, h => ⟨trivial, by
    have := h x
    rwa [List.replicate_zero, List.append_nil] at this⟩
  | n + 1, i, acc, x, hl, h => by
    refine ⟨trivial, ?_⟩
    rw [ug__law_spelled_1]
    walk_at "d"
    rw [ub__law_spelled_1]
    walk_at "d"
    refine ⟨by decide, small_line' (by omega), lp1__law_spelled n (i + 1) _ _ (by rw [List.length_append, List.length_singleton]; omega) ?_⟩
    intro x
    have := h x
    rw [List.replicate_succ] at this
    rw [List.append_assoc]
    exact this
theorem lp0__law_spelled {m : Nat} {d : DEnds} {S : Store} {x0 : Option D} {ok : Store → Prop} (hok : ∀ s, ok s) : ∀ (rest acc : Word) (x y z : Option D), acc.length + (spelled rest).length ≤ 1000000 →
    (∀ x y z, d.nx [x0, some (.ref S.length), x, y, z] (S ++ [.lst ((acc ++ spelled rest).map dRun)])) →
    dLoop g__law_spelled_0 b__law_spelled_0 m d ok (rest.map dRun) [x0, some (.ref S.length), x, y, z] (S ++ [.lst (acc.map dRun)])
  | [], acc, x, y, z, hl, h => ⟨hok _, by
    have := h x y z
    have e : spelled ([] : Word) = [] := rfl
    rwa [e, List.append_nil] at this⟩
  | (l, e) :: rest, acc, x, y, z, hl, h => by
    have e1 : spelled ((l, e) :: rest) = List.replicate e.natAbs (l, if e < 0 then (-1 : Int) else 1) ++ spelled rest := rfl
    rw [e1] at h hl
    rw [List.length_append, List.length_replicate] at hl
    refine ⟨hok _, ?_⟩
    rw [ug__law_spelled_0]
    walk_at "d"
    rw [ub__law_spelled_0]
    have ih : ∀ s, s = (if e < 0 then (-1 : Int) else 1) → ∀ x, dLoop g__law_spelled_0 b__law_spelled_0 m d ok (rest.map dRun) [x0, some (.ref S.length), some (dRun (l, e)), some (.int s), x] (S ++ [.lst ((acc ++ List.replicate e.natAbs (l, s)).map dRun)]) := fun s hs x =>
      lp0__law_spelled hok rest _ _ _ _ (by rw [List.length_append, List.length_replicate]; omega) (by
        subst hs
        intro x y z
        have := h x y z
        rwa [← List.append_assoc] at this)
    clear h
    walk_at "d"
    by_cases he : e < 0
    · have e2 : (if (1000000 : Int) < -e then (1000000 : Int) else -e) = (e.natAbs : Nat) := by rw [if_neg (by omega)]; omega
      simp only [he, if_true] at ih ⊢
      rw [e2, Int.toNat_natCast]
      exact ⟨⟨by omega, by omega⟩, lp1__law_spelled _ _ _ _ (by omega) (ih (0 - 1) rfl)⟩
    · have e2 : (if (1000000 : Int) < e then (1000000 : Int) else e) = (e.natAbs : Nat) := by rw [if_neg (by omega)]; omega
      simp only [he, if_false] at ih ⊢
      rw [e2, Int.toNat_natCast]
      exact ⟨⟨by omega, by omega⟩, lp1__law_spelled _ _ _ _ (by omega) (ih 1 rfl)⟩
theorem read__law_spelled : ∀ ds st Q, Wf st → D.lts st.length ds → sp__law_spelled ds st Q → r__law_spelled st.length { nx := fun _ st' => Ret st.length Q .non st', rt := Ret st.length Q } (dstart N__law_spelled ds) st := by
  intro ds st Q wf wl h
  obtain ⟨w, rfl, hl, q⟩ := h
  unfold r__law_spelled N__law_spelled
  walk_at "d"
  refine ⟨Nat.zero_le _, lp0__law_spelled (S := st) (fun _ => trivial) w [] none none none (by rw [List.length_nil, len_spelled]; omega) fun x y z => ?_⟩
  walk_at "d"
  exact ret_cell rfl wf (Nat.le_refl _) get_end (lt_runs _) q

theorem len__law_spelled : ∀ ds s Q, sp__law_spelled ds s Q → ds.length = 1 := by
  intro ds s Q h
  unfold sp__law_spelled at h
  repeat (obtain ⟨_, h⟩ := h)
  subst_vars
  rfl
/-! _law_is_whole -/
abbrev N__law_is_whole : List Str := ["value"]


def r__law_is_whole : DTS :=
  (dRet (dAndV (dCB dIsi (dCons (dVar 0) (dCons (dC (.ty "int")) dNil))) (dNotV (dCB dIsi (dCons (dVar 0) (dCons (dC (.ty "bool")) dNil))))))
def sp__law_is_whole : DSp := fun ds st Q => ∃ (i : Int), ds = [.int i] ∧ Q (.bl true) st
theorem read__law_is_whole : ∀ ds st Q, Wf st → D.lts st.length ds → sp__law_is_whole ds st Q → r__law_is_whole st.length { nx := fun _ st' => Ret st.length Q .non st', rt := Ret st.length Q } (dstart N__law_is_whole ds) st := by
  intro ds st Q wf wl h
  obtain ⟨i, rfl, q⟩ := h
  unfold r__law_is_whole N__law_is_whole
  walk_at "d"
  exact ret_eq rfl wf trivial q

theorem len__law_is_whole : ∀ ds s Q, sp__law_is_whole ds s Q → ds.length = 1 := by
  intro ds s Q h
  unfold sp__law_is_whole at h
  repeat (obtain ⟨_, h⟩ := h)
  subst_vars
  rfl
/-- a comprehension over items with a test: what remains -/
theorem lc_gen {α : Type} {f : α → D} {c : α → Bool} {v : α → D} {dg : DTG} {tt : DTT} {te : DTE} {ok fin : Store → Prop} {env : DEnv} {S : Store} {k : Nat} (hk : k = S.length) (hok : ∀ acc, ok (S ++ [.lst acc])) : ∀ (its : List α) (acc : List D), acc.length + its.length ≤ 1000000 →
    (∀ x ∈ its, ∀ (acc : List D) (N : Store → Prop), acc.length < 1000000 → (c x = true → N (S ++ [.lst (acc ++ [v x])])) → (c x = false → N (S ++ [.lst acc])) → dg (f x) env (S ++ [.lst acc]) fun env' st' => tt env' st' fun b st2 => if b = true then te env' st2 fun y st3 => dPut k y st3 N else N st2) →
    fin (S ++ [.lst (acc ++ (its.filter c).map v)]) → dLcL dg tt te ok env k fin (its.map f) (S ++ [.lst acc])
  | [], acc, hl, hs, h => ⟨hok _, by
    rw [List.filter_nil, List.map_nil, List.append_nil] at h
    exact h⟩
  | x :: its, acc, hl, hs, h => by
    have hl' : acc.length + (its.length + 1) ≤ 1000000 := hl
    refine ⟨hok _, hs x (by simp) acc _ (by omega) (fun hc => ?_) (fun hc => ?_)⟩
    · refine lc_gen hk hok its _ (by rw [List.length_append, List.length_singleton]; omega) (fun y hy => hs y (by simp [hy])) ?_
      rw [List.filter_cons_of_pos hc, List.map_cons] at h
      rw [List.append_assoc]
      exact h
    · refine lc_gen hk hok its _ (by omega) (fun y hy => hs y (by simp [hy])) ?_
      rw [List.filter_cons_of_neg (by rw [hc]; exact Bool.false_ne_true)] at h
      exact h

theorem perm_dL {ys : List D} {ls : List Letter} (p : ys.Perm (ls.map dL)) : ∃ zs : List Letter, zs.Perm ls ∧ ys = zs.map dL := perm_map_ex p ls rfl
theorem allL {ls : List Letter} : (ls.map dL).all (D.fl 8) = true := by
  rw [List.all_eq_true]
  intro d hd
  obtain ⟨i, _, rfl⟩ := List.mem_map.mp hd
  exact fl_L 7 i
theorem alikeL (ls : List Letter) : PySem.W.AllAlike (D.pys (ls.map dL)) := by
  rw [pys_eq]
  intro d hd d' hd'
  obtain ⟨x, hx, rfl⟩ := List.mem_map.mp hd
  obtain ⟨l, hl, rfl⟩ := List.mem_map.mp hx
  obtain ⟨y, hy, rfl⟩ := List.mem_map.mp hd'
  obtain ⟨m, hm, rfl⟩ := List.mem_map.mp hy
  exact like_letters l m
theorem sortableL (ls : List Letter) : PySem.W.Sortable (D.pys (ls.map dL)) := by
  rw [pys_eq]
  refine .inl fun d hd => ?_
  obtain ⟨x, hx, rfl⟩ := List.mem_map.mp hd
  obtain ⟨l, hl, rfl⟩ := List.mem_map.mp hx
  rw [py_letter]
  exact ⟨_, _, rfl⟩
theorem strictL {zs : List Letter} (h : InOrd (zs.map dL)) (nd : zs.Nodup) : zs.Pairwise LtL := by
  unfold InOrd at h
  rw [List.pairwise_map] at h
  refine (h.and nd).imp fun {a b} ⟨h1, h2⟩ => ?_
  rw [lt_letters] at h1
  have h3 : ¬ LtL b a := of_decide_eq_false h1
  exact Classical.byContradiction fun h4 => h2 (LtL.tot h4 h3)
theorem dSortD_ref {S : Store} {k : Nat} {ls : List Letter} {Q : DQ} (h : S[k]? = some (.lst (ls.map dL))) (nd : ls.Nodup) (q : ∀ ms : List Letter, ms.Perm ls → ms.Pairwise LtL → Q (.ref S.length) (S ++ [.lst (ms.map dL)])) : dSortD [.ref k] S Q := by
  unfold dSortD
  dsimp only
  rw [w_items_ref h]
  refine ⟨allL, (fun z e => by cases e), (fun ys e => by cases e), alikeL ls, sortableL ls, fun ys p hw => ?_⟩
  obtain ⟨zs, hz, rfl⟩ := perm_dL p
  exact q zs hz (strictL hw (hz.symm.nodup nd))
/-- the letters of a word, in order -/
theorem sorted_uniq {ls ms : List Letter} (h1 : ls.Pairwise LtL) (h2 : ms.Pairwise LtL) (h : ∀ l, l ∈ ls ↔ l ∈ ms) : ls = ms := by
  induction ls generalizing ms with
  | nil =>
    cases ms with
    | nil => rfl
    | cons m ms => exact absurd ((h m).mpr List.mem_cons_self) (by simp)
  | cons a ls ih =>
    cases ms with
    | nil => exact absurd ((h a).mp List.mem_cons_self) (by simp)
    | cons b ms =>
      obtain ⟨p1, p2⟩ := List.pairwise_cons.mp h1
      obtain ⟨q1, q2⟩ := List.pairwise_cons.mp h2
      have eab : a = b := by
        rcases List.mem_cons.mp ((h a).mp List.mem_cons_self) with e | hm
        · exact e
        · rcases List.mem_cons.mp ((h b).mpr List.mem_cons_self) with e | hl
          · exact e.symm
          · exact absurd (p1 b hl) (LtL.asym (q1 a hm))
      subst eab
      rw [ih p2 q2 fun l => ?_]
      have hl := h l
      rw [List.mem_cons, List.mem_cons] at hl
      constructor
      · intro hm
        rcases hl.mp (.inr hm) with rfl | hm'
        · exact absurd (p1 _ hm) (LtL.irr _)
        · exact hm'
      · intro hm
        rcases hl.mpr (.inr hm) with rfl | hm'
        · exact absurd (q1 _ hm) (LtL.irr _)
        · exact hm'

--needs sortdkit
theorem ord_ins {x : Letter} : ∀ {ls : List Letter}, ls.Pairwise LtL → x ∉ ls → (ls.take (ls.filter fun l => decide (LtL l x)).length ++ [x] ++ ls.drop (ls.filter fun l => decide (LtL l x)).length).Pairwise LtL
  | [], _, _ => by simp
  | a :: ls, h, hx => by
    obtain ⟨h1, h2⟩ := List.pairwise_cons.mp h
    by_cases ha : LtL a x
    · have ih := ord_ins h2 fun hm => hx (List.mem_cons_of_mem _ hm)
      rw [List.filter_cons_of_pos (by simpa using ha), List.length_cons, List.take_succ_cons, List.drop_succ_cons, List.cons_append, List.cons_append, List.pairwise_cons]
      refine ⟨fun b hb => ?_, ih⟩
      rcases List.mem_append.mp hb with hb | hb
      · rcases List.mem_append.mp hb with hb | hb
        · exact h1 b (List.mem_of_mem_take hb)
        · rw [List.mem_singleton] at hb
          rw [hb]
          exact ha
      · exact h1 b (List.mem_of_mem_drop hb)
    · have hxa : LtL x a := Classical.byContradiction fun hc => hx (by rw [LtL.tot ha hc]; exact List.mem_cons_self)
      have e : (a :: ls).filter (fun l => decide (LtL l x)) = [] := by
        rw [List.filter_eq_nil_iff]
        intro b hb
        rcases List.mem_cons.mp hb with rfl | hb
        · simpa using ha
        · simpa using LtL.asym (hxa.trans (h1 b hb))
      rw [e]
      simp only [List.length_nil, List.take_zero, List.nil_append, List.drop_zero, List.singleton_append, List.pairwise_cons]
      refine ⟨fun b hb => ?_, h1, h2⟩
      rcases List.mem_cons.mp hb with rfl | hb
      · exact hxa
      · exact hxa.trans (h1 b hb)
theorem mem_ins {x l : Letter} {ls : List Letter} {k : Nat} : l ∈ ls.take k ++ [x] ++ ls.drop k ↔ l = x ∨ l ∈ ls := by
  have e : l ∈ ls ↔ l ∈ ls.take k ++ ls.drop k := by rw [List.take_append_drop]
  rw [e]
  simp only [List.mem_append, List.mem_singleton]
  constructor
  · rintro ((h | h) | h)
    · exact .inr (.inl h)
    · exact .inl h
    · exact .inr (.inr h)
  · rintro (h | h | h)
    · exact .inl (.inr h)
    · exact .inl (.inl h)
    · exact .inr h
def insL (ls : List Letter) (x : Letter) : List Letter := if x ∈ ls then ls else ls.take (ls.filter fun l => decide (LtL l x)).length ++ [x] ++ ls.drop (ls.filter fun l => decide (LtL l x)).length
theorem insL_ok {ls : List Letter} (h : ls.Pairwise LtL) (x : Letter) : (insL ls x).Pairwise LtL ∧ ∀ l, l ∈ insL ls x ↔ l = x ∨ l ∈ ls := by
  unfold insL
  split
  · rename_i hx
    refine ⟨h, fun l => ⟨.inr, ?_⟩⟩
    rintro (rfl | hl)
    · exact hx
    · exact hl
  · rename_i hx
    exact ⟨ord_ins h hx, fun l => mem_ins⟩
/-- the letters of a word, in order -/
def lets (w : Word) : List Letter := (w.map (·.1)).foldl insL []
theorem foldl_ok : ∀ (xs ls : List Letter), ls.Pairwise LtL → (xs.foldl insL ls).Pairwise LtL ∧ ∀ l, l ∈ xs.foldl insL ls ↔ l ∈ ls ∨ l ∈ xs
  | [], ls, h => ⟨h, fun l => by simp⟩
  | x :: xs, ls, h => by
    obtain ⟨h1, h2⟩ := insL_ok h x
    obtain ⟨h3, h4⟩ := foldl_ok xs (insL ls x) h1
    refine ⟨h3, fun l => ?_⟩
    rw [List.foldl_cons, h4, h2, List.mem_cons]
    constructor
    · rintro ((h | h) | h)
      · exact .inr (.inl h)
      · exact .inl h
      · exact .inr (.inr h)
    · rintro (h | h | h)
      · exact .inl (.inr h)
      · exact .inl (.inl h)
      · exact .inr h
theorem lets_ord (w : Word) : (lets w).Pairwise LtL := (foldl_ok _ _ List.Pairwise.nil).1
theorem mem_lets {w : Word} {l : Letter} : l ∈ lets w ↔ ∃ r ∈ w, r.1 = l := by
  unfold lets
  rw [(foldl_ok _ _ List.Pairwise.nil).2]
  simp
theorem lets_eq {w : Word} {ls : List Letter} (h1 : ls.Pairwise LtL) (h2 : ∀ l, l ∈ ls ↔ ∃ r ∈ w, r.1 = l) : ls = lets w := sorted_uniq h1 (lets_ord w) fun l => by rw [h2, mem_lets]
theorem lets_nodup (w : Word) : (lets w).Nodup := (lets_ord w).imp fun {a b} h e => by
  subst e
  exact LtL.irr _ h
theorem len_lets (w : Word) : (lets w).length ≤ w.length := by
  have := nodup_le (lets_nodup w) (m := w.map (·.1)) fun l hl => by
    obtain ⟨r, hr, e⟩ := mem_lets.mp hl
    exact List.mem_map.mpr ⟨r, hr, e⟩
  rwa [List.length_map] at this
theorem lets_fits (w : Word) (h : w.length < 60) : ∃ ls : List Letter, ls.length < 60 ∧ ∀ r ∈ w, r.1 ∈ ls := ⟨w.map (·.1), by rw [List.length_map]; exact h, fun r hr => List.mem_map.mpr ⟨r, hr, rfl⟩⟩

/-! _law_in_order -/
abbrev N__law_in_order : List Str := ["word", "rows", "run", "ahead", "one"]

def g__law_in_order_0 : DTG := (dgName 2)
def b__law_in_order_0 : DTS :=
  (dGc (dSeq (dSet 3 (dCB dLen (dCons (dLc (dIter (dVar 1)) (dgName 4) (dB (dOp dLtD (dVar 4) (dOp dIx (dVar 2) (dC (.int 0))))) (dVar 4) [4]) dNil)))
  (dIfS (dB (dOp dNotIn (dOp dIx (dVar 2) (dC (.int 0))) (dVar 1))) (dDrop (dBM dInsert (dVar 1) (dCons (dVar 3) (dCons (dOp dIx (dVar 2) (dC (.int 0))) dNil)))) dNext)))
theorem ug__law_in_order_0 {x env st Q} : g__law_in_order_0 x env st Q = (dgName 2) x env st Q := rfl
theorem ub__law_in_order_0 {n d env st} : b__law_in_order_0 n d env st = (dGc (dSeq (dSet 3 (dCB dLen (dCons (dLc (dIter (dVar 1)) (dgName 4) (dB (dOp dLtD (dVar 4) (dOp dIx (dVar 2) (dC (.int 0))))) (dVar 4) [4]) dNil)))
  (dIfS (dB (dOp dNotIn (dOp dIx (dVar 2) (dC (.int 0))) (dVar 1))) (dDrop (dBM dInsert (dVar 1) (dCons (dVar 3) (dCons (dOp dIx (dVar 2) (dC (.int 0))) dNil)))) dNext))) n d env st := rfl
def r__law_in_order : DTS :=
  (dSeq (dSet 1 (dLst dNil))
  (dSeq (dFor (dIter (dVar 0)) g__law_in_order_0 b__law_in_order_0)
  (dRet (dVar 1))))
def sp__law_in_order : DSp := fun ds st Q => ∃ (w : Word), ds = [dW w] ∧ w.length ≤ 1000 ∧ ∀ ls : List Letter, ls.Pairwise LtL → (∀ l, l ∈ ls ↔ ∃ r ∈ w, r.1 = l) → ls.length ≤ w.length → Q (.ref st.length) (st ++ [.lst (ls.map dL)])
theorem lp__law_in_order {S : Store} {m : Nat} {d : DEnds} {w0 : Word} (wf : Wf S) (hm : m = S.length + 1) (w1 : w0.length ≤ 1000)
    (h : ∀ (ls : List Letter) x2 x3 x4 (t : Store), ls.Pairwise LtL → (∀ l, l ∈ ls ↔ ∃ r ∈ w0, r.1 = l) → ls.length ≤ w0.length → d.nx [some (dW w0), some (.ref S.length), x2, x3, x4] (S ++ .lst (ls.map dL) :: t)) :
    ∀ (w u : Word) (ls : List Letter) x2 x3 x4 (t : Store), w0 = u ++ w → ls.length ≤ u.length → ls.Pairwise LtL → (∀ l, l ∈ ls ↔ ∃ r ∈ u, r.1 = l) →
      dLoop g__law_in_order_0 b__law_in_order_0 m d (okOf (dW w0) (w0.map dRun)) (w.map dRun) [some (dW w0), some (.ref S.length), x2, x3, x4] (S ++ .lst (ls.map dL) :: t)
  | [], u, ls, x2, x3, x4, t, e, hl, hp, hi => ⟨trivial, by
    rw [List.append_nil] at e
    subst e
    exact h ls x2 x3 x4 t hp hi hl⟩
  | (l, e) :: w, u, ls, x2, x3, x4, t, e0, hl, hp, hi => by
    refine ⟨trivial, ?_⟩
    have ih := fun ls x2 x3 x4 t => lp__law_in_order wf hm w1 h w (u ++ [(l, e)]) ls x2 x3 x4 t (by rw [e0]; simp)
    clear h
    subst hm
    have ul : u.length ≤ 1000 := by
      rw [e0, List.length_append] at w1
      omega
    clear e0
    rw [ug__law_in_order_0]
    walk_at "d"
    rw [ub__law_in_order_0]
    have e1 : S ++ .lst (ls.map dL) :: t = (S ++ [.lst (ls.map dL)]) ++ t := by simp
    rw [e1]
    refine gc_drop (env0 := [some (dW w0), some (.ref S.length), some (dRun (l, e)), none, none]) (by simp) ?_ ?_ ?_
    · refine wf.apps ?_
      intro o ho
      rw [List.mem_singleton] at ho
      subst ho
      exact lt_Ls ls
    · simp [EnvOk, D.lt]
      exact ⟨lt_W, lt_run⟩
    clear e1
    walk_at "p"
    have e2 : S ++ [.lst (ls.map dL), .lst []] = (S ++ [.lst (ls.map dL)]) ++ [.lst []] := by simp
    rw [e2]
    refine lc_gen (c := fun x => decide (LtL x l)) (v := dL) (by simp) (fun acc => by
      show (S ++ [O.lst (ls.map dL)] ++ [O.lst acc])[S.length]? = some (.lst (ls.map dL))
      rw [List.append_assoc]
      exact p_get0) _ [] (by simp; omega) (fun x hx acc N ha h1 h2 => ?_) ?_
    · clear e2 ih hp hi wf
      by_cases hxl : LtL x l
      · have d1 : decide (LtL x l) = true := decide_eq_true hxl
        have h3 := h1 (by simp [hxl])
        have ha' : acc.length < sizeLine := small_line' (by omega)
        clear h1 h2 hxl hx
        walk_at "p"
        first | done | exact h3 | (rw [List.append_assoc] at h3; exact h3)
      · have d1 : decide (LtL x l) = false := decide_eq_false hxl
        have h3 := h2 (by simp [hxl])
        clear h1 h2 hxl hx
        walk_at "p"
        first | done | exact h3 | (rw [List.append_assoc] at h3; exact h3)
    · clear e2
      rw [List.nil_append]
      generalize hfs : ls.filter (fun x => decide (LtL x l)) = fs
      have hfl : fs.length ≤ ls.length := by
        rw [← hfs]
        exact List.length_filter_le _ _
      have mm : ∀ T : List O, dMem (S ++ .lst (ls.map dL) :: T) (dL l) (.ref S.length) = some (decide (l ∈ ls)) := fun T => mem_L p_get0
      have hm : ∀ x, (x ∈ ls ∨ x = l) ↔ ∃ r ∈ u ++ [(l, e)], r.1 = x := fun x => by
        rw [hi]
        constructor
        · rintro (⟨r, hr, rfl⟩ | rfl)
          · exact ⟨r, by simp [hr], rfl⟩
          · exact ⟨(x, e), by simp, rfl⟩
        · rintro ⟨r, hr, rfl⟩
          rcases List.mem_append.mp hr with hr | hr
          · exact .inl ⟨r, hr, rfl⟩
          · rw [List.mem_singleton] at hr
            subst hr
            exact .inr rfl
      by_cases hx : l ∈ ls
      · have d1 : decide (l ∈ ls) = true := decide_eq_true hx
        have step := fun x2 x3 x4 T => ih ls x2 x3 x4 T (by rw [List.length_append]; omega) hp (fun x => by
          rw [← hm]
          constructor
          · exact fun h => .inl h
          · rintro (h | rfl)
            · exact h
            · exact hx)
        clear ih hp hi hm hx hfs wf
        walk_at "p"
        first | done | exact step _ _ _ _
      · have d1 : decide (l ∈ ls) = false := decide_eq_false hx
        have po := ord_ins hp hx
        rw [hfs] at po
        have step := fun x2 x3 x4 T => ih (ls.take fs.length ++ [l] ++ ls.drop fs.length) x2 x3 x4 T (by
          rw [List.length_append, List.length_append, List.length_append, List.length_take, List.length_drop, List.length_singleton, List.length_singleton]
          omega) po (fun x => by
          rw [mem_ins, ← hm]
          constructor
          · rintro (h | h)
            · exact .inr h
            · exact .inl h
          · rintro (h | h)
            · exact .inr h
            · exact .inl h)
        have e5 : List.take fs.length (ls.map dL) ++ dL l :: List.drop fs.length (ls.map dL) = (ls.take fs.length ++ [l] ++ ls.drop fs.length).map dL := by simp
        clear ih hp hi hm hx hfs wf po
        walk_at "p"
        rw [Int.toNat_natCast, e5]
        exact ⟨small_line' (by omega), by omega, by omega, step _ _ _ _⟩
theorem read__law_in_order : ∀ ds st Q, Wf st → D.lts st.length ds → sp__law_in_order ds st Q → r__law_in_order st.length { nx := fun _ st' => Ret st.length Q .non st', rt := Ret st.length Q } (dstart N__law_in_order ds) st := by
  intro ds st Q wf wl h
  obtain ⟨w, rfl, hl, q⟩ := h
  unfold r__law_in_order N__law_in_order
  walk_at "p"
  refine ⟨Nat.zero_le _, lp__law_in_order wf rfl hl (fun ls x2 x3 x4 t h1 h2 h3 => ?_) w [] [] none none none [] rfl (by simp) (by simp) (by simp)⟩
  walk_at "p"
  exact ret_cell rfl wf (by omega) p_get0 (lt_Ls ls) (q ls h1 h2 h3)

theorem len__law_in_order : ∀ ds s Q, sp__law_in_order ds s Q → ds.length = 1 := by
  intro ds s Q h
  unfold sp__law_in_order at h
  repeat (obtain ⟨_, h⟩ := h)
  subst_vars
  rfl
/-! _law_truth_is -/
abbrev N__law_truth_is : List Str := ["actual", "due"]


def r__law_truth_is : DTS :=
  (dRet (dAndV (dCB dIsi (dCons (dVar 0) (dCons (dC (.ty "bool")) dNil))) (dOp dEq (dVar 0) (dVar 1))))
def sp__law_truth_is : DSp := fun ds st Q => ∃ (a b : Bool), ds = [.bl a, .bl b] ∧ Q (.bl (a == b)) st
theorem len__law_truth_is : ∀ ds s Q, sp__law_truth_is ds s Q → ds.length = 2 := by
  intro ds s Q ⟨u, v, e, _⟩
  subst e
  rfl
theorem read__law_truth_is : ∀ ds st Q, Wf st → D.lts st.length ds → sp__law_truth_is ds st Q → r__law_truth_is st.length { nx := fun _ st' => Ret st.length Q .non st', rt := Ret st.length Q } (dstart N__law_truth_is ds) st := by
  intro ds st Q wf wl h
  obtain ⟨a, b, rfl, q⟩ := h
  unfold r__law_truth_is N__law_truth_is
  walk_at "d"
  exact ret_eq rfl wf trivial q

/-! is_even -/
abbrev N_is_even : List Str := ["word", "letter"]


def r_is_even : DTS :=
  (dRet (dAndV (dNotV (dCall sp_avoids (dCons (dVar 0) (dCons (dVar 1) dNil)))) (dOp dEq (dCall sp_exponent_sum (dCons (dVar 0) (dCons (dVar 1) dNil))) (dC (.int 0)))))
def sp_is_even : DSp := fun ds st Q => ∃ (w : Word) (l : Letter), ds = [dW w, dL l] ∧ w.length ≤ 1000000 ∧ Q (.bl (decide ((¬ ∀ r ∈ w, r.1 ≠ l) ∧ esum l w = 0))) st
theorem read_is_even : ∀ ds st Q, Wf st → D.lts st.length ds → sp_is_even ds st Q → r_is_even st.length { nx := fun _ st' => Ret st.length Q .non st', rt := Ret st.length Q } (dstart N_is_even ds) st := by
  intro ds st Q wf wl h
  obtain ⟨w, l, rfl, hl, q⟩ := h
  unfold r_is_even N_is_even
  walk_at "p"
  refine ⟨w, l, rfl, hl, ?_⟩
  by_cases h1 : ∀ r ∈ w, r.1 ≠ l
  · have d1 : decide (∀ r ∈ w, r.1 ≠ l) = true := decide_eq_true h1
    have d2 : decide ((¬ ∀ r ∈ w, r.1 ≠ l) ∧ esum l w = 0) = false := decide_eq_false fun h => h.1 h1
    rw [d2] at q
    have rr := ret_eq (d := .bl _) rfl wf trivial q
    clear q d2 h1
    rw [d1]
    walk_at "p"
    first | done | exact rr
  · have d1 : decide (∀ r ∈ w, r.1 ≠ l) = false := decide_eq_false h1
    have d2 : decide ((¬ ∀ r ∈ w, r.1 ≠ l) ∧ esum l w = 0) = decide (esum l w = 0) := by
      rw [decide_eq_decide]
      exact ⟨fun h => h.2, fun h => ⟨h1, h⟩⟩
    rw [d2] at q
    have rr := ret_eq (d := .bl _) rfl wf trivial q
    clear q d2 h1
    rw [d1]
    walk_at "p"
    refine ⟨w, l, rfl, hl, ?_⟩
    walk_at "p"
    first | done | exact rr

theorem len_is_even : ∀ ds s Q, sp_is_even ds s Q → ds.length = 2 := by
  intro ds s Q h
  unfold sp_is_even at h
  repeat (obtain ⟨_, h⟩ := h)
  subst_vars
  rfl
/-! _law_is_letter -/
abbrev N__law_is_letter : List Str := ["value", "item"]

def g__law_is_letter_0 : DTG := (dgName 1)
def b__law_is_letter_0 : DTS :=
  (dIfS (dNot (dTruth (dCall sp__law_is_whole (dCons (dVar 1) dNil)))) (dRet (dC (.bl false))) dNext)
theorem ug__law_is_letter_0 {x env st Q} : g__law_is_letter_0 x env st Q = (dgName 1) x env st Q := rfl
theorem ub__law_is_letter_0 {n d env st} : b__law_is_letter_0 n d env st = (dIfS (dNot (dTruth (dCall sp__law_is_whole (dCons (dVar 1) dNil)))) (dRet (dC (.bl false))) dNext) n d env st := rfl
def r__law_is_letter : DTS :=
  (dSeq (dIfS (dOr (dNot (dTruth (dCB dIsi (dCons (dVar 0) (dCons (dC (.ty "tuple")) dNil))))) (dOr (dB (dOp dEq (dCB dLen (dCons (dVar 0) dNil)) (dC (.int 0)))) (dNot (dTruth (dCB dIsi (dCons (dOp dIx (dVar 0) (dC (.int 0))) (dCons (dC (.ty "str")) dNil))))))) (dRet (dC (.bl false))) dNext)
  (dSeq (dFor (dIter (dSlice (dVar 0) (dPart (dC (.int 1))) dNoPart)) g__law_is_letter_0 b__law_is_letter_0)
  (dRet (dC (.bl true)))))
def sp__law_is_letter : DSp := fun ds st Q => ∃ (l : Letter), ds = [dL l] ∧ Q (.bl true) st
theorem lp__law_is_letter {m : Nat} {d : DEnds} {x : D} {st : Store} {ok : Store → Prop} (hok : ok st) : ∀ (hs : List Int) (a : Option D), (∀ a, d.nx [some x, a] st) →
    dLoop g__law_is_letter_0 b__law_is_letter_0 m d ok (hs.map D.int) [some x, a] st
  | [], a, h => ⟨hok, h _⟩
  | i :: hs, a, h => by
    refine ⟨hok, ?_⟩
    rw [ug__law_is_letter_0]
    walk_at "d"
    rw [ub__law_is_letter_0]
    walk_at "d"
    refine ⟨i, rfl, ?_⟩
    walk_at "d"
    exact lp__law_is_letter hok hs _ h
theorem read__law_is_letter : ∀ ds st Q, Wf st → D.lts st.length ds → sp__law_is_letter ds st Q → r__law_is_letter st.length { nx := fun _ st' => Ret st.length Q .non st', rt := Ret st.length Q } (dstart N__law_is_letter ds) st := by
  intro ds st Q wf wl h
  obtain ⟨⟨n, hs⟩, rfl, q⟩ := h
  unfold r__law_is_letter N__law_is_letter
  unfold dL
  have e : ¬ (((hs.length + 1 : Nat) : Int) = 0) := by omega
  walk_at "d"
  rw [if_neg e]
  refine lp__law_is_letter trivial hs _ fun a => ?_
  walk_at "d"
  exact ret_eq rfl wf trivial q

theorem len__law_is_letter : ∀ ds s Q, sp__law_is_letter ds s Q → ds.length = 1 := by
  intro ds s Q h
  unfold sp__law_is_letter at h
  repeat (obtain ⟨_, h⟩ := h)
  subst_vars
  rfl
/-! _law_alphabet -/
abbrev N__law_alphabet : List Str := ["pool", "most", "names", "depth", "far", "near", "rows", "k", "row", "j", "height", "place"]

def g__law_alphabet_1 : DTG := (dgName 9)
def b__law_alphabet_1 : DTS :=
  (dGc (dSeq (dSet 10 (dOp dIx (dLst (dCons (dOp dSub (dC (.int 0)) (dC (.int 2))) (dCons (dOp dSub (dC (.int 0)) (dC (.int 1))) (dCons (dC (.int 0)) (dCons (dC (.int 2)) (dCons (dC (.int 10)) dNil)))))) (dCall sp__law_draw (dCons (dVar 0) (dCons (dC (.int 5)) dNil)))))
  (dSeq (dIfS (dB (dOp dEq (dVar 4) (dC (.int 1)))) (dSet 10 (dOp dSub (dCall sp__law_draw (dCons (dVar 0) (dCons (dC (.int 1999999999)) dNil))) (dC (.int 999999999)))) dNext)
  (dDrop (dBM dAppend (dVar 8) (dCons (dVar 10) dNil))))))
theorem ug__law_alphabet_1 {x env st Q} : g__law_alphabet_1 x env st Q = (dgName 9) x env st Q := rfl
theorem ub__law_alphabet_1 {n d env st} : b__law_alphabet_1 n d env st = (dGc (dSeq (dSet 10 (dOp dIx (dLst (dCons (dOp dSub (dC (.int 0)) (dC (.int 2))) (dCons (dOp dSub (dC (.int 0)) (dC (.int 1))) (dCons (dC (.int 0)) (dCons (dC (.int 2)) (dCons (dC (.int 10)) dNil)))))) (dCall sp__law_draw (dCons (dVar 0) (dCons (dC (.int 5)) dNil)))))
  (dSeq (dIfS (dB (dOp dEq (dVar 4) (dC (.int 1)))) (dSet 10 (dOp dSub (dCall sp__law_draw (dCons (dVar 0) (dCons (dC (.int 1999999999)) dNil))) (dC (.int 999999999)))) dNext)
  (dDrop (dBM dAppend (dVar 8) (dCons (dVar 10) dNil)))))) n d env st := rfl
def g__law_alphabet_0 : DTG := (dgName 7)
def b__law_alphabet_0 : DTS :=
  (dGc (dSeq (dSet 8 (dLst (dCons (dOp dIx (dVar 2) (dCall sp__law_draw (dCons (dVar 0) (dCons (dC (.int 26)) dNil)))) dNil)))
  (dSeq (dFor (dRng1 (dCons (dVar 3) dNil)) g__law_alphabet_1 b__law_alphabet_1)
  (dSeq (dIfS (dAnd (dB (dOp dEq (dVar 5) (dC (.int 1)))) (dB (dOp dGt (dCB dLen (dCons (dVar 6) dNil)) (dC (.int 0))))) (dSeq (dSet 11 (dCall sp__law_draw (dCons (dVar 0) (dCons (dOp dAdd (dVar 3) (dC (.int 1))) dNil))))
  (dSet 8 (dOp dAdd (dOp dAdd (dCB dListOf (dCons (dSlice (dOp dIx (dVar 6) (dC (.int 0))) dNoPart (dPart (dVar 11))) dNil)) (dLst (dCons (dOp dIx (dVar 8) (dVar 11)) dNil))) (dCB dListOf (dCons (dSlice (dOp dIx (dVar 6) (dC (.int 0))) (dPart (dOp dAdd (dVar 11) (dC (.int 1)))) dNoPart) dNil))))) dNext)
  (dIfS (dB (dOp dNotIn (dCB dTupleOf (dCons (dVar 8) dNil)) (dVar 6))) (dDrop (dBM dAppend (dVar 6) (dCons (dCB dTupleOf (dCons (dVar 8) dNil)) dNil))) dNext)))))
theorem ug__law_alphabet_0 {x env st Q} : g__law_alphabet_0 x env st Q = (dgName 7) x env st Q := rfl
theorem ub__law_alphabet_0 {n d env st} : b__law_alphabet_0 n d env st = (dGc (dSeq (dSet 8 (dLst (dCons (dOp dIx (dVar 2) (dCall sp__law_draw (dCons (dVar 0) (dCons (dC (.int 26)) dNil)))) dNil)))
  (dSeq (dFor (dRng1 (dCons (dVar 3) dNil)) g__law_alphabet_1 b__law_alphabet_1)
  (dSeq (dIfS (dAnd (dB (dOp dEq (dVar 5) (dC (.int 1)))) (dB (dOp dGt (dCB dLen (dCons (dVar 6) dNil)) (dC (.int 0))))) (dSeq (dSet 11 (dCall sp__law_draw (dCons (dVar 0) (dCons (dOp dAdd (dVar 3) (dC (.int 1))) dNil))))
  (dSet 8 (dOp dAdd (dOp dAdd (dCB dListOf (dCons (dSlice (dOp dIx (dVar 6) (dC (.int 0))) dNoPart (dPart (dVar 11))) dNil)) (dLst (dCons (dOp dIx (dVar 8) (dVar 11)) dNil))) (dCB dListOf (dCons (dSlice (dOp dIx (dVar 6) (dC (.int 0))) (dPart (dOp dAdd (dVar 11) (dC (.int 1)))) dNoPart) dNil))))) dNext)
  (dIfS (dB (dOp dNotIn (dCB dTupleOf (dCons (dVar 8) dNil)) (dVar 6))) (dDrop (dBM dAppend (dVar 6) (dCons (dCB dTupleOf (dCons (dVar 8) dNil)) dNil))) dNext))))) n d env st := rfl
def r__law_alphabet : DTS :=
  (dSeq (dSet 2 (dC (.str (Str.ofString "abcdefghijklmnopqrstuvwxyz"))))
  (dSeq (dSet 3 (dOp dIx (dLst (dCons (dC (.int 0)) (dCons (dC (.int 0)) (dCons (dC (.int 0)) (dCons (dC (.int 0)) (dCons (dC (.int 1)) (dCons (dC (.int 1)) (dCons (dC (.int 2)) (dCons (dC (.int 3)) (dCons (dC (.int 4)) dNil)))))))))) (dCall sp__law_draw (dCons (dVar 0) (dCons (dC (.int 9)) dNil)))))
  (dSeq (dSet 4 (dCall sp__law_draw (dCons (dVar 0) (dCons (dC (.int 3)) dNil))))
  (dSeq (dSet 5 (dCall sp__law_draw (dCons (dVar 0) (dCons (dC (.int 2)) dNil))))
  (dSeq (dSet 6 (dLst dNil))
  (dSeq (dFor (dRng1 (dCons (dOp dAdd (dC (.int 1)) (dCall sp__law_draw (dCons (dVar 0) (dCons (dVar 1) dNil)))) dNil)) g__law_alphabet_0 b__law_alphabet_0)
  (dRet (dVar 6))))))))
def Lok (dep : Nat) (l : Letter) : Prop := l.hs.length = dep ∧ 97 ≤ l.nm.val ∧ l.nm.val ≤ 122 ∧ ∀ h ∈ l.hs, -(10 ^ 9) < h ∧ h < 10 ^ 9
def Alpha (ls : List Letter) : Prop := ls.Nodup ∧ ∃ dep, dep ≤ 4 ∧ ∀ l ∈ ls, Lok dep l
def sp__law_alphabet : DSp := fun ds st Q => ∃ (k : Nat) (m : Int) (p : Pool), ds = [.ref k, .int m] ∧ st[k]? = some p.1 ∧ 0 < m ∧ m ≤ 1000 ∧ ∀ (ls : List Letter) (p' : Pool), ls ≠ [] → ls.length ≤ m.toNat → Alpha ls → Q (.ref st.length) (st.set k p'.1 ++ [.lst (ls.map dL)])
theorem names_at {st : Store} {v : Int} (h0 : 0 ≤ v) (h1 : v < 26) : ∃ c : Fin 128, 97 ≤ c.val ∧ c.val ≤ 122 ∧ dItem st (.str (Str.ofString "abcdefghijklmnopqrstuvwxyz")) v = some (.str ⟨#[c.val]⟩) := by
  obtain ⟨n, rfl⟩ : ∃ n : Nat, v = n := ⟨v.toNat, by omega⟩
  have h : n < 26 := by omega
  refine ⟨⟨97 + n, by omega⟩, by show 97 ≤ 97 + n; omega, by show 97 + n ≤ 122; omega, ?_⟩
  have hs : (Str.ofString "abcdefghijklmnopqrstuvwxyz").length ≤ sizeLine := by decide
  show (if (Str.ofString "abcdefghijklmnopqrstuvwxyz").length ≤ sizeLine then (atI (Str.ofString "abcdefghijklmnopqrstuvwxyz").cps.toList (n : Int)).map fun c => D.str ⟨#[c]⟩ else none) = _
  rw [if_pos hs]
  have key : ∀ n : Fin 26, (Str.ofString "abcdefghijklmnopqrstuvwxyz").cps.toList[n.val]? = some (97 + n.val) := by decide
  have hl : (Str.ofString "abcdefghijklmnopqrstuvwxyz").cps.toList.length = 26 := by decide
  rw [atI_nn (by omega) (by rw [hl]; omega), Int.toNat_natCast, key ⟨n, h⟩]
  rfl
/-- the row of heights -/
theorem lp1__law_alphabet {S : Store} {k : Nat} {m far near K : Int} {nmz : D} {dep : Nat} {c : Fin 128} {G : O} {ls : List Letter} {d : DEnds} (hk : k < S.length) (wf : Wf S) (hG : G.lt (S.length + 3)) (hpl : nmz.lt (S.length + 3))
    (h : ∀ (hs : List Int) (p : Pool) (x : Option D) (y : Option D) (l : Store), (∀ h ∈ hs, -(10 ^ 9) < h ∧ h < 10 ^ 9) → hs.length = dep → l.length ≤ 1 →
      d.nx [some (.ref k), some (.int m), some nmz, some (.int dep), some (.int far), some (.int near), some (.ref (S.length + 1)), some (.int K), some (.ref (S.length + 2)), x, y, none] (S.set k p.1 ++ G :: .lst (ls.map dL) :: .lst (.str ⟨#[c.val]⟩ :: hs.map D.int) :: l)) :
    ∀ (n : Nat) (i : Int) (hs : List Int) (p : Pool) (x y : Option D) (l : Store), hs.length + n = dep → dep ≤ 4 → (∀ h ∈ hs, -(10 ^ 9) < h ∧ h < 10 ^ 9) → l.length ≤ 1 →
      dLoop g__law_alphabet_1 b__law_alphabet_1 (S.length + 3) d (fun _ => True) (rangeD i n) [some (.ref k), some (.int m), some nmz, some (.int dep), some (.int far), some (.int near), some (.ref (S.length + 1)), some (.int K), some (.ref (S.length + 2)), x, y, none] (S.set k p.1 ++ G :: .lst (ls.map dL) :: .lst (.str ⟨#[c.val]⟩ :: hs.map D.int) :: l)
  | 0, i, hs, p, x, y, l, hn, hd, hb, hl => ⟨trivial, h hs p x y l hb hn hl⟩
  | n + 1, i, hs, p, x, y, l, hn, hd, hb, hl => by
    have ih := fun hs p x y l => lp1__law_alphabet (m := m) (far := far) (near := near) (K := K) hk wf hG hpl h n (i + 1) hs p x y l
    clear h
    refine ⟨trivial, ?_⟩
    rw [ug__law_alphabet_1]
    walk_at "d"
    rw [ub__law_alphabet_1]
    have dr := @draw_eq
    have e1 : ∀ p : Pool, S.set k p.1 ++ G :: .lst (ls.map dL) :: .lst (.str ⟨#[c.val]⟩ :: hs.map D.int) :: l = (S.set k p.1 ++ [G, .lst (ls.map dL), .lst (.str ⟨#[c.val]⟩ :: hs.map D.int)]) ++ l := fun p => by simp
    rw [e1]
    refine gc_drop (env0 := [some (.ref k), some (.int m), some nmz, some (.int dep), some (.int far), some (.int near), some (.ref (S.length + 1)), some (.int K), some (.ref (S.length + 2)), some (.int i), none, none]) (by simp) ?_ ?_ ?_
    · refine (wf.set p.lt).apps ?_
      intro o ho
      simp only [List.mem_cons, List.not_mem_nil, or_false] at ho
      rw [List.length_set]
      rcases ho with rfl | rfl | rfl
      · exact hG
      · exact lt_Ls ls
      · exact ⟨trivial, lt_ints hs⟩
    · have hpl' : nmz.lt (S.length + 3) := hpl
      simp [EnvOk, D.lt, hpl']
      omega
    clear e1
    have fin : ∀ (v : Int) (p : Pool) (y : Option D) (l : Store), -(10 ^ 9) < v → v < 10 ^ 9 → l.length ≤ 1 → hs.length + 1 < sizeLine ∧
      dLoop g__law_alphabet_1 b__law_alphabet_1 (S.length + 3) d (fun _ => True) (rangeD (i + 1) n) [some (.ref k), some (.int m), some nmz, some (.int dep), some (.int far), some (.int near), some (.ref (S.length + 1)), some (.int K), some (.ref (S.length + 2)), some (.int i), y, none] (S.set k p.1 ++ G :: .lst (ls.map dL) :: .lst (.str ⟨#[c.val]⟩ :: (hs ++ [v]).map D.int) :: l) := fun v p y l h1 h2 h3 =>
        ⟨small_line' (by omega), ih _ p _ y l (by rw [List.length_append, List.length_singleton]; omega) hd (fun x hx => by
          rcases List.mem_append.mp hx with hx | hx
          · exact hb x hx
          · rw [List.mem_singleton] at hx; subst hx; exact ⟨h1, h2⟩) h3⟩
    clear ih
    walk_at "p"
    refine ⟨by decide, by decide, by decide, fun v p1 h0 h1 => ?_⟩
    obtain ⟨z, hz, e⟩ := at_map (f := D.int) (xs := [0 - 2, 0 - 1, 0, 2, 10]) h0 h1
    simp only [List.map_cons, List.map_nil] at e
    simp only [e]
    have hz' : -(10 ^ 9) < z ∧ z < 10 ^ 9 := by
      simp at hz
      omega
    have e9 : (1999999999 : Int) ≤ 10 ^ 30 := by decide
    split
    · refine ⟨by decide, e9, fun v p2 h2 h3 => ?_⟩
      exact fin (v - 999999999) p2 _ _ (by omega) (by omega) (by exact Nat.le_refl 1)
    · rw [w_snoc]
      exact fin z p1 _ _ hz'.1 hz'.2 (by exact Nat.le_refl 1)
def lc (l : Letter) : List D := .str ⟨#[l.nm.val]⟩ :: l.hs.map D.int
theorem mix {dep : Nat} {l0 l1 : Letter} {j : Int} (h0 : 0 ≤ j) (h1 : j < dep + 1) (k0 : Lok dep l0) (k1 : Lok dep l1) : ∃ l2 y, Lok dep l2 ∧ atI (lc l1) j = some y ∧ (lc l0).take j.toNat ++ y :: (lc l0).drop (j + 1).toNat = lc l2 := by
  obtain ⟨n0, hs0⟩ := l0
  obtain ⟨n1, hs1⟩ := l1
  obtain ⟨a1, a2, a3, a4⟩ := k0
  obtain ⟨b1, b2, b3, b4⟩ := k1
  dsimp only at a1 a2 a3 a4 b1 b2 b3 b4
  obtain ⟨n, rfl⟩ : ∃ n : Nat, j = n := ⟨j.toNat, by omega⟩
  have hn : n < dep + 1 := by omega
  have e0 : atI (lc ⟨n1, hs1⟩) (n : Int) = (lc ⟨n1, hs1⟩)[n]? := by
    rw [atI_nn h0 (by unfold lc; rw [List.length_cons, List.length_map, b1]; omega), Int.toNat_natCast]
  rw [e0, Int.toNat_natCast, show ((n : Int) + 1).toNat = n + 1 by omega]
  cases n with
  | zero => exact ⟨⟨n1, hs0⟩, _, ⟨a1, b2, b3, a4⟩, rfl, rfl⟩
  | succ n =>
    have hn0 : n < hs0.length := by omega
    have hn1 : n < hs1.length := by omega
    refine ⟨⟨n0, hs0.set n hs1[n]⟩, .int hs1[n], ⟨by rw [List.length_set]; exact a1, a2, a3, fun h hh => ?_⟩, ?_, ?_⟩
    · rcases List.mem_or_eq_of_mem_set hh with hh | rfl
      · exact a4 h hh
      · exact b4 _ (List.getElem_mem hn1)
    · unfold lc
      rw [List.getElem?_cons_succ, List.getElem?_map, List.getElem?_eq_getElem hn1]
      rfl
    · unfold lc
      rw [List.take_succ_cons, List.drop_succ_cons, ← List.map_take, ← List.map_drop, List.set_eq_take_append_cons_drop, if_pos hn0, List.map_append, List.map_cons, List.cons_append]
theorem lp0__law_alphabet {S : Store} {k : Nat} {m far near : Int} {dep : Nat} {G : O} {d : DEnds} (hk : k < S.length) (wf : Wf S) (hG : ∀ n, G.lt n) (hd : dep ≤ 4) (hm : m ≤ 1000)
    (h : ∀ (ls : List Letter) (p : Pool) (a b c d' e : Option D) (l : Store), ls.length ≤ m.toNat → ls ≠ [] → ls.Nodup → (∀ l ∈ ls, Lok dep l) →
      d.nx [some (.ref k), some (.int m), some (.str (Str.ofString "abcdefghijklmnopqrstuvwxyz")), some (.int dep), some (.int far), some (.int near), some (.ref (S.length + 1)), a, b, c, d', e] (S.set k p.1 ++ G :: .lst (ls.map dL) :: l)) :
    ∀ (n : Nat) (i : Int) (ls : List Letter) (p : Pool) (a b c d' e : Option D) (l : Store), ls.length + n ≤ m.toNat → (n = 0 → ls ≠ []) → ls.Nodup → (∀ l ∈ ls, Lok dep l) →
      dLoop g__law_alphabet_0 b__law_alphabet_0 (S.length + 2) d (fun _ => True) (rangeD i n) [some (.ref k), some (.int m), some (.str (Str.ofString "abcdefghijklmnopqrstuvwxyz")), some (.int dep), some (.int far), some (.int near), some (.ref (S.length + 1)), a, b, c, d', e] (S.set k p.1 ++ G :: .lst (ls.map dL) :: l)
  | 0, i, ls, p, a, b, c, d', e, l, hn, h0, hN, hL => ⟨trivial, h ls p a b c d' e l hn (h0 rfl) hN hL⟩
  | n + 1, i, ls, p, a, b, c, d', e, l, hn, h0, hN, hL => by
    have ih := fun ls p a b c d' e l => lp0__law_alphabet (far := far) (near := near) hk wf hG hd hm h n (i + 1) ls p a b c d' e l
    clear h
    refine ⟨trivial, ?_⟩
    rw [ug__law_alphabet_0]
    walk_at "d"
    rw [ub__law_alphabet_0]
    have dr := @draw_eq
    have e1 : ∀ p : Pool, S.set k p.1 ++ G :: .lst (ls.map dL) :: l = (S.set k p.1 ++ [G, .lst (ls.map dL)]) ++ l := fun p => by simp
    rw [e1]
    refine gc_drop (env0 := [some (.ref k), some (.int m), some (.str (Str.ofString "abcdefghijklmnopqrstuvwxyz")), some (.int dep), some (.int far), some (.int near), some (.ref (S.length + 1)), some (.int i), none, none, none, none]) (by simp) ?_ ?_ ?_
    · refine (wf.set p.lt).apps ?_
      intro o ho
      simp only [List.mem_cons, List.not_mem_nil, or_false] at ho
      rw [List.length_set]
      rcases ho with rfl | rfl
      · exact hG _
      · exact lt_Ls ls
    · simp [EnvOk, D.lt]
      omega
    clear e1
    have fin : ∀ (x : Letter) (p : Pool) (a b c d' : Option D) (l : Store), Lok dep x → if ¬ x ∈ ls then ls.length < sizeLine ∧ dLoop g__law_alphabet_0 b__law_alphabet_0 (S.length + 2) d (fun _ => True) (rangeD (i + 1) n) [some (.ref k), some (.int m), some (.str (Str.ofString "abcdefghijklmnopqrstuvwxyz")), some (.int dep), some (.int far), some (.int near), some (.ref (S.length + 1)), some (.int i), a, b, c, d'] (S.set k p.1 ++ G :: .lst ((ls ++ [x]).map dL) :: l)
      else dLoop g__law_alphabet_0 b__law_alphabet_0 (S.length + 2) d (fun _ => True) (rangeD (i + 1) n) [some (.ref k), some (.int m), some (.str (Str.ofString "abcdefghijklmnopqrstuvwxyz")), some (.int dep), some (.int far), some (.int near), some (.ref (S.length + 1)), some (.int i), a, b, c, d'] (S.set k p.1 ++ G :: .lst (ls.map dL) :: l) := by
      intro x p a b c d' l hx
      split
      · rename_i hm1
        refine ⟨small_line' (by omega), ih _ _ _ _ _ _ _ _ (by rw [List.length_append, List.length_singleton]; omega) (fun _ => by simp) ?_ ?_⟩
        · rw [List.nodup_append]
          refine ⟨hN, by simp, fun a ha b hb => ?_⟩
          rw [List.mem_singleton] at hb
          subst hb
          rintro rfl
          exact hm1 ha
        · intro y hy
          rcases List.mem_append.mp hy with hy | hy
          · exact hL y hy
          · rw [List.mem_singleton] at hy; subst hy; exact hx
      · rename_i hm1
        refine ih _ _ _ _ _ _ _ _ (by omega) (fun _ he => ?_) hN hL
        subst he
        exact hm1 (by simp)
    clear ih
    have hmem : ∀ (p : Pool) l x, dMem (S.set k p.1 ++ G :: .lst (ls.map dL) :: l) (dL x) (.ref (S.length + 1)) = some (decide (x ∈ ls)) := fun p l x => mem_L p_gets1
    walk_at "p"
    refine ⟨by decide, by decide, fun v p1 h1 h2 => ?_⟩
    obtain ⟨c, hc1, hc2, hc⟩ := names_at (st := S.set k p1.1 ++ [G, .lst (ls.map dL)]) h1 h2
    simp only [hc]
    refine ⟨by decide, ⟨by omega, by omega⟩, ?_⟩
    refine lp1__law_alphabet (c := c) (nmz := .str (Str.ofString "abcdefghijklmnopqrstuvwxyz")) hk wf (hG _) trivial ?_ _ 0 [] p1 _ _ [] (by simp) hd (by simp) (by simp)
    intro hs p2 x y l hb hlen hl
    have hx : Lok dep ⟨c, hs⟩ := ⟨hlen, hc1, hc2, hb⟩
    have e2 : (.str ⟨#[c.val]⟩ :: hs.map D.int : List D) = lc ⟨c, hs⟩ := rfl
    rw [e2]
    have e3 : ∀ x, D.tup (lc x) = dL x := fun _ => rfl
    have e4 : ∀ x lo hi st Q, dSl (dL x) lo hi st Q = Q (.tup (cutD (lc x) lo hi)) st := fun _ _ _ _ _ => rfl
    have e5 : ∀ x st Q, dTupleOf [dL x] st Q = Q (dL x) st := fun _ _ _ => rfl
    generalize Letter.mk c hs = x1 at hx
    clear e2 hb hlen
    by_cases hnr : near = 1 ∧ 0 < ls.length
    · obtain ⟨hn1, hl0⟩ := hnr
      subst hn1
      have nn : (0 : Int) < (ls.length : Int) := by omega
      obtain ⟨x0, hm0, e0⟩ := at_map (f := dL) (xs := ls) (v := 0) (by omega) nn
      have hx0 := hL x0 hm0
      have b3 : (1001 : Int) ≤ 10 ^ 30 := by decide
      have ll : ∀ x, Lok dep x → (lc x).length = dep + 1 := fun x hx => by unfold lc; rw [List.length_cons, List.length_map, hx.1]
      have go : ∀ (v : Int), 0 ≤ v → v < dep + 1 → ∃ l2 y, Lok dep l2 ∧ atI (lc x1) v = some y ∧ cutD (lc x0) none (some v) = (lc x0).take v.toNat ∧ cutD (lc x0) (some (v + 1)) none = (lc x0).drop (v + 1).toNat ∧ (lc x0).take v.toNat ++ y :: (lc x0).drop (v + 1).toNat = lc l2 ∧ ((lc x0).take v.toNat).length + 1 ≤ sizeLine ∧ ((lc x0).take v.toNat).length + 1 + ((lc x0).drop (v + 1).toNat).length ≤ sizeLine := by
        intro v h1 h2
        obtain ⟨l2, y, k1, k2, k3⟩ := mix h1 h2 hx0 hx
        refine ⟨l2, y, k1, k2, cut_toI h1, cut_fromI (by omega), k3, small_line ?_, small_line ?_⟩
        · rw [List.length_take, ll x0 hx0]; omega
        · rw [List.length_take, List.length_drop, ll x0 hx0]; omega
      have z1 : 1 ≤ sizeLine := by decide
      rcases l with _ | ⟨q1, _ | ⟨q2, l⟩⟩
      · walk_at "p"
        refine ⟨by omega, by omega, fun v p3 h3 h4 => ?_⟩
        obtain ⟨l2, y, k1, k2, k3, k4, k5, k6, k7⟩ := go v h3 h4
        have fin' := fun a b c d l => fin l2 p3 a b c d l k1
        clear fin go
        walk_at "p"
        rw [← Nat.add_assoc]
        exact k7
      · walk_at "p"
        refine ⟨by omega, by omega, fun v p3 h3 h4 => ?_⟩
        obtain ⟨l2, y, k1, k2, k3, k4, k5, k6, k7⟩ := go v h3 h4
        have fin' := fun a b c d l => fin l2 p3 a b c d l k1
        clear fin go
        walk_at "p"
        rw [← Nat.add_assoc]
        exact k7
      · simp at hl
    · have fin' := fin x1 p2 (some (.ref (S.length + 2))) x y none (.lst (lc x1) :: l) hx
      clear fin
      walk_at "p"
      split
      · split
        · exact absurd ⟨by assumption, by omega⟩ hnr
        · trivial
      · trivial
theorem read__law_alphabet : ∀ ds st Q, Wf st → D.lts st.length ds → sp__law_alphabet ds st Q → r__law_alphabet st.length { nx := fun _ st' => Ret st.length Q .non st', rt := Ret st.length Q } (dstart N__law_alphabet ds) st := by
  intro ds st Q wf wl h
  obtain ⟨k, m, p, rfl, hp, hm0, hm, q⟩ := h
  have hk := lt_of_get hp
  have dr := @draw_eq
  unfold r__law_alphabet N__law_alphabet
  walk_at "p"
  have b3 : (1001 : Int) ≤ 10 ^ 30 := by decide
  refine ⟨by decide, by decide, by omega, fun v p1 h0 h1 => ?_⟩
  obtain ⟨z, hz, e⟩ := at_map (f := D.int) (xs := [0, 0, 0, 0, 1, 1, 2, 3, 4]) h0 h1
  simp only [List.map_cons, List.map_nil] at e
  simp only [e]
  obtain ⟨dep, rfl, hdep⟩ : ∃ dep : Nat, z = dep ∧ dep ≤ 4 := by
    simp at hz
    exact ⟨z.toNat, by omega, by omega⟩
  refine ⟨by decide, by omega, fun far p2 h2 h3 => ⟨by decide, by omega, fun near p3 h4 h5 => ⟨Nat.zero_le _, by omega, fun v p4 h6 h7 => ⟨⟨by omega, by omega⟩, ?_⟩⟩⟩⟩
  refine lp0__law_alphabet (G := .lst ([0, 0, 0, 0, 1, 1, 2, 3, 4].map D.int)) hk wf (fun n => lt_ints _) hdep hm ?_ _ 0 [] p4 _ _ _ _ _ [] (by simp; omega) (by omega) (by simp) (by simp)
  intro ls p5 a b c d' e l a1 a2 a3 a4
  walk_at "p"
  exact ret_cell (by rw [List.length_set]) (wf.set p5.lt) (by rw [List.length_set]; omega) p_gets1 (lt_Ls ls) (q ls p5 a2 a1 ⟨a3, dep, hdep, a4⟩)
theorem len__law_alphabet : ∀ ds s Q, sp__law_alphabet ds s Q → ds.length = 2 := by
  intro ds s Q ⟨u, v, w, e, _⟩
  subst e
  rfl

/-! _law_runs -/
abbrev N__law_runs : List Str := ["pool", "alphabet", "most", "kind", "made", "k", "one", "size", "way", "run"]

def g__law_runs_0 : DTG := (dgName 5)
def b__law_runs_0 : DTS :=
  (dGc (dSeq (dSet 6 (dOp dIx (dVar 1) (dCall sp__law_draw (dCons (dVar 0) (dCons (dCB dLen (dCons (dVar 1) dNil)) dNil)))))
  (dSeq (dSet 7 (dC (.int 1)))
  (dSeq (dSet 8 (dVar 3))
  (dSeq (dIfS (dB (dOp dEq (dVar 3) (dC (.int 2)))) (dSet 8 (dCall sp__law_draw (dCons (dVar 0) (dCons (dC (.int 3)) dNil)))) dNext)
  (dSeq (dIfS (dB (dOp dEq (dVar 8) (dC (.int 1)))) (dSet 7 (dOp dAdd (dC (.int 1)) (dCall sp__law_draw (dCons (dVar 0) (dCons (dC (.int 5)) dNil))))) dNext)
  (dSeq (dIfS (dB (dOp dEq (dVar 8) (dC (.int 2)))) (dSet 7 (dOp dSub (dOp dSub (dOp dPow (dC (.int 10)) (dC (.int 30))) (dC (.int 1))) (dCall sp__law_draw (dCons (dVar 0) (dCons (dOp dSub (dOp dPow (dC (.int 10)) (dC (.int 30))) (dC (.int 1))) dNil))))) dNext)
  (dSeq (dSet 9 (dTup (dCons (dVar 6) (dCons (dOp dMul (dVar 7) (dOp dSub (dC (.int 1)) (dOp dMul (dC (.int 2)) (dCall sp__law_draw (dCons (dVar 0) (dCons (dC (.int 2)) dNil)))))) dNil))))
  (dIfS (dOr (dB (dOp dEq (dCB dLen (dCons (dVar 4) dNil)) (dC (.int 0)))) (dB (dOp dNe (dOp dIx (dOp dIx (dVar 4) (dUn dNeg (dC (.int 1)))) (dC (.int 0))) (dVar 6)))) (dDrop (dBM dAppend (dVar 4) (dCons (dVar 9) dNil))) dNext)))))))))
theorem ug__law_runs_0 {x env st Q} : g__law_runs_0 x env st Q = (dgName 5) x env st Q := rfl
theorem ub__law_runs_0 {n d env st} : b__law_runs_0 n d env st = (dGc (dSeq (dSet 6 (dOp dIx (dVar 1) (dCall sp__law_draw (dCons (dVar 0) (dCons (dCB dLen (dCons (dVar 1) dNil)) dNil)))))
  (dSeq (dSet 7 (dC (.int 1)))
  (dSeq (dSet 8 (dVar 3))
  (dSeq (dIfS (dB (dOp dEq (dVar 3) (dC (.int 2)))) (dSet 8 (dCall sp__law_draw (dCons (dVar 0) (dCons (dC (.int 3)) dNil)))) dNext)
  (dSeq (dIfS (dB (dOp dEq (dVar 8) (dC (.int 1)))) (dSet 7 (dOp dAdd (dC (.int 1)) (dCall sp__law_draw (dCons (dVar 0) (dCons (dC (.int 5)) dNil))))) dNext)
  (dSeq (dIfS (dB (dOp dEq (dVar 8) (dC (.int 2)))) (dSet 7 (dOp dSub (dOp dSub (dOp dPow (dC (.int 10)) (dC (.int 30))) (dC (.int 1))) (dCall sp__law_draw (dCons (dVar 0) (dCons (dOp dSub (dOp dPow (dC (.int 10)) (dC (.int 30))) (dC (.int 1))) dNil))))) dNext)
  (dSeq (dSet 9 (dTup (dCons (dVar 6) (dCons (dOp dMul (dVar 7) (dOp dSub (dC (.int 1)) (dOp dMul (dC (.int 2)) (dCall sp__law_draw (dCons (dVar 0) (dCons (dC (.int 2)) dNil)))))) dNil))))
  (dIfS (dOr (dB (dOp dEq (dCB dLen (dCons (dVar 4) dNil)) (dC (.int 0)))) (dB (dOp dNe (dOp dIx (dOp dIx (dVar 4) (dUn dNeg (dC (.int 1)))) (dC (.int 0))) (dVar 6)))) (dDrop (dBM dAppend (dVar 4) (dCons (dVar 9) dNil))) dNext))))))))) n d env st := rfl
def r__law_runs : DTS :=
  (dSeq (dSet 4 (dLst dNil))
  (dSeq (dFor (dRng1 (dCons (dCall sp__law_draw (dCons (dVar 0) (dCons (dOp dAdd (dVar 2) (dC (.int 1))) dNil))) dNil)) g__law_runs_0 b__law_runs_0)
  (dRet (dCB dTupleOf (dCons (dVar 4) dNil)))))
def sp__law_runs : DSp := fun ds st Q => ∃ (k a : Nat) (ls : List Letter) (most kind : Int) (p : Pool), ds = [.ref k, .ref a, .int most, .int kind] ∧ st[k]? = some p.1 ∧ st[a]? = some (.lst (ls.map dL)) ∧
  ls ≠ [] ∧ ls.length ≤ 1000 ∧ 0 ≤ most ∧ most ≤ 900 ∧ ∀ (w : Word) (p' : Pool), Red w → w.length ≤ most.toNat → (∀ r ∈ w, r.1 ∈ ls) → Q (dW w) (st.set k p'.1)
theorem red_next {M : Word} {l : Letter} {e : Int} (h : Red M) (he : e ≠ 0) (hl : ∀ (u : Word) r, M = u ++ [r] → r.1 ≠ l) : Red (M ++ [(l, e)]) := by
  refine Red.app h ⟨he, by simp, trivial⟩ fun a b ha hb => ?_
  simp only [List.head?_cons, Option.some.injEq] at hb
  subst hb
  rw [List.getLast?_eq_some_iff] at ha
  obtain ⟨u, rfl⟩ := ha
  exact hl u a rfl
theorem lp__law_runs {S : Store} {k a : Nat} {ls : List Letter} {most kind : Int} {m : Nat} {d : DEnds} (wf : Wf S) (hk : k < S.length) (hka : k ≠ a) (ha : S[a]? = some (.lst (ls.map dL))) (h0 : 0 < ls.length) (hl0 : ls.length ≤ 1000)
    (hm : m = S.length + 1)
    (h : ∀ (p : Pool) (M : Word) x1 x2 x3 x4 x5 (t : Store), M.length ≤ most.toNat → Red M → (∀ r ∈ M, r.1 ∈ ls) → d.nx [some (.ref k), some (.ref a), some (.int most), some (.int kind), some (.ref S.length), x1, x2, x3, x4, x5] (S.set k p.1 ++ .lst (M.map dRun) :: t)) :
    ∀ (c : Nat) (i : Int) (M : Word) (p : Pool) x1 x2 x3 x4 x5 (t : Store), M.length + c ≤ most.toNat → most ≤ 900 → Red M → (∀ r ∈ M, r.1 ∈ ls) →
      dLoop g__law_runs_0 b__law_runs_0 m d (fun _ => True) (rangeD i c) [some (.ref k), some (.ref a), some (.int most), some (.int kind), some (.ref S.length), x1, x2, x3, x4, x5] (S.set k p.1 ++ .lst (M.map dRun) :: t)
  | 0, i, M, p, x1, x2, x3, x4, x5, t, hc, hm, hr, hi => ⟨trivial, h p M x1 x2 x3 x4 x5 t (by omega) hr hi⟩
  | c + 1, i, M, p, x1, x2, x3, x4, x5, t, hc, hmm, hr, hi => by
    refine ⟨trivial, ?_⟩
    have ih := fun M p x1 x2 x3 x4 x5 t => lp__law_runs wf hk hka ha h0 hl0 hm h c (i + 1) M p x1 x2 x3 x4 x5 t
    clear h
    have dr := @draw_eq
    have ga : ∀ p : Pool, (S.set k p.1)[a]? = some (.lst (ls.map dL)) := fun p => by rw [p_ne hka]; exact ha
    have ha' := lt_of_get ha
    subst hm
    rw [ug__law_runs_0]
    walk_at "d"
    rw [ub__law_runs_0]
    have e1 : S.set k p.1 ++ .lst (M.map dRun) :: t = (S.set k p.1 ++ [.lst (M.map dRun)]) ++ t := by simp
    rw [e1]
    refine gc_drop (env0 := [some (.ref k), some (.ref a), some (.int most), some (.int kind), some (.ref S.length), some (.int i), none, none, none, none]) (by simp) ?_ ?_ ?_
    · refine (wf.set p.lt).apps ?_
      intro o ho
      rw [List.mem_singleton] at ho
      subst ho
      exact lt_runs M
    · simp [EnvOk, D.lt]
      omega
    clear e1
    have b3 : (1001 : Int) ≤ 10 ^ 30 := by decide
    have cp : CPow 10 30 := ⟨by decide, by decide, by decide⟩
    have fin : ∀ (l : Letter), l ∈ ls → ∀ (z v way : Int) (p : Pool), 1 ≤ z → 0 ≤ v → v < 2 → CMulA 2 v ∧ CMulA z (1 - 2 * v) ∧ if (M.length : Int) = 0 then M.length < sizeLine ∧ dLoop g__law_runs_0 b__law_runs_0 (S.length + 1) d (fun _ => True) (rangeD (i + 1) c) [some (.ref k), some (.ref a), some (.int most), some (.int kind), some (.ref S.length), some (.int i), some (dL l), some (.int z), some (.int way), some (D.tup [dL l, D.int (z * (1 - 2 * v))])] (S.set k p.1 ++ [.lst (M.map dRun ++ [D.tup [dL l, D.int (z * (1 - 2 * v))]])]) else match atI (M.map dRun) (-1) with
        | some d2 => match dItem (S.set k p.1 ++ [.lst (M.map dRun)]) d2 0 with
          | some d3 => match dEqv (S.set k p.1 ++ [.lst (M.map dRun)]) d3 (dL l) with
            | some b => if b = false then M.length < sizeLine ∧ dLoop g__law_runs_0 b__law_runs_0 (S.length + 1) d (fun _ => True) (rangeD (i + 1) c) [some (.ref k), some (.ref a), some (.int most), some (.int kind), some (.ref S.length), some (.int i), some (dL l), some (.int z), some (.int way), some (D.tup [dL l, D.int (z * (1 - 2 * v))])] (S.set k p.1 ++ [.lst (M.map dRun ++ [D.tup [dL l, D.int (z * (1 - 2 * v))]])]) else dLoop g__law_runs_0 b__law_runs_0 (S.length + 1) d (fun _ => True) (rangeD (i + 1) c) [some (.ref k), some (.ref a), some (.int most), some (.int kind), some (.ref S.length), some (.int i), some (dL l), some (.int z), some (.int way), some (D.tup [dL l, D.int (z * (1 - 2 * v))])] (S.set k p.1 ++ [.lst (M.map dRun)])
            | none => False
          | none => False
        | none => False := fun l hl z v way p hz v0 v1 => by
      have lm : M.length ≤ 900 := by omega
      have nz : z * (1 - 2 * v) ≠ 0 := by
        rcases (show v = 0 ∨ v = 1 by omega) with rfl | rfl
        · rw [show z * (1 - 2 * 0) = z by omega]; omega
        · rw [show z * (1 - 2 * 1) = -z by omega]; omega
      have ez : M.map dRun ++ [D.tup [dL l, D.int (z * (1 - 2 * v))]] = (M ++ [(l, z * (1 - 2 * v))]).map dRun := by simp [dRun]
      have put : (∀ (u : Word) r, M = u ++ [r] → r.1 ≠ l) → M.length < sizeLine ∧ dLoop g__law_runs_0 b__law_runs_0 (S.length + 1) d (fun _ => True) (rangeD (i + 1) c) [some (.ref k), some (.ref a), some (.int most), some (.int kind), some (.ref S.length), some (.int i), some (dL l), some (.int z), some (.int way), some (D.tup [dL l, D.int (z * (1 - 2 * v))])] (S.set k p.1 ++ [.lst (M.map dRun ++ [D.tup [dL l, D.int (z * (1 - 2 * v))]])]) := fun hx => by
        rw [ez]
        refine ⟨small_line' (by omega), ih _ p _ _ _ _ _ [] (by rw [List.length_append, List.length_singleton]; omega) hmm (red_next hr nz hx) fun r hr => ?_⟩
        rcases List.mem_append.mp hr with hr | hr
        · exact hi r hr
        · rw [List.mem_singleton] at hr
          rw [hr]
          exact hl
      have keep := ih M p (some (.int i)) (some (dL l)) (some (.int z)) (some (.int way)) (some (D.tup [dL l, D.int (z * (1 - 2 * v))])) [] (by omega) hmm hr hi
      clear ih
      refine ⟨CMulA.left (by omega) (by omega), CMulA.right (by omega) (by omega), ?_⟩
      rcases List.eq_nil_or_concat M with e0 | ⟨u, r, ew⟩
      · rw [if_pos (by rw [e0]; rfl)]
        refine put fun u r e => ?_
        rw [e0] at e
        simp at e
      · rw [List.concat_eq_append] at ew
        have ea : atI (M.map dRun) (-1) = some (dRun r) := by
          rw [ew, List.map_append]
          exact atI_end _ _
        rw [if_neg (by rw [ew, List.length_append, List.length_singleton]; omega), ea]
        obtain ⟨x, f⟩ := r
        dsimp only
        rw [item_run0]
        dsimp only
        rw [dEqv_L]
        dsimp only
        by_cases hx : x = l
        · rw [if_neg (by rw [decide_eq_true hx]; exact Bool.noConfusion)]
          exact keep
        · rw [if_pos (decide_eq_false hx)]
          refine put fun u' r' e => ?_
          rw [ew] at e
          have := (List.append_inj' e rfl).2
          injection this with e1
          rw [← e1]
          exact hx
    clear ih hr hi
    walk_at "w"
    refine ⟨by omega, by omega, fun v p1 v0 v1 => ?_⟩
    obtain ⟨l, hl, e⟩ := at_map (f := dL) (xs := ls) v0 v1
    rw [e]
    dsimp only
    have fin := fin l hl
    clear e hl
    split
    · intro v2 p2 v3 v4
      split
      · intro v5 p3 v6 v7
        split
        · exact fun v8 p4 v9 v10 v11 p5 v12 v13 => fin _ v11 _ p5 (by omega) v12 v13
        · exact fun v11 p5 v12 v13 => fin _ v11 _ p5 (by omega) v12 v13
      · split
        · exact fun v8 p4 v9 v10 v11 p5 v12 v13 => fin _ v11 _ p5 (by omega) v12 v13
        · exact fun v11 p5 v12 v13 => fin _ v11 _ p5 (by omega) v12 v13
    · split
      · intro v5 p3 v6 v7
        exact fun v11 p5 v12 v13 => fin _ v11 _ p5 (by omega) v12 v13
      · exact fun v11 p5 v12 v13 => fin _ v11 _ p5 (by omega) v12 v13
theorem read__law_runs : ∀ ds st Q, Wf st → D.lts st.length ds → sp__law_runs ds st Q → r__law_runs st.length { nx := fun _ st' => Ret st.length Q .non st', rt := Ret st.length Q } (dstart N__law_runs ds) st := by
  intro ds st Q wf wl h
  obtain ⟨k, a, ls, most, kind, p, rfl, hp, ha, hls, hll, hm0, hm, q⟩ := h
  have hk := lt_of_get hp
  have ha' := lt_of_get ha
  have hka := pool_ne hp ha dL_ne
  have hl0 : 0 < ls.length := List.length_pos_iff.mpr hls
  have dr := @draw_eq
  have b3 : (1001 : Int) ≤ 10 ^ 30 := by decide
  unfold r__law_runs N__law_runs
  walk_at "w"
  refine ⟨by omega, by omega, fun v p1 v0 v1 => ⟨⟨by omega, by omega⟩, ?_⟩⟩
  refine lp__law_runs wf hk hka ha hl0 hll rfl (fun p2 M x1 x2 x3 x4 x5 t h1 h2 h3 => ?_) _ 0 [] p1 _ _ _ _ _ [] (by simp; omega) hm trivial (by simp)
  walk_at "w"
  exact ret_app (by rw [List.length_set]) (wf.set p2.lt) lt_W (q _ p2 h2 h1 h3)

theorem len__law_runs : ∀ ds s Q, sp__law_runs ds s Q → ds.length = 4 := by
  intro ds s Q h
  unfold sp__law_runs at h
  repeat (obtain ⟨_, h⟩ := h)
  subst_vars
  rfl
/-! _law_evened -/
abbrev N__law_evened : List Str := ["word", "one", "total"]


def r__law_evened : DTS :=
  (dSeq (dSet 2 (dOp dSub (dC (.int 0)) (dCall sp__law_sum (dCons (dVar 0) (dCons (dVar 1) dNil)))))
  (dSeq (dIfS (dAnd (dB (dOp dGt (dCB dLen (dCons (dVar 0) dNil)) (dC (.int 0)))) (dAnd (dB (dOp dNe (dOp dIx (dOp dIx (dVar 0) (dUn dNeg (dC (.int 1)))) (dC (.int 0))) (dVar 1))) (dAnd (dB (dOp dNe (dVar 2) (dC (.int 0)))) (dB (dOp dLt (dCB dAbs (dCons (dVar 2) dNil)) (dOp dPow (dC (.int 10)) (dC (.int 30)))))))) (dRet (dOp dAdd (dVar 0) (dTup (dCons (dTup (dCons (dVar 1) (dCons (dVar 2) dNil))) dNil)))) dNext)
  (dRet (dVar 0))))
def sp__law_evened : DSp := fun ds st Q => ∃ (w : Word) (l : Letter), ds = [dW w, dL l] ∧ w.length ≤ 1000 ∧ Red w ∧ (∀ v : Word, Red v → v.length ≤ w.length + 1 → (∀ r ∈ v, r ∈ w ∨ r.1 = l) → Q (dW v) st)
theorem red_evened {w : Word} {l : Letter} {e : Int} (h : Red w) (he : e ≠ 0) (hl : ∀ (u : Word) r, w = u ++ [r] → r.1 ≠ l) : Red (w ++ [(l, e)]) := by
  refine Red.app h ⟨he, by simp, trivial⟩ fun a b ha hb => ?_
  simp only [List.head?_cons, Option.some.injEq] at hb
  subst hb
  rw [List.getLast?_eq_some_iff] at ha
  obtain ⟨u, rfl⟩ := ha
  exact hl u a rfl
theorem read__law_evened : ∀ ds st Q, Wf st → D.lts st.length ds → sp__law_evened ds st Q → r__law_evened st.length { nx := fun _ st' => Ret st.length Q .non st', rt := Ret st.length Q } (dstart N__law_evened ds) st := by
  intro ds st Q wf wl h
  obtain ⟨w, l, rfl, hl, hr, q⟩ := h
  have r1 := ret_eq rfl wf lt_W (q w hr (by omega) fun r h => .inl h)
  have r2 : ∃ _ : Unit, ∀ e : Int, e ≠ 0 → (∀ (u : Word) r, w = u ++ [r] → r.1 ≠ l) → Ret st.length Q (dW (w ++ [(l, e)])) st := ⟨(), fun e he hx => ret_eq rfl wf lt_W (q _ (red_evened hr he hx) (by rw [List.length_append]; exact Nat.le_refl _) fun r h => by
    rcases List.mem_append.mp h with h | h
    · exact .inl h
    · rw [List.mem_singleton] at h
      subst h
      exact .inr rfl)⟩
  clear q
  unfold r__law_evened N__law_evened
  walk_at "p"
  refine ⟨w, l, rfl, by omega, ?_⟩
  walk_at "p"
  rcases List.eq_nil_or_concat w with rfl | ⟨u, r, ew⟩
  · rw [if_neg (by simp)]
    trivial
  · rw [List.concat_eq_append] at ew
    subst ew
    have r3 := fun he hx => r2.choose_spec (0 - esum l (u ++ [r])) he hx
    clear r2
    have hx : ∀ (u' : Word) r', u ++ [r] = u' ++ [r'] → r'.1 = r.1 := fun u' r' e => by
      have := (List.append_inj' e rfl).2
      injection this with e1
      rw [e1]
    rw [if_pos (by rw [List.length_append, List.length_singleton]; omega), item_lastW]
    walk_at "p"
    obtain ⟨m, e⟩ := r
    dsimp only
    rw [List.length_append, List.length_singleton] at hl
    split
    · rename_i h1
      split
      · rename_i he
        have r4 := r3 he fun u' r' e => by
          rw [hx u' r' e]
          exact h1
        rw [List.append_assoc] at r4
        have b0 : (if 0 - esum l (u ++ [(m, e)]) < 0 then -(0 - esum l (u ++ [(m, e)])) else 0 - esum l (u ++ [(m, e)])) < 10 ^ 30 ∨ ¬ (if 0 - esum l (u ++ [(m, e)]) < 0 then -(0 - esum l (u ++ [(m, e)])) else 0 - esum l (u ++ [(m, e)])) < 10 ^ 30 := Decidable.em _
        refine ⟨⟨by decide, by decide, by decide⟩, ?_⟩
        rcases b0 with b0 | b0
        · rw [if_pos b0]
          exact ⟨by decide, by decide, small_line (by omega), r4⟩
        · rw [if_neg b0]
          trivial
      · trivial
    · trivial

theorem len__law_evened : ∀ ds s Q, sp__law_evened ds s Q → ds.length = 2 := by
  intro ds s Q h
  unfold sp__law_evened at h
  repeat (obtain ⟨_, h⟩ := h)
  subst_vars
  rfl
/-! _law_number_is -/
abbrev N__law_number_is : List Str := ["actual", "due"]


def r__law_number_is : DTS :=
  (dRet (dAndV (dCall sp__law_is_whole (dCons (dVar 0) dNil)) (dOp dEq (dVar 0) (dVar 1))))
def sp__law_number_is : DSp := fun ds st Q => ∃ (a b : Int), ds = [.int a, .int b] ∧ Q (.bl (decide (a = b))) st
theorem read__law_number_is : ∀ ds st Q, Wf st → D.lts st.length ds → sp__law_number_is ds st Q → r__law_number_is st.length { nx := fun _ st' => Ret st.length Q .non st', rt := Ret st.length Q } (dstart N__law_number_is ds) st := by
  intro ds st Q wf wl h
  obtain ⟨a, b, rfl, q⟩ := h
  have rr := ret_eq (d := .bl _) rfl wf trivial q
  clear q
  unfold r__law_number_is N__law_number_is
  walk_at "p"
  refine ⟨a, rfl, ?_⟩
  walk_at "p"
  first | done | exact rr

theorem len__law_number_is : ∀ ds s Q, sp__law_number_is ds s Q → ds.length = 2 := by
  intro ds s Q h
  unfold sp__law_number_is at h
  repeat (obtain ⟨_, h⟩ := h)
  subst_vars
  rfl
/-! _law_is_word -/
abbrev N__law_is_word : List Str := ["value", "last", "run"]

def g__law_is_word_0 : DTG := (dgName 2)
def b__law_is_word_0 : DTS :=
  (dSeq (dIfS (dOr (dNot (dTruth (dCB dIsi (dCons (dVar 2) (dCons (dC (.ty "tuple")) dNil))))) (dB (dOp dNe (dCB dLen (dCons (dVar 2) dNil)) (dC (.int 2))))) (dRet (dC (.bl false))) dNext)
  (dSeq (dIfS (dOr (dNot (dTruth (dCall sp__law_is_letter (dCons (dOp dIx (dVar 2) (dC (.int 0))) dNil)))) (dNot (dTruth (dCall sp__law_is_whole (dCons (dOp dIx (dVar 2) (dC (.int 1))) dNil))))) (dRet (dC (.bl false))) dNext)
  (dSeq (dIfS (dOr (dB (dOp dEq (dOp dIx (dVar 2) (dC (.int 1))) (dC (.int 0)))) (dB (dOp dEq (dOp dIx (dVar 2) (dC (.int 0))) (dVar 1)))) (dRet (dC (.bl false))) dNext)
  (dSet 1 (dOp dIx (dVar 2) (dC (.int 0)))))))
theorem ug__law_is_word_0 {x env st Q} : g__law_is_word_0 x env st Q = (dgName 2) x env st Q := rfl
theorem ub__law_is_word_0 {n d env st} : b__law_is_word_0 n d env st = (dSeq (dIfS (dOr (dNot (dTruth (dCB dIsi (dCons (dVar 2) (dCons (dC (.ty "tuple")) dNil))))) (dB (dOp dNe (dCB dLen (dCons (dVar 2) dNil)) (dC (.int 2))))) (dRet (dC (.bl false))) dNext)
  (dSeq (dIfS (dOr (dNot (dTruth (dCall sp__law_is_letter (dCons (dOp dIx (dVar 2) (dC (.int 0))) dNil)))) (dNot (dTruth (dCall sp__law_is_whole (dCons (dOp dIx (dVar 2) (dC (.int 1))) dNil))))) (dRet (dC (.bl false))) dNext)
  (dSeq (dIfS (dOr (dB (dOp dEq (dOp dIx (dVar 2) (dC (.int 1))) (dC (.int 0)))) (dB (dOp dEq (dOp dIx (dVar 2) (dC (.int 0))) (dVar 1)))) (dRet (dC (.bl false))) dNext)
  (dSet 1 (dOp dIx (dVar 2) (dC (.int 0))))))) n d env st := rfl
def r__law_is_word : DTS :=
  (dSeq (dIfS (dNot (dTruth (dCB dIsi (dCons (dVar 0) (dCons (dC (.ty "tuple")) dNil))))) (dRet (dC (.bl false))) dNext)
  (dSeq (dSet 1 (dTup dNil))
  (dSeq (dFor (dIter (dVar 0)) g__law_is_word_0 b__law_is_word_0)
  (dRet (dC (.bl true))))))
def sp__law_is_word : DSp := fun ds st Q => ∃ (w : Word), ds = [dW w] ∧ Red w ∧ Q (.bl true) st
theorem lp__law_is_word {m : Nat} {d : DEnds} {x : D} {st : Store} {ok : Store → Prop} (hok : ok st) : ∀ (w : Word) (y : D) (a : Option D), Red w → (∀ r ∈ w.head?, dEqv st (dL r.1) y = some false) → (∀ y a, d.nx [some x, some y, a] st) →
    dLoop g__law_is_word_0 b__law_is_word_0 m d ok (w.map dRun) [some x, some y, a] st
  | [], y, a, hr, hy, h => ⟨hok, h _ _⟩
  | (l, e) :: w, y, a, hr, hy, h => by
    have h1 := hy (l, e) rfl
    have he : e ≠ 0 := hr.1
    refine ⟨hok, ?_⟩
    rw [ug__law_is_word_0]
    walk_at "d"
    rw [ub__law_is_word_0]
    walk_at "d"
    have h2 : dLen [dRun (l, e)] st = fun Q => Q (.int 2) st := rfl
    simp only [h2]
    walk_at "d"
    refine ⟨l, rfl, ?_⟩
    walk_at "d"
    refine ⟨e, rfl, ?_⟩
    walk_at "d"
    rw [if_neg he]
    simp only [h1]
    walk_at "d"
    refine lp__law_is_word hok w _ _ hr.2.2 (fun r hr' => ?_) h
    rw [dEqv_L]
    have := hr.2.1 r hr'
    simpa using this
theorem read__law_is_word : ∀ ds st Q, Wf st → D.lts st.length ds → sp__law_is_word ds st Q → r__law_is_word st.length { nx := fun _ st' => Ret st.length Q .non st', rt := Ret st.length Q } (dstart N__law_is_word ds) st := by
  intro ds st Q wf wl h
  obtain ⟨w, rfl, hr, q⟩ := h
  unfold r__law_is_word N__law_is_word
  walk_at "d"
  refine ⟨Nat.zero_le _, lp__law_is_word trivial w _ _ hr (fun r _ => dEqv_L0 _) fun y a => ?_⟩
  walk_at "d"
  exact ret_eq rfl wf trivial q

theorem len__law_is_word : ∀ ds s Q, sp__law_is_word ds s Q → ds.length = 1 := by
  intro ds s Q h
  unfold sp__law_is_word at h
  repeat (obtain ⟨_, h⟩ := h)
  subst_vars
  rfl
/-! _law_letters_are -/
abbrev N__law_letters_are : List Str := ["actual", "due", "k"]

def g__law_letters_are_0 : DTG := (dgName 2)
def b__law_letters_are_0 : DTS :=
  (dIfS (dOr (dNot (dTruth (dCall sp__law_is_letter (dCons (dOp dIx (dVar 0) (dVar 2)) dNil)))) (dB (dOp dNe (dOp dIx (dVar 0) (dVar 2)) (dOp dIx (dVar 1) (dVar 2))))) (dRet (dC (.bl false))) dNext)
theorem ug__law_letters_are_0 {x env st Q} : g__law_letters_are_0 x env st Q = (dgName 2) x env st Q := rfl
theorem ub__law_letters_are_0 {n d env st} : b__law_letters_are_0 n d env st = (dIfS (dOr (dNot (dTruth (dCall sp__law_is_letter (dCons (dOp dIx (dVar 0) (dVar 2)) dNil)))) (dB (dOp dNe (dOp dIx (dVar 0) (dVar 2)) (dOp dIx (dVar 1) (dVar 2))))) (dRet (dC (.bl false))) dNext) n d env st := rfl
def r__law_letters_are : DTS :=
  (dSeq (dIfS (dOr (dNot (dTruth (dCB dIsi (dCons (dVar 0) (dCons (dC (.ty "list")) dNil))))) (dB (dOp dNe (dCB dLen (dCons (dVar 0) dNil)) (dCB dLen (dCons (dVar 1) dNil))))) (dRet (dC (.bl false))) dNext)
  (dSeq (dFor (dRng1 (dCons (dCB dLen (dCons (dVar 1) dNil)) dNil)) g__law_letters_are_0 b__law_letters_are_0)
  (dRet (dC (.bl true)))))
def sp__law_letters_are : DSp := fun ds st Q => ∃ (a b : Nat) (ls : List Letter), ds = [.ref a, .ref b] ∧ st[a]? = some (.lst (ls.map dL)) ∧ st[b]? = some (.lst (ls.map dL)) ∧ ls.length ≤ 1000 ∧ Q (.bl true) st
theorem lp__law_letters_are {S : Store} {a b m : Nat} {ls : List Letter} {d : DEnds} (ha : S[a]? = some (.lst (ls.map dL))) (hb : S[b]? = some (.lst (ls.map dL))) (h : ∀ x, d.nx [some (.ref a), some (.ref b), x] S) :
    ∀ (c : Nat) (i : Int) x, 0 ≤ i → i + c ≤ ls.length → dLoop g__law_letters_are_0 b__law_letters_are_0 m d (fun _ => True) (rangeD i c) [some (.ref a), some (.ref b), x] S
  | 0, i, x, _, _ => ⟨trivial, h x⟩
  | c + 1, i, x, h0, h1 => by
    refine ⟨trivial, ?_⟩
    have ih := lp__law_letters_are (m := m) ha hb h c (i + 1) (some (.int i)) (by omega) (by omega)
    clear h
    rw [ug__law_letters_are_0]
    walk_at "d"
    rw [ub__law_letters_are_0]
    obtain ⟨l, hl, e⟩ := at_map (f := dL) (xs := ls) (v := i) h0 (by omega)
    clear hl
    walk_at "p"
    refine ⟨l, rfl, ?_⟩
    walk_at "p"
    first | done | exact ih
theorem read__law_letters_are : ∀ ds st Q, Wf st → D.lts st.length ds → sp__law_letters_are ds st Q → r__law_letters_are st.length { nx := fun _ st' => Ret st.length Q .non st', rt := Ret st.length Q } (dstart N__law_letters_are ds) st := by
  intro ds st Q wf wl h
  obtain ⟨a, b, ls, rfl, ha, hb, hl, q⟩ := h
  have rr := ret_eq (d := .bl _) rfl wf trivial q
  clear q
  have ty : D.tyName st (.ref a) = some "list" := by
    show (match st[a]? with | some (.lst _) => some "list" | _ => none) = _
    rw [ha]
  unfold r__law_letters_are N__law_letters_are
  walk_at "p"
  refine ⟨⟨by omega, by omega⟩, lp__law_letters_are ha hb (fun x => ?_) _ 0 none (by omega) (by omega)⟩
  walk_at "p"
  first | done | exact rr

theorem len__law_letters_are : ∀ ds s Q, sp__law_letters_are ds s Q → ds.length = 2 := by
  intro ds s Q h
  unfold sp__law_letters_are at h
  repeat (obtain ⟨_, h⟩ := h)
  subst_vars
  rfl
/-! _law_spells -/
abbrev N__law_spells : List Str := ["items", "due", "k"]

def g__law_spells_0 : DTG := (dgName 2)
def b__law_spells_0 : DTS :=
  (dIfS (dOr (dNot (dTruth (dCall sp__law_is_word (dCons (dTup (dCons (dOp dIx (dVar 0) (dVar 2)) dNil)) dNil)))) (dB (dOp dNe (dOp dIx (dVar 0) (dVar 2)) (dOp dIx (dVar 1) (dVar 2))))) (dRet (dC (.bl false))) dNext)
theorem ug__law_spells_0 {x env st Q} : g__law_spells_0 x env st Q = (dgName 2) x env st Q := rfl
theorem ub__law_spells_0 {n d env st} : b__law_spells_0 n d env st = (dIfS (dOr (dNot (dTruth (dCall sp__law_is_word (dCons (dTup (dCons (dOp dIx (dVar 0) (dVar 2)) dNil)) dNil)))) (dB (dOp dNe (dOp dIx (dVar 0) (dVar 2)) (dOp dIx (dVar 1) (dVar 2))))) (dRet (dC (.bl false))) dNext) n d env st := rfl
def r__law_spells : DTS :=
  (dSeq (dIfS (dB (dOp dNe (dCB dLen (dCons (dVar 0) dNil)) (dCB dLen (dCons (dVar 1) dNil)))) (dRet (dC (.bl false))) dNext)
  (dSeq (dFor (dRng1 (dCons (dCB dLen (dCons (dVar 1) dNil)) dNil)) g__law_spells_0 b__law_spells_0)
  (dRet (dC (.bl true)))))
def sp__law_spells : DSp := fun ds st Q => ∃ (a b : Nat) (w : Word), ds = [.ref a, .ref b] ∧ st[a]? = some (.lst (w.map dRun)) ∧ st[b]? = some (.lst (w.map dRun)) ∧ w.length ≤ 1000 ∧ (∀ r ∈ w, Red [r]) ∧ Q (.bl true) st
theorem lp__law_spells {S : Store} {a b m : Nat} {w : Word} {d : DEnds} (ha : S[a]? = some (.lst (w.map dRun))) (hb : S[b]? = some (.lst (w.map dRun))) (hw : ∀ r ∈ w, Red [r]) (h : ∀ x, d.nx [some (.ref a), some (.ref b), x] S) :
    ∀ (c : Nat) (i : Int) x, 0 ≤ i → i + c ≤ w.length → dLoop g__law_spells_0 b__law_spells_0 m d (fun _ => True) (rangeD i c) [some (.ref a), some (.ref b), x] S
  | 0, i, x, _, _ => ⟨trivial, h x⟩
  | c + 1, i, x, h0, h1 => by
    refine ⟨trivial, ?_⟩
    have ih := lp__law_spells (m := m) ha hb hw h c (i + 1) (some (.int i)) (by omega) (by omega)
    clear h
    rw [ug__law_spells_0]
    walk_at "d"
    rw [ub__law_spells_0]
    obtain ⟨r, hr, e⟩ := at_map (f := dRun) (xs := w) (v := i) h0 (by omega)
    have h2 := hw r hr
    clear hr hw
    walk_at "p"
    refine ⟨by decide, [r], rfl, h2, ?_⟩
    walk_at "p"
    first | done | exact ih
theorem read__law_spells : ∀ ds st Q, Wf st → D.lts st.length ds → sp__law_spells ds st Q → r__law_spells st.length { nx := fun _ st' => Ret st.length Q .non st', rt := Ret st.length Q } (dstart N__law_spells ds) st := by
  intro ds st Q wf wl h
  obtain ⟨a, b, w, rfl, ha, hb, hl, hw, q⟩ := h
  have rr := ret_eq (d := .bl _) rfl wf trivial q
  clear q
  have hh : ∃ _ : Unit, ∀ r ∈ w, Red [r] := ⟨(), hw⟩
  clear hw
  unfold r__law_spells N__law_spells
  walk_at "p"
  refine ⟨⟨by omega, by omega⟩, lp__law_spells ha hb hh.choose_spec (fun x => ?_) _ 0 none (by omega) (by omega)⟩
  walk_at "p"
  first | done | exact rr

theorem len__law_spells : ∀ ds s Q, sp__law_spells ds s Q → ds.length = 2 := by
  intro ds s Q h
  unfold sp__law_spells at h
  repeat (obtain ⟨_, h⟩ := h)
  subst_vars
  rfl
/-! law -/
abbrev N_law : List Str := ["script", "pool", "whole", "special", "used", "kind", "large", "word", "told", "one", "total", "lacks"]

def g_law_0 : DTG := (dgName 9)
def b_law_0 : DTS :=
  (dSeq (dSet 10 (dCall sp__law_sum (dCons (dVar 7) (dCons (dVar 9) dNil))))
  (dSeq (dSet 11 (dCall sp__law_lacks (dCons (dVar 7) (dCons (dVar 9) dNil))))
  (dSeq (dIfS (dNot (dTruth (dCall sp__law_number_is (dCons (dCall sp_exponent_sum (dCons (dVar 7) (dCons (dVar 9) dNil))) (dCons (dVar 10) dNil))))) (dRet (dC (.bl false))) dNext)
  (dSeq (dIfS (dNot (dTruth (dCall sp__law_truth_is (dCons (dCall sp_avoids (dCons (dVar 7) (dCons (dVar 9) dNil))) (dCons (dVar 11) dNil))))) (dRet (dC (.bl false))) dNext)
  (dIfS (dNot (dTruth (dCall sp__law_truth_is (dCons (dCall sp_is_even (dCons (dVar 7) (dCons (dVar 9) dNil))) (dCons (dAndV (dNotV (dVar 11)) (dOp dEq (dVar 10) (dC (.int 0)))) dNil))))) (dRet (dC (.bl false))) dNext)))))
theorem ug_law_0 {x env st Q} : g_law_0 x env st Q = (dgName 9) x env st Q := rfl
theorem ub_law_0 {n d env st} : b_law_0 n d env st = (dSeq (dSet 10 (dCall sp__law_sum (dCons (dVar 7) (dCons (dVar 9) dNil))))
  (dSeq (dSet 11 (dCall sp__law_lacks (dCons (dVar 7) (dCons (dVar 9) dNil))))
  (dSeq (dIfS (dNot (dTruth (dCall sp__law_number_is (dCons (dCall sp_exponent_sum (dCons (dVar 7) (dCons (dVar 9) dNil))) (dCons (dVar 10) dNil))))) (dRet (dC (.bl false))) dNext)
  (dSeq (dIfS (dNot (dTruth (dCall sp__law_truth_is (dCons (dCall sp_avoids (dCons (dVar 7) (dCons (dVar 9) dNil))) (dCons (dVar 11) dNil))))) (dRet (dC (.bl false))) dNext)
  (dIfS (dNot (dTruth (dCall sp__law_truth_is (dCons (dCall sp_is_even (dCons (dVar 7) (dCons (dVar 9) dNil))) (dCons (dAndV (dNotV (dVar 11)) (dOp dEq (dVar 10) (dC (.int 0)))) dNil))))) (dRet (dC (.bl false))) dNext))))) n d env st := rfl
def t_law_14 : DTS :=
  (dSeq (dDrop (dBM dReverse (dVar 8) dNil))
  (dSeq (dDrop (dBM dAppend (dVar 8) (dCons (dOp dIx (dVar 2) (dC (.int 0))) dNil)))
  (dRet (dAndV (dCall sp__law_letters_are (dCons (dCall sp_letters_of (dCons (dVar 7) dNil)) (dCons (dCall sp__law_in_order (dCons (dVar 7) dNil)) dNil))) (dCall sp__law_number_is (dCons (dCall sp_length (dCons (dVar 7) dNil)) (dCons (dCall sp__law_size (dCons (dVar 7) dNil)) dNil)))))))
theorem ut_law_14 {n d env st} : t_law_14 n d env st = (dSeq (dDrop (dBM dReverse (dVar 8) dNil))
  (dSeq (dDrop (dBM dAppend (dVar 8) (dCons (dOp dIx (dVar 2) (dC (.int 0))) dNil)))
  (dRet (dAndV (dCall sp__law_letters_are (dCons (dCall sp_letters_of (dCons (dVar 7) dNil)) (dCons (dCall sp__law_in_order (dCons (dVar 7) dNil)) dNil))) (dCall sp__law_number_is (dCons (dCall sp_length (dCons (dVar 7) dNil)) (dCons (dCall sp__law_size (dCons (dVar 7) dNil)) dNil))))))) n d env st := rfl
def t_law_13 : DTS :=
  (dSeq (dIfS (dB (dOp dLe (dCall sp__law_size (dCons (dVar 7) dNil)) (dC (.int 60)))) (dSeq (dIfS (dNot (dTruth (dCall sp__law_spells (dCons (dListG sp_spell (dCons (dVar 7) dNil)) (dCons (dCall sp__law_spelled (dCons (dVar 7) dNil)) dNil))))) (dRet (dC (.bl false))) dNext)
  (dIfS (dNot (dTruth (dCall sp__law_spells (dCons (dListG sp_spell (dCons (dVar 7) dNil)) (dCons (dCall sp__law_spelled (dCons (dVar 7) dNil)) dNil))))) (dRet (dC (.bl false))) dNext)) dNext)
  t_law_14)
theorem ut_law_13 {n d env st} : t_law_13 n d env st = (dSeq (dIfS (dB (dOp dLe (dCall sp__law_size (dCons (dVar 7) dNil)) (dC (.int 60)))) (dSeq (dIfS (dNot (dTruth (dCall sp__law_spells (dCons (dListG sp_spell (dCons (dVar 7) dNil)) (dCons (dCall sp__law_spelled (dCons (dVar 7) dNil)) dNil))))) (dRet (dC (.bl false))) dNext)
  (dIfS (dNot (dTruth (dCall sp__law_spells (dCons (dListG sp_spell (dCons (dVar 7) dNil)) (dCons (dCall sp__law_spelled (dCons (dVar 7) dNil)) dNil))))) (dRet (dC (.bl false))) dNext)) dNext)
  t_law_14) n d env st := rfl
def t_law_12 : DTS :=
  (dSeq (dFor (dIter (dOp dAdd (dVar 2) (dVar 3))) g_law_0 b_law_0)
  t_law_13)
theorem ut_law_12 {n d env st} : t_law_12 n d env st = (dSeq (dFor (dIter (dOp dAdd (dVar 2) (dVar 3))) g_law_0 b_law_0)
  t_law_13) n d env st := rfl
def t_law_8 : DTS :=
  (dSeq (dIfS (dB (dOp dEq (dCall sp__law_draw (dCons (dVar 1) (dCons (dC (.int 2)) dNil))) (dC (.int 1)))) (dSet 7 (dCall sp__law_evened (dCons (dVar 7) (dCons (dOp dIx (dVar 4) (dCall sp__law_draw (dCons (dVar 1) (dCons (dCB dLen (dCons (dVar 4) dNil)) dNil)))) dNil)))) dNext)
  (dSeq (dIfS (dNot (dTruth (dCall sp__law_number_is (dCons (dCall sp_length (dCons (dVar 7) dNil)) (dCons (dCall sp__law_size (dCons (dVar 7) dNil)) dNil))))) (dRet (dC (.bl false))) dNext)
  (dSeq (dSet 8 (dCall sp_letters_of (dCons (dVar 7) dNil)))
  (dSeq (dIfS (dNot (dTruth (dCall sp__law_letters_are (dCons (dVar 8) (dCons (dCall sp__law_in_order (dCons (dVar 7) dNil)) dNil))))) (dRet (dC (.bl false))) dNext)
  t_law_12))))
theorem ut_law_8 {n d env st} : t_law_8 n d env st = (dSeq (dIfS (dB (dOp dEq (dCall sp__law_draw (dCons (dVar 1) (dCons (dC (.int 2)) dNil))) (dC (.int 1)))) (dSet 7 (dCall sp__law_evened (dCons (dVar 7) (dCons (dOp dIx (dVar 4) (dCall sp__law_draw (dCons (dVar 1) (dCons (dCB dLen (dCons (dVar 4) dNil)) dNil)))) dNil)))) dNext)
  (dSeq (dIfS (dNot (dTruth (dCall sp__law_number_is (dCons (dCall sp_length (dCons (dVar 7) dNil)) (dCons (dCall sp__law_size (dCons (dVar 7) dNil)) dNil))))) (dRet (dC (.bl false))) dNext)
  (dSeq (dSet 8 (dCall sp_letters_of (dCons (dVar 7) dNil)))
  (dSeq (dIfS (dNot (dTruth (dCall sp__law_letters_are (dCons (dVar 8) (dCons (dCall sp__law_in_order (dCons (dVar 7) dNil)) dNil))))) (dRet (dC (.bl false))) dNext)
  t_law_12)))) n d env st := rfl
def t_law_4 : DTS :=
  (dSeq (dIfS (dB (dOp dEq (dCall sp__law_draw (dCons (dVar 1) (dCons (dC (.int 4)) dNil))) (dC (.int 1)))) (dSet 4 (dOp dAdd (dVar 4) (dVar 3))) dNext)
  (dSeq (dSet 5 (dOp dIx (dLst (dCons (dC (.int 0)) (dCons (dC (.int 1)) (dCons (dC (.int 1)) (dCons (dC (.int 2)) dNil))))) (dCall sp__law_draw (dCons (dVar 1) (dCons (dC (.int 4)) dNil)))))
  (dSeq (dSet 6 (dOp dFdiv (dCall sp__law_draw (dCons (dVar 1) (dCons (dC (.int 8)) dNil))) (dC (.int 7))))
  (dSeq (dSet 7 (dCall sp__law_runs (dCons (dCall sp__law_pool (dCons (dVar 0) (dCons (dC (.int 1)) dNil))) (dCons (dVar 4) (dCons (dOp dAdd (dC (.int 12)) (dOp dMul (dC (.int 47)) (dVar 6))) (dCons (dVar 5) dNil))))))
  t_law_8))))
theorem ut_law_4 {n d env st} : t_law_4 n d env st = (dSeq (dIfS (dB (dOp dEq (dCall sp__law_draw (dCons (dVar 1) (dCons (dC (.int 4)) dNil))) (dC (.int 1)))) (dSet 4 (dOp dAdd (dVar 4) (dVar 3))) dNext)
  (dSeq (dSet 5 (dOp dIx (dLst (dCons (dC (.int 0)) (dCons (dC (.int 1)) (dCons (dC (.int 1)) (dCons (dC (.int 2)) dNil))))) (dCall sp__law_draw (dCons (dVar 1) (dCons (dC (.int 4)) dNil)))))
  (dSeq (dSet 6 (dOp dFdiv (dCall sp__law_draw (dCons (dVar 1) (dCons (dC (.int 8)) dNil))) (dC (.int 7))))
  (dSeq (dSet 7 (dCall sp__law_runs (dCons (dCall sp__law_pool (dCons (dVar 0) (dCons (dC (.int 1)) dNil))) (dCons (dVar 4) (dCons (dOp dAdd (dC (.int 12)) (dOp dMul (dC (.int 47)) (dVar 6))) (dCons (dVar 5) dNil))))))
  t_law_8)))) n d env st := rfl
def r_law : DTS :=
  (dSeq (dSet 1 (dCall sp__law_pool (dCons (dVar 0) (dCons (dC (.int 0)) dNil))))
  (dSeq (dSet 2 (dCall sp__law_alphabet (dCons (dVar 1) (dCons (dC (.int 7)) dNil))))
  (dSeq (dSet 3 (dLst (dCons (dTup (dCons (dC (.str (Str.ofString "!"))) dNil)) (dCons (dTup (dCons (dC (.str (Str.ofString "/"))) dNil)) (dCons (dTup (dCons (dC (.str (Str.ofString "!"))) (dCons (dOp dSub (dCall sp__law_draw (dCons (dVar 1) (dCons (dC (.int 7)) dNil))) (dC (.int 3))) dNil))) dNil)))))
  (dSeq (dSet 4 (dSlice (dVar 2) dNoPart (dPart (dCB dMax (dCons (dC (.int 1)) (dCons (dOp dSub (dCB dLen (dCons (dVar 2) dNil)) (dC (.int 1))) dNil))))))
  t_law_4))))
def sp_law : DSp := DL.spLaw
theorem len_law : ∀ ds s Q, sp_law ds s Q → ds.length = 1 := by
  intro ds s Q ⟨ns, e, _⟩
  subst e
  rfl
/-- what the law knows of its word -/
structure Kw (us : List Letter) (w : Word) : Prop where
  rd : Red w
  len : w.length ≤ 70
  mem : ∀ r ∈ w, r.1 ∈ us
  few : us.length < 60
theorem w_truT {st : Store} {Q : Bool → Store → Prop} : dTru (.bl true) st Q = Q true st := rfl
theorem spelled_red1 {w : Word} : ∀ r ∈ spelled w, Red [r] := fun r hr => by
  obtain ⟨x, hx, h2⟩ := List.mem_flatMap.mp hr
  unfold spell1 at h2
  have := (List.mem_replicate.mp h2).2
  subst this
  refine ⟨?_, by simp, trivial⟩
  dsimp only
  split <;> decide
theorem tl14_law {T : Store} {N P W C m : Nat} {d : DEnds} {ls cs us : List Letter} {w : Word} {x0 x3 x4 x5 x6 x9 x10 x11 : Option D} (hw : Kw us w) (hW : T[W]? = some (.lst (ls.map dL))) (hC : T[C]? = some (.lst (cs.map dL))) (hWC : W ≠ C) (hls : ls ≠ []) (hcs : cs.length ≤ 1000) (nC : N ≤ C)
    (fin : ∀ T', (∀ i, i < N → T'[i]? = T[i]?) → d.rt (.bl true) T') :
    t_law_14 m d [x0, some (.ref P), some (.ref W), x3, x4, x5, x6, some (dW w), some (.ref C), x9, x10, x11] T := by
  have hWl := lt_of_get hW
  have hCl := lt_of_get hC
  have g1 : ∀ o, (T.set C o)[C]? = some o := fun o => List.getElem?_set_self hCl
  have g2 : ∀ o, (T.set C o)[W]? = some (.lst (ls.map dL)) := fun o => by rw [List.getElem?_set_ne (Ne.symm hWC)]; exact hW
  have fv : ∃ _ : Unit, (∀ T', (∀ i, i < N → T'[i]? = T[i]?) → d.rt (.bl true) T') ∧ Kw us w := ⟨(), fin, hw⟩
  have lw : w.length ≤ 1000000 := by have := hw.len; omega
  obtain ⟨l0, hl0, e0⟩ := at_map (f := dL) (xs := ls) (v := 0) (by omega) (by have := List.length_pos_iff.mpr hls; omega)
  have cs' : ((cs.map dL).reverse).length < sizeLine := small_line' (by rw [List.length_reverse, List.length_map]; omega)
  have fin2 : ∃ _ : Unit, ∀ o t, d.rt (.bl true) (T.set C o ++ t) := ⟨(), fun o t => fin _ fun i hi => by
    rw [List.getElem?_append_left (by rw [List.length_set]; omega), List.getElem?_set_ne (by omega)]⟩
  clear fin hw hWC hls nC hl0 hW
  rw [ut_law_14]
  walk_at "w"
  refine ⟨w, rfl, ⟨us, fv.choose_spec.2.few, fv.choose_spec.2.mem⟩, fun ms m1 m2 => ?_⟩
  refine ⟨w, rfl, by have := fv.choose_spec.2.len; omega, fun ns n1 n2 n3 => ?_⟩
  have en : ns = ms := sorted_uniq n1 m1 fun l => by rw [n2, m2]
  subst en
  have lb : ns.length ≤ 1000 := by have := fv.choose_spec.2.len; omega
  have fin3 : ∃ _ : Unit, ∀ t, d.rt (.bl true) (T.set C (.lst ((cs.map dL).reverse ++ [dL l0])) ++ t) := ⟨(), fin2.choose_spec _⟩
  clear fin2 g1 g2 hC
  generalize (T.set C (.lst ((cs.map dL).reverse ++ [dL l0]))) = T1 at fin3 ⊢
  dsimp only
  refine ⟨T1.length, T1.length + 1, ns, by simp, by simp, by simp, lb, ?_⟩
  dsimp only
  rw [if_pos rfl]
  refine ⟨w, rfl, lw, ?_⟩
  dsimp only
  refine ⟨w, rfl, lw, ?_⟩
  dsimp only
  refine ⟨_, _, rfl, ?_⟩
  rw [decide_eq_true rfl, List.append_assoc]
  exact fin3.choose_spec _
theorem tl13_law {T : Store} {N P W C m : Nat} {d : DEnds} {ls cs us : List Letter} {w : Word} {x0 x3 x4 x5 x6 x9 x10 x11 : Option D} (hw : Kw us w) (hW : T[W]? = some (.lst (ls.map dL))) (hC : T[C]? = some (.lst (cs.map dL))) (hWC : W ≠ C) (hls : ls ≠ []) (hcs : cs.length ≤ 1000) (nC : N ≤ C)
    (fin : ∀ T', (∀ i, i < N → T'[i]? = T[i]?) → d.rt (.bl true) T') :
    t_law_13 m d [x0, some (.ref P), some (.ref W), x3, x4, x5, x6, some (dW w), some (.ref C), x9, x10, x11] T := by
  have hWl := lt_of_get hW
  have hCl := lt_of_get hC
  have tl : ∃ _ : Unit, ∀ t, t_law_14 m d [x0, some (.ref P), some (.ref W), x3, x4, x5, x6, some (dW w), some (.ref C), x9, x10, x11] (T ++ t) := ⟨(), fun t => tl14_law hw (by rw [p_app hWl]; exact hW) (by rw [p_app hCl]; exact hC) hWC hls hcs nC fun T' h => fin T' fun i hi => by rw [h i hi, p_app (by omega)]⟩
  have lw := hw.len
  have e0 := tl.choose_spec []
  rw [List.append_nil] at e0
  have hr : ∃ _ : Unit, ∀ r ∈ spelled w, Red [r] := ⟨(), spelled_red1⟩
  clear fin hWC hls nC hC hW
  rw [ut_law_13]
  by_cases hs : size w ≤ 60
  · clear e0
    walk_at "w"
    refine ⟨w, rfl, by omega, ?_⟩
    walk_at "w"
    rw [if_pos (by omega)]
    refine ⟨w, rfl, by omega, ?_⟩
    dsimp only
    refine ⟨w, rfl, by omega, ?_⟩
    dsimp only
    have sl : (spelled w).length ≤ 1000 := by rw [len_spelled]; omega
    refine ⟨T.length, T.length + 1, spelled w, by simp, by simp, by simp, sl, hr.choose_spec, ?_⟩
    unfold dTru
    dsimp only
    rw [if_neg (by decide)]
    refine ⟨w, rfl, by omega, ?_⟩
    dsimp only
    refine ⟨w, rfl, by omega, ?_⟩
    dsimp only
    refine ⟨T.length + 2, T.length + 3, spelled w, by simp, by simp, by simp, sl, hr.choose_spec, ?_⟩
    simp only [dTru]
    rw [if_neg (by decide), List.append_assoc, List.append_assoc, List.append_assoc]
    exact tl.choose_spec _
  · clear tl
    walk_at "w"
    refine ⟨w, rfl, by omega, ?_⟩
    walk_at "w"
    rw [if_neg (by omega)]
    trivial
theorem lp_law {S : Store} {m : Nat} {d : DEnds} {us zs : List Letter} {w : Word} {c : Nat} {x0 x1 x2 x3 x4 x5 x6 x8 : Option D} (hw : Kw us w) (hc : S[c]? = some (.lst (zs.map dL)))
    (h : ∀ x9 x10 x11, d.nx [x0, x1, x2, x3, x4, x5, x6, some (dW w), x8, x9, x10, x11] S) :
    ∀ (vs : List Letter) x9 x10 x11, dLoop g_law_0 b_law_0 m d (okOf (.ref c) (zs.map dL)) (vs.map dL) [x0, x1, x2, x3, x4, x5, x6, some (dW w), x8, x9, x10, x11] S
  | [], x9, x10, x11 => ⟨hc, h x9 x10 x11⟩
  | v :: vs, x9, x10, x11 => by
    refine ⟨hc, ?_⟩
    have ih := fun x9 x10 x11 => lp_law (m := m) hw hc h vs x9 x10 x11
    clear h
    have lw : w.length ≤ 1000000 := by have := hw.len; omega
    rw [ug_law_0]
    walk_at "d"
    rw [ub_law_0]
    walk_at "d"
    refine ⟨w, v, rfl, lw, ?_⟩
    walk_at "d"
    refine ⟨w, v, rfl, lw, ?_⟩
    walk_at "d"
    refine ⟨w, v, rfl, lw, ?_⟩
    walk_at "d"
    refine ⟨_, _, rfl, ?_⟩
    walk_at "d"
    refine ⟨w, v, rfl, lw, ?_⟩
    walk_at "d"
    refine ⟨_, _, rfl, ?_⟩
    simp only [dTru]
    rw [beq_self_eq_true, if_neg (by decide)]
    refine ⟨w, v, rfl, lw, ?_⟩
    dsimp only
    split
    · rename_i hv
      refine ⟨_, _, rfl, ?_⟩
      have e : (decide ((¬ ∀ r ∈ w, r.1 ≠ v) ∧ esum v w = 0) == decide (esum v w = 0)) = true := by
        rw [beq_iff_eq, decide_eq_decide]
        exact ⟨fun h => h.2, fun h => ⟨hv, h⟩⟩
      rw [e]
      simp only [dTru]
      rw [if_neg (by decide)]
      exact ih _ _ _
    · rename_i hv
      refine ⟨_, _, rfl, ?_⟩
      have e : (decide ((¬ ∀ r ∈ w, r.1 ≠ v) ∧ esum v w = 0) == false) = true := by
        rw [beq_iff_eq, decide_eq_false_iff_not]
        exact fun h => hv h.1
      rw [e]
      simp only [dTru]
      rw [if_neg (by decide)]
      exact ih _ _ _
theorem tl12_law {T : Store} {N P W SP C m : Nat} {d : DEnds} {ls ss cs us : List Letter} {w : Word} {x0 x4 x5 x6 x9 x10 x11 : Option D} (hw : Kw us w) (hW : T[W]? = some (.lst (ls.map dL))) (hS : T[SP]? = some (.lst (ss.map dL))) (hC : T[C]? = some (.lst (cs.map dL))) (hWC : W ≠ C) (hls : ls ≠ []) (hcs : cs.length ≤ 1000) (lls : ls.length ≤ 100) (lss : ss.length ≤ 100) (nC : N ≤ C)
    (fin : ∀ T', (∀ i, i < N → T'[i]? = T[i]?) → d.rt (.bl true) T') :
    t_law_12 m d [x0, some (.ref P), some (.ref W), some (.ref SP), x4, x5, x6, some (dW w), some (.ref C), x9, x10, x11] T := by
  have hWl := lt_of_get hW
  have hCl := lt_of_get hC
  have tl : ∃ _ : Unit, ∀ t m x9 x10 x11, t_law_13 m d [x0, some (.ref P), some (.ref W), some (.ref SP), x4, x5, x6, some (dW w), some (.ref C), x9, x10, x11] (T ++ t) := ⟨(), fun t m x9 x10 x11 => tl13_law hw (by rw [p_app hWl]; exact hW) (by rw [p_app hCl]; exact hC) hWC hls hcs nC fun T' h => fin T' fun i hi => by rw [h i hi, p_app (by omega)]⟩
  have sl : (ls.map dL).length + (ss.map dL).length ≤ sizeLine := small_line (by simp; omega)
  clear fin hWC hls nC
  rw [ut_law_12]
  walk_at "w"
  refine ⟨by simpa using sl, lp_law hw (zs := ls ++ ss) (by simp) (fun x9 x10 x11 => ?_) (ls ++ ss) x9 x10 x11⟩
  exact tl.choose_spec _ _ _ _ _
theorem tl8_law {T : Store} {N P W SP U m : Nat} {d : DEnds} {ls ss us : List Letter} {w : Word} {x0 x5 x6 : Option D} {pm : Pool} (hw : Red w) (hl : w.length ≤ 60) (hi : ∀ r ∈ w, r.1 ∈ us) (hu : us ≠ []) (hul : us.length < 60) (hP : T[P]? = some pm.1) (hW : T[W]? = some (.lst (ls.map dL))) (hS : T[SP]? = some (.lst (ss.map dL))) (hU : T[U]? = some (.lst (us.map dL))) (hls : ls ≠ []) (lls : ls.length ≤ 100) (lss : ss.length ≤ 100) (nP : N ≤ P) (nT : N ≤ T.length)
    (fin : ∀ T', (∀ i, i < N → T'[i]? = T[i]?) → d.rt (.bl true) T') :
    t_law_8 m d [x0, some (.ref P), some (.ref W), some (.ref SP), some (.ref U), x5, x6, some (dW w), none, none, none, none] T := by
  have hPl := lt_of_get hP
  have hWl := lt_of_get hW
  have hSl := lt_of_get hS
  have hUl := lt_of_get hU
  have nPW : P ≠ W := pool_ne hP hW dL_ne
  have nPS : P ≠ SP := pool_ne hP hS dL_ne
  have nPU : P ≠ U := pool_ne hP hU dL_ne
  have gU : ∀ p : Pool, (T.set P p.1)[U]? = some (.lst (us.map dL)) := fun p => by rw [p_ne nPU]; exact hU
  have u0 : 0 < us.length := List.length_pos_iff.mpr hu
  have dr := @draw_eq
  have tl : ∃ _ : Unit, ∀ (p : Pool) (v : Word) (cs : List Letter) m, Kw us v → cs.length ≤ 1000 → ∀ t, t_law_12 m d [x0, some (.ref P), some (.ref W), some (.ref SP), some (.ref U), x5, x6, some (dW v), some (.ref T.length), none, none, none] (T.set P p.1 ++ .lst (cs.map dL) :: t) := ⟨(), fun p v cs m hv hc t => tl12_law (N := N) hv (by rw [List.getElem?_append_left (by rw [List.length_set]; exact hWl), p_ne nPW]; exact hW) (by rw [List.getElem?_append_left (by rw [List.length_set]; exact hSl), p_ne nPS]; exact hS) (by rw [List.getElem?_append_right (by simp)]; simp) (by omega) hls hc lls lss nT fun T' h => fin T' fun i hi => by
    rw [h i hi, List.getElem?_append_left (by rw [List.length_set]; omega), p_ne (by omega)]⟩
  clear fin hls nP nT nPW nPS
  rw [ut_law_8]
  walk_at "w"
  have go : ∀ (p : Pool) (v : Word), Kw us v → sp_length [dW v] (T.set P p.1) fun x st1 => sp__law_size [dW v] st1 fun x_1 st1 => sp__law_number_is [x, x_1] st1 fun x st1 => dTru x st1 fun c st1 => if c = false then d.rt (D.bl false) st1 else
      sp_letters_of [dW v] st1 fun x st1 => sp__law_in_order [dW v] st1 fun x_2 st1 => sp__law_letters_are [x, x_2] st1 fun x_3 st1 => dTru x_3 st1 fun c st1 => if c = false then d.rt (D.bl false) st1 else
        t_law_12 m d [x0, some (D.ref P), some (D.ref W), some (D.ref SP), some (D.ref U), x5, x6, some (dW v), some x, none, none, none] st1 := fun p v hv => by
    have lv := hv.len
    refine ⟨v, rfl, by omega, ?_⟩
    dsimp only
    refine ⟨v, rfl, by omega, ?_⟩
    dsimp only
    refine ⟨_, _, rfl, ?_⟩
    rw [decide_eq_true rfl]
    dsimp only
    rw [w_truT, if_neg (by decide)]
    refine ⟨v, rfl, ⟨us, hv.few, hv.mem⟩, fun ns m1 m2 => ?_⟩
    dsimp only
    refine ⟨v, rfl, by omega, fun ks n1 n2 n3 => ?_⟩
    have en : ks = ns := sorted_uniq n1 m1 fun l => by rw [n2, m2]
    subst en
    dsimp only
    rw [List.append_assoc]
    refine ⟨(T.set P p.1).length, (T.set P p.1).length + 1, ks, by simp, by simp, by simp, by omega, ?_⟩
    dsimp only
    rw [w_truT, if_neg (by decide), List.length_set]
    exact tl.choose_spec p v ks m hv (by omega) _
  intro v p1 v0 v1
  by_cases h1 : v = 1
  · rw [if_pos h1]
    refine ⟨by omega, by omega, fun v2 p2 v3 v4 => ?_⟩
    obtain ⟨l, hl2, e⟩ := at_map (f := dL) (xs := us) v3 v4
    rw [e]
    dsimp only
    refine ⟨w, l, rfl, by omega, hw, fun u r1 r2 r3 => ?_⟩
    exact go p2 u ⟨r1, by omega, fun r hr => by
      rcases r3 r hr with h | h
      · exact hi r h
      · rw [h]; exact hl2, hul⟩
  · rw [if_neg h1]
    exact go p1 w ⟨hw, by omega, hi, hul⟩
theorem tl4_law {T : Store} {N P W SP U m : Nat} {d : DEnds} {ls ss us : List Letter} {ns : List Int} {pm : Pool} (hn : ns.length ≤ 63) (hu : us ≠ []) (hul : us.length < 20) (hP : T[P]? = some pm.1) (hW : T[W]? = some (.lst (ls.map dL))) (hS : T[SP]? = some (.lst (ss.map dL))) (hU : T[U]? = some (.lst (us.map dL))) (hls : ls ≠ []) (lls : ls.length ≤ 100) (lss : ss.length ≤ 20) (nP : N ≤ P) (nT : N ≤ T.length)
    (fin : ∀ T', (∀ i, i < N → T'[i]? = T[i]?) → d.rt (.bl true) T') :
    t_law_4 m d [some (D.rol (ns.map D.int)), some (.ref P), some (.ref W), some (.ref SP), some (.ref U), none, none, none, none, none, none, none] T := by
  have hPl := lt_of_get hP
  have hWl := lt_of_get hW
  have hSl := lt_of_get hS
  have hUl := lt_of_get hU
  have nPW : P ≠ W := pool_ne hP hW dL_ne
  have nPS : P ≠ SP := pool_ne hP hS dL_ne
  have nPU : P ≠ U := pool_ne hP hU dL_ne
  have gU : ∀ p : Pool, (T.set P p.1)[U]? = some (.lst (us.map dL)) := fun p => by rw [p_ne nPU]; exact hU
  have gS : ∀ p : Pool, (T.set P p.1)[SP]? = some (.lst (ss.map dL)) := fun p => by rw [p_ne nPS]; exact hS
  have dr := @draw_eq
  have sl : (us.map dL).length + (ss.map dL).length ≤ sizeLine := small_line (by simp; omega)
  have go : ∃ _ : Unit, ∀ (U' : Nat) (vs : List Letter) (t : Store) (kind v : Int) (p' : Pool), (∀ p : Pool, (T.set P p.1 ++ t)[U']? = some (.lst (vs.map dL))) → vs ≠ [] → vs.length < 60 → 0 ≤ v → v < 8 → CDivA v 7 ∧ sp__law_pool [D.rol (ns.map D.int), D.int 1] (T.set P p'.1 ++ t) fun x st1 => CMulA 47 (v.fdiv 7) ∧ sp__law_runs [x, D.ref U', D.int (12 + 47 * v.fdiv 7), .int kind] st1 fun x st1 =>
      t_law_8 m d [some (D.rol (ns.map D.int)), some (D.ref P), some (D.ref W), some (D.ref SP), some (D.ref U'), some (.int kind), some (D.int (v.fdiv 7)), some x, none, none, none, none] st1 := ⟨(), fun U' vs t kind v p' h1 h2 h3 v0 v1 => by
    have ev : v.fdiv 7 = v / 7 := Int.fdiv_eq_ediv_of_nonneg _ (by decide)
    rw [ev]
    have b0 : 0 ≤ v / 7 := by omega
    have b1 : v / 7 ≤ 1 := by omega
    generalize v / 7 = z at b0 b1 ⊢
    refine ⟨.inl ⟨by decide, by omega⟩, ns, 1, rfl, by decide, by decide, hn, fun pm2 => ?_⟩
    dsimp only
    refine ⟨CMulA.left (by decide) (by decide), ?_⟩
    have gl : (T.set P p'.1 ++ t).length = T.length + t.length := by simp
    have lU : U' < (T.set P p'.1 ++ t).length := lt_of_get (h1 p')
    refine ⟨_, U', vs, _, kind, pm2, rfl, by simp, by rw [List.getElem?_append_left lU]; exact h1 p', h2, by omega, by omega, by omega, fun w p2 r1 r2 r3 => ?_⟩
    have es : (T.set P p'.1 ++ t ++ [pm2.1]).set (T.set P p'.1 ++ t).length p2.1 = T.set P p'.1 ++ t ++ [p2.1] := by
      rw [List.set_append_right _ _ (by omega)]
      simp
    rw [es]
    have low : ∀ i, i < T.length → (T.set P p'.1 ++ t ++ [p2.1])[i]? = (T.set P p'.1)[i]? := fun i hi => by
      rw [List.append_assoc, List.getElem?_append_left (by rw [List.length_set]; exact hi)]
    refine tl8_law (N := N) (ls := ls) (ss := ss) (us := vs) (pm := p') r1 (by omega) r3 h2 h3 ?_ ?_ ?_ ?_ hls lls (by omega) nP ?_ fun T' h => fin T' fun i hi => ?_
    · rw [low P hPl]
      exact p_self hPl
    · rw [low W hWl, p_ne nPW]
      exact hW
    · rw [low SP hSl, p_ne nPS]
      exact hS
    · rw [List.getElem?_append_left lU]
      exact h1 p'
    · simp
      omega
    · rw [h i hi, low i (by omega), p_ne (by omega)]⟩
  clear fin hls nP nT
  have kn : ∀ v : Int, 0 ≤ v → v < 4 → ∃ f, atI [D.int 0, D.int 1, D.int 1, D.int 2] v = some (D.int f) := fun v v0 v1 => by
    obtain ⟨f, hf, e⟩ := at_map (f := D.int) (xs := [0, 1, 1, 2]) v0 v1
    exact ⟨f, e⟩
  rw [ut_law_4]
  walk_at "w"
  intro v p1 v0 v1
  split
  · refine ⟨by simpa using sl, fun v2 p2 v3 v4 => ?_⟩
    obtain ⟨f, e⟩ := kn v2 v3 v4
    rw [e]
    dsimp only
    exact fun v5 p3 v6 v7 => go.choose_spec T.length (us ++ ss) _ f v5 p3 (fun p => by
      rw [List.getElem?_append_right (by simp)]
      simp) (by simp [hu]) (by rw [List.length_append]; omega) v6 v7
  · intro v2 p2 v3 v4
    obtain ⟨f, e⟩ := kn v2 v3 v4
    rw [e]
    dsimp only
    exact fun v5 p3 v6 v7 => go.choose_spec U us _ f v5 p3 (fun p => by
      rw [List.getElem?_append_left (by rw [List.length_set]; exact hUl)]
      exact gU p) hu (by omega) v6 v7
theorem read_law : ∀ ds st Q, Wf st → D.lts st.length ds → sp_law ds st Q → r_law st.length { nx := fun _ st' => Ret st.length Q .non st', rt := Ret st.length Q } (dstart N_law ds) st := by
  intro ds st Q wf wl h
  obtain ⟨ns, rfl, hn, q⟩ := h
  have dr := @draw_eq
  have b3 : (1001 : Int) ≤ 10 ^ 30 := by decide
  unfold r_law N_law
  clear wl
  walk_at "w"
  refine ⟨ns, 0, rfl, by decide, by decide, hn, fun pm => ?_⟩
  walk_at "w"
  refine ⟨st.length, 7, pm, rfl, p_get0, by decide, by decide, fun ls p1 a1 a2 a3 => ?_⟩
  walk_at "w"
  intro v p2 v0 v1
  have el : ∃ n : Nat, 1 ≤ n ∧ n ≤ 7 ∧ cutD (ls.map dL) none (some (if (ls.length : Int) - 1 > 1 then (ls.length : Int) - 1 else 1)) = (ls.take n).map dL := by
    refine ⟨(if (ls.length : Int) - 1 > 1 then (ls.length : Int) - 1 else 1).toNat, ?_, ?_, ?_⟩
    · split <;> omega
    · split <;> omega
    · rw [cut_toI (by split <;> omega), List.map_take]
  obtain ⟨n, n1, n2, en⟩ := el
  rw [en]
  have ln := List.length_pos_iff.mpr a1
  refine tl4_law (N := st.length) (ls := ls) (ss := [mk, stp, up mk (v - 3)]) (us := ls.take n) (pm := p2) hn ?_ ?_ p_get0 p_get1 p_get2 p_get3 a1 (by omega) (by simp) (by omega) (by simp) fun T' h => ?_
  · intro h0
    have := congrArg List.length h0
    rw [List.length_take, List.length_nil] at this
    omega
  · rw [List.length_take]
    omega
  · refine ret_pre wf trivial (fun i hi => ?_) (q _)
    rw [h i hi, p_app hi]

end K02
namespace K02
open PySem PySem.Spec L2 DL
def topS (i : Nat) : Stmt := PySem.Challenge.pw_onelaw_k02_measures_of_words.main.body.getD i (.Pass ⟨0, 0, 0, 0⟩)
abbrev s_length : Stmt := topS 1
theorem sc_length : FnScope N_length ["word"] (defScope s_length) := ⟨rfl, rfl, rfl, by decide +kernel, rfl, by decide +kernel, by decide +kernel⟩
abbrev s_letters_of : Stmt := topS 2
theorem sc_letters_of : FnScope N_letters_of ["word"] (defScope s_letters_of) := ⟨rfl, rfl, rfl, by decide +kernel, rfl, by decide +kernel, by decide +kernel⟩
abbrev s_exponent_sum : Stmt := topS 3
theorem sc_exponent_sum : FnScope N_exponent_sum ["word", "letter"] (defScope s_exponent_sum) := ⟨rfl, rfl, rfl, by decide +kernel, rfl, by decide +kernel, by decide +kernel⟩
abbrev s_avoids : Stmt := topS 4
theorem sc_avoids : FnScope N_avoids ["word", "letter"] (defScope s_avoids) := ⟨rfl, rfl, rfl, by decide +kernel, rfl, by decide +kernel, by decide +kernel⟩
abbrev s_is_even : Stmt := topS 5
theorem sc_is_even : FnScope N_is_even ["word", "letter"] (defScope s_is_even) := ⟨rfl, rfl, rfl, by decide +kernel, rfl, by decide +kernel, by decide +kernel⟩
abbrev s_spell : Stmt := topS 6
theorem sc_spell : GScope N_spell ["word"] (defScope s_spell) := ⟨rfl, rfl, rfl, by decide +kernel, rfl, by decide +kernel, by decide +kernel⟩
abbrev s__law_pool : Stmt := topS 8
theorem sc__law_pool : FnScope N__law_pool ["script", "place"] (defScope s__law_pool) := ⟨rfl, rfl, rfl, by decide +kernel, rfl, by decide +kernel, by decide +kernel⟩
abbrev s__law_draw : Stmt := topS 9
theorem sc__law_draw : FnScope N__law_draw ["pool", "many"] (defScope s__law_draw) := ⟨rfl, rfl, rfl, by decide +kernel, rfl, by decide +kernel, by decide +kernel⟩
abbrev s__law_size : Stmt := topS 10
theorem sc__law_size : FnScope N__law_size ["word"] (defScope s__law_size) := ⟨rfl, rfl, rfl, by decide +kernel, rfl, by decide +kernel, by decide +kernel⟩
abbrev s__law_sum : Stmt := topS 11
theorem sc__law_sum : FnScope N__law_sum ["word", "one"] (defScope s__law_sum) := ⟨rfl, rfl, rfl, by decide +kernel, rfl, by decide +kernel, by decide +kernel⟩
abbrev s__law_lacks : Stmt := topS 12
theorem sc__law_lacks : FnScope N__law_lacks ["word", "one"] (defScope s__law_lacks) := ⟨rfl, rfl, rfl, by decide +kernel, rfl, by decide +kernel, by decide +kernel⟩
abbrev s__law_spelled : Stmt := topS 13
theorem sc__law_spelled : FnScope N__law_spelled ["word"] (defScope s__law_spelled) := ⟨rfl, rfl, rfl, by decide +kernel, rfl, by decide +kernel, by decide +kernel⟩
abbrev s__law_is_whole : Stmt := topS 14
theorem sc__law_is_whole : FnScope N__law_is_whole ["value"] (defScope s__law_is_whole) := ⟨rfl, rfl, rfl, by decide +kernel, rfl, by decide +kernel, by decide +kernel⟩
abbrev s__law_is_letter : Stmt := topS 15
theorem sc__law_is_letter : FnScope N__law_is_letter ["value"] (defScope s__law_is_letter) := ⟨rfl, rfl, rfl, by decide +kernel, rfl, by decide +kernel, by decide +kernel⟩
abbrev s__law_is_word : Stmt := topS 16
theorem sc__law_is_word : FnScope N__law_is_word ["value"] (defScope s__law_is_word) := ⟨rfl, rfl, rfl, by decide +kernel, rfl, by decide +kernel, by decide +kernel⟩
abbrev s__law_alphabet : Stmt := topS 17
theorem sc__law_alphabet : FnScope N__law_alphabet ["pool", "most"] (defScope s__law_alphabet) := ⟨rfl, rfl, rfl, by decide +kernel, rfl, by decide +kernel, by decide +kernel⟩
abbrev s__law_runs : Stmt := topS 18
theorem sc__law_runs : FnScope N__law_runs ["pool", "alphabet", "most", "kind"] (defScope s__law_runs) := ⟨rfl, rfl, rfl, by decide +kernel, rfl, by decide +kernel, by decide +kernel⟩
abbrev s__law_evened : Stmt := topS 19
theorem sc__law_evened : FnScope N__law_evened ["word", "one"] (defScope s__law_evened) := ⟨rfl, rfl, rfl, by decide +kernel, rfl, by decide +kernel, by decide +kernel⟩
abbrev s__law_in_order : Stmt := topS 20
theorem sc__law_in_order : FnScope N__law_in_order ["word"] (defScope s__law_in_order) := ⟨rfl, rfl, rfl, by decide +kernel, rfl, by decide +kernel, by decide +kernel⟩
abbrev s__law_letters_are : Stmt := topS 21
theorem sc__law_letters_are : FnScope N__law_letters_are ["actual", "due"] (defScope s__law_letters_are) := ⟨rfl, rfl, rfl, by decide +kernel, rfl, by decide +kernel, by decide +kernel⟩
abbrev s__law_spells : Stmt := topS 22
theorem sc__law_spells : FnScope N__law_spells ["items", "due"] (defScope s__law_spells) := ⟨rfl, rfl, rfl, by decide +kernel, rfl, by decide +kernel, by decide +kernel⟩
abbrev s__law_number_is : Stmt := topS 23
theorem sc__law_number_is : FnScope N__law_number_is ["actual", "due"] (defScope s__law_number_is) := ⟨rfl, rfl, rfl, by decide +kernel, rfl, by decide +kernel, by decide +kernel⟩
abbrev s__law_truth_is : Stmt := topS 24
theorem sc__law_truth_is : FnScope N__law_truth_is ["actual", "due"] (defScope s__law_truth_is) := ⟨rfl, rfl, rfl, by decide +kernel, rfl, by decide +kernel, by decide +kernel⟩
abbrev s_law : Stmt := topS 25
theorem sc_law : FnScope N_law ["script"] (defScope s_law) := ⟨rfl, rfl, rfl, by decide +kernel, rfl, by decide +kernel, by decide +kernel⟩
section
variable {P : Program} {w : World} {K : PySem.W.Frag} {mg : Str → Option Value} {base : Heap} {f : Addr} {fd : FuncData}
theorem ok_length (F : Fun K "length" "length" s_length f fd) (z_abs : mg "abs" = none) (z_sum : mg "sum" = none) :
    FnOk P w K mg base CX0 1 f fd ["word"] (spOf K sp_length) :=
  Fun.okD F sc_length len_length fun cdv A outer s H E hr => have nd := sc_length.nd; ⟨_, r_length,
 (sss_one (ss_ret (se_callB (sc_sum rfl) (by rfl) z_sum (by decide +kernel) (sa_cons (se_lc (own := [("_", 1), ("exponent", 2)]) rfl nd (si_iter (sv 0)) (blkOk_by (N := N_length) (sc := defScope s_length) (by decide +kernel)) (own_tup (owns_cons mono_name (own_name (by decide)) (owns_cons mono_name (own_name (by decide)) owns_nil))) (fun _ _ _ _ _ => (sg_tup rfl (sgs_cons (sg_name (i := 1) nd rfl (by first | exact .inl rfl | exact .inr rfl)) (sgs_cons (sg_name (i := 2) nd rfl (by first | exact .inl rfl | exact .inr rfl)) sgs_nil)))) (fun _ _ _ _ _ => sts_nil) (fun _ _ _ _ _ => (se_callB sc_abs (by rfl) z_abs (by decide +kernel) (sa_cons (sv 2) sa_nil)))) sa_nil)))), read_length⟩
theorem ok_letters_of (F : Fun K "letters_of" "letters_of" s_letters_of f fd) (z_sorted : mg "sorted" = none) :
    FnOk P w K mg base CX0 1 f fd ["word"] (spOf K sp_letters_of) :=
  Fun.okD F sc_letters_of len_letters_of fun cdv A outer s H E hr => have nd := sc_letters_of.nd; ⟨_, r_letters_of,
 (sss_one (ss_ret (se_letters (i := 1) (j := 2) (k := 0) hr.units rfl nd (by rfl) z_sorted (sv 0) (blkOk_by (N := N_letters_of) (sc := defScope s_letters_of) (by decide +kernel)) (fun _ _ _ _ _ => (sg_tup rfl (sgs_cons (sg_name (i := 1) nd rfl (by first | exact .inl rfl | exact .inr rfl)) (sgs_cons (sg_name (i := 2) nd rfl (by first | exact .inl rfl | exact .inr rfl)) sgs_nil))).pg) (fun _ _ _ _ _ => (sv 1).pe)))), read_letters_of⟩
theorem ok_exponent_sum (F : Fun K "exponent_sum" "exponent_sum" s_exponent_sum f fd) (z_sum : mg "sum" = none) :
    FnOk P w K mg base CX0 1 f fd ["word", "letter"] (spOf K sp_exponent_sum) :=
  Fun.okD F sc_exponent_sum len_exponent_sum fun cdv A outer s H E hr => have nd := sc_exponent_sum.nd; ⟨_, r_exponent_sum,
 (sss_one (ss_ret (se_callB (sc_sum rfl) (by rfl) z_sum (by decide +kernel) (sa_cons (se_lc (own := [("other", 2), ("exponent", 3)]) rfl nd (si_iter (sv 0)) (blkOk_by (N := N_exponent_sum) (sc := defScope s_exponent_sum) (by decide +kernel)) (own_tup (owns_cons mono_name (own_name (by decide)) (owns_cons mono_name (own_name (by decide)) owns_nil))) (fun _ _ _ _ _ => (sg_tup rfl (sgs_cons (sg_name (i := 2) nd rfl (by first | exact .inl rfl | exact .inr rfl)) (sgs_cons (sg_name (i := 3) nd rfl (by first | exact .inl rfl | exact .inr rfl)) sgs_nil)))) (fun _ _ _ _ _ => (sts_one (st_cmp (so_eq hr) (sv 2) (sv 1) (nomark _)))) (fun _ _ _ _ _ => (sv 3))) sa_nil)))), read_exponent_sum⟩
theorem ok_avoids (F : Fun K "avoids" "avoids" s_avoids f fd) (z_all : mg "all" = none) :
    FnOk P w K mg base CX0 1 f fd ["word", "letter"] (spOf K sp_avoids) :=
  Fun.okD F sc_avoids len_avoids fun cdv A outer s H E hr => have nd := sc_avoids.nd; ⟨_, r_avoids,
 (sss_one (ss_ret (se_callB (sc_all rfl) (by rfl) z_all (by decide +kernel) (sa_cons (se_lc (own := [("other", 2), ("_", 3)]) rfl nd (si_iter (sv 0)) (blkOk_by (N := N_avoids) (sc := defScope s_avoids) (by decide +kernel)) (own_tup (owns_cons mono_name (own_name (by decide)) (owns_cons mono_name (own_name (by decide)) owns_nil))) (fun _ _ _ _ _ => (sg_tup rfl (sgs_cons (sg_name (i := 2) nd rfl (by first | exact .inl rfl | exact .inr rfl)) (sgs_cons (sg_name (i := 3) nd rfl (by first | exact .inl rfl | exact .inr rfl)) sgs_nil)))) (fun _ _ _ _ _ => sts_nil) (fun _ _ _ _ _ => (se_cmp (so_ne hr) (sv 2) (sv 1) (nomark _)))) sa_nil)))), read_avoids⟩
theorem ok_spell (F : Fun K "spell" "spell" s_spell f fd) (z_abs : mg "abs" = none) (z_range : mg "range" = none) :
    GFn P w K mg base 1 f fd ["word"] (spGOf K sp_spell) :=
  Fun.okG F sc_spell len_spell fun cdv A outer s H E pn hr => have nd := sc_spell.nd; ⟨_, r_spell,
 (sgs_cons' (sg_for owns_gcx rfl (si_iter (sv 0)) (sg_tup rfl (sgs_cons (sg_name (i := 1) nd rfl (.inl rfl)) (sgs_cons (sg_name (i := 2) nd rfl (.inl rfl)) sgs_nil)))
 (sgs_cons' (sg_for owns_gcx rfl (si_range1 (by rfl) z_range (sa_cons (se_callB sc_abs (by rfl) z_abs (by decide +kernel) (sa_cons (sv 2) sa_nil)) sa_nil)) (sg_name (i := 3) nd rfl (.inl rfl))
 (sgs_cons' (sg_yield (se_tup (sa_cons (sv 1) (sa_cons (se_if (st_cmp so_gt (sv 2) se_int (nomark _)) se_int (se_un su_neg se_int)) sa_nil))))
 sgs_nil'))
 sgs_nil'))
 sgs_nil'), read_spell⟩
theorem ok__law_pool (F : Fun K "_law_pool" "_law_pool" s__law_pool f fd) (z_len : mg "len" = none) (z_int : mg "int" = none) (z_abs : mg "abs" = none) :
    FnOk P w K mg base CX0 1 f fd ["script", "place"] (spOf K sp__law_pool) :=
  Fun.okD F sc__law_pool len__law_pool fun cdv A outer s H E hr => have nd := sc__law_pool.nd; ⟨_, r__law_pool,
 (sss_cons (ss_set (i := 2) nd rfl (.inl rfl) se_int)
 (sss_cons (ss_if (st_cmp so_lt (sv 1) (se_callB sc_len (by rfl) z_len (by decide +kernel) (sa_cons (sv 0) sa_nil)) (nomark _))
 (sss_one (ss_set (i := 2) nd rfl (.inl rfl) (se_callB sc_abs (by rfl) z_abs (by decide +kernel) (sa_cons (se_callTy sc_int1 (by rfl) z_int (by decide +kernel) (sa_cons (se_ix (sv 0) (sv 1) (fun _ _ => rfl)) sa_nil)) sa_nil))))
 sss_nil)
 (sss_cons (ss_set (i := 3) nd rfl (.inl rfl) (se_op so_add (se_op so_add (se_op so_mod (se_callTy sc_int1 (by rfl) z_int (by decide +kernel) (sa_cons (sv 2) sa_nil)) se_int) (se_op so_mul se_int (sv 1))) se_int))
 (sss_cons (ss_if (st_cmp so_lt (sv 2) (se_op so_pow se_int se_int) (nomark _))
 (sss_one (ss_set (i := 2) nd rfl (.inl rfl) se_int))
 sss_nil)
 (sss_one (ss_ret (se_lst (sa_cons (sv 2) (sa_cons se_int (sa_cons (sv 3) sa_nil)))))))))), read__law_pool⟩
theorem ok__law_draw (F : Fun K "_law_draw" "_law_draw" s__law_draw f fd) (z_int : mg "int" = none) :
    FnOk P w K mg base CX0 1 f fd ["pool", "many"] (spOf K sp__law_draw) :=
  Fun.okD F sc__law_draw len__law_draw fun cdv A outer s H E hr => have nd := sc__law_draw.nd; ⟨_, r__law_draw,
 (sss_cons (ss_if (st_cmp so_gt (se_ix (sv 0) se_int (fun _ _ => rfl)) se_int (nomark _))
 (sss_cons (ss_set (i := 2) nd rfl (.inl rfl) (se_op so_mod (se_callTy sc_int1 (by rfl) z_int (by decide +kernel) (sa_cons (se_ix (sv 0) se_int (fun _ _ => rfl)) sa_nil)) (sv 1)))
 (sss_cons (ss_asg (se_op so_fdiv (se_callTy sc_int1 (by rfl) z_int (by decide +kernel) (sa_cons (se_ix (sv 0) se_int (fun _ _ => rfl)) sa_nil)) (sv 1)) (sg_sub (sv 0) se_int))
 (sss_one (ss_ret (sv 2)))))
 sss_nil)
 (sss_cons (ss_asg (se_op so_add (se_ix (sv 0) se_int (fun _ _ => rfl)) se_int) (sg_sub (sv 0) se_int))
 (sss_cons (ss_set (i := 3) nd rfl (.inl rfl) (se_op so_mod (se_callTy sc_int1 (by rfl) z_int (by decide +kernel) (sa_cons (se_op so_add (se_op so_mul (se_ix (sv 0) se_int (fun _ _ => rfl)) se_int) (se_op so_mul (se_ix (sv 0) se_int (fun _ _ => rfl)) se_int)) sa_nil)) se_int))
 (sss_cons (ss_set (i := 3) nd rfl (.inl rfl) (se_op so_mod (se_callTy sc_int1 (by rfl) z_int (by decide +kernel) (sa_cons (se_op so_add (se_op so_mul (sv 3) (sv 3)) (se_op so_mul (se_ix (sv 0) se_int (fun _ _ => rfl)) se_int)) sa_nil)) se_int))
 (sss_cons (ss_set (i := 3) nd rfl (.inl rfl) (se_op so_mod (se_callTy sc_int1 (by rfl) z_int (by decide +kernel) (sa_cons (se_op so_add (se_op so_mul (sv 3) (sv 3)) (se_ix (sv 0) se_int (fun _ _ => rfl))) sa_nil)) se_int))
 (sss_one (ss_ret (se_op so_mod (se_callTy sc_int1 (by rfl) z_int (by decide +kernel) (sa_cons (sv 3) sa_nil)) (sv 1))))))))), read__law_draw⟩
theorem ok__law_size (F : Fun K "_law_size" "_law_size" s__law_size f fd) (z_abs : mg "abs" = none) (z_sum : mg "sum" = none) :
    FnOk P w K mg base CX0 1 f fd ["word"] (spOf K sp__law_size) :=
  Fun.okD F sc__law_size len__law_size fun cdv A outer s H E hr => have nd := sc__law_size.nd; ⟨_, r__law_size,
 (sss_one (ss_ret (se_callB (sc_sum rfl) (by rfl) z_sum (by decide +kernel) (sa_cons (se_lc (own := [("run", 1)]) rfl nd (si_iter (sv 0)) (blkOk_by (N := N__law_size) (sc := defScope s__law_size) (by decide +kernel)) (own_name (by decide)) (fun _ _ _ _ _ => (sg_name (i := 1) nd rfl (by first | exact .inl rfl | exact .inr rfl))) (fun _ _ _ _ _ => sts_nil) (fun _ _ _ _ _ => (se_callB sc_abs (by rfl) z_abs (by decide +kernel) (sa_cons (se_ix (sv 1) se_int (fun _ _ => rfl)) sa_nil)))) sa_nil)))), read__law_size⟩
theorem ok__law_sum (F : Fun K "_law_sum" "_law_sum" s__law_sum f fd) (z_sum : mg "sum" = none) :
    FnOk P w K mg base CX0 1 f fd ["word", "one"] (spOf K sp__law_sum) :=
  Fun.okD F sc__law_sum len__law_sum fun cdv A outer s H E hr => have nd := sc__law_sum.nd; ⟨_, r__law_sum,
 (sss_one (ss_ret (se_callB (sc_sum rfl) (by rfl) z_sum (by decide +kernel) (sa_cons (se_lc (own := [("run", 2)]) rfl nd (si_iter (sv 0)) (blkOk_by (N := N__law_sum) (sc := defScope s__law_sum) (by decide +kernel)) (own_name (by decide)) (fun _ _ _ _ _ => (sg_name (i := 2) nd rfl (by first | exact .inl rfl | exact .inr rfl))) (fun _ _ _ _ _ => (sts_one (st_cmp (so_eq hr) (se_ix (sv 2) se_int (fun _ _ => rfl)) (sv 1) (nomark _)))) (fun _ _ _ _ _ => (se_ix (sv 2) se_int (fun _ _ => rfl)))) sa_nil)))), read__law_sum⟩
theorem ok__law_lacks (F : Fun K "_law_lacks" "_law_lacks" s__law_lacks f fd) (z_len : mg "len" = none) :
    FnOk P w K mg base CX0 1 f fd ["word", "one"] (spOf K sp__law_lacks) :=
  Fun.okD F sc__law_lacks len__law_lacks fun cdv A outer s H E hr => have nd := sc__law_lacks.nd; ⟨_, r__law_lacks,
 (sss_one (ss_ret (se_cmp (so_eq hr) (se_callB sc_len (by rfl) z_len (by decide +kernel) (sa_cons (se_lc (own := [("run", 2)]) rfl nd (si_iter (sv 0)) (blkOk_by (N := N__law_lacks) (sc := defScope s__law_lacks) (by decide +kernel)) (own_name (by decide)) (fun _ _ _ _ _ => (sg_name (i := 2) nd rfl (by first | exact .inl rfl | exact .inr rfl))) (fun _ _ _ _ _ => (sts_one (st_cmp (so_eq hr) (se_ix (sv 2) se_int (fun _ _ => rfl)) (sv 1) (nomark _)))) (fun _ _ _ _ _ => (sv 2))) sa_nil)) se_int (nomark _)))), read__law_lacks⟩
theorem ok__law_spelled (F : Fun K "_law_spelled" "_law_spelled" s__law_spelled f fd) (z_abs : mg "abs" = none) (z_min : mg "min" = none) (z_range : mg "range" = none) :
    FnOk P w K mg base CX0 1 f fd ["word"] (spOf K sp__law_spelled) :=
  Fun.okD F sc__law_spelled len__law_spelled fun cdv A outer s H E hr => have nd := sc__law_spelled.nd; ⟨_, r__law_spelled,
 (sss_cons (ss_set (i := 1) nd rfl (.inl rfl) (se_lst sa_nil))
 (sss_cons (ss_for PassesOwn.never rfl (si_iter (sv 0)) (sg_name (i := 2) nd rfl (.inl rfl))
 (sss_cons (ss_set (i := 3) nd rfl (.inl rfl) se_int)
 (sss_cons (ss_if (st_cmp so_lt (se_ix (sv 2) se_int (fun _ _ => rfl)) se_int (nomark _))
 (sss_one (ss_set (i := 3) nd rfl (.inl rfl) (se_op so_sub se_int se_int)))
 sss_nil)
 (sss_one (ss_for PassesOwn.never rfl (si_range1 (by rfl) z_range (sa_cons (se_callB (sc_min rfl) (by rfl) z_min (by decide +kernel) (sa_cons (se_callB sc_abs (by rfl) z_abs (by decide +kernel) (sa_cons (se_ix (sv 2) se_int (fun _ _ => rfl)) sa_nil)) (sa_cons se_int sa_nil))) sa_nil)) (sg_name (i := 4) nd rfl (.inl rfl))
 (sss_one (ss_expr (se_append (sv 1) (sa_cons (se_tup (sa_cons (se_ix (sv 2) se_int (fun _ _ => rfl)) (sa_cons (sv 3) sa_nil))) sa_nil)))))))))
 (sss_one (ss_ret (sv 1))))), read__law_spelled⟩
theorem ok__law_is_whole (F : Fun K "_law_is_whole" "_law_is_whole" s__law_is_whole f fd) (z_int : mg "int" = none) (z_isinstance : mg "isinstance" = none) (z_bool : mg "bool" = none) :
    FnOk P w K mg base CX0 1 f fd ["value"] (spOf K sp__law_is_whole) :=
  Fun.okD F sc__law_is_whole len__law_is_whole fun cdv A outer s H E hr => have nd := sc__law_is_whole.nd; ⟨_, r__law_is_whole,
 (sss_one (ss_ret (se_and (se_callB sc_isi (by rfl) z_isinstance (by decide +kernel) (sa_cons (sv 0) (sa_cons (se_bltn (n := "int") (by rfl) z_int (by decide +kernel) rfl) sa_nil))) (se_one (se_not (se_callB sc_isi (by rfl) z_isinstance (by decide +kernel) (sa_cons (sv 0) (sa_cons (se_bltn (n := "bool") (by rfl) z_bool (by decide +kernel) rfl) sa_nil)))))))), read__law_is_whole⟩
theorem ok__law_in_order (F : Fun K "_law_in_order" "_law_in_order" s__law_in_order f fd) (z_len : mg "len" = none) :
    FnOk P w K mg base CX0 1 f fd ["word"] (spOf K sp__law_in_order) :=
  Fun.okD F sc__law_in_order len__law_in_order fun cdv A outer s H E hr => have nd := sc__law_in_order.nd; ⟨_, r__law_in_order,
 (sss_cons (ss_set (i := 1) nd rfl (.inl rfl) (se_lst sa_nil))
 (sss_cons (ss_for PassesOwn.never rfl (si_iter (sv 0)) (sg_name (i := 2) nd rfl (.inr rfl))
 (sss_gc (sss_cons (ss_set (i := 3) nd rfl (.inl rfl) (se_callB sc_len (by rfl) z_len (by decide +kernel) (sa_cons (se_lc (own := [("one", 4)]) rfl nd (si_iter (sv 1)) (blkOk_by (N := N__law_in_order) (sc := defScope s__law_in_order) (by decide +kernel)) (own_name (by decide)) (fun _ _ _ _ _ => (sg_name (i := 4) nd rfl (by first | exact .inl rfl | exact .inr rfl))) (fun _ _ _ _ _ => (sts_one (st_cmp (so_ltD hr.units) (sv 4) (se_ix (sv 2) se_int (fun _ _ => rfl)) (nomark _)))) (fun _ _ _ _ _ => (sv 4))) sa_nil)))
 (sss_one (ss_if (st_cmp (so_notIn hr) (se_ix (sv 2) se_int (fun _ _ => rfl)) (sv 1) (by rfl))
 (sss_one (ss_expr (se_insert (sv 1) (sa_cons (sv 3) (sa_cons (se_ix (sv 2) se_int (fun _ _ => rfl)) sa_nil)))))
 sss_nil)))))
 (sss_one (ss_ret (sv 1))))), read__law_in_order⟩
theorem ok__law_truth_is (F : Fun K "_law_truth_is" "_law_truth_is" s__law_truth_is f fd) (z_bool : mg "bool" = none) (z_isinstance : mg "isinstance" = none) :
    FnOk P w K mg base CX0 1 f fd ["actual", "due"] (spOf K sp__law_truth_is) :=
  Fun.okD F sc__law_truth_is len__law_truth_is fun cdv A outer s H E hr => have nd := sc__law_truth_is.nd; ⟨_, r__law_truth_is,
 (sss_one (ss_ret (se_and (se_callB sc_isi (by rfl) z_isinstance (by decide +kernel) (sa_cons (sv 0) (sa_cons (se_bltn (n := "bool") (by rfl) z_bool (by decide +kernel) rfl) sa_nil))) (se_one (se_cmp (so_eq hr) (sv 0) (sv 1) (nomark _)))))), read__law_truth_is⟩
theorem ok_is_even (F : Fun K "is_even" "is_even" s_is_even f fd) {f_avoids : Addr} {fd_avoids : FuncData} (G_avoids : FnOk P w K mg base CX0 1 f_avoids fd_avoids ["word", "letter"] (spOf K sp_avoids)) (m_avoids : mg "avoids" = some (.ref f_avoids)) (k_avoids : PySem.W.keepIn K (.ref f_avoids) = true) (b_avoids : Binds K fd_avoids ["word", "letter"] []) {f_exponent_sum : Addr} {fd_exponent_sum : FuncData} (G_exponent_sum : FnOk P w K mg base CX0 1 f_exponent_sum fd_exponent_sum ["word", "letter"] (spOf K sp_exponent_sum)) (m_exponent_sum : mg "exponent_sum" = some (.ref f_exponent_sum)) (k_exponent_sum : PySem.W.keepIn K (.ref f_exponent_sum) = true) (b_exponent_sum : Binds K fd_exponent_sum ["word", "letter"] []) :
    FnOk P w K mg base CX0 2 f fd ["word", "letter"] (spOf K sp_is_even) :=
  Fun.okD F sc_is_even len_is_even fun cdv A outer s H E hr => have nd := sc_is_even.nd; ⟨_, r_is_even,
 (sss_one (ss_ret (se_and (se_not (se_call G_avoids (hr.mono (by decide)) (by rfl) m_avoids k_avoids b_avoids (sa_cons (sv 0) (sa_cons (sv 1) sa_nil)))) (se_one (se_cmp (so_eq hr) (se_call G_exponent_sum (hr.mono (by decide)) (by rfl) m_exponent_sum k_exponent_sum b_exponent_sum (sa_cons (sv 0) (sa_cons (sv 1) sa_nil))) se_int (nomark _)))))), read_is_even⟩
theorem ok__law_is_letter (F : Fun K "_law_is_letter" "_law_is_letter" s__law_is_letter f fd) {f__law_is_whole : Addr} {fd__law_is_whole : FuncData} (G__law_is_whole : FnOk P w K mg base CX0 1 f__law_is_whole fd__law_is_whole ["value"] (spOf K sp__law_is_whole)) (m__law_is_whole : mg "_law_is_whole" = some (.ref f__law_is_whole)) (k__law_is_whole : PySem.W.keepIn K (.ref f__law_is_whole) = true) (b__law_is_whole : Binds K fd__law_is_whole ["value"] []) (z_tuple : mg "tuple" = none) (z_isinstance : mg "isinstance" = none) (z_len : mg "len" = none) (z_str : mg "str" = none) :
    FnOk P w K mg base CX0 2 f fd ["value"] (spOf K sp__law_is_letter) :=
  Fun.okD F sc__law_is_letter len__law_is_letter fun cdv A outer s H E hr => have nd := sc__law_is_letter.nd; ⟨_, r__law_is_letter,
 (sss_cons (ss_if (SW.st (sw_or (st_not (st_truth (se_callB sc_isi (by rfl) z_isinstance (by decide +kernel) (sa_cons (sv 0) (sa_cons (se_bltn (n := "tuple") (by rfl) z_tuple (by decide +kernel) rfl) sa_nil))))) (sw_or (st_cmp (so_eq hr) (se_callB sc_len (by rfl) z_len (by decide +kernel) (sa_cons (sv 0) sa_nil)) se_int (nomark _)) (sw_or1 (st_not (st_truth (se_callB sc_isi (by rfl) z_isinstance (by decide +kernel) (sa_cons (se_ix (sv 0) se_int (fun _ _ => rfl)) (sa_cons (se_bltn (n := "str") (by rfl) z_str (by decide +kernel) rfl) sa_nil)))))))))
 (sss_one (ss_ret se_bl))
 sss_nil)
 (sss_cons (ss_for PassesOwn.never rfl (si_iter (se_slice (sv 0) (so_some se_int) so_none)) (sg_name (i := 1) nd rfl (.inl rfl))
 (sss_one (ss_if (st_not (st_truth (se_call G__law_is_whole (hr.mono (by decide)) (by rfl) m__law_is_whole k__law_is_whole b__law_is_whole (sa_cons (sv 1) sa_nil))))
 (sss_one (ss_ret se_bl))
 sss_nil)))
 (sss_one (ss_ret se_bl)))), read__law_is_letter⟩
theorem ok__law_alphabet (F : Fun K "_law_alphabet" "_law_alphabet" s__law_alphabet f fd) {f__law_draw : Addr} {fd__law_draw : FuncData} (G__law_draw : FnOk P w K mg base CX0 1 f__law_draw fd__law_draw ["pool", "many"] (spOf K sp__law_draw)) (m__law_draw : mg "_law_draw" = some (.ref f__law_draw)) (k__law_draw : PySem.W.keepIn K (.ref f__law_draw) = true) (b__law_draw : Binds K fd__law_draw ["pool", "many"] []) (z_range : mg "range" = none) (z_len : mg "len" = none) (z_list : mg "list" = none) (z_tuple : mg "tuple" = none) :
    FnOk P w K mg base CX0 2 f fd ["pool", "most"] (spOf K sp__law_alphabet) :=
  Fun.okD F sc__law_alphabet len__law_alphabet fun cdv A outer s H E hr => have nd := sc__law_alphabet.nd; ⟨_, r__law_alphabet,
 (sss_cons (ss_set (i := 2) nd rfl (.inl rfl) se_str)
 (sss_cons (ss_set (i := 3) nd rfl (.inl rfl) (se_ix (se_lst (sa_cons se_int (sa_cons se_int (sa_cons se_int (sa_cons se_int (sa_cons se_int (sa_cons se_int (sa_cons se_int (sa_cons se_int (sa_cons se_int sa_nil)))))))))) (se_call G__law_draw (hr.mono (by decide)) (by rfl) m__law_draw k__law_draw b__law_draw (sa_cons (sv 0) (sa_cons se_int sa_nil))) (fun _ _ => rfl)))
 (sss_cons (ss_set (i := 4) nd rfl (.inl rfl) (se_call G__law_draw (hr.mono (by decide)) (by rfl) m__law_draw k__law_draw b__law_draw (sa_cons (sv 0) (sa_cons se_int sa_nil))))
 (sss_cons (ss_set (i := 5) nd rfl (.inl rfl) (se_call G__law_draw (hr.mono (by decide)) (by rfl) m__law_draw k__law_draw b__law_draw (sa_cons (sv 0) (sa_cons se_int sa_nil))))
 (sss_cons (ss_set (i := 6) nd rfl (.inl rfl) (se_lst sa_nil))
 (sss_cons (ss_for PassesOwn.never rfl (si_range1 (by rfl) z_range (sa_cons (se_op so_add se_int (se_call G__law_draw (hr.mono (by decide)) (by rfl) m__law_draw k__law_draw b__law_draw (sa_cons (sv 0) (sa_cons (sv 1) sa_nil)))) sa_nil)) (sg_name (i := 7) nd rfl (.inl rfl))
 (sss_gc (sss_cons (ss_set (i := 8) nd rfl (.inl rfl) (se_lst (sa_cons (se_ix (sv 2) (se_call G__law_draw (hr.mono (by decide)) (by rfl) m__law_draw k__law_draw b__law_draw (sa_cons (sv 0) (sa_cons se_int sa_nil))) (fun _ _ => rfl)) sa_nil)))
 (sss_cons (ss_for PassesOwn.never rfl (si_range1 (by rfl) z_range (sa_cons (sv 3) sa_nil)) (sg_name (i := 9) nd rfl (.inl rfl))
 (sss_gc (sss_cons (ss_set (i := 10) nd rfl (.inl rfl) (se_ix (se_lst (sa_cons (se_op so_sub se_int se_int) (sa_cons (se_op so_sub se_int se_int) (sa_cons se_int (sa_cons se_int (sa_cons se_int sa_nil)))))) (se_call G__law_draw (hr.mono (by decide)) (by rfl) m__law_draw k__law_draw b__law_draw (sa_cons (sv 0) (sa_cons se_int sa_nil))) (fun _ _ => rfl)))
 (sss_cons (ss_if (st_cmp (so_eq hr) (sv 4) se_int (nomark _))
 (sss_one (ss_set (i := 10) nd rfl (.inl rfl) (se_op so_sub (se_call G__law_draw (hr.mono (by decide)) (by rfl) m__law_draw k__law_draw b__law_draw (sa_cons (sv 0) (sa_cons se_int sa_nil))) se_int)))
 sss_nil)
 (sss_one (ss_expr (se_append (sv 8) (sa_cons (sv 10) sa_nil))))))))
 (sss_cons (ss_if (SW.st (sw_and (st_cmp (so_eq hr) (sv 5) se_int (nomark _)) (sw_and1 (st_cmp so_gt (se_callB sc_len (by rfl) z_len (by decide +kernel) (sa_cons (sv 6) sa_nil)) se_int (nomark _)))))
 (sss_cons (ss_set (i := 11) nd rfl (.inl rfl) (se_call G__law_draw (hr.mono (by decide)) (by rfl) m__law_draw k__law_draw b__law_draw (sa_cons (sv 0) (sa_cons (se_op so_add (sv 3) se_int) sa_nil))))
 (sss_one (ss_set (i := 8) nd rfl (.inl rfl) (se_op so_add (se_op so_add (se_callTy sc_list (by rfl) z_list (by decide +kernel) (sa_cons (se_slice (se_ix (sv 6) se_int (fun _ _ => rfl)) so_none (so_some (sv 11))) sa_nil)) (se_lst (sa_cons (se_ix (sv 8) (sv 11) (fun _ _ => rfl)) sa_nil))) (se_callTy sc_list (by rfl) z_list (by decide +kernel) (sa_cons (se_slice (se_ix (sv 6) se_int (fun _ _ => rfl)) (so_some (se_op so_add (sv 11) se_int)) so_none) sa_nil))))))
 sss_nil)
 (sss_one (ss_if (st_cmp (so_notIn hr) (se_callTy sc_tuple (by rfl) z_tuple (by decide +kernel) (sa_cons (sv 8) sa_nil)) (sv 6) (by rfl))
 (sss_one (ss_expr (se_append (sv 6) (sa_cons (se_callTy sc_tuple (by rfl) z_tuple (by decide +kernel) (sa_cons (sv 8) sa_nil)) sa_nil))))
 sss_nil)))))))
 (sss_one (ss_ret (sv 6))))))))), read__law_alphabet⟩
theorem ok__law_runs (F : Fun K "_law_runs" "_law_runs" s__law_runs f fd) {f__law_draw : Addr} {fd__law_draw : FuncData} (G__law_draw : FnOk P w K mg base CX0 1 f__law_draw fd__law_draw ["pool", "many"] (spOf K sp__law_draw)) (m__law_draw : mg "_law_draw" = some (.ref f__law_draw)) (k__law_draw : PySem.W.keepIn K (.ref f__law_draw) = true) (b__law_draw : Binds K fd__law_draw ["pool", "many"] []) (z_range : mg "range" = none) (z_len : mg "len" = none) (z_tuple : mg "tuple" = none) :
    FnOk P w K mg base CX0 2 f fd ["pool", "alphabet", "most", "kind"] (spOf K sp__law_runs) :=
  Fun.okD F sc__law_runs len__law_runs fun cdv A outer s H E hr => have nd := sc__law_runs.nd; ⟨_, r__law_runs,
 (sss_cons (ss_set (i := 4) nd rfl (.inl rfl) (se_lst sa_nil))
 (sss_cons (ss_for PassesOwn.never rfl (si_range1 (by rfl) z_range (sa_cons (se_call G__law_draw (hr.mono (by decide)) (by rfl) m__law_draw k__law_draw b__law_draw (sa_cons (sv 0) (sa_cons (se_op so_add (sv 2) se_int) sa_nil))) sa_nil)) (sg_name (i := 5) nd rfl (.inl rfl))
 (sss_gc (sss_cons (ss_set (i := 6) nd rfl (.inl rfl) (se_ix (sv 1) (se_call G__law_draw (hr.mono (by decide)) (by rfl) m__law_draw k__law_draw b__law_draw (sa_cons (sv 0) (sa_cons (se_callB sc_len (by rfl) z_len (by decide +kernel) (sa_cons (sv 1) sa_nil)) sa_nil))) (fun _ _ => rfl)))
 (sss_cons (ss_set (i := 7) nd rfl (.inl rfl) se_int)
 (sss_cons (ss_set (i := 8) nd rfl (.inl rfl) (sv 3))
 (sss_cons (ss_if (st_cmp (so_eq hr) (sv 3) se_int (nomark _))
 (sss_one (ss_set (i := 8) nd rfl (.inl rfl) (se_call G__law_draw (hr.mono (by decide)) (by rfl) m__law_draw k__law_draw b__law_draw (sa_cons (sv 0) (sa_cons se_int sa_nil)))))
 sss_nil)
 (sss_cons (ss_if (st_cmp (so_eq hr) (sv 8) se_int (nomark _))
 (sss_one (ss_set (i := 7) nd rfl (.inl rfl) (se_op so_add se_int (se_call G__law_draw (hr.mono (by decide)) (by rfl) m__law_draw k__law_draw b__law_draw (sa_cons (sv 0) (sa_cons se_int sa_nil))))))
 sss_nil)
 (sss_cons (ss_if (st_cmp (so_eq hr) (sv 8) se_int (nomark _))
 (sss_one (ss_set (i := 7) nd rfl (.inl rfl) (se_op so_sub (se_op so_sub (se_op so_pow se_int se_int) se_int) (se_call G__law_draw (hr.mono (by decide)) (by rfl) m__law_draw k__law_draw b__law_draw (sa_cons (sv 0) (sa_cons (se_op so_sub (se_op so_pow se_int se_int) se_int) sa_nil))))))
 sss_nil)
 (sss_cons (ss_set (i := 9) nd rfl (.inl rfl) (se_tup (sa_cons (sv 6) (sa_cons (se_op so_mul (sv 7) (se_op so_sub se_int (se_op so_mul se_int (se_call G__law_draw (hr.mono (by decide)) (by rfl) m__law_draw k__law_draw b__law_draw (sa_cons (sv 0) (sa_cons se_int sa_nil)))))) sa_nil))))
 (sss_one (ss_if (SW.st (sw_or (st_cmp (so_eq hr) (se_callB sc_len (by rfl) z_len (by decide +kernel) (sa_cons (sv 4) sa_nil)) se_int (nomark _)) (sw_or1 (st_cmp (so_ne hr) (se_ix (se_ix (sv 4) (se_un su_neg se_int) (fun _ _ => rfl)) se_int (fun _ _ => rfl)) (sv 6) (nomark _)))))
 (sss_one (ss_expr (se_append (sv 4) (sa_cons (sv 9) sa_nil))))
 sss_nil)))))))))))
 (sss_one (ss_ret (se_callTy sc_tuple (by rfl) z_tuple (by decide +kernel) (sa_cons (sv 4) sa_nil)))))), read__law_runs⟩
theorem ok__law_evened (F : Fun K "_law_evened" "_law_evened" s__law_evened f fd) {f__law_sum : Addr} {fd__law_sum : FuncData} (G__law_sum : FnOk P w K mg base CX0 1 f__law_sum fd__law_sum ["word", "one"] (spOf K sp__law_sum)) (m__law_sum : mg "_law_sum" = some (.ref f__law_sum)) (k__law_sum : PySem.W.keepIn K (.ref f__law_sum) = true) (b__law_sum : Binds K fd__law_sum ["word", "one"] []) (z_len : mg "len" = none) (z_abs : mg "abs" = none) :
    FnOk P w K mg base CX0 2 f fd ["word", "one"] (spOf K sp__law_evened) :=
  Fun.okD F sc__law_evened len__law_evened fun cdv A outer s H E hr => have nd := sc__law_evened.nd; ⟨_, r__law_evened,
 (sss_cons (ss_set (i := 2) nd rfl (.inl rfl) (se_op so_sub se_int (se_call G__law_sum (hr.mono (by decide)) (by rfl) m__law_sum k__law_sum b__law_sum (sa_cons (sv 0) (sa_cons (sv 1) sa_nil)))))
 (sss_cons (ss_if (SW.st (sw_and (st_cmp so_gt (se_callB sc_len (by rfl) z_len (by decide +kernel) (sa_cons (sv 0) sa_nil)) se_int (nomark _)) (sw_and (st_cmp (so_ne hr) (se_ix (se_ix (sv 0) (se_un su_neg se_int) (fun _ _ => rfl)) se_int (fun _ _ => rfl)) (sv 1) (nomark _)) (sw_and (st_cmp (so_ne hr) (sv 2) se_int (nomark _)) (sw_and1 (st_cmp so_lt (se_callB sc_abs (by rfl) z_abs (by decide +kernel) (sa_cons (sv 2) sa_nil)) (se_op so_pow se_int se_int) (nomark _)))))))
 (sss_one (ss_ret (se_op so_add (sv 0) (se_tup (sa_cons (se_tup (sa_cons (sv 1) (sa_cons (sv 2) sa_nil))) sa_nil)))))
 sss_nil)
 (sss_one (ss_ret (sv 0))))), read__law_evened⟩
theorem ok__law_number_is (F : Fun K "_law_number_is" "_law_number_is" s__law_number_is f fd) {f__law_is_whole : Addr} {fd__law_is_whole : FuncData} (G__law_is_whole : FnOk P w K mg base CX0 1 f__law_is_whole fd__law_is_whole ["value"] (spOf K sp__law_is_whole)) (m__law_is_whole : mg "_law_is_whole" = some (.ref f__law_is_whole)) (k__law_is_whole : PySem.W.keepIn K (.ref f__law_is_whole) = true) (b__law_is_whole : Binds K fd__law_is_whole ["value"] []) :
    FnOk P w K mg base CX0 2 f fd ["actual", "due"] (spOf K sp__law_number_is) :=
  Fun.okD F sc__law_number_is len__law_number_is fun cdv A outer s H E hr => have nd := sc__law_number_is.nd; ⟨_, r__law_number_is,
 (sss_one (ss_ret (se_and (se_call G__law_is_whole (hr.mono (by decide)) (by rfl) m__law_is_whole k__law_is_whole b__law_is_whole (sa_cons (sv 0) sa_nil)) (se_one (se_cmp (so_eq hr) (sv 0) (sv 1) (nomark _)))))), read__law_number_is⟩
theorem ok__law_is_word (F : Fun K "_law_is_word" "_law_is_word" s__law_is_word f fd) {f__law_is_letter : Addr} {fd__law_is_letter : FuncData} (G__law_is_letter : FnOk P w K mg base CX0 2 f__law_is_letter fd__law_is_letter ["value"] (spOf K sp__law_is_letter)) (m__law_is_letter : mg "_law_is_letter" = some (.ref f__law_is_letter)) (k__law_is_letter : PySem.W.keepIn K (.ref f__law_is_letter) = true) (b__law_is_letter : Binds K fd__law_is_letter ["value"] []) {f__law_is_whole : Addr} {fd__law_is_whole : FuncData} (G__law_is_whole : FnOk P w K mg base CX0 1 f__law_is_whole fd__law_is_whole ["value"] (spOf K sp__law_is_whole)) (m__law_is_whole : mg "_law_is_whole" = some (.ref f__law_is_whole)) (k__law_is_whole : PySem.W.keepIn K (.ref f__law_is_whole) = true) (b__law_is_whole : Binds K fd__law_is_whole ["value"] []) (z_tuple : mg "tuple" = none) (z_isinstance : mg "isinstance" = none) (z_len : mg "len" = none) :
    FnOk P w K mg base CX0 3 f fd ["value"] (spOf K sp__law_is_word) :=
  Fun.okD F sc__law_is_word len__law_is_word fun cdv A outer s H E hr => have nd := sc__law_is_word.nd; ⟨_, r__law_is_word,
 (sss_cons (ss_if (st_not (st_truth (se_callB sc_isi (by rfl) z_isinstance (by decide +kernel) (sa_cons (sv 0) (sa_cons (se_bltn (n := "tuple") (by rfl) z_tuple (by decide +kernel) rfl) sa_nil)))))
 (sss_one (ss_ret se_bl))
 sss_nil)
 (sss_cons (ss_set (i := 1) nd rfl (.inl rfl) (se_tup sa_nil))
 (sss_cons (ss_for PassesOwn.never rfl (si_iter (sv 0)) (sg_name (i := 2) nd rfl (.inl rfl))
 (sss_cons (ss_if (SW.st (sw_or (st_not (st_truth (se_callB sc_isi (by rfl) z_isinstance (by decide +kernel) (sa_cons (sv 2) (sa_cons (se_bltn (n := "tuple") (by rfl) z_tuple (by decide +kernel) rfl) sa_nil))))) (sw_or1 (st_cmp (so_ne hr) (se_callB sc_len (by rfl) z_len (by decide +kernel) (sa_cons (sv 2) sa_nil)) se_int (nomark _)))))
 (sss_one (ss_ret se_bl))
 sss_nil)
 (sss_cons (ss_if (SW.st (sw_or (st_not (st_truth (se_call G__law_is_letter (hr.mono (by decide)) (by rfl) m__law_is_letter k__law_is_letter b__law_is_letter (sa_cons (se_ix (sv 2) se_int (fun _ _ => rfl)) sa_nil)))) (sw_or1 (st_not (st_truth (se_call G__law_is_whole (hr.mono (by decide)) (by rfl) m__law_is_whole k__law_is_whole b__law_is_whole (sa_cons (se_ix (sv 2) se_int (fun _ _ => rfl)) sa_nil)))))))
 (sss_one (ss_ret se_bl))
 sss_nil)
 (sss_cons (ss_if (SW.st (sw_or (st_cmp (so_eq hr) (se_ix (sv 2) se_int (fun _ _ => rfl)) se_int (nomark _)) (sw_or1 (st_cmp (so_eq hr) (se_ix (sv 2) se_int (fun _ _ => rfl)) (sv 1) (nomark _)))))
 (sss_one (ss_ret se_bl))
 sss_nil)
 (sss_one (ss_set (i := 1) nd rfl (.inl rfl) (se_ix (sv 2) se_int (fun _ _ => rfl))))))))
 (sss_one (ss_ret se_bl))))), read__law_is_word⟩
theorem ok__law_letters_are (F : Fun K "_law_letters_are" "_law_letters_are" s__law_letters_are f fd) {f__law_is_letter : Addr} {fd__law_is_letter : FuncData} (G__law_is_letter : FnOk P w K mg base CX0 2 f__law_is_letter fd__law_is_letter ["value"] (spOf K sp__law_is_letter)) (m__law_is_letter : mg "_law_is_letter" = some (.ref f__law_is_letter)) (k__law_is_letter : PySem.W.keepIn K (.ref f__law_is_letter) = true) (b__law_is_letter : Binds K fd__law_is_letter ["value"] []) (z_list : mg "list" = none) (z_isinstance : mg "isinstance" = none) (z_len : mg "len" = none) (z_range : mg "range" = none) :
    FnOk P w K mg base CX0 3 f fd ["actual", "due"] (spOf K sp__law_letters_are) :=
  Fun.okD F sc__law_letters_are len__law_letters_are fun cdv A outer s H E hr => have nd := sc__law_letters_are.nd; ⟨_, r__law_letters_are,
 (sss_cons (ss_if (SW.st (sw_or (st_not (st_truth (se_callB sc_isi (by rfl) z_isinstance (by decide +kernel) (sa_cons (sv 0) (sa_cons (se_bltn (n := "list") (by rfl) z_list (by decide +kernel) rfl) sa_nil))))) (sw_or1 (st_cmp (so_ne hr) (se_callB sc_len (by rfl) z_len (by decide +kernel) (sa_cons (sv 0) sa_nil)) (se_callB sc_len (by rfl) z_len (by decide +kernel) (sa_cons (sv 1) sa_nil)) (nomark _)))))
 (sss_one (ss_ret se_bl))
 sss_nil)
 (sss_cons (ss_for PassesOwn.never rfl (si_range1 (by rfl) z_range (sa_cons (se_callB sc_len (by rfl) z_len (by decide +kernel) (sa_cons (sv 1) sa_nil)) sa_nil)) (sg_name (i := 2) nd rfl (.inl rfl))
 (sss_one (ss_if (SW.st (sw_or (st_not (st_truth (se_call G__law_is_letter (hr.mono (by decide)) (by rfl) m__law_is_letter k__law_is_letter b__law_is_letter (sa_cons (se_ix (sv 0) (sv 2) (fun _ _ => rfl)) sa_nil)))) (sw_or1 (st_cmp (so_ne hr) (se_ix (sv 0) (sv 2) (fun _ _ => rfl)) (se_ix (sv 1) (sv 2) (fun _ _ => rfl)) (nomark _)))))
 (sss_one (ss_ret se_bl))
 sss_nil)))
 (sss_one (ss_ret se_bl)))), read__law_letters_are⟩
theorem ok__law_spells (F : Fun K "_law_spells" "_law_spells" s__law_spells f fd) {f__law_is_word : Addr} {fd__law_is_word : FuncData} (G__law_is_word : FnOk P w K mg base CX0 3 f__law_is_word fd__law_is_word ["value"] (spOf K sp__law_is_word)) (m__law_is_word : mg "_law_is_word" = some (.ref f__law_is_word)) (k__law_is_word : PySem.W.keepIn K (.ref f__law_is_word) = true) (b__law_is_word : Binds K fd__law_is_word ["value"] []) (z_len : mg "len" = none) (z_range : mg "range" = none) :
    FnOk P w K mg base CX0 4 f fd ["items", "due"] (spOf K sp__law_spells) :=
  Fun.okD F sc__law_spells len__law_spells fun cdv A outer s H E hr => have nd := sc__law_spells.nd; ⟨_, r__law_spells,
 (sss_cons (ss_if (st_cmp (so_ne hr) (se_callB sc_len (by rfl) z_len (by decide +kernel) (sa_cons (sv 0) sa_nil)) (se_callB sc_len (by rfl) z_len (by decide +kernel) (sa_cons (sv 1) sa_nil)) (nomark _))
 (sss_one (ss_ret se_bl))
 sss_nil)
 (sss_cons (ss_for PassesOwn.never rfl (si_range1 (by rfl) z_range (sa_cons (se_callB sc_len (by rfl) z_len (by decide +kernel) (sa_cons (sv 1) sa_nil)) sa_nil)) (sg_name (i := 2) nd rfl (.inl rfl))
 (sss_one (ss_if (SW.st (sw_or (st_not (st_truth (se_call G__law_is_word (hr.mono (by decide)) (by rfl) m__law_is_word k__law_is_word b__law_is_word (sa_cons (se_tup (sa_cons (se_ix (sv 0) (sv 2) (fun _ _ => rfl)) sa_nil)) sa_nil)))) (sw_or1 (st_cmp (so_ne hr) (se_ix (sv 0) (sv 2) (fun _ _ => rfl)) (se_ix (sv 1) (sv 2) (fun _ _ => rfl)) (nomark _)))))
 (sss_one (ss_ret se_bl))
 sss_nil)))
 (sss_one (ss_ret se_bl)))), read__law_spells⟩
theorem ok_law (F : Fun K "law" "law" s_law f fd) {f__law_pool : Addr} {fd__law_pool : FuncData} (G__law_pool : FnOk P w K mg base CX0 1 f__law_pool fd__law_pool ["script", "place"] (spOf K sp__law_pool)) (m__law_pool : mg "_law_pool" = some (.ref f__law_pool)) (k__law_pool : PySem.W.keepIn K (.ref f__law_pool) = true) (b__law_pool : Binds K fd__law_pool ["script", "place"] []) {f__law_alphabet : Addr} {fd__law_alphabet : FuncData} (G__law_alphabet : FnOk P w K mg base CX0 2 f__law_alphabet fd__law_alphabet ["pool", "most"] (spOf K sp__law_alphabet)) (m__law_alphabet : mg "_law_alphabet" = some (.ref f__law_alphabet)) (k__law_alphabet : PySem.W.keepIn K (.ref f__law_alphabet) = true) (b__law_alphabet : Binds K fd__law_alphabet ["pool", "most"] []) {f__law_draw : Addr} {fd__law_draw : FuncData} (G__law_draw : FnOk P w K mg base CX0 1 f__law_draw fd__law_draw ["pool", "many"] (spOf K sp__law_draw)) (m__law_draw : mg "_law_draw" = some (.ref f__law_draw)) (k__law_draw : PySem.W.keepIn K (.ref f__law_draw) = true) (b__law_draw : Binds K fd__law_draw ["pool", "many"] []) {f__law_runs : Addr} {fd__law_runs : FuncData} (G__law_runs : FnOk P w K mg base CX0 2 f__law_runs fd__law_runs ["pool", "alphabet", "most", "kind"] (spOf K sp__law_runs)) (m__law_runs : mg "_law_runs" = some (.ref f__law_runs)) (k__law_runs : PySem.W.keepIn K (.ref f__law_runs) = true) (b__law_runs : Binds K fd__law_runs ["pool", "alphabet", "most", "kind"] []) {f__law_evened : Addr} {fd__law_evened : FuncData} (G__law_evened : FnOk P w K mg base CX0 2 f__law_evened fd__law_evened ["word", "one"] (spOf K sp__law_evened)) (m__law_evened : mg "_law_evened" = some (.ref f__law_evened)) (k__law_evened : PySem.W.keepIn K (.ref f__law_evened) = true) (b__law_evened : Binds K fd__law_evened ["word", "one"] []) {f__law_number_is : Addr} {fd__law_number_is : FuncData} (G__law_number_is : FnOk P w K mg base CX0 2 f__law_number_is fd__law_number_is ["actual", "due"] (spOf K sp__law_number_is)) (m__law_number_is : mg "_law_number_is" = some (.ref f__law_number_is)) (k__law_number_is : PySem.W.keepIn K (.ref f__law_number_is) = true) (b__law_number_is : Binds K fd__law_number_is ["actual", "due"] []) {f__law_size : Addr} {fd__law_size : FuncData} (G__law_size : FnOk P w K mg base CX0 1 f__law_size fd__law_size ["word"] (spOf K sp__law_size)) (m__law_size : mg "_law_size" = some (.ref f__law_size)) (k__law_size : PySem.W.keepIn K (.ref f__law_size) = true) (b__law_size : Binds K fd__law_size ["word"] []) {f_length : Addr} {fd_length : FuncData} (G_length : FnOk P w K mg base CX0 1 f_length fd_length ["word"] (spOf K sp_length)) (m_length : mg "length" = some (.ref f_length)) (k_length : PySem.W.keepIn K (.ref f_length) = true) (b_length : Binds K fd_length ["word"] []) {f_letters_of : Addr} {fd_letters_of : FuncData} (G_letters_of : FnOk P w K mg base CX0 1 f_letters_of fd_letters_of ["word"] (spOf K sp_letters_of)) (m_letters_of : mg "letters_of" = some (.ref f_letters_of)) (k_letters_of : PySem.W.keepIn K (.ref f_letters_of) = true) (b_letters_of : Binds K fd_letters_of ["word"] []) {f__law_letters_are : Addr} {fd__law_letters_are : FuncData} (G__law_letters_are : FnOk P w K mg base CX0 3 f__law_letters_are fd__law_letters_are ["actual", "due"] (spOf K sp__law_letters_are)) (m__law_letters_are : mg "_law_letters_are" = some (.ref f__law_letters_are)) (k__law_letters_are : PySem.W.keepIn K (.ref f__law_letters_are) = true) (b__law_letters_are : Binds K fd__law_letters_are ["actual", "due"] []) {f__law_in_order : Addr} {fd__law_in_order : FuncData} (G__law_in_order : FnOk P w K mg base CX0 1 f__law_in_order fd__law_in_order ["word"] (spOf K sp__law_in_order)) (m__law_in_order : mg "_law_in_order" = some (.ref f__law_in_order)) (k__law_in_order : PySem.W.keepIn K (.ref f__law_in_order) = true) (b__law_in_order : Binds K fd__law_in_order ["word"] []) {f__law_sum : Addr} {fd__law_sum : FuncData} (G__law_sum : FnOk P w K mg base CX0 1 f__law_sum fd__law_sum ["word", "one"] (spOf K sp__law_sum)) (m__law_sum : mg "_law_sum" = some (.ref f__law_sum)) (k__law_sum : PySem.W.keepIn K (.ref f__law_sum) = true) (b__law_sum : Binds K fd__law_sum ["word", "one"] []) {f__law_lacks : Addr} {fd__law_lacks : FuncData} (G__law_lacks : FnOk P w K mg base CX0 1 f__law_lacks fd__law_lacks ["word", "one"] (spOf K sp__law_lacks)) (m__law_lacks : mg "_law_lacks" = some (.ref f__law_lacks)) (k__law_lacks : PySem.W.keepIn K (.ref f__law_lacks) = true) (b__law_lacks : Binds K fd__law_lacks ["word", "one"] []) {f_exponent_sum : Addr} {fd_exponent_sum : FuncData} (G_exponent_sum : FnOk P w K mg base CX0 1 f_exponent_sum fd_exponent_sum ["word", "letter"] (spOf K sp_exponent_sum)) (m_exponent_sum : mg "exponent_sum" = some (.ref f_exponent_sum)) (k_exponent_sum : PySem.W.keepIn K (.ref f_exponent_sum) = true) (b_exponent_sum : Binds K fd_exponent_sum ["word", "letter"] []) {f__law_truth_is : Addr} {fd__law_truth_is : FuncData} (G__law_truth_is : FnOk P w K mg base CX0 1 f__law_truth_is fd__law_truth_is ["actual", "due"] (spOf K sp__law_truth_is)) (m__law_truth_is : mg "_law_truth_is" = some (.ref f__law_truth_is)) (k__law_truth_is : PySem.W.keepIn K (.ref f__law_truth_is) = true) (b__law_truth_is : Binds K fd__law_truth_is ["actual", "due"] []) {f_avoids : Addr} {fd_avoids : FuncData} (G_avoids : FnOk P w K mg base CX0 1 f_avoids fd_avoids ["word", "letter"] (spOf K sp_avoids)) (m_avoids : mg "avoids" = some (.ref f_avoids)) (k_avoids : PySem.W.keepIn K (.ref f_avoids) = true) (b_avoids : Binds K fd_avoids ["word", "letter"] []) {f_is_even : Addr} {fd_is_even : FuncData} (G_is_even : FnOk P w K mg base CX0 2 f_is_even fd_is_even ["word", "letter"] (spOf K sp_is_even)) (m_is_even : mg "is_even" = some (.ref f_is_even)) (k_is_even : PySem.W.keepIn K (.ref f_is_even) = true) (b_is_even : Binds K fd_is_even ["word", "letter"] []) {f__law_spells : Addr} {fd__law_spells : FuncData} (G__law_spells : FnOk P w K mg base CX0 4 f__law_spells fd__law_spells ["items", "due"] (spOf K sp__law_spells)) (m__law_spells : mg "_law_spells" = some (.ref f__law_spells)) (k__law_spells : PySem.W.keepIn K (.ref f__law_spells) = true) (b__law_spells : Binds K fd__law_spells ["items", "due"] []) {f__law_spelled : Addr} {fd__law_spelled : FuncData} (G__law_spelled : FnOk P w K mg base CX0 1 f__law_spelled fd__law_spelled ["word"] (spOf K sp__law_spelled)) (m__law_spelled : mg "_law_spelled" = some (.ref f__law_spelled)) (k__law_spelled : PySem.W.keepIn K (.ref f__law_spelled) = true) (b__law_spelled : Binds K fd__law_spelled ["word"] []) {f_spell : Addr} {fd_spell : FuncData} (G_spell : GFn P w K mg base 1 f_spell fd_spell ["word"] (spGOf K sp_spell)) (m_spell : mg "spell" = some (.ref f_spell)) (k_spell : PySem.W.keepIn K (.ref f_spell) = true) (b_spell : Binds K fd_spell ["word"] []) (z_len : mg "len" = none) (z_max : mg "max" = none) (z_list : mg "list" = none) :
    FnOk P w K mg base CX0 5 f fd ["script"] (spOf K sp_law) :=
  Fun.okD F sc_law len_law fun cdv A outer s H E hr => have nd := sc_law.nd; ⟨_, r_law,
 (sss_cons (ss_set (i := 1) nd rfl (.inl rfl) (se_call G__law_pool (hr.mono (by decide)) (by rfl) m__law_pool k__law_pool b__law_pool (sa_cons (sv 0) (sa_cons se_int sa_nil))))
 (sss_cons (ss_set (i := 2) nd rfl (.inl rfl) (se_call G__law_alphabet (hr.mono (by decide)) (by rfl) m__law_alphabet k__law_alphabet b__law_alphabet (sa_cons (sv 1) (sa_cons se_int sa_nil))))
 (sss_cons (ss_set (i := 3) nd rfl (.inl rfl) (se_lst (sa_cons (se_tup (sa_cons se_str sa_nil)) (sa_cons (se_tup (sa_cons se_str sa_nil)) (sa_cons (se_tup (sa_cons se_str (sa_cons (se_op so_sub (se_call G__law_draw (hr.mono (by decide)) (by rfl) m__law_draw k__law_draw b__law_draw (sa_cons (sv 1) (sa_cons se_int sa_nil))) se_int) sa_nil))) sa_nil)))))
 (sss_cons (ss_set (i := 4) nd rfl (.inl rfl) (se_slice (sv 2) so_none (so_some (se_callB (sc_max rfl) (by rfl) z_max (by decide +kernel) (sa_cons se_int (sa_cons (se_op so_sub (se_callB sc_len (by rfl) z_len (by decide +kernel) (sa_cons (sv 2) sa_nil)) se_int) sa_nil))))))
 (sss_cons (ss_if (st_cmp (so_eq hr) (se_call G__law_draw (hr.mono (by decide)) (by rfl) m__law_draw k__law_draw b__law_draw (sa_cons (sv 1) (sa_cons se_int sa_nil))) se_int (nomark _))
 (sss_one (ss_set (i := 4) nd rfl (.inl rfl) (se_op so_add (sv 4) (sv 3))))
 sss_nil)
 (sss_cons (ss_set (i := 5) nd rfl (.inl rfl) (se_ix (se_lst (sa_cons se_int (sa_cons se_int (sa_cons se_int (sa_cons se_int sa_nil))))) (se_call G__law_draw (hr.mono (by decide)) (by rfl) m__law_draw k__law_draw b__law_draw (sa_cons (sv 1) (sa_cons se_int sa_nil))) (fun _ _ => rfl)))
 (sss_cons (ss_set (i := 6) nd rfl (.inl rfl) (se_op so_fdiv (se_call G__law_draw (hr.mono (by decide)) (by rfl) m__law_draw k__law_draw b__law_draw (sa_cons (sv 1) (sa_cons se_int sa_nil))) se_int))
 (sss_cons (ss_set (i := 7) nd rfl (.inl rfl) (se_call G__law_runs (hr.mono (by decide)) (by rfl) m__law_runs k__law_runs b__law_runs (sa_cons (se_call G__law_pool (hr.mono (by decide)) (by rfl) m__law_pool k__law_pool b__law_pool (sa_cons (sv 0) (sa_cons se_int sa_nil))) (sa_cons (sv 4) (sa_cons (se_op so_add se_int (se_op so_mul se_int (sv 6))) (sa_cons (sv 5) sa_nil))))))
 (sss_cons (ss_if (st_cmp (so_eq hr) (se_call G__law_draw (hr.mono (by decide)) (by rfl) m__law_draw k__law_draw b__law_draw (sa_cons (sv 1) (sa_cons se_int sa_nil))) se_int (nomark _))
 (sss_one (ss_set (i := 7) nd rfl (.inl rfl) (se_call G__law_evened (hr.mono (by decide)) (by rfl) m__law_evened k__law_evened b__law_evened (sa_cons (sv 7) (sa_cons (se_ix (sv 4) (se_call G__law_draw (hr.mono (by decide)) (by rfl) m__law_draw k__law_draw b__law_draw (sa_cons (sv 1) (sa_cons (se_callB sc_len (by rfl) z_len (by decide +kernel) (sa_cons (sv 4) sa_nil)) sa_nil))) (fun _ _ => rfl)) sa_nil)))))
 sss_nil)
 (sss_cons (ss_if (st_not (st_truth (se_call G__law_number_is (hr.mono (by decide)) (by rfl) m__law_number_is k__law_number_is b__law_number_is (sa_cons (se_call G_length (hr.mono (by decide)) (by rfl) m_length k_length b_length (sa_cons (sv 7) sa_nil)) (sa_cons (se_call G__law_size (hr.mono (by decide)) (by rfl) m__law_size k__law_size b__law_size (sa_cons (sv 7) sa_nil)) sa_nil)))))
 (sss_one (ss_ret se_bl))
 sss_nil)
 (sss_cons (ss_set (i := 8) nd rfl (.inl rfl) (se_call G_letters_of (hr.mono (by decide)) (by rfl) m_letters_of k_letters_of b_letters_of (sa_cons (sv 7) sa_nil)))
 (sss_cons (ss_if (st_not (st_truth (se_call G__law_letters_are (hr.mono (by decide)) (by rfl) m__law_letters_are k__law_letters_are b__law_letters_are (sa_cons (sv 8) (sa_cons (se_call G__law_in_order (hr.mono (by decide)) (by rfl) m__law_in_order k__law_in_order b__law_in_order (sa_cons (sv 7) sa_nil)) sa_nil)))))
 (sss_one (ss_ret se_bl))
 sss_nil)
 (sss_cons (ss_for PassesOwn.never rfl (si_iter (se_op so_add (sv 2) (sv 3))) (sg_name (i := 9) nd rfl (.inl rfl))
 (sss_cons (ss_set (i := 10) nd rfl (.inl rfl) (se_call G__law_sum (hr.mono (by decide)) (by rfl) m__law_sum k__law_sum b__law_sum (sa_cons (sv 7) (sa_cons (sv 9) sa_nil))))
 (sss_cons (ss_set (i := 11) nd rfl (.inl rfl) (se_call G__law_lacks (hr.mono (by decide)) (by rfl) m__law_lacks k__law_lacks b__law_lacks (sa_cons (sv 7) (sa_cons (sv 9) sa_nil))))
 (sss_cons (ss_if (st_not (st_truth (se_call G__law_number_is (hr.mono (by decide)) (by rfl) m__law_number_is k__law_number_is b__law_number_is (sa_cons (se_call G_exponent_sum (hr.mono (by decide)) (by rfl) m_exponent_sum k_exponent_sum b_exponent_sum (sa_cons (sv 7) (sa_cons (sv 9) sa_nil))) (sa_cons (sv 10) sa_nil)))))
 (sss_one (ss_ret se_bl))
 sss_nil)
 (sss_cons (ss_if (st_not (st_truth (se_call G__law_truth_is (hr.mono (by decide)) (by rfl) m__law_truth_is k__law_truth_is b__law_truth_is (sa_cons (se_call G_avoids (hr.mono (by decide)) (by rfl) m_avoids k_avoids b_avoids (sa_cons (sv 7) (sa_cons (sv 9) sa_nil))) (sa_cons (sv 11) sa_nil)))))
 (sss_one (ss_ret se_bl))
 sss_nil)
 (sss_one (ss_if (st_not (st_truth (se_call G__law_truth_is (hr.mono (by decide)) (by rfl) m__law_truth_is k__law_truth_is b__law_truth_is (sa_cons (se_call G_is_even (hr.mono (by decide)) (by rfl) m_is_even k_is_even b_is_even (sa_cons (sv 7) (sa_cons (sv 9) sa_nil))) (sa_cons (se_and (se_not (sv 11)) (se_one (se_cmp (so_eq hr) (sv 10) se_int (nomark _)))) sa_nil)))))
 (sss_one (ss_ret se_bl))
 sss_nil)))))))
 (sss_cons (ss_if (st_cmp so_le (se_call G__law_size (hr.mono (by decide)) (by rfl) m__law_size k__law_size b__law_size (sa_cons (sv 7) sa_nil)) se_int (nomark _))
 (sss_cons (ss_if (st_not (st_truth (se_call G__law_spells (hr.mono (by decide)) (by rfl) m__law_spells k__law_spells b__law_spells (sa_cons (se_listG G_spell (hr.mono (by decide)) (by rfl) m_spell k_spell b_spell (by rfl) z_list (sa_cons (sv 7) sa_nil)) (sa_cons (se_call G__law_spelled (hr.mono (by decide)) (by rfl) m__law_spelled k__law_spelled b__law_spelled (sa_cons (sv 7) sa_nil)) sa_nil)))))
 (sss_one (ss_ret se_bl))
 sss_nil)
 (sss_one (ss_if (st_not (st_truth (se_call G__law_spells (hr.mono (by decide)) (by rfl) m__law_spells k__law_spells b__law_spells (sa_cons (se_listG G_spell (hr.mono (by decide)) (by rfl) m_spell k_spell b_spell (by rfl) z_list (sa_cons (sv 7) sa_nil)) (sa_cons (se_call G__law_spelled (hr.mono (by decide)) (by rfl) m__law_spelled k__law_spelled b__law_spelled (sa_cons (sv 7) sa_nil)) sa_nil)))))
 (sss_one (ss_ret se_bl))
 sss_nil)))
 sss_nil)
 (sss_cons (ss_expr (se_reverse (sv 8)))
 (sss_cons (ss_expr (se_append (sv 8) (sa_cons (se_ix (sv 2) se_int (fun _ _ => rfl)) sa_nil)))
 (sss_one (ss_ret (se_and (se_call G__law_letters_are (hr.mono (by decide)) (by rfl) m__law_letters_are k__law_letters_are b__law_letters_are (sa_cons (se_call G_letters_of (hr.mono (by decide)) (by rfl) m_letters_of k_letters_of b_letters_of (sa_cons (sv 7) sa_nil)) (sa_cons (se_call G__law_in_order (hr.mono (by decide)) (by rfl) m__law_in_order k__law_in_order b__law_in_order (sa_cons (sv 7) sa_nil)) sa_nil))) (se_one (se_call G__law_number_is (hr.mono (by decide)) (by rfl) m__law_number_is k__law_number_is b__law_number_is (sa_cons (se_call G_length (hr.mono (by decide)) (by rfl) m_length k_length b_length (sa_cons (sv 7) sa_nil)) (sa_cons (se_call G__law_size (hr.mono (by decide)) (by rfl) m__law_size k__law_size b__law_size (sa_cons (sv 7) sa_nil)) sa_nil))))))))))))))))))))))), read_law⟩
end
theorem all_mk {l : PySem.W.OpenLaw} {w : World} {K : PySem.W.Frag} {h : Heap} {mg : Str → Option Value} {fa : Addr} (X : K.In h) (G : h.Ns mainGlobals mg) (hfa : mg "law" = some (.ref fa))
    {f_length : Addr} {od_length an_length : Option Addr} {sl_length : Array (Option Value)} {oc_length kV_length dc_length pm_length cd_length ct_length : Value}
    {f_letters_of : Addr} {od_letters_of an_letters_of : Option Addr} {sl_letters_of : Array (Option Value)} {oc_letters_of kV_letters_of dc_letters_of pm_letters_of cd_letters_of ct_letters_of : Value}
    {f_exponent_sum : Addr} {od_exponent_sum an_exponent_sum : Option Addr} {sl_exponent_sum : Array (Option Value)} {oc_exponent_sum kV_exponent_sum dc_exponent_sum pm_exponent_sum cd_exponent_sum ct_exponent_sum : Value}
    {f_avoids : Addr} {od_avoids an_avoids : Option Addr} {sl_avoids : Array (Option Value)} {oc_avoids kV_avoids dc_avoids pm_avoids cd_avoids ct_avoids : Value}
    {f_is_even : Addr} {od_is_even an_is_even : Option Addr} {sl_is_even : Array (Option Value)} {oc_is_even kV_is_even dc_is_even pm_is_even cd_is_even ct_is_even : Value}
    {f_spell : Addr} {od_spell an_spell : Option Addr} {sl_spell : Array (Option Value)} {oc_spell kV_spell dc_spell pm_spell cd_spell ct_spell : Value}
    {f__law_pool : Addr} {od__law_pool an__law_pool : Option Addr} {sl__law_pool : Array (Option Value)} {oc__law_pool kV__law_pool dc__law_pool pm__law_pool cd__law_pool ct__law_pool : Value}
    {f__law_draw : Addr} {od__law_draw an__law_draw : Option Addr} {sl__law_draw : Array (Option Value)} {oc__law_draw kV__law_draw dc__law_draw pm__law_draw cd__law_draw ct__law_draw : Value}
    {f__law_size : Addr} {od__law_size an__law_size : Option Addr} {sl__law_size : Array (Option Value)} {oc__law_size kV__law_size dc__law_size pm__law_size cd__law_size ct__law_size : Value}
    {f__law_sum : Addr} {od__law_sum an__law_sum : Option Addr} {sl__law_sum : Array (Option Value)} {oc__law_sum kV__law_sum dc__law_sum pm__law_sum cd__law_sum ct__law_sum : Value}
    {f__law_lacks : Addr} {od__law_lacks an__law_lacks : Option Addr} {sl__law_lacks : Array (Option Value)} {oc__law_lacks kV__law_lacks dc__law_lacks pm__law_lacks cd__law_lacks ct__law_lacks : Value}
    {f__law_spelled : Addr} {od__law_spelled an__law_spelled : Option Addr} {sl__law_spelled : Array (Option Value)} {oc__law_spelled kV__law_spelled dc__law_spelled pm__law_spelled cd__law_spelled ct__law_spelled : Value}
    {f__law_is_whole : Addr} {od__law_is_whole an__law_is_whole : Option Addr} {sl__law_is_whole : Array (Option Value)} {oc__law_is_whole kV__law_is_whole dc__law_is_whole pm__law_is_whole cd__law_is_whole ct__law_is_whole : Value}
    {f__law_is_letter : Addr} {od__law_is_letter an__law_is_letter : Option Addr} {sl__law_is_letter : Array (Option Value)} {oc__law_is_letter kV__law_is_letter dc__law_is_letter pm__law_is_letter cd__law_is_letter ct__law_is_letter : Value}
    {f__law_is_word : Addr} {od__law_is_word an__law_is_word : Option Addr} {sl__law_is_word : Array (Option Value)} {oc__law_is_word kV__law_is_word dc__law_is_word pm__law_is_word cd__law_is_word ct__law_is_word : Value}
    {f__law_alphabet : Addr} {od__law_alphabet an__law_alphabet : Option Addr} {sl__law_alphabet : Array (Option Value)} {oc__law_alphabet kV__law_alphabet dc__law_alphabet pm__law_alphabet cd__law_alphabet ct__law_alphabet : Value}
    {f__law_runs : Addr} {od__law_runs an__law_runs : Option Addr} {sl__law_runs : Array (Option Value)} {oc__law_runs kV__law_runs dc__law_runs pm__law_runs cd__law_runs ct__law_runs : Value}
    {f__law_evened : Addr} {od__law_evened an__law_evened : Option Addr} {sl__law_evened : Array (Option Value)} {oc__law_evened kV__law_evened dc__law_evened pm__law_evened cd__law_evened ct__law_evened : Value}
    {f__law_in_order : Addr} {od__law_in_order an__law_in_order : Option Addr} {sl__law_in_order : Array (Option Value)} {oc__law_in_order kV__law_in_order dc__law_in_order pm__law_in_order cd__law_in_order ct__law_in_order : Value}
    {f__law_letters_are : Addr} {od__law_letters_are an__law_letters_are : Option Addr} {sl__law_letters_are : Array (Option Value)} {oc__law_letters_are kV__law_letters_are dc__law_letters_are pm__law_letters_are cd__law_letters_are ct__law_letters_are : Value}
    {f__law_spells : Addr} {od__law_spells an__law_spells : Option Addr} {sl__law_spells : Array (Option Value)} {oc__law_spells kV__law_spells dc__law_spells pm__law_spells cd__law_spells ct__law_spells : Value}
    {f__law_number_is : Addr} {od__law_number_is an__law_number_is : Option Addr} {sl__law_number_is : Array (Option Value)} {oc__law_number_is kV__law_number_is dc__law_number_is pm__law_number_is cd__law_number_is ct__law_number_is : Value}
    {f__law_truth_is : Addr} {od__law_truth_is an__law_truth_is : Option Addr} {sl__law_truth_is : Array (Option Value)} {oc__law_truth_is kV__law_truth_is dc__law_truth_is pm__law_truth_is cd__law_truth_is ct__law_truth_is : Value}
    {f_law : Addr} {od_law an_law : Option Addr} {sl_law : Array (Option Value)} {oc_law kV_law dc_law pm_law cd_law ct_law : Value}
    (a_length : PySem.W.nsIn K mainGlobals "length" = some (some (.ref f_length))) (l_length : K.lookup f_length = some ⟨oc_length, od_length, .func (PySem.W.fnOf "length" "length" (defArgs s_length) (defBody s_length) (defScope s_length) .none kV_length dc_length pm_length an_length cd_length ct_length), sl_length⟩) (c_length : PySem.W.codeIn K cd_length "length" = true) (k_length : PySem.W.keepIn K (.ref f_length) = true)
    (a_letters_of : PySem.W.nsIn K mainGlobals "letters_of" = some (some (.ref f_letters_of))) (l_letters_of : K.lookup f_letters_of = some ⟨oc_letters_of, od_letters_of, .func (PySem.W.fnOf "letters_of" "letters_of" (defArgs s_letters_of) (defBody s_letters_of) (defScope s_letters_of) .none kV_letters_of dc_letters_of pm_letters_of an_letters_of cd_letters_of ct_letters_of), sl_letters_of⟩) (c_letters_of : PySem.W.codeIn K cd_letters_of "letters_of" = true) (k_letters_of : PySem.W.keepIn K (.ref f_letters_of) = true)
    (a_exponent_sum : PySem.W.nsIn K mainGlobals "exponent_sum" = some (some (.ref f_exponent_sum))) (l_exponent_sum : K.lookup f_exponent_sum = some ⟨oc_exponent_sum, od_exponent_sum, .func (PySem.W.fnOf "exponent_sum" "exponent_sum" (defArgs s_exponent_sum) (defBody s_exponent_sum) (defScope s_exponent_sum) .none kV_exponent_sum dc_exponent_sum pm_exponent_sum an_exponent_sum cd_exponent_sum ct_exponent_sum), sl_exponent_sum⟩) (c_exponent_sum : PySem.W.codeIn K cd_exponent_sum "exponent_sum" = true) (k_exponent_sum : PySem.W.keepIn K (.ref f_exponent_sum) = true)
    (a_avoids : PySem.W.nsIn K mainGlobals "avoids" = some (some (.ref f_avoids))) (l_avoids : K.lookup f_avoids = some ⟨oc_avoids, od_avoids, .func (PySem.W.fnOf "avoids" "avoids" (defArgs s_avoids) (defBody s_avoids) (defScope s_avoids) .none kV_avoids dc_avoids pm_avoids an_avoids cd_avoids ct_avoids), sl_avoids⟩) (c_avoids : PySem.W.codeIn K cd_avoids "avoids" = true) (k_avoids : PySem.W.keepIn K (.ref f_avoids) = true)
    (a_is_even : PySem.W.nsIn K mainGlobals "is_even" = some (some (.ref f_is_even))) (l_is_even : K.lookup f_is_even = some ⟨oc_is_even, od_is_even, .func (PySem.W.fnOf "is_even" "is_even" (defArgs s_is_even) (defBody s_is_even) (defScope s_is_even) .none kV_is_even dc_is_even pm_is_even an_is_even cd_is_even ct_is_even), sl_is_even⟩) (c_is_even : PySem.W.codeIn K cd_is_even "is_even" = true) (k_is_even : PySem.W.keepIn K (.ref f_is_even) = true)
    (a_spell : PySem.W.nsIn K mainGlobals "spell" = some (some (.ref f_spell))) (l_spell : K.lookup f_spell = some ⟨oc_spell, od_spell, .func (PySem.W.fnOf "spell" "spell" (defArgs s_spell) (defBody s_spell) (defScope s_spell) .none kV_spell dc_spell pm_spell an_spell cd_spell ct_spell), sl_spell⟩) (c_spell : PySem.W.codeIn K cd_spell "spell" = true) (k_spell : PySem.W.keepIn K (.ref f_spell) = true)
    (a__law_pool : PySem.W.nsIn K mainGlobals "_law_pool" = some (some (.ref f__law_pool))) (l__law_pool : K.lookup f__law_pool = some ⟨oc__law_pool, od__law_pool, .func (PySem.W.fnOf "_law_pool" "_law_pool" (defArgs s__law_pool) (defBody s__law_pool) (defScope s__law_pool) .none kV__law_pool dc__law_pool pm__law_pool an__law_pool cd__law_pool ct__law_pool), sl__law_pool⟩) (c__law_pool : PySem.W.codeIn K cd__law_pool "_law_pool" = true) (k__law_pool : PySem.W.keepIn K (.ref f__law_pool) = true)
    (a__law_draw : PySem.W.nsIn K mainGlobals "_law_draw" = some (some (.ref f__law_draw))) (l__law_draw : K.lookup f__law_draw = some ⟨oc__law_draw, od__law_draw, .func (PySem.W.fnOf "_law_draw" "_law_draw" (defArgs s__law_draw) (defBody s__law_draw) (defScope s__law_draw) .none kV__law_draw dc__law_draw pm__law_draw an__law_draw cd__law_draw ct__law_draw), sl__law_draw⟩) (c__law_draw : PySem.W.codeIn K cd__law_draw "_law_draw" = true) (k__law_draw : PySem.W.keepIn K (.ref f__law_draw) = true)
    (a__law_size : PySem.W.nsIn K mainGlobals "_law_size" = some (some (.ref f__law_size))) (l__law_size : K.lookup f__law_size = some ⟨oc__law_size, od__law_size, .func (PySem.W.fnOf "_law_size" "_law_size" (defArgs s__law_size) (defBody s__law_size) (defScope s__law_size) .none kV__law_size dc__law_size pm__law_size an__law_size cd__law_size ct__law_size), sl__law_size⟩) (c__law_size : PySem.W.codeIn K cd__law_size "_law_size" = true) (k__law_size : PySem.W.keepIn K (.ref f__law_size) = true)
    (a__law_sum : PySem.W.nsIn K mainGlobals "_law_sum" = some (some (.ref f__law_sum))) (l__law_sum : K.lookup f__law_sum = some ⟨oc__law_sum, od__law_sum, .func (PySem.W.fnOf "_law_sum" "_law_sum" (defArgs s__law_sum) (defBody s__law_sum) (defScope s__law_sum) .none kV__law_sum dc__law_sum pm__law_sum an__law_sum cd__law_sum ct__law_sum), sl__law_sum⟩) (c__law_sum : PySem.W.codeIn K cd__law_sum "_law_sum" = true) (k__law_sum : PySem.W.keepIn K (.ref f__law_sum) = true)
    (a__law_lacks : PySem.W.nsIn K mainGlobals "_law_lacks" = some (some (.ref f__law_lacks))) (l__law_lacks : K.lookup f__law_lacks = some ⟨oc__law_lacks, od__law_lacks, .func (PySem.W.fnOf "_law_lacks" "_law_lacks" (defArgs s__law_lacks) (defBody s__law_lacks) (defScope s__law_lacks) .none kV__law_lacks dc__law_lacks pm__law_lacks an__law_lacks cd__law_lacks ct__law_lacks), sl__law_lacks⟩) (c__law_lacks : PySem.W.codeIn K cd__law_lacks "_law_lacks" = true) (k__law_lacks : PySem.W.keepIn K (.ref f__law_lacks) = true)
    (a__law_spelled : PySem.W.nsIn K mainGlobals "_law_spelled" = some (some (.ref f__law_spelled))) (l__law_spelled : K.lookup f__law_spelled = some ⟨oc__law_spelled, od__law_spelled, .func (PySem.W.fnOf "_law_spelled" "_law_spelled" (defArgs s__law_spelled) (defBody s__law_spelled) (defScope s__law_spelled) .none kV__law_spelled dc__law_spelled pm__law_spelled an__law_spelled cd__law_spelled ct__law_spelled), sl__law_spelled⟩) (c__law_spelled : PySem.W.codeIn K cd__law_spelled "_law_spelled" = true) (k__law_spelled : PySem.W.keepIn K (.ref f__law_spelled) = true)
    (a__law_is_whole : PySem.W.nsIn K mainGlobals "_law_is_whole" = some (some (.ref f__law_is_whole))) (l__law_is_whole : K.lookup f__law_is_whole = some ⟨oc__law_is_whole, od__law_is_whole, .func (PySem.W.fnOf "_law_is_whole" "_law_is_whole" (defArgs s__law_is_whole) (defBody s__law_is_whole) (defScope s__law_is_whole) .none kV__law_is_whole dc__law_is_whole pm__law_is_whole an__law_is_whole cd__law_is_whole ct__law_is_whole), sl__law_is_whole⟩) (c__law_is_whole : PySem.W.codeIn K cd__law_is_whole "_law_is_whole" = true) (k__law_is_whole : PySem.W.keepIn K (.ref f__law_is_whole) = true)
    (a__law_is_letter : PySem.W.nsIn K mainGlobals "_law_is_letter" = some (some (.ref f__law_is_letter))) (l__law_is_letter : K.lookup f__law_is_letter = some ⟨oc__law_is_letter, od__law_is_letter, .func (PySem.W.fnOf "_law_is_letter" "_law_is_letter" (defArgs s__law_is_letter) (defBody s__law_is_letter) (defScope s__law_is_letter) .none kV__law_is_letter dc__law_is_letter pm__law_is_letter an__law_is_letter cd__law_is_letter ct__law_is_letter), sl__law_is_letter⟩) (c__law_is_letter : PySem.W.codeIn K cd__law_is_letter "_law_is_letter" = true) (k__law_is_letter : PySem.W.keepIn K (.ref f__law_is_letter) = true)
    (a__law_is_word : PySem.W.nsIn K mainGlobals "_law_is_word" = some (some (.ref f__law_is_word))) (l__law_is_word : K.lookup f__law_is_word = some ⟨oc__law_is_word, od__law_is_word, .func (PySem.W.fnOf "_law_is_word" "_law_is_word" (defArgs s__law_is_word) (defBody s__law_is_word) (defScope s__law_is_word) .none kV__law_is_word dc__law_is_word pm__law_is_word an__law_is_word cd__law_is_word ct__law_is_word), sl__law_is_word⟩) (c__law_is_word : PySem.W.codeIn K cd__law_is_word "_law_is_word" = true) (k__law_is_word : PySem.W.keepIn K (.ref f__law_is_word) = true)
    (a__law_alphabet : PySem.W.nsIn K mainGlobals "_law_alphabet" = some (some (.ref f__law_alphabet))) (l__law_alphabet : K.lookup f__law_alphabet = some ⟨oc__law_alphabet, od__law_alphabet, .func (PySem.W.fnOf "_law_alphabet" "_law_alphabet" (defArgs s__law_alphabet) (defBody s__law_alphabet) (defScope s__law_alphabet) .none kV__law_alphabet dc__law_alphabet pm__law_alphabet an__law_alphabet cd__law_alphabet ct__law_alphabet), sl__law_alphabet⟩) (c__law_alphabet : PySem.W.codeIn K cd__law_alphabet "_law_alphabet" = true) (k__law_alphabet : PySem.W.keepIn K (.ref f__law_alphabet) = true)
    (a__law_runs : PySem.W.nsIn K mainGlobals "_law_runs" = some (some (.ref f__law_runs))) (l__law_runs : K.lookup f__law_runs = some ⟨oc__law_runs, od__law_runs, .func (PySem.W.fnOf "_law_runs" "_law_runs" (defArgs s__law_runs) (defBody s__law_runs) (defScope s__law_runs) .none kV__law_runs dc__law_runs pm__law_runs an__law_runs cd__law_runs ct__law_runs), sl__law_runs⟩) (c__law_runs : PySem.W.codeIn K cd__law_runs "_law_runs" = true) (k__law_runs : PySem.W.keepIn K (.ref f__law_runs) = true)
    (a__law_evened : PySem.W.nsIn K mainGlobals "_law_evened" = some (some (.ref f__law_evened))) (l__law_evened : K.lookup f__law_evened = some ⟨oc__law_evened, od__law_evened, .func (PySem.W.fnOf "_law_evened" "_law_evened" (defArgs s__law_evened) (defBody s__law_evened) (defScope s__law_evened) .none kV__law_evened dc__law_evened pm__law_evened an__law_evened cd__law_evened ct__law_evened), sl__law_evened⟩) (c__law_evened : PySem.W.codeIn K cd__law_evened "_law_evened" = true) (k__law_evened : PySem.W.keepIn K (.ref f__law_evened) = true)
    (a__law_in_order : PySem.W.nsIn K mainGlobals "_law_in_order" = some (some (.ref f__law_in_order))) (l__law_in_order : K.lookup f__law_in_order = some ⟨oc__law_in_order, od__law_in_order, .func (PySem.W.fnOf "_law_in_order" "_law_in_order" (defArgs s__law_in_order) (defBody s__law_in_order) (defScope s__law_in_order) .none kV__law_in_order dc__law_in_order pm__law_in_order an__law_in_order cd__law_in_order ct__law_in_order), sl__law_in_order⟩) (c__law_in_order : PySem.W.codeIn K cd__law_in_order "_law_in_order" = true) (k__law_in_order : PySem.W.keepIn K (.ref f__law_in_order) = true)
    (a__law_letters_are : PySem.W.nsIn K mainGlobals "_law_letters_are" = some (some (.ref f__law_letters_are))) (l__law_letters_are : K.lookup f__law_letters_are = some ⟨oc__law_letters_are, od__law_letters_are, .func (PySem.W.fnOf "_law_letters_are" "_law_letters_are" (defArgs s__law_letters_are) (defBody s__law_letters_are) (defScope s__law_letters_are) .none kV__law_letters_are dc__law_letters_are pm__law_letters_are an__law_letters_are cd__law_letters_are ct__law_letters_are), sl__law_letters_are⟩) (c__law_letters_are : PySem.W.codeIn K cd__law_letters_are "_law_letters_are" = true) (k__law_letters_are : PySem.W.keepIn K (.ref f__law_letters_are) = true)
    (a__law_spells : PySem.W.nsIn K mainGlobals "_law_spells" = some (some (.ref f__law_spells))) (l__law_spells : K.lookup f__law_spells = some ⟨oc__law_spells, od__law_spells, .func (PySem.W.fnOf "_law_spells" "_law_spells" (defArgs s__law_spells) (defBody s__law_spells) (defScope s__law_spells) .none kV__law_spells dc__law_spells pm__law_spells an__law_spells cd__law_spells ct__law_spells), sl__law_spells⟩) (c__law_spells : PySem.W.codeIn K cd__law_spells "_law_spells" = true) (k__law_spells : PySem.W.keepIn K (.ref f__law_spells) = true)
    (a__law_number_is : PySem.W.nsIn K mainGlobals "_law_number_is" = some (some (.ref f__law_number_is))) (l__law_number_is : K.lookup f__law_number_is = some ⟨oc__law_number_is, od__law_number_is, .func (PySem.W.fnOf "_law_number_is" "_law_number_is" (defArgs s__law_number_is) (defBody s__law_number_is) (defScope s__law_number_is) .none kV__law_number_is dc__law_number_is pm__law_number_is an__law_number_is cd__law_number_is ct__law_number_is), sl__law_number_is⟩) (c__law_number_is : PySem.W.codeIn K cd__law_number_is "_law_number_is" = true) (k__law_number_is : PySem.W.keepIn K (.ref f__law_number_is) = true)
    (a__law_truth_is : PySem.W.nsIn K mainGlobals "_law_truth_is" = some (some (.ref f__law_truth_is))) (l__law_truth_is : K.lookup f__law_truth_is = some ⟨oc__law_truth_is, od__law_truth_is, .func (PySem.W.fnOf "_law_truth_is" "_law_truth_is" (defArgs s__law_truth_is) (defBody s__law_truth_is) (defScope s__law_truth_is) .none kV__law_truth_is dc__law_truth_is pm__law_truth_is an__law_truth_is cd__law_truth_is ct__law_truth_is), sl__law_truth_is⟩) (c__law_truth_is : PySem.W.codeIn K cd__law_truth_is "_law_truth_is" = true) (k__law_truth_is : PySem.W.keepIn K (.ref f__law_truth_is) = true)
    (a_law : PySem.W.nsIn K mainGlobals "law" = some (some (.ref f_law))) (l_law : K.lookup f_law = some ⟨oc_law, od_law, .func (PySem.W.fnOf "law" "law" (defArgs s_law) (defBody s_law) (defScope s_law) .none kV_law dc_law pm_law an_law cd_law ct_law), sl_law⟩) (c_law : PySem.W.codeIn K cd_law "law" = true) (k_law : PySem.W.keepIn K (.ref f_law) = true)
    (y_abs : PySem.W.nsIn K mainGlobals "abs" = some none)
    (y_sum : PySem.W.nsIn K mainGlobals "sum" = some none)
    (y_sorted : PySem.W.nsIn K mainGlobals "sorted" = some none)
    (y_all : PySem.W.nsIn K mainGlobals "all" = some none)
    (y_range : PySem.W.nsIn K mainGlobals "range" = some none)
    (y_len : PySem.W.nsIn K mainGlobals "len" = some none)
    (y_int : PySem.W.nsIn K mainGlobals "int" = some none)
    (y_min : PySem.W.nsIn K mainGlobals "min" = some none)
    (y_isinstance : PySem.W.nsIn K mainGlobals "isinstance" = some none)
    (y_bool : PySem.W.nsIn K mainGlobals "bool" = some none)
    (y_tuple : PySem.W.nsIn K mainGlobals "tuple" = some none)
    (y_str : PySem.W.nsIn K mainGlobals "str" = some none)
    (y_list : PySem.W.nsIn K mainGlobals "list" = some none)
    (y_max : PySem.W.nsIn K mainGlobals "max" = some none) :
    ∃ fd : FuncData, (∀ (s : Shared) (v : Value), BindsTo s fd ⟨[v], []⟩ [("script", v)]) ∧ ∀ base : Heap, K.In base → base.Ns mainGlobals mg → FnOk l.prog w K mg base CX0 5 fa fd ["script"] (spOf K sp_law) := by
  have e := hfa.symm.trans (PySem.W.mg_of X G a_law)
  cases e
  have F_length := fun_mk (st := s_length) l_length c_length k_length
  have b_length := F_length.binds (ps := ["word"]) fun _ _ _ _ _ _ us hl => match us, hl with | [_], _ => rfl
  have m_length := PySem.W.mg_of X G a_length
  have F_letters_of := fun_mk (st := s_letters_of) l_letters_of c_letters_of k_letters_of
  have b_letters_of := F_letters_of.binds (ps := ["word"]) fun _ _ _ _ _ _ us hl => match us, hl with | [_], _ => rfl
  have m_letters_of := PySem.W.mg_of X G a_letters_of
  have F_exponent_sum := fun_mk (st := s_exponent_sum) l_exponent_sum c_exponent_sum k_exponent_sum
  have b_exponent_sum := F_exponent_sum.binds (ps := ["word", "letter"]) fun _ _ _ _ _ _ us hl => match us, hl with | [_, _], _ => rfl
  have m_exponent_sum := PySem.W.mg_of X G a_exponent_sum
  have F_avoids := fun_mk (st := s_avoids) l_avoids c_avoids k_avoids
  have b_avoids := F_avoids.binds (ps := ["word", "letter"]) fun _ _ _ _ _ _ us hl => match us, hl with | [_, _], _ => rfl
  have m_avoids := PySem.W.mg_of X G a_avoids
  have F_is_even := fun_mk (st := s_is_even) l_is_even c_is_even k_is_even
  have b_is_even := F_is_even.binds (ps := ["word", "letter"]) fun _ _ _ _ _ _ us hl => match us, hl with | [_, _], _ => rfl
  have m_is_even := PySem.W.mg_of X G a_is_even
  have F_spell := fun_mk (st := s_spell) l_spell c_spell k_spell
  have b_spell := F_spell.binds (ps := ["word"]) fun _ _ _ _ _ _ us hl => match us, hl with | [_], _ => rfl
  have m_spell := PySem.W.mg_of X G a_spell
  have F__law_pool := fun_mk (st := s__law_pool) l__law_pool c__law_pool k__law_pool
  have b__law_pool := F__law_pool.binds (ps := ["script", "place"]) fun _ _ _ _ _ _ us hl => match us, hl with | [_, _], _ => rfl
  have m__law_pool := PySem.W.mg_of X G a__law_pool
  have F__law_draw := fun_mk (st := s__law_draw) l__law_draw c__law_draw k__law_draw
  have b__law_draw := F__law_draw.binds (ps := ["pool", "many"]) fun _ _ _ _ _ _ us hl => match us, hl with | [_, _], _ => rfl
  have m__law_draw := PySem.W.mg_of X G a__law_draw
  have F__law_size := fun_mk (st := s__law_size) l__law_size c__law_size k__law_size
  have b__law_size := F__law_size.binds (ps := ["word"]) fun _ _ _ _ _ _ us hl => match us, hl with | [_], _ => rfl
  have m__law_size := PySem.W.mg_of X G a__law_size
  have F__law_sum := fun_mk (st := s__law_sum) l__law_sum c__law_sum k__law_sum
  have b__law_sum := F__law_sum.binds (ps := ["word", "one"]) fun _ _ _ _ _ _ us hl => match us, hl with | [_, _], _ => rfl
  have m__law_sum := PySem.W.mg_of X G a__law_sum
  have F__law_lacks := fun_mk (st := s__law_lacks) l__law_lacks c__law_lacks k__law_lacks
  have b__law_lacks := F__law_lacks.binds (ps := ["word", "one"]) fun _ _ _ _ _ _ us hl => match us, hl with | [_, _], _ => rfl
  have m__law_lacks := PySem.W.mg_of X G a__law_lacks
  have F__law_spelled := fun_mk (st := s__law_spelled) l__law_spelled c__law_spelled k__law_spelled
  have b__law_spelled := F__law_spelled.binds (ps := ["word"]) fun _ _ _ _ _ _ us hl => match us, hl with | [_], _ => rfl
  have m__law_spelled := PySem.W.mg_of X G a__law_spelled
  have F__law_is_whole := fun_mk (st := s__law_is_whole) l__law_is_whole c__law_is_whole k__law_is_whole
  have b__law_is_whole := F__law_is_whole.binds (ps := ["value"]) fun _ _ _ _ _ _ us hl => match us, hl with | [_], _ => rfl
  have m__law_is_whole := PySem.W.mg_of X G a__law_is_whole
  have F__law_is_letter := fun_mk (st := s__law_is_letter) l__law_is_letter c__law_is_letter k__law_is_letter
  have b__law_is_letter := F__law_is_letter.binds (ps := ["value"]) fun _ _ _ _ _ _ us hl => match us, hl with | [_], _ => rfl
  have m__law_is_letter := PySem.W.mg_of X G a__law_is_letter
  have F__law_is_word := fun_mk (st := s__law_is_word) l__law_is_word c__law_is_word k__law_is_word
  have b__law_is_word := F__law_is_word.binds (ps := ["value"]) fun _ _ _ _ _ _ us hl => match us, hl with | [_], _ => rfl
  have m__law_is_word := PySem.W.mg_of X G a__law_is_word
  have F__law_alphabet := fun_mk (st := s__law_alphabet) l__law_alphabet c__law_alphabet k__law_alphabet
  have b__law_alphabet := F__law_alphabet.binds (ps := ["pool", "most"]) fun _ _ _ _ _ _ us hl => match us, hl with | [_, _], _ => rfl
  have m__law_alphabet := PySem.W.mg_of X G a__law_alphabet
  have F__law_runs := fun_mk (st := s__law_runs) l__law_runs c__law_runs k__law_runs
  have b__law_runs := F__law_runs.binds (ps := ["pool", "alphabet", "most", "kind"]) fun _ _ _ _ _ _ us hl => match us, hl with | [_, _, _, _], _ => rfl
  have m__law_runs := PySem.W.mg_of X G a__law_runs
  have F__law_evened := fun_mk (st := s__law_evened) l__law_evened c__law_evened k__law_evened
  have b__law_evened := F__law_evened.binds (ps := ["word", "one"]) fun _ _ _ _ _ _ us hl => match us, hl with | [_, _], _ => rfl
  have m__law_evened := PySem.W.mg_of X G a__law_evened
  have F__law_in_order := fun_mk (st := s__law_in_order) l__law_in_order c__law_in_order k__law_in_order
  have b__law_in_order := F__law_in_order.binds (ps := ["word"]) fun _ _ _ _ _ _ us hl => match us, hl with | [_], _ => rfl
  have m__law_in_order := PySem.W.mg_of X G a__law_in_order
  have F__law_letters_are := fun_mk (st := s__law_letters_are) l__law_letters_are c__law_letters_are k__law_letters_are
  have b__law_letters_are := F__law_letters_are.binds (ps := ["actual", "due"]) fun _ _ _ _ _ _ us hl => match us, hl with | [_, _], _ => rfl
  have m__law_letters_are := PySem.W.mg_of X G a__law_letters_are
  have F__law_spells := fun_mk (st := s__law_spells) l__law_spells c__law_spells k__law_spells
  have b__law_spells := F__law_spells.binds (ps := ["items", "due"]) fun _ _ _ _ _ _ us hl => match us, hl with | [_, _], _ => rfl
  have m__law_spells := PySem.W.mg_of X G a__law_spells
  have F__law_number_is := fun_mk (st := s__law_number_is) l__law_number_is c__law_number_is k__law_number_is
  have b__law_number_is := F__law_number_is.binds (ps := ["actual", "due"]) fun _ _ _ _ _ _ us hl => match us, hl with | [_, _], _ => rfl
  have m__law_number_is := PySem.W.mg_of X G a__law_number_is
  have F__law_truth_is := fun_mk (st := s__law_truth_is) l__law_truth_is c__law_truth_is k__law_truth_is
  have b__law_truth_is := F__law_truth_is.binds (ps := ["actual", "due"]) fun _ _ _ _ _ _ us hl => match us, hl with | [_, _], _ => rfl
  have m__law_truth_is := PySem.W.mg_of X G a__law_truth_is
  have F_law := fun_mk (st := s_law) l_law c_law k_law
  have z_abs := PySem.W.mg_none_of X G y_abs
  have z_sum := PySem.W.mg_none_of X G y_sum
  have z_sorted := PySem.W.mg_none_of X G y_sorted
  have z_all := PySem.W.mg_none_of X G y_all
  have z_range := PySem.W.mg_none_of X G y_range
  have z_len := PySem.W.mg_none_of X G y_len
  have z_int := PySem.W.mg_none_of X G y_int
  have z_min := PySem.W.mg_none_of X G y_min
  have z_isinstance := PySem.W.mg_none_of X G y_isinstance
  have z_bool := PySem.W.mg_none_of X G y_bool
  have z_tuple := PySem.W.mg_none_of X G y_tuple
  have z_str := PySem.W.mg_none_of X G y_str
  have z_list := PySem.W.mg_none_of X G y_list
  have z_max := PySem.W.mg_none_of X G y_max
  refine ⟨PySem.W.fnOf "law" "law" (defArgs s_law) (defBody s_law) (defScope s_law) .none kV_law dc_law pm_law an_law cd_law ct_law, fun s v => .of_eq rfl, fun base _ _ => ?_⟩
  have G_length := ok_length (P := l.prog) (w := w) (mg := mg) (base := base) F_length z_abs z_sum
  have G_letters_of := ok_letters_of (P := l.prog) (w := w) (mg := mg) (base := base) F_letters_of z_sorted
  have G_exponent_sum := ok_exponent_sum (P := l.prog) (w := w) (mg := mg) (base := base) F_exponent_sum z_sum
  have G_avoids := ok_avoids (P := l.prog) (w := w) (mg := mg) (base := base) F_avoids z_all
  have G_spell := ok_spell (P := l.prog) (w := w) (mg := mg) (base := base) F_spell z_abs z_range
  have G__law_pool := ok__law_pool (P := l.prog) (w := w) (mg := mg) (base := base) F__law_pool z_len z_int z_abs
  have G__law_draw := ok__law_draw (P := l.prog) (w := w) (mg := mg) (base := base) F__law_draw z_int
  have G__law_size := ok__law_size (P := l.prog) (w := w) (mg := mg) (base := base) F__law_size z_abs z_sum
  have G__law_sum := ok__law_sum (P := l.prog) (w := w) (mg := mg) (base := base) F__law_sum z_sum
  have G__law_lacks := ok__law_lacks (P := l.prog) (w := w) (mg := mg) (base := base) F__law_lacks z_len
  have G__law_spelled := ok__law_spelled (P := l.prog) (w := w) (mg := mg) (base := base) F__law_spelled z_abs z_min z_range
  have G__law_is_whole := ok__law_is_whole (P := l.prog) (w := w) (mg := mg) (base := base) F__law_is_whole z_int z_isinstance z_bool
  have G__law_in_order := ok__law_in_order (P := l.prog) (w := w) (mg := mg) (base := base) F__law_in_order z_len
  have G__law_truth_is := ok__law_truth_is (P := l.prog) (w := w) (mg := mg) (base := base) F__law_truth_is z_bool z_isinstance
  have G_is_even := ok_is_even (P := l.prog) (w := w) (mg := mg) (base := base) F_is_even G_avoids m_avoids k_avoids b_avoids G_exponent_sum m_exponent_sum k_exponent_sum b_exponent_sum
  have G__law_is_letter := ok__law_is_letter (P := l.prog) (w := w) (mg := mg) (base := base) F__law_is_letter G__law_is_whole m__law_is_whole k__law_is_whole b__law_is_whole z_tuple z_isinstance z_len z_str
  have G__law_alphabet := ok__law_alphabet (P := l.prog) (w := w) (mg := mg) (base := base) F__law_alphabet G__law_draw m__law_draw k__law_draw b__law_draw z_range z_len z_list z_tuple
  have G__law_runs := ok__law_runs (P := l.prog) (w := w) (mg := mg) (base := base) F__law_runs G__law_draw m__law_draw k__law_draw b__law_draw z_range z_len z_tuple
  have G__law_evened := ok__law_evened (P := l.prog) (w := w) (mg := mg) (base := base) F__law_evened G__law_sum m__law_sum k__law_sum b__law_sum z_len z_abs
  have G__law_number_is := ok__law_number_is (P := l.prog) (w := w) (mg := mg) (base := base) F__law_number_is G__law_is_whole m__law_is_whole k__law_is_whole b__law_is_whole
  have G__law_is_word := ok__law_is_word (P := l.prog) (w := w) (mg := mg) (base := base) F__law_is_word G__law_is_letter m__law_is_letter k__law_is_letter b__law_is_letter G__law_is_whole m__law_is_whole k__law_is_whole b__law_is_whole z_tuple z_isinstance z_len
  have G__law_letters_are := ok__law_letters_are (P := l.prog) (w := w) (mg := mg) (base := base) F__law_letters_are G__law_is_letter m__law_is_letter k__law_is_letter b__law_is_letter z_list z_isinstance z_len z_range
  have G__law_spells := ok__law_spells (P := l.prog) (w := w) (mg := mg) (base := base) F__law_spells G__law_is_word m__law_is_word k__law_is_word b__law_is_word z_len z_range
  exact ok_law F_law G__law_pool m__law_pool k__law_pool b__law_pool G__law_alphabet m__law_alphabet k__law_alphabet b__law_alphabet G__law_draw m__law_draw k__law_draw b__law_draw G__law_runs m__law_runs k__law_runs b__law_runs G__law_evened m__law_evened k__law_evened b__law_evened G__law_number_is m__law_number_is k__law_number_is b__law_number_is G__law_size m__law_size k__law_size b__law_size G_length m_length k_length b_length G_letters_of m_letters_of k_letters_of b_letters_of G__law_letters_are m__law_letters_are k__law_letters_are b__law_letters_are G__law_in_order m__law_in_order k__law_in_order b__law_in_order G__law_sum m__law_sum k__law_sum b__law_sum G__law_lacks m__law_lacks k__law_lacks b__law_lacks G_exponent_sum m_exponent_sum k_exponent_sum b_exponent_sum G__law_truth_is m__law_truth_is k__law_truth_is b__law_truth_is G_avoids m_avoids k_avoids b_avoids G_is_even m_is_even k_is_even b_is_even G__law_spells m__law_spells k__law_spells b__law_spells G__law_spelled m__law_spelled k__law_spelled b__law_spelled G_spell m_spell k_spell b_spell z_len z_max z_list
end K02
open PySem PySem.W PyProof.Rows
set_option maxHeartbeats 0 in
theorem PySem.Challenge.cw_onelaw_k02_measures_of_words_holds : PySem.Challenge.rw_onelaw_k02_measures_of_words.Holds := by
  w_on; o_law; k_head; (case hw => w_witness2)
  k_fill
  refine L2.walk_ofK (l := PySem.Challenge.rw_onelaw_k02_measures_of_words) (n := 63) (k := 5) (x := "script") (CX := L2.CX0) (sp := fun K => DL.spOf K K02.sp_law) rfl (by decide) rfl ⟨rfl, by decide, by decide⟩ (fun w h Y => PySem.W.kIn_of Y) ?F (fun K H a ns hl hO hS => DL.sp_law hl hO hS) (fun _ _ _ _ h => h)
  case F =>
    intro w mg fa h KX G hmg
    refine' K02.all_mk KX G hmg ?a_length ?l_length ?c_length ?k_length ?a_letters_of ?l_letters_of ?c_letters_of ?k_letters_of ?a_exponent_sum ?l_exponent_sum ?c_exponent_sum ?k_exponent_sum ?a_avoids ?l_avoids ?c_avoids ?k_avoids ?a_is_even ?l_is_even ?c_is_even ?k_is_even ?a_spell ?l_spell ?c_spell ?k_spell ?a__law_pool ?l__law_pool ?c__law_pool ?k__law_pool ?a__law_draw ?l__law_draw ?c__law_draw ?k__law_draw ?a__law_size ?l__law_size ?c__law_size ?k__law_size ?a__law_sum ?l__law_sum ?c__law_sum ?k__law_sum ?a__law_lacks ?l__law_lacks ?c__law_lacks ?k__law_lacks ?a__law_spelled ?l__law_spelled ?c__law_spelled ?k__law_spelled ?a__law_is_whole ?l__law_is_whole ?c__law_is_whole ?k__law_is_whole ?a__law_is_letter ?l__law_is_letter ?c__law_is_letter ?k__law_is_letter ?a__law_is_word ?l__law_is_word ?c__law_is_word ?k__law_is_word ?a__law_alphabet ?l__law_alphabet ?c__law_alphabet ?k__law_alphabet ?a__law_runs ?l__law_runs ?c__law_runs ?k__law_runs ?a__law_evened ?l__law_evened ?c__law_evened ?k__law_evened ?a__law_in_order ?l__law_in_order ?c__law_in_order ?k__law_in_order ?a__law_letters_are ?l__law_letters_are ?c__law_letters_are ?k__law_letters_are ?a__law_spells ?l__law_spells ?c__law_spells ?k__law_spells ?a__law_number_is ?l__law_number_is ?c__law_number_is ?k__law_number_is ?a__law_truth_is ?l__law_truth_is ?c__law_truth_is ?k__law_truth_is ?a_law ?l_law ?c_law ?k_law ?y_abs ?y_sum ?y_sorted ?y_all ?y_range ?y_len ?y_int ?y_min ?y_isinstance ?y_bool ?y_tuple ?y_str ?y_list ?y_max
    (case a_length => k_is); (case l_length => k_is); (case c_length => k_is); (case k_length => k_is); (case a_letters_of => k_is); (case l_letters_of => k_is); (case c_letters_of => k_is); (case k_letters_of => k_is); (case a_exponent_sum => k_is); (case l_exponent_sum => k_is); (case c_exponent_sum => k_is); (case k_exponent_sum => k_is); (case a_avoids => k_is); (case l_avoids => k_is); (case c_avoids => k_is); (case k_avoids => k_is); (case a_is_even => k_is); (case l_is_even => k_is); (case c_is_even => k_is); (case k_is_even => k_is); (case a_spell => k_is); (case l_spell => k_is); (case c_spell => k_is); (case k_spell => k_is); (case a__law_pool => k_is); (case l__law_pool => k_is); (case c__law_pool => k_is); (case k__law_pool => k_is); (case a__law_draw => k_is); (case l__law_draw => k_is); (case c__law_draw => k_is); (case k__law_draw => k_is); (case a__law_size => k_is); (case l__law_size => k_is); (case c__law_size => k_is); (case k__law_size => k_is); (case a__law_sum => k_is); (case l__law_sum => k_is); (case c__law_sum => k_is); (case k__law_sum => k_is); (case a__law_lacks => k_is); (case l__law_lacks => k_is); (case c__law_lacks => k_is); (case k__law_lacks => k_is); (case a__law_spelled => k_is); (case l__law_spelled => k_is); (case c__law_spelled => k_is); (case k__law_spelled => k_is); (case a__law_is_whole => k_is); (case l__law_is_whole => k_is); (case c__law_is_whole => k_is); (case k__law_is_whole => k_is); (case a__law_is_letter => k_is); (case l__law_is_letter => k_is); (case c__law_is_letter => k_is); (case k__law_is_letter => k_is); (case a__law_is_word => k_is); (case l__law_is_word => k_is); (case c__law_is_word => k_is); (case k__law_is_word => k_is); (case a__law_alphabet => k_is); (case l__law_alphabet => k_is); (case c__law_alphabet => k_is); (case k__law_alphabet => k_is); (case a__law_runs => k_is); (case l__law_runs => k_is); (case c__law_runs => k_is); (case k__law_runs => k_is); (case a__law_evened => k_is); (case l__law_evened => k_is); (case c__law_evened => k_is); (case k__law_evened => k_is); (case a__law_in_order => k_is); (case l__law_in_order => k_is); (case c__law_in_order => k_is); (case k__law_in_order => k_is); (case a__law_letters_are => k_is); (case l__law_letters_are => k_is); (case c__law_letters_are => k_is); (case k__law_letters_are => k_is); (case a__law_spells => k_is); (case l__law_spells => k_is); (case c__law_spells => k_is); (case k__law_spells => k_is); (case a__law_number_is => k_is); (case l__law_number_is => k_is); (case c__law_number_is => k_is); (case k__law_number_is => k_is); (case a__law_truth_is => k_is); (case l__law_truth_is => k_is); (case c__law_truth_is => k_is); (case k__law_truth_is => k_is); (case a_law => k_is); (case l_law => k_is); (case c_law => k_is); (case k_law => k_is); (case y_abs => k_is); (case y_sum => k_is); (case y_sorted => k_is); (case y_all => k_is); (case y_range => k_is); (case y_len => k_is); (case y_int => k_is); (case y_min => k_is); (case y_isinstance => k_is); (case y_bool => k_is); (case y_tuple => k_is); (case y_str => k_is); (case y_list => k_is); (case y_max => k_is)
