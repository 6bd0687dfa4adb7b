import PyProof.Rows.All
import Wide.All
import OpenK.AllK
import Wide.FinOn
import HandS.ForMost
import HandS.Exc
import HandS.TryOnly
import HandS.ExcOwn
import HandS.WordsExc
import HandS.Style
import HandS.IsInst
import HandS.Deep
import HandS.Zip
import HandS.Walk
import HandS.Wide
import HandS.Small
import HandS.Lambda
import HandS.More
import HandS.Flow
import HandS.TupAny
import HandS.EndTab
import PySem.Challenge.RW_relays_k03_whole_lowest_lines
set_option Elab.async false
set_option linter.all false
set_option maxRecDepth 100000
set_option maxHeartbeats 2000000
namespace RM
open PySem PySem.Spec PyProof.Rows L2

/-! ## the plain machine's values, stores, answers -/
/-- a value; a list that may change is a place in the store; ro: a list that nobody may change -/
inductive D where
  | non | bl (b : Bool) | int (i : Int) | str (x : Str) | tup (xs : List D) | lst (n : Nat) | ro (xs : List D)
abbrev Sto := List (List D)
abbrev Slo := List (Option D)
/-- what comes of a reckoning: a value, an exception (class, fields), or nothing that is known -/
inductive Res (α : Type) where
  | ok (a : α) (s : Sto) | exc (c : Addr) (fs : List (Str × D)) (s : Sto) | bad
def Res.bind {α β : Type} : Res α → (α → Sto → Res β) → Res β
  | .ok a s, f => f a s
  | .exc c fs s, _ => .exc c fs s
  | .bad, _ => .bad
@[simp] theorem Res.bind_ok {α β : Type} (a : α) (s : Sto) (f : α → Sto → Res β) : (Res.ok a s).bind f = f a s := rfl
@[simp] theorem Res.bind_exc {α β : Type} (c : Addr) (fs) (s : Sto) (f : α → Sto → Res β) : (Res.exc c fs s : Res α).bind f = .exc c fs s := rfl
@[simp] theorem Res.bind_bad {α β : Type} (f : α → Sto → Res β) : (Res.bad : Res α).bind f = .bad := rfl
inductive Flo where
  | nx (σ : Slo) (s : Sto) | rt (d : D) (s : Sto) | bk (σ : Slo) (s : Sto) | ct (σ : Slo) (s : Sto) | exc (c : Addr) (fs : List (Str × D)) (σ : Slo) (s : Sto) | bad

/-! ## how the plain machine's values stand in the heap -/
/-- a list that nobody may change -/
def SqR (K : PySem.W.Frag) (H : Hp) (a : Addr) (xs : List V) : Prop :=
  (∃ o, H a = some (.frz o (.lst xs))) ∨ ∃ (o : Obj) (its : Array Value) (n : Nat), K.lookup a = some o ∧ o.cls = .type "list" ∧ o.dict = none ∧ o.data = .seq its n ∧ its.size ≤ sizeLine ∧ Vals xs its.toList
theorem SqR.l {K : PySem.W.Frag} {H : Hp} {a : Addr} {xs : List V} (h : SqR K H a xs) : SqL K H a xs := by
  rcases h with h | h
  · exact .inl (.inr h)
  · exact .inr h
section
variable (K : PySem.W.Frag) (ℓ : Nat → Addr) (n : Nat) (H : Hp)
mutual
def Rep : D → V → Prop
  | .non, v => v = .non
  | .bl b, v => v = .bl b
  | .int i, v => v = .int i
  | .str x, v => v = .str x
  | .tup ds, v => ∃ a vs, v = .ref a ∧ SqT K H a vs ∧ Reps ds vs
  | .lst m, v => m < n ∧ v = .ref (ℓ m)
  | .ro ds, v => ∃ a vs, v = .ref a ∧ SqR K H a vs ∧ Reps ds vs
def Reps : List D → List V → Prop
  | [], vs => vs = []
  | d :: ds, vs => ∃ v r, vs = v :: r ∧ Rep d v ∧ Reps ds r
end
structure StOk (T : List (Addr × Str)) (K : PySem.W.Frag) (ℓ : Nat → Addr) (n : Nat) (H : Hp) (s : Sto) : Prop where
  tabs : LamX.Tabs T H
  at_ : ∀ i xs, s[i]? = some xs → ∃ vs, H (ℓ i) = some (.lst vs) ∧ Reps K ℓ n H xs vs
  inj : ∀ i j, i < n → j < n → ℓ i = ℓ j → i = j
  len : n = s.length
/-- what is known of an exception's own dict -/
def Xr (fs : List (Str × D)) (dd : Option Addr) : Prop :=
  (fs = [] ∧ True) ∨ ∃ d vs, dd = some d ∧ H d = some (.xd vs) ∧ ∀ f x, fs.lookup f = some x → ∃ v, vs.lookup f = some v ∧ Rep K ℓ n H x v
end
/-- nothing is known of a but perhaps a table -/
def Free (H : Hp) (a : Addr) : Prop := ∀ o, H a = some o → ∃ ps, o = .tbl ps
theorem Free.of {H : Hp} {a : Addr} (h : H a = none) : Free H a := fun o e => by rw [h] at e; cases e
/-- the store grew, its new places are new, nothing else changed (but tables of code objects) -/
structure Ex (ℓ : Nat → Addr) (n : Nat) (H : Hp) (ℓ' : Nat → Addr) (n' : Nat) (H' : Hp) : Prop where
  le : n ≤ n'
  same : ∀ i, i < n → ℓ' i = ℓ i
  keep : ∀ a o, H a = some o → (∀ i, i < n → ℓ i ≠ a) → (∀ ps, o ≠ .tbl ps) → H' a = some o
  new : ∀ i, n ≤ i → i < n' → Free H (ℓ' i)
  live : ∀ a, Free H' a → Free H a
section
variable {T : List (Addr × Str)} {K : PySem.W.Frag} {ℓ ℓ' ℓ₁ ℓ₂ : Nat → Addr} {n n' n₁ n₂ : Nat} {H H' H₁ H₂ : Hp} {s s' : Sto}
theorem Ex.refl : Ex ℓ n H ℓ n H := ⟨Nat.le_refl _, fun _ _ => rfl, fun _ _ h _ _ => h, fun i h1 h2 => absurd h2 (by omega), fun _ h => h⟩
theorem StOk.lt (st : StOk T K ℓ n H s) {i : Nat} (h : i < n) : ∃ vs, H (ℓ i) = some (.lst vs) := by
  have hi : i < s.length := by rw [← st.len]; exact h
  obtain ⟨vs, e, _⟩ := st.at_ i s[i] (List.getElem?_eq_getElem hi)
  exact ⟨vs, e⟩
theorem Ex.trans {s₁ : Sto} (a : Ex ℓ n H ℓ₁ n₁ H₁) (st : StOk T K ℓ₁ n₁ H₁ s₁) (b : Ex ℓ₁ n₁ H₁ ℓ₂ n₂ H₂) : Ex ℓ n H ℓ₂ n₂ H₂ where
  le := Nat.le_trans a.le b.le
  same := fun i h => (b.same i (Nat.lt_of_lt_of_le h a.le)).trans (a.same i h)
  keep := fun x o h hn ht => b.keep x o (a.keep x o h hn ht) (fun i hi e => by
    by_cases hin : i < n
    · exact hn i hin (by rw [← a.same i hin]; exact e)
    · obtain ⟨ps, z⟩ := a.new i (by omega) hi o (by rw [e]; exact h)
      exact ht ps z) ht
  new := fun i h1 h2 => by
    by_cases h3 : i < n₁
    · rw [b.same i h3]
      exact a.new i h1 h3
    · exact a.live _ (b.new i (by omega) h2)
  live := fun x h => a.live x (b.live x h)
/-- what is no list of the store is kept -/
theorem Ex.kept (e : Ex ℓ n H ℓ' n' H') (st : StOk T K ℓ n H s) {a : Addr} {o : HO} (h : H a = some o) (hn : ∀ vs, o ≠ .lst vs) (ht : ∀ ps, o ≠ .tbl ps) : H' a = some o :=
  e.keep a o h (fun i hi z => by
    obtain ⟨vs, e2⟩ := st.lt hi
    rw [z, h] at e2
    exact hn vs (Option.some.inj e2)) ht
theorem Ex.rdT (e : Ex ℓ n H ℓ' n' H') (st : StOk T K ℓ n H s) {a : Addr} {xs : List V} (h : SqT K H a xs) : SqT K H' a xs := by
  rcases h with (h | ⟨o, h⟩) | h
  · exact .inl (.inl (e.kept st h (fun _ z => by cases z) (fun _ z => by cases z)))
  · exact .inl (.inr ⟨o, e.kept st h (fun _ z => by cases z) (fun _ z => by cases z)⟩)
  · exact .inr h
theorem Ex.rdR (e : Ex ℓ n H ℓ' n' H') (st : StOk T K ℓ n H s) {a : Addr} {xs : List V} (h : SqR K H a xs) : SqR K H' a xs := by
  rcases h with ⟨o, h⟩ | h
  · exact .inl ⟨o, e.kept st h (fun _ z => by cases z) (fun _ z => by cases z)⟩
  · exact .inr h
/-- what a told value leans on stays -/
structure Up (ℓ : Nat → Addr) (n : Nat) (H : Hp) (ℓ' : Nat → Addr) (n' : Nat) (H' : Hp) : Prop where
  le : n ≤ n'
  same : ∀ i, i < n → ℓ' i = ℓ i
  keep : ∀ a o, H a = some o → (∀ vs, o ≠ .lst vs) → (∀ ps, o ≠ .tbl ps) → H' a = some o
theorem Ex.up (e : Ex ℓ n H ℓ' n' H') (st : StOk T K ℓ n H s) : Up ℓ n H ℓ' n' H' := ⟨e.le, e.same, fun _ _ h hn ht => e.kept st h hn ht⟩
theorem Up.rdT (e : Up ℓ n H ℓ' n' H') {a : Addr} {xs : List V} (h : SqT K H a xs) : SqT K H' a xs := by
  rcases h with (h | ⟨o, h⟩) | h
  · exact .inl (.inl (e.keep _ _ h (fun _ z => by cases z) (fun _ z => by cases z)))
  · exact .inl (.inr ⟨o, e.keep _ _ h (fun _ z => by cases z) (fun _ z => by cases z)⟩)
  · exact .inr h
theorem Up.rdR (e : Up ℓ n H ℓ' n' H') {a : Addr} {xs : List V} (h : SqR K H a xs) : SqR K H' a xs := by
  rcases h with ⟨o, h⟩ | h
  · exact .inl ⟨o, e.keep _ _ h (fun _ z => by cases z) (fun _ z => by cases z)⟩
  · exact .inr h
mutual
theorem Rep.upU (e : Up ℓ n H ℓ' n' H') : ∀ (d : D) (v : V), Rep K ℓ n H d v → Rep K ℓ' n' H' d v
  | .non, _, h => h
  | .bl _, _, h => h
  | .int _, _, h => h
  | .str _, _, h => h
  | .tup ds, _, h => by
    obtain ⟨a, vs, h1, h2, h3⟩ := h
    exact ⟨a, vs, h1, e.rdT h2, Reps.upU e ds vs h3⟩
  | .lst m, _, h => ⟨Nat.lt_of_lt_of_le h.1 e.le, h.2.trans (by rw [e.same m h.1])⟩
  | .ro ds, _, h => by
    obtain ⟨a, vs, h1, h2, h3⟩ := h
    exact ⟨a, vs, h1, e.rdR h2, Reps.upU e ds vs h3⟩
theorem Reps.upU (e : Up ℓ n H ℓ' n' H') : ∀ (ds : List D) (vs : List V), Reps K ℓ n H ds vs → Reps K ℓ' n' H' ds vs
  | [], _, h => h
  | d :: ds, _, h => by
    obtain ⟨v, r, h1, h2, h3⟩ := h
    exact ⟨v, r, h1, Rep.upU e d v h2, Reps.upU e ds r h3⟩
end
theorem Rep.up (e : Ex ℓ n H ℓ' n' H') (st : StOk T K ℓ n H s) (d : D) (v : V) (h : Rep K ℓ n H d v) : Rep K ℓ' n' H' d v := Rep.upU (e.up st) d v h
theorem Reps.up (e : Ex ℓ n H ℓ' n' H') (st : StOk T K ℓ n H s) (ds : List D) (vs : List V) (h : Reps K ℓ n H ds vs) : Reps K ℓ' n' H' ds vs := Reps.upU (e.up st) ds vs h
theorem Reps.length : ∀ {ds : List D} {vs : List V}, Reps K ℓ n H ds vs → vs.length = ds.length
  | [], _, h => by cases h; rfl
  | d :: ds, _, h => by
    obtain ⟨v, r, rfl, h2, h3⟩ := h
    simp [Reps.length h3]
theorem Reps.get : ∀ {ds : List D} {vs : List V} {i : Nat} {d : D}, Reps K ℓ n H ds vs → ds[i]? = some d → ∃ v, vs[i]? = some v ∧ Rep K ℓ n H d v
  | [], _, i, d, h, e => by simp at e
  | d :: ds, _, 0, d', h, e => by
    obtain ⟨v, r, rfl, h2, h3⟩ := h
    have : d = d' := by simpa using e
    subst this
    exact ⟨v, rfl, h2⟩
  | d :: ds, _, i + 1, d', h, e => by
    obtain ⟨v, r, rfl, h2, h3⟩ := h
    obtain ⟨u, h4, h5⟩ := Reps.get (i := i) h3 (by simpa using e)
    exact ⟨u, by simpa using h4, h5⟩
theorem Reps.append : ∀ {ds es : List D} {vs us : List V}, Reps K ℓ n H ds vs → Reps K ℓ n H es us → Reps K ℓ n H (ds ++ es) (vs ++ us)
  | [], _, _, _, h, h' => by cases h; exact h'
  | d :: ds, _, _, _, h, h' => by
    obtain ⟨v, r, rfl, h2, h3⟩ := h
    exact ⟨v, _, rfl, h2, Reps.append h3 h'⟩
theorem Reps.take : ∀ {ds : List D} {vs : List V} (k : Nat), Reps K ℓ n H ds vs → Reps K ℓ n H (ds.take k) (vs.take k)
  | _, _, 0, _ => by simp [Reps]
  | [], _, k + 1, h => by cases h; simp [Reps]
  | d :: ds, _, k + 1, h => by
    obtain ⟨v, r, rfl, h2, h3⟩ := h
    exact ⟨v, _, rfl, h2, Reps.take k h3⟩
theorem Reps.drop : ∀ {ds : List D} {vs : List V} (k : Nat), Reps K ℓ n H ds vs → Reps K ℓ n H (ds.drop k) (vs.drop k)
  | _, _, 0, h => h
  | [], _, k + 1, h => by cases h; simp [Reps]
  | d :: ds, _, k + 1, h => by
    obtain ⟨v, r, rfl, h2, h3⟩ := h
    exact Reps.drop k h3
theorem Reps.set : ∀ {ds : List D} {vs : List V} {d : D} {v : V} (i : Nat), Reps K ℓ n H ds vs → Rep K ℓ n H d v → Reps K ℓ n H (ds.set i d) (vs.set i v)
  | [], _, _, _, _, h, _ => by cases h; simp [Reps]
  | d :: ds, _, _, _, 0, h, h' => by
    obtain ⟨v, r, rfl, h2, h3⟩ := h
    exact ⟨_, _, rfl, h', h3⟩
  | d :: ds, _, _, _, i + 1, h, h' => by
    obtain ⟨v, r, rfl, h2, h3⟩ := h
    exact ⟨_, _, rfl, h2, Reps.set i h3 h'⟩
theorem Reps.nil : Reps K ℓ n H [] [] := rfl
theorem Reps.cons {d : D} {ds : List D} {v : V} {vs : List V} (a : Rep K ℓ n H d v) (b : Reps K ℓ n H ds vs) : Reps K ℓ n H (d :: ds) (v :: vs) := ⟨_, _, rfl, a, b⟩
theorem Xr.up (e : Ex ℓ n H ℓ' n' H') (st : StOk T K ℓ n H s) {fs : List (Str × D)} {dd : Option Addr} (h : Xr K ℓ n H fs dd) : Xr K ℓ' n' H' fs dd := by
  rcases h with h | ⟨d, vs, h1, h2, h3⟩
  · exact .inl h
  · refine .inr ⟨d, vs, h1, e.kept st h2 (fun _ z => by cases z) (fun _ z => by cases z), fun f x hf => ?_⟩
    obtain ⟨v, h4, h5⟩ := h3 f x hf
    exact ⟨v, h4, Rep.up e st x v h5⟩
/-- tables that stand -/
theorem tabS_keep {P : Addr} {q : Str} (t : LamX.TabS H P q) (e : ∀ a o, H a = some o → (∀ vs, o ≠ .lst vs) → H' a = some o) : LamX.TabS H' P q := by
  obtain ⟨ps, h1, h2, h3⟩ := t
  refine ⟨ps, e _ _ h1 (fun _ z => by cases z), h2, fun pos cv hc => ?_⟩
  obtain ⟨c, e1, e2⟩ := h3 pos cv hc
  exact ⟨c, e1, e _ _ e2 (fun _ z => by unfold LamX.CodeO at z; cases z)⟩
theorem tabs_keep (t : LamX.Tabs T H) (e : ∀ a o, H a = some o → (∀ vs, o ≠ .lst vs) → H' a = some o) : LamX.Tabs T H' := fun p hp => tabS_keep (t p hp) e
/-- a new object that is no list of the store -/
theorem live_new {p : Addr} {o : HO} (hp : H p = none) : ∀ a, Free (upd H p o) a → Free H a := fun a h => by
  by_cases e : a = p
  · rw [e]; exact Free.of hp
  · intro u hu
    exact h u (by rw [upd_ne e]; exact hu)
theorem live_lst {p : Addr} {vs : List V} : ∀ a, Free (upd H p (.lst vs)) a → Free H a := fun a h => by
  by_cases e : a = p
  · rw [e] at h
    obtain ⟨ps, z⟩ := h _ upd_same
    cases z
  · intro u hu
    exact h u (by rw [upd_ne e]; exact hu)
theorem Ex.new_ {p : Addr} {o : HO} (h : H p = none) : Ex ℓ n H ℓ n (upd H p o) :=
  ⟨Nat.le_refl _, fun _ _ => rfl, fun a u e _ _ => by rw [upd_ne (ne_of_none e h)]; exact e, fun i h1 h2 => absurd h2 (by omega), live_new h⟩
theorem StOk.new_ {p : Addr} {o : HO} (st : StOk T K ℓ n H s) (h : H p = none) : StOk T K ℓ n (upd H p o) s := by
  refine ⟨tabs_keep st.tabs fun a u e _ => by rw [upd_ne (ne_of_none e h)]; exact e, fun i xs e => ?_, st.inj, st.len⟩
  obtain ⟨vs, h1, h2⟩ := st.at_ i xs e
  exact ⟨vs, by rw [upd_ne (ne_of_none h1 h)]; exact h1, Reps.up (Ex.new_ h) st _ _ h2⟩
/-- a new list of the store -/
def ext (ℓ : Nat → Addr) (n : Nat) (p : Addr) : Nat → Addr := fun i => if i = n then p else ℓ i
theorem ext_at {p : Addr} : ext ℓ n p n = p := if_pos rfl
theorem ext_lt {p : Addr} {i : Nat} (h : i < n) : ext ℓ n p i = ℓ i := if_neg (by omega)
theorem Ex.newL {p : Addr} {o : HO} (h : H p = none) : Ex ℓ n H (ext ℓ n p) (n + 1) (upd H p o) :=
  ⟨Nat.le_succ _, fun _ hi => ext_lt hi, fun a u e _ _ => by rw [upd_ne (ne_of_none e h)]; exact e, fun i h1 h2 => by
    have e : i = n := by omega
    rw [e, ext_at]
    exact Free.of h, live_new h⟩
theorem StOk.newL {p : Addr} {ds : List D} {vs : List V} (st : StOk T K ℓ n H s) (h : H p = none) (r : Reps K ℓ n H ds vs) : StOk T K (ext ℓ n p) (n + 1) (upd H p (.lst vs)) (s ++ [ds]) := by
  have e0 : Ex ℓ n H (ext ℓ n p) (n + 1) (upd H p (.lst vs)) := Ex.newL h
  have ln := st.len
  refine ⟨tabs_keep st.tabs fun a u e _ => by rw [upd_ne (ne_of_none e h)]; exact e, fun i xs e => ?_, fun i j hi hj e => ?_, by rw [List.length_append, List.length_singleton, ln]⟩
  · by_cases hi : i < n
    · rw [List.getElem?_append_left (by omega)] at e
      obtain ⟨us, h1, h2⟩ := st.at_ i xs e
      refine ⟨us, ?_, Reps.up e0 st _ _ h2⟩
      rw [ext_lt hi, upd_ne (ne_of_none h1 h)]
      exact h1
    · have hi2 : i = n := by
        have := (List.getElem?_eq_some_iff.mp e).1
        rw [List.length_append, List.length_singleton] at this
        omega
      subst hi2
      rw [List.getElem?_append_right (by omega), ← ln, Nat.sub_self] at e
      have : ds = xs := by simpa using e
      subst this
      exact ⟨vs, by rw [ext_at, upd_same], Reps.up e0 st _ _ r⟩
  · have ne : ∀ k, k < n → ℓ k ≠ p := fun k hk z => by
      obtain ⟨us, h1⟩ := st.lt hk
      rw [z, h] at h1
      cases h1
    by_cases hi2 : i = n
    · by_cases hj2 : j = n
      · omega
      · rw [hi2, ext_at, ext_lt (show j < n by omega)] at e
        exact absurd e.symm (ne j (by omega))
    · by_cases hj2 : j = n
      · rw [hj2, ext_at, ext_lt (show i < n by omega)] at e
        exact absurd e (ne i (by omega))
      · rw [ext_lt (show i < n by omega), ext_lt (show j < n by omega)] at e
        exact st.inj i j (by omega) (by omega) e
/-- a list of the store is written -/
theorem Ex.write {i : Nat} {vs : List V} (hi : i < n) : Ex ℓ n H ℓ n (upd H (ℓ i) (.lst vs)) :=
  ⟨Nat.le_refl _, fun _ _ => rfl, fun a u e hn _ => by rw [upd_ne (fun z => hn i hi z.symm)]; exact e, fun i h1 h2 => absurd h2 (by omega), live_lst⟩
theorem StOk.write {i : Nat} {ds : List D} {vs : List V} (st : StOk T K ℓ n H s) (hi : i < n) (r : Reps K ℓ n H ds vs) : StOk T K ℓ n (upd H (ℓ i) (.lst vs)) (s.set i ds) := by
  have e0 : Ex ℓ n H ℓ n (upd H (ℓ i) (.lst vs)) := Ex.write hi
  have ln := st.len
  obtain ⟨ws, hw⟩ := st.lt hi
  refine ⟨tabs_keep st.tabs fun a u e hn => by
      rw [upd_ne]
      · exact e
      · intro z
        rw [z, hw] at e
        exact hn ws (Option.some.inj e).symm, fun j xs e => ?_, st.inj, by rw [List.length_set]; exact ln⟩
  by_cases hj : j = i
  · subst hj
    rw [List.getElem?_set_self (by omega)] at e
    cases e
    exact ⟨vs, upd_same, Reps.up e0 st _ _ r⟩
  · rw [List.getElem?_set_ne (Ne.symm hj)] at e
    obtain ⟨us, h1, h2⟩ := st.at_ j xs e
    have hjn : j < n := by
      have := (List.getElem?_eq_some_iff.mp e).1
      omega
    exact ⟨us, by rw [upd_ne (fun z => hj (st.inj j i hjn hi z))]; exact h1, Reps.up e0 st _ _ h2⟩
end
/-! ## slots -/
structure En (K : PySem.W.Frag) (ℓ : Nat → Addr) (n : Nat) (H : Hp) (σ : L2.St) (σd : Slo) : Prop where
  len : σd.length = σ.length
  at_ : ∀ (i : Nat) (d : D), σd[i]? = some (some d) → ∃ v, σ[i]? = some (some v) ∧ Rep K ℓ n H d v
section
variable {T : List (Addr × Str)} {K : PySem.W.Frag} {ℓ ℓ' ℓ₁ ℓ₂ : Nat → Addr} {n n' n₁ n₂ : Nat} {H H' H₁ H₂ : Hp} {s s' : Sto} {σ : L2.St} {σd : Slo}
theorem En.up (en : En K ℓ n H σ σd) (e : Ex ℓ n H ℓ' n' H') (st : StOk T K ℓ n H s) : En K ℓ' n' H' σ σd :=
  ⟨en.len, fun i d h => by
    obtain ⟨v, h1, h2⟩ := en.at_ i d h
    exact ⟨v, h1, Rep.up e st d v h2⟩⟩
theorem En.set {i : Nat} {d : D} {v : V} (en : En K ℓ n H σ σd) (r : Rep K ℓ n H d v) : En K ℓ n H (σ.set i (some v)) (σd.set i (some d)) := by
  refine ⟨by rw [List.length_set, List.length_set]; exact en.len, fun j e h => ?_⟩
  by_cases hj : j = i
  · subst hj
    have hl : j < σd.length := by
      have := (List.getElem?_eq_some_iff.mp h).1
      rw [List.length_set] at this
      exact this
    rw [List.getElem?_set_self hl] at h
    have : d = e := by simpa using h
    subst this
    exact ⟨v, by rw [List.getElem?_set_self (by rw [← en.len]; exact hl)], r⟩
  · rw [List.getElem?_set_ne (Ne.symm hj)] at h
    rw [List.getElem?_set_ne (Ne.symm hj)]
    exact en.at_ j e h
end
/-! ## the answers, told of the heap -/
abbrev RelT (α β : Type) := (Nat → Addr) → Nat → Hp → α → β → Prop
def RelB : RelT Bool Bool := fun _ _ _ a b => b = a
def RelI : RelT (Option Int) (Option Int) := fun _ _ _ a b => b = a
section
variable (T : List (Addr × Str)) (K : PySem.W.Frag) (W : WX) (ℓ : Nat → Addr) (n : Nat) (H : Hp) (σ : L2.St)
/-- an exception is wished for -/
def GoX (c : Addr) (fs : List (Str × D)) (s : Sto) : Prop := ∀ dd ℓ' H', Ex ℓ n H ℓ' s.length H' → StOk T K ℓ' s.length H' s → Xr K ℓ' s.length H' fs dd → W (.ref c) dd σ H'
def GoR {α β : Type} (R : RelT α β) (r : Res α) (Q : β → Hp → Prop) : Prop := match r with
  | .ok d s => ∀ v ℓ' H', Ex ℓ n H ℓ' s.length H' → StOk T K ℓ' s.length H' s → R ℓ' s.length H' d v → Q v H'
  | .exc c fs s => GoX T K W ℓ n H σ c fs s
  | .bad => False
end
def GoS (T : List (Addr × Str)) (K : PySem.W.Frag) (W : WX) (ℓ : Nat → Addr) (n : Nat) (H : Hp) (f : Flo) (E : Ends) : Prop := match f with
  | .nx σd s => ∀ σ ℓ' H', Ex ℓ n H ℓ' s.length H' → StOk T K ℓ' s.length H' s → En K ℓ' s.length H' σ σd → E.nx σ H'
  | .bk σd s => ∀ σ ℓ' H', Ex ℓ n H ℓ' s.length H' → StOk T K ℓ' s.length H' s → En K ℓ' s.length H' σ σd → E.bk σ H'
  | .ct σd s => ∀ σ ℓ' H', Ex ℓ n H ℓ' s.length H' → StOk T K ℓ' s.length H' s → En K ℓ' s.length H' σ σd → E.ct σ H'
  | .rt d s => ∀ v ℓ' H', Ex ℓ n H ℓ' s.length H' → StOk T K ℓ' s.length H' s → Rep K ℓ' s.length H' d v → E.rt v H'
  | .exc c fs σd s => ∀ σ dd ℓ' H', Ex ℓ n H ℓ' s.length H' → StOk T K ℓ' s.length H' s → En K ℓ' s.length H' σ σd → Xr K ℓ' s.length H' fs dd → W (.ref c) dd σ H'
  | .bad => False
abbrev MR (α : Type) := Slo → Sto → Res α
abbrev ME := MR D
abbrev MT := MR Bool
abbrev MA := MR (List D)
abbrev MS := Slo → Sto → Flo
/-- the reading of a part whose answer is m -/
def tR (T : List (Addr × Str)) (K : PySem.W.Frag) (W : WX) {α β : Type} (R : RelT α β) (m : MR α) : L2.St → Hp → (β → Hp → Prop) → Prop := fun σ H Q =>
  ∃ σd ℓ s, En K ℓ s.length H σ σd ∧ StOk T K ℓ s.length H s ∧ GoR T K W ℓ s.length H σ R (m σd s) Q
section
variable (T : List (Addr × Str)) (K : PySem.W.Frag) (W : WX)
def teOf (m : ME) : TE := tR T K W (Rep K) m
def ttOf (m : MT) : TT := tR T K W RelB m
def taOf (m : MA) : TA := tR T K W (Reps K) m
def toOf (m : MR (Option Int)) : TO := tR T K W RelI m
def tsOf (m : MS) : TS := fun E σ H => ∃ σd ℓ s, En K ℓ s.length H σ σd ∧ StOk T K ℓ s.length H s ∧ GoS T K W ℓ s.length H (m σd s) E
end
section
variable {X : Cx}
theorem PE.imp {e : Expr} {t t' : TE} (h : PE X e t) (i : ∀ σ H Q, t' σ H Q → t σ H Q) : PE X e t' := ⟨fun pins s σ H Q I q => h.run pins s σ H Q I (i σ H Q q)⟩
theorem PT.imp {e : Expr} {t t' : TT} (h : PT X e t) (i : ∀ σ H Q, t' σ H Q → t σ H Q) : PT X e t' := ⟨fun pins s σ H Q I q => h.run pins s σ H Q I (i σ H Q q)⟩
theorem PW.imp {e : Expr} {t t' : TT} (h : PW X e t) (i : ∀ σ H Q, t' σ H Q → t σ H Q) : PW X e t' := ⟨fun wh pins s σ H Q I q => h.run wh pins s σ H Q I (i σ H Q q)⟩
theorem PA.imp {es : List Expr} {t t' : TA} (h : PA X es t) (i : ∀ σ H Q, t' σ H Q → t σ H Q) : PA X es t' := ⟨fun pos pins s σ H Q I q => h.run pos pins s σ H Q I (i σ H Q q)⟩
theorem PO.imp {e : Option Expr} {t t' : TO} (h : PO X e t) (i : ∀ σ H Q, t' σ H Q → t σ H Q) : PO X e t' := ⟨fun pins s σ H Q I q => h.run pins s σ H Q I (i σ H Q q)⟩
theorem PS.imp {st : Stmt} {t t' : TS} (h : PS X st t) (i : ∀ D σ H, t' D σ H → t D σ H) : PS X st t' := ⟨fun pins s σ H D I q => h.run pins s σ H D I (i D σ H q)⟩
theorem PSs.imp {st : List Stmt} {t t' : TS} (h : PSs X st t) (i : ∀ D σ H, t' D σ H → t D σ H) : PSs X st t' := ⟨fun pins s σ H D I q => h.run pins s σ H D I (i D σ H q)⟩
theorem PI.imp {tg e : Expr} {t t' : TI} (h : PI X tg e t) (i : ∀ σ H R, t' σ H R → t σ H R) : PI X tg e t' := ⟨fun pins s σ H R I q => h.run pins s σ H R I (i σ H R q)⟩
theorem PG.imp {tg : Expr} {t t' : TG} (h : PG X tg t) (i : ∀ v σ H Q, t' v σ H Q → t v σ H Q) : PG X tg t' := ⟨fun pins s σ H v u Q I r q => h.run pins s σ H v u Q I r (i v σ H Q q)⟩
end

/-! ## one after another -/
section
variable {T : List (Addr × Str)} {K : PySem.W.Frag} {W : WX} {ℓ ℓ' ℓ₁ ℓ₂ : Nat → Addr} {n n' n₁ n₂ : Nat} {H H' H₁ H₂ : Hp} {s s' s₁ : Sto} {σ : L2.St} {σd : Slo} {α β γ δ : Type} {R : RelT α β} {R' : RelT γ δ}
theorem GoR.shift {r : Res α} {Q : β → Hp → Prop} (g : GoR T K W ℓ n H σ R r Q) (e : Ex ℓ n H ℓ₁ n₁ H₁) (st : StOk T K ℓ₁ n₁ H₁ s₁) : GoR T K W ℓ₁ n₁ H₁ σ R r Q := by
  cases r with
  | ok d s => exact fun v ℓ' H' e' st' q => g v ℓ' H' (e.trans st e') st' q
  | exc c fs s => exact fun dd ℓ' H' e' st' q => g dd ℓ' H' (e.trans st e') st' q
  | bad => exact g
theorem GoS.shift {f : Flo} {E : Ends} (g : GoS T K W ℓ n H f E) (e : Ex ℓ n H ℓ₁ n₁ H₁) (st : StOk T K ℓ₁ n₁ H₁ s₁) : GoS T K W ℓ₁ n₁ H₁ f E := by
  cases f with
  | nx σ s => exact fun σ ℓ' H' e' st' q => g σ ℓ' H' (e.trans st e') st' q
  | bk σ s => exact fun σ ℓ' H' e' st' q => g σ ℓ' H' (e.trans st e') st' q
  | ct σ s => exact fun σ ℓ' H' e' st' q => g σ ℓ' H' (e.trans st e') st' q
  | rt d s => exact fun v ℓ' H' e' st' q => g v ℓ' H' (e.trans st e') st' q
  | exc c fs σ s => exact fun σ dd ℓ' H' e' st' q q' => g σ dd ℓ' H' (e.trans st e') st' q q'
  | bad => exact g
/-- the first part is done: where one stands -/
theorem GoR.bind {r : Res α} {f : α → Sto → Res γ} {Q : δ → Hp → Prop} (g : GoR T K W ℓ n H σ R' (r.bind f) Q) :
    GoR T K W ℓ n H σ R r fun v H₁ => ∃ ℓ₁ s₁ d, Ex ℓ n H ℓ₁ s₁.length H₁ ∧ StOk T K ℓ₁ s₁.length H₁ s₁ ∧ R ℓ₁ s₁.length H₁ d v ∧ GoR T K W ℓ₁ s₁.length H₁ σ R' (f d s₁) Q := by
  cases r with
  | ok d s => exact fun v ℓ' H' e st q => ⟨ℓ', s, d, e, st, q, GoR.shift g e st⟩
  | exc c fs s => exact g
  | bad => exact g
theorem tR.one {m : MR α} {f : Slo → α → Sto → Res γ} {Q : δ → Hp → Prop} (h : tR T K W R' (fun σ s => (m σ s).bind (f σ)) σ H Q) :
    tR T K W R m σ H fun v H₁ => ∃ σd ℓ₁ s₁ d, En K ℓ₁ s₁.length H₁ σ σd ∧ StOk T K ℓ₁ s₁.length H₁ s₁ ∧ R ℓ₁ s₁.length H₁ d v ∧ GoR T K W ℓ₁ s₁.length H₁ σ R' (f σd d s₁) Q := by
  obtain ⟨σd, ℓ, s, en, st, g⟩ := h
  refine ⟨σd, ℓ, s, en, st, ?_⟩
  have g' := GoR.bind (R := R) g
  cases hr : m σd s with
  | ok d s₁ =>
    rw [hr] at g'
    exact fun v ℓ' H' e st' q => by
      obtain ⟨ℓ₁, s₂, d₂, e2, st2, q2, g2⟩ := g' v ℓ' H' e st' q
      exact ⟨σd, ℓ₁, s₂, d₂, en.up e2 st, st2, q2, g2⟩
  | exc c fs s₁ => rw [hr] at g'; exact g'
  | bad => rw [hr] at g'; exact g'
/-- .. and behind it one stands in a reading again -/
theorem GoR.tr {r : Sto → Res γ} {Q : δ → Hp → Prop} (en : En K ℓ s.length H σ σd) (st : StOk T K ℓ s.length H s) (g : GoR T K W ℓ s.length H σ R' (r s) Q) : tR T K W R' (fun _ s => r s) σ H Q := ⟨σd, ℓ, s, en, st, g⟩
/-- an answer at once -/
theorem GoR.now {d : γ} {Q : δ → Hp → Prop} {v : δ} (g : GoR T K W ℓ n H σ R' (.ok d s) Q) (e : Ex ℓ n H ℓ' s.length H') (st : StOk T K ℓ' s.length H' s) (q : R' ℓ' s.length H' d v) : Q v H' := g v ℓ' H' e st q
theorem GoR.here {d : γ} {Q : δ → Hp → Prop} {v : δ} (g : GoR T K W ℓ s.length H σ R' (.ok d s) Q) (st : StOk T K ℓ s.length H s) (q : R' ℓ s.length H d v) : Q v H := g v ℓ H Ex.refl st q
theorem tR.imp {m : MR α} {Q Q' : β → Hp → Prop} (h : tR T K W R m σ H Q) (i : ∀ v H', Q v H' → Q' v H') : tR T K W R m σ H Q' := by
  obtain ⟨σd, ℓ, s, en, st, g⟩ := h
  refine ⟨σd, ℓ, s, en, st, ?_⟩
  cases hr : m σd s with
  | ok d s₁ => rw [hr] at g; exact fun v ℓ' H' e st' q => i _ _ (g v ℓ' H' e st' q)
  | exc c fs s₁ => rw [hr] at g; exact g
  | bad => rw [hr] at g; exact g
end

/-! ## operations on two values -/
abbrev P2 := D → D → Sto → Res D
/-- the plain operation g tells what r asks -/
def Sound2 (K : PySem.W.Frag) (g : P2) (r : R2) : Prop := ∀ (T : List (Addr × Str)) (W : WX) (ℓ : Nat → Addr) (s : Sto) (H : Hp) (σ : L2.St) (a b : D) (x y : V) (Q : VK), StOk T K ℓ s.length H s → Rep K ℓ s.length H a x → Rep K ℓ s.length H b y →
  GoR T K W ℓ s.length H σ (Rep K) (g a b s) Q → r x y H Q
def mOp2 (g : P2) (a b : ME) : ME := fun σ s => (a σ s).bind fun x s => (b σ s).bind fun y s => g x y s
theorem op2 {K : PySem.W.Frag} {W : WX} {g : P2} {r : R2} {a b : ME} {σ : L2.St} {H : Hp} {Q : VK} (hs : Sound2 K g r) (h : teOf T K W (mOp2 g a b) σ H Q) : tOp r (teOf T K W a) (teOf T K W b) σ H Q := by
  refine tR.imp (tR.one (R := Rep K) h) fun x H1 h1 => ?_
  obtain ⟨σd, ℓ₁, s₁, d, en, st, q, g1⟩ := h1
  have g2 : tR T K W (Rep K) b σ H1 fun y H2 => ∃ ℓ₂ s₂ e, Ex ℓ₁ s₁.length H1 ℓ₂ s₂.length H2 ∧ StOk T K ℓ₂ s₂.length H2 s₂ ∧ Rep K ℓ₂ s₂.length H2 e y ∧ GoR T K W ℓ₂ s₂.length H2 σ (Rep K) (g d e s₂) Q := ⟨σd, ℓ₁, s₁, en, st, GoR.bind (R := Rep K) g1⟩
  refine tR.imp g2 fun y H2 h2 => ?_
  obtain ⟨ℓ₂, s₂, e, ex, st2, q2, g3⟩ := h2
  exact hs T W ℓ₂ s₂ H2 σ d e x y Q st2 (Rep.up ex st d x q) q2 g3
section
variable {X : Cx} {W : WX} {a b : Expr} {ma mb : ME} {pos : Pos}
theorem re_op {op : Operator} {r : R2} {g : P2} (ho : OpR X (binaryOp op) r) (hs : Sound2 X.K g r) (ha : PE X a (teOf T X.K W ma)) (hb : PE X b (teOf T X.K W mb)) : PE X (.BinOp a op b pos) (teOf T X.K W (mOp2 g ma mb)) :=
  PE.imp (pe_op ho ha hb) fun _ _ _ h => op2 hs h
theorem re_cmp {op : CmpOp} {r : R2} {g : P2} (ho : OpR X (compareOp op) r) (hs : Sound2 X.K g r) (ha : PE X a (teOf T X.K W ma)) (hb : PE X b (teOf T X.K W mb)) (hm : behindInMarks op b = false) : PE X (.Compare a [op] [b] pos) (teOf T X.K W (mOp2 g ma mb)) :=
  PE.imp (pe_cmpR ho ha hb hm) fun _ _ _ h => op2 hs h
/-- a value that must be a truth -/
def mTru (m : ME) : MT := fun σ s => (m σ s).bind fun d s => match d with | .bl b => .ok b s | _ => .bad
theorem tru {K : PySem.W.Frag} {m : ME} {σ : L2.St} {H : Hp} {Q : Bool → Hp → Prop} (h : ttOf T K W (mTru m) σ H Q) : teOf T K W m σ H fun x H' => ∃ k, x = .bl k ∧ Q k H' := by
  refine tR.imp (tR.one (R := Rep K) h) fun x H1 h1 => ?_
  obtain ⟨σd, ℓ₁, s₁, d, en, st, q, g1⟩ := h1
  cases d with
  | bl b => exact ⟨b, q, GoR.here g1 st rfl⟩
  | _ => exact g1.elim
theorem rt_cmp {op : CmpOp} {r : R2} {g : P2} (ho : OpR X (compareOp op) r) (hs : Sound2 X.K g r) (ha : PE X a (teOf T X.K W ma)) (hb : PE X b (teOf T X.K W mb)) (hm : behindInMarks op b = false) : PT X (.Compare a [op] [b] pos) (ttOf T X.K W (mTru (mOp2 g ma mb))) :=
  PT.imp (pt_cmpR ho ha hb hm) fun _ _ _ h => op2 hs (tru h)
theorem rt_val {e : Expr} {m : ME} (h : PE X e (teOf T X.K W m)) (he : ∀ whole, isTrue e X.env whole = (do let v ← whole; standAt e.pos; holding [v] (truthy v)) := by intro _; rfl) : PT X e (ttOf T X.K W (mTru m)) :=
  PT.imp (pt_val h he) fun _ _ _ h => tru h
end
end RM
set_option Elab.async false
set_option linter.all false
set_option maxRecDepth 100000
set_option maxHeartbeats 2000000
namespace RM
open PySem PySem.Spec PyProof.Rows L2
section
variable {T : List (Addr × Str)} {K : PySem.W.Frag} {W : WX} {ℓ : Nat → Addr} {s : Sto} {H : Hp} {σ : L2.St} {X : Cx}
/-! ## ints -/
/-- two ints, under C -/
def pI (C : Int → Int → Bool) (g : Int → Int → D) : P2 := fun a b s => match a, b with | .int i, .int j => if C i j then .ok (g i j) s else .bad | _, _ => .bad
theorem sound_I {C : Int → Int → Bool} {C' : Int → Int → Prop} {g : Int → Int → D} {g' : Int → Int → V} (hc : ∀ i j, C i j = true → C' i j) (hg : ∀ i j K ℓ n H, Rep K ℓ n H (g i j) (g' i j)) : Sound2 K (pI C g) (rI C' g') := by
  intro T W ℓ s H σ a b x y Q st ra rb h
  cases a <;> first | exact h.elim | skip
  cases b <;> first | exact h.elim | skip
  rename_i i j
  have h' : GoR T K W ℓ s.length H σ (Rep K) (if C i j then Res.ok (g i j) s else Res.bad) Q := h
  by_cases c : C i j = true
  · rw [if_pos c] at h'
    exact ⟨i, j, ra, rb, hc i j c, GoR.here h' st (hg ..)⟩
  · rw [if_neg c] at h'
    exact h'.elim
def pI0 (g : Int → Int → D) : P2 := fun a b s => match a, b with | .int i, .int j => .ok (g i j) s | _, _ => .bad
theorem sound_I0 {g : Int → Int → D} {g' : Int → Int → V} (hg : ∀ i j K ℓ n H, Rep K ℓ n H (g i j) (g' i j)) : Sound2 K (pI0 g) (rI0 g') := by
  intro T W ℓ s H σ a b x y Q st ra rb h
  cases a <;> first | exact h.elim | skip
  cases b <;> first | exact h.elim | skip
  rename_i i j
  exact ⟨i, j, ra, rb, GoR.here h st (hg ..)⟩
/-- two rules for one operation: the plain one is the first that knows -/
def por (g g' : P2) : P2 := fun a b s => match g a b s with | .bad => g' a b s | r => r
theorem Sound2.or {g g' : P2} {r r' : R2} (h : Sound2 K g r) (h' : Sound2 K g' r') : Sound2 K (por g g') (fun x y H Q => r x y H Q ∨ r' x y H Q) := by
  intro T W ℓ s H σ a b x y Q st ra rb q
  cases hg : g a b s with
  | bad =>
    have e : por g g' a b s = g' a b s := by unfold por; rw [hg]
    rw [e] at q
    exact .inr (h' T W ℓ s H σ a b x y Q st ra rb q)
  | ok d s1 =>
    have e : por g g' a b s = g a b s := by unfold por; rw [hg]
    rw [e] at q
    exact .inl (h T W ℓ s H σ a b x y Q st ra rb q)
  | exc c fs s1 =>
    have e : por g g' a b s = g a b s := by unfold por; rw [hg]
    rw [e] at q
    exact .inl (h T W ℓ s H σ a b x y Q st ra rb q)
/-! ## lists, tuples, texts put together -/
def big : Nat := 1000000
theorem big_le {n : Nat} (h : n ≤ big) : n ≤ sizeLine := Nat.le_trans h (by decide)
theorem big_lt {n : Nat} (h : n < big) : n < sizeLine := Nat.lt_of_lt_of_le h (by decide)
def pCatL : P2 := fun a b s => match a, b with
  | .lst i, .lst j => match s[i]?, s[j]? with
    | some xs, some ys => if xs.length + ys.length ≤ big then .ok (.lst s.length) (s ++ [xs ++ ys]) else .bad
    | _, _ => .bad
  | _, _ => .bad
theorem sound_catL : Sound2 K pCatL rCat := by
  intro T W ℓ s H σ a b x y Q st ra rb h
  cases a <;> first | exact h.elim | skip
  cases b <;> first | exact h.elim | skip
  rename_i i j
  obtain ⟨hi, rfl⟩ := ra
  obtain ⟨hj, rfl⟩ := rb
  have e1 : s[i]? = some s[i] := List.getElem?_eq_getElem hi
  have e2 : s[j]? = some s[j] := List.getElem?_eq_getElem hj
  obtain ⟨vs, h1, r1⟩ := st.at_ i _ e1
  obtain ⟨us, h2, r2⟩ := st.at_ j _ e2
  have h' : GoR T K W ℓ s.length H σ (Rep K) (if s[i].length + s[j].length ≤ big then .ok (.lst s.length) (s ++ [s[i] ++ s[j]]) else .bad) Q := by
    have e3 : pCatL (.lst i) (.lst j) s = (if s[i].length + s[j].length ≤ big then .ok (.lst s.length) (s ++ [s[i] ++ s[j]]) else .bad) := by
      unfold pCatL; simp only [e1, e2]
    rw [e3] at h; exact h
  by_cases c : s[i].length + s[j].length ≤ big
  · rw [if_pos c] at h'
    refine ⟨_, _, _, _, rfl, rfl, h1, h2, ?_, fun p hp => ?_⟩
    · rw [r1.length, r2.length]; exact big_le c
    · have st2 := st.newL hp (Reps.append r1 r2)
      have ex2 : Ex ℓ s.length H (ext ℓ s.length p) (s.length + 1) (upd H p (.lst (vs ++ us))) := Ex.newL hp
      have el : (s ++ [s[i] ++ s[j]]).length = s.length + 1 := by simp
      refine GoR.now h' (ℓ' := ext ℓ s.length p) (by rw [el]; exact ex2) (by rw [el]; exact st2) ?_
      rw [el]
      exact ⟨Nat.lt_succ_self _, by rw [ext_at]⟩
  · rw [if_neg c] at h'
    exact h'.elim
def pCatT : P2 := fun a b s => match a, b with
  | .tup xs, .tup ys => if xs.length + ys.length ≤ big then .ok (.tup (xs ++ ys)) s else .bad
  | _, _ => .bad
theorem sound_catT : Sound2 K pCatT (rCatA K) := by
  intro T W ℓ s H σ a b x y Q st ra rb h
  cases a <;> first | exact h.elim | skip
  cases b <;> first | exact h.elim | skip
  rename_i xs ys
  obtain ⟨p, vs, rfl, h1, r1⟩ := ra
  obtain ⟨q, us, rfl, h2, r2⟩ := rb
  have h' : GoR T K W ℓ s.length H σ (Rep K) (if xs.length + ys.length ≤ big then .ok (.tup (xs ++ ys)) s else .bad) Q := h
  by_cases c : xs.length + ys.length ≤ big
  · rw [if_pos c] at h'
    refine ⟨p, q, vs, us, rfl, rfl, h1, h2, by rw [r1.length, r2.length]; exact big_le c, fun e => ?_, fun _ e => ?_, fun _ _ z hz => ?_⟩
    · have e2 : xs = [] := by
        cases xs with
        | nil => rfl
        | cons a r => have := r1.length; rw [e] at this; simp at this
      subst e2
      exact GoR.here h' st ⟨q, us, rfl, h2, r2⟩
    · have e2 : ys = [] := by
        cases ys with
        | nil => rfl
        | cons a r => have := r2.length; rw [e] at this; simp at this
      subst e2
      rw [List.append_nil] at h'
      exact GoR.here h' st ⟨p, vs, rfl, h1, r1⟩
    · have ex2 : Ex ℓ s.length H ℓ s.length (upd H z (.tup (vs ++ us))) := Ex.new_ hz
      exact GoR.now h' ex2 (st.new_ hz) ⟨z, vs ++ us, rfl, SqT.of upd_same, Reps.append (Reps.up ex2 st _ _ r1) (Reps.up ex2 st _ _ r2)⟩
  · rw [if_neg c] at h'
    exact h'.elim
def pCatS : P2 := fun a b s => match a, b with
  | .str x, .str y => if x.length + y.length ≤ big then .ok (.str (x ++ y)) s else .bad
  | _, _ => .bad
def pSubB : P2 := fun a b s => match a, b with | .bl p, .bl q => .ok (.int (b2i p - b2i q)) s | _, _ => .bad
theorem op_subB : OpR X (binaryOp .Sub) (fun x y H Q => ∃ p q, x = .bl p ∧ y = .bl q ∧ Q (.int (b2i p - b2i q)) H) := by
  intro pins s σ H x y v u Q I rx ry h
  obtain ⟨p, q, rfl, rfl, k⟩ := h
  cases rx
  cases ry
  exact PyProof.Rows.sub_bool ⟨.int (b2i p - b2i q), H, I.tok _, ⟨_, rfl⟩, k⟩
theorem sound_subB : Sound2 K pSubB (fun x y H Q => ∃ p q, x = .bl p ∧ y = .bl q ∧ Q (.int (b2i p - b2i q)) H) := by
  intro T W ℓ s H σ a b x y Q st ra rb h
  cases a <;> first | exact h.elim | skip
  cases b <;> first | exact h.elim | skip
  exact ⟨_, _, ra, rb, GoR.here h st rfl⟩
theorem op_addS : OpR X (binaryOp .Add) (fun x y H Q => ∃ i j, x = .str i ∧ y = .str j ∧ i.length + j.length ≤ sizeLine ∧ Q (.str (i ++ j)) H) := op_add_str
theorem sound_addS : Sound2 K pCatS (fun x y H Q => ∃ i j, x = .str i ∧ y = .str j ∧ i.length + j.length ≤ sizeLine ∧ Q (.str (i ++ j)) H) := by
  intro T W ℓ s H σ a b x y Q st ra rb h
  cases a <;> first | exact h.elim | skip
  cases b <;> first | exact h.elim | skip
  rename_i xs ys
  have h' : GoR T K W ℓ s.length H σ (Rep K) (if xs.length + ys.length ≤ big then .ok (.str (xs ++ ys)) s else .bad) Q := h
  by_cases c : xs.length + ys.length ≤ big
  · rw [if_pos c] at h'
    exact ⟨xs, ys, ra, rb, big_le c, GoR.here h' st rfl⟩
  · rw [if_neg c] at h'
    exact h'.elim
/-- + -/
def pAdd : P2 := por (pI0 fun i j => .int (i + j)) (por pCatL (por pCatT pCatS))
def pSub : P2 := por (pI0 fun i j => .int (i - j)) pSubB
def pMul : P2 := pI (fun i j => decide (i.natAbs.log2 + j.natAbs.log2 < 1000000)) fun i j => .int (i * j)
def pDiv : P2 := pI (fun i j => decide (j ≠ 0 ∧ (j.natAbs < 1073741824 ∨ (0 < j ∧ j.natAbs.log2 < 9000)))) fun i j => .int (i.fdiv j)
def pMod : P2 := pI (fun _ j => decide (j ≠ 0)) fun i j => .int (i.fmod j)
def pPow : P2 := pI (fun i j => decide (0 ≤ j ∧ j ≤ 1000000 ∧ i.natAbs < 2 ^ 64)) fun i j => .int (i ^ j.toNat)
variable {a b : Expr} {ma mb : ME} {pos : Pos}
theorem re_add (ha : PE X a (teOf T X.K W ma)) (hb : PE X b (teOf T X.K W mb)) : PE X (.BinOp a .Add b pos) (teOf T X.K W (mOp2 pAdd ma mb)) :=
  re_op (OpR.or op_add (OpR.or op_cat (OpR.or op_catA op_addS))) (Sound2.or (sound_I0 fun _ _ _ _ _ _ => rfl) (Sound2.or sound_catL (Sound2.or sound_catT sound_addS))) ha hb
theorem re_sub (ha : PE X a (teOf T X.K W ma)) (hb : PE X b (teOf T X.K W mb)) : PE X (.BinOp a .Sub b pos) (teOf T X.K W (mOp2 pSub ma mb)) :=
  re_op (OpR.or op_sub op_subB) (Sound2.or (sound_I0 fun _ _ _ _ _ _ => rfl) sound_subB) ha hb
theorem re_mul (ha : PE X a (teOf T X.K W ma)) (hb : PE X b (teOf T X.K W mb)) : PE X (.BinOp a .Mult b pos) (teOf T X.K W (mOp2 pMul ma mb)) :=
  re_op op_mulW (sound_I (fun i j h => (of_decide_eq_true h : i.natAbs.log2 + j.natAbs.log2 < 1000000)) fun _ _ _ _ _ _ => rfl) ha hb
def CDivA (i j : Int) : Prop := j ≠ 0 ∧ (j.natAbs < 1073741824 ∨ (0 < j ∧ j.natAbs.log2 < 9000))
theorem op_divA : OpR X (binaryOp .FloorDiv) (rI CDivA fun i j => .int (i.fdiv j)) := opI fun i j _ _ _ _ _ hc q => by
  obtain ⟨h0, h | ⟨h1, h2⟩⟩ := hc
  · exact floordiv_int h0 q (.inl (PyProof.noPylong_small h))
  · exact floordiv_int h0 q (.inl (PyProof.noPylong_of_log2 h2))
theorem re_div (ha : PE X a (teOf T X.K W ma)) (hb : PE X b (teOf T X.K W mb)) : PE X (.BinOp a .FloorDiv b pos) (teOf T X.K W (mOp2 pDiv ma mb)) :=
  re_op op_divA (sound_I (fun i j h => (of_decide_eq_true h : j ≠ 0 ∧ (j.natAbs < 1073741824 ∨ (0 < j ∧ j.natAbs.log2 < 9000)))) fun _ _ _ _ _ _ => rfl) ha hb
theorem re_mod (ha : PE X a (teOf T X.K W ma)) (hb : PE X b (teOf T X.K W mb)) : PE X (.BinOp a .Mod b pos) (teOf T X.K W (mOp2 pMod ma mb)) :=
  re_op op_modN (sound_I (fun _ _ h => of_decide_eq_true h) fun _ _ _ _ _ _ => rfl) ha hb
theorem re_pow (ha : PE X a (teOf T X.K W ma)) (hb : PE X b (teOf T X.K W mb)) : PE X (.BinOp a .Pow b pos) (teOf T X.K W (mOp2 pPow ma mb)) :=
  re_op op_pow (sound_I (fun i j h => (of_decide_eq_true h : 0 ≤ j ∧ j ≤ 1000000 ∧ i.natAbs < 2 ^ 64)) fun _ _ _ _ _ _ => rfl) ha hb
/-! ## comparisons -/
def pLt : P2 := pI0 fun i j => .bl (decide (i < j))
def pLe : P2 := pI0 fun i j => .bl (decide (i ≤ j))
def pGt : P2 := pI0 fun i j => .bl (decide (j < i))
def pGe : P2 := pI0 fun i j => .bl (decide (j ≤ i))
/-- all of a list -/
def allP {α : Type} (f : D → Option α) : List D → Option (List α)
  | [] => some []
  | d :: ds => (f d).bind fun x => (allP f ds).map fun r => x :: r
/-- a value as data, to the depth k -/
def pyOf (s : Sto) : Nat → D → Option PyData
  | 0, _ => none
  | k + 1, d => match d with
    | .non => some .none
    | .bl b => some (.bool b)
    | .int i => some (.int i)
    | .str x => if PySem.PyData.strOk x then some (.str x) else none
    | .tup xs => (allP (pyOf s k) xs).map .tuple
    | .ro xs => (allP (pyOf s k) xs).map .list
    | .lst n => match s[n]? with | some xs => (allP (pyOf s k) xs).map .list | none => none
theorem allP_cons {α : Type} {f : D → Option α} {d : D} {ds : List D} {l : List α} (h : allP f (d :: ds) = some l) : ∃ x r, l = x :: r ∧ f d = some x ∧ allP f ds = some r := by
  unfold allP at h
  cases e : f d with
  | none => rw [e] at h; cases h
  | some x =>
    rw [e] at h
    cases e2 : allP f ds with
    | none => rw [e2] at h; cases h
    | some r => rw [e2] at h; exact ⟨x, r, (Option.some.inj h).symm, rfl, rfl⟩
theorem dpAll_of {n : Nat} {k : Nat} (ih : ∀ d v p, Rep K ℓ n H d v → pyOf s k d = some p → Dp K H v p ∧ p.canLay0 = true ∧ p.depth ≤ k) :
    ∀ (ds : List D) (vs : List V) (l : List PyData), Reps K ℓ n H ds vs → allP (pyOf s k) ds = some l → DpAll K H vs l ∧ PyData.canLayAll0 l = true ∧ PyData.depthAll l ≤ k
  | [], _, _, r, h => by
    cases r
    cases h
    exact ⟨.nil, by simp [PyData.canLayAll0], by simp [PyData.depthAll]⟩
  | d :: ds, _, _, r, h => by
    obtain ⟨v, vs, rfl, r1, r2⟩ := r
    obtain ⟨x, l, rfl, h1, h2⟩ := allP_cons h
    obtain ⟨a1, a2, a3⟩ := ih d v x r1 h1
    obtain ⟨b1, b2, b3⟩ := dpAll_of ih ds vs l r2 h2
    refine ⟨.cons a1 b1, by simp [PyData.canLayAll0, a2, b2], ?_⟩
    simp only [PyData.depthAll]
    omega
theorem dp_of {n : Nat} (st : StOk T K ℓ n H s) : ∀ (k : Nat) (d : D) (v : V) (p : PyData), Rep K ℓ n H d v → pyOf s k d = some p → Dp K H v p ∧ p.canLay0 = true ∧ p.depth ≤ k
  | 0, _, _, _, _, h => by cases h
  | k + 1, d, v, p, r, h => by
    have all := dpAll_of (dp_of st k)
    cases d with
    | non => cases h; cases r; exact ⟨.non, by simp [PyData.canLay0], by simp [PyData.depth]⟩
    | bl b => cases h; cases r; exact ⟨.bl b, by simp [PyData.canLay0], by simp [PyData.depth]⟩
    | int i => cases h; cases r; exact ⟨.int i, by simp [PyData.canLay0], by simp [PyData.depth]⟩
    | str x =>
      have h' : (if PySem.PyData.strOk x then some (PyData.str x) else none) = some p := h
      split at h'
      · rename_i hx
        cases h'; cases r
        exact ⟨.str x, by simp [PyData.canLay0, hx], by simp [PyData.depth]⟩
      · cases h'
    | tup xs =>
      obtain ⟨a, vs, rfl, r1, r2⟩ := r
      have h' : (allP (pyOf s k) xs).map PyData.tuple = some p := h
      cases e : allP (pyOf s k) xs with
      | none => rw [e] at h'; cases h'
      | some l =>
        rw [e] at h'; cases h'
        obtain ⟨b1, b2, b3⟩ := all xs vs l r2 e
        exact ⟨.tup r1 b1, by simp only [PyData.canLay0]; exact b2, by simp only [PyData.depth]; omega⟩
    | ro xs =>
      obtain ⟨a, vs, rfl, r1, r2⟩ := r
      have h' : (allP (pyOf s k) xs).map PyData.list = some p := h
      cases e : allP (pyOf s k) xs with
      | none => rw [e] at h'; cases h'
      | some l =>
        rw [e] at h'; cases h'
        obtain ⟨b1, b2, b3⟩ := all xs vs l r2 e
        exact ⟨.lst r1.l b1, by simp only [PyData.canLay0]; exact b2, by simp only [PyData.depth]; omega⟩
    | lst m =>
      obtain ⟨hm, rfl⟩ := r
      have h' : (match s[m]? with | some xs => (allP (pyOf s k) xs).map PyData.list | none => none) = some p := h
      have e0 : s[m]? = some (s[m]'(by rw [← st.len]; exact hm)) := List.getElem?_eq_getElem _
      rw [e0] at h'
      obtain ⟨vs, r1, r2⟩ := st.at_ m _ e0
      cases e : allP (pyOf s k) (s[m]'(by rw [← st.len]; exact hm)) with
      | none => simp only [e] at h'; cases h'
      | some l =>
        simp only [e] at h'; cases h'
        obtain ⟨b1, b2, b3⟩ := all _ vs l r2 e
        exact ⟨.lst (SqL.of r1) b1, by simp only [PyData.canLay0]; exact b2, by simp only [PyData.depth]; omega⟩
theorem shaped_of {n : Nat} (st : StOk T K ℓ n H s) {k : Nat} {d : D} {v : V} {p : PyData} (r : Rep K ℓ n H d v) (h : pyOf s k d = some p) (hk : k ≤ 60) : Dp K H v p ∧ SeqAt.shaped p = true := by
  obtain ⟨h1, h2, h3⟩ := dp_of st k d v p r h
  refine ⟨h1, ?_⟩
  show (p.canLay0 && decide (p.depth ≤ 64)) = true
  rw [Bool.and_eq_true]
  exact ⟨h2, decide_eq_true (by omega)⟩
def pEqB (neg : Bool) : P2 := fun a b s => match pyOf s 40 a, pyOf s 40 b with
  | some p, some q => .ok (.bl (if neg then !PyData.eqv p q else PyData.eqv p q)) s
  | _, _ => .bad
def pEq : P2 := pEqB false
def pNe : P2 := pEqB true
theorem sound_eq : Sound2 K pEq (rEqD K) := by
  intro T W ℓ s H σ a b x y Q st ra rb h
  unfold pEq pEqB at h
  cases e1 : pyOf s 40 a with
  | none => rw [e1] at h; exact h.elim
  | some p =>
    cases e2 : pyOf s 40 b with
    | none => rw [e1, e2] at h; exact h.elim
    | some q =>
      rw [e1, e2] at h
      obtain ⟨d1, s1⟩ := shaped_of st ra e1 (by decide)
      obtain ⟨d2, s2⟩ := shaped_of st rb e2 (by decide)
      exact ⟨p, q, d1, d2, s1, s2, GoR.here (s := s) h st rfl⟩
theorem sound_ne : Sound2 K pNe (rNeD K) := by
  intro T W ℓ s H σ a b x y Q st ra rb h
  unfold pNe pEqB at h
  cases e1 : pyOf s 40 a with
  | none => rw [e1] at h; exact h.elim
  | some p =>
    cases e2 : pyOf s 40 b with
    | none => rw [e1, e2] at h; exact h.elim
    | some q =>
      rw [e1, e2] at h
      obtain ⟨d1, s1⟩ := shaped_of st ra e1 (by decide)
      obtain ⟨d2, s2⟩ := shaped_of st rb e2 (by decide)
      exact ⟨p, q, d1, d2, s1, s2, GoR.here (s := s) h st rfl⟩
/-- x in xs, x not in xs: of a list of any data -/
def pInB (neg : Bool) : P2 := fun a b s => match pyOf s 40 a, pyOf s 40 b with
  | some p, some (.list qs) => .ok (.bl (if neg then !(qs.any fun z => PyData.eqv z p) else qs.any fun z => PyData.eqv z p)) s
  | _, _ => .bad
theorem sound_in : Sound2 K (pInB false) (rInD K) := by
  intro T W ℓ s H σ a b x y Q st ra rb h
  unfold pInB at h
  cases e1 : pyOf s 40 a with
  | none => rw [e1] at h; exact h.elim
  | some p =>
    cases e2 : pyOf s 40 b with
    | none => rw [e1, e2] at h; exact h.elim
    | some q =>
      rw [e1, e2] at h
      obtain ⟨d1, s1⟩ := shaped_of st ra e1 (by decide)
      obtain ⟨d2, s2⟩ := shaped_of st rb e2 (by decide)
      cases q <;> first | exact h.elim | skip
      exact ⟨p, _, d1, d2, s1, s2, GoR.here (s := s) h st rfl⟩
theorem sound_notIn : Sound2 K (pInB true) (rNotInD K) := by
  intro T W ℓ s H σ a b x y Q st ra rb h
  unfold pInB at h
  cases e1 : pyOf s 40 a with
  | none => rw [e1] at h; exact h.elim
  | some p =>
    cases e2 : pyOf s 40 b with
    | none => rw [e1, e2] at h; exact h.elim
    | some q =>
      rw [e1, e2] at h
      obtain ⟨d1, s1⟩ := shaped_of st ra e1 (by decide)
      obtain ⟨d2, s2⟩ := shaped_of st rb e2 (by decide)
      cases q <;> first | exact h.elim | skip
      exact ⟨p, _, d1, d2, s1, s2, GoR.here (s := s) h st rfl⟩
/-- is None, is not None; is, is not of truths -/
def isNon : D → Bool | .non => true | _ => false
def pIsN (neg : Bool) : P2 := fun a b s => match b with | .non => .ok (.bl (if neg then !isNon a else isNon a)) s | _ => .bad
theorem isNon_iff {n : Nat} : ∀ {d : D} {x : V}, Rep K ℓ n H d x → decide (x = .non) = isNon d
  | .non, _, h => by cases h; rfl
  | .bl _, _, h => by cases h; rfl
  | .int _, _, h => by cases h; rfl
  | .str _, _, h => by cases h; rfl
  | .tup _, _, h => by obtain ⟨a, vs, rfl, _⟩ := h; rfl
  | .lst _, _, h => by obtain ⟨_, rfl⟩ := h; rfl
  | .ro _, _, h => by obtain ⟨a, vs, rfl, _⟩ := h; rfl
theorem sound_isN : Sound2 K (pIsN false) (fun x y H Q => y = .non ∧ Q (.bl (decide (x = .non))) H) := by
  intro T W ℓ s H σ a b x y Q st ra rb h
  cases b <;> first | exact h.elim | skip
  exact ⟨rb, by rw [isNon_iff ra]; exact GoR.here h st rfl⟩
theorem sound_notN : Sound2 K (pIsN true) (fun x y H Q => y = .non ∧ Q (.bl (!decide (x = .non))) H) := by
  intro T W ℓ s H σ a b x y Q st ra rb h
  cases b <;> first | exact h.elim | skip
  exact ⟨rb, by rw [isNon_iff ra]; exact GoR.here h st rfl⟩
def pIsB (neg : Bool) : P2 := fun a b s => match a, b with | .bl p, .bl q => .ok (.bl (if neg then !decide (p = q) else decide (p = q))) s | _, _ => .bad
theorem sound_isB : Sound2 K (pIsB false) rIsB := by
  intro T W ℓ s H σ a b x y Q st ra rb h
  cases a <;> first | exact h.elim | skip
  cases b <;> first | exact h.elim | skip
  exact ⟨_, _, ra, rb, GoR.here h st rfl⟩
theorem sound_notB : Sound2 K (pIsB true) rNotB := by
  intro T W ℓ s H σ a b x y Q st ra rb h
  cases a <;> first | exact h.elim | skip
  cases b <;> first | exact h.elim | skip
  exact ⟨_, _, ra, rb, GoR.here h st rfl⟩
def pIs : P2 := por (pIsN false) (pIsB false)
def pIsNot : P2 := por (pIsN true) (pIsB true)
/-- the rule of each comparison -/
structure CmpOk (X : Cx) (op : CmpOp) (g : P2) : Prop where
  ok : ∃ r, OpR X (compareOp op) r ∧ Sound2 X.K g r
theorem c_lt : CmpOk X .Lt pLt := ⟨_, op_lt, sound_I0 fun _ _ _ _ _ _ => rfl⟩
theorem c_le : CmpOk X .LtE pLe := ⟨_, op_le, sound_I0 fun _ _ _ _ _ _ => rfl⟩
theorem c_gt : CmpOk X .Gt pGt := ⟨_, op_gt, sound_I0 fun _ _ _ _ _ _ => rfl⟩
theorem c_ge : CmpOk X .GtE pGe := ⟨_, op_ge, sound_I0 fun _ _ _ _ _ _ => rfl⟩
theorem c_eq {k : Nat} (hr : Room k X.A) : CmpOk X .Eq pEq := ⟨_, op_eqD (by have := hr.un; omega), sound_eq⟩
theorem c_ne {k : Nat} (hr : Room k X.A) : CmpOk X .NotEq pNe := ⟨_, op_neD (by have := hr.un; omega), sound_ne⟩
theorem c_in {k : Nat} (hr : Room k X.A) : CmpOk X .In (pInB false) := ⟨_, op_inD (by have := hr.un; omega), sound_in⟩
theorem c_notIn {k : Nat} (hr : Room k X.A) : CmpOk X .NotIn (pInB true) := ⟨_, op_notInD (by have := hr.un; omega), sound_notIn⟩
theorem c_is : CmpOk X .Is pIs := ⟨_, OpR.or op_isN op_isBl, Sound2.or sound_isN sound_isB⟩
theorem c_isNot : CmpOk X .IsNot pIsNot := ⟨_, OpR.or op_notN op_notBl, Sound2.or sound_notN sound_notB⟩
theorem re_c {op : CmpOp} {g : P2} (c : CmpOk X op g) (ha : PE X a (teOf T X.K W ma)) (hb : PE X b (teOf T X.K W mb)) (hm : behindInMarks op b = false := by first | exact nomark _ | rfl | with_unfolding_all rfl) : PE X (.Compare a [op] [b] pos) (teOf T X.K W (mOp2 g ma mb)) := by
  obtain ⟨r, h1, h2⟩ := c.ok
  exact re_cmp h1 h2 ha hb hm
theorem rt_c {op : CmpOp} {g : P2} (c : CmpOk X op g) (ha : PE X a (teOf T X.K W ma)) (hb : PE X b (teOf T X.K W mb)) (hm : behindInMarks op b = false := by first | exact nomark _ | rfl | with_unfolding_all rfl) : PT X (.Compare a [op] [b] pos) (ttOf T X.K W (mTru (mOp2 g ma mb))) := by
  obtain ⟨r, h1, h2⟩ := c.ok
  exact rt_cmp h1 h2 ha hb hm
end
end RM
set_option Elab.async false
set_option linter.all false
set_option maxRecDepth 100000
set_option maxHeartbeats 2000000
namespace RM
open PySem PySem.Spec PyProof.Rows L2
section
variable {T : List (Addr × Str)} {K : PySem.W.Frag} {W : WX} {ℓ : Nat → Addr} {s : Sto} {H : Hp} {σ : L2.St} {X : Cx}
variable {a b c e : Expr} {ma mb mc : ME} {pos : Pos}
/-! ## names, constants -/
def mVar (i : Nat) : ME := fun σ s => match σ[i]? with | some (some d) => .ok d s | _ => .bad
theorem re_var {i : Nat} (h : PE X e (tVar i)) : PE X e (teOf T X.K W (mVar i)) := PE.imp h fun σ H Q q => by
  obtain ⟨σd, ℓ, s, en, st, g⟩ := q
  unfold mVar at g
  split at g
  · rename_i d hd
    obtain ⟨v, h1, h2⟩ := en.at_ i d hd
    exact ⟨v, h1, GoR.here g st h2⟩
  · exact g.elim
def mC (d : D) : ME := fun _ s => .ok d s
theorem re_const {v : V} {d : D} (h : PE X e (tC v)) (r : ∀ ℓ n H, Rep X.K ℓ n H d v) : PE X e (teOf T X.K W (mC d)) := PE.imp h fun σ H Q q => by
  obtain ⟨σd, ℓ, s, en, st, g⟩ := q
  exact GoR.here g st (r ..)
theorem re_int {i j pos} : PE X (.Constant (.int i) j pos) (teOf T X.K W (mC (.int i))) := re_const pe_int fun _ _ _ => rfl
theorem re_bl {b j pos} : PE X (.Constant (.bool b) j pos) (teOf T X.K W (mC (.bl b))) := re_const pe_bl fun _ _ _ => rfl
theorem re_non {j pos} : PE X (.Constant .none j pos) (teOf T X.K W (mC .non)) := re_const pe_non fun _ _ _ => rfl
theorem re_str {x j pos} : PE X (.Constant (.str x) j pos) (teOf T X.K W (mC (.str x))) := re_const pe_str fun _ _ _ => rfl
/-- a constant of the module, a tuple of plain data -/
structure GlobIs (K : PySem.W.Frag) (mg : Str → Option Value) (x : Str) (d : D) : Prop where
  is_ : ∃ v u, mg x = some u ∧ RelV v u ∧ ∀ ℓ n H, Rep K ℓ n H d v
theorem re_glob {x : Str} {d : D} (g : GlobIs X.K X.mg x d) (hg : Gl X x) (hd : (x == ("__debug__" : Str)) = false := by decide) : PE X (.Name x pos) (teOf T X.K W (mC d)) := by
  obtain ⟨v, u, h1, h2, h3⟩ := g.is_
  exact re_const (pe_glob hg h1 h2 hd) h3
/-! ## one value -/
abbrev P1 := D → Sto → Res D
def mOp1 (g : P1) (a : ME) : ME := fun σ s => (a σ s).bind g
def Sound1 (K : PySem.W.Frag) (g : P1) (r : V → Hp → VK → Prop) : Prop := ∀ (T : List (Addr × Str)) (W : WX) (ℓ : Nat → Addr) (s : Sto) (H : Hp) (σ : L2.St) (a : D) (x : V) (Q : VK), StOk T K ℓ s.length H s → Rep K ℓ s.length H a x →
  GoR T K W ℓ s.length H σ (Rep K) (g a s) Q → r x H Q
theorem op1 {g : P1} {r : V → Hp → VK → Prop} {m : ME} {Q : VK} (hs : Sound1 K g r) (h : teOf T K W (mOp1 g m) σ H Q) : tUn r (teOf T K W m) σ H Q := by
  refine tR.imp (tR.one (f := fun _ => g) (R := Rep K) h) fun x H1 h1 => ?_
  obtain ⟨σd, ℓ₁, s₁, d, en, st, q, g1⟩ := h1
  exact hs T W ℓ₁ s₁ H1 σ d x Q st q g1
def pNeg : P1 := fun a s => match a with | .int i => .ok (.int (-i)) s | _ => .bad
theorem re_neg (ha : PE X a (teOf T X.K W ma)) : PE X (.UnaryOp .USub a pos) (teOf T X.K W (mOp1 pNeg ma)) :=
  PE.imp (pe_un un_neg ha) fun _ _ _ h => op1 (fun T W ℓ s H σ d x Q st r g => by
    cases d <;> first | exact g.elim | skip
    exact ⟨_, r, GoR.here g st rfl⟩) h
/-! ## rows of arguments -/
def mNil : MA := fun _ s => .ok [] s
def mCons (a : ME) (r : MA) : MA := fun σ s => (a σ s).bind fun d s => (r σ s).bind fun ds s => .ok (d :: ds) s
theorem ra_nil : PA X [] (taOf T X.K W mNil) := PA.imp pa_nil fun σ H Q q => by
  obtain ⟨σd, ℓ, s, en, st, g⟩ := q
  exact GoR.here g st Reps.nil
theorem ra_cons {es : List Expr} {mr : MA} (ha : PE X a (teOf T X.K W ma)) (hr : PA X es (taOf T X.K W mr)) (hs : starEach (a :: es) X.env = (false, eval a X.env) :: starEach es X.env := by rfl) : PA X (a :: es) (taOf T X.K W (mCons ma mr)) :=
  PA.imp (pa_cons ha hr hs) fun σ H Q h => by
    refine tR.imp (tR.one (R := Rep X.K) h) fun x H1 h1 => ?_
    obtain ⟨σd, ℓ₁, s₁, d, en, st, q, g1⟩ := h1
    have g2 : tR T X.K W (Reps X.K) mr σ H1 _ := ⟨σd, ℓ₁, s₁, en, st, GoR.bind (R := Reps X.K) g1⟩
    refine tR.imp g2 fun xs H2 h2 => ?_
    obtain ⟨ℓ₂, s₂, ds, ex, st2, q2, g3⟩ := h2
    exact GoR.here g3 st2 (Reps.cons (Rep.up ex st d x q) q2)
/-- something made of a row of values -/
abbrev PN := List D → Sto → Res D
def mOpN (g : PN) (a : MA) : ME := fun σ s => (a σ s).bind g
def SoundN (K : PySem.W.Frag) (g : PN) (r : List V → Hp → VK → Prop) : Prop := ∀ (T : List (Addr × Str)) (W : WX) (ℓ : Nat → Addr) (s : Sto) (H : Hp) (σ : L2.St) (ds : List D) (xs : List V) (Q : VK), StOk T K ℓ s.length H s → Reps K ℓ s.length H ds xs →
  GoR T K W ℓ s.length H σ (Rep K) (g ds s) Q → r xs H Q
theorem opN {g : PN} {r : List V → Hp → VK → Prop} {m : MA} {Q : VK} (hs : SoundN K g r) (h : teOf T K W (mOpN g m) σ H Q) : taOf T K W m σ H fun xs H1 => r xs H1 Q := by
  refine tR.imp (tR.one (f := fun _ => g) (R := Reps K) h) fun x H1 h1 => ?_
  obtain ⟨σd, ℓ₁, s₁, d, en, st, q, g1⟩ := h1
  exact hs T W ℓ₁ s₁ H1 σ d x Q st q g1
def pTup : PN := fun ds s => if ds.length ≤ big then .ok (.tup ds) s else .bad
def pLst : PN := fun ds s => if ds.length ≤ big then .ok (.lst s.length) (s ++ [ds]) else .bad
/-- a list laid -/
theorem go_newL {ds : List D} {vs : List V} {Q : VK} {p : Addr} (h : GoR T K W ℓ s.length H σ (Rep K) (.ok (.lst s.length) (s ++ [ds])) Q) (st : StOk T K ℓ s.length H s) (r : Reps K ℓ s.length H ds vs) (hp : H p = none) : Q (.ref p) (upd H p (.lst vs)) := by
  have el : (s ++ [ds]).length = s.length + 1 := by simp
  refine GoR.now h (ℓ' := ext ℓ s.length p) (by rw [el]; exact Ex.newL hp) (by rw [el]; exact st.newL hp r) ?_
  rw [el]
  exact ⟨Nat.lt_succ_self _, by rw [ext_at]⟩
/-- a tuple laid -/
theorem go_newT {ds : List D} {vs : List V} {Q : VK} {p : Addr} (h : GoR T K W ℓ s.length H σ (Rep K) (.ok (.tup ds) s) Q) (st : StOk T K ℓ s.length H s) (r : Reps K ℓ s.length H ds vs) (hp : H p = none) : Q (.ref p) (upd H p (.tup vs)) :=
  GoR.now h (Ex.new_ hp) (st.new_ hp) ⟨p, vs, rfl, SqT.of upd_same, Reps.up (Ex.new_ hp) st _ _ r⟩
theorem re_tup {es : List Expr} {m : MA} {k : Nat} (h : PA X es (taOf T X.K W m)) : PE X (.Tuple es k pos) (teOf T X.K W (mOpN pTup m)) :=
  PE.imp (pe_tup h) fun _ _ _ h => opN (r := fun xs H1 Q => xs.length ≤ sizeLine ∧ ∀ p, H1 p = none → Q (V.ref p) (upd H1 p (HO.tup xs))) (fun T W ℓ s H σ ds xs Q st r g => by
    unfold pTup at g
    by_cases c : ds.length ≤ big
    · rw [if_pos c] at g
      exact ⟨by rw [r.length]; exact big_le c, fun p hp => go_newT g st r hp⟩
    · rw [if_neg c] at g; exact g.elim) h
theorem re_lst {es : List Expr} {m : MA} (h : PA X es (taOf T X.K W m)) : PE X (.List es pos) (teOf T X.K W (mOpN pLst m)) :=
  PE.imp (pe_lst h) fun _ _ _ h => opN (r := fun xs H1 Q => xs.length ≤ sizeLine ∧ ∀ p, H1 p = none → Q (V.ref p) (upd H1 p (HO.lst xs))) (fun T W ℓ s H σ ds xs Q st r g => by
    unfold pLst at g
    by_cases c : ds.length ≤ big
    · rw [if_pos c] at g
      exact ⟨by rw [r.length]; exact big_le c, fun p hp => go_newL g st r hp⟩
    · rw [if_neg c] at g; exact g.elim) h
/-! ## an item -/
def pIx : P2 := fun a b s => match a, b with
  | .tup xs, .int i => match atI xs i with | some d => .ok d s | none => .bad
  | .lst n, .int i => match s[n]? with | some xs => (match atI xs i with | some d => .ok d s | none => .bad) | none => .bad
  | .ro xs, .int i => match atI xs i with | some d => .ok d s | none => .bad
  | .str z, .int i => if z.length ≤ big then (match atI z.cps.toList i with | some c => .ok (.str ⟨#[c]⟩) s | none => .bad) else .bad
  | _, _ => .bad
theorem Reps.atI {n : Nat} {ds : List D} {vs : List V} {i : Int} {d : D} (r : Reps K ℓ n H ds vs) (h : L2.atI ds i = some d) : ∃ v, L2.atI vs i = some v ∧ Rep K ℓ n H d v := by
  unfold L2.atI at h ⊢
  rw [r.length]
  cases e : ixN ds.length i with
  | none => rw [e] at h; cases h
  | some j =>
    rw [e] at h
    exact r.get (show ds[j]? = some d from h)
theorem sound_ix : Sound2 K pIx (rIx K) := by
  intro T W ℓ s H σ a b x y Q st ra rb h
  unfold pIx at h
  cases a <;> first | exact h.elim | skip
  · -- a text
    rename_i z
    cases b <;> first | exact h.elim | skip
    rename_i i
    cases ra; cases rb
    simp only at h
    split at h
    · rename_i hz
      split at h
      · rename_i c hc
        exact .inr (.inr ⟨z, i, c, rfl, rfl, big_le hz, hc, GoR.here h st rfl⟩)
      · exact h.elim
    · exact h.elim
  · rename_i xs
    cases b <;> first | exact h.elim | skip
    rename_i i
    obtain ⟨p, vs, rfl, h1, r1⟩ := ra
    cases rb
    simp only at h
    split at h
    · rename_i d hd
      obtain ⟨v, e1, e2⟩ := r1.atI hd
      exact .inr (.inl ⟨p, vs, i, v, rfl, rfl, h1, e1, GoR.here h st e2⟩)
    · exact h.elim
  · rename_i m
    cases b <;> first | exact h.elim | skip
    rename_i i
    obtain ⟨hm, rfl⟩ := ra
    cases rb
    simp only at h
    split at h
    · rename_i xs hx
      obtain ⟨vs, h1, r1⟩ := st.at_ m xs hx
      split at h
      · rename_i d hd
        obtain ⟨v, e1, e2⟩ := r1.atI hd
        exact .inl ⟨_, vs, i, v, rfl, rfl, SqL.of h1, e1, GoR.here h st e2⟩
      · exact h.elim
    · exact h.elim
  · rename_i xs
    cases b <;> first | exact h.elim | skip
    rename_i i
    obtain ⟨p, vs, rfl, h1, r1⟩ := ra
    cases rb
    simp only at h
    split at h
    · rename_i d hd
      obtain ⟨v, e1, e2⟩ := r1.atI hd
      exact .inl ⟨p, vs, i, v, rfl, rfl, h1.l, e1, GoR.here h st e2⟩
    · exact h.elim
theorem re_ix (ha : PE X a (teOf T X.K W ma)) (hb : PE X b (teOf T X.K W mb)) (hs : PlainIx b := by exact fun _ _ => rfl) : PE X (.Subscript a b pos) (teOf T X.K W (mOp2 pIx ma mb)) :=
  PE.imp (pe_ix ix_seq ha hb hs) fun _ _ _ h => op2 sound_ix h
/-! ## a slice -/
abbrev MO := MR (Option Int)
def mNoPart : MO := fun _ s => .ok none s
def mPart (m : ME) : MO := fun σ s => (m σ s).bind fun d s => match d with | .int i => .ok (some i) s | _ => .bad
theorem ro_none : PO X none (toOf T X.K W mNoPart) := PO.imp po_none fun σ H Q q => by
  obtain ⟨σd, ℓ, s, en, st, g⟩ := q
  exact GoR.here g st rfl
theorem ro_some {m : ME} (h : PE X e (teOf T X.K W m)) : PO X (some e) (toOf T X.K W (mPart m)) := PO.imp (po_some h) fun σ H Q h => by
  refine tR.imp (tR.one (R := Rep X.K) h) fun x H1 h1 => ?_
  obtain ⟨σd, ℓ₁, s₁, d, en, st, q, g1⟩ := h1
  cases d <;> first | exact g1.elim | skip
  exact ⟨_, q, GoR.here g1 st rfl⟩
def cutD (xs : List D) (lo hi : Option Int) : List D := (xs.drop (HT.sIx xs.length 0 lo)).take (HT.sIx xs.length xs.length hi - HT.sIx xs.length 0 lo)
theorem Reps.cut {n : Nat} {ds : List D} {vs : List V} (r : Reps K ℓ n H ds vs) (lo hi : Option Int) : Reps K ℓ n H (cutD ds lo hi) (cutV vs lo hi) := by
  unfold cutD cutV
  rw [r.length]
  exact (r.drop _).take _
def pSl (a : D) (lo hi : Option Int) (s : Sto) : Res D := match a with
  | .tup xs => .ok (.tup (cutD xs lo hi)) s
  | .lst n => match s[n]? with | some xs => .ok (.lst s.length) (s ++ [cutD xs lo hi]) | none => .bad
  | .ro xs => .ok (.lst s.length) (s ++ [cutD xs lo hi])
  | _ => .bad
def mSl (a : ME) (lo hi : MO) : ME := fun σ s => (a σ s).bind fun d s => (lo σ s).bind fun l s => (hi σ s).bind fun u s => pSl d l u s
theorem SlR.or {r r' : V → Option Int → Option Int → Hp → VK → Prop} (h : SlR X r) (h' : SlR X r') : SlR X (fun x lo hi H Q => r x lo hi H Q ∨ r' x lo hi H Q) := by
  intro pins s σ H x v vl vu lo hi sl Q I rx h1 h2 h3 q
  rcases q with q | q
  · exact h pins s σ H x v vl vu lo hi sl Q I rx h1 h2 h3 q
  · exact h' pins s σ H x v vl vu lo hi sl Q I rx h1 h2 h3 q
theorem re_sl {lo hi : Option Expr} {ml mh : MO} {p2 : Pos} (ha : PE X a (teOf T X.K W ma)) (hl : PO X lo (toOf T X.K W ml)) (hh : PO X hi (toOf T X.K W mh)) : PE X (.Subscript a (.Slice lo hi none p2) pos) (teOf T X.K W (mSl ma ml mh)) :=
  PE.imp (pe_slice (SlR.or sl_list sl_tupA) ha hl hh) fun σ H Q h => by
    refine tR.imp (tR.one (R := Rep X.K) h) fun x H1 h1 => ?_
    obtain ⟨σd, ℓ₁, s₁, d, en, st, q, g1⟩ := h1
    have g2 : tR T X.K W RelI ml σ H1 _ := ⟨σd, ℓ₁, s₁, en, st, GoR.bind (R := RelI) g1⟩
    refine tR.imp g2 fun l H2 h2 => ?_
    obtain ⟨ℓ₂, s₂, l', ex, st2, q2, g3⟩ := h2
    obtain rfl : l = l' := q2
    have g4 : tR T X.K W RelI mh σ H2 _ := ⟨σd, ℓ₂, s₂, en.up ex st, st2, GoR.bind (R := RelI) g3⟩
    refine tR.imp g4 fun u H3 h3 => ?_
    obtain ⟨ℓ₃, s₃, u', ex3, st3, q3, g5⟩ := h3
    obtain rfl : u = u' := q3
    have rd := Rep.up ex3 st2 d x (Rep.up ex st d x q)
    cases d <;> first | exact g5.elim | skip
    · rename_i xs
      obtain ⟨p, vs, rfl, h4, r4⟩ := rd
      have g6 : GoR T X.K W ℓ₃ s₃.length H3 σ (Rep X.K) (.ok (.tup (cutD xs l u)) s₃) Q := g5
      have rc := Reps.cut r4 l u
      refine .inr ⟨p, vs, rfl, h4, fun ⟨e1, e2⟩ => ?_, fun _ z hz => go_newT g6 st3 rc hz⟩
      have ec : cutV vs l u = vs := by
        unfold cutV
        rw [e1, e2, List.drop_zero, Nat.sub_zero, List.take_length]
      rw [ec] at rc
      exact GoR.here g6 st3 ⟨p, vs, rfl, h4, rc⟩
    · rename_i m
      obtain ⟨hm, rfl⟩ := rd
      have g6 : GoR T X.K W ℓ₃ s₃.length H3 σ (Rep X.K) (match s₃[m]? with | some xs => .ok (.lst s₃.length) (s₃ ++ [cutD xs l u]) | none => .bad) Q := g5
      split at g6
      · rename_i xs hx
        obtain ⟨vs, h4, r4⟩ := st3.at_ m xs hx
        exact .inl ⟨_, vs, rfl, SqL.of h4, fun z hz => go_newL g6 st3 (Reps.cut r4 l u) hz⟩
      · exact g6.elim
    · rename_i xs
      obtain ⟨p, vs, rfl, h4, r4⟩ := rd
      exact .inl ⟨p, vs, rfl, h4.l, fun z hz => go_newL g5 st3 (Reps.cut r4 l u) hz⟩
/-! ## tests -/
def mAndT (a b : MT) : MT := fun σ s => (a σ s).bind fun k s => if k then b σ s else .ok false s
def mOrT (a b : MT) : MT := fun σ s => (a σ s).bind fun k s => if k then .ok true s else b σ s
def mNotT (a : MT) : MT := fun σ s => (a σ s).bind fun k s => .ok (!k) s
variable {ta tb : MT} {rest : List Expr}
theorem rt_not (ha : PT X a (ttOf T X.K W ta)) : PT X (.UnaryOp .Not a pos) (ttOf T X.K W (mNotT ta)) := PT.imp (pt_not ha) fun σ H Q h => by
  refine tR.imp (tR.one (R := RelB) h) fun x H1 h1 => ?_
  obtain ⟨σd, ℓ₁, s₁, d, en, st, q, g1⟩ := h1
  obtain rfl : x = d := q
  exact GoR.here g1 st rfl
theorem rw_and1 (ha : PT X a (ttOf T X.K W ta)) : PW X (.BoolOp .And [a] pos) (ttOf T X.K W ta) := pw_and1 ha
theorem rw_or1 (ha : PT X a (ttOf T X.K W ta)) : PW X (.BoolOp .Or [a] pos) (ttOf T X.K W ta) := pw_or1 ha
theorem rw_and (ha : PT X a (ttOf T X.K W ta)) (hb : PW X (.BoolOp .And (b :: rest) pos) (ttOf T X.K W tb)) : PW X (.BoolOp .And (a :: b :: rest) pos) (ttOf T X.K W (mAndT ta tb)) := PW.imp (pw_and ha hb) fun σ H Q h => by
  refine tR.imp (tR.one (R := RelB) h) fun x H1 h1 => ?_
  obtain ⟨σd, ℓ₁, s₁, d, en, st, q, g1⟩ := h1
  obtain rfl : x = d := q
  cases x with
  | true => exact ⟨σd, ℓ₁, s₁, en, st, g1⟩
  | false => exact GoR.here g1 st rfl
theorem rw_or (ha : PT X a (ttOf T X.K W ta)) (hb : PW X (.BoolOp .Or (b :: rest) pos) (ttOf T X.K W tb)) : PW X (.BoolOp .Or (a :: b :: rest) pos) (ttOf T X.K W (mOrT ta tb)) := PW.imp (pw_or ha hb) fun σ H Q h => by
  refine tR.imp (tR.one (R := RelB) h) fun x H1 h1 => ?_
  obtain ⟨σd, ℓ₁, s₁, d, en, st, q, g1⟩ := h1
  obtain rfl : x = d := q
  cases x with
  | true => exact GoR.here g1 st rfl
  | false => exact ⟨σd, ℓ₁, s₁, en, st, g1⟩
/-- as values -/
def mAnd (a b : ME) : ME := fun σ s => (a σ s).bind fun d s => match d with | .bl true => b σ s | .bl false => .ok (.bl false) s | _ => .bad
def mOr (a b : ME) : ME := fun σ s => (a σ s).bind fun d s => match d with | .bl true => .ok (.bl true) s | .bl false => b σ s | _ => .bad
def pNot : P1 := fun a s => match a with | .bl b => .ok (.bl (!b)) s | _ => .bad
theorem re_one {op} (h : PE X a (teOf T X.K W ma)) : PE X (.BoolOp op [a] pos) (teOf T X.K W ma) := pe_one h
theorem re_and (ha : PE X a (teOf T X.K W ma)) (hb : PE X (.BoolOp .And (b :: rest) pos) (teOf T X.K W mb)) : PE X (.BoolOp .And (a :: b :: rest) pos) (teOf T X.K W (mAnd ma mb)) := PE.imp (pe_and ha hb) fun σ H Q h => by
  refine tR.imp (tR.one (R := Rep X.K) h) fun x H1 h1 => ?_
  obtain ⟨σd, ℓ₁, s₁, d, en, st, q, g1⟩ := h1
  cases d <;> first | exact g1.elim | skip
  rename_i k
  refine ⟨k, q, ?_⟩
  cases k with
  | true => exact ⟨σd, ℓ₁, s₁, en, st, g1⟩
  | false => exact GoR.here g1 st rfl
theorem re_or (ha : PE X a (teOf T X.K W ma)) (hb : PE X (.BoolOp .Or (b :: rest) pos) (teOf T X.K W mb)) : PE X (.BoolOp .Or (a :: b :: rest) pos) (teOf T X.K W (mOr ma mb)) := PE.imp (pe_or ha hb) fun σ H Q h => by
  refine tR.imp (tR.one (R := Rep X.K) h) fun x H1 h1 => ?_
  obtain ⟨σd, ℓ₁, s₁, d, en, st, q, g1⟩ := h1
  cases d <;> first | exact g1.elim | skip
  rename_i k
  refine ⟨k, q, ?_⟩
  cases k with
  | true => exact GoR.here g1 st rfl
  | false => exact ⟨σd, ℓ₁, s₁, en, st, g1⟩
theorem re_not (ha : PE X a (teOf T X.K W ma)) : PE X (.UnaryOp .Not a pos) (teOf T X.K W (mOp1 pNot ma)) := PE.imp (pe_not ha) fun σ H Q h => by
  refine tR.imp (tR.one (f := fun _ => pNot) (R := Rep X.K) h) fun x H1 h1 => ?_
  obtain ⟨σd, ℓ₁, s₁, d, en, st, q, g1⟩ := h1
  cases d <;> first | exact g1.elim | skip
  exact ⟨_, q, GoR.here g1 st rfl⟩
def mIf (t : MT) (a b : ME) : ME := fun σ s => (t σ s).bind fun k s => if k then a σ s else b σ s
theorem re_if (hc : PT X c (ttOf T X.K W ta)) (ha : PE X a (teOf T X.K W ma)) (hb : PE X b (teOf T X.K W mb)) : PE X (.IfExp c a b pos) (teOf T X.K W (mIf ta ma mb)) := PE.imp (pe_ifExp hc ha hb) fun σ H Q h => by
  refine tR.imp (tR.one (R := RelB) h) fun x H1 h1 => ?_
  obtain ⟨σd, ℓ₁, s₁, d, en, st, q, g1⟩ := h1
  obtain rfl : x = d := q
  cases x with
  | true => exact ⟨σd, ℓ₁, s₁, en, st, g1⟩
  | false => exact ⟨σd, ℓ₁, s₁, en, st, g1⟩
/-! ## built-ins -/
structure CallOk (X : Cx) (f : Value) (g : PN) : Prop where
  ok : ∃ r, CallR X f r ∧ SoundN X.K g r
theorem re_callB {x : Str} {es : List Expr} {m : MA} {p : Pos} {nm : String} {g : PN} (c : CallOk X (.builtin nm) g) (hg : Gl X x) (hm : X.mg x = none) (hv : bootBuiltins x = some (.builtin nm)) (ha : PA X (e :: es) (taOf T X.K W m))
    (hn : x ≠ "__name__" := by decide) (hd : (x == ("__debug__" : Str)) = false := by decide) (he : starEach (e :: es) X.env = (false, eval e X.env) :: starEach es X.env := by rfl) (hpl : (backTo pos (starEach es X.env)).any (·.1) = false := by rfl) :
    PE X (.Call (.Name x p) (e :: es) [] pos) (teOf T X.K W (mOpN g m)) := by
  obtain ⟨r, h1, h2⟩ := c.ok
  exact PE.imp (pe_callB h1 hg hm hv ha hn hd he hpl) fun _ _ _ h => opN h2 h
theorem re_callTy {x : Str} {es : List Expr} {m : MA} {p : Pos} {nm : String} {g : PN} (c : CallOk X (.type nm) g) (hg : Gl X x) (hm : X.mg x = none) (hv : bootBuiltins x = some (.type nm)) (ha : PA X (e :: es) (taOf T X.K W m))
    (hn : x ≠ "__name__" := by decide) (hd : (x == ("__debug__" : Str)) = false := by decide) (he : starEach (e :: es) X.env = (false, eval e X.env) :: starEach es X.env := by rfl) (hpl : (backTo pos (starEach es X.env)).any (·.1) = false := by rfl) :
    PE X (.Call (.Name x p) (e :: es) [] pos) (teOf T X.K W (mOpN g m)) := by
  obtain ⟨r, h1, h2⟩ := c.ok
  exact PE.imp (pe_callTy h1 hg hm hv ha hn hd he hpl) fun _ _ _ h => opN h2 h
def fLen : PN := fun ds s => match ds with
  | [.tup xs] => .ok (.int xs.length) s
  | [.lst n] => (match s[n]? with | some xs => .ok (.int xs.length) s | none => .bad)
  | [.ro xs] => .ok (.int xs.length) s
  | [.str z] => if z.length ≤ big then .ok (.int z.length) s else .bad
  | _ => .bad
theorem b_len : CallOk X (.builtin "len") fLen := ⟨_, call_len, fun T W ℓ s H σ ds xs Q st r g => by
  unfold fLen at g
  split at g
  · obtain ⟨v, _, rfl, ⟨p, vs, rfl, h1, r1⟩, rfl⟩ := r
    refine ⟨_, vs.length, rfl, .inr ⟨vs, h1, rfl⟩, ?_⟩
    rw [r1.length]
    exact GoR.here g st rfl
  · obtain ⟨v, _, rfl, ⟨hm, rfl⟩, rfl⟩ := r
    split at g
    · rename_i ys hy
      obtain ⟨vs, h1, r1⟩ := st.at_ _ _ hy
      refine ⟨_, vs.length, rfl, .inl ⟨vs, SqL.of h1, rfl⟩, ?_⟩
      rw [r1.length]
      exact GoR.here g st rfl
    · exact g.elim
  · obtain ⟨v, _, rfl, ⟨p, vs, rfl, h1, r1⟩, rfl⟩ := r
    refine ⟨_, vs.length, rfl, .inl ⟨vs, h1.l, rfl⟩, ?_⟩
    rw [r1.length]
    exact GoR.here g st rfl
  · obtain ⟨v, _, rfl, e, rfl⟩ := r
    cases e
    split at g
    · rename_i hz
      exact ⟨_, _, rfl, ⟨big_le hz, rfl⟩, GoR.here g st rfl⟩
    · exact g.elim
  · exact g.elim⟩
def fAbs : PN := fun ds s => match ds with | [.int i] => .ok (.int (if i < 0 then -i else i)) s | _ => .bad
theorem b_abs : CallOk X (.builtin "abs") fAbs := ⟨_, call_abs, fun T W ℓ s H σ ds xs Q st r g => by
  unfold fAbs at g
  split at g
  · obtain ⟨v, _, rfl, e, rfl⟩ := r
    cases e
    exact ⟨_, rfl, GoR.here g st rfl⟩
  · exact g.elim⟩
def fInt : PN := fun ds s => match ds with | [.int i] => .ok (.int i) s | [.bl k] => .ok (.int (if k = true then 1 else 0)) s | _ => .bad
theorem b_int : CallOk X (.type "int") fInt := ⟨_, call_int1, fun T W ℓ s H σ ds xs Q st r g => by
  unfold fInt at g
  split at g
  · obtain ⟨v, _, rfl, e, rfl⟩ := r
    cases e
    exact .inl ⟨_, rfl, GoR.here g st rfl⟩
  · obtain ⟨v, _, rfl, e, rfl⟩ := r
    cases e
    exact .inr ⟨_, rfl, GoR.here g st rfl⟩
  · exact g.elim⟩
/-- a row's items -/
def itemsOf (d : D) (s : Sto) : Option (List D) := match d with
  | .tup xs => some xs
  | .ro xs => some xs
  | .lst n => s[n]?
  | _ => none
def fTuple : PN := fun ds s => match ds with | [d] => (match itemsOf d s with | some xs => .ok (.tup xs) s | none => .bad) | _ => .bad
theorem b_tuple : CallOk X (.type "tuple") fTuple := ⟨_, call_tuple_of, fun T W ℓ s H σ ds xs Q st r g => by
  unfold fTuple at g
  split at g
  · rename_i d
    obtain ⟨v, _, rfl, e, rfl⟩ := r
    split at g
    · rename_i ys hy
      cases d <;> first | (exact absurd (show none = some ys from hy) (by intro z; cases z)) | skip
      · cases hy
        obtain ⟨p, vs, rfl, h1, r1⟩ := e
        exact ⟨_, vs, rfl, .inr ⟨h1, GoR.here g st ⟨p, vs, rfl, h1, r1⟩⟩⟩
      · obtain ⟨hm, rfl⟩ := e
        obtain ⟨vs, h1, r1⟩ := st.at_ _ _ (show s[_]? = some ys from hy)
        exact ⟨_, vs, rfl, .inl ⟨SqL.of h1, fun z hz => go_newT g st r1 hz⟩⟩
      · cases hy
        obtain ⟨p, vs, rfl, h1, r1⟩ := e
        exact ⟨_, vs, rfl, .inl ⟨h1.l, fun z hz => go_newT g st r1 hz⟩⟩
    · exact g.elim
  · exact g.elim⟩
def fList : PN := fun ds s => match ds with | [d] => (match itemsOf d s with | some xs => .ok (.lst s.length) (s ++ [xs]) | none => .bad) | _ => .bad
theorem b_list : CallOk X (.type "list") fList := ⟨_, call_list_of, fun T W ℓ s H σ ds xs Q st r g => by
  unfold fList at g
  split at g
  · rename_i d
    obtain ⟨v, _, rfl, e, rfl⟩ := r
    split at g
    · rename_i ys hy
      cases d <;> first | (exact absurd (show none = some ys from hy) (by intro z; cases z)) | skip
      · cases hy
        obtain ⟨p, vs, rfl, h1, r1⟩ := e
        exact ⟨_, vs, rfl, .inr h1, fun z hz => go_newL g st r1 hz⟩
      · obtain ⟨hm, rfl⟩ := e
        obtain ⟨vs, h1, r1⟩ := st.at_ _ _ (show s[_]? = some ys from hy)
        exact ⟨_, vs, rfl, .inl (SqL.of h1), fun z hz => go_newL g st r1 hz⟩
      · cases hy
        obtain ⟨p, vs, rfl, h1, r1⟩ := e
        exact ⟨_, vs, rfl, .inl h1.l, fun z hz => go_newL g st r1 hz⟩
    · exact g.elim
  · exact g.elim⟩
def blOf : D → Option Bool | .bl b => some b | _ => none
def fAll : PN := fun ds s => match ds with | [.lst n] => (match s[n]? with | some xs => (match allP blOf xs with | some bs => .ok (.bl (bs.all id)) s | none => .bad) | none => .bad) | _ => .bad
def fAny : PN := fun ds s => match ds with | [.lst n] => (match s[n]? with | some xs => (match allP blOf xs with | some bs => .ok (.bl (bs.any id)) s | none => .bad) | none => .bad) | _ => .bad
theorem bls_of {n : Nat} : ∀ {ds : List D} {vs : List V} {bs : List Bool}, Reps K ℓ n H ds vs → allP blOf ds = some bs → vs = bs.map V.bl
  | [], _, _, r, h => by cases r; cases h; rfl
  | d :: ds, _, _, r, h => by
    obtain ⟨v, vs, rfl, r1, r2⟩ := r
    obtain ⟨x, l, rfl, h1, h2⟩ := allP_cons h
    cases d <;> first | (cases h1; done) | skip
    cases h1
    cases r1
    rw [List.map_cons, bls_of r2 h2]
theorem b_all (hc : X.calm = true) : CallOk X (.builtin "all") fAll := ⟨_, cr_all hc, fun T W ℓ s H σ ds xs Q st r g => by
  unfold fAll at g
  split at g
  · obtain ⟨v, _, rfl, ⟨hm, rfl⟩, rfl⟩ := r
    split at g
    · rename_i ys hy
      obtain ⟨vs, h1, r1⟩ := st.at_ _ _ hy
      split at g
      · rename_i bs hb
        have e := bls_of r1 hb
        subst e
        exact ⟨_, bs, rfl, SqL.of h1, GoR.here g st rfl⟩
      · exact g.elim
    · exact g.elim
  · exact g.elim⟩
theorem b_any (hc : X.calm = true) : CallOk X (.builtin "any") fAny := ⟨_, cr_any hc, fun T W ℓ s H σ ds xs Q st r g => by
  unfold fAny at g
  split at g
  · obtain ⟨v, _, rfl, ⟨hm, rfl⟩, rfl⟩ := r
    split at g
    · rename_i ys hy
      obtain ⟨vs, h1, r1⟩ := st.at_ _ _ hy
      split at g
      · rename_i bs hb
        have e := bls_of r1 hb
        subst e
        exact ⟨_, bs, rfl, SqL.of h1, GoR.here g st rfl⟩
      · exact g.elim
    · exact g.elim
  · exact g.elim⟩
end
end RM
set_option Elab.async false
set_option linter.all false
set_option maxRecDepth 100000
set_option maxHeartbeats 2000000
namespace RM
open PySem PySem.Spec PyProof.Rows L2
/-! ## targets -/
inductive Pat where
  | nm (i : Nat) | tp (ps : List Pat)
mutual
def Pat.g (K : PySem.W.Frag) : Pat → TG
  | .nm i => gName i
  | .tp ps => gTup K ps.length (Pat.gs K ps)
def Pat.gs (K : PySem.W.Frag) : List Pat → TGs
  | [] => gNil
  | p :: ps => gCons (Pat.g K p) (Pat.gs K ps)
end
mutual
def Pat.sl : Pat → List Nat
  | .nm i => [i]
  | .tp ps => Pat.sls ps
def Pat.sls : List Pat → List Nat
  | [] => []
  | p :: ps => Pat.sl p ++ Pat.sls ps
end
mutual
def bindP : Pat → D → Slo → Option Slo
  | .nm i, d, σ => some (σ.set i (some d))
  | .tp ps, d, σ => match d with
    | .tup xs => if xs.length = ps.length then bindPs ps xs σ else none
    | _ => none
def bindPs : List Pat → List D → Slo → Option Slo
  | [], _, σ => some σ
  | p :: ps, xs, σ => match xs with
    | d :: ds => (bindP p d σ).bind fun σ => bindPs ps ds σ
    | [] => none
end
section
variable {T : List (Addr × Str)} {K : PySem.W.Frag} {W : WX} {ℓ : Nat → Addr} {n : Nat} {s : Sto} {H : Hp} {X : Cx}
def SameOut (σ σ' : L2.St) (vs : List Nat) : Prop := σ'.length = σ.length ∧ ∀ j : Nat, j ∉ vs → σ'[j]? = σ[j]?
theorem SameOut.trans {σ σ₁ σ₂ : L2.St} {vs us : List Nat} (a : SameOut σ σ₁ vs) (b : SameOut σ₁ σ₂ us) : SameOut σ σ₂ (vs ++ us) :=
  ⟨b.1.trans a.1, fun j hj => by
    simp only [List.mem_append, not_or] at hj
    exact (b.2 j hj.2).trans (a.2 j hj.1)⟩
mutual
theorem bindP_ok : ∀ (p : Pat) (d : D) (v : V) (σ : L2.St) (σd σd' : Slo), Rep K ℓ n H d v → En K ℓ n H σ σd → bindP p d σd = some σd' → ∃ σ', En K ℓ n H σ' σd' ∧ SameOut σ σ' p.sl ∧ ∀ Q : L2.St → Hp → Prop, Q σ' H → Pat.g K p v σ H Q
  | .nm i, d, v, σ, σd, σd', r, en, h => by
    have h' : some (σd.set i (some d)) = some σd' := by rw [← h]; unfold bindP; rfl
    cases h'
    exact ⟨σ.set i (some v), en.set r, ⟨by rw [List.length_set], fun j hj => by
      rw [List.getElem?_set_ne]
      intro e
      exact hj (by unfold Pat.sl; rw [e]; exact List.mem_singleton.mpr rfl)⟩, fun Q q => by unfold Pat.g; exact q⟩
  | .tp ps, d, v, σ, σd, σd', r, en, h => by
    unfold bindP at h
    cases d <;> first | (cases h; done) | skip
    rename_i xs
    obtain ⟨a, vs, rfl, h1, r1⟩ := r
    simp only at h
    split at h
    · rename_i hl
      obtain ⟨σ', e1, e2, e3⟩ := bindPs_ok ps xs vs σ σd σd' r1 en hl h
      refine ⟨σ', e1, by unfold Pat.sl; exact e2, fun Q q => ?_⟩
      unfold Pat.g
      exact ⟨a, vs, rfl, h1, by rw [r1.length, hl], e3 Q q⟩
    · cases h
theorem bindPs_ok : ∀ (ps : List Pat) (ds : List D) (vs : List V) (σ : L2.St) (σd σd' : Slo), Reps K ℓ n H ds vs → En K ℓ n H σ σd → ds.length = ps.length → bindPs ps ds σd = some σd' → ∃ σ', En K ℓ n H σ' σd' ∧ SameOut σ σ' (Pat.sls ps) ∧ ∀ Q : L2.St → Hp → Prop, Q σ' H → Pat.gs K ps vs σ H Q
  | [], ds, vs, σ, σd, σd', r, en, hl, h => by
    have e0 : ds = [] := by cases ds with | nil => rfl | cons a b => simp at hl
    subst e0
    cases r
    have h' : some σd = some σd' := by rw [← h]; unfold bindPs; rfl
    cases h'
    exact ⟨σ, en, ⟨rfl, fun _ _ => rfl⟩, fun Q q => by unfold Pat.gs; exact ⟨rfl, q⟩⟩
  | p :: ps, ds, vs, σ, σd, σd', r, en, hl, h => by
    unfold bindPs at h
    cases ds with
    | nil => simp at hl
    | cons d ds =>
      obtain ⟨v, us, rfl, r1, r2⟩ := r
      simp only at h
      cases e : bindP p d σd with
      | none => rw [e] at h; cases h
      | some σ1 =>
        rw [e] at h
        obtain ⟨σa, a1, a2, a3⟩ := bindP_ok p d v σ σd σ1 r1 en e
        obtain ⟨σb, b1, b2, b3⟩ := bindPs_ok ps ds us σa σ1 σd' r2 a1 (by simpa using hl) h
        refine ⟨σb, b1, by unfold Pat.sls; exact a2.trans b2, fun Q q => ?_⟩
        unfold Pat.gs
        exact ⟨v, us, rfl, a3 _ (b3 Q q)⟩
end
/-! ## statements -/
def Res.st {α : Type} : Res α → Slo → (α → Sto → Flo) → Flo
  | .ok a s, _, f => f a s
  | .exc c fs s, σ, _ => .exc c fs σ s
  | .bad, _, _ => .bad
@[simp] theorem Res.st_ok {α : Type} (a : α) (s : Sto) (σ : Slo) (f : α → Sto → Flo) : (Res.ok a s).st σ f = f a s := rfl
@[simp] theorem Res.st_exc {α : Type} (c : Addr) (fs) (s : Sto) (σ : Slo) (f : α → Sto → Flo) : (Res.exc c fs s : Res α).st σ f = .exc c fs σ s := rfl
@[simp] theorem Res.st_bad {α : Type} (σ : Slo) (f : α → Sto → Flo) : (Res.bad : Res α).st σ f = .bad := rfl
theorem GoS.bind {α β : Type} {R : RelT α β} {σ : L2.St} {σd : Slo} {r : Res α} {f : α → Sto → Flo} {E : Ends} (en : En K ℓ n H σ σd) (st : StOk T K ℓ n H s) (g : GoS T K W ℓ n H (r.st σd f) E) :
    GoR T K W ℓ n H σ R r fun v H₁ => ∃ ℓ₁ s₁ d, Ex ℓ n H ℓ₁ s₁.length H₁ ∧ StOk T K ℓ₁ s₁.length H₁ s₁ ∧ R ℓ₁ s₁.length H₁ d v ∧ GoS T K W ℓ₁ s₁.length H₁ (f d s₁) E := by
  cases r with
  | ok d s1 => exact fun v ℓ' H' e st' q => ⟨ℓ', s1, d, e, st', q, GoS.shift g e st'⟩
  | exc c fs s1 => exact fun dd ℓ' H' e st' q => g σ dd ℓ' H' e st' (en.up e st) q
  | bad => exact g
theorem tS.one {α β : Type} {R : RelT α β} {σ : L2.St} {m : MR α} {f : Slo → α → Sto → Flo} {E : Ends} (h : tsOf T K W (fun σ s => (m σ s).st σ (f σ)) E σ H) :
    tR T K W R m σ H fun v H₁ => ∃ σd ℓ₁ s₁ d, En K ℓ₁ s₁.length H₁ σ σd ∧ StOk T K ℓ₁ s₁.length H₁ s₁ ∧ R ℓ₁ s₁.length H₁ d v ∧ GoS T K W ℓ₁ s₁.length H₁ (f σd d s₁) E := by
  obtain ⟨σd, ℓ, s, en, st, g⟩ := h
  refine ⟨σd, ℓ, s, en, st, ?_⟩
  have g' := GoS.bind (R := R) en st g
  cases hr : m σd s with
  | ok d s₁ =>
    rw [hr] at g'
    exact fun v ℓ' H' e st' q => by
      obtain ⟨ℓ₁, s₂, d₂, e2, st2, q2, g2⟩ := g' v ℓ' H' e st' q
      exact ⟨σd, ℓ₁, s₂, d₂, en.up e2 st, st2, q2, g2⟩
  | exc c fs s₁ => rw [hr] at g'; exact g'
  | bad => rw [hr] at g'; exact g'
def mNx : MS := fun σ s => .nx σ s
def mSeq (a b : MS) : MS := fun σ s => match a σ s with | .nx σ s => b σ s | r => r
theorem tsOf_imp {m m' : MS} {E E' : Ends} {σ : L2.St} (h : tsOf T K W m E σ H) (i : ∀ ℓ s H f, (∃ σd s0, m σd s0 = f) → GoS T K W ℓ s H f E → ∃ σd s0, m' σd s0 = f ∧ GoS T K W ℓ s H f E') : True := trivial
theorem rs_nil : PSs X [] (tsOf T X.K W mNx) := PSs.imp pss_nil fun D σ H h => by
  obtain ⟨σd, ℓ, s, en, st, g⟩ := h
  exact g σ ℓ H Ex.refl st en
theorem rs_cons {st : Stmt} {rest : List Stmt} {m m' : MS} (h1 : PS X st (tsOf T X.K W m)) (h2 : PSs X rest (tsOf T X.K W m')) : PSs X (st :: rest) (tsOf T X.K W (mSeq m m')) := PSs.imp (pss_cons h1 h2) fun D σ H h => by
  obtain ⟨σd, ℓ, s, en, sk, g⟩ := h
  refine ⟨σd, ℓ, s, en, sk, ?_⟩
  unfold mSeq at g
  cases hm : m σd s with
  | nx σ1 s1 =>
    rw [hm] at g
    exact fun σ' ℓ' H' e st' en' => ⟨σ1, ℓ', s1, en', st', GoS.shift g e st'⟩
  | rt d s1 => rw [hm] at g; exact g
  | bk σ1 s1 => rw [hm] at g; exact g
  | ct σ1 s1 => rw [hm] at g; exact g
  | exc c fs σ1 s1 => rw [hm] at g; exact g
  | bad => rw [hm] at g; exact g
def mBrk : MS := fun σ s => .bk σ s
def mCnt : MS := fun σ s => .ct σ s
theorem rs_pass {pos} : PS X (.Pass pos) (tsOf T X.K W mNx) := PS.imp ps_pass fun D σ H h => by
  obtain ⟨σd, ℓ, s, en, st, g⟩ := h
  exact g σ ℓ H Ex.refl st en
theorem rs_break {pos} : PS X (.Break pos) (tsOf T X.K W mBrk) := PS.imp ps_break fun D σ H h => by
  obtain ⟨σd, ℓ, s, en, st, g⟩ := h
  exact g σ ℓ H Ex.refl st en
theorem rs_continue {pos} : PS X (.Continue pos) (tsOf T X.K W mCnt) := PS.imp ps_continue fun D σ H h => by
  obtain ⟨σd, ℓ, s, en, st, g⟩ := h
  exact g σ ℓ H Ex.refl st en
def mRet (m : ME) : MS := fun σ s => (m σ s).st σ fun d s => .rt d s
variable {e : Expr} {m : ME} {pos : Pos}
theorem rs_ret (he : PE X e (teOf T X.K W m)) : PS X (.Return (some e) pos) (tsOf T X.K W (mRet m)) := PS.imp (ps_ret he) fun D σ H h => by
  refine tR.imp (tS.one (R := Rep X.K) h) fun x H1 h1 => ?_
  obtain ⟨σd, ℓ₁, s₁, d, en, st, q, g1⟩ := h1
  exact g1 x ℓ₁ H1 Ex.refl st q
def mRetN : MS := fun _ s => .rt .non s
theorem rs_retN : PS X (.Return none pos) (tsOf T X.K W mRetN) := PS.imp ps_retN fun D σ H h => by
  obtain ⟨σd, ℓ, s, en, st, g⟩ := h
  exact g .non ℓ H Ex.refl st rfl
def mDrop (m : ME) : MS := fun σ s => (m σ s).st σ fun _ s => .nx σ s
theorem rs_expr (he : PE X e (teOf T X.K W m)) (hs : swapsWith e none pos.line X.env = pure false := by rfl) : PS X (.Expr e pos) (tsOf T X.K W (mDrop m)) := PS.imp (ps_expr he hs) fun D σ H h => by
  refine tR.imp (tS.one (R := Rep X.K) h) fun x H1 h1 => ?_
  obtain ⟨σd, ℓ₁, s₁, d, en, st, q, g1⟩ := h1
  exact g1 σ ℓ₁ H1 Ex.refl st en
def mIfS (t : MT) (a b : MS) : MS := fun σ s => (t σ s).st σ fun k s => if k then a σ s else b σ s
theorem rs_if {c : Expr} {a b : List Stmt} {t : MT} {ma mb : MS} (hc : PT X c (ttOf T X.K W t)) (ha : PSs X a (tsOf T X.K W ma)) (hb : PSs X b (tsOf T X.K W mb)) : PS X (.If c a b pos) (tsOf T X.K W (mIfS t ma mb)) := PS.imp (ps_if hc ha hb) fun D σ H h => by
  refine tR.imp (tS.one (R := RelB) h) fun x H1 h1 => ?_
  obtain ⟨σd, ℓ₁, s₁, d, en, st, q, g1⟩ := h1
  obtain rfl : x = d := q
  cases x with
  | true => exact ⟨σd, ℓ₁, s₁, en, st, g1⟩
  | false => exact ⟨σd, ℓ₁, s₁, en, st, g1⟩
def mAsg (p : Pat) (m : ME) : MS := fun σ s => (m σ s).st σ fun d s => match bindP p d σ with | some σ => .nx σ s | none => .bad
theorem asg_ok {p : Pat} {σ : L2.St} {D : Ends} (h : tsOf T K W (mAsg p m) D σ H) : teOf T K W m σ H fun x H1 => Pat.g K p x σ H1 D.nx := by
  refine tR.imp (tS.one (R := Rep K) h) fun x H1 h1 => ?_
  obtain ⟨σd, ℓ₁, s₁, d, en, st, q, g1⟩ := h1
  cases e : bindP p d σd with
  | none => rw [e] at g1; exact g1.elim
  | some σ1 =>
    rw [e] at g1
    obtain ⟨σ', e1, _, e3⟩ := bindP_ok p d x σ σd σ1 q en e
    exact e3 _ (g1 σ' ℓ₁ H1 Ex.refl st e1)
theorem rs_asg {tg : Expr} {p : Pat} (he : PE X e (teOf T X.K W m)) (hg : PG X tg (Pat.g X.K p)) (hs : swapsWithSole [tg] e pos.line X.env = pure false := by rfl) (hw : swappedStores [tg] e X.env = pure none := by rfl)
    (h1 : (assignEach [tg] X.env).map (·.2) = [assign tg X.env] := by rfl) : PS X (.Assign [tg] e pos) (tsOf T X.K W (mAsg p m)) := PS.imp (ps_asg he hg hs hw h1) fun D σ H h => asg_ok h
/-- targets' rules -/
theorem rg_nm {i : Nat} {x : Str} (hN : X.N.Nodup) (hi : X.N[i]? = some x) (hx : Loc X.env.scope x) (hf : X.fn x = true ∨ X.env.scope.names.lookup x = some .local := by first | exact .inl rfl | exact .inr rfl | assumption) : PG X (.Name x pos) (Pat.g X.K (.nm i)) := pg_name hN hi hx hf
theorem rg_tp {es : List Expr} {k : Nat} {ps : List Pat} (hc : X.calm = true) (h : PGs X es (Pat.gs X.K ps)) (hn : (assignEach es X.env).length = ps.length := by rfl) (hst : (assignEach es X.env).findIdx? (·.1) = none := by rfl) : PG X (.Tuple es k pos) (Pat.g X.K (.tp ps)) := by
  have := pg_tup (pos := pos) (k := k) hc h hn hst
  refine ⟨fun pins s σ H v u Q I r q => this.run pins s σ H v u Q I r ?_⟩
  unfold Pat.g at q
  exact q
theorem rgs_nil : PGs X [] (Pat.gs X.K []) := by
  have := pgs_nil (X := X)
  refine ⟨fun pins s σ H v u Q I r q => this.run pins s σ H v u Q I r ?_⟩
  unfold Pat.gs at q
  exact q
theorem rgs_cons {es : List Expr} {p : Pat} {ps : List Pat} (h1 : PG X e (Pat.g X.K p)) (h2 : PGs X es (Pat.gs X.K ps)) (hs : (assignEach (e :: es) X.env).map (·.2) = assign e X.env :: (assignEach es X.env).map (·.2) := by rfl) : PGs X (e :: es) (Pat.gs X.K (p :: ps)) := by
  have := pgs_cons h1 h2 hs
  refine ⟨fun pins s σ H v u Q I r q => this.run pins s σ H v u Q I r ?_⟩
  unfold Pat.gs at q
  exact q
/-- a, b = e, f of plain names, stored without a tuple -/
def mPar (i j : Nat) (m : MA) : MS := fun σ s => (m σ s).st σ fun ds s => match ds with | [a, b] => .nx ((σ.set i (some a)).set j (some b)) s | _ => .bad
theorem rs_par {i j : Nat} {x y : Str} {a b : Expr} {ma : MA} {px py pt : Pos} {kt k2 : Nat} {pt2 : Pos} (hc : X.calm = true) (hN : X.N.Nodup) (hi : X.N[i]? = some x) (hj : X.N[j]? = some y) (hij : i ≠ j) (hx : X.env.scope.names.lookup x = some .local) (hy : X.env.scope.names.lookup y = some .local)
    (ha : PA X [a, b] (taOf T X.K W ma)) (hw : swappedStores [.Tuple [.Name x px, .Name y py] kt pt] (.Tuple [a, b] k2 pt2) X.env = pure (some [x, y]) := by rfl)
    (hs : swapsWithSole [.Tuple [.Name x px, .Name y py] kt pt] (.Tuple [a, b] k2 pt2) pos.line X.env = pure false := by rfl) : PS X (.Assign [.Tuple [.Name x px, .Name y py] kt pt] (.Tuple [a, b] k2 pt2) pos) (tsOf T X.K W (mPar i j ma)) :=
  PS.imp (ps_par hc hN hi hj hij hx hy ha hw hs) fun D σ H h => by
    refine tR.imp (tS.one (R := Reps X.K) h) fun xs H1 h1 => ?_
    obtain ⟨σd, ℓ₁, s₁, ds, en, st, q, g1⟩ := h1
    split at g1
    · obtain ⟨v, _, rfl, r1, w, _, rfl, r2, rfl⟩ := q
      exact ⟨v, w, rfl, g1 _ ℓ₁ H1 Ex.refl st ((en.set r1).set r2)⟩
    · exact g1.elim
def mPar3 (i j l : Nat) (m : MA) : MS := fun σ s => (m σ s).st σ fun ds s => match ds with | [a, b, c] => .nx (((σ.set i (some a)).set j (some b)).set l (some c)) s | _ => .bad
theorem rs_par3 {i j l : Nat} {x y z : Str} {a b c : Expr} {ma : MA} {px py pz pt : Pos} {kt k2 : Nat} {pt2 : Pos} (hc : X.calm = true) (hN : X.N.Nodup) (hi : X.N[i]? = some x) (hj : X.N[j]? = some y) (hl : X.N[l]? = some z) (hij : i ≠ j) (hil : i ≠ l) (hjl : j ≠ l) (hx : X.env.scope.names.lookup x = some .local) (hy : X.env.scope.names.lookup y = some .local) (hz : X.env.scope.names.lookup z = some .local)
    (ha : PA X [a, b, c] (taOf T X.K W ma)) (hw : swappedStores [.Tuple [.Name x px, .Name y py, .Name z pz] kt pt] (.Tuple [a, b, c] k2 pt2) X.env = pure (some [x, y, z]) := by rfl)
    (hs : swapsWithSole [.Tuple [.Name x px, .Name y py, .Name z pz] kt pt] (.Tuple [a, b, c] k2 pt2) pos.line X.env = pure false := by rfl) : PS X (.Assign [.Tuple [.Name x px, .Name y py, .Name z pz] kt pt] (.Tuple [a, b, c] k2 pt2) pos) (tsOf T X.K W (mPar3 i j l ma)) :=
  PS.imp (ps_par3 hc hN hi hj hl hij hil hjl hx hy hz ha hw hs) fun D σ H h => by
    refine tR.imp (tS.one (R := Reps X.K) h) fun xs H1 h1 => ?_
    obtain ⟨σd, ℓ₁, s₁, ds, en, st, q, g1⟩ := h1
    split at g1
    · obtain ⟨v, _, rfl, r1, w, _, rfl, r2, u, _, rfl, r3, rfl⟩ := q
      exact ⟨v, w, u, rfl, g1 _ ℓ₁ H1 Ex.refl st (((en.set r1).set r2).set r3)⟩
    · exact g1.elim
/-! ## while -/
def runW (c : MT) (b : MS) : Nat → Slo → Sto → Option Flo
  | 0, _, _ => none
  | k + 1, σ, s => match c σ s with
    | .ok true s => (match b σ s with | .nx σ s => runW c b k σ s | .ct σ s => runW c b k σ s | .bk σ s => some (.nx σ s) | r => some r)
    | .ok false s => some (.nx σ s)
    | .exc x fs s => some (.exc x fs σ s)
    | .bad => some .bad
theorem runW_up {c : MT} {b : MS} : ∀ {k : Nat} {σ : Slo} {s : Sto} {r : Flo}, runW c b k σ s = some r → ∀ j, runW c b (k + j) σ s = some r
  | 0, _, _, _, h, _ => by cases h
  | k + 1, σ, s, r, h, j => by
    have ej : k + 1 + j = (k + j) + 1 := by omega
    rw [ej]
    unfold runW at h ⊢
    cases hc : c σ s with
    | bad => rw [hc] at h; exact h
    | exc x fs s1 => rw [hc] at h; exact h
    | ok t s1 =>
      rw [hc] at h
      cases t with
      | false => exact h
      | true =>
        simp only at h ⊢
        cases hb : b σ s1 with
        | nx σ2 s2 => rw [hb] at h; exact runW_up h j
        | ct σ2 s2 => rw [hb] at h; exact runW_up h j
        | bk σ2 s2 => rw [hb] at h; exact h
        | rt d s2 => rw [hb] at h; exact h
        | exc x fs σ2 s2 => rw [hb] at h; exact h
        | bad => rw [hb] at h; exact h
open Classical in
noncomputable def mWhile (c : MT) (b : MS) : MS := fun σ s => if h : ∃ r k, runW c b k σ s = some r then Classical.choose h else .bad
theorem mWhile_of {c : MT} {b : MS} {σ : Slo} {s : Sto} {r : Flo} {k : Nat} (h : runW c b k σ s = some r) : mWhile c b σ s = r := by
  have ex : ∃ r k, runW c b k σ s = some r := ⟨r, k, h⟩
  unfold mWhile
  rw [dif_pos ex]
  obtain ⟨k', h'⟩ := Classical.choose_spec ex
  have h1 := runW_up h k'
  have h2 := runW_up h' k
  rw [Nat.add_comm] at h2
  rw [h1] at h2
  exact (Option.some.inj h2).symm
theorem rs_while {c : Expr} {body : List Stmt} {t : MT} {mb : MS} (hp : PassesOwn (model X.prog X.w) X.A X.env X.xe) (hc : PT X c (ttOf T X.K W t)) (hb : PSs X body (tsOf T X.K W mb)) : PS X (.While c body [] pos) (tsOf T X.K W (mWhile t mb)) := PS.imp (ps_while hp hc hb) fun D σ H h => by
  obtain ⟨σd, ℓ, s, en, st, g⟩ := h
  by_cases ex : ∃ r k, runW t mb k σd s = some r
  · obtain ⟨r, k, hr⟩ := ex
    rw [mWhile_of hr] at g
    refine ⟨fun m σ H => ∃ σd ℓ s r, En X.K ℓ s.length H σ σd ∧ StOk T X.K ℓ s.length H s ∧ runW t mb m σd s = some r ∧ GoS T X.K W ℓ s.length H r D, ⟨k, σd, ℓ, s, r, en, st, hr, g⟩, ?_⟩
    rintro m σ H ⟨σd, ℓ, s, r, en, st, hr, g⟩
    cases m with
    | zero => cases hr
    | succ m =>
      refine ⟨σd, ℓ, s, en, st, ?_⟩
      unfold runW at hr
      cases ht : t σd s with
      | bad => rw [ht] at hr; cases hr; exact g
      | exc x fs s1 => rw [ht] at hr; cases hr; exact fun dd ℓ' H' e st' q => g σ dd ℓ' H' e st' (en.up e st) q
      | ok b s1 =>
        rw [ht] at hr
        intro b' ℓ1 H1 e1 st1 q1
        obtain rfl : b' = b := q1
        have en1 := en.up e1 st
        have g1 := GoS.shift g e1 st1
        cases b' with
        | false =>
          cases hr
          exact g1 σ ℓ1 H1 Ex.refl st1 en1
        | true =>
          simp only at hr
          show ∃ N : L2.St → Hp → Prop, _ ∧ _
          refine ⟨fun σ' H' => ∃ σd ℓ s r, En X.K ℓ s.length H' σ' σd ∧ StOk T X.K ℓ s.length H' s ∧ runW t mb m σd s = some r ∧ GoS T X.K W ℓ s.length H' r D, fun σ' H' n => ⟨m, Nat.lt_succ_self m, n⟩, σd, ℓ1, s1, en1, st1, ?_⟩
          cases hb2 : mb σd s1 with
          | nx σ2 s2 =>
            rw [hb2] at hr
            exact fun σ' ℓ' H' e st' en' => ⟨σ2, ℓ', s2, r, en', st', hr, GoS.shift g1 e st'⟩
          | ct σ2 s2 =>
            rw [hb2] at hr
            exact fun σ' ℓ' H' e st' en' => ⟨σ2, ℓ', s2, r, en', st', hr, GoS.shift g1 e st'⟩
          | bk σ2 s2 => rw [hb2] at hr; cases hr; exact g1
          | rt d s2 => rw [hb2] at hr; cases hr; exact g1
          | exc x fs σ2 s2 => rw [hb2] at hr; cases hr; exact g1
          | bad => rw [hb2] at hr; cases hr; exact g1
  · have e0 : mWhile t mb σd s = .bad := by unfold mWhile; rw [dif_neg ex]
    rw [e0] at g
    exact g.elim
/-! ## what is walked -/
structure ItD where
  items : List D
  chk : Sto → Prop
structure ItOk (T : List (Addr × Str)) (K : PySem.W.Frag) (ℓ : Nat → Addr) (n : Nat) (H : Hp) (it : ItD) (J : It) : Prop where
  goes : ∀ (ℓ' : Nat → Addr) (s' : Sto) (H' : Hp) (i : Nat), Ex ℓ n H ℓ' s'.length H' → StOk T K ℓ' s'.length H' s' → it.chk s' → i < it.items.length → J.go i H'
  stops : ∀ (ℓ' : Nat → Addr) (s' : Sto) (H' : Hp), Ex ℓ n H ℓ' s'.length H' → StOk T K ℓ' s'.length H' s' → it.chk s' → J.stop it.items.length H'
  yields : ∀ (ℓ' : Nat → Addr) (s' : Sto) (H' : Hp) (i : Nat) (x : V) (H₂ : Hp), Ex ℓ n H ℓ' s'.length H' → StOk T K ℓ' s'.length H' s' → it.chk s' → i < it.items.length → J.yld i H' x H₂ →
    ∃ d, it.items[i]? = some d ∧ Ex ℓ' s'.length H' ℓ' s'.length H₂ ∧ StOk T K ℓ' s'.length H₂ s' ∧ Rep K ℓ' s'.length H₂ d x
abbrev MI := MR ItD
def tiOf (T : List (Addr × Str)) (K : PySem.W.Frag) (W : WX) (m : MI) : TI := tR T K W (ItOk T K) m
open Classical in
noncomputable def loopM (p : Pat) (b : MS) (chk : Sto → Prop) : List D → Slo → Sto → Flo
  | [], σ, s => if chk s then .nx σ s else .bad
  | d :: ds, σ, s => if chk s then (match bindP p d σ with
    | none => .bad
    | some σ => match b σ s with
      | .nx σ s => loopM p b chk ds σ s
      | .ct σ s => loopM p b chk ds σ s
      | .bk σ s => .nx σ s
      | r => r) else .bad
noncomputable def mFor (p : Pat) (mi : MI) (b : MS) : MS := fun σ s => (mi σ s).st σ fun it s => loopM p b it.chk it.items σ s
theorem rs_for {tg iter : Expr} {body : List Stmt} {p : Pat} {mi : MI} {mb : MS} (hp : PassesOwn (model X.prog X.w) X.A X.env X.xe) (hc : X.calm = true) (hi : PI X tg iter (tiOf T X.K W mi)) (hg : PG X tg (Pat.g X.K p)) (hb : PSs X body (tsOf T X.K W mb))
    (hs : ∀ x, foldedSetIterable iter X.env x = pure x := by intro _; rfl) : PS X (.For tg iter body [] pos) (tsOf T X.K W (mFor p mi mb)) := PS.imp (ps_for hp hc hi hg hb hs) fun D σ H h => by
  refine tR.imp (tS.one (R := ItOk T X.K) h) fun J H0 h1 => ?_
  obtain ⟨σd0, ℓ0, s0, it, en0, st0, ik, g0⟩ := h1
  refine ⟨fun i m σ H => m = it.items.length - i ∧ i ≤ it.items.length ∧ ∃ σd ℓ s, En X.K ℓ s.length H σ σd ∧ StOk T X.K ℓ s.length H s ∧ Ex ℓ0 s0.length H0 ℓ s.length H ∧ GoS T X.K W ℓ s.length H (loopM p mb it.chk (it.items.drop i) σd s) D, ⟨it.items.length, rfl, Nat.zero_le _, σd0, ℓ0, s0, en0, st0, Ex.refl, g0⟩, ?_⟩
  rintro i m σ H ⟨rfl, hle, σd, ℓ, s, en, st, ex, g⟩
  by_cases hlt : i < it.items.length
  · have ed : it.items.drop i = it.items[i] :: it.items.drop (i + 1) := List.drop_eq_getElem_cons hlt
    rw [ed] at g
    unfold loopM at g
    by_cases ck : it.chk s
    · rw [if_pos ck] at g
      refine .inr ⟨ik.goes ℓ s H i ex st ck hlt, fun σ' H' => ∃ σd ℓ s, En X.K ℓ s.length H' σ' σd ∧ StOk T X.K ℓ s.length H' s ∧ Ex ℓ0 s0.length H0 ℓ s.length H' ∧ GoS T X.K W ℓ s.length H' (loopM p mb it.chk (it.items.drop (i + 1)) σd s) D,
        fun σ' H' n => ⟨it.items.length - (i + 1), by omega, rfl, hlt, n⟩, fun x H2 y => ?_⟩
      obtain ⟨d, ed2, e2, st2, r2⟩ := ik.yields ℓ s H i x H2 ex st ck hlt y
      have ed3 : d = it.items[i] := by rw [List.getElem?_eq_getElem hlt] at ed2; exact (Option.some.inj ed2).symm
      subst ed3
      have en2 := en.up e2 st
      have g2 := GoS.shift g e2 st2
      cases hb3 : bindP p it.items[i] σd with
      | none => rw [hb3] at g2; exact g2.elim
      | some σ1 =>
        rw [hb3] at g2
        obtain ⟨σ', en3, _, k3⟩ := bindP_ok p _ x σ σd σ1 r2 en2 hb3
        refine k3 _ ⟨σ1, ℓ, s, en3, st2, ?_⟩
        simp only at g2
        cases hb4 : mb σ1 s with
        | nx σ2 s2 =>
          rw [hb4] at g2
          exact fun σ' ℓ' H' e st' en' => ⟨σ2, ℓ', s2, en', st', (ex.trans st (e2.trans st2 e)), GoS.shift g2 e st'⟩
        | ct σ2 s2 =>
          rw [hb4] at g2
          exact fun σ' ℓ' H' e st' en' => ⟨σ2, ℓ', s2, en', st', (ex.trans st (e2.trans st2 e)), GoS.shift g2 e st'⟩
        | bk σ2 s2 => rw [hb4] at g2; exact g2
        | rt d s2 => rw [hb4] at g2; exact g2
        | exc c fs σ2 s2 => rw [hb4] at g2; exact g2
        | bad => rw [hb4] at g2; exact g2
    · rw [if_neg ck] at g; exact g.elim
  · have e : i = it.items.length := by omega
    subst e
    rw [List.drop_length] at g
    unfold loopM at g
    by_cases ck : it.chk s
    · rw [if_pos ck] at g
      exact .inl ⟨ik.stops ℓ s H ex st ck, g σ ℓ H Ex.refl st en⟩
    · rw [if_neg ck] at g; exact g.elim
end
end RM
set_option Elab.async false
set_option linter.all false
set_option maxRecDepth 100000
set_option maxHeartbeats 2000000
namespace RM
open PySem PySem.Spec PyProof.Rows L2
section
variable {T : List (Addr × Str)} {K : PySem.W.Frag} {W : WX} {ℓ : Nat → Addr} {n : Nat} {s : Sto} {H : Hp} {X : Cx}
variable {e : Expr} {m : ME} {pos : Pos}
/-! ## what is walked: lists, tuples, ranges, two rows at once -/
theorem StOk.sq {s' : Sto} {ℓ' : Nat → Addr} {H' : Hp} (st : StOk T K ℓ' s'.length H' s') {i : Nat} {xs : List D} (h : s'[i]? = some xs) : ∃ vs, SqL K H' (ℓ' i) vs ∧ Reps K ℓ' s'.length H' xs vs := by
  obtain ⟨vs, h1, h2⟩ := st.at_ i xs h
  exact ⟨vs, SqL.of h1, h2⟩
theorem it_of {ℓ n H} {it : ItD} {J : It} (fetch : ∀ (ℓ' : Nat → Addr) (s' : Sto) (H' : Hp), Ex ℓ n H ℓ' s'.length H' → StOk T K ℓ' s'.length H' s' → it.chk s' → ∃ vs : List V, Reps K ℓ' s'.length H' it.items vs ∧ (∀ i (hi : i < vs.length), J.go i H') ∧ J.stop vs.length H' ∧
    ∀ i x H₂, i < vs.length → J.yld i H' x H₂ → H₂ = H' ∧ vs[i]? = some x) : ItOk T K ℓ n H it J where
  goes := fun ℓ' s' H' i ex st ck hi => by
    obtain ⟨vs, r, g, _, _⟩ := fetch ℓ' s' H' ex st ck
    exact g i (by rw [r.length]; exact hi)
  stops := fun ℓ' s' H' ex st ck => by
    obtain ⟨vs, r, _, g, _⟩ := fetch ℓ' s' H' ex st ck
    rw [r.length] at g
    exact g
  yields := fun ℓ' s' H' i x H₂ ex st ck hi y => by
    obtain ⟨vs, r, _, _, g⟩ := fetch ℓ' s' H' ex st ck
    obtain ⟨rfl, hx⟩ := g i x H₂ (by rw [r.length]; exact hi) y
    have hd : it.items[i]? = some it.items[i] := List.getElem?_eq_getElem hi
    obtain ⟨v, e1, e2⟩ := r.get hd
    rw [hx] at e1
    cases e1
    exact ⟨_, hd, Ex.refl, st, e2⟩
/-- the row at d, as it stands -/
def rowIt (d : D) (s : Sto) : Res ItD := match d with
  | .tup xs => .ok ⟨xs, fun _ => True⟩ s
  | .ro xs => .ok ⟨xs, fun _ => True⟩ s
  | .lst n => match s[n]? with | some xs => .ok ⟨xs, fun s => s[n]? = some xs⟩ s | none => .bad
  | _ => .bad
def mRow (m : ME) : MI := fun σ s => (m σ s).bind rowIt
theorem PI.or {tg iter : Expr} {w w' : TI} (h : PI X tg iter w) (h' : PI X tg iter w') : PI X tg iter (fun σ H R => w σ H R ∨ w' σ H R) :=
  ⟨fun pins s σ H R I q => q.elim (h.run pins s σ H R I) (h'.run pins s σ H R I)⟩
/-- a list or a tuple, as it comes -/
def iRow (K : PySem.W.Frag) (tl : TE) : TI := fun σ H R => tl σ H fun x H1 => ∃ a, x = .ref a ∧ ((∃ xs, SqL K H1 a xs) ∧ R (Itl K a) H1 ∨ (∃ xs, SqT K H1 a xs) ∧ R (Itt K a) H1)
theorem pi_row {tg l : Expr} {tl : TE} (hl : PE X l tl) : PI X tg l (iRow X.K tl) := by
  refine ⟨fun pins s σ H R I h => ?_⟩
  refine thn (hl.run pins s σ H _ I h) fun v s1 ⟨x, H1, I1, r1, q1⟩ => ?_
  obtain ⟨a, e, q⟩ := q1
  subst e
  cases r1
  rcases q with ⟨⟨xs, hq⟩, q⟩ | ⟨⟨xs, hq⟩, q⟩
  · obtain ⟨its, rv, p, hz⟩ := I1.list hq
    refine wpAny_pyIter_list p.isList ?_
    refine ⟨s1.heap.objs.size, [s1.heap.objs.size], _, _, H1, rfl, I1.kept (t' := s1.toks) fun b o e => Heap.get?_push_of_some _ e, turn_list a _, ⟨_, Heap.get?_push_size _ rfl, rfl, rfl⟩, fun b hb => ?_, q⟩
    have e : b = s1.heap.objs.size := by simpa using hb
    subst e
    exact I1.fpOk (Nat.le_refl _) (I1.hok.fresh (Nat.le_refl _))
  · obtain ⟨its, rv, p, hz⟩ := I1.tuple hq
    refine wpAny_pyIter_tuple (show s1.heap.IsTuple a its.toArray from p) ?_
    refine ⟨s1.heap.objs.size, [s1.heap.objs.size], _, _, H1, rfl, I1.kept (t' := s1.toks) fun b o e => Heap.get?_push_of_some _ e, turn_tuple a _, ⟨_, Heap.get?_push_size _ rfl, rfl, rfl⟩, fun b hb => ?_, q⟩
    have e : b = s1.heap.objs.size := by simpa using hb
    subst e
    exact I1.fpOk (Nat.le_refl _) (I1.hok.fresh (Nat.le_refl _))
theorem itl_ok {it : ItD} {a : Addr} (fetch : ∀ (ℓ' : Nat → Addr) (s' : Sto) (H' : Hp), Ex ℓ n H ℓ' s'.length H' → StOk T K ℓ' s'.length H' s' → it.chk s' → ∃ vs : List V, Reps K ℓ' s'.length H' it.items vs ∧ SqL K H' a vs) : ItOk T K ℓ n H it (Itl K a) :=
  it_of fun ℓ' s' H' ex st ck => by
    obtain ⟨vs, r, q⟩ := fetch ℓ' s' H' ex st ck
    exact ⟨vs, r, fun i hi => ⟨vs, vs[i], q, List.getElem?_eq_getElem hi⟩, ⟨vs, q, Nat.le_refl _⟩, fun i x H₂ hi y => ⟨y.1, y.2 vs q⟩⟩
theorem itt_ok {it : ItD} {a : Addr} (fetch : ∀ (ℓ' : Nat → Addr) (s' : Sto) (H' : Hp), Ex ℓ n H ℓ' s'.length H' → StOk T K ℓ' s'.length H' s' → it.chk s' → ∃ vs : List V, Reps K ℓ' s'.length H' it.items vs ∧ SqT K H' a vs) : ItOk T K ℓ n H it (Itt K a) :=
  it_of fun ℓ' s' H' ex st ck => by
    obtain ⟨vs, r, q⟩ := fetch ℓ' s' H' ex st ck
    exact ⟨vs, r, fun i hi => ⟨vs, vs[i], q, List.getElem?_eq_getElem hi⟩, ⟨vs, q, Nat.le_refl _⟩, fun i x H₂ hi y => ⟨y.1, y.2 vs q⟩⟩
theorem ri_row {tg : Expr} (he : PE X e (teOf T X.K W m)) : PI X tg e (tiOf T X.K W (mRow m)) := PI.imp (pi_row he) fun σ H R h => by
  refine tR.imp (tR.one (f := fun _ => rowIt) (R := Rep X.K) h) fun x H1 h1 => ?_
  obtain ⟨σd, ℓ₁, s₁, d, en, st, q, g1⟩ := h1
  cases d <;> first | exact g1.elim | skip
  · rename_i xs
    obtain ⟨a, vs, rfl, h2, r2⟩ := q
    refine ⟨a, rfl, .inr ⟨⟨vs, h2⟩, GoR.here g1 st (itt_ok fun ℓ' s' H' ex st' _ => ⟨vs, Reps.up ex st _ _ r2, ex.rdT st h2⟩)⟩⟩
  · rename_i k
    obtain ⟨hk, rfl⟩ := q
    have e0 : s₁[k]? = some s₁[k] := List.getElem?_eq_getElem hk
    have g2 : GoR T X.K W ℓ₁ s₁.length H1 σ (ItOk T X.K) (.ok ⟨s₁[k], fun s => s[k]? = some s₁[k]⟩ s₁) R := by
      have : rowIt (.lst k) s₁ = .ok ⟨s₁[k], fun s => s[k]? = some s₁[k]⟩ s₁ := by unfold rowIt; simp only [e0]
      rw [this] at g1; exact g1
    obtain ⟨vs, h2, r2⟩ := st.sq e0
    refine ⟨_, rfl, .inl ⟨⟨vs, h2⟩, GoR.here g2 st (itl_ok fun ℓ' s' H' ex st' ck => ?_)⟩⟩
    obtain ⟨us, h3, r3⟩ := st'.sq ck
    exact ⟨us, r3, by rw [← ex.same k hk]; exact h3⟩
  · rename_i xs
    obtain ⟨a, vs, rfl, h2, r2⟩ := q
    refine ⟨a, rfl, .inl ⟨⟨vs, h2.l⟩, GoR.here g1 st (itl_ok fun ℓ' s' H' ex st' _ => ⟨vs, Reps.up ex st _ _ r2, (ex.rdR st h2).l⟩)⟩⟩
/-- range(n), range(a, b) -/
def rInts (lo : Int) (k : Nat) : List D := (List.range k).map fun i => .int (lo + (i : Nat))
def rngIt1 (ds : List D) (s : Sto) : Res ItD := match ds with
  | [.int j] => if -(2 ^ 62) ≤ j ∧ j < 2 ^ 62 then .ok ⟨rInts 0 j.toNat, fun _ => True⟩ s else .bad
  | _ => .bad
def rngIt2 (ds : List D) (s : Sto) : Res ItD := match ds with
  | [.int i, .int j] => if -(2 ^ 62) ≤ i ∧ i < 2 ^ 62 ∧ -(2 ^ 62) ≤ j ∧ j < 2 ^ 62 then .ok ⟨rInts i (j - i).toNat, fun _ => True⟩ s else .bad
  | _ => .bad
def mRng1 (m : MA) : MI := fun σ s => (m σ s).bind rngIt1
def mRng2 (m : MA) : MI := fun σ s => (m σ s).bind rngIt2
theorem rInts_get {lo : Int} {k i : Nat} (h : i < k) : (rInts lo k)[i]? = some (.int (lo + (i : Nat))) := by
  unfold rInts
  rw [List.getElem?_map, List.getElem?_range h]
  rfl
theorem rInts_len {lo : Int} {k : Nat} : (rInts lo k).length = k := by unfold rInts; rw [List.length_map, List.length_range]
theorem rng_ok {lo : Int} {k : Nat} : ItOk T K ℓ n H ⟨rInts lo k, fun _ => True⟩ (Itr lo k) where
  goes := fun _ _ _ i _ _ _ hi => by rw [rInts_len] at hi; exact hi
  stops := fun _ _ _ _ _ _ => by show k ≤ (rInts lo k).length; rw [rInts_len]; exact Nat.le_refl _
  yields := fun ℓ' s' H' i x H₂ ex st ck hi y => by
    rw [rInts_len] at hi
    obtain ⟨rfl, rfl⟩ := y
    exact ⟨_, rInts_get hi, Ex.refl, st, rfl⟩
theorem ri_range1 {tg a : Expr} {ma : MA} {p : Pos} (hg : Gl X "range") (hm : X.mg "range" = none) (ha : PA X [a] (taOf T X.K W ma)) (hs : starEach [a] X.env = [(false, eval a X.env)] := by rfl) : PI X tg (.Call (.Name "range" p) [a] [] pos) (tiOf T X.K W (mRng1 ma)) := PI.imp (pi_range1 hg hm ha hs) fun σ H R h => by
  refine tR.imp (tR.one (f := fun _ => rngIt1) (R := Reps X.K) h) fun xs H1 h1 => ?_
  obtain ⟨σd, ℓ₁, s₁, ds, en, st, q, g1⟩ := h1
  unfold rngIt1 at g1
  split at g1
  · obtain ⟨v, _, rfl, rfl, rfl⟩ := q
    split at g1
    · rename_i c
      exact ⟨_, rfl, c.1, c.2, GoR.here g1 st rng_ok⟩
    · exact g1.elim
  · exact g1.elim
theorem ri_range2 {tg a b : Expr} {ma : MA} {p : Pos} (hg : Gl X "range") (hm : X.mg "range" = none) (ha : PA X [a, b] (taOf T X.K W ma)) (hs : starEach [a, b] X.env = [(false, eval a X.env), (false, eval b X.env)] := by rfl) (hs2 : starEach [b] X.env = [(false, eval b X.env)] := by rfl) : PI X tg (.Call (.Name "range" p) [a, b] [] pos) (tiOf T X.K W (mRng2 ma)) := PI.imp (pi_range2 hg hm ha hs hs2) fun σ H R h => by
  refine tR.imp (tR.one (f := fun _ => rngIt2) (R := Reps X.K) h) fun xs H1 h1 => ?_
  obtain ⟨σd, ℓ₁, s₁, ds, en, st, q, g1⟩ := h1
  unfold rngIt2 at g1
  split at g1
  · obtain ⟨v, _, rfl, rfl, w, _, rfl, rfl, rfl⟩ := q
    split at g1
    · rename_i c
      exact ⟨_, _, rfl, c, GoR.here g1 st rng_ok⟩
    · exact g1.elim
  · exact g1.elim
/-- zip of two lists, of two tuples -/
def zipD (xs ys : List D) : List D := List.zipWith (fun x y => .tup [x, y]) xs ys
def zipIt (ds : List D) (s : Sto) : Res ItD := match ds with
  | [.tup xs, .tup ys] => .ok ⟨zipD xs ys, fun _ => True⟩ s
  | [.lst i, .lst j] => (match s[i]?, s[j]? with | some xs, some ys => .ok ⟨zipD xs ys, fun s => s[i]? = some xs ∧ s[j]? = some ys⟩ s | _, _ => .bad)
  | _ => .bad
def mZip (m : MA) : MI := fun σ s => (m σ s).bind zipIt
theorem zipD_len (xs ys : List D) : (zipD xs ys).length = min xs.length ys.length := by unfold zipD; rw [List.length_zipWith]
theorem zipD_get {xs ys : List D} {i : Nat} {x y : D} (h1 : xs[i]? = some x) (h2 : ys[i]? = some y) : (zipD xs ys)[i]? = some (.tup [x, y]) := by
  unfold zipD
  rw [List.getElem?_zipWith, h1, h2]
theorem zip_yield {ℓ' : Nat → Addr} {s' : Sto} {H' : Hp} {xs ys : List D} {vs us : List V} (st : StOk T K ℓ' s'.length H' s') (r1 : Reps K ℓ' s'.length H' xs vs) (r2 : Reps K ℓ' s'.length H' ys us) {i : Nat} {x : V} {H₂ : Hp} {tp : Addr} {a b : V}
    (hi : i < (zipD xs ys).length) (hx : x = .ref tp) (hT : H' tp = none) (hH : H₂ = upd H' tp (.tup [a, b])) (ha : vs[i]? = some a) (hb : us[i]? = some b) :
    ∃ d, (zipD xs ys)[i]? = some d ∧ Ex ℓ' s'.length H' ℓ' s'.length H₂ ∧ StOk T K ℓ' s'.length H₂ s' ∧ Rep K ℓ' s'.length H₂ d x := by
  rw [zipD_len] at hi
  have h1 : xs[i]? = some xs[i] := List.getElem?_eq_getElem (by omega)
  have h2 : ys[i]? = some ys[i] := List.getElem?_eq_getElem (by omega)
  obtain ⟨a', ea, ra⟩ := r1.get h1
  obtain ⟨b', eb, rb⟩ := r2.get h2
  rw [ha] at ea; cases ea
  rw [hb] at eb; cases eb
  subst hx hH
  exact ⟨_, zipD_get h1 h2, Ex.new_ hT, st.new_ hT, ⟨tp, _, rfl, SqT.of upd_same, Reps.up (Ex.new_ hT) st _ _ (Reps.cons ra (Reps.cons rb Reps.nil))⟩⟩
theorem ri_zip {a b : Expr} {ma : MA} {p tpos : Pos} {elts : List Expr} {kk : Nat} (hg : Gl X "zip") (hm : X.mg "zip" = none) (ha : PA X [a, b] (taOf T X.K W ma))
    (hs : starEach [a, b] X.env = (false, eval a X.env) :: starEach [b] X.env := by rfl) (hpl : (backTo pos (starEach [b] X.env)).any (·.1) = false := by rfl) :
    PI X (.Tuple elts kk tpos) (.Call (.Name "zip" p) [a, b] [] pos) (tiOf T X.K W (mZip ma)) := PI.imp (RZ.pi_zipA hg hm ha hs hpl) fun σ H R h => by
  refine tR.imp (tR.one (f := fun _ => zipIt) (R := Reps X.K) h) fun xs H1 h1 => ?_
  obtain ⟨σd, ℓ₁, s₁, ds, en, st, q, g1⟩ := h1
  unfold zipIt at g1
  split at g1
  · rename_i xs ys
    obtain ⟨v, _, rfl, ⟨p, vs, rfl, h1, r1⟩, w, _, rfl, ⟨q, us, rfl, h2, r2⟩, rfl⟩ := q
    refine ⟨p, q, vs, us, rfl, .inr ⟨h1, h2, GoR.here g1 st ⟨?_, ?_, ?_⟩⟩⟩
    · intro ℓ' s' H' i ex st' _ hi
      simp only [zipD_len] at hi
      have e1 := r1.length
      have e2 := r2.length
      exact ⟨vs, us, vs[i]'(by omega), us[i]'(by omega), ex.rdT st h1, ex.rdT st h2, List.getElem?_eq_getElem _, List.getElem?_eq_getElem _⟩
    · intro ℓ' s' H' ex st' _
      have e1 := r1.length
      have e2 := r2.length
      exact ⟨vs, us, ex.rdT st h1, ex.rdT st h2, by simp only [zipD_len]; omega⟩
    · intro ℓ' s' H' i x H₂ ex st' _ hi y
      obtain ⟨tp, a, b, hx, hT, hH, f1, f2⟩ := y
      exact zip_yield st' (Reps.up ex st _ _ r1) (Reps.up ex st _ _ r2) hi hx hT hH (f1 vs (ex.rdT st h1)) (f2 us (ex.rdT st h2))
  · rename_i i j
    obtain ⟨v, _, rfl, ⟨hi, rfl⟩, w, _, rfl, ⟨hj, rfl⟩, rfl⟩ := q
    split at g1
    · rename_i xs ys hx hy
      obtain ⟨vs, h1, r1⟩ := st.sq hx
      obtain ⟨us, h2, r2⟩ := st.sq hy
      refine ⟨_, _, vs, us, rfl, .inl ⟨h1, h2, GoR.here g1 st ⟨?_, ?_, ?_⟩⟩⟩
      · intro ℓ' s' H' k ex st' ck hk
        simp only [zipD_len] at hk
        obtain ⟨vs', h1', r1'⟩ := st'.sq ck.1
        obtain ⟨us', h2', r2'⟩ := st'.sq ck.2
        rw [ex.same _ hi] at h1'
        rw [ex.same _ hj] at h2'
        have e1 := r1'.length
        have e2 := r2'.length
        exact ⟨vs', us', vs'[k]'(by omega), us'[k]'(by omega), h1', h2', List.getElem?_eq_getElem _, List.getElem?_eq_getElem _⟩
      · intro ℓ' s' H' ex st' ck
        obtain ⟨vs', h1', r1'⟩ := st'.sq ck.1
        obtain ⟨us', h2', r2'⟩ := st'.sq ck.2
        rw [ex.same _ hi] at h1'
        rw [ex.same _ hj] at h2'
        have e1 := r1'.length
        have e2 := r2'.length
        exact ⟨vs', us', h1', h2', by simp only [zipD_len]; omega⟩
      · intro ℓ' s' H' k x H₂ ex st' ck hk y
        obtain ⟨vs', h1', r1'⟩ := st'.sq ck.1
        obtain ⟨us', h2', r2'⟩ := st'.sq ck.2
        rw [ex.same _ hi] at h1'
        rw [ex.same _ hj] at h2'
        obtain ⟨tp, a, b, hx, hT, hH, f1, f2⟩ := y
        exact zip_yield st' r1' r2' hk hx hT hH (f1 vs' h1') (f2 us' h2')
    · exact g1.elim
  · exact g1.elim
/-! ## a comprehension -/
def wipeD (σ : Slo) : List Nat → Slo
  | [] => σ
  | v :: vs => (wipeD σ vs).set v none
theorem wipeD_len (σ : Slo) : ∀ vs : List Nat, (wipeD σ vs).length = σ.length
  | [] => rfl
  | v :: vs => by unfold wipeD; rw [List.length_set, wipeD_len σ vs]
theorem wipeD_some {σ : Slo} {i : Nat} {x : D} : ∀ {vs : List Nat}, (wipeD σ vs)[i]? = some (some x) → σ[i]? = some (some x) ∧ i ∉ vs
  | [], h => ⟨h, by simp⟩
  | v :: vs, h => by
    unfold wipeD at h
    by_cases hi : v = i
    · subst hi
      by_cases hv : v < (wipeD σ vs).length
      · rw [List.getElem?_set_self hv] at h; cases h
      · rw [List.getElem?_eq_none (by simpa using hv)] at h; cases h
    · rw [List.getElem?_set_ne hi] at h
      obtain ⟨h1, h2⟩ := wipeD_some h
      exact ⟨h1, by simp only [List.mem_cons, not_or]; exact ⟨fun e => hi e.symm, h2⟩⟩
theorem En.wipe {σ : L2.St} {σd : Slo} (en : En K ℓ n H σ σd) (vs : List Nat) : En K ℓ n H (L2.wipe σ vs) (wipeD σd vs) := by
  refine ⟨by rw [wipeD_len, wipe_length]; exact en.len, fun i d h => ?_⟩
  obtain ⟨h1, h2⟩ := wipeD_some h
  obtain ⟨v, h3, h4⟩ := en.at_ i d h1
  exact ⟨v, by rw [wipe_out h2]; exact h3, h4⟩
theorem wipe_same {σ σ' : L2.St} {ps vs : List Nat} (h : SameOut (L2.wipe σ vs) σ' ps) (hs : ∀ i ∈ ps, i ∈ vs) : L2.wipe σ' vs = L2.wipe σ vs := by
  have hl := h.1
  apply List.ext_getElem?
  intro i
  have key : ∀ (τ : L2.St) (us : List Nat), i ∈ us → i < τ.length → (L2.wipe τ us)[i]? = some none := by
    intro τ us
    induction us with
    | nil => intro hm; cases hm
    | cons v us ih =>
      intro hm hlt
      unfold L2.wipe
      by_cases hv : v = i
      · subst hv
        rw [List.getElem?_set_self (by rw [wipe_length]; exact hlt)]
      · rw [List.getElem?_set_ne hv]
        rcases List.mem_cons.mp hm with e | e
        · exact absurd e.symm hv
        · exact ih e hlt
  rw [wipe_length] at hl
  by_cases hi : i ∈ vs
  · by_cases hlt : i < σ.length
    · rw [key σ' vs hi (by omega), key σ vs hi hlt]
    · rw [List.getElem?_eq_none (by rw [wipe_length]; omega), List.getElem?_eq_none (by rw [wipe_length]; omega)]
  · rw [wipe_out hi, h.2 i (fun z => hi (hs i z))]
/-- no exception comes out of a block -/
def noX {α : Type} : Res α → Res α | .exc _ _ _ => .bad | r => r
abbrev W0 : WX := fun _ _ _ _ => False
open Classical in
noncomputable def lcM (p : Pat) (chk : Sto → Prop) (t : MT) (m : ME) (σ : Slo) : List D → List D → Sto → Res (List D)
  | [], acc, s => if chk s then .ok acc s else .bad
  | d :: ds, acc, s => if chk s then (match bindP p d σ with
    | none => .bad
    | some σ1 => (noX (t σ1 s)).bind fun k s => if k then (noX (m σ1 s)).bind fun y s => (if acc.length < big then lcM p chk t m σ ds (acc ++ [y]) s else .bad) else lcM p chk t m σ ds acc s) else .bad
noncomputable def mLc (vs : List Nat) (p : Pat) (mi : MI) (t : MT) (m : ME) : ME := fun σ s => (mi σ s).bind fun it s => (lcM p it.chk t m (wipeD σ vs) it.items [] s).bind fun acc s => .ok (.lst s.length) (s ++ [acc])
def mYes : MT := fun _ s => .ok true s
theorem rts_nil : PTs X [] (ttOf T X.K W mYes) := ⟨fun pins s σ H Q I h => by
  refine pts_nil.run pins s σ H Q I ?_
  obtain ⟨σd, ℓ, s, en, st, g⟩ := h
  exact GoR.here g st rfl⟩
theorem rts_one {c : Expr} {t : MT} (h : PT X c (ttOf T X.K W t)) : PTs X [c] (ttOf T X.K W t) := pts_one h
/-- a list that stood beside the store goes into it -/
theorem StOk.adopt {Dl : Addr} {vs : List V} {ds : List D} (st : StOk T K ℓ n H s) (h : H Dl = some (.lst vs)) (r : Reps K ℓ n H ds vs) (hn : ∀ i, i < n → ℓ i ≠ Dl) : StOk T K (ext ℓ n Dl) (n + 1) H (s ++ [ds]) := by
  have up : Up ℓ n H (ext ℓ n Dl) (n + 1) H := ⟨Nat.le_succ _, fun i hi => ext_lt hi, fun _ _ h _ _ => h⟩
  have ln := st.len
  refine ⟨st.tabs, fun i xs e => ?_, fun i j hi hj e => ?_, by rw [List.length_append, List.length_singleton, ln]⟩
  · by_cases hi : i < n
    · rw [List.getElem?_append_left (by omega)] at e
      obtain ⟨us, h1, h2⟩ := st.at_ i xs e
      exact ⟨us, by rw [ext_lt hi]; exact h1, Reps.upU up _ _ h2⟩
    · have hi2 : i = n := by
        have := (List.getElem?_eq_some_iff.mp e).1
        rw [List.length_append, List.length_singleton] at this
        omega
      subst hi2
      rw [List.getElem?_append_right (by omega), ← ln, Nat.sub_self] at e
      have : ds = xs := by simpa using e
      subst this
      exact ⟨vs, by rw [ext_at]; exact h, Reps.upU up _ _ r⟩
  · by_cases hi2 : i = n
    · by_cases hj2 : j = n
      · omega
      · rw [hi2, ext_at, ext_lt (show j < n by omega)] at e
        exact absurd e.symm (hn j (by omega))
    · by_cases hj2 : j = n
      · rw [hj2, ext_at, ext_lt (show i < n by omega)] at e
        exact absurd e (hn i (by omega))
      · rw [ext_lt (show i < n by omega), ext_lt (show j < n by omega)] at e
        exact st.inj i j (by omega) (by omega) e
/-- the list beside the store is written -/
theorem Up.side {Dl : Addr} {vs vs' : List V} (h : H Dl = some (.lst vs)) : Up ℓ n H ℓ n (upd H Dl (.lst vs')) :=
  ⟨Nat.le_refl _, fun _ _ => rfl, fun a o ha hn _ => by
    rw [upd_ne]
    · exact ha
    · intro e
      rw [e, h] at ha
      exact hn vs (Option.some.inj ha).symm⟩
theorem StOk.side {Dl : Addr} {vs vs' : List V} (st : StOk T K ℓ n H s) (h : H Dl = some (.lst vs)) (hn : ∀ i, i < n → ℓ i ≠ Dl) : StOk T K ℓ n (upd H Dl (.lst vs')) s := by
  refine ⟨tabs_keep st.tabs fun a u e hn2 => by
      rw [upd_ne]
      · exact e
      · intro z
        rw [z, h] at e
        exact hn2 vs (Option.some.inj e).symm, fun i xs e => ?_, st.inj, st.len⟩
  obtain ⟨us, h1, h2⟩ := st.at_ i xs e
  have hi : i < n := by have := (List.getElem?_eq_some_iff.mp e).1; have := st.len; omega
  exact ⟨us, by rw [upd_ne (hn i hi)]; exact h1, Reps.upU (Up.side h) _ _ h2⟩
/-- what the comprehension's turns keep: Dl the list that is made, beside the store -/
structure LcI (T : List (Addr × Str)) (K : PySem.W.Frag) (ℓ0 : Nat → Addr) (n0 : Nat) (H0 : Hp) (Dl : Addr) (ℓ : Nat → Addr) (s : Sto) (H : Hp) (acc : List D) : Prop where
  st : StOk T K ℓ s.length H s
  le : n0 ≤ s.length
  same : ∀ i, i < n0 → ℓ i = ℓ0 i
  keep : ∀ a o, H0 a = some o → (∀ i, i < n0 → ℓ0 i ≠ a) → (∀ ps, o ≠ .tbl ps) → H a = some o
  live : ∀ a, Free H a → Free H0 a
  new : ∀ i, n0 ≤ i → i < s.length → Free H0 (ℓ i)
  out : ∀ i, i < s.length → ℓ i ≠ Dl
  acc : ∃ vs, H Dl = some (.lst vs) ∧ Reps K ℓ s.length H acc vs
theorem LcI.ex {ℓ0 n0 H0 Dl ℓ acc} (I : LcI T K ℓ0 n0 H0 Dl ℓ s H acc) : Ex ℓ0 n0 H0 ℓ s.length H := ⟨I.le, I.same, I.keep, I.new, I.live⟩
theorem LcI.go {ℓ0 n0 H0 Dl ℓ acc ℓ'} {s0 s' : Sto} {H' : Hp} (st0 : StOk T K ℓ0 n0 H0 s0) (I : LcI T K ℓ0 n0 H0 Dl ℓ s H acc) (e : Ex ℓ s.length H ℓ' s'.length H') (st : StOk T K ℓ' s'.length H' s') : LcI T K ℓ0 n0 H0 Dl ℓ' s' H' acc := by
  have t := I.ex.trans I.st e
  obtain ⟨vs, h1, r1⟩ := I.acc
  refine ⟨st, t.le, t.same, t.keep, t.live, t.new, fun i hi z => ?_, vs, e.keep _ _ h1 I.out (fun _ z => by cases z), Reps.up e I.st _ _ r1⟩
  by_cases hlt : i < s.length
  · exact I.out i hlt (by rw [← e.same i hlt]; exact z)
  · obtain ⟨ps, q⟩ := e.new i (by omega) hi _ (by rw [z]; exact h1)
    cases q
theorem LcI.push {ℓ0 n0 H0 Dl ℓ acc} {y : D} {v : V} (hD : H0 Dl = none) (I : LcI T K ℓ0 n0 H0 Dl ℓ s H acc) (r : Rep K ℓ s.length H y v) {vs : List V} (h1 : H Dl = some (.lst vs)) : LcI T K ℓ0 n0 H0 Dl ℓ s (upd H Dl (.lst (vs ++ [v]))) (acc ++ [y]) := by
  obtain ⟨us, h2, r2⟩ := I.acc
  rw [h1] at h2
  cases h2
  refine ⟨I.st.side h1 I.out, I.le, I.same, fun a o h hn ht => ?_, fun a h => I.live a (live_lst a h), I.new, I.out, _, upd_same, ?_⟩
  · rw [upd_ne (ne_of_none h hD)]
    exact I.keep a o h hn ht
  · exact Reps.upU (Up.side h1) _ _ (Reps.append r2 (Reps.cons r Reps.nil))
theorem lc_imp {σ : L2.St} {Q : VK} {p : Pat} {mi : MI} {t : MT} {vs : List Nat} (hps : ∀ i ∈ p.sl, i ∈ vs) (h : teOf T K W (mLc vs p mi t m) σ H Q) : tLc (tiOf T K W mi) (Pat.g K p) (ttOf T K W0 t) (teOf T K W0 m) vs σ H Q := by
  refine tR.imp (tR.one (f := fun σd it s => (lcM p it.chk t m (wipeD σd vs) it.items [] s).bind fun acc s => .ok (D.lst s.length) (s ++ [acc])) (R := ItOk T K) h) fun J H0 h1 => ?_
  obtain ⟨σd, ℓ0, s0, it, en0, st0, ik, g0⟩ := h1
  intro Dl hD
  refine ⟨fun i k H => k = it.items.length - i ∧ i ≤ it.items.length ∧ ∃ ℓ s acc, LcI T K ℓ0 s0.length H0 Dl ℓ s H acc ∧ GoR T K W ℓ0 s0.length H0 σ (Rep K) ((lcM p it.chk t m (wipeD σd vs) (it.items.drop i) acc s).bind fun acc s => .ok (D.lst s.length) (s ++ [acc])) Q,
    ⟨it.items.length, rfl, Nat.zero_le _, ℓ0, s0, [], ?_, g0⟩, ?_⟩
  · have ne0 : ∀ i, i < s0.length → ℓ0 i ≠ Dl := fun i hi z => by
      obtain ⟨us, h1⟩ := st0.lt hi
      rw [z, hD] at h1
      cases h1
    exact ⟨st0.new_ hD, Nat.le_refl _, fun _ _ => rfl, fun a o h _ _ => by rw [upd_ne (ne_of_none h hD)]; exact h, live_new hD, fun i h1 h2 => absurd h2 (by omega), ne0, [], upd_same, Reps.nil⟩
  · rintro i k H ⟨rfl, hle, ℓ, s, acc, I, g⟩
    have enB : En K ℓ s.length H (L2.wipe σ vs) (wipeD σd vs) := (en0.up I.ex st0).wipe vs
    by_cases hlt : i < it.items.length
    · have ed : it.items.drop i = it.items[i] :: it.items.drop (i + 1) := List.drop_eq_getElem_cons hlt
      rw [ed] at g
      unfold lcM at g
      by_cases ck : it.chk s
      · rw [if_pos ck] at g
        refine .inr ⟨ik.goes ℓ s H i I.ex I.st ck hlt, fun H => ∃ ℓ s acc, LcI T K ℓ0 s0.length H0 Dl ℓ s H acc ∧ GoR T K W ℓ0 s0.length H0 σ (Rep K) ((lcM p it.chk t m (wipeD σd vs) (it.items.drop (i + 1)) acc s).bind fun acc s => .ok (D.lst s.length) (s ++ [acc])) Q,
          fun H' n => ⟨it.items.length - (i + 1), by omega, rfl, hlt, n⟩, fun x H2 y => ?_⟩
        obtain ⟨d, ed2, e2, st2, r2⟩ := ik.yields ℓ s H i x H2 I.ex I.st ck hlt y
        have ed3 : d = it.items[i] := by rw [List.getElem?_eq_getElem hlt] at ed2; exact (Option.some.inj ed2).symm
        subst ed3
        have I2 := I.go st0 e2 st2
        cases hb3 : bindP p it.items[i] (wipeD σd vs) with
        | none => rw [hb3] at g; exact g.elim
        | some σ1 =>
          rw [hb3] at g
          obtain ⟨σ', en3, so, k3⟩ := bindP_ok p _ x _ _ σ1 r2 (enB.up e2 I.st) hb3
          refine k3 _ ⟨wipe_same so hps, σ1, ℓ, s, en3, st2, ?_⟩
          simp only at g
          cases ht : t σ1 s with
          | bad => rw [ht] at g; exact g.elim
          | exc c fs s1 => rw [ht] at g; exact g.elim
          | ok b s1 =>
            rw [ht] at g
            intro b' ℓ3 H3 e3 st3 q3
            obtain rfl : b' = b := q3
            have I3 := I2.go st0 e3 st3
            cases b' with
            | false => exact ⟨ℓ3, s1, acc, I3, g⟩
            | true =>
              refine ⟨σ1, ℓ3, s1, en3.up e3 st2, st3, ?_⟩
              have g4 : GoR T K W ℓ0 s0.length H0 σ (Rep K) (((noX (m σ1 s1)).bind fun y s => (if acc.length < big then lcM p it.chk t m (wipeD σd vs) (it.items.drop (i + 1)) (acc ++ [y]) s else .bad)).bind fun acc s => .ok (D.lst s.length) (s ++ [acc])) Q := g
              cases hm : m σ1 s1 with
              | bad => rw [hm] at g4; exact g4.elim
              | exc c fs s2 => rw [hm] at g4; exact g4.elim
              | ok yd s2 =>
                rw [hm] at g4
                intro yv ℓ4 H4 e4 st4 q4
                have I4 := I3.go st0 e4 st4
                have g6 : GoR T K W ℓ0 s0.length H0 σ (Rep K) ((if acc.length < big then lcM p it.chk t m (wipeD σd vs) (it.items.drop (i + 1)) (acc ++ [yd]) s2 else .bad).bind fun acc s => .ok (D.lst s.length) (s ++ [acc])) Q := g4
                by_cases hb : acc.length < big
                · rw [if_pos hb] at g6
                  obtain ⟨us, h5, r5⟩ := I4.acc
                  exact ⟨us, h5, by rw [r5.length]; exact big_lt hb, ℓ4, s2, acc ++ [yd], I4.push hD q4 h5, g6⟩
                · rw [if_neg hb] at g6; exact g6.elim
      · rw [if_neg ck] at g; exact g.elim
    · have e : i = it.items.length := by omega
      subst e
      rw [List.drop_length] at g
      unfold lcM at g
      by_cases ck : it.chk s
      · rw [if_pos ck] at g
        refine .inl ⟨ik.stops ℓ s H I.ex I.st ck, ?_⟩
        have g7 : GoR T K W ℓ0 s0.length H0 σ (Rep K) (.ok (D.lst s.length) (s ++ [acc])) Q := g
        obtain ⟨us, h5, r5⟩ := I.acc
        have el : (s ++ [acc]).length = s.length + 1 := by simp
        refine GoR.now g7 (ℓ' := ext ℓ s.length Dl) ?_ (by rw [el]; exact I.st.adopt h5 r5 I.out) ?_
        · rw [el]
          refine ⟨by have := I.le; omega, fun i hi => by rw [ext_lt (Nat.lt_of_lt_of_le hi I.le)]; exact I.same i hi, I.keep, fun i h1 h2 => ?_, I.live⟩
          by_cases hi : i = s.length
          · rw [hi, ext_at]; exact Free.of hD
          · rw [ext_lt (by omega)]; exact I.new i h1 (by omega)
        · rw [el]
          exact ⟨Nat.lt_succ_self _, by rw [ext_at]⟩
      · rw [if_neg ck] at g; exact g.elim
section
variable {elt tg iter : Expr} {ifs : List Expr} {scope : Scope} {own : List (Str × Nat)} {p : Pat} {mi : MI} {t : MT}
theorem re_lc (hc : X.calm = true) (hN : X.N.Nodup) (hi : PI X tg iter (tiOf T X.K W mi)) (ok : BlkOk X.N X.env.scope scope own) (hps : ∀ i ∈ p.sl, i ∈ own.map (·.2))
    (hg : ∀ (s : Shared) (H : Hp) (C : Addr) (cl : List (Str × Addr)) (fp : List Addr), PG (X.blk s H scope (compEnvC scope cl C X.env) fp) tg (Pat.g X.K p)) (ht : ∀ (s : Shared) (H : Hp) (C : Addr) (cl : List (Str × Addr)) (fp : List Addr), PTs (X.blk s H scope (compEnvC scope cl C X.env) fp) ifs (ttOf T X.K W0 t))
    (he : ∀ (s : Shared) (H : Hp) (C : Addr) (cl : List (Str × Addr)) (fp : List Addr), PE (X.blk s H scope (compEnvC scope cl C X.env) fp) elt (teOf T X.K W0 m)) (hs : ∀ x, foldedSetIterable iter X.env x = pure x := by intro _; rfl) :
    PE X (.ListComp elt [⟨tg, iter, ifs, 0⟩] scope pos) (teOf T X.K W (mLc (own.map (·.2)) p mi t m)) :=
  PE.imp (pe_lc hc hN hi ok hg ht he hs) fun σ H Q h => lc_imp hps h
/-- name = [..] -/
theorem rs_setLc {i : Nat} {y : Str} {py spos : Pos} (hc : X.calm = true) (hN : X.N.Nodup) (hy : X.N[i]? = some y) (hyl : X.env.scope.names.lookup y = some .local)
    (hsw : swapsWith (.ListComp elt [⟨tg, iter, ifs, 0⟩] scope pos) (some (.Name y py)) spos.line X.env = pure true) (hi : PI X tg iter (tiOf T X.K W mi)) (ok : BlkOk X.N X.env.scope scope own) (hps : ∀ i ∈ p.sl, i ∈ own.map (·.2))
    (hg : ∀ (s : Shared) (H : Hp) (C : Addr) (cl : List (Str × Addr)) (fp : List Addr), PG (X.blk s H scope (compEnvC scope cl C X.env) fp) tg (Pat.g X.K p)) (ht : ∀ (s : Shared) (H : Hp) (C : Addr) (cl : List (Str × Addr)) (fp : List Addr), PTs (X.blk s H scope (compEnvC scope cl C X.env) fp) ifs (ttOf T X.K W0 t))
    (he : ∀ (s : Shared) (H : Hp) (C : Addr) (cl : List (Str × Addr)) (fp : List Addr), PE (X.blk s H scope (compEnvC scope cl C X.env) fp) elt (teOf T X.K W0 m)) (hs : ∀ x, foldedSetIterable iter X.env x = pure x := by intro _; rfl) :
    PS X (.Assign [.Name y py] (.ListComp elt [⟨tg, iter, ifs, 0⟩] scope pos) spos) (tsOf T X.K W (mAsg (.nm i) (mLc (own.map (·.2)) p mi t m))) :=
  PS.imp (ps_setLc hc hN hy hyl hsw hi ok hg ht he hs) fun D σ H h => by
    have h2 := asg_ok h
    exact lc_imp hps (tR.imp h2 fun x H1 q => by unfold Pat.g at q; exact q)
end
/-! ## isinstance, methods of lists, items stored -/
def isiD (T : String) : D → Option Bool
  | .non => kitB "NoneType" T | .bl _ => kitB "bool" T | .int _ => kitB "int" T | .str _ => kitB "str" T | .tup _ => kitB "tuple" T | .lst _ => kitB "list" T | .ro _ => kitB "list" T
def pIsi (T : String) : P1 := fun d s => match isiD T d with | some b => .ok (.bl b) s | none => .bad
theorem tyx_of {ℓ' : Nat → Addr} {s' : Sto} {H' : Hp} (st : StOk T K ℓ' s'.length H' s') : ∀ {d : D} {x : V}, Rep K ℓ' s'.length H' d x → ∃ t, TyX K H' x (.type t) ∧ ∀ T, isiD T d = kitB t T
  | .non, _, h => by cases h; exact ⟨_, .base .non, fun _ => rfl⟩
  | .bl b, _, h => by cases h; exact ⟨_, .base (.bl b), fun _ => rfl⟩
  | .int i, _, h => by cases h; exact ⟨_, .base (.int i), fun _ => rfl⟩
  | .str i, _, h => by cases h; exact ⟨_, .base (.str i), fun _ => rfl⟩
  | .tup xs, _, h => by
    obtain ⟨a, vs, rfl, h1, r1⟩ := h
    rcases h1 with (h1 | ⟨o, h1⟩) | ⟨o, its, n, h1, h2, h3⟩
    · exact ⟨_, .base (.tup h1), fun _ => rfl⟩
    · exact ⟨_, .fTuple h1, fun _ => rfl⟩
    · exact ⟨_, .kTuple h1 h2, fun _ => rfl⟩
  | .lst k, _, h => by
    obtain ⟨hk, rfl⟩ := h
    obtain ⟨vs, h1⟩ := st.lt hk
    exact ⟨_, .base (.lst h1), fun _ => rfl⟩
  | .ro xs, _, h => by
    obtain ⟨a, vs, rfl, h1, r1⟩ := h
    rcases h1 with ⟨o, h1⟩ | ⟨o, its, n, h1, h2, h3⟩
    · exact ⟨_, .base (.frz h1), fun _ => rfl⟩
    · exact ⟨_, .kList h1 h2, fun _ => rfl⟩
theorem re_isi {ty : String} {tn : Str} {p q : Pos} (hg : Gl X "isinstance") (hm : X.mg "isinstance" = none) (hb : bootBuiltins "isinstance" = some (.builtin "isinstance")) (hgT : Gl X tn) (hmT : X.mg tn = none) (hbT : bootBuiltins tn = some (.type ty)) (he : PE X e (teOf T X.K W m))
    (hnT : tn ≠ "__name__" := by decide) (hdT : (tn == ("__debug__" : Str)) = false := by decide)
    (he1 : starEach (e :: [.Name tn q]) X.env = (false, eval e X.env) :: starEach [.Name tn q] X.env := by rfl) (he2 : starEach [.Name tn q] X.env = (false, eval (.Name tn q) X.env) :: starEach [] X.env := by rfl) (hpl : (backTo pos (starEach [.Name tn q] X.env)).any (·.1) = false := by rfl) :
    PE X (.Call (.Name "isinstance" p) [e, .Name tn q] [] pos) (teOf T X.K W (mOp1 (pIsi ty) m)) :=
  PE.imp (pe_callB call_isi hg hm hb (pa_cons he (pa_cons (pe_bltn (v := .ty ty) hgT hmT hbT rfl hnT hdT) pa_nil he2) he1) (by decide) (by decide) he1 hpl) fun σ H Q h => by
    refine tR.imp (tR.one (f := fun _ => pIsi ty) (R := Rep X.K) h) fun x H1 h1 => ?_
    obtain ⟨σd, ℓ₁, s₁, d, en, st, q, g1⟩ := h1
    obtain ⟨t, h2, h3⟩ := tyx_of st q
    have g2 : GoR T X.K W ℓ₁ s₁.length H1 σ (Rep X.K) (match isiD ty d with | some b => .ok (.bl b) s₁ | none => .bad) Q := g1
    cases hi : isiD ty d with
    | none => rw [hi] at g2; exact g2.elim
    | some b =>
      rw [hi] at g2
      rw [h3 ty] at hi
      exact ⟨x, .ty ty, .type t, .type ty, b, rfl, .ty ty, h2, kit_ty hi, GoR.here g2 st rfl⟩
/-- xs.append(e), xs.insert(i, e) -/
def mMeth (g : D → List D → Sto → Res D) (o : ME) (a : MA) : ME := fun σ s => (o σ s).bind fun d s => (a σ s).bind fun ds s => g d ds s
def gAppend (d : D) (ds : List D) (s : Sto) : Res D := match d, ds with
  | .lst n, [x] => (match s[n]? with | some xs => if xs.length < big then .ok .non (s.set n (xs ++ [x])) else .bad | none => .bad)
  | _, _ => .bad
def gInsert (d : D) (ds : List D) (s : Sto) : Res D := match d, ds with
  | .lst n, [.int i, x] => (match s[n]? with | some xs => if xs.length < big ∧ 0 ≤ i ∧ i < 2 ^ 62 then .ok .non (s.set n (xs.take i.toNat ++ [x] ++ xs.drop i.toNat)) else .bad | none => .bad)
  | _, _ => .bad
def MethOk (K : PySem.W.Frag) (ty : String) (g : D → List D → Sto → Res D) (r : V → List V → Hp → VK → Prop) : Prop := ∀ (T : List (Addr × Str)) (W : WX) (ℓ : Nat → Addr) (s : Sto) (H : Hp) (σ : L2.St) (d : D) (ds : List D) (x : V) (xs : List V) (Q : VK), StOk T K ℓ s.length H s →
  Rep K ℓ s.length H d x → Reps K ℓ s.length H ds xs → GoR T K W ℓ s.length H σ (Rep K) (g d ds s) Q → r x xs H Q
/-- only lists have these methods here -/
def isL : D → Bool | .lst _ => true | _ => false
def mMethL (g : D → List D → Sto → Res D) (o : ME) (a : MA) : ME := fun σ s => (o σ s).bind fun d s => if isL d then (a σ s).bind fun ds s => g d ds s else .bad
theorem meth_l {g : D → List D → Sto → Res D} {r : V → List V → Hp → VK → Prop} {o : ME} {a : MA} {σ : L2.St} {Q : VK} (hg : MethOk K "list" g r) (h : teOf T K W (mMethL g o a) σ H Q) : tBM K "list" r (teOf T K W o) (taOf T K W a) σ H Q := by
  refine tR.imp (tR.one (R := Rep K) h) fun x H1 h1 => ?_
  obtain ⟨σd, ℓ₁, s₁, d, en, st, q, g1⟩ := h1
  cases d <;> first | exact g1.elim | skip
  rename_i k
  have q' := q
  obtain ⟨hk, rfl⟩ := q'
  obtain ⟨vs, h2⟩ := st.lt hk
  refine ⟨.inl ⟨rfl, vs, SqL.of h2⟩, ?_⟩
  have g2 : tR T K W (Reps K) a σ H1 _ := ⟨σd, ℓ₁, s₁, en, st, GoR.bind (R := Reps K) g1⟩
  refine tR.imp g2 fun xs H2 h3 => ?_
  obtain ⟨ℓ₂, s₂, ds, ex, st2, q2, g3⟩ := h3
  exact hg T W ℓ₂ s₂ H2 σ _ ds _ xs Q st2 (Rep.up ex st _ _ q) q2 g3
theorem go_write {i : Nat} {ds : List D} {vs : List V} {Q : VK} {σ : L2.St} (h : GoR T K W ℓ s.length H σ (Rep K) (.ok .non (s.set i ds)) Q) (st : StOk T K ℓ s.length H s) (hi : i < s.length) (r : Reps K ℓ s.length H ds vs) : Q .non (upd H (ℓ i) (.lst vs)) := by
  refine GoR.now h (ℓ' := ℓ) (by rw [List.length_set]; exact Ex.write hi) (by rw [List.length_set]; exact st.write hi r) rfl
theorem meth_append : MethOk K "list" gAppend rAppend := by
  intro T W ℓ s H σ d ds x xs Q st r1 r2 g
  unfold gAppend at g
  split at g
  · rename_i k y
    obtain ⟨hk, rfl⟩ := r1
    obtain ⟨v, _, rfl, ry, rfl⟩ := r2
    have e0 : s[k]? = some s[k] := List.getElem?_eq_getElem hk
    rw [e0] at g
    obtain ⟨vs, h1, r3⟩ := st.at_ k _ e0
    simp only at g
    split at g
    · rename_i c
      exact ⟨_, vs, v, rfl, rfl, h1, by rw [r3.length]; exact big_lt c, go_write g st hk (Reps.append r3 (Reps.cons ry Reps.nil))⟩
    · exact g.elim
  · exact g.elim
theorem meth_insert : MethOk K "list" gInsert (fun x vs H Q => ∃ (l : Addr) (xs : List V) (i : Int) (y : V), x = .ref l ∧ vs = [.int i, y] ∧ H l = some (.lst xs) ∧ xs.length < sizeLine ∧ 0 ≤ i ∧ i < 2 ^ 63 ∧
    Q .non (upd H l (.lst (xs.take i.toNat ++ [y] ++ xs.drop i.toNat)))) := by
  intro T W ℓ s H σ d ds x xs Q st r1 r2 g
  unfold gInsert at g
  split at g
  · rename_i k i y
    obtain ⟨hk, rfl⟩ := r1
    obtain ⟨v, _, rfl, rfl, w, _, rfl, ry, rfl⟩ := r2
    have e0 : s[k]? = some s[k] := List.getElem?_eq_getElem hk
    rw [e0] at g
    obtain ⟨vs, h1, r3⟩ := st.at_ k _ e0
    simp only at g
    split at g
    · rename_i c
      obtain ⟨c1, c2, c3⟩ := c
      exact ⟨_, vs, i, w, rfl, rfl, h1, by rw [r3.length]; exact big_lt c1, c2, by omega, go_write g st hk (Reps.append (Reps.append (r3.take _) (Reps.cons ry Reps.nil)) (r3.drop _))⟩
    · exact g.elim
  · exact g.elim
section
variable {o a : Expr} {es : List Expr} {mo : ME} {ma : MA} {apos cpos : Pos}
theorem re_append (ho : PE X o (teOf T X.K W mo)) (ha : PA X [a] (taOf T X.K W ma)) (h1 : attributeBase o "append" X.env (eval o X.env) = eval o X.env := by rfl)
    (h2 : ((((backTo cpos (starEach [a] X.env)).all fun x => !x.1) && (backToKw cpos (keywordEach [] X.env)).all fun x => x.1.isSome) && decide ([a].length + ([] : List Keyword).length + (if ([] : List Keyword).isEmpty then 0 else 1) < 30)) = true := by rfl) (h3 : (apos.endLine == cpos.line) = true := by rfl)
    (h4 : starEach [a] X.env = (false, eval a X.env) :: starEach [] X.env := by rfl) (h5 : (backTo cpos (starEach [] X.env)).any (·.1) = false := by rfl) :
    PE X (.Call (.Attribute o "append" apos) [a] [] cpos) (teOf T X.K W (mMethL gAppend mo ma)) :=
  PE.imp (pe_bm PySem.F.plainAttrs_list PySem.F.slot_list_append PySem.F.type_list_append mt_append ho ha h1 h2 h3 h4 h5) fun σ H Q h => meth_l meth_append h
theorem re_insert {b : Expr} (ho : PE X o (teOf T X.K W mo)) (ha : PA X [a, b] (taOf T X.K W ma)) (h1 : attributeBase o "insert" X.env (eval o X.env) = eval o X.env := by rfl)
    (h2 : ((((backTo cpos (starEach [a, b] X.env)).all fun x => !x.1) && (backToKw cpos (keywordEach [] X.env)).all fun x => x.1.isSome) && decide ([a, b].length + ([] : List Keyword).length + (if ([] : List Keyword).isEmpty then 0 else 1) < 30)) = true := by rfl) (h3 : (apos.endLine == cpos.line) = true := by rfl)
    (h4 : starEach [a, b] X.env = (false, eval a X.env) :: starEach [b] X.env := by rfl) (h5 : (backTo cpos (starEach [b] X.env)).any (·.1) = false := by rfl) :
    PE X (.Call (.Attribute o "insert" apos) [a, b] [] cpos) (teOf T X.K W (mMethL gInsert mo ma)) :=
  PE.imp (pe_bm PySem.F.plainAttrs_list PySem.F.slot_list_insert PySem.F.type_list_insert mt_insert ho ha h1 h2 h3 h4 h5) fun σ H Q h => meth_l meth_insert h
end
/-- o[i] = e -/
def setL (d i x : D) (σ : Slo) (s : Sto) : Flo := match d, i with
  | .lst n, .int k => (match s[n]? with | some xs => (match ixN xs.length k with | some j => .nx σ (s.set n (xs.set j x)) | none => .bad) | none => .bad)
  | _, _ => .bad
def mSetIx (o i v : ME) : MS := fun σ s => (v σ s).st σ fun x s => (o σ s).st σ fun d s => (i σ s).st σ fun k s => setL d k x σ s
theorem rs_setIx {o i v : Expr} {mo mi mv : ME} {spos : Pos} (hv : PE X v (teOf T X.K W mv)) (ho : PE X o (teOf T X.K W mo)) (hi : PE X i (teOf T X.K W mi))
    (ha : ∀ v, assign (.Subscript o i pos) X.env v = (do
      let ov ← holding [v] (eval o X.env)
      let iv ← holding [v, ov] (eval i X.env)
      standAt pos
      holding [v, ov, iv] (setItem ov iv v)
      release [v, ov, iv] []) := by intro _; rfl)
    (hs : swapsWithSole [.Subscript o i pos] v spos.line X.env = pure false := by rfl) (hw : swappedStores [.Subscript o i pos] v X.env = pure none := by rfl) (h1 : (assignEach [.Subscript o i pos] X.env).map (·.2) = [assign (.Subscript o i pos) X.env] := by rfl) :
    PS X (.Assign [.Subscript o i pos] v spos) (tsOf T X.K W (mSetIx mo mi mv)) := PS.imp (ps_asg hv (pg_sub ho hi set_list ha) hs hw h1) fun D σ H h => by
  refine tR.imp (tS.one (R := Rep X.K) h) fun x H1 h1 => ?_
  obtain ⟨σd, ℓ₁, s₁, xd, en, st, q, g1⟩ := h1
  have g2 : tR T X.K W (Rep X.K) mo σ H1 _ := ⟨σd, ℓ₁, s₁, en, st, GoS.bind (R := Rep X.K) en st g1⟩
  refine tR.imp g2 fun ov H2 h2 => ?_
  obtain ⟨ℓ₂, s₂, od, ex, st2, q2, g3⟩ := h2
  have en2 := en.up ex st
  have g4 : tR T X.K W (Rep X.K) mi σ H2 _ := ⟨σd, ℓ₂, s₂, en2, st2, GoS.bind (R := Rep X.K) en2 st2 g3⟩
  refine tR.imp g4 fun iv H3 h3 => ?_
  obtain ⟨ℓ₃, s₃, id, ex3, st3, q3, g5⟩ := h3
  unfold setL at g5
  split at g5
  · rename_i k j
    have q2' := Rep.up ex3 st2 _ _ q2
    obtain ⟨hk, rfl⟩ := q2'
    cases q3
    have e0 : s₃[k]? = some s₃[k] := List.getElem?_eq_getElem hk
    rw [e0] at g5
    obtain ⟨vs, h4, r4⟩ := st3.at_ k _ e0
    simp only at g5
    split at g5
    · rename_i jj hj
      have rx := Rep.up ex3 st2 _ _ (Rep.up ex st _ _ q)
      refine ⟨_, vs, j, jj, rfl, rfl, h4, by rw [r4.length]; exact hj, ?_⟩
      have exw : Ex ℓ₃ s₃.length H3 ℓ₃ (s₃.set k (s₃[k].set jj xd)).length (upd H3 (ℓ₃ k) (.lst (vs.set jj x))) := by rw [List.length_set]; exact Ex.write hk
      have stw : StOk T X.K ℓ₃ (s₃.set k (s₃[k].set jj xd)).length (upd H3 (ℓ₃ k) (.lst (vs.set jj x))) (s₃.set k (s₃[k].set jj xd)) := by rw [List.length_set]; exact st3.write hk (Reps.set jj r4 rx)
      exact g5 σ ℓ₃ _ exw stw ((en2.up ex3 st2).up exw st3)
    · exact g5.elim
  · exact g5.elim
end
end RM
set_option Elab.async false
set_option linter.all false
set_option maxRecDepth 100000
set_option maxHeartbeats 2000000
namespace RM
open PySem PySem.Spec PyProof.Rows L2
section
variable {T : List (Addr × Str)} {K : PySem.W.Frag} {W : WX} {ℓ : Nat → Addr} {n : Nat} {s : Sto} {H : Hp} {X : Cx}
variable {e : Expr} {m : ME} {pos : Pos}
/-! ## op= -/
/-- x += e, x -= e of ints -/
def mAug (i : Nat) (f : Int → Int → Int) (m : ME) : MS := fun σ s => match σ[i]? with
  | some (some (.int a)) => (m σ s).st σ fun d s => (match d with | .int b => .nx (σ.set i (some (.int (f a b)))) s | _ => .bad)
  | _ => .bad
theorem aug_imp {i : Nat} {f : Int → Int → Int} {D : Ends} {σ : L2.St} (h : tsOf T K W (mAug i f m) D σ H) : tAug i (teOf T K W m) (ipI f) D σ H := by
  obtain ⟨σd, ℓ, s, en, st, g⟩ := h
  unfold mAug at g
  split at g
  · rename_i a ha
    obtain ⟨v, h1, h2⟩ := en.at_ i _ ha
    cases h2
    refine ⟨.int a, h1, ?_⟩
    have g2 : tR T K W (Rep K) m σ H _ := ⟨σd, ℓ, s, en, st, GoS.bind (R := Rep K) en st g⟩
    refine tR.imp g2 fun y H1 h3 => ?_
    obtain ⟨ℓ₁, s₁, d, ex, st1, q, g1⟩ := h3
    cases d <;> first | exact g1.elim | skip
    rename_i b
    cases q
    exact ⟨a, b, rfl, rfl, g1 _ ℓ₁ H1 Ex.refl st1 ((en.up ex st).set (d := .int (f a b)) rfl)⟩
  · exact g.elim
theorem rs_augAdd {i : Nat} {x : Str} {pos' : Pos} (hN : X.N.Nodup) (hi : X.N[i]? = some x) (hx : Loc X.env.scope x) (he : PE X e (teOf T X.K W m)) (hf : X.fn x = true ∨ X.env.scope.names.lookup x = some .local := by first | exact .inl rfl | exact .inr rfl | assumption) :
    PS X (.AugAssign (.Name x pos') .Add e pos) (tsOf T X.K W (mAug i (fun a b => a + b) m)) := PS.imp (ps_aug hN hi hx he ip_add hf) fun _ _ _ h => aug_imp h
theorem rs_augSub {i : Nat} {x : Str} {pos' : Pos} (hN : X.N.Nodup) (hi : X.N[i]? = some x) (hx : Loc X.env.scope x) (he : PE X e (teOf T X.K W m)) (hf : X.fn x = true ∨ X.env.scope.names.lookup x = some .local := by first | exact .inl rfl | exact .inr rfl | assumption) :
    PS X (.AugAssign (.Name x pos') .Sub e pos) (tsOf T X.K W (mAug i (fun a b => a - b) m)) := PS.imp (ps_aug hN hi hx he ip_sub hf) fun _ _ _ h => aug_imp h
theorem get_list : PGet X (rIxL X.K) := by
  intro pins s σ H o i ov iv Q I rx ry h
  obtain ⟨p, xs, k, z, rfl, rfl, hq, he, q⟩ := h
  cases rx
  obtain ⟨t, rfl⟩ := ry
  obtain ⟨its, r, pl, hz⟩ := I.list hq
  obtain ⟨j, h1, h2, h3, h4, h5⟩ := atI_get he
  obtain ⟨w, ew, rw'⟩ := r.get h2
  have hl := r.length
  have hn := line63
  have fin : EP X pins σ Q w s := ⟨z, H, I, rw', q⟩
  by_cases h0 : 0 ≤ k
  · have hj : k.toNat = j := by
      rw [seqIndex_of h0 h5] at h1
      exact Option.some.inj h1
    exact wpAny_getItem_list pl.isList h0 (by omega) (by rw [hj]; simpa using ew) fin
  · have hj : (k + (its.toArray.size : Int)).toNat = j := by
      rw [seqIndex_neg (by omega) h4] at h1
      rw [List.size_toArray, ← hl]
      exact Option.some.inj h1
    exact wpAny_getItem_list_neg pl.isList (by omega) (by rw [List.size_toArray] <;> omega) (by omega) (by rw [hj]; simpa using ew) fin
/-- o[i] += e -/
def mAugIx (f : Int → Int → Int) (o i v : ME) : MS := fun σ s => (o σ s).st σ fun d s => (i σ s).st σ fun k s => match d, k with
  | .lst n, .int k => (match s[n]? with
    | some xs => (match L2.atI xs k with
      | some (.int a) => (v σ s).st σ fun y s => (match y with
        | .int b => setL (.lst n) (.int k) (.int (f a b)) σ s
        | _ => .bad)
      | _ => .bad)
    | none => .bad)
  | _, _ => .bad
theorem augIx_imp {f : Int → Int → Int} {mo mi mv : ME} {D : Ends} {σ : L2.St} (h : tsOf T K W (mAugIx f mo mi mv) D σ H) : tAugS (teOf T K W mo) (teOf T K W mi) (teOf T K W mv) (rIxL K) (ipI f) rSetL D σ H := by
  refine tR.imp (tS.one (R := Rep K) h) fun o H1 h1 => ?_
  obtain ⟨σd, ℓ₁, s₁, od, en, st, q, g1⟩ := h1
  have g2 : tR T K W (Rep K) mi σ H1 _ := ⟨σd, ℓ₁, s₁, en, st, GoS.bind (R := Rep K) en st g1⟩
  refine tR.imp g2 fun iv H2 h2 => ?_
  obtain ⟨ℓ₂, s₂, id, ex, st2, q2, g3⟩ := h2
  have en2 := en.up ex st
  split at g3
  · rename_i k j
    have q' := Rep.up ex st _ _ q
    obtain ⟨hk, rfl⟩ := q'
    cases q2
    have e0 : s₂[k]? = some s₂[k] := List.getElem?_eq_getElem hk
    rw [e0] at g3
    obtain ⟨vs, h4, r4⟩ := st2.at_ k _ e0
    simp only at g3
    split at g3
    · rename_i a ha
      obtain ⟨v, e1, e2⟩ := r4.atI ha
      cases e2
      refine ⟨_, vs, j, .int a, rfl, rfl, SqL.of h4, e1, ?_⟩
      have g4 : tR T K W (Rep K) mv σ H2 _ := ⟨σd, ℓ₂, s₂, en2, st2, GoS.bind (R := Rep K) en2 st2 g3⟩
      refine tR.imp g4 fun y H3 h3 => ?_
      obtain ⟨ℓ₃, s₃, yd, ex3, st3, q3, g5⟩ := h3
      cases yd <;> first | exact g5.elim | skip
      rename_i b
      cases q3
      refine ⟨a, b, rfl, rfl, ?_⟩
      unfold setL at g5
      have hk3 : k < s₃.length := Nat.lt_of_lt_of_le hk ex3.le
      have e3 : s₃[k]? = some s₃[k] := List.getElem?_eq_getElem hk3
      simp only [e3] at g5
      obtain ⟨us, h5, r5⟩ := st3.at_ k _ e3
      split at g5
      · rename_i jj hj
        refine ⟨_, us, j, jj, rfl, rfl, by rw [← ex3.same k hk]; exact h5, by rw [r5.length]; exact hj, ?_⟩
        rw [← ex3.same k hk]
        have exw : Ex ℓ₃ s₃.length H3 ℓ₃ (s₃.set k (s₃[k].set jj (.int (f a b)))).length (upd H3 (ℓ₃ k) (.lst (us.set jj (.int (f a b))))) := by rw [List.length_set]; exact Ex.write hk3
        have stw : StOk T K ℓ₃ (s₃.set k (s₃[k].set jj (.int (f a b)))).length (upd H3 (ℓ₃ k) (.lst (us.set jj (.int (f a b))))) (s₃.set k (s₃[k].set jj (.int (f a b)))) := by rw [List.length_set]; exact st3.write hk3 (Reps.set jj r5 rfl)
        exact g5 σ ℓ₃ _ exw stw ((en2.up ex3 st2).up exw st3)
      · exact g5.elim
    · exact g3.elim
  · exact g3.elim
theorem rs_augIxAdd {o i v : Expr} {mo mi mv : ME} {tpos : Pos} (ho : PE X o (teOf T X.K W mo)) (hi : PE X i (teOf T X.K W mi)) (hv : PE X v (teOf T X.K W mv))
    (ha : ∀ ov iv new, augStore i ov iv new = (do holding [new, ov, iv] (setItem ov iv new); release [new, ov, iv] []; pure .next) := by intros; rfl) : PS X (.AugAssign (.Subscript o i tpos) .Add v pos) (tsOf T X.K W (mAugIx (fun a b => a + b) mo mi mv)) :=
  PS.imp (ps_augS ho hi get_list hv ip_add set_list ha) fun _ _ _ h => augIx_imp h
/-! ## raise -/
theorem pmk_own0 {C : Addr} {bmB : List Value} {B newId initId : String} {x : Str} {p : Pos} (F : ExcBaseFacts B newId initId bmB) (q : PySem.W.excIn X.K C bmB newId = true) (gC : X.mg x = some (.ref C))
    (kC : PySem.W.keepIn X.K (.ref C) = true) (r : Raises X (.ref C)) (hg : Gl X x) (hdb : (x == ("__debug__" : Str)) = false := by decide) : PMk X (.Call (.Name x p) [] [] pos) (fun σ H Q => Q (.ref C) none H) := by
  intro pins s σ H Q I h
  refine wpAny_Call_Name_kw (ld_glob I hg gC ?_ hdb)
  refine PySem.W.callWith_K0 I.kIn kC ?_
  show wpAny _ _ (call (.ref C) []) _ _ _
  obtain ⟨bm, N, nm, qn, bs, hdct, sn, sub, ab, col, dd, k0, k1, k2, k3, k5, mN, hC, hN, hni, T⟩ := exc_obj I.kIn q
  exact wpAny_call_exc_subT F T hC hN hni (fun h' e hm => mk_of I hm r h (I.hok.gone hm.new)) (by show 0 ≤ sizeLine; exact Nat.zero_le _)
def mRaise (C : Addr) : MS := fun σ s => .exc C [] σ s
/-- what is known of an own exception class without __init__ -/
structure Exc0 (K : PySem.W.Frag) (mg : Str → Option Value) (x : Str) (C : Addr) : Prop where
  q : PySem.W.excIn K C [.type "ValueError", .type "Exception", .type "BaseException", .type "object"] "ValueError.__new__" = true
  g : mg x = some (.ref C)
  k : PySem.W.keepIn K (.ref C) = true
  b : PySem.W.subIn K (.ref C) (.type "BaseException") = some true
  t : PySem.W.typeIn K (.ref C) = some (.type "type")
theorem rs_raise0 {C : Addr} {x : Str} {p pos2 : Pos} (E : Exc0 X.K X.mg x C) (hc : X.calm = true) (tk : Takes X W) (hg : Gl X x) (hdb : (x == ("__debug__" : Str)) = false := by decide) :
    PS X (.Raise (some (.Call (.Name x p) [] [] pos)) none pos2) (tsOf T X.K W (mRaise C)) :=
  PS.imp (ps_raise hc tk (pmk_own0 PySem.F.excBase_ValueError E.q E.g E.k (raises_own E.b E.t) hg hdb)) fun D σ H h => by
    obtain ⟨σd, ℓ, s, en, st, g⟩ := h
    exact g σ none ℓ H Ex.refl st en (.inl ⟨rfl, trivial⟩)
/-! ## defs -/
mutual
def below (n : Nat) : D → Bool
  | .tup xs => belows n xs
  | .ro xs => belows n xs
  | .lst m => decide (m < n)
  | _ => true
def belows (n : Nat) : List D → Bool
  | [] => true
  | x :: xs => below n x && belows n xs
end
mutual
theorem Rep.below : ∀ (d : D) (v : V), Rep K ℓ n H d v → below n d = true
  | .non, _, _ => by unfold RM.below; rfl
  | .bl _, _, _ => by unfold RM.below; rfl
  | .int _, _, _ => by unfold RM.below; rfl
  | .str _, _, _ => by unfold RM.below; rfl
  | .tup ds, _, h => by
    obtain ⟨a, vs, h1, h2, h3⟩ := h
    unfold RM.below
    exact Reps.belows ds vs h3
  | .lst m, _, h => by unfold RM.below; exact decide_eq_true h.1
  | .ro ds, _, h => by
    obtain ⟨a, vs, h1, h2, h3⟩ := h
    unfold RM.below
    exact Reps.belows ds vs h3
theorem Reps.belows : ∀ (ds : List D) (vs : List V), Reps K ℓ n H ds vs → belows n ds = true
  | [], _, _ => by unfold RM.belows; rfl
  | d :: ds, _, h => by
    obtain ⟨v, r, h1, h2, h3⟩ := h
    unfold RM.belows
    rw [Rep.below d v h2, Reps.belows ds r h3]
    rfl
end
mutual
theorem Rep.low {n' : Nat} : ∀ (d : D) (v : V), RM.below n d = true → Rep K ℓ n' H d v → Rep K ℓ n H d v
  | .non, _, _, h => h
  | .bl _, _, _, h => h
  | .int _, _, _, h => h
  | .str _, _, _, h => h
  | .tup ds, _, b, h => by
    obtain ⟨a, vs, h1, h2, h3⟩ := h
    unfold RM.below at b
    exact ⟨a, vs, h1, h2, Reps.low ds vs b h3⟩
  | .lst m, _, b, h => by
    unfold RM.below at b
    exact ⟨of_decide_eq_true b, h.2⟩
  | .ro ds, _, b, h => by
    obtain ⟨a, vs, h1, h2, h3⟩ := h
    unfold RM.below at b
    exact ⟨a, vs, h1, h2, Reps.low ds vs b h3⟩
theorem Reps.low {n' : Nat} : ∀ (ds : List D) (vs : List V), RM.belows n ds = true → Reps K ℓ n' H ds vs → Reps K ℓ n H ds vs
  | [], _, _, h => h
  | d :: ds, _, b, h => by
    obtain ⟨v, r, h1, h2, h3⟩ := h
    unfold RM.belows at b
    rw [Bool.and_eq_true] at b
    exact ⟨v, r, h1, Rep.low d v b.1 h2, Reps.low ds r b.2 h3⟩
end
/-- the lists that a call has made may be forgotten, where nothing leads to them -/
def Shut (s s' : Sto) : Prop := s.length ≤ s'.length ∧ ∀ (i : Nat) (xs : List D), i < s.length → s'[i]? = some xs → s[i]? = some xs ∨ belows s.length xs = true
open Classical in
noncomputable def trunc (s : Sto) (r : Res D) : Res D := match r with
  | .ok d s' => if below s.length d = true ∧ Shut s s' then .ok d (s'.take s.length) else .ok d s'
  | .exc c fs s' => if fs = [] ∧ Shut s s' then .exc c fs (s'.take s.length) else .exc c fs s'
  | .bad => .bad
theorem Shut.ok {s s' : Sto} {ℓ' : Nat → Addr} {H' : Hp} (sh : Shut s s') (st0 : StOk T K ℓ s.length H s) (ex : Ex ℓ s.length H ℓ' s'.length H') (st : StOk T K ℓ' s'.length H' s') : Ex ℓ s.length H ℓ' (s'.take s.length).length H' ∧ StOk T K ℓ' (s'.take s.length).length H' (s'.take s.length) := by
  have hl : (s'.take s.length).length = s.length := by rw [List.length_take]; have := sh.1; omega
  rw [hl]
  refine ⟨⟨Nat.le_refl _, ex.same, ex.keep, fun i h1 h2 => absurd h2 (by omega), ex.live⟩, ⟨st.tabs, fun i xs e => ?_, fun i j hi hj => st.inj i j (Nat.lt_of_lt_of_le hi sh.1) (Nat.lt_of_lt_of_le hj sh.1), hl.symm⟩⟩
  have hi : i < s.length := by have := (List.getElem?_eq_some_iff.mp e).1; omega
  rw [List.getElem?_take_of_lt hi] at e
  obtain ⟨vs, h1, r1⟩ := st.at_ i xs e
  refine ⟨vs, h1, Reps.low _ _ ?_ r1⟩
  rcases sh.2 i xs hi e with h | h
  · obtain ⟨us, _, r2⟩ := st0.at_ i xs h
    exact Reps.belows _ _ r2
  · exact h
theorem GoR.trunc {σ : L2.St} {r : Res D} {Q : VK} (st0 : StOk T K ℓ s.length H s) (g : GoR T K W ℓ s.length H σ (Rep K) (RM.trunc s r) Q) : GoR T K W ℓ s.length H σ (Rep K) r Q := by
  cases r with
  | bad => exact g
  | ok d s' =>
    unfold RM.trunc at g
    by_cases c : RM.below s.length d = true ∧ Shut s s'
    · simp only [if_pos c] at g
      intro v ℓ' H' ex st q
      obtain ⟨ex2, st2⟩ := c.2.ok st0 ex st
      have hl : (s'.take s.length).length = s.length := by rw [List.length_take]; have := c.2.1; omega
      exact g v ℓ' H' ex2 st2 (by rw [hl]; exact Rep.low _ _ c.1 q)
    · simp only [if_neg c] at g
      exact g
  | exc x fs s' =>
    unfold RM.trunc at g
    by_cases c : fs = [] ∧ Shut s s'
    · simp only [if_pos c] at g
      intro dd ℓ' H' ex st q
      obtain ⟨ex2, st2⟩ := c.2.ok st0 ex st
      exact g dd ℓ' H' ex2 st2 (.inl ⟨c.1, trivial⟩)
    · simp only [if_neg c] at g
      exact g
def fin : Flo → Res D
  | .nx _ s => .ok .non s
  | .rt d s => .ok d s
  | .exc c fs _ s => .exc c fs s
  | _ => .bad
/-- a def's body as a call: np parameters, ns names -/
noncomputable def fnM (np ns : Nat) (body : MS) : List D → Sto → Res D := fun ds s => if ds.length = np then trunc s (fin (body (ds.map some ++ List.replicate (ns - np) none) s)) else .bad
/-- the promise of a def -/
def spM (T : List (Addr × Str)) (K : PySem.W.Frag) (g : List D → Sto → Res D) : Sp := fun vs H Q E => ∃ ds ℓ s, Reps K ℓ s.length H ds vs ∧ StOk T K ℓ s.length H s ∧ GoR T K (fun c d _ H => E c d H) ℓ s.length H [] (Rep K) (g ds s) Q
theorem GoR.wish {W' : WX} {σ σ' : L2.St} {r : Res D} {Q : VK} (g : GoR T K W ℓ n H σ (Rep K) r Q) (h : ∀ c d H, W c d σ H → W' c d σ' H) : GoR T K W' ℓ n H σ' (Rep K) r Q := by
  cases r with
  | bad => exact g
  | ok d s' => exact g
  | exc x fs s' => exact fun dd ℓ' H' ex st q => h _ _ _ (g dd ℓ' H' ex st q)
theorem en_start {N : List Str} {ds : List D} {vs : List V} (r : Reps K ℓ n H ds vs) : En K ℓ n H (L2.start N vs) (ds.map some ++ List.replicate (N.length - ds.length) none) := by
  have hl := r.length
  unfold L2.start
  refine ⟨by rw [List.length_append, List.length_append, List.length_map, List.length_map, List.length_replicate, List.length_replicate, hl], fun i d h => ?_⟩
  by_cases hi : i < ds.length
  · rw [List.getElem?_append_left (by rw [List.length_map]; exact hi), List.getElem?_map] at h
    have h2 : ds[i]? = some d := by
      cases e : ds[i]? with
      | none => rw [e] at h; cases h
      | some y => rw [e] at h; exact congrArg some (Option.some.inj (Option.some.inj h))
    obtain ⟨v, e1, e2⟩ := r.get h2
    exact ⟨v, by rw [List.getElem?_append_left (by rw [List.length_map, hl]; exact hi), List.getElem?_map, e1]; rfl, e2⟩
  · rw [List.getElem?_append_right (by rw [List.length_map]; omega)] at h
    rw [List.getElem?_replicate] at h
    split at h <;> cases h
theorem fn_okM {P : Program} {w : World} {mg : Str → Option Value} {base : Heap} {x qual : Str} {st : Stmt} {f : Addr} {fd : FuncData} {N ps : List Str} {k : Nat} {m : MS} (F : Fun K x qual st f fd) (S : FnScope N ps (defScope st))
    (hb : ∀ (cdv : Value) (A : Around) (outer : List Env) (s : Shared) (H : Hp) (E : XK), Room k (A.deeper (envOfC qual (defScope st) s.heap.objs.size f cdv)) →
      PSs (cxOf (L2.CX P w) P w K mg base N qual (defScope st) f cdv A outer s H E) (defBody st) (tsOf T K (fun c d _ H => E c d H) m)) :
    FnOk P w K mg base (L2.CX P w) (k + 1) f fd ps (spM T K (fnM ps.length N.length m)) := by
  refine F.okX S (fun vs H Q E h => ?_) (fun cdv A outer s H vs Q E hr h => ⟨_, hb cdv A outer s H E hr, ?_⟩)
  · obtain ⟨ds, ℓ, s, r, st, g⟩ := h
    unfold fnM at g
    split at g
    · rename_i hl
      rw [r.length, hl]
    · exact g.elim
  · obtain ⟨ds, ℓ, s1, r, st1, g⟩ := h
    unfold fnM at g
    split at g
    · rename_i hl
      have g2 := GoR.trunc st1 g
      refine ⟨_, ℓ, s1, en_start r, st1, ?_⟩
      rw [hl]
      cases hm : m (ds.map some ++ List.replicate (N.length - ps.length) none) s1 with
      | nx σ s2 => rw [hm] at g2; exact fun σ ℓ' H' ex st' _ => g2 .non ℓ' H' ex st' rfl
      | rt d s2 => rw [hm] at g2; exact g2
      | bk σ s2 => rw [hm] at g2; exact g2.elim
      | ct σ s2 => rw [hm] at g2; exact g2.elim
      | exc c fs σ s2 => rw [hm] at g2; exact fun σ dd ℓ' H' ex st' _ q => g2 dd ℓ' H' ex st' q
      | bad => rw [hm] at g2; exact g2.elim
    · exact g.elim
section
variable {k : Nat} {f : Addr} {fd : FuncData} {ps : List Str} {g : List D → Sto → Res D} {x : Str} {es : List Expr} {ma : MA} {p : Pos}
theorem re_call (F : FnOk X.prog X.w X.K X.mg X.base (L2.CX X.prog X.w) k f fd ps (spM T X.K g)) (hr : Room k X.A) (hm : X.mg x = some (.ref f)) (hk : PySem.W.keepIn X.K (.ref f) = true) (hb : Binds X.K fd ps []) (tk : Takes X W) (hg : Gl X x)
    (ha : PA X (e :: es) (taOf T X.K W ma)) (hdb : (x == ("__debug__" : Str)) = false := by decide) (he : starEach (e :: es) X.env = (false, eval e X.env) :: starEach es X.env := by rfl) (hpl : (backTo pos (starEach es X.env)).any (·.1) = false := by rfl) :
    PE X (.Call (.Name x p) (e :: es) [] pos) (teOf T X.K W (mOpN g ma)) :=
  PE.imp (pe_callS (E := WE W) F hr hg hm hk hb (fun σ => passAt tk σ) ha hdb he hpl) fun σ H Q h => by
    refine tR.imp (tR.one (f := fun _ => g) (R := Reps X.K) h) fun xs H1 h1 => ?_
    obtain ⟨σd, ℓ₁, s₁, ds, en, st, q, g1⟩ := h1
    exact ⟨ds, ℓ₁, s₁, q, st, GoR.wish g1 fun _ _ _ h => h⟩
end
/-- a block lets nothing out -/
theorem takesB : Takes X W0 := takes0
end
end RM
set_option Elab.async false
set_option linter.all false
set_option maxRecDepth 100000
set_option maxHeartbeats 2000000
namespace RM
open PySem PySem.Spec PyProof.Rows L2
/-- a def of the text keeps the promise of the plain function g -/
structure FnIs (P : Program) (w : World) (K : PySem.W.Frag) (mg : Str → Option Value) (base : Heap) (T : List (Addr × Str)) (x : Str) (k : Nat) (ps : List Str) (g : List D → Sto → Res D) : Prop where
  is_ : ∃ f fd, FnOk P w K mg base (L2.CX P w) k f fd ps (spM T K g) ∧ mg x = some (.ref f) ∧ PySem.W.keepIn K (.ref f) = true ∧ Binds K fd ps []
section
variable {T : List (Addr × Str)} {K : PySem.W.Frag} {W : WX} {ℓ : Nat → Addr} {n : Nat} {s : Sto} {H : Hp} {X : Cx}
variable {e : Expr} {m : ME} {pos : Pos}
theorem re_callF {x : Str} {k j : Nat} {ps : List Str} {g : List D → Sto → Res D} {es : List Expr} {ma : MA} {p : Pos} (G : FnIs X.prog X.w X.K X.mg X.base T x k ps g) (hr : Room j X.A) (hkj : k ≤ j) (tk : Takes X W) (hg : Gl X x)
    (ha : PA X (e :: es) (taOf T X.K W ma)) (hdb : (x == ("__debug__" : Str)) = false := by decide) (he : starEach (e :: es) X.env = (false, eval e X.env) :: starEach es X.env := by rfl) (hpl : (backTo pos (starEach es X.env)).any (·.1) = false := by rfl) :
    PE X (.Call (.Name x p) (e :: es) [] pos) (teOf T X.K W (mOpN g ma)) := by
  obtain ⟨f, fd, F, h1, h2, h3⟩ := G.is_
  exact re_call F (hr.mono hkj) h1 h2 h3 tk hg ha hdb he hpl
theorem tk_def {P : Program} {w : World} {mg : Str → Option Value} {base : Heap} {N : List Str} {qual : Str} {sc : Scope} {f : Addr} {cd : Value} {A : Around} {outer : List Env} {s : Shared} {E : XK} : Takes (cxOf (L2.CX P w) P w K mg base N qual sc f cd A outer s H E) (fun c d _ H => E c d H) :=
  takes_of rfl rfl rfl rfl
theorem hp_def {P : Program} {w : World} {mg : Str → Option Value} {base : Heap} {N : List Str} {qual : Str} {sc : Scope} {f : Addr} {cd : Value} {A : Around} {outer : List Env} {s : Shared} {E : XK} :
    PassesOwn (model P w) (cxOf (L2.CX P w) P w K mg base N qual sc f cd A outer s H E).A (cxOf (L2.CX P w) P w K mg base N qual sc f cd A outer s H E).env (cxOf (L2.CX P w) P w K mg base N qual sc f cd A outer s H E).xe :=
  passes_of (X := cxOf (L2.CX P w) P w K mg base N qual sc f cd A outer s H E) rfl
/-! ## x(lambda: e), x being: try: act() / except E: return True; return False -/
def TTn (K : PySem.W.Frag) (CS : Addr) : (XK → Hp → VK → Prop) → Hp → VK → Prop := fun tl H Q =>
  tl (fun cls _ H' => ∃ b, PySem.W.exmOne K cls (.ref CS) = some b ∧ (b = true → Q (.bl true) H') ∧ (b = false → False)) H (fun _ H' => Q (.bl false) H')
theorem nothing_gives {Ng : List Str} {x a e q : Str} {sg : Scope} {g CS : Addr} {cdg : Value} {j j2 : Nat} {p1 p2 p3 p4 p5 p6 p7 p8 p9 p10 : Pos} (hge : sg.names.lookup e = some .globalImplicit) (hme : X.mg e = some (.ref CS)) (hde : (e == ("__debug__" : Str)) = false) (h0 : ∀ f : Addr, (L2.start Ng [V.ref f])[0]? = some (some (V.ref f)))
    (hsw : ∀ (s : Shared) (H : Hp), swapsWith (.Call (.Name a p1) [] [] p2) none p3.line (cxOf C8.CX0 X.prog X.w X.K X.mg X.base Ng x sg g cdg X.A X.stack s H C8.E0).env = pure false) :
    LamX.GivesTo X Ng x sg g cdg [.Try [.Expr (.Call (.Name a p1) [] [] p2) p3] [.ExceptHandler (some (.Name e p4)) none [.Return (some (.Constant (.bool true) j p5)) p6] p7] [] [] p8, .Return (some (.Constant (.bool false) j2 p9)) p10] a q (TTn X.K CS) := by
  intro f c' s H Q tl act hc h
  have hgl : Gl (cxOf C8.CX0 X.prog X.w X.K X.mg X.base Ng x sg g cdg X.A X.stack s H C8.E0).nox e := hge
  refine ⟨_, pss_cons (ps_try_only (X := (cxOf C8.CX0 X.prog X.w X.K X.mg X.base Ng x sg g cdg X.A X.stack s H C8.E0).nox) (c := .ref CS)
      (tb := fun W D σ H => ∃ Ech : XK, (∀ cls d σ' H', Ech cls d H' → W cls d σ' H') ∧ σ[0]? = some (some (.ref f)) ∧ H c' = some (LamX.CodeO c' q) ∧ tl Ech H (fun _ H' => D.nx σ H'))
      rfl rfl ⟨hgl, hde, .inl hme⟩ LamX.takes0 (fun W pn xe tk _ => ?_) (fun a oe cls d pn _ _ => pss_one (ps_ret pe_bl))) (pss_one (ps_ret pe_bl)), ?_⟩
  · refine ⟨fun pins s' σ H' D I h' => ?_⟩
    obtain ⟨Ech, hW, h1, h2, h3⟩ := h'
    have hp := act W pn xe Ech p1 p2 tk hW
    have hq := pss_one (ps_expr (pos := p3) hp (hsw s H))
    exact hq.run pins s' σ H' D I ⟨h1, h2, h3⟩
  · exact ⟨fun cls _ H' => ∃ b, PySem.W.exmOne X.K cls (.ref CS) = some b ∧ (b = true → Q (.bl true) H') ∧ (b = false → False), fun cls d σ' H' ⟨b, e1, e2, e3⟩ => ⟨b, e1, fun hb a _ => e2 hb, fun hb => e3 hb⟩, h0 f, hc, h⟩
/-- True if it raises just C, False if it hands something back -/
def mNothing (C : Addr) (m : ME) : ME := fun σ s => match m σ s with
  | .ok _ s => .ok (.bl false) s
  | .exc c _ s => if c = C then .ok (.bl true) s else .bad
  | .bad => .bad
theorem ExtN.ex (st : StOk T K ℓ n H s) {H1 : Hp} (e : LamX.ExtN H H1) (t : LamX.Tabs T H1) : Ex ℓ n H ℓ n H1 ∧ StOk T K ℓ n H1 s := by
  have ex : Ex ℓ n H ℓ n H1 := ⟨Nat.le_refl _, fun _ _ => rfl, fun a o h _ ht => e a o h ht, fun i h1 h2 => absurd h2 (by omega), fun a h o ho => by
    by_cases c : ∃ ps, o = .tbl ps
    · exact c
    · exact h o (e a o ho fun ps z => c ⟨ps, z⟩)⟩
  refine ⟨ex, t, fun i xs h => ?_, st.inj, st.len⟩
  obtain ⟨vs, h1, r1⟩ := st.at_ i xs h
  exact ⟨vs, e _ _ h1 (fun _ z => by cases z), Reps.up ex st _ _ r1⟩
theorem lam_imp {C : Addr} {σ : L2.St} {Q : VK} (hC : PySem.W.exmOne K (.ref C) (.ref C) = some true) (h : teOf T K W (mNothing C m) σ H Q) : LamX.tLam T (TTn K C) (fun E => teOf T K (fun c d _ H => E c d H) m) σ H Q := by
  obtain ⟨σd, ℓ, s, en, st, g⟩ := h
  refine ⟨st.tabs, fun H1 e t => ?_⟩
  obtain ⟨ex, st1⟩ := ExtN.ex st e t
  have g1 := GoR.shift g ex st1
  refine ⟨σd, ℓ, s, en.up ex st, st1, ?_⟩
  unfold mNothing at g1
  cases hm : m σd s with
  | bad => rw [hm] at g1; exact g1.elim
  | ok d s' =>
    rw [hm] at g1
    exact fun v ℓ' H' ex' st' _ => g1 (.bl false) ℓ' H' ex' st' rfl
  | exc c fs s' =>
    rw [hm] at g1
    simp only at g1
    by_cases hc : c = C
    · subst hc
      rw [if_pos rfl] at g1
      exact fun dd ℓ' H' ex' st' _ => ⟨true, hC, fun _ => g1 (.bl true) ℓ' H' ex' st' rfl, fun z => by cases z⟩
    · rw [if_neg hc] at g1; exact g1.elim
theorem tk_lam {A : Around} {outer : List Env} {s : Shared} {E : XK} {scope : Scope} {f c' : Addr} : Takes (LamX.lamCx X A outer s H E scope f c') (fun c d _ H => E c d H) := takes_of rfl rfl rfl rfl
theorem hp_lam {A : Around} {outer : List Env} {s : Shared} {E : XK} {scope : Scope} {f c' : Addr} : PassesOwn (model X.prog X.w) (LamX.lamCx X A outer s H E scope f c').A (LamX.lamCx X A outer s H E scope f c').env (LamX.lamCx X A outer s H E scope f c').xe := passes_of (X := LamX.lamCx X A outer s H E scope f c') rfl
end
/-! ## the law -/
/-- the plain law holds for every script, however the list stands -/
def LawOk (g : List D → Sto → Res D) : Prop := ∀ ns : List Int, ns.length ≤ 63 → (∀ z ∈ ns, Builtin.Int.intBits z ≤ 1048576) →
  (∃ s', g [.ro (ns.map .int)] [] = .ok (.bl true) s') ∧ ∃ s', g [.lst 0] [ns.map .int] = .ok (.bl true) s'
theorem reps_ints {K : PySem.W.Frag} {ℓ : Nat → Addr} {n : Nat} {H : Hp} : ∀ ns : List Int, Reps K ℓ n H (ns.map .int) (ns.map V.int)
  | [] => rfl
  | n :: ns => ⟨_, _, rfl, rfl, reps_ints ns⟩
theorem law_sp {T : List (Addr × Str)} {K : PySem.W.Frag} {g : List D → Sto → Res D} (L : LawOk g) {H : Hp} {a : Addr} {ns : List Int} (hl : ns.length ≤ 63) (hb : ∀ z ∈ ns, Builtin.Int.intBits z ≤ 1048576) (hT : LamX.Tabs T H) (hS : SqL K H a (ns.map V.int)) :
    spM T K g [.ref a] H (fun v _ => v = .bl true) fun _ _ _ => False := by
  obtain ⟨⟨s1, h1⟩, ⟨s2, h2⟩⟩ := L ns hl hb
  have r0 : ∀ (ℓ : Nat → Addr) (n : Nat), Reps K ℓ n H (ns.map .int) (ns.map V.int) := fun _ _ => reps_ints ns
  rcases hS with (hS | ⟨o, hS⟩) | hS
  · refine ⟨[.lst 0], fun _ => a, [ns.map .int], ⟨_, _, rfl, ⟨by simp, rfl⟩, rfl⟩, ⟨hT, fun i xs e => ?_, fun i j hi hj _ => ?_, rfl⟩, ?_⟩
    · have hi : i = 0 := by
        have := (List.getElem?_eq_some_iff.mp e).1
        simpa using this
      subst hi
      have : ns.map D.int = xs := by simpa using e
      subst this
      exact ⟨_, hS, r0 _ _⟩
    · simp at hi hj; omega
    · rw [h2]
      exact fun v ℓ' H' _ _ r => r
  · refine ⟨[.ro (ns.map .int)], fun _ => a, [], ⟨_, _, rfl, ⟨a, _, rfl, .inl ⟨o, hS⟩, r0 _ _⟩, rfl⟩, ⟨hT, fun i xs e => by simp at e, fun i j hi hj _ => by simp at hi, rfl⟩, ?_⟩
    rw [h1]
    exact fun v ℓ' H' _ _ r => r
  · refine ⟨[.ro (ns.map .int)], fun _ => a, [], ⟨_, _, rfl, ⟨a, _, rfl, .inr hS, r0 _ _⟩, rfl⟩, ⟨hT, fun i xs e => by simp at e, fun i j hi hj _ => by simp at hi, rfl⟩, ?_⟩
    rw [h1]
    exact fun v ℓ' H' _ _ r => r
theorem tabs_nil {T : List (Addr × Str)} {cs : List (Addr × Addr)} {H : Hp} (h : ∀ p ∈ T, ∃ q ∈ cs, q.2 = p.1) (hH : ∀ p ∈ cs, H p.2 = some (.tbl #[])) : LamX.Tabs T H := fun p hp => by
  obtain ⟨q, hq, e⟩ := h p hp
  exact LamX.TabS.nil (by rw [← e]; exact hH q hq)
/-- as LamX.walk_ofTs, the ground at hand -/
theorem walk_ofM {l : PySem.W.OpenLaw} {n k : Nat} {q : Program} {loose : List Str} {XP : (Str → Option Value) → Heap → Prop} {YP : World → Heap → Prop} {d : DefRec} {K : Params → PySem.W.Frag} {CX : World → CXT} {x : Str}
    (hn : l.most = some n) (hn2 : n ≤ sizeLine) (hdf : d.params.defaults = []) (hr : Room k callerA) (hY : ∀ (w : World) (h : Heap), YP w h → (K w.params).In h)
    (F : ∀ (w : World) (s₀ s₁ : Shared) (mg mb : Str → Option Value) (fa : Addr), PySem.W.Ground q loose [] XP w s₀ mg mb s₁.heap → YP w s₁.heap → (K w.params).In s₁.heap → s₁.heap.Ns mainGlobals mg → mg d.name = some (.ref fa) → LamX.LawAtS l w (K w.params) (CX w) k n x mg fa s₁.heap)
    (hCX : ∀ (w : World) (H : Hp) (s : Shared) (e : Value) (s' : Shared), CX w [] H s (fun _ _ _ => False) e s' → False) :
    PySem.W.WalkO q loose XP YP l.row.toRowW d [] (fun f vs => PySem.call f vs) := by
  refine Att.attach_callB hn hdf fun w s₀ s₁ mg mb fa o pm cd doc a vs ns G Y ho hd hcd hmg hobj hints hlen hbits hg => ?_
  have KX := hY w _ Y
  obtain ⟨fd, cs, sp, hT, nT, C, hb, hsp, hF⟩ := F w s₀ s₁ mg mb fa G Y KX G.T.g hmg
  exact LamX.law_callTs KX G.T.g G.T.b G.T.builtins G.T.nolimit hg hT nT C G.T.bmain hobj hints (Nat.le_trans hlen hn2) hr hF hb (fun H hH hS => hsp H a ns hlen hbits hH hS) fun H e s' => hCX w H s₁ e s'
end RM
namespace RM
open PySem PySem.Spec PyProof.Rows L2
/-- the def x of the text: try: a() / except e: return True; return False -/
structure LamFn (K : PySem.W.Frag) (mg : Str → Option Value) (x a e : Str) (CS : Addr) : Prop where
  ex : ∃ (g : Addr) (pg : Arguments) (sg : Scope) (kV doc pm cdv ct oc : Value) (an od : Option Addr) (osl : Array (Option Value)) (Ng : List Str) (j j2 : Nat) (p1 p2 p3 p4 p5 p6 p7 p8 p9 p10 : Pos),
    K.lookup g = some ⟨oc, od, .func (PySem.W.fnOf x x pg [.Try [.Expr (.Call (.Name a p1) [] [] p2) p3] [.ExceptHandler (some (.Name e p4)) none [.Return (some (.Constant (.bool true) j p5)) p6] p7] [] [] p8, .Return (some (.Constant (.bool false) j2 p9)) p10] sg .none kV doc pm an cdv ct), osl⟩ ∧
    PySem.W.codeIn K cdv x = true ∧ Binds K (PySem.W.fnOf x x pg [.Try [.Expr (.Call (.Name a p1) [] [] p2) p3] [.ExceptHandler (some (.Name e p4)) none [.Return (some (.Constant (.bool true) j p5)) p6] p7] [] [] p8, .Return (some (.Constant (.bool false) j2 p9)) p10] sg .none kV doc pm an cdv ct) [a] [] ∧
    FnScope Ng [a] sg ∧ Ng[0]? = some a ∧ Vis sg a ∧ sg.names.lookup e = some .globalImplicit ∧ (∀ env, swapsWith (.Call (.Name a p1) [] [] p2) none p3.line env = pure false) ∧ mg x = some (.ref g) ∧ PySem.W.keepIn K (.ref g) = true ∧ ∀ f : Addr, (L2.start Ng [V.ref f])[0]? = some (some (V.ref f))
  hme : mg e = some (.ref CS)
  exm : PySem.W.exmOne K (.ref CS) (.ref CS) = some true
/-- the table of the def's code object -/
structure LamTab (X : Cx) (T : List (Addr × Str)) : Prop where
  ex : ∃ c P, LamX.TabB X.base X.mg c P ∧ X.env.code = .ref c ∧ (P, X.env.qual ++ "<lambda>") ∈ T ∧ ∀ p ∈ T, p.1 = P → p.2 = X.env.qual ++ "<lambda>"
theorem re_lamNothing {X : Cx} {W : WX} {T : List (Addr × Str)} {x a e : Str} {C : Addr} {k j : Nat} {params : Arguments} {body : Expr} {scope : Scope} {p lpos pos : Pos} {m : ME} (LF : LamFn X.K X.mg x a e C) (LT : LamTab X T) (hr : Room j X.A) (hkj : k + 2 ≤ j) (hg : Gl X x)
    (L : LamX.LamS X.env.scope scope) (hdef : defaultsOf params X.env = ([], []))
    (hbind : ∀ (q : Str) (cl : List (Str × Addr)) (pm cv ctv : Value), bindArgs (PySem.W.kla_fn "<lambda>" q params body scope cl pm cv ctv) ⟨[], []⟩ = pure [])
    (hbody : ∀ (A : Around) (outer : List Env) (s : Shared) (H : Hp) (E : XK) (f c' : Addr), Room k (A.deeper (LamX.lamEnv X scope s.heap.objs.size f c')) → PE (LamX.lamCx X A outer s H E scope f c') body (teOf T X.K (fun c d _ H => E c d H) m))
    (hdb : (x == ("__debug__" : Str)) = false := by decide) (hd : (a == ("__debug__" : Str)) = false := by decide) (hcd : (a == ("__classdict__" : Str)) = false := by decide) (hde : (e == ("__debug__" : Str)) = false := by decide) :
    PE X (.Call (.Name x p) [.Lambda params body scope lpos] [] pos) (teOf T X.K W (mNothing C m)) := by
  obtain ⟨g, pg, sg, kV, doc, pm, cdv, ct, oc, an, od, osl, Ng, j1, j2, p1, p2, p3, p4, p5, p6, p7, p8, p9, p10, lk, hcg, hb, Sg, hNg, hva, hge, hsw, hm, hk, h0⟩ := LF.ex
  obtain ⟨c, P, TB, hcode, hmT, hu⟩ := LT.ex
  exact PE.imp (LamX.pe_lamcall (T := T) (TT := TTn X.K C) (t := fun E => teOf T X.K (fun c d _ H => E c d H) m) hg hm hk lk hcg hb Sg hNg hva (nothing_gives hge LF.hme hde h0 (fun _ _ => hsw _)) TB hcode hmT hu (hr.mono hkj) L hdef hbind hbody hdb hd hcd) fun σ H Q h => lam_imp LF.exm h
/-- a def whose code object is known -/
theorem fn_okMc {P : Program} {w : World} {K : PySem.W.Frag} {mg : Str → Option Value} {base : Heap} {T : List (Addr × Str)} {name qual : Str} {params : Arguments} {body : List Stmt} {scope : Scope} {kV doc pm cdv ct oc : Value} {an od : Option Addr} {osl : Array (Option Value)} {f : Addr} {N ps : List Str} {k : Nat} {m : MS}
    (lk : K.lookup f = some ⟨oc, od, .func (PySem.W.fnOf name qual params body scope .none kV doc pm an cdv ct), osl⟩) (hcd : PySem.W.codeIn K cdv qual = true) (S : FnScope N ps scope)
    (hb : ∀ (A : Around) (outer : List Env) (s : Shared) (H : Hp) (E : XK), Room k (A.deeper (envOfC qual scope s.heap.objs.size f cdv)) → PSs (cxOf (L2.CX P w) P w K mg base N qual scope f cdv A outer s H E) body (tsOf T K (fun c d _ H => E c d H) m)) :
    FnOk P w K mg base (L2.CX P w) (k + 1) f (PySem.W.fnOf name qual params body scope .none kV doc pm an cdv ct) ps (spM T K (fnM ps.length N.length m)) := by
  refine fn_of lk hcd S (fun vs H Q E h => ?_) (fun A outer s H vs Q E hr h => ⟨_, hb A outer s H E hr, ?_⟩)
  · obtain ⟨ds, ℓ, s, r, st, g⟩ := h
    unfold fnM at g
    split at g
    · rename_i hl
      rw [r.length, hl]
    · exact g.elim
  · obtain ⟨ds, ℓ, s1, r, st1, g⟩ := h
    unfold fnM at g
    split at g
    · rename_i hl
      have g2 := GoR.trunc st1 g
      refine ⟨_, ℓ, s1, en_start r, st1, ?_⟩
      rw [hl]
      cases hm : m (ds.map some ++ List.replicate (N.length - ps.length) none) s1 with
      | nx σ s2 => rw [hm] at g2; exact fun σ ℓ' H' ex st' _ => g2 .non ℓ' H' ex st' rfl
      | rt d s2 => rw [hm] at g2; exact g2
      | bk σ s2 => rw [hm] at g2; exact g2.elim
      | ct σ s2 => rw [hm] at g2; exact g2.elim
      | exc c fs σ s2 => rw [hm] at g2; exact fun σ dd ℓ' H' ex st' _ q => g2 dd ℓ' H' ex st' q
      | bad => rw [hm] at g2; exact g2.elim
    · exact g.elim
/-! ## what the top has written -/
theorem fnIs_of {P : Program} {w : World} {K : PySem.W.Frag} {mg : Str → Option Value} {base h : Heap} {T : List (Addr × Str)} {x : Str} {k : Nat} {ps : List Str} {g : List D → Sto → Res D} {st : Stmt} {f : Addr} {oc kV doc pm cdv ct : Value} {od an : Option Addr} {osl : Array (Option Value)}
    (X : K.In h) (G : h.Ns mainGlobals mg) (a : PySem.W.nsIn K mainGlobals x = some (some (.ref f))) (l : K.lookup f = some ⟨oc, od, .func (PySem.W.fnOf x x (defArgs st) (defBody st) (defScope st) .none kV doc pm an cdv ct), osl⟩)
    (c : PySem.W.codeIn K cdv x = true) (k1 : PySem.W.keepIn K (.ref f) = true)
    (hb : ∀ (kV doc pm : Value) (an : Option Addr) (cdv ct : Value) (us : List Value), us.length = ps.length → bindArgs (PySem.W.fnOf x x (defArgs st) (defBody st) (defScope st) .none kV doc pm an cdv ct) ⟨us, []⟩ = pure (ps.zip us))
    (ok : ∀ {fd : FuncData}, Fun K x x st f fd → FnOk P w K mg base (L2.CX P w) k f fd ps (spM T K g)) : FnIs P w K mg base T x k ps g :=
  ⟨f, _, ok (fun_mk l c k1), PySem.W.mg_of X G a, k1, (fun_mk l c k1).binds hb⟩
theorem globIs_of {K : PySem.W.Frag} {mg : Str → Option Value} {h : Heap} {x : Str} {a : Addr} {ds : List D} {vs : List V} {us : List Value} {dd : Option Addr} {n : Nat} {sl : Array (Option Value)} (X : K.In h) (G : h.Ns mainGlobals mg) (e : PySem.W.nsIn K mainGlobals x = some (some (.ref a)))
    (l : K.lookup a = some ⟨.type "tuple", dd, .seq us.toArray n, sl⟩) (hz : us.toArray.size ≤ sizeLine) (r : Vals vs us) (rs : ∀ ℓ n H, Reps K ℓ n H ds vs) : GlobIs K mg x (.tup ds) :=
  ⟨.ref a, .ref a, PySem.W.mg_of X G e, rfl, fun ℓ n0 H => ⟨a, vs, rfl, .inr ⟨_, us.toArray, n, l, rfl, rfl, hz, by simpa using r⟩, rs ℓ n0 H⟩⟩
theorem exc0_of {K : PySem.W.Frag} {mg : Str → Option Value} {h : Heap} {x : Str} {C : Addr} (X : K.In h) (G : h.Ns mainGlobals mg) (e : PySem.W.nsIn K mainGlobals x = some (some (.ref C)))
    (q : PySem.W.excIn K C [.type "ValueError", .type "Exception", .type "BaseException", .type "object"] "ValueError.__new__" = true) (k : PySem.W.keepIn K (.ref C) = true) (b : PySem.W.subIn K (.ref C) (.type "BaseException") = some true) (t : PySem.W.typeIn K (.ref C) = some (.type "type")) : Exc0 K mg x C :=
  ⟨q, PySem.W.mg_of X G e, k, b, t⟩
theorem exm_self {K : PySem.W.Frag} {S : Addr} (h1 : PySem.W.subIn K (.ref S) (.type "BaseException") = some true) (h2 : PySem.W.isClsIn K S = true) (h3 : PySem.W.typeIn K (.ref S) = some (.type "type")) (h4 : PySem.W.subIn K (.ref S) (.ref S) = some true) :
    PySem.W.exmOne K (.ref S) (.ref S) = some true := by
  have e1 : (PySem.W.subIn K (.ref S) (.type "BaseException") == some true) = true := by rw [h1] <;> rfl
  have e2 : ((PySem.W.clsIn K S).isSome && PySem.W.typeIn K (.ref S) == some (.type "type")) = true := by
    have h2' : (PySem.W.clsIn K S).isSome = true := h2
    rw [h2', h3] <;> rfl
  show (if (PySem.W.subIn K (.ref S) (.type "BaseException") == some true) = true then (if ((PySem.W.clsIn K S).isSome && PySem.W.typeIn K (.ref S) == some (.type "type")) = true then PySem.W.subIn K (.ref S) (.ref S) else none) else none) = some true
  rw [if_pos e1, if_pos e2]
  exact h4
end RM
set_option linter.all false
namespace RM
open PySem PySem.Spec PyProof.Rows L2
theorem bt_len : bootBuiltins "len" = some (.builtin "len") := by decide +kernel
theorem bt_abs : bootBuiltins "abs" = some (.builtin "abs") := by decide +kernel
theorem bt_all : bootBuiltins "all" = some (.builtin "all") := by decide +kernel
theorem bt_any : bootBuiltins "any" = some (.builtin "any") := by decide +kernel
theorem bt_isinstance : bootBuiltins "isinstance" = some (.builtin "isinstance") := by decide +kernel
theorem bt_int : bootBuiltins "int" = some (.type "int") := by decide +kernel
theorem bt_bool : bootBuiltins "bool" = some (.type "bool") := by decide +kernel
theorem bt_str : bootBuiltins "str" = some (.type "str") := by decide +kernel
theorem bt_tuple : bootBuiltins "tuple" = some (.type "tuple") := by decide +kernel
theorem bt_list : bootBuiltins "list" = some (.type "list") := by decide +kernel
end RM
set_option linter.all false
set_option maxRecDepth 100000
namespace K03
open PySem PySem.Spec PyProof.Rows L2 RM
/-! the plain machine of the text -/
structure Cls where
  Nothing : Addr
def k_ZERO : D := .tup [.int 0, .int 1]
noncomputable def m_is_whole (cl : Cls) : MS := mSeq (mRet (mAnd (mOp1 (pIsi "int") (mVar 0)) (mOp1 pNot (mOp1 (pIsi "bool") (mVar 0)))))
  (mNx)
noncomputable def c_is_whole (cl : Cls) : List D → Sto → Res D := fnM 1 1 (m_is_whole cl)
noncomputable def m_common_divisor (cl : Cls) : MS := mSeq (mPar 0 1 (mCons (mOpN fAbs (mCons (mVar 0) (mNil))) (mCons (mOpN fAbs (mCons (mVar 1) (mNil))) (mNil))))
  (mSeq (mWhile (mTru (mOp2 pNe (mVar 1) (mC (.int 0)))) (mSeq (mPar 0 1 (mCons (mVar 1) (mCons (mOp2 pMod (mVar 0) (mVar 1)) (mNil))))
  (mNx)))
  (mSeq (mRet (mVar 0))
  (mNx)))
noncomputable def c_common_divisor (cl : Cls) : List D → Sto → Res D := fnM 2 2 (m_common_divisor cl)
noncomputable def m_is_tuple_of (cl : Cls) : MS := mSeq (mRet (mAnd (mOp1 (pIsi "tuple") (mVar 0)) (mOp2 pEq (mOpN fLen (mCons (mVar 0) (mNil))) (mVar 1))))
  (mNx)
noncomputable def c_is_tuple_of (cl : Cls) : List D → Sto → Res D := fnM 2 2 (m_is_tuple_of cl)
noncomputable def m_is_fraction (cl : Cls) : MS := mSeq (mIfS (mOrT (mNotT (mTru (mOpN (c_is_tuple_of cl) (mCons (mVar 0) (mCons (mC (.int 2)) (mNil)))))) (mNotT (mTru (mOpN fAll (mCons (mLc [1] (.nm 1) (mRow (mVar 0)) (mYes) (mOpN (c_is_whole cl) (mCons (mVar 1) (mNil)))) (mNil)))))) (mSeq (mRet (mC (.bl false)))
  (mNx)) (mNx))
  (mSeq (mRet (mAnd (mOp2 pGe (mOp2 pIx (mVar 0) (mC (.int 1))) (mC (.int 1))) (mOp2 pEq (mOpN (c_common_divisor cl) (mCons (mOp2 pIx (mVar 0) (mC (.int 0))) (mCons (mOp2 pIx (mVar 0) (mC (.int 1))) (mNil)))) (mC (.int 1)))))
  (mNx))
noncomputable def c_is_fraction (cl : Cls) : List D → Sto → Res D := fnM 1 2 (m_is_fraction cl)
noncomputable def m_fraction (cl : Cls) : MS := mSeq (mIfS (mTru (mOp2 pEq (mVar 1) (mC (.int 0)))) (mSeq (mRaise cl.Nothing)
  (mNx)) (mNx))
  (mSeq (mAsg (.nm 2) (mOp2 pMul (mOpN (c_common_divisor cl) (mCons (mVar 0) (mCons (mVar 1) (mNil)))) (mIf (mTru (mOp2 pGt (mVar 1) (mC (.int 0)))) (mC (.int 1)) (mOp1 pNeg (mC (.int 1))))))
  (mSeq (mRet (mOpN pTup (mCons (mOp2 pDiv (mVar 0) (mVar 2)) (mCons (mOp2 pDiv (mVar 1) (mVar 2)) (mNil)))))
  (mNx)))
noncomputable def c_fraction (cl : Cls) : List D → Sto → Res D := fnM 2 3 (m_fraction cl)
noncomputable def m_plus (cl : Cls) : MS := mSeq (mRet (mOpN (c_fraction cl) (mCons (mOp2 pAdd (mOp2 pMul (mOp2 pIx (mVar 0) (mC (.int 0))) (mOp2 pIx (mVar 1) (mC (.int 1)))) (mOp2 pMul (mOp2 pIx (mVar 1) (mC (.int 0))) (mOp2 pIx (mVar 0) (mC (.int 1))))) (mCons (mOp2 pMul (mOp2 pIx (mVar 0) (mC (.int 1))) (mOp2 pIx (mVar 1) (mC (.int 1)))) (mNil)))))
  (mNx)
noncomputable def c_plus (cl : Cls) : List D → Sto → Res D := fnM 2 2 (m_plus cl)
noncomputable def m_less (cl : Cls) : MS := mSeq (mRet (mOpN (c_fraction cl) (mCons (mOp2 pSub (mOp2 pMul (mOp2 pIx (mVar 0) (mC (.int 0))) (mOp2 pIx (mVar 1) (mC (.int 1)))) (mOp2 pMul (mOp2 pIx (mVar 1) (mC (.int 0))) (mOp2 pIx (mVar 0) (mC (.int 1))))) (mCons (mOp2 pMul (mOp2 pIx (mVar 0) (mC (.int 1))) (mOp2 pIx (mVar 1) (mC (.int 1)))) (mNil)))))
  (mNx)
noncomputable def c_less (cl : Cls) : List D → Sto → Res D := fnM 2 2 (m_less cl)
noncomputable def m_times (cl : Cls) : MS := mSeq (mRet (mOpN (c_fraction cl) (mCons (mOp2 pMul (mOp2 pIx (mVar 0) (mC (.int 0))) (mOp2 pIx (mVar 1) (mC (.int 0)))) (mCons (mOp2 pMul (mOp2 pIx (mVar 0) (mC (.int 1))) (mOp2 pIx (mVar 1) (mC (.int 1)))) (mNil)))))
  (mNx)
noncomputable def c_times (cl : Cls) : List D → Sto → Res D := fnM 2 2 (m_times cl)
noncomputable def m_over (cl : Cls) : MS := mSeq (mRet (mOpN (c_fraction cl) (mCons (mOp2 pMul (mOp2 pIx (mVar 0) (mC (.int 0))) (mOp2 pIx (mVar 1) (mC (.int 1)))) (mCons (mOp2 pMul (mOp2 pIx (mVar 0) (mC (.int 1))) (mOp2 pIx (mVar 1) (mC (.int 0)))) (mNil)))))
  (mNx)
noncomputable def c_over (cl : Cls) : List D → Sto → Res D := fnM 2 2 (m_over cl)
noncomputable def m_sign (cl : Cls) : MS := mSeq (mRet (mOp2 pSub (mOp2 pGt (mOp2 pIx (mVar 0) (mC (.int 0))) (mC (.int 0))) (mOp2 pLt (mOp2 pIx (mVar 0) (mC (.int 0))) (mC (.int 0)))))
  (mNx)
noncomputable def c_sign (cl : Cls) : List D → Sto → Res D := fnM 1 1 (m_sign cl)
noncomputable def m_compare (cl : Cls) : MS := mSeq (mRet (mOpN (c_sign cl) (mCons (mOpN pTup (mCons (mOp2 pSub (mOp2 pMul (mOp2 pIx (mVar 0) (mC (.int 0))) (mOp2 pIx (mVar 1) (mC (.int 1)))) (mOp2 pMul (mOp2 pIx (mVar 1) (mC (.int 0))) (mOp2 pIx (mVar 0) (mC (.int 1))))) (mCons (mC (.int 1)) (mNil)))) (mNil))))
  (mNx)
noncomputable def c_compare (cl : Cls) : List D → Sto → Res D := fnM 2 2 (m_compare cl)
noncomputable def m_line_at (cl : Cls) : MS := mSeq (mRet (mOpN (c_plus cl) (mCons (mOp2 pIx (mVar 0) (mC (.int 0))) (mCons (mOpN (c_times cl) (mCons (mOp2 pIx (mVar 0) (mC (.int 1))) (mCons (mVar 1) (mNil)))) (mNil)))))
  (mNx)
noncomputable def c_line_at (cl : Cls) : List D → Sto → Res D := fnM 2 2 (m_line_at cl)
noncomputable def m_is_below (cl : Cls) : MS := mSeq (mAsg (.nm 2) (mOpN (c_compare cl) (mCons (mOp2 pIx (mVar 0) (mC (.int 0))) (mCons (mOp2 pIx (mVar 1) (mC (.int 0))) (mNil)))))
  (mSeq (mRet (mOr (mOp2 pLt (mVar 2) (mC (.int 0))) (mAnd (mOp2 pEq (mVar 2) (mC (.int 0))) (mOp2 pLt (mOpN (c_compare cl) (mCons (mOp2 pIx (mVar 0) (mC (.int 1))) (mCons (mOp2 pIx (mVar 1) (mC (.int 1))) (mNil)))) (mC (.int 0))))))
  (mNx))
noncomputable def c_is_below (cl : Cls) : List D → Sto → Res D := fnM 2 3 (m_is_below cl)
noncomputable def m_first_line (cl : Cls) : MS := mSeq (mAsg (.nm 1) (mOp2 pIx (mVar 0) (mC (.int 0))))
  (mSeq (mFor (.nm 2) (mRow (mSl (mVar 0) (mPart (mC (.int 1))) (mNoPart))) (mSeq (mAsg (.nm 1) (mIf (mTru (mOpN (c_is_below cl) (mCons (mVar 2) (mCons (mVar 1) (mNil))))) (mVar 2) (mVar 1)))
  (mNx)))
  (mSeq (mRet (mVar 1))
  (mNx)))
noncomputable def c_first_line (cl : Cls) : List D → Sto → Res D := fnM 1 3 (m_first_line cl)
noncomputable def m_next_row (cl : Cls) : MS := mSeq (mAsg (.nm 2) (mC .non))
  (mSeq (mFor (.nm 3) (mRow (mVar 1)) (mSeq (mIfS (mTru (mOp2 pLt (mOpN (c_compare cl) (mCons (mOp2 pIx (mVar 3) (mC (.int 1))) (mCons (mOp2 pIx (mVar 0) (mC (.int 1))) (mNil)))) (mC (.int 0)))) (mSeq (mAsg (.nm 4) (mOpN (c_over cl) (mCons (mOpN (c_less cl) (mCons (mOp2 pIx (mVar 3) (mC (.int 0))) (mCons (mOp2 pIx (mVar 0) (mC (.int 0))) (mNil)))) (mCons (mOpN (c_less cl) (mCons (mOp2 pIx (mVar 0) (mC (.int 1))) (mCons (mOp2 pIx (mVar 3) (mC (.int 1))) (mNil)))) (mNil)))))
  (mSeq (mAsg (.nm 5) (mIf (mTru (mOp2 pIs (mVar 2) (mC .non))) (mOp1 pNeg (mC (.int 1))) (mOpN (c_compare cl) (mCons (mVar 4) (mCons (mOp2 pIx (mVar 2) (mC (.int 0))) (mNil))))))
  (mSeq (mIfS (mOrT (mTru (mOp2 pLt (mVar 5) (mC (.int 0)))) (mAndT (mTru (mOp2 pEq (mVar 5) (mC (.int 0)))) (mTru (mOp2 pLt (mOpN (c_compare cl) (mCons (mOp2 pIx (mVar 3) (mC (.int 1))) (mCons (mOp2 pIx (mOp2 pIx (mVar 2) (mC (.int 1))) (mC (.int 1))) (mNil)))) (mC (.int 0)))))) (mSeq (mAsg (.nm 2) (mOpN pTup (mCons (mVar 4) (mCons (mVar 3) (mNil)))))
  (mNx)) (mNx))
  (mNx)))) (mNx))
  (mNx)))
  (mSeq (mRet (mVar 2))
  (mNx)))
noncomputable def c_next_row (cl : Cls) : List D → Sto → Res D := fnM 2 6 (m_next_row cl)
noncomputable def m_lowest (cl : Cls) : MS := mSeq (mAsg (.nm 1) (mOpN pLst (mCons (mOpN pTup (mCons (mC k_ZERO) (mCons (mOpN (c_first_line cl) (mCons (mVar 0) (mNil))) (mNil)))) (mNil))))
  (mSeq (mAsg (.nm 2) (mOpN (c_next_row cl) (mCons (mOp2 pIx (mOp2 pIx (mVar 1) (mOp1 pNeg (mC (.int 1)))) (mC (.int 1))) (mCons (mVar 0) (mNil)))))
  (mSeq (mWhile (mTru (mOp2 pIsNot (mVar 2) (mC .non))) (mSeq (mDrop (mMethL gAppend (mVar 1) (mCons (mVar 2) (mNil))))
  (mSeq (mAsg (.nm 2) (mOpN (c_next_row cl) (mCons (mOp2 pIx (mVar 2) (mC (.int 1))) (mCons (mVar 0) (mNil)))))
  (mNx))))
  (mSeq (mRet (mOpN fTuple (mCons (mVar 1) (mNil))))
  (mNx))))
noncomputable def c_lowest (cl : Cls) : List D → Sto → Res D := fnM 1 3 (m_lowest cl)
noncomputable def m_value_on (cl : Cls) : MS := mSeq (mIfS (mOrT (mNotT (mTru (mOpN (c_is_fraction cl) (mCons (mVar 1) (mNil))))) (mTru (mOp2 pLt (mOpN (c_sign cl) (mCons (mVar 1) (mNil))) (mC (.int 0))))) (mSeq (mRaise cl.Nothing)
  (mNx)) (mNx))
  (mSeq (mAsg (.nm 2) (mOp2 pIx (mOp2 pIx (mVar 0) (mC (.int 0))) (mC (.int 1))))
  (mSeq (mFor (.tp [.nm 3, .nm 4]) (mRow (mVar 0)) (mSeq (mAsg (.nm 2) (mIf (mTru (mOp2 pLe (mOpN (c_compare cl) (mCons (mVar 3) (mCons (mVar 1) (mNil)))) (mC (.int 0)))) (mVar 4) (mVar 2)))
  (mNx)))
  (mSeq (mRet (mOpN (c_line_at cl) (mCons (mVar 2) (mCons (mVar 1) (mNil)))))
  (mNx))))
noncomputable def c_value_on (cl : Cls) : List D → Sto → Res D := fnM 2 5 (m_value_on cl)
noncomputable def m_lines_of (cl : Cls) : MS := mSeq (mRet (mLc [1, 2] (.tp [.nm 1, .nm 2]) (mRow (mVar 0)) (mYes) (mVar 2)))
  (mNx)
noncomputable def c_lines_of (cl : Cls) : List D → Sto → Res D := fnM 1 3 (m_lines_of cl)
noncomputable def m_least_of_two (cl : Cls) : MS := mSeq (mRet (mOpN (c_lowest cl) (mCons (mOp2 pAdd (mOpN (c_lines_of cl) (mCons (mVar 0) (mNil))) (mOpN (c_lines_of cl) (mCons (mVar 1) (mNil)))) (mNil))))
  (mNx)
noncomputable def c_least_of_two (cl : Cls) : List D → Sto → Res D := fnM 2 2 (m_least_of_two cl)
noncomputable def m_added_line (cl : Cls) : MS := mSeq (mRet (mOpN fTuple (mCons (mLc [2, 3] (.tp [.nm 2, .nm 3]) (mRow (mVar 0)) (mYes) (mOpN pTup (mCons (mVar 2) (mCons (mOpN pTup (mCons (mOpN (c_plus cl) (mCons (mOp2 pIx (mVar 3) (mC (.int 0))) (mCons (mOp2 pIx (mVar 1) (mC (.int 0))) (mNil)))) (mCons (mOpN (c_plus cl) (mCons (mOp2 pIx (mVar 3) (mC (.int 1))) (mCons (mOp2 pIx (mVar 1) (mC (.int 1))) (mNil)))) (mNil)))) (mNil))))) (mNil))))
  (mNx)
noncomputable def c_added_line (cl : Cls) : List D → Sto → Res D := fnM 2 4 (m_added_line cl)
noncomputable def m_is_row (cl : Cls) : MS := mSeq (mIfS (mOrT (mNotT (mTru (mOpN (c_is_tuple_of cl) (mCons (mVar 0) (mCons (mC (.int 2)) (mNil)))))) (mOrT (mNotT (mTru (mOpN (c_is_fraction cl) (mCons (mOp2 pIx (mVar 0) (mC (.int 0))) (mNil))))) (mNotT (mTru (mOpN (c_is_tuple_of cl) (mCons (mOp2 pIx (mVar 0) (mC (.int 1))) (mCons (mC (.int 2)) (mNil)))))))) (mSeq (mRet (mC (.bl false)))
  (mNx)) (mNx))
  (mSeq (mRet (mAnd (mOpN fAll (mCons (mLc [1] (.nm 1) (mRow (mOp2 pIx (mVar 0) (mC (.int 1)))) (mYes) (mOpN (c_is_fraction cl) (mCons (mVar 1) (mNil)))) (mNil))) (mOp2 pGe (mOpN (c_sign cl) (mCons (mOp2 pIx (mOp2 pIx (mVar 0) (mC (.int 1))) (mC (.int 1))) (mNil))) (mC (.int 0)))))
  (mNx))
noncomputable def c_is_row (cl : Cls) : List D → Sto → Res D := fnM 1 2 (m_is_row cl)
noncomputable def m_is_behind (cl : Cls) : MS := mSeq (mIfS (mOrT (mTru (mOp2 pGe (mOpN (c_compare cl) (mCons (mOp2 pIx (mVar 0) (mC (.int 0))) (mCons (mOp2 pIx (mVar 1) (mC (.int 0))) (mNil)))) (mC (.int 0)))) (mTru (mOp2 pGe (mOpN (c_compare cl) (mCons (mOp2 pIx (mOp2 pIx (mVar 1) (mC (.int 1))) (mC (.int 1))) (mCons (mOp2 pIx (mOp2 pIx (mVar 0) (mC (.int 1))) (mC (.int 1))) (mNil)))) (mC (.int 0))))) (mSeq (mRet (mC (.bl false)))
  (mNx)) (mNx))
  (mSeq (mRet (mOp2 pEq (mOpN (c_line_at cl) (mCons (mOp2 pIx (mVar 0) (mC (.int 1))) (mCons (mOp2 pIx (mVar 1) (mC (.int 0))) (mNil)))) (mOpN (c_line_at cl) (mCons (mOp2 pIx (mVar 1) (mC (.int 1))) (mCons (mOp2 pIx (mVar 1) (mC (.int 0))) (mNil))))))
  (mNx))
noncomputable def c_is_behind (cl : Cls) : List D → Sto → Res D := fnM 2 2 (m_is_behind cl)
noncomputable def m_is_envelope (cl : Cls) : MS := mSeq (mIfS (mOrT (mNotT (mTru (mOp1 (pIsi "tuple") (mVar 0)))) (mOrT (mTru (mOp2 pEq (mVar 0) (mOpN pTup (mNil)))) (mNotT (mTru (mOpN fAll (mCons (mLc [1] (.nm 1) (mRow (mVar 0)) (mYes) (mOpN (c_is_row cl) (mCons (mVar 1) (mNil)))) (mNil))))))) (mSeq (mRet (mC (.bl false)))
  (mNx)) (mNx))
  (mSeq (mRet (mAnd (mOp2 pEq (mOp2 pIx (mOp2 pIx (mVar 0) (mC (.int 0))) (mC (.int 0))) (mC k_ZERO)) (mOpN fAll (mCons (mLc [2, 3] (.tp [.nm 2, .nm 3]) (mZip (mCons (mVar 0) (mCons (mSl (mVar 0) (mPart (mC (.int 1))) (mNoPart)) (mNil)))) (mYes) (mOpN (c_is_behind cl) (mCons (mVar 2) (mCons (mVar 3) (mNil))))) (mNil)))))
  (mNx))
noncomputable def c_is_envelope (cl : Cls) : List D → Sto → Res D := fnM 1 4 (m_is_envelope cl)
noncomputable def m_turns_of (cl : Cls) : MS := mSeq (mRet (mOpN fTuple (mCons (mLc [1, 2] (.tp [.nm 1, .nm 2]) (mRow (mSl (mVar 0) (mPart (mC (.int 1))) (mNoPart))) (mYes) (mVar 1)) (mNil))))
  (mNx)
noncomputable def c_turns_of (cl : Cls) : List D → Sto → Res D := fnM 1 3 (m_turns_of cl)
noncomputable def m_law_q (cl : Cls) : MS := mSeq (mPar 2 3 (mCons (mOpN fAbs (mCons (mVar 0) (mNil))) (mCons (mOpN fAbs (mCons (mVar 1) (mNil))) (mNil))))
  (mSeq (mFor (.nm 4) (mRng1 (mCons (mC (.int 100000)) (mNil))) (mSeq (mIfS (mTru (mOp2 pEq (mVar 3) (mC (.int 0)))) (mSeq (mBrk)
  (mNx)) (mNx))
  (mSeq (mPar 2 3 (mCons (mVar 3) (mCons (mOp2 pMod (mOpN fInt (mCons (mVar 2) (mNil))) (mOpN fInt (mCons (mVar 3) (mNil)))) (mNil))))
  (mNx))))
  (mSeq (mAsg (.nm 2) (mIf (mTru (mOp2 pGt (mVar 1) (mC (.int 0)))) (mVar 2) (mOp2 pSub (mC (.int 0)) (mVar 2))))
  (mSeq (mRet (mOpN pTup (mCons (mOp2 pDiv (mVar 0) (mVar 2)) (mCons (mOp2 pDiv (mVar 1) (mVar 2)) (mNil)))))
  (mNx))))
noncomputable def c_law_q (cl : Cls) : List D → Sto → Res D := fnM 2 5 (m_law_q cl)
noncomputable def m_law_add (cl : Cls) : MS := mSeq (mRet (mOpN (c_law_q cl) (mCons (mOp2 pAdd (mOp2 pMul (mOp2 pIx (mVar 0) (mC (.int 0))) (mOp2 pIx (mVar 1) (mC (.int 1)))) (mOp2 pMul (mOp2 pIx (mVar 1) (mC (.int 0))) (mOp2 pIx (mVar 0) (mC (.int 1))))) (mCons (mOp2 pMul (mOp2 pIx (mVar 0) (mC (.int 1))) (mOp2 pIx (mVar 1) (mC (.int 1)))) (mNil)))))
  (mNx)
noncomputable def c_law_add (cl : Cls) : List D → Sto → Res D := fnM 2 2 (m_law_add cl)
noncomputable def m_law_neg (cl : Cls) : MS := mSeq (mRet (mOpN pTup (mCons (mOp2 pSub (mC (.int 0)) (mOp2 pIx (mVar 0) (mC (.int 0)))) (mCons (mOp2 pIx (mVar 0) (mC (.int 1))) (mNil)))))
  (mNx)
noncomputable def c_law_neg (cl : Cls) : List D → Sto → Res D := fnM 1 1 (m_law_neg cl)
noncomputable def m_law_sub (cl : Cls) : MS := mSeq (mRet (mOpN (c_law_add cl) (mCons (mVar 0) (mCons (mOpN (c_law_neg cl) (mCons (mVar 1) (mNil))) (mNil)))))
  (mNx)
noncomputable def c_law_sub (cl : Cls) : List D → Sto → Res D := fnM 2 2 (m_law_sub cl)
noncomputable def m_law_mul (cl : Cls) : MS := mSeq (mRet (mOpN (c_law_q cl) (mCons (mOp2 pMul (mOp2 pIx (mVar 0) (mC (.int 0))) (mOp2 pIx (mVar 1) (mC (.int 0)))) (mCons (mOp2 pMul (mOp2 pIx (mVar 0) (mC (.int 1))) (mOp2 pIx (mVar 1) (mC (.int 1)))) (mNil)))))
  (mNx)
noncomputable def c_law_mul (cl : Cls) : List D → Sto → Res D := fnM 2 2 (m_law_mul cl)
noncomputable def m_law_div (cl : Cls) : MS := mSeq (mRet (mOpN (c_law_q cl) (mCons (mOp2 pMul (mOp2 pIx (mVar 0) (mC (.int 0))) (mOp2 pIx (mVar 1) (mC (.int 1)))) (mCons (mOp2 pMul (mOp2 pIx (mVar 0) (mC (.int 1))) (mOp2 pIx (mVar 1) (mC (.int 0)))) (mNil)))))
  (mNx)
noncomputable def c_law_div (cl : Cls) : List D → Sto → Res D := fnM 2 2 (m_law_div cl)
noncomputable def m_law_cmp (cl : Cls) : MS := mSeq (mRet (mOp2 pSub (mOp2 pMul (mOp2 pIx (mVar 0) (mC (.int 0))) (mOp2 pIx (mVar 1) (mC (.int 1)))) (mOp2 pMul (mOp2 pIx (mVar 1) (mC (.int 0))) (mOp2 pIx (mVar 0) (mC (.int 1))))))
  (mNx)
noncomputable def c_law_cmp (cl : Cls) : List D → Sto → Res D := fnM 2 2 (m_law_cmp cl)
noncomputable def m_law_min (cl : Cls) : MS := mSeq (mAsg (.nm 1) (mOp2 pIx (mVar 0) (mC (.int 0))))
  (mSeq (mFor (.nm 2) (mRow (mVar 0)) (mSeq (mAsg (.nm 1) (mIf (mTru (mOp2 pLt (mOpN (c_law_cmp cl) (mCons (mVar 2) (mCons (mVar 1) (mNil)))) (mC (.int 0)))) (mVar 2) (mVar 1)))
  (mNx)))
  (mSeq (mRet (mVar 1))
  (mNx)))
noncomputable def c_law_min (cl : Cls) : List D → Sto → Res D := fnM 1 3 (m_law_min cl)
noncomputable def m_law_take (cl : Cls) : MS := mSeq (mIfS (mTru (mOp2 pEq (mOp2 pIx (mVar 0) (mC (.int 0))) (mC (.int 0)))) (mSeq (mAsg (.nm 2) (mOp2 pIx (mOp2 pAdd (mSl (mOp2 pIx (mVar 0) (mC (.int 3))) (mPart (mOp2 pIx (mVar 0) (mC (.int 2)))) (mNoPart)) (mOpN pLst (mCons (mC (.int 0)) (mNil)))) (mC (.int 0))))
  (mSeq (mAugIx (fun a b => a + b) (mVar 0) (mC (.int 2)) (mC (.int 1)))
  (mSeq (mIfS (mTru (mOp2 pGe (mVar 2) (mOp2 pPow (mC (.int 10)) (mC (.int 18))))) (mSeq (mSetIx (mVar 0) (mC (.int 0)) (mVar 2))
  (mNx)) (mNx))
  (mSeq (mAsg (.nm 3) (mOp2 pAdd (mOp2 pAdd (mOp2 pMul (mOp2 pIx (mVar 0) (mC (.int 1))) (mC (.int 48271))) (mOp2 pMod (mOpN fInt (mCons (mVar 2) (mNil))) (mC (.int 2147483647)))) (mOp2 pMul (mC (.int 7919)) (mOp2 pIx (mVar 0) (mC (.int 2))))))
  (mSeq (mSetIx (mVar 0) (mC (.int 1)) (mOp2 pMod (mOpN fInt (mCons (mVar 3) (mNil))) (mC (.int 2147483647))))
  (mNx)))))) (mNx))
  (mSeq (mIfS (mTru (mOp2 pGt (mOp2 pIx (mVar 0) (mC (.int 0))) (mC (.int 0)))) (mSeq (mAsg (.nm 4) (mOp2 pMod (mOpN fInt (mCons (mOp2 pIx (mVar 0) (mC (.int 0))) (mNil))) (mVar 1)))
  (mSeq (mSetIx (mVar 0) (mC (.int 0)) (mOp2 pDiv (mOpN fInt (mCons (mOp2 pIx (mVar 0) (mC (.int 0))) (mNil))) (mVar 1)))
  (mSeq (mRet (mVar 4))
  (mNx)))) (mNx))
  (mSeq (mAsg (.nm 5) (mOp2 pMod (mOpN fInt (mCons (mOp2 pMul (mOp2 pAdd (mOp2 pIx (mVar 0) (mC (.int 1))) (mC (.int 1))) (mC (.int 39373))) (mNil))) (mC (.int 1000000007))))
  (mSeq (mAsg (.nm 6) (mOp2 pMod (mOpN fInt (mCons (mOp2 pMul (mOp2 pMod (mOpN fInt (mCons (mOp2 pMul (mVar 5) (mVar 5)) (mNil))) (mC (.int 998244353))) (mC (.int 30011))) (mNil))) (mC (.int 998244353))))
  (mSeq (mRet (mOp2 pMod (mOpN fInt (mCons (mOp2 pDiv (mVar 6) (mC (.int 7))) (mNil))) (mVar 1)))
  (mNx)))))
noncomputable def c_law_take (cl : Cls) : List D → Sto → Res D := fnM 2 7 (m_law_take cl)
noncomputable def m_law_some (cl : Cls) : MS := mSeq (mRet (mOp2 pIx (mVar 1) (mOpN (c_law_take cl) (mCons (mVar 0) (mCons (mOpN fLen (mCons (mVar 1) (mNil))) (mNil))))))
  (mNx)
noncomputable def c_law_some (cl : Cls) : List D → Sto → Res D := fnM 2 2 (m_law_some cl)
noncomputable def m_law_pos (cl : Cls) : MS := mSeq (mRet (mOpN (c_law_q cl) (mCons (mOp2 pAdd (mC (.int 1)) (mOpN (c_law_take cl) (mCons (mVar 0) (mCons (mVar 1) (mNil))))) (mCons (mOpN (c_law_some cl) (mCons (mVar 0) (mCons (mOpN pLst (mCons (mC (.int 1)) (mCons (mC (.int 1)) (mCons (mC (.int 2)) (mCons (mC (.int 3)) (mNil)))))) (mNil)))) (mNil)))))
  (mNx)
noncomputable def c_law_pos (cl : Cls) : List D → Sto → Res D := fnM 2 2 (m_law_pos cl)
noncomputable def m_law_frac (cl : Cls) : MS := mSeq (mRet (mOpN (c_law_q cl) (mCons (mOp2 pSub (mOpN (c_law_take cl) (mCons (mVar 0) (mCons (mOp2 pAdd (mOp2 pMul (mC (.int 2)) (mVar 1)) (mC (.int 1))) (mNil)))) (mVar 1)) (mCons (mOpN (c_law_some cl) (mCons (mVar 0) (mCons (mOpN pLst (mCons (mC (.int 1)) (mCons (mC (.int 1)) (mCons (mC (.int 2)) (mCons (mC (.int 3)) (mNil)))))) (mNil)))) (mNil)))))
  (mNx)
noncomputable def c_law_frac (cl : Cls) : List D → Sto → Res D := fnM 2 2 (m_law_frac cl)
noncomputable def m_law_bag (cl : Cls) : MS := mSeq (mRet (mOpN pLst (mCons (mC (.int 0)) (mCons (mC (.int 1234567891)) (mCons (mC (.int 0)) (mCons (mLc [1] (.nm 1) (mRow (mSl (mVar 0) (mNoPart) (mPart (mC (.int 63))))) (mYes) (mOpN fAbs (mCons (mVar 1) (mNil)))) (mNil)))))))
  (mNx)
noncomputable def c_law_bag (cl : Cls) : List D → Sto → Res D := fnM 1 2 (m_law_bag cl)
noncomputable def m_law_mixed (cl : Cls) : MS := mSeq (mAsg (.nm 2) (mOpN pLst (mNil)))
  (mSeq (mFor (.nm 3) (mRow (mVar 1)) (mSeq (mDrop (mMethL gInsert (mVar 2) (mCons (mOpN (c_law_take cl) (mCons (mVar 0) (mCons (mOp2 pAdd (mOpN fLen (mCons (mVar 2) (mNil))) (mC (.int 1))) (mNil)))) (mCons (mVar 3) (mNil)))))
  (mNx)))
  (mSeq (mRet (mVar 2))
  (mNx)))
noncomputable def c_law_mixed (cl : Cls) : List D → Sto → Res D := fnM 2 4 (m_law_mixed cl)
noncomputable def m_law_on (cl : Cls) : MS := mSeq (mRet (mOpN (c_law_min cl) (mCons (mLc [2, 3] (.tp [.nm 2, .nm 3]) (mRow (mVar 0)) (mYes) (mOpN (c_law_add cl) (mCons (mVar 2) (mCons (mOpN (c_law_mul cl) (mCons (mVar 3) (mCons (mVar 1) (mNil)))) (mNil))))) (mNil))))
  (mNx)
noncomputable def c_law_on (cl : Cls) : List D → Sto → Res D := fnM 2 4 (m_law_on cl)
noncomputable def m_law_in_order (cl : Cls) : MS := mSeq (mAsg (.nm 1) (mOpN pLst (mNil)))
  (mSeq (mFor (.nm 2) (mRow (mVar 0)) (mSeq (mDrop (mMethL gInsert (mVar 1) (mCons (mOpN fLen (mCons (mLc [3] (.nm 3) (mRow (mVar 1)) (mTru (mOp2 pLt (mOpN (c_law_cmp cl) (mCons (mVar 3) (mCons (mVar 2) (mNil)))) (mC (.int 0)))) (mVar 3)) (mNil))) (mCons (mVar 2) (mNil)))))
  (mNx)))
  (mSeq (mRet (mVar 1))
  (mNx)))
noncomputable def c_law_in_order (cl : Cls) : List D → Sto → Res D := fnM 1 4 (m_law_in_order cl)
noncomputable def m_law_lowest (cl : Cls) : MS := mSeq (mAsg (.nm 1) (mOpN pLst (mCons (mOpN pTup (mCons (mC (.int 0)) (mCons (mC (.int 1)) (mNil)))) (mNil))))
  (mSeq (mFor (.tp [.nm 2, .nm 3]) (mRow (mVar 0)) (mSeq (mFor (.tp [.nm 4, .nm 5]) (mRow (mVar 0)) (mSeq (mIfS (mTru (mOp2 pNe (mOpN (c_law_cmp cl) (mCons (mVar 3) (mCons (mVar 5) (mNil)))) (mC (.int 0)))) (mSeq (mAsg (.nm 6) (mOpN (c_law_div cl) (mCons (mOpN (c_law_sub cl) (mCons (mVar 4) (mCons (mVar 2) (mNil)))) (mCons (mOpN (c_law_sub cl) (mCons (mVar 3) (mCons (mVar 5) (mNil)))) (mNil)))))
  (mSeq (mIfS (mAndT (mTru (mOp2 pGt (mOp2 pIx (mVar 6) (mC (.int 0))) (mC (.int 0)))) (mTru (mOp2 (pInB true) (mVar 6) (mVar 1)))) (mSeq (mDrop (mMethL gAppend (mVar 1) (mCons (mVar 6) (mNil))))
  (mNx)) (mNx))
  (mNx))) (mNx))
  (mNx)))
  (mNx)))
  (mSeq (mAsg (.nm 7) (mOpN pLst (mNil)))
  (mSeq (mFor (.nm 6) (mRow (mOpN (c_law_in_order cl) (mCons (mVar 1) (mNil)))) (mSeq (mAsg (.nm 8) (mOpN (c_law_on cl) (mCons (mVar 0) (mCons (mVar 6) (mNil)))))
  (mSeq (mAsg (.nm 9) (mLc [2, 3] (.tp [.nm 2, .nm 3]) (mRow (mVar 0)) (mTru (mOp2 pEq (mOpN (c_law_add cl) (mCons (mVar 2) (mCons (mOpN (c_law_mul cl) (mCons (mVar 3) (mCons (mVar 6) (mNil)))) (mNil)))) (mVar 8))) (mOpN pTup (mCons (mVar 2) (mCons (mVar 3) (mNil))))))
  (mSeq (mAsg (.nm 10) (mOpN (c_law_min cl) (mCons (mLc [2, 3] (.tp [.nm 2, .nm 3]) (mRow (mVar 9)) (mYes) (mVar 3)) (mNil))))
  (mSeq (mAsg (.nm 11) (mOp2 pIx (mLc [12] (.nm 12) (mRow (mVar 9)) (mTru (mOp2 pEq (mOp2 pIx (mVar 12) (mC (.int 1))) (mVar 10))) (mVar 12)) (mC (.int 0))))
  (mSeq (mIfS (mOrT (mTru (mOp2 pEq (mVar 7) (mOpN pLst (mNil)))) (mTru (mOp2 pNe (mOp2 pIx (mOp2 pIx (mVar 7) (mOp1 pNeg (mC (.int 1)))) (mC (.int 1))) (mVar 11)))) (mSeq (mDrop (mMethL gAppend (mVar 7) (mCons (mOpN pTup (mCons (mVar 6) (mCons (mVar 11) (mNil)))) (mNil))))
  (mNx)) (mNx))
  (mNx)))))))
  (mSeq (mRet (mOpN fTuple (mCons (mVar 7) (mNil))))
  (mNx)))))
noncomputable def c_law_lowest (cl : Cls) : List D → Sto → Res D := fnM 1 13 (m_law_lowest cl)
noncomputable def m_law_some_lines (cl : Cls) : MS := mSeq (mAsg (.nm 2) (mOpN pLst (mNil)))
  (mSeq (mFor (.nm 3) (mRng1 (mCons (mOp2 pAdd (mC (.int 1)) (mOpN (c_law_take cl) (mCons (mVar 0) (mCons (mVar 1) (mNil))))) (mNil))) (mSeq (mDrop (mMethL gAppend (mVar 2) (mCons (mOpN pTup (mCons (mOpN (c_law_frac cl) (mCons (mVar 0) (mCons (mC (.int 9)) (mNil)))) (mCons (mOpN (c_law_some cl) (mCons (mVar 0) (mCons (mOpN pLst (mCons (mOpN pTup (mCons (mC (.int 0)) (mCons (mC (.int 1)) (mNil)))) (mCons (mOpN (c_law_pos cl) (mCons (mVar 0) (mCons (mC (.int 6)) (mNil)))) (mNil)))) (mNil)))) (mNil)))) (mNil))))
  (mNx)))
  (mSeq (mIfS (mTru (mOp2 pEq (mOpN (c_law_take cl) (mCons (mVar 0) (mCons (mC (.int 2)) (mNil)))) (mC (.int 0)))) (mSeq (mAsg (.tp [.tp [.nm 4, .nm 5], .tp [.nm 6, .nm 7]]) (mOpN pTup (mCons (mOp2 pIx (mVar 2) (mC (.int 0))) (mCons (mOp2 pIx (mVar 2) (mOp1 pNeg (mC (.int 1)))) (mNil)))))
  (mSeq (mDrop (mMethL gAppend (mVar 2) (mCons (mOpN pTup (mCons (mOpN (c_law_div cl) (mCons (mOpN (c_law_add cl) (mCons (mVar 4) (mCons (mVar 6) (mNil)))) (mCons (mOpN pTup (mCons (mC (.int 2)) (mCons (mC (.int 1)) (mNil)))) (mNil)))) (mCons (mOpN (c_law_div cl) (mCons (mOpN (c_law_add cl) (mCons (mVar 5) (mCons (mVar 7) (mNil)))) (mCons (mOpN pTup (mCons (mC (.int 2)) (mCons (mC (.int 1)) (mNil)))) (mNil)))) (mNil)))) (mNil))))
  (mNx))) (mNx))
  (mSeq (mRet (mOpN fTuple (mCons (mVar 2) (mNil))))
  (mNx))))
noncomputable def c_law_some_lines (cl : Cls) : List D → Sto → Res D := fnM 2 8 (m_law_some_lines cl)
noncomputable def m_law_any_values (cl : Cls) : MS := mSeq (mAsg (.tp [.nm 1, .nm 2, .nm 3]) (mOpN pTup (mCons (mOpN pTup (mCons (mC (.int 3)) (mCons (mC (.int 1)) (mNil)))) (mCons (mOpN pTup (mCons (mC (.int 1)) (mCons (mC (.int 1)) (mNil)))) (mCons (mOpN pTup (mCons (mC (.int 0)) (mCons (mC (.int 1)) (mNil)))) (mNil))))))
  (mSeq (mAsg (.nm 4) (mOpN pLst (mCons (mOpN pTup (mCons (mOpN pTup (mCons (mVar 3) (mCons (mOpN pTup (mCons (mVar 1) (mCons (mVar 3) (mNil)))) (mNil)))) (mNil))) (mCons (mOpN pTup (mCons (mOpN pTup (mCons (mVar 3) (mCons (mOpN pTup (mCons (mVar 3) (mCons (mVar 2) (mNil)))) (mNil)))) (mCons (mOpN pTup (mCons (mOpN pTup (mCons (mC (.int 3)) (mCons (mC (.int 1)) (mNil)))) (mCons (mOpN pTup (mCons (mVar 1) (mCons (mVar 3) (mNil)))) (mNil)))) (mNil)))) (mCons (mVar 0) (mNil))))))
  (mSeq (mAsg (.nm 5) (mOpN pLst (mCons (mC .non) (mCons (mOpN pTup (mNil)) (mCons (mOpN pLst (mCons (mOpN pTup (mCons (mVar 3) (mCons (mOpN pTup (mCons (mVar 1) (mCons (mVar 3) (mNil)))) (mNil)))) (mNil))) (mCons (mOpN pTup (mCons (mOpN pTup (mCons (mVar 2) (mCons (mOpN pTup (mCons (mVar 1) (mCons (mVar 3) (mNil)))) (mNil)))) (mNil))) (mCons (mOpN pTup (mCons (mOpN pTup (mCons (mVar 3) (mCons (mOpN pTup (mCons (mVar 1) (mCons (mOpN pTup (mCons (mOp1 pNeg (mC (.int 1))) (mCons (mC (.int 1)) (mNil)))) (mNil)))) (mNil)))) (mNil))) (mCons (mOpN pTup (mCons (mOpN pTup (mCons (mVar 3) (mCons (mOpN pTup (mCons (mVar 3) (mCons (mVar 2) (mNil)))) (mNil)))) (mCons (mOpN pTup (mCons (mOpN pTup (mCons (mC (.int 2)) (mCons (mC (.int 1)) (mNil)))) (mCons (mOpN pTup (mCons (mVar 1) (mCons (mVar 3) (mNil)))) (mNil)))) (mNil)))) (mCons (mOpN pTup (mCons (mOpN pTup (mCons (mVar 3) (mCons (mOpN pTup (mCons (mVar 1) (mCons (mVar 3) (mNil)))) (mNil)))) (mCons (mOpN pTup (mCons (mOpN pTup (mCons (mC (.int 3)) (mCons (mC (.int 1)) (mNil)))) (mCons (mOpN pTup (mCons (mVar 3) (mCons (mVar 2) (mNil)))) (mNil)))) (mNil)))) (mNil))))))))))
  (mSeq (mAsg (.nm 5) (mOp2 pAdd (mVar 5) (mOpN pLst (mCons (mOpN pTup (mCons (mOpN pTup (mCons (mVar 3) (mCons (mOpN pTup (mCons (mVar 3) (mCons (mVar 2) (mNil)))) (mNil)))) (mCons (mOpN pTup (mCons (mOpN pTup (mCons (mC (.int 3)) (mCons (mC (.int 1)) (mNil)))) (mCons (mOpN pTup (mCons (mVar 3) (mCons (mVar 2) (mNil)))) (mNil)))) (mNil)))) (mCons (mOpN pTup (mCons (mOpN pTup (mCons (mVar 3) (mCons (mOpN pTup (mCons (mVar 3) (mCons (mVar 2) (mNil)))) (mNil)))) (mCons (mOpN pTup (mCons (mVar 3) (mCons (mOpN pTup (mCons (mVar 3) (mCons (mVar 3) (mNil)))) (mNil)))) (mNil)))) (mNil))))))
  (mSeq (mAsg (.nm 5) (mOp2 pAdd (mVar 5) (mOpN pLst (mCons (mOpN pTup (mCons (mOpN pTup (mCons (mVar 3) (mCons (mOpN pTup (mCons (mVar 3) (mCons (mVar 2) (mNil)))) (mNil)))) (mCons (mOpN pTup (mCons (mOpN pTup (mCons (mC (.int 3)) (mCons (mC (.int 1)) (mNil)))) (mCons (mOpN pTup (mCons (mVar 1) (mCons (mVar 3) (mNil)))) (mNil)))) (mCons (mOpN pTup (mCons (mOpN pTup (mCons (mC (.int 2)) (mCons (mC (.int 1)) (mNil)))) (mCons (mOpN pTup (mCons (mVar 1) (mCons (mVar 3) (mNil)))) (mNil)))) (mNil))))) (mCons (mOpN pTup (mCons (mOpN pTup (mCons (mVar 3) (mCons (mVar 1) (mNil)))) (mNil))) (mCons (mOpN pTup (mCons (mOpN pTup (mCons (mVar 3) (mCons (mOpN pTup (mCons (mVar 1) (mCons (mVar 3) (mCons (mVar 3) (mNil))))) (mNil)))) (mNil))) (mCons (mOpN pTup (mCons (mOpN pTup (mCons (mC (.int 0)) (mCons (mOpN pTup (mCons (mVar 1) (mCons (mVar 3) (mNil)))) (mNil)))) (mNil))) (mNil))))))))
  (mSeq (mRet (mAnd (mOp2 pEq (mLc [6] (.nm 6) (mRow (mVar 4)) (mTru (mOp2 pIsNot (mOpN (c_is_envelope cl) (mCons (mVar 6) (mNil))) (mC (.bl true)))) (mVar 6)) (mOpN pLst (mNil))) (mOp2 pEq (mLc [6] (.nm 6) (mRow (mVar 5)) (mTru (mOp2 pIsNot (mOpN (c_is_envelope cl) (mCons (mVar 6) (mNil))) (mC (.bl false)))) (mVar 6)) (mOpN pLst (mNil)))))
  (mNx))))))
noncomputable def c_law_any_values (cl : Cls) : List D → Sto → Res D := fnM 1 7 (m_law_any_values cl)
noncomputable def m_law (cl : Cls) : MS := mSeq (mAsg (.nm 1) (mOpN (c_law_bag cl) (mCons (mVar 0) (mNil))))
  (mSeq (mAsg (.nm 2) (mLc [15] (.nm 15) (mRng1 (mCons (mC (.int 2)) (mNil))) (mYes) (mOpN (c_law_some_lines cl) (mCons (mVar 1) (mCons (mC (.int 6)) (mNil))))))
  (mSeq (mAsg (.nm 3) (mLc [4] (.nm 4) (mRow (mVar 2)) (mYes) (mOpN (c_lowest cl) (mCons (mVar 4) (mNil)))))
  (mSeq (mFor (.tp [.nm 4, .nm 5]) (mZip (mCons (mVar 2) (mCons (mVar 3) (mNil)))) (mSeq (mIfS (mOrT (mTru (mOp2 pNe (mVar 5) (mOpN (c_law_lowest cl) (mCons (mVar 4) (mNil))))) (mOrT (mTru (mOp2 pIsNot (mOpN (c_is_envelope cl) (mCons (mVar 5) (mNil))) (mC (.bl true)))) (mTru (mOp2 pNe (mOpN (c_lowest cl) (mCons (mOpN fTuple (mCons (mOpN (c_law_mixed cl) (mCons (mVar 1) (mCons (mOp2 pAdd (mOpN fList (mCons (mVar 4) (mNil))) (mOpN fList (mCons (mVar 4) (mNil)))) (mNil)))) (mNil))) (mNil))) (mVar 5))))) (mSeq (mRet (mC (.bl false)))
  (mNx)) (mNx))
  (mSeq (mAsg (.nm 6) (mOpN (c_turns_of cl) (mCons (mVar 5) (mNil))))
  (mSeq (mIfS (mOrT (mTru (mOp2 pNe (mVar 6) (mOpN fTuple (mCons (mLc [8, 13] (.tp [.nm 8, .nm 13]) (mRow (mSl (mVar 5) (mPart (mC (.int 1))) (mNoPart))) (mYes) (mVar 8)) (mNil))))) (mTru (mOp2 pNe (mOpN (c_lowest cl) (mCons (mOpN fTuple (mCons (mLc [8, 13] (.tp [.nm 8, .nm 13]) (mRow (mVar 5)) (mYes) (mVar 13)) (mNil))) (mNil))) (mVar 5)))) (mSeq (mRet (mC (.bl false)))
  (mNx)) (mNx))
  (mSeq (mAsg (.nm 7) (mOp2 pAdd (mOp2 pAdd (mOpN pLst (mCons (mOpN pTup (mCons (mC (.int 0)) (mCons (mC (.int 1)) (mNil)))) (mCons (mOpN (c_law_pos cl) (mCons (mVar 1) (mCons (mC (.int 9)) (mNil)))) (mCons (mOpN pTup (mCons (mC (.int 1)) (mCons (mC (.int 1000)) (mNil)))) (mCons (mOpN pTup (mCons (mC (.int 1000)) (mCons (mC (.int 1)) (mNil)))) (mNil)))))) (mOpN fList (mCons (mVar 6) (mNil)))) (mLc [8, 16] (.tp [.nm 8, .nm 16]) (mZip (mCons (mVar 6) (mCons (mSl (mVar 6) (mPart (mC (.int 1))) (mNoPart)) (mNil)))) (mYes) (mOpN (c_law_div cl) (mCons (mOpN (c_law_add cl) (mCons (mVar 8) (mCons (mVar 16) (mNil)))) (mCons (mOpN pTup (mCons (mC (.int 2)) (mCons (mC (.int 1)) (mNil)))) (mNil)))))))
  (mSeq (mFor (.nm 8) (mRow (mVar 7)) (mSeq (mIfS (mTru (mOp2 pNe (mOpN (c_value_on cl) (mCons (mVar 5) (mCons (mVar 8) (mNil)))) (mOpN (c_law_on cl) (mCons (mVar 4) (mCons (mVar 8) (mNil)))))) (mSeq (mRet (mC (.bl false)))
  (mNx)) (mNx))
  (mNx)))
  (mSeq (mPar 9 10 (mCons (mOpN (c_law_pos cl) (mCons (mVar 1) (mCons (mC (.int 9)) (mNil)))) (mCons (mOpN (c_law_pos cl) (mCons (mVar 1) (mCons (mC (.int 9)) (mNil)))) (mNil))))
  (mSeq (mPar 11 12 (mCons (mOpN (c_value_on cl) (mCons (mVar 5) (mCons (mVar 9) (mNil)))) (mCons (mOpN (c_value_on cl) (mCons (mVar 5) (mCons (mVar 10) (mNil)))) (mNil))))
  (mSeq (mIfS (mOrT (mTru (mOp2 pLt (mOpN (c_law_cmp cl) (mCons (mOpN (c_law_mul cl) (mCons (mOpN pTup (mCons (mC (.int 2)) (mCons (mC (.int 1)) (mNil)))) (mCons (mOpN (c_value_on cl) (mCons (mVar 5) (mCons (mOpN (c_law_div cl) (mCons (mOpN (c_law_add cl) (mCons (mVar 9) (mCons (mVar 10) (mNil)))) (mCons (mOpN pTup (mCons (mC (.int 2)) (mCons (mC (.int 1)) (mNil)))) (mNil)))) (mNil)))) (mNil)))) (mCons (mOpN (c_law_add cl) (mCons (mVar 11) (mCons (mVar 12) (mNil)))) (mNil)))) (mC (.int 0)))) (mTru (mOp2 pLt (mOp2 pMul (mOpN (c_law_cmp cl) (mCons (mVar 9) (mCons (mVar 10) (mNil)))) (mOpN (c_law_cmp cl) (mCons (mVar 11) (mCons (mVar 12) (mNil))))) (mC (.int 0))))) (mSeq (mRet (mC (.bl false)))
  (mNx)) (mNx))
  (mSeq (mAsg (.nm 13) (mOpN pTup (mCons (mOpN (c_law_frac cl) (mCons (mVar 1) (mCons (mC (.int 5)) (mNil)))) (mCons (mOpN (c_law_some cl) (mCons (mVar 1) (mCons (mOpN pLst (mCons (mOpN pTup (mCons (mC (.int 0)) (mCons (mC (.int 1)) (mNil)))) (mCons (mOpN (c_law_pos cl) (mCons (mVar 1) (mCons (mC (.int 3)) (mNil)))) (mNil)))) (mNil)))) (mNil)))))
  (mSeq (mIfS (mTru (mOp2 pNe (mOpN (c_added_line cl) (mCons (mVar 5) (mCons (mVar 13) (mNil)))) (mOpN (c_lowest cl) (mCons (mOpN fTuple (mCons (mLc [17, 18] (.tp [.nm 17, .nm 18]) (mRow (mVar 4)) (mYes) (mOpN pTup (mCons (mOpN (c_law_add cl) (mCons (mVar 17) (mCons (mOp2 pIx (mVar 13) (mC (.int 0))) (mNil)))) (mCons (mOpN (c_law_add cl) (mCons (mVar 18) (mCons (mOp2 pIx (mVar 13) (mC (.int 1))) (mNil)))) (mNil))))) (mNil))) (mNil))))) (mSeq (mRet (mC (.bl false)))
  (mNx)) (mNx))
  (mSeq (mFor (.nm 14) (mRow (mOpN pTup (mCons (mOpN pTup (mCons (mOp1 pNeg (mC (.int 1))) (mCons (mC (.int 2)) (mNil)))) (mCons (mC .non) (mCons (mC (.int 1)) (mNil)))))) (mSeq (mIfS (mNotT (mTru (mNothing cl.Nothing (mOpN (c_value_on cl) (mCons (mVar 5) (mCons (mVar 14) (mNil))))))) (mSeq (mRet (mC (.bl false)))
  (mNx)) (mNx))
  (mNx)))
  (mNx)))))))))))))
  (mSeq (mIfS (mOrT (mTru (mOp2 pNe (mOpN (c_least_of_two cl) (mCons (mOp2 pIx (mVar 3) (mC (.int 0))) (mCons (mOp2 pIx (mVar 3) (mC (.int 1))) (mNil)))) (mOpN (c_law_lowest cl) (mCons (mOp2 pAdd (mOp2 pIx (mVar 2) (mC (.int 0))) (mOp2 pIx (mVar 2) (mC (.int 1)))) (mNil))))) (mTru (mOp2 pNe (mOpN (c_least_of_two cl) (mCons (mOp2 pIx (mVar 3) (mC (.int 0))) (mCons (mOp2 pIx (mVar 3) (mC (.int 0))) (mNil)))) (mOp2 pIx (mVar 3) (mC (.int 0)))))) (mSeq (mRet (mC (.bl false)))
  (mNx)) (mNx))
  (mSeq (mRet (mOpN (c_law_any_values cl) (mCons (mOp2 pIx (mVar 3) (mC (.int 0))) (mNil))))
  (mNx))))))
noncomputable def c_law (cl : Cls) : List D → Sto → Res D := fnM 1 19 (m_law cl)
end K03
set_option Elab.async false
set_option linter.all false
set_option maxRecDepth 100000
set_option maxHeartbeats 4000000
namespace K03
open PySem PySem.Spec PyProof.Rows L2 RM
def topS (i : Nat) : Stmt := PySem.Challenge.pw_relays_k03_whole_lowest_lines.main.body.getD i (.Pass ⟨0, 0, 0, 0⟩)
abbrev s_is_whole : Stmt := topS 5
theorem sc_is_whole : FnScope ["thing"] ["thing"] (defScope s_is_whole) := ⟨rfl, rfl, rfl, by decide +kernel, rfl, by decide +kernel, by decide +kernel⟩
abbrev s_common_divisor : Stmt := topS 6
theorem sc_common_divisor : FnScope ["one", "other"] ["one", "other"] (defScope s_common_divisor) := ⟨rfl, rfl, rfl, by decide +kernel, rfl, by decide +kernel, by decide +kernel⟩
abbrev s_is_tuple_of : Stmt := topS 7
theorem sc_is_tuple_of : FnScope ["thing", "many"] ["thing", "many"] (defScope s_is_tuple_of) := ⟨rfl, rfl, rfl, by decide +kernel, rfl, by decide +kernel, by decide +kernel⟩
abbrev s_is_fraction : Stmt := topS 8
theorem sc_is_fraction : FnScope ["thing", "part"] ["thing"] (defScope s_is_fraction) := ⟨rfl, rfl, rfl, by decide +kernel, rfl, by decide +kernel, by decide +kernel⟩
abbrev s_fraction : Stmt := topS 10
theorem sc_fraction : FnScope ["top", "bottom", "by"] ["top", "bottom"] (defScope s_fraction) := ⟨rfl, rfl, rfl, by decide +kernel, rfl, by decide +kernel, by decide +kernel⟩
abbrev s_plus : Stmt := topS 11
theorem sc_plus : FnScope ["one", "other"] ["one", "other"] (defScope s_plus) := ⟨rfl, rfl, rfl, by decide +kernel, rfl, by decide +kernel, by decide +kernel⟩
abbrev s_less : Stmt := topS 12
theorem sc_less : FnScope ["one", "other"] ["one", "other"] (defScope s_less) := ⟨rfl, rfl, rfl, by decide +kernel, rfl, by decide +kernel, by decide +kernel⟩
abbrev s_times : Stmt := topS 13
theorem sc_times : FnScope ["one", "other"] ["one", "other"] (defScope s_times) := ⟨rfl, rfl, rfl, by decide +kernel, rfl, by decide +kernel, by decide +kernel⟩
abbrev s_over : Stmt := topS 14
theorem sc_over : FnScope ["one", "other"] ["one", "other"] (defScope s_over) := ⟨rfl, rfl, rfl, by decide +kernel, rfl, by decide +kernel, by decide +kernel⟩
abbrev s_sign : Stmt := topS 15
theorem sc_sign : FnScope ["one"] ["one"] (defScope s_sign) := ⟨rfl, rfl, rfl, by decide +kernel, rfl, by decide +kernel, by decide +kernel⟩
abbrev s_compare : Stmt := topS 16
theorem sc_compare : FnScope ["one", "other"] ["one", "other"] (defScope s_compare) := ⟨rfl, rfl, rfl, by decide +kernel, rfl, by decide +kernel, by decide +kernel⟩
abbrev s_line_at : Stmt := topS 19
theorem sc_line_at : FnScope ["line", "m"] ["line", "m"] (defScope s_line_at) := ⟨rfl, rfl, rfl, by decide +kernel, rfl, by decide +kernel, by decide +kernel⟩
abbrev s_is_below : Stmt := topS 20
theorem sc_is_below : FnScope ["one", "other", "order"] ["one", "other"] (defScope s_is_below) := ⟨rfl, rfl, rfl, by decide +kernel, rfl, by decide +kernel, by decide +kernel⟩
abbrev s_first_line : Stmt := topS 21
theorem sc_first_line : FnScope ["lines", "found", "line"] ["lines"] (defScope s_first_line) := ⟨rfl, rfl, rfl, by decide +kernel, rfl, by decide +kernel, by decide +kernel⟩
abbrev s_next_row : Stmt := topS 22
theorem sc_next_row : FnScope ["line", "lines", "found", "other", "m", "order"] ["line", "lines"] (defScope s_next_row) := ⟨rfl, rfl, rfl, by decide +kernel, rfl, by decide +kernel, by decide +kernel⟩
abbrev s_lowest : Stmt := topS 23
theorem sc_lowest : FnScope ["lines", "found", "row"] ["lines"] (defScope s_lowest) := ⟨rfl, rfl, rfl, by decide +kernel, rfl, by decide +kernel, by decide +kernel⟩
abbrev s_value_on : Stmt := topS 24
theorem sc_value_on : FnScope ["envelope", "m", "found", "begin", "line"] ["envelope", "m"] (defScope s_value_on) := ⟨rfl, rfl, rfl, by decide +kernel, rfl, by decide +kernel, by decide +kernel⟩
abbrev s_lines_of : Stmt := topS 25
theorem sc_lines_of : FnScope ["envelope", "begin", "line"] ["envelope"] (defScope s_lines_of) := ⟨rfl, rfl, rfl, by decide +kernel, rfl, by decide +kernel, by decide +kernel⟩
abbrev s_least_of_two : Stmt := topS 26
theorem sc_least_of_two : FnScope ["one", "other"] ["one", "other"] (defScope s_least_of_two) := ⟨rfl, rfl, rfl, by decide +kernel, rfl, by decide +kernel, by decide +kernel⟩
abbrev s_added_line : Stmt := topS 27
theorem sc_added_line : FnScope ["envelope", "line", "begin", "its"] ["envelope", "line"] (defScope s_added_line) := ⟨rfl, rfl, rfl, by decide +kernel, rfl, by decide +kernel, by decide +kernel⟩
abbrev s_is_row : Stmt := topS 28
theorem sc_is_row : FnScope ["thing", "part"] ["thing"] (defScope s_is_row) := ⟨rfl, rfl, rfl, by decide +kernel, rfl, by decide +kernel, by decide +kernel⟩
abbrev s_is_behind : Stmt := topS 29
theorem sc_is_behind : FnScope ["one", "other"] ["one", "other"] (defScope s_is_behind) := ⟨rfl, rfl, rfl, by decide +kernel, rfl, by decide +kernel, by decide +kernel⟩
abbrev s_is_envelope : Stmt := topS 30
theorem sc_is_envelope : FnScope ["thing", "row", "one", "other"] ["thing"] (defScope s_is_envelope) := ⟨rfl, rfl, rfl, by decide +kernel, rfl, by decide +kernel, by decide +kernel⟩
abbrev s_turns_of : Stmt := topS 31
theorem sc_turns_of : FnScope ["envelope", "begin", "line"] ["envelope"] (defScope s_turns_of) := ⟨rfl, rfl, rfl, by decide +kernel, rfl, by decide +kernel, by decide +kernel⟩
abbrev s_law_q : Stmt := topS 33
theorem sc_law_q : FnScope ["top", "bottom", "one", "other", "lap"] ["top", "bottom"] (defScope s_law_q) := ⟨rfl, rfl, rfl, by decide +kernel, rfl, by decide +kernel, by decide +kernel⟩
abbrev s_law_add : Stmt := topS 34
theorem sc_law_add : FnScope ["one", "other"] ["one", "other"] (defScope s_law_add) := ⟨rfl, rfl, rfl, by decide +kernel, rfl, by decide +kernel, by decide +kernel⟩
abbrev s_law_neg : Stmt := topS 35
theorem sc_law_neg : FnScope ["one"] ["one"] (defScope s_law_neg) := ⟨rfl, rfl, rfl, by decide +kernel, rfl, by decide +kernel, by decide +kernel⟩
abbrev s_law_sub : Stmt := topS 36
theorem sc_law_sub : FnScope ["one", "other"] ["one", "other"] (defScope s_law_sub) := ⟨rfl, rfl, rfl, by decide +kernel, rfl, by decide +kernel, by decide +kernel⟩
abbrev s_law_mul : Stmt := topS 37
theorem sc_law_mul : FnScope ["one", "other"] ["one", "other"] (defScope s_law_mul) := ⟨rfl, rfl, rfl, by decide +kernel, rfl, by decide +kernel, by decide +kernel⟩
abbrev s_law_div : Stmt := topS 38
theorem sc_law_div : FnScope ["one", "other"] ["one", "other"] (defScope s_law_div) := ⟨rfl, rfl, rfl, by decide +kernel, rfl, by decide +kernel, by decide +kernel⟩
abbrev s_law_cmp : Stmt := topS 39
theorem sc_law_cmp : FnScope ["one", "other"] ["one", "other"] (defScope s_law_cmp) := ⟨rfl, rfl, rfl, by decide +kernel, rfl, by decide +kernel, by decide +kernel⟩
abbrev s_law_min : Stmt := topS 40
theorem sc_law_min : FnScope ["things", "found", "thing"] ["things"] (defScope s_law_min) := ⟨rfl, rfl, rfl, by decide +kernel, rfl, by decide +kernel, by decide +kernel⟩
abbrev s_law_take : Stmt := topS 44
theorem sc_law_take : FnScope ["bag", "many", "cell", "stirred", "value", "begin", "second"] ["bag", "many"] (defScope s_law_take) := ⟨rfl, rfl, rfl, by decide +kernel, rfl, by decide +kernel, by decide +kernel⟩
abbrev s_law_some : Stmt := topS 45
theorem sc_law_some : FnScope ["bag", "things"] ["bag", "things"] (defScope s_law_some) := ⟨rfl, rfl, rfl, by decide +kernel, rfl, by decide +kernel, by decide +kernel⟩
abbrev s_law_pos : Stmt := topS 41
theorem sc_law_pos : FnScope ["bag", "most"] ["bag", "most"] (defScope s_law_pos) := ⟨rfl, rfl, rfl, by decide +kernel, rfl, by decide +kernel, by decide +kernel⟩
abbrev s_law_frac : Stmt := topS 42
theorem sc_law_frac : FnScope ["bag", "most"] ["bag", "most"] (defScope s_law_frac) := ⟨rfl, rfl, rfl, by decide +kernel, rfl, by decide +kernel, by decide +kernel⟩
abbrev s_law_bag : Stmt := topS 43
theorem sc_law_bag : FnScope ["script", "cell"] ["script"] (defScope s_law_bag) := ⟨rfl, rfl, rfl, by decide +kernel, rfl, by decide +kernel, by decide +kernel⟩
abbrev s_law_mixed : Stmt := topS 46
theorem sc_law_mixed : FnScope ["bag", "things", "found", "thing"] ["bag", "things"] (defScope s_law_mixed) := ⟨rfl, rfl, rfl, by decide +kernel, rfl, by decide +kernel, by decide +kernel⟩
abbrev s_law_on : Stmt := topS 47
theorem sc_law_on : FnScope ["lines", "m", "a", "b"] ["lines", "m"] (defScope s_law_on) := ⟨rfl, rfl, rfl, by decide +kernel, rfl, by decide +kernel, by decide +kernel⟩
abbrev s_law_in_order : Stmt := topS 49
theorem sc_law_in_order : FnScope ["numbers", "found", "one", "its"] ["numbers"] (defScope s_law_in_order) := ⟨rfl, rfl, rfl, by decide +kernel, rfl, by decide +kernel, by decide +kernel⟩
abbrev s_law_lowest : Stmt := topS 48
theorem sc_law_lowest : FnScope ["lines", "points", "a", "b", "c", "d", "m", "found", "value", "here", "steep", "line", "one"] ["lines"] (defScope s_law_lowest) := ⟨rfl, rfl, rfl, by decide +kernel, rfl, by decide +kernel, by decide +kernel⟩
abbrev s_law_some_lines : Stmt := topS 50
theorem sc_law_some_lines : FnScope ["bag", "most", "found", "k", "a", "b", "c", "d"] ["bag", "most"] (defScope s_law_some_lines) := ⟨rfl, rfl, rfl, by decide +kernel, rfl, by decide +kernel, by decide +kernel⟩
abbrev s_law_nothing : Stmt := topS 51
theorem sc_law_nothing : FnScope ["act"] ["act"] (defScope s_law_nothing) := ⟨rfl, rfl, rfl, by decide +kernel, rfl, by decide +kernel, by decide +kernel⟩
abbrev s_law_any_values : Stmt := topS 52
theorem sc_law_any_values : FnScope ["envelope", "a", "one", "zero", "good", "bad", "thing"] ["envelope"] (defScope s_law_any_values) := ⟨rfl, rfl, rfl, by decide +kernel, rfl, by decide +kernel, by decide +kernel⟩
abbrev s_law : Stmt := topS 53
theorem sc_law : FnScope ["script", "bag", "lots", "told", "lines", "envelope", "turns", "asked", "m", "one", "other", "low", "high", "line", "bad", "k", "n", "a", "b"] ["script"] (defScope s_law) := ⟨rfl, rfl, rfl, by decide +kernel, rfl, by decide +kernel, by decide +kernel⟩
/-- what the top leaves of names -/
structure Gb (K : PySem.W.Frag) (mg : Str → Option Value) (cl : Cls) : Prop where
  b_abs : mg "abs" = none
  b_all : mg "all" = none
  b_bool : mg "bool" = none
  b_int : mg "int" = none
  b_isinstance : mg "isinstance" = none
  b_len : mg "len" = none
  b_list : mg "list" = none
  b_range : mg "range" = none
  b_tuple : mg "tuple" = none
  b_zip : mg "zip" = none
  g_ZERO : GlobIs K mg "ZERO" k_ZERO
  x_Nothing : Exc0 K mg "Nothing" cl.Nothing
section
variable {P : Program} {w : World} {K : PySem.W.Frag} {mg : Str → Option Value} {base : Heap} {T : List (Addr × Str)} {cl : Cls}
theorem ok_is_whole (E : Gb K mg cl)  {f : Addr} {fd : FuncData} (F : Fun K "is_whole" "is_whole" s_is_whole f fd) : FnOk P w K mg base (L2.CX P w) 1 f fd ["thing"] (spM T K (c_is_whole cl)) :=
  fn_okM (k := 0) F sc_is_whole fun cdv A outer s H Er hr => by
  have nd := sc_is_whole.nd
  exact rs_cons (rs_ret (re_and (re_isi rfl E.b_isinstance bt_isinstance rfl E.b_int bt_int (re_var (pv 0))) (re_one (re_not (re_isi rfl E.b_isinstance bt_isinstance rfl E.b_bool bt_bool (re_var (pv 0)))))))
      (rs_nil)
theorem ok_common_divisor (E : Gb K mg cl)  {f : Addr} {fd : FuncData} (F : Fun K "common_divisor" "common_divisor" s_common_divisor f fd) : FnOk P w K mg base (L2.CX P w) 1 f fd ["one", "other"] (spM T K (c_common_divisor cl)) :=
  fn_okM (k := 0) F sc_common_divisor fun cdv A outer s H Er hr => by
  have nd := sc_common_divisor.nd
  exact rs_cons (rs_par (i := 0) (j := 1) rfl nd rfl rfl (by decide) rfl rfl (ra_cons (re_callB b_abs rfl E.b_abs bt_abs (ra_cons (re_var (pv 0)) (ra_nil))) (ra_cons (re_callB b_abs rfl E.b_abs bt_abs (ra_cons (re_var (pv 1)) (ra_nil))) (ra_nil))))
      (rs_cons (rs_while hp_def (rt_c (c_ne hr) (re_var (pv 1)) (re_int)) (rs_cons (rs_par (i := 0) (j := 1) rfl nd rfl rfl (by decide) rfl rfl (ra_cons (re_var (pv 1)) (ra_cons (re_mod (re_var (pv 0)) (re_var (pv 1))) (ra_nil))))
      (rs_nil)))
      (rs_cons (rs_ret (re_var (pv 0)))
      (rs_nil)))
theorem ok_is_tuple_of (E : Gb K mg cl)  {f : Addr} {fd : FuncData} (F : Fun K "is_tuple_of" "is_tuple_of" s_is_tuple_of f fd) : FnOk P w K mg base (L2.CX P w) 1 f fd ["thing", "many"] (spM T K (c_is_tuple_of cl)) :=
  fn_okM (k := 0) F sc_is_tuple_of fun cdv A outer s H Er hr => by
  have nd := sc_is_tuple_of.nd
  exact rs_cons (rs_ret (re_and (re_isi rfl E.b_isinstance bt_isinstance rfl E.b_tuple bt_tuple (re_var (pv 0))) (re_one (re_c (c_eq hr) (re_callB b_len rfl E.b_len bt_len (ra_cons (re_var (pv 0)) (ra_nil))) (re_var (pv 1))))))
      (rs_nil)
theorem ok_is_fraction (E : Gb K mg cl) (g_common_divisor : FnIs P w K mg base T "common_divisor" 1 ["one", "other"] (c_common_divisor cl)) (g_is_tuple_of : FnIs P w K mg base T "is_tuple_of" 1 ["thing", "many"] (c_is_tuple_of cl)) (g_is_whole : FnIs P w K mg base T "is_whole" 1 ["thing"] (c_is_whole cl)) {f : Addr} {fd : FuncData} (F : Fun K "is_fraction" "is_fraction" s_is_fraction f fd) : FnOk P w K mg base (L2.CX P w) 2 f fd ["thing"] (spM T K (c_is_fraction cl)) :=
  fn_okM (k := 1) F sc_is_fraction fun cdv A outer s H Er hr => by
  have nd := sc_is_fraction.nd
  exact rs_cons (rs_if (L2.PW.pt (rw_or (rt_not (rt_val (re_callF g_is_tuple_of hr (by decide) tk_def rfl (ra_cons (re_var (pv 0)) (ra_cons (re_int) (ra_nil)))))) (rw_or1 (rt_not (rt_val (re_callB (b_all rfl) rfl E.b_all bt_all (ra_cons (re_lc (own := [("part", 1)]) rfl nd (ri_row (re_var (pv 0))) (blkOk_by (by kernel_rfl)) (by decide) (fun _ _ _ _ _ => rg_nm (i := 1) nd rfl (.inl rfl)) (fun _ _ _ _ _ => rts_nil) (fun _ _ _ _ _ => re_callF g_is_whole hr (by decide) takesB rfl (ra_cons (re_var (pv 1)) (ra_nil)))) (ra_nil)))))))) (rs_cons (rs_ret (re_bl))
      (rs_nil)) (rs_nil))
      (rs_cons (rs_ret (re_and (re_c c_ge (re_ix (re_var (pv 0)) (re_int)) (re_int)) (re_one (re_c (c_eq hr) (re_callF g_common_divisor hr (by decide) tk_def rfl (ra_cons (re_ix (re_var (pv 0)) (re_int)) (ra_cons (re_ix (re_var (pv 0)) (re_int)) (ra_nil)))) (re_int)))))
      (rs_nil))
theorem ok_fraction (E : Gb K mg cl) (g_common_divisor : FnIs P w K mg base T "common_divisor" 1 ["one", "other"] (c_common_divisor cl)) {f : Addr} {fd : FuncData} (F : Fun K "fraction" "fraction" s_fraction f fd) : FnOk P w K mg base (L2.CX P w) 2 f fd ["top", "bottom"] (spM T K (c_fraction cl)) :=
  fn_okM (k := 1) F sc_fraction fun cdv A outer s H Er hr => by
  have nd := sc_fraction.nd
  exact rs_cons (rs_if (rt_c (c_eq hr) (re_var (pv 1)) (re_int)) (rs_cons (rs_raise0 E.x_Nothing rfl tk_def rfl)
      (rs_nil)) (rs_nil))
      (rs_cons (rs_asg (re_mul (re_callF g_common_divisor hr (by decide) tk_def rfl (ra_cons (re_var (pv 0)) (ra_cons (re_var (pv 1)) (ra_nil)))) (re_if (rt_c c_gt (re_var (pv 1)) (re_int)) (re_int) (re_neg (re_int)))) (rg_nm (i := 2) nd rfl (.inl rfl)))
      (rs_cons (rs_ret (re_tup (ra_cons (re_div (re_var (pv 0)) (re_var (pv 2))) (ra_cons (re_div (re_var (pv 1)) (re_var (pv 2))) (ra_nil)))))
      (rs_nil)))
theorem ok_plus (E : Gb K mg cl) (g_fraction : FnIs P w K mg base T "fraction" 2 ["top", "bottom"] (c_fraction cl)) {f : Addr} {fd : FuncData} (F : Fun K "plus" "plus" s_plus f fd) : FnOk P w K mg base (L2.CX P w) 3 f fd ["one", "other"] (spM T K (c_plus cl)) :=
  fn_okM (k := 2) F sc_plus fun cdv A outer s H Er hr => by
  have nd := sc_plus.nd
  exact rs_cons (rs_ret (re_callF g_fraction hr (by decide) tk_def rfl (ra_cons (re_add (re_mul (re_ix (re_var (pv 0)) (re_int)) (re_ix (re_var (pv 1)) (re_int))) (re_mul (re_ix (re_var (pv 1)) (re_int)) (re_ix (re_var (pv 0)) (re_int)))) (ra_cons (re_mul (re_ix (re_var (pv 0)) (re_int)) (re_ix (re_var (pv 1)) (re_int))) (ra_nil)))))
      (rs_nil)
theorem ok_less (E : Gb K mg cl) (g_fraction : FnIs P w K mg base T "fraction" 2 ["top", "bottom"] (c_fraction cl)) {f : Addr} {fd : FuncData} (F : Fun K "less" "less" s_less f fd) : FnOk P w K mg base (L2.CX P w) 3 f fd ["one", "other"] (spM T K (c_less cl)) :=
  fn_okM (k := 2) F sc_less fun cdv A outer s H Er hr => by
  have nd := sc_less.nd
  exact rs_cons (rs_ret (re_callF g_fraction hr (by decide) tk_def rfl (ra_cons (re_sub (re_mul (re_ix (re_var (pv 0)) (re_int)) (re_ix (re_var (pv 1)) (re_int))) (re_mul (re_ix (re_var (pv 1)) (re_int)) (re_ix (re_var (pv 0)) (re_int)))) (ra_cons (re_mul (re_ix (re_var (pv 0)) (re_int)) (re_ix (re_var (pv 1)) (re_int))) (ra_nil)))))
      (rs_nil)
theorem ok_times (E : Gb K mg cl) (g_fraction : FnIs P w K mg base T "fraction" 2 ["top", "bottom"] (c_fraction cl)) {f : Addr} {fd : FuncData} (F : Fun K "times" "times" s_times f fd) : FnOk P w K mg base (L2.CX P w) 3 f fd ["one", "other"] (spM T K (c_times cl)) :=
  fn_okM (k := 2) F sc_times fun cdv A outer s H Er hr => by
  have nd := sc_times.nd
  exact rs_cons (rs_ret (re_callF g_fraction hr (by decide) tk_def rfl (ra_cons (re_mul (re_ix (re_var (pv 0)) (re_int)) (re_ix (re_var (pv 1)) (re_int))) (ra_cons (re_mul (re_ix (re_var (pv 0)) (re_int)) (re_ix (re_var (pv 1)) (re_int))) (ra_nil)))))
      (rs_nil)
theorem ok_over (E : Gb K mg cl) (g_fraction : FnIs P w K mg base T "fraction" 2 ["top", "bottom"] (c_fraction cl)) {f : Addr} {fd : FuncData} (F : Fun K "over" "over" s_over f fd) : FnOk P w K mg base (L2.CX P w) 3 f fd ["one", "other"] (spM T K (c_over cl)) :=
  fn_okM (k := 2) F sc_over fun cdv A outer s H Er hr => by
  have nd := sc_over.nd
  exact rs_cons (rs_ret (re_callF g_fraction hr (by decide) tk_def rfl (ra_cons (re_mul (re_ix (re_var (pv 0)) (re_int)) (re_ix (re_var (pv 1)) (re_int))) (ra_cons (re_mul (re_ix (re_var (pv 0)) (re_int)) (re_ix (re_var (pv 1)) (re_int))) (ra_nil)))))
      (rs_nil)
theorem ok_sign (E : Gb K mg cl)  {f : Addr} {fd : FuncData} (F : Fun K "sign" "sign" s_sign f fd) : FnOk P w K mg base (L2.CX P w) 1 f fd ["one"] (spM T K (c_sign cl)) :=
  fn_okM (k := 0) F sc_sign fun cdv A outer s H Er hr => by
  have nd := sc_sign.nd
  exact rs_cons (rs_ret (re_sub (re_c c_gt (re_ix (re_var (pv 0)) (re_int)) (re_int)) (re_c c_lt (re_ix (re_var (pv 0)) (re_int)) (re_int))))
      (rs_nil)
theorem ok_compare (E : Gb K mg cl) (g_sign : FnIs P w K mg base T "sign" 1 ["one"] (c_sign cl)) {f : Addr} {fd : FuncData} (F : Fun K "compare" "compare" s_compare f fd) : FnOk P w K mg base (L2.CX P w) 2 f fd ["one", "other"] (spM T K (c_compare cl)) :=
  fn_okM (k := 1) F sc_compare fun cdv A outer s H Er hr => by
  have nd := sc_compare.nd
  exact rs_cons (rs_ret (re_callF g_sign hr (by decide) tk_def rfl (ra_cons (re_tup (ra_cons (re_sub (re_mul (re_ix (re_var (pv 0)) (re_int)) (re_ix (re_var (pv 1)) (re_int))) (re_mul (re_ix (re_var (pv 1)) (re_int)) (re_ix (re_var (pv 0)) (re_int)))) (ra_cons (re_int) (ra_nil)))) (ra_nil))))
      (rs_nil)
theorem ok_line_at (E : Gb K mg cl) (g_plus : FnIs P w K mg base T "plus" 3 ["one", "other"] (c_plus cl)) (g_times : FnIs P w K mg base T "times" 3 ["one", "other"] (c_times cl)) {f : Addr} {fd : FuncData} (F : Fun K "line_at" "line_at" s_line_at f fd) : FnOk P w K mg base (L2.CX P w) 4 f fd ["line", "m"] (spM T K (c_line_at cl)) :=
  fn_okM (k := 3) F sc_line_at fun cdv A outer s H Er hr => by
  have nd := sc_line_at.nd
  exact rs_cons (rs_ret (re_callF g_plus hr (by decide) tk_def rfl (ra_cons (re_ix (re_var (pv 0)) (re_int)) (ra_cons (re_callF g_times hr (by decide) tk_def rfl (ra_cons (re_ix (re_var (pv 0)) (re_int)) (ra_cons (re_var (pv 1)) (ra_nil)))) (ra_nil)))))
      (rs_nil)
theorem ok_is_below (E : Gb K mg cl) (g_compare : FnIs P w K mg base T "compare" 2 ["one", "other"] (c_compare cl)) {f : Addr} {fd : FuncData} (F : Fun K "is_below" "is_below" s_is_below f fd) : FnOk P w K mg base (L2.CX P w) 3 f fd ["one", "other"] (spM T K (c_is_below cl)) :=
  fn_okM (k := 2) F sc_is_below fun cdv A outer s H Er hr => by
  have nd := sc_is_below.nd
  exact rs_cons (rs_asg (re_callF g_compare hr (by decide) tk_def rfl (ra_cons (re_ix (re_var (pv 0)) (re_int)) (ra_cons (re_ix (re_var (pv 1)) (re_int)) (ra_nil)))) (rg_nm (i := 2) nd rfl (.inl rfl)))
      (rs_cons (rs_ret (re_or (re_c c_lt (re_var (pv 2)) (re_int)) (re_one (re_and (re_c (c_eq hr) (re_var (pv 2)) (re_int)) (re_one (re_c c_lt (re_callF g_compare hr (by decide) tk_def rfl (ra_cons (re_ix (re_var (pv 0)) (re_int)) (ra_cons (re_ix (re_var (pv 1)) (re_int)) (ra_nil)))) (re_int)))))))
      (rs_nil))
theorem ok_first_line (E : Gb K mg cl) (g_is_below : FnIs P w K mg base T "is_below" 3 ["one", "other"] (c_is_below cl)) {f : Addr} {fd : FuncData} (F : Fun K "first_line" "first_line" s_first_line f fd) : FnOk P w K mg base (L2.CX P w) 4 f fd ["lines"] (spM T K (c_first_line cl)) :=
  fn_okM (k := 3) F sc_first_line fun cdv A outer s H Er hr => by
  have nd := sc_first_line.nd
  exact rs_cons (rs_asg (re_ix (re_var (pv 0)) (re_int)) (rg_nm (i := 1) nd rfl (.inl rfl)))
      (rs_cons (rs_for hp_def rfl (ri_row (re_sl (re_var (pv 0)) (ro_some (re_int)) (ro_none))) (rg_nm (i := 2) nd rfl (.inl rfl)) (rs_cons (rs_asg (re_if (rt_val (re_callF g_is_below hr (by decide) tk_def rfl (ra_cons (re_var (pv 2)) (ra_cons (re_var (pv 1)) (ra_nil))))) (re_var (pv 2)) (re_var (pv 1))) (rg_nm (i := 1) nd rfl (.inl rfl)))
      (rs_nil)))
      (rs_cons (rs_ret (re_var (pv 1)))
      (rs_nil)))
theorem ok_next_row (E : Gb K mg cl) (g_compare : FnIs P w K mg base T "compare" 2 ["one", "other"] (c_compare cl)) (g_less : FnIs P w K mg base T "less" 3 ["one", "other"] (c_less cl)) (g_over : FnIs P w K mg base T "over" 3 ["one", "other"] (c_over cl)) {f : Addr} {fd : FuncData} (F : Fun K "next_row" "next_row" s_next_row f fd) : FnOk P w K mg base (L2.CX P w) 4 f fd ["line", "lines"] (spM T K (c_next_row cl)) :=
  fn_okM (k := 3) F sc_next_row fun cdv A outer s H Er hr => by
  have nd := sc_next_row.nd
  exact rs_cons (rs_asg (re_non) (rg_nm (i := 2) nd rfl (.inl rfl)))
      (rs_cons (rs_for hp_def rfl (ri_row (re_var (pv 1))) (rg_nm (i := 3) nd rfl (.inl rfl)) (rs_cons (rs_if (rt_c c_lt (re_callF g_compare hr (by decide) tk_def rfl (ra_cons (re_ix (re_var (pv 3)) (re_int)) (ra_cons (re_ix (re_var (pv 0)) (re_int)) (ra_nil)))) (re_int)) (rs_cons (rs_asg (re_callF g_over hr (by decide) tk_def rfl (ra_cons (re_callF g_less hr (by decide) tk_def rfl (ra_cons (re_ix (re_var (pv 3)) (re_int)) (ra_cons (re_ix (re_var (pv 0)) (re_int)) (ra_nil)))) (ra_cons (re_callF g_less hr (by decide) tk_def rfl (ra_cons (re_ix (re_var (pv 0)) (re_int)) (ra_cons (re_ix (re_var (pv 3)) (re_int)) (ra_nil)))) (ra_nil)))) (rg_nm (i := 4) nd rfl (.inl rfl)))
      (rs_cons (rs_asg (re_if (rt_c c_is (re_var (pv 2)) (re_non)) (re_neg (re_int)) (re_callF g_compare hr (by decide) tk_def rfl (ra_cons (re_var (pv 4)) (ra_cons (re_ix (re_var (pv 2)) (re_int)) (ra_nil))))) (rg_nm (i := 5) nd rfl (.inl rfl)))
      (rs_cons (rs_if (L2.PW.pt (rw_or (rt_c c_lt (re_var (pv 5)) (re_int)) (rw_or1 (L2.PW.pt (rw_and (rt_c (c_eq hr) (re_var (pv 5)) (re_int)) (rw_and1 (rt_c c_lt (re_callF g_compare hr (by decide) tk_def rfl (ra_cons (re_ix (re_var (pv 3)) (re_int)) (ra_cons (re_ix (re_ix (re_var (pv 2)) (re_int)) (re_int)) (ra_nil)))) (re_int)))))))) (rs_cons (rs_asg (re_tup (ra_cons (re_var (pv 4)) (ra_cons (re_var (pv 3)) (ra_nil)))) (rg_nm (i := 2) nd rfl (.inl rfl)))
      (rs_nil)) (rs_nil))
      (rs_nil)))) (rs_nil))
      (rs_nil)))
      (rs_cons (rs_ret (re_var (pv 2)))
      (rs_nil)))
theorem ok_lowest (E : Gb K mg cl) (g_first_line : FnIs P w K mg base T "first_line" 4 ["lines"] (c_first_line cl)) (g_next_row : FnIs P w K mg base T "next_row" 4 ["line", "lines"] (c_next_row cl)) {f : Addr} {fd : FuncData} (F : Fun K "lowest" "lowest" s_lowest f fd) : FnOk P w K mg base (L2.CX P w) 5 f fd ["lines"] (spM T K (c_lowest cl)) :=
  fn_okM (k := 4) F sc_lowest fun cdv A outer s H Er hr => by
  have nd := sc_lowest.nd
  exact rs_cons (rs_asg (re_lst (ra_cons (re_tup (ra_cons (re_glob E.g_ZERO rfl) (ra_cons (re_callF g_first_line hr (by decide) tk_def rfl (ra_cons (re_var (pv 0)) (ra_nil))) (ra_nil)))) (ra_nil))) (rg_nm (i := 1) nd rfl (.inl rfl)))
      (rs_cons (rs_asg (re_callF g_next_row hr (by decide) tk_def rfl (ra_cons (re_ix (re_ix (re_var (pv 1)) (re_neg (re_int))) (re_int)) (ra_cons (re_var (pv 0)) (ra_nil)))) (rg_nm (i := 2) nd rfl (.inl rfl)))
      (rs_cons (rs_while hp_def (rt_c c_isNot (re_var (pv 2)) (re_non)) (rs_cons (rs_expr (re_append (re_var (pv 1)) (ra_cons (re_var (pv 2)) (ra_nil))))
      (rs_cons (rs_asg (re_callF g_next_row hr (by decide) tk_def rfl (ra_cons (re_ix (re_var (pv 2)) (re_int)) (ra_cons (re_var (pv 0)) (ra_nil)))) (rg_nm (i := 2) nd rfl (.inl rfl)))
      (rs_nil))))
      (rs_cons (rs_ret (re_callTy b_tuple rfl E.b_tuple bt_tuple (ra_cons (re_var (pv 1)) (ra_nil))))
      (rs_nil))))
theorem ok_value_on (E : Gb K mg cl) (g_compare : FnIs P w K mg base T "compare" 2 ["one", "other"] (c_compare cl)) (g_is_fraction : FnIs P w K mg base T "is_fraction" 2 ["thing"] (c_is_fraction cl)) (g_line_at : FnIs P w K mg base T "line_at" 4 ["line", "m"] (c_line_at cl)) (g_sign : FnIs P w K mg base T "sign" 1 ["one"] (c_sign cl)) {f : Addr} {fd : FuncData} (F : Fun K "value_on" "value_on" s_value_on f fd) : FnOk P w K mg base (L2.CX P w) 5 f fd ["envelope", "m"] (spM T K (c_value_on cl)) :=
  fn_okM (k := 4) F sc_value_on fun cdv A outer s H Er hr => by
  have nd := sc_value_on.nd
  exact rs_cons (rs_if (L2.PW.pt (rw_or (rt_not (rt_val (re_callF g_is_fraction hr (by decide) tk_def rfl (ra_cons (re_var (pv 1)) (ra_nil))))) (rw_or1 (rt_c c_lt (re_callF g_sign hr (by decide) tk_def rfl (ra_cons (re_var (pv 1)) (ra_nil))) (re_int))))) (rs_cons (rs_raise0 E.x_Nothing rfl tk_def rfl)
      (rs_nil)) (rs_nil))
      (rs_cons (rs_asg (re_ix (re_ix (re_var (pv 0)) (re_int)) (re_int)) (rg_nm (i := 2) nd rfl (.inl rfl)))
      (rs_cons (rs_for hp_def rfl (ri_row (re_var (pv 0))) (rg_tp rfl (rgs_cons (rg_nm (i := 3) nd rfl (.inl rfl)) (rgs_cons (rg_nm (i := 4) nd rfl (.inl rfl)) (rgs_nil)))) (rs_cons (rs_asg (re_if (rt_c c_le (re_callF g_compare hr (by decide) tk_def rfl (ra_cons (re_var (pv 3)) (ra_cons (re_var (pv 1)) (ra_nil)))) (re_int)) (re_var (pv 4)) (re_var (pv 2))) (rg_nm (i := 2) nd rfl (.inl rfl)))
      (rs_nil)))
      (rs_cons (rs_ret (re_callF g_line_at hr (by decide) tk_def rfl (ra_cons (re_var (pv 2)) (ra_cons (re_var (pv 1)) (ra_nil)))))
      (rs_nil))))
theorem ok_lines_of (E : Gb K mg cl)  {f : Addr} {fd : FuncData} (F : Fun K "lines_of" "lines_of" s_lines_of f fd) : FnOk P w K mg base (L2.CX P w) 1 f fd ["envelope"] (spM T K (c_lines_of cl)) :=
  fn_okM (k := 0) F sc_lines_of fun cdv A outer s H Er hr => by
  have nd := sc_lines_of.nd
  exact rs_cons (rs_ret (re_lc (own := [("begin", 1), ("line", 2)]) rfl nd (ri_row (re_var (pv 0))) (blkOk_by (by kernel_rfl)) (by decide) (fun _ _ _ _ _ => rg_tp rfl (rgs_cons (rg_nm (i := 1) nd rfl (.inl rfl)) (rgs_cons (rg_nm (i := 2) nd rfl (.inl rfl)) (rgs_nil)))) (fun _ _ _ _ _ => rts_nil) (fun _ _ _ _ _ => re_var (pv 2))))
      (rs_nil)
theorem ok_least_of_two (E : Gb K mg cl) (g_lines_of : FnIs P w K mg base T "lines_of" 1 ["envelope"] (c_lines_of cl)) (g_lowest : FnIs P w K mg base T "lowest" 5 ["lines"] (c_lowest cl)) {f : Addr} {fd : FuncData} (F : Fun K "least_of_two" "least_of_two" s_least_of_two f fd) : FnOk P w K mg base (L2.CX P w) 6 f fd ["one", "other"] (spM T K (c_least_of_two cl)) :=
  fn_okM (k := 5) F sc_least_of_two fun cdv A outer s H Er hr => by
  have nd := sc_least_of_two.nd
  exact rs_cons (rs_ret (re_callF g_lowest hr (by decide) tk_def rfl (ra_cons (re_add (re_callF g_lines_of hr (by decide) tk_def rfl (ra_cons (re_var (pv 0)) (ra_nil))) (re_callF g_lines_of hr (by decide) tk_def rfl (ra_cons (re_var (pv 1)) (ra_nil)))) (ra_nil))))
      (rs_nil)
theorem ok_added_line (E : Gb K mg cl) (g_plus : FnIs P w K mg base T "plus" 3 ["one", "other"] (c_plus cl)) {f : Addr} {fd : FuncData} (F : Fun K "added_line" "added_line" s_added_line f fd) : FnOk P w K mg base (L2.CX P w) 4 f fd ["envelope", "line"] (spM T K (c_added_line cl)) :=
  fn_okM (k := 3) F sc_added_line fun cdv A outer s H Er hr => by
  have nd := sc_added_line.nd
  exact rs_cons (rs_ret (re_callTy b_tuple rfl E.b_tuple bt_tuple (ra_cons (re_lc (own := [("begin", 2), ("its", 3)]) rfl nd (ri_row (re_var (pv 0))) (blkOk_by (by kernel_rfl)) (by decide) (fun _ _ _ _ _ => rg_tp rfl (rgs_cons (rg_nm (i := 2) nd rfl (.inl rfl)) (rgs_cons (rg_nm (i := 3) nd rfl (.inl rfl)) (rgs_nil)))) (fun _ _ _ _ _ => rts_nil) (fun _ _ _ _ _ => re_tup (ra_cons (re_var (pv 2)) (ra_cons (re_tup (ra_cons (re_callF g_plus hr (by decide) takesB rfl (ra_cons (re_ix (re_var (pv 3)) (re_int)) (ra_cons (re_ix (re_var (pv 1)) (re_int)) (ra_nil)))) (ra_cons (re_callF g_plus hr (by decide) takesB rfl (ra_cons (re_ix (re_var (pv 3)) (re_int)) (ra_cons (re_ix (re_var (pv 1)) (re_int)) (ra_nil)))) (ra_nil)))) (ra_nil))))) (ra_nil))))
      (rs_nil)
theorem ok_is_row (E : Gb K mg cl) (g_is_fraction : FnIs P w K mg base T "is_fraction" 2 ["thing"] (c_is_fraction cl)) (g_is_tuple_of : FnIs P w K mg base T "is_tuple_of" 1 ["thing", "many"] (c_is_tuple_of cl)) (g_sign : FnIs P w K mg base T "sign" 1 ["one"] (c_sign cl)) {f : Addr} {fd : FuncData} (F : Fun K "is_row" "is_row" s_is_row f fd) : FnOk P w K mg base (L2.CX P w) 3 f fd ["thing"] (spM T K (c_is_row cl)) :=
  fn_okM (k := 2) F sc_is_row fun cdv A outer s H Er hr => by
  have nd := sc_is_row.nd
  exact rs_cons (rs_if (L2.PW.pt (rw_or (rt_not (rt_val (re_callF g_is_tuple_of hr (by decide) tk_def rfl (ra_cons (re_var (pv 0)) (ra_cons (re_int) (ra_nil)))))) (rw_or (rt_not (rt_val (re_callF g_is_fraction hr (by decide) tk_def rfl (ra_cons (re_ix (re_var (pv 0)) (re_int)) (ra_nil))))) (rw_or1 (rt_not (rt_val (re_callF g_is_tuple_of hr (by decide) tk_def rfl (ra_cons (re_ix (re_var (pv 0)) (re_int)) (ra_cons (re_int) (ra_nil)))))))))) (rs_cons (rs_ret (re_bl))
      (rs_nil)) (rs_nil))
      (rs_cons (rs_ret (re_and (re_callB (b_all rfl) rfl E.b_all bt_all (ra_cons (re_lc (own := [("part", 1)]) rfl nd (ri_row (re_ix (re_var (pv 0)) (re_int))) (blkOk_by (by kernel_rfl)) (by decide) (fun _ _ _ _ _ => rg_nm (i := 1) nd rfl (.inl rfl)) (fun _ _ _ _ _ => rts_nil) (fun _ _ _ _ _ => re_callF g_is_fraction hr (by decide) takesB rfl (ra_cons (re_var (pv 1)) (ra_nil)))) (ra_nil))) (re_one (re_c c_ge (re_callF g_sign hr (by decide) tk_def rfl (ra_cons (re_ix (re_ix (re_var (pv 0)) (re_int)) (re_int)) (ra_nil))) (re_int)))))
      (rs_nil))
theorem ok_is_behind (E : Gb K mg cl) (g_compare : FnIs P w K mg base T "compare" 2 ["one", "other"] (c_compare cl)) (g_line_at : FnIs P w K mg base T "line_at" 4 ["line", "m"] (c_line_at cl)) {f : Addr} {fd : FuncData} (F : Fun K "is_behind" "is_behind" s_is_behind f fd) : FnOk P w K mg base (L2.CX P w) 5 f fd ["one", "other"] (spM T K (c_is_behind cl)) :=
  fn_okM (k := 4) F sc_is_behind fun cdv A outer s H Er hr => by
  have nd := sc_is_behind.nd
  exact rs_cons (rs_if (L2.PW.pt (rw_or (rt_c c_ge (re_callF g_compare hr (by decide) tk_def rfl (ra_cons (re_ix (re_var (pv 0)) (re_int)) (ra_cons (re_ix (re_var (pv 1)) (re_int)) (ra_nil)))) (re_int)) (rw_or1 (rt_c c_ge (re_callF g_compare hr (by decide) tk_def rfl (ra_cons (re_ix (re_ix (re_var (pv 1)) (re_int)) (re_int)) (ra_cons (re_ix (re_ix (re_var (pv 0)) (re_int)) (re_int)) (ra_nil)))) (re_int))))) (rs_cons (rs_ret (re_bl))
      (rs_nil)) (rs_nil))
      (rs_cons (rs_ret (re_c (c_eq hr) (re_callF g_line_at hr (by decide) tk_def rfl (ra_cons (re_ix (re_var (pv 0)) (re_int)) (ra_cons (re_ix (re_var (pv 1)) (re_int)) (ra_nil)))) (re_callF g_line_at hr (by decide) tk_def rfl (ra_cons (re_ix (re_var (pv 1)) (re_int)) (ra_cons (re_ix (re_var (pv 1)) (re_int)) (ra_nil))))))
      (rs_nil))
theorem ok_is_envelope (E : Gb K mg cl) (g_is_behind : FnIs P w K mg base T "is_behind" 5 ["one", "other"] (c_is_behind cl)) (g_is_row : FnIs P w K mg base T "is_row" 3 ["thing"] (c_is_row cl)) {f : Addr} {fd : FuncData} (F : Fun K "is_envelope" "is_envelope" s_is_envelope f fd) : FnOk P w K mg base (L2.CX P w) 6 f fd ["thing"] (spM T K (c_is_envelope cl)) :=
  fn_okM (k := 5) F sc_is_envelope fun cdv A outer s H Er hr => by
  have nd := sc_is_envelope.nd
  exact rs_cons (rs_if (L2.PW.pt (rw_or (rt_not (rt_val (re_isi rfl E.b_isinstance bt_isinstance rfl E.b_tuple bt_tuple (re_var (pv 0))))) (rw_or (rt_c (c_eq hr) (re_var (pv 0)) (re_tup (ra_nil))) (rw_or1 (rt_not (rt_val (re_callB (b_all rfl) rfl E.b_all bt_all (ra_cons (re_lc (own := [("row", 1)]) rfl nd (ri_row (re_var (pv 0))) (blkOk_by (by kernel_rfl)) (by decide) (fun _ _ _ _ _ => rg_nm (i := 1) nd rfl (.inl rfl)) (fun _ _ _ _ _ => rts_nil) (fun _ _ _ _ _ => re_callF g_is_row hr (by decide) takesB rfl (ra_cons (re_var (pv 1)) (ra_nil)))) (ra_nil))))))))) (rs_cons (rs_ret (re_bl))
      (rs_nil)) (rs_nil))
      (rs_cons (rs_ret (re_and (re_c (c_eq hr) (re_ix (re_ix (re_var (pv 0)) (re_int)) (re_int)) (re_glob E.g_ZERO rfl)) (re_one (re_callB (b_all rfl) rfl E.b_all bt_all (ra_cons (re_lc (own := [("one", 2), ("other", 3)]) rfl nd (ri_zip rfl E.b_zip (ra_cons (re_var (pv 0)) (ra_cons (re_sl (re_var (pv 0)) (ro_some (re_int)) (ro_none)) (ra_nil)))) (blkOk_by (by kernel_rfl)) (by decide) (fun _ _ _ _ _ => rg_tp rfl (rgs_cons (rg_nm (i := 2) nd rfl (.inl rfl)) (rgs_cons (rg_nm (i := 3) nd rfl (.inl rfl)) (rgs_nil)))) (fun _ _ _ _ _ => rts_nil) (fun _ _ _ _ _ => re_callF g_is_behind hr (by decide) takesB rfl (ra_cons (re_var (pv 2)) (ra_cons (re_var (pv 3)) (ra_nil))))) (ra_nil))))))
      (rs_nil))
theorem ok_turns_of (E : Gb K mg cl)  {f : Addr} {fd : FuncData} (F : Fun K "turns_of" "turns_of" s_turns_of f fd) : FnOk P w K mg base (L2.CX P w) 1 f fd ["envelope"] (spM T K (c_turns_of cl)) :=
  fn_okM (k := 0) F sc_turns_of fun cdv A outer s H Er hr => by
  have nd := sc_turns_of.nd
  exact rs_cons (rs_ret (re_callTy b_tuple rfl E.b_tuple bt_tuple (ra_cons (re_lc (own := [("begin", 1), ("line", 2)]) rfl nd (ri_row (re_sl (re_var (pv 0)) (ro_some (re_int)) (ro_none))) (blkOk_by (by kernel_rfl)) (by decide) (fun _ _ _ _ _ => rg_tp rfl (rgs_cons (rg_nm (i := 1) nd rfl (.inl rfl)) (rgs_cons (rg_nm (i := 2) nd rfl (.inl rfl)) (rgs_nil)))) (fun _ _ _ _ _ => rts_nil) (fun _ _ _ _ _ => re_var (pv 1))) (ra_nil))))
      (rs_nil)
theorem ok_law_q (E : Gb K mg cl)  {f : Addr} {fd : FuncData} (F : Fun K "_law_q" "_law_q" s_law_q f fd) : FnOk P w K mg base (L2.CX P w) 1 f fd ["top", "bottom"] (spM T K (c_law_q cl)) :=
  fn_okM (k := 0) F sc_law_q fun cdv A outer s H Er hr => by
  have nd := sc_law_q.nd
  exact rs_cons (rs_par (i := 2) (j := 3) rfl nd rfl rfl (by decide) rfl rfl (ra_cons (re_callB b_abs rfl E.b_abs bt_abs (ra_cons (re_var (pv 0)) (ra_nil))) (ra_cons (re_callB b_abs rfl E.b_abs bt_abs (ra_cons (re_var (pv 1)) (ra_nil))) (ra_nil))))
      (rs_cons (rs_for hp_def rfl (ri_range1 rfl E.b_range (ra_cons (re_int) (ra_nil))) (rg_nm (i := 4) nd rfl (.inl rfl)) (rs_cons (rs_if (rt_c (c_eq hr) (re_var (pv 3)) (re_int)) (rs_cons (rs_break)
      (rs_nil)) (rs_nil))
      (rs_cons (rs_par (i := 2) (j := 3) rfl nd rfl rfl (by decide) rfl rfl (ra_cons (re_var (pv 3)) (ra_cons (re_mod (re_callTy b_int rfl E.b_int bt_int (ra_cons (re_var (pv 2)) (ra_nil))) (re_callTy b_int rfl E.b_int bt_int (ra_cons (re_var (pv 3)) (ra_nil)))) (ra_nil))))
      (rs_nil))))
      (rs_cons (rs_asg (re_if (rt_c c_gt (re_var (pv 1)) (re_int)) (re_var (pv 2)) (re_sub (re_int) (re_var (pv 2)))) (rg_nm (i := 2) nd rfl (.inl rfl)))
      (rs_cons (rs_ret (re_tup (ra_cons (re_div (re_var (pv 0)) (re_var (pv 2))) (ra_cons (re_div (re_var (pv 1)) (re_var (pv 2))) (ra_nil)))))
      (rs_nil))))
theorem ok_law_add (E : Gb K mg cl) (g_law_q : FnIs P w K mg base T "_law_q" 1 ["top", "bottom"] (c_law_q cl)) {f : Addr} {fd : FuncData} (F : Fun K "_law_add" "_law_add" s_law_add f fd) : FnOk P w K mg base (L2.CX P w) 2 f fd ["one", "other"] (spM T K (c_law_add cl)) :=
  fn_okM (k := 1) F sc_law_add fun cdv A outer s H Er hr => by
  have nd := sc_law_add.nd
  exact rs_cons (rs_ret (re_callF g_law_q hr (by decide) tk_def rfl (ra_cons (re_add (re_mul (re_ix (re_var (pv 0)) (re_int)) (re_ix (re_var (pv 1)) (re_int))) (re_mul (re_ix (re_var (pv 1)) (re_int)) (re_ix (re_var (pv 0)) (re_int)))) (ra_cons (re_mul (re_ix (re_var (pv 0)) (re_int)) (re_ix (re_var (pv 1)) (re_int))) (ra_nil)))))
      (rs_nil)
theorem ok_law_neg (E : Gb K mg cl)  {f : Addr} {fd : FuncData} (F : Fun K "_law_neg" "_law_neg" s_law_neg f fd) : FnOk P w K mg base (L2.CX P w) 1 f fd ["one"] (spM T K (c_law_neg cl)) :=
  fn_okM (k := 0) F sc_law_neg fun cdv A outer s H Er hr => by
  have nd := sc_law_neg.nd
  exact rs_cons (rs_ret (re_tup (ra_cons (re_sub (re_int) (re_ix (re_var (pv 0)) (re_int))) (ra_cons (re_ix (re_var (pv 0)) (re_int)) (ra_nil)))))
      (rs_nil)
theorem ok_law_sub (E : Gb K mg cl) (g_law_add : FnIs P w K mg base T "_law_add" 2 ["one", "other"] (c_law_add cl)) (g_law_neg : FnIs P w K mg base T "_law_neg" 1 ["one"] (c_law_neg cl)) {f : Addr} {fd : FuncData} (F : Fun K "_law_sub" "_law_sub" s_law_sub f fd) : FnOk P w K mg base (L2.CX P w) 3 f fd ["one", "other"] (spM T K (c_law_sub cl)) :=
  fn_okM (k := 2) F sc_law_sub fun cdv A outer s H Er hr => by
  have nd := sc_law_sub.nd
  exact rs_cons (rs_ret (re_callF g_law_add hr (by decide) tk_def rfl (ra_cons (re_var (pv 0)) (ra_cons (re_callF g_law_neg hr (by decide) tk_def rfl (ra_cons (re_var (pv 1)) (ra_nil))) (ra_nil)))))
      (rs_nil)
theorem ok_law_mul (E : Gb K mg cl) (g_law_q : FnIs P w K mg base T "_law_q" 1 ["top", "bottom"] (c_law_q cl)) {f : Addr} {fd : FuncData} (F : Fun K "_law_mul" "_law_mul" s_law_mul f fd) : FnOk P w K mg base (L2.CX P w) 2 f fd ["one", "other"] (spM T K (c_law_mul cl)) :=
  fn_okM (k := 1) F sc_law_mul fun cdv A outer s H Er hr => by
  have nd := sc_law_mul.nd
  exact rs_cons (rs_ret (re_callF g_law_q hr (by decide) tk_def rfl (ra_cons (re_mul (re_ix (re_var (pv 0)) (re_int)) (re_ix (re_var (pv 1)) (re_int))) (ra_cons (re_mul (re_ix (re_var (pv 0)) (re_int)) (re_ix (re_var (pv 1)) (re_int))) (ra_nil)))))
      (rs_nil)
theorem ok_law_div (E : Gb K mg cl) (g_law_q : FnIs P w K mg base T "_law_q" 1 ["top", "bottom"] (c_law_q cl)) {f : Addr} {fd : FuncData} (F : Fun K "_law_div" "_law_div" s_law_div f fd) : FnOk P w K mg base (L2.CX P w) 2 f fd ["one", "other"] (spM T K (c_law_div cl)) :=
  fn_okM (k := 1) F sc_law_div fun cdv A outer s H Er hr => by
  have nd := sc_law_div.nd
  exact rs_cons (rs_ret (re_callF g_law_q hr (by decide) tk_def rfl (ra_cons (re_mul (re_ix (re_var (pv 0)) (re_int)) (re_ix (re_var (pv 1)) (re_int))) (ra_cons (re_mul (re_ix (re_var (pv 0)) (re_int)) (re_ix (re_var (pv 1)) (re_int))) (ra_nil)))))
      (rs_nil)
theorem ok_law_cmp (E : Gb K mg cl)  {f : Addr} {fd : FuncData} (F : Fun K "_law_cmp" "_law_cmp" s_law_cmp f fd) : FnOk P w K mg base (L2.CX P w) 1 f fd ["one", "other"] (spM T K (c_law_cmp cl)) :=
  fn_okM (k := 0) F sc_law_cmp fun cdv A outer s H Er hr => by
  have nd := sc_law_cmp.nd
  exact rs_cons (rs_ret (re_sub (re_mul (re_ix (re_var (pv 0)) (re_int)) (re_ix (re_var (pv 1)) (re_int))) (re_mul (re_ix (re_var (pv 1)) (re_int)) (re_ix (re_var (pv 0)) (re_int)))))
      (rs_nil)
theorem ok_law_min (E : Gb K mg cl) (g_law_cmp : FnIs P w K mg base T "_law_cmp" 1 ["one", "other"] (c_law_cmp cl)) {f : Addr} {fd : FuncData} (F : Fun K "_law_min" "_law_min" s_law_min f fd) : FnOk P w K mg base (L2.CX P w) 2 f fd ["things"] (spM T K (c_law_min cl)) :=
  fn_okM (k := 1) F sc_law_min fun cdv A outer s H Er hr => by
  have nd := sc_law_min.nd
  exact rs_cons (rs_asg (re_ix (re_var (pv 0)) (re_int)) (rg_nm (i := 1) nd rfl (.inl rfl)))
      (rs_cons (rs_for hp_def rfl (ri_row (re_var (pv 0))) (rg_nm (i := 2) nd rfl (.inl rfl)) (rs_cons (rs_asg (re_if (rt_c c_lt (re_callF g_law_cmp hr (by decide) tk_def rfl (ra_cons (re_var (pv 2)) (ra_cons (re_var (pv 1)) (ra_nil)))) (re_int)) (re_var (pv 2)) (re_var (pv 1))) (rg_nm (i := 1) nd rfl (.inl rfl)))
      (rs_nil)))
      (rs_cons (rs_ret (re_var (pv 1)))
      (rs_nil)))
theorem ok_law_take (E : Gb K mg cl)  {f : Addr} {fd : FuncData} (F : Fun K "_law_take" "_law_take" s_law_take f fd) : FnOk P w K mg base (L2.CX P w) 1 f fd ["bag", "many"] (spM T K (c_law_take cl)) :=
  fn_okM (k := 0) F sc_law_take fun cdv A outer s H Er hr => by
  have nd := sc_law_take.nd
  exact rs_cons (rs_if (rt_c (c_eq hr) (re_ix (re_var (pv 0)) (re_int)) (re_int)) (rs_cons (rs_asg (re_ix (re_add (re_sl (re_ix (re_var (pv 0)) (re_int)) (ro_some (re_ix (re_var (pv 0)) (re_int))) (ro_none)) (re_lst (ra_cons (re_int) (ra_nil)))) (re_int)) (rg_nm (i := 2) nd rfl (.inl rfl)))
      (rs_cons (rs_augIxAdd (re_var (pv 0)) (re_int) (re_int))
      (rs_cons (rs_if (rt_c c_ge (re_var (pv 2)) (re_pow (re_int) (re_int))) (rs_cons (rs_setIx (re_var (pv 2)) (re_var (pv 0)) (re_int))
      (rs_nil)) (rs_nil))
      (rs_cons (rs_asg (re_add (re_add (re_mul (re_ix (re_var (pv 0)) (re_int)) (re_int)) (re_mod (re_callTy b_int rfl E.b_int bt_int (ra_cons (re_var (pv 2)) (ra_nil))) (re_int))) (re_mul (re_int) (re_ix (re_var (pv 0)) (re_int)))) (rg_nm (i := 3) nd rfl (.inl rfl)))
      (rs_cons (rs_setIx (re_mod (re_callTy b_int rfl E.b_int bt_int (ra_cons (re_var (pv 3)) (ra_nil))) (re_int)) (re_var (pv 0)) (re_int))
      (rs_nil)))))) (rs_nil))
      (rs_cons (rs_if (rt_c c_gt (re_ix (re_var (pv 0)) (re_int)) (re_int)) (rs_cons (rs_asg (re_mod (re_callTy b_int rfl E.b_int bt_int (ra_cons (re_ix (re_var (pv 0)) (re_int)) (ra_nil))) (re_var (pv 1))) (rg_nm (i := 4) nd rfl (.inl rfl)))
      (rs_cons (rs_setIx (re_div (re_callTy b_int rfl E.b_int bt_int (ra_cons (re_ix (re_var (pv 0)) (re_int)) (ra_nil))) (re_var (pv 1))) (re_var (pv 0)) (re_int))
      (rs_cons (rs_ret (re_var (pv 4)))
      (rs_nil)))) (rs_nil))
      (rs_cons (rs_asg (re_mod (re_callTy b_int rfl E.b_int bt_int (ra_cons (re_mul (re_add (re_ix (re_var (pv 0)) (re_int)) (re_int)) (re_int)) (ra_nil))) (re_int)) (rg_nm (i := 5) nd rfl (.inl rfl)))
      (rs_cons (rs_asg (re_mod (re_callTy b_int rfl E.b_int bt_int (ra_cons (re_mul (re_mod (re_callTy b_int rfl E.b_int bt_int (ra_cons (re_mul (re_var (pv 5)) (re_var (pv 5))) (ra_nil))) (re_int)) (re_int)) (ra_nil))) (re_int)) (rg_nm (i := 6) nd rfl (.inl rfl)))
      (rs_cons (rs_ret (re_mod (re_callTy b_int rfl E.b_int bt_int (ra_cons (re_div (re_var (pv 6)) (re_int)) (ra_nil))) (re_var (pv 1))))
      (rs_nil)))))
theorem ok_law_some (E : Gb K mg cl) (g_law_take : FnIs P w K mg base T "_law_take" 1 ["bag", "many"] (c_law_take cl)) {f : Addr} {fd : FuncData} (F : Fun K "_law_some" "_law_some" s_law_some f fd) : FnOk P w K mg base (L2.CX P w) 2 f fd ["bag", "things"] (spM T K (c_law_some cl)) :=
  fn_okM (k := 1) F sc_law_some fun cdv A outer s H Er hr => by
  have nd := sc_law_some.nd
  exact rs_cons (rs_ret (re_ix (re_var (pv 1)) (re_callF g_law_take hr (by decide) tk_def rfl (ra_cons (re_var (pv 0)) (ra_cons (re_callB b_len rfl E.b_len bt_len (ra_cons (re_var (pv 1)) (ra_nil))) (ra_nil))))))
      (rs_nil)
theorem ok_law_pos (E : Gb K mg cl) (g_law_q : FnIs P w K mg base T "_law_q" 1 ["top", "bottom"] (c_law_q cl)) (g_law_some : FnIs P w K mg base T "_law_some" 2 ["bag", "things"] (c_law_some cl)) (g_law_take : FnIs P w K mg base T "_law_take" 1 ["bag", "many"] (c_law_take cl)) {f : Addr} {fd : FuncData} (F : Fun K "_law_pos" "_law_pos" s_law_pos f fd) : FnOk P w K mg base (L2.CX P w) 3 f fd ["bag", "most"] (spM T K (c_law_pos cl)) :=
  fn_okM (k := 2) F sc_law_pos fun cdv A outer s H Er hr => by
  have nd := sc_law_pos.nd
  exact rs_cons (rs_ret (re_callF g_law_q hr (by decide) tk_def rfl (ra_cons (re_add (re_int) (re_callF g_law_take hr (by decide) tk_def rfl (ra_cons (re_var (pv 0)) (ra_cons (re_var (pv 1)) (ra_nil))))) (ra_cons (re_callF g_law_some hr (by decide) tk_def rfl (ra_cons (re_var (pv 0)) (ra_cons (re_lst (ra_cons (re_int) (ra_cons (re_int) (ra_cons (re_int) (ra_cons (re_int) (ra_nil)))))) (ra_nil)))) (ra_nil)))))
      (rs_nil)
theorem ok_law_frac (E : Gb K mg cl) (g_law_q : FnIs P w K mg base T "_law_q" 1 ["top", "bottom"] (c_law_q cl)) (g_law_some : FnIs P w K mg base T "_law_some" 2 ["bag", "things"] (c_law_some cl)) (g_law_take : FnIs P w K mg base T "_law_take" 1 ["bag", "many"] (c_law_take cl)) {f : Addr} {fd : FuncData} (F : Fun K "_law_frac" "_law_frac" s_law_frac f fd) : FnOk P w K mg base (L2.CX P w) 3 f fd ["bag", "most"] (spM T K (c_law_frac cl)) :=
  fn_okM (k := 2) F sc_law_frac fun cdv A outer s H Er hr => by
  have nd := sc_law_frac.nd
  exact rs_cons (rs_ret (re_callF g_law_q hr (by decide) tk_def rfl (ra_cons (re_sub (re_callF g_law_take hr (by decide) tk_def rfl (ra_cons (re_var (pv 0)) (ra_cons (re_add (re_mul (re_int) (re_var (pv 1))) (re_int)) (ra_nil)))) (re_var (pv 1))) (ra_cons (re_callF g_law_some hr (by decide) tk_def rfl (ra_cons (re_var (pv 0)) (ra_cons (re_lst (ra_cons (re_int) (ra_cons (re_int) (ra_cons (re_int) (ra_cons (re_int) (ra_nil)))))) (ra_nil)))) (ra_nil)))))
      (rs_nil)
theorem ok_law_bag (E : Gb K mg cl)  {f : Addr} {fd : FuncData} (F : Fun K "_law_bag" "_law_bag" s_law_bag f fd) : FnOk P w K mg base (L2.CX P w) 1 f fd ["script"] (spM T K (c_law_bag cl)) :=
  fn_okM (k := 0) F sc_law_bag fun cdv A outer s H Er hr => by
  have nd := sc_law_bag.nd
  exact rs_cons (rs_ret (re_lst (ra_cons (re_int) (ra_cons (re_int) (ra_cons (re_int) (ra_cons (re_lc (own := [("cell", 1)]) rfl nd (ri_row (re_sl (re_var (pv 0)) (ro_none) (ro_some (re_int)))) (blkOk_by (by kernel_rfl)) (by decide) (fun _ _ _ _ _ => rg_nm (i := 1) nd rfl (.inl rfl)) (fun _ _ _ _ _ => rts_nil) (fun _ _ _ _ _ => re_callB b_abs rfl E.b_abs bt_abs (ra_cons (re_var (pv 1)) (ra_nil)))) (ra_nil)))))))
      (rs_nil)
theorem ok_law_mixed (E : Gb K mg cl) (g_law_take : FnIs P w K mg base T "_law_take" 1 ["bag", "many"] (c_law_take cl)) {f : Addr} {fd : FuncData} (F : Fun K "_law_mixed" "_law_mixed" s_law_mixed f fd) : FnOk P w K mg base (L2.CX P w) 2 f fd ["bag", "things"] (spM T K (c_law_mixed cl)) :=
  fn_okM (k := 1) F sc_law_mixed fun cdv A outer s H Er hr => by
  have nd := sc_law_mixed.nd
  exact rs_cons (rs_asg (re_lst (ra_nil)) (rg_nm (i := 2) nd rfl (.inl rfl)))
      (rs_cons (rs_for hp_def rfl (ri_row (re_var (pv 1))) (rg_nm (i := 3) nd rfl (.inl rfl)) (rs_cons (rs_expr (re_insert (re_var (pv 2)) (ra_cons (re_callF g_law_take hr (by decide) tk_def rfl (ra_cons (re_var (pv 0)) (ra_cons (re_add (re_callB b_len rfl E.b_len bt_len (ra_cons (re_var (pv 2)) (ra_nil))) (re_int)) (ra_nil)))) (ra_cons (re_var (pv 3)) (ra_nil)))))
      (rs_nil)))
      (rs_cons (rs_ret (re_var (pv 2)))
      (rs_nil)))
theorem ok_law_on (E : Gb K mg cl) (g_law_add : FnIs P w K mg base T "_law_add" 2 ["one", "other"] (c_law_add cl)) (g_law_min : FnIs P w K mg base T "_law_min" 2 ["things"] (c_law_min cl)) (g_law_mul : FnIs P w K mg base T "_law_mul" 2 ["one", "other"] (c_law_mul cl)) {f : Addr} {fd : FuncData} (F : Fun K "_law_on" "_law_on" s_law_on f fd) : FnOk P w K mg base (L2.CX P w) 3 f fd ["lines", "m"] (spM T K (c_law_on cl)) :=
  fn_okM (k := 2) F sc_law_on fun cdv A outer s H Er hr => by
  have nd := sc_law_on.nd
  exact rs_cons (rs_ret (re_callF g_law_min hr (by decide) tk_def rfl (ra_cons (re_lc (own := [("a", 2), ("b", 3)]) rfl nd (ri_row (re_var (pv 0))) (blkOk_by (by kernel_rfl)) (by decide) (fun _ _ _ _ _ => rg_tp rfl (rgs_cons (rg_nm (i := 2) nd rfl (.inl rfl)) (rgs_cons (rg_nm (i := 3) nd rfl (.inl rfl)) (rgs_nil)))) (fun _ _ _ _ _ => rts_nil) (fun _ _ _ _ _ => re_callF g_law_add hr (by decide) takesB rfl (ra_cons (re_var (pv 2)) (ra_cons (re_callF g_law_mul hr (by decide) takesB rfl (ra_cons (re_var (pv 3)) (ra_cons (re_var (pv 1)) (ra_nil)))) (ra_nil))))) (ra_nil))))
      (rs_nil)
theorem ok_law_in_order (E : Gb K mg cl) (g_law_cmp : FnIs P w K mg base T "_law_cmp" 1 ["one", "other"] (c_law_cmp cl)) {f : Addr} {fd : FuncData} (F : Fun K "_law_in_order" "_law_in_order" s_law_in_order f fd) : FnOk P w K mg base (L2.CX P w) 2 f fd ["numbers"] (spM T K (c_law_in_order cl)) :=
  fn_okM (k := 1) F sc_law_in_order fun cdv A outer s H Er hr => by
  have nd := sc_law_in_order.nd
  exact rs_cons (rs_asg (re_lst (ra_nil)) (rg_nm (i := 1) nd rfl (.inl rfl)))
      (rs_cons (rs_for hp_def rfl (ri_row (re_var (pv 0))) (rg_nm (i := 2) nd rfl (.inr rfl)) (rs_cons (rs_expr (re_insert (re_var (pv 1)) (ra_cons (re_callB b_len rfl E.b_len bt_len (ra_cons (re_lc (own := [("its", 3)]) rfl nd (ri_row (re_var (pv 1))) (blkOk_by (by kernel_rfl)) (by decide) (fun _ _ _ _ _ => rg_nm (i := 3) nd rfl (.inl rfl)) (fun _ _ _ _ _ => rts_one (rt_c c_lt (re_callF g_law_cmp hr (by decide) takesB rfl (ra_cons (re_var (pv 3)) (ra_cons (re_var (pv 2)) (ra_nil)))) (re_int))) (fun _ _ _ _ _ => re_var (pv 3))) (ra_nil))) (ra_cons (re_var (pv 2)) (ra_nil)))))
      (rs_nil)))
      (rs_cons (rs_ret (re_var (pv 1)))
      (rs_nil)))
theorem ok_law_lowest (E : Gb K mg cl) (g_law_add : FnIs P w K mg base T "_law_add" 2 ["one", "other"] (c_law_add cl)) (g_law_cmp : FnIs P w K mg base T "_law_cmp" 1 ["one", "other"] (c_law_cmp cl)) (g_law_div : FnIs P w K mg base T "_law_div" 2 ["one", "other"] (c_law_div cl)) (g_law_in_order : FnIs P w K mg base T "_law_in_order" 2 ["numbers"] (c_law_in_order cl)) (g_law_min : FnIs P w K mg base T "_law_min" 2 ["things"] (c_law_min cl)) (g_law_mul : FnIs P w K mg base T "_law_mul" 2 ["one", "other"] (c_law_mul cl)) (g_law_on : FnIs P w K mg base T "_law_on" 3 ["lines", "m"] (c_law_on cl)) (g_law_sub : FnIs P w K mg base T "_law_sub" 3 ["one", "other"] (c_law_sub cl)) {f : Addr} {fd : FuncData} (F : Fun K "_law_lowest" "_law_lowest" s_law_lowest f fd) : FnOk P w K mg base (L2.CX P w) 4 f fd ["lines"] (spM T K (c_law_lowest cl)) :=
  fn_okM (k := 3) F sc_law_lowest fun cdv A outer s H Er hr => by
  have nd := sc_law_lowest.nd
  exact rs_cons (rs_asg (re_lst (ra_cons (re_tup (ra_cons (re_int) (ra_cons (re_int) (ra_nil)))) (ra_nil))) (rg_nm (i := 1) nd rfl (.inl rfl)))
      (rs_cons (rs_for hp_def rfl (ri_row (re_var (pv 0))) (rg_tp rfl (rgs_cons (rg_nm (i := 2) nd rfl (.inl rfl)) (rgs_cons (rg_nm (i := 3) nd rfl (.inl rfl)) (rgs_nil)))) (rs_cons (rs_for hp_def rfl (ri_row (re_var (pv 0))) (rg_tp rfl (rgs_cons (rg_nm (i := 4) nd rfl (.inl rfl)) (rgs_cons (rg_nm (i := 5) nd rfl (.inl rfl)) (rgs_nil)))) (rs_cons (rs_if (rt_c (c_ne hr) (re_callF g_law_cmp hr (by decide) tk_def rfl (ra_cons (re_var (pv 3)) (ra_cons (re_var (pv 5)) (ra_nil)))) (re_int)) (rs_cons (rs_asg (re_callF g_law_div hr (by decide) tk_def rfl (ra_cons (re_callF g_law_sub hr (by decide) tk_def rfl (ra_cons (re_var (pv 4)) (ra_cons (re_var (pv 2)) (ra_nil)))) (ra_cons (re_callF g_law_sub hr (by decide) tk_def rfl (ra_cons (re_var (pv 3)) (ra_cons (re_var (pv 5)) (ra_nil)))) (ra_nil)))) (rg_nm (i := 6) nd rfl (.inr rfl)))
      (rs_cons (rs_if (L2.PW.pt (rw_and (rt_c c_gt (re_ix (re_var (pv 6)) (re_int)) (re_int)) (rw_and1 (rt_c (c_notIn hr) (re_var (pv 6)) (re_var (pv 1)))))) (rs_cons (rs_expr (re_append (re_var (pv 1)) (ra_cons (re_var (pv 6)) (ra_nil))))
      (rs_nil)) (rs_nil))
      (rs_nil))) (rs_nil))
      (rs_nil)))
      (rs_nil)))
      (rs_cons (rs_asg (re_lst (ra_nil)) (rg_nm (i := 7) nd rfl (.inl rfl)))
      (rs_cons (rs_for hp_def rfl (ri_row (re_callF g_law_in_order hr (by decide) tk_def rfl (ra_cons (re_var (pv 1)) (ra_nil)))) (rg_nm (i := 6) nd rfl (.inr rfl)) (rs_cons (rs_asg (re_callF g_law_on hr (by decide) tk_def rfl (ra_cons (re_var (pv 0)) (ra_cons (re_var (pv 6)) (ra_nil)))) (rg_nm (i := 8) nd rfl (.inr rfl)))
      (rs_cons (rs_setLc (i := 9) (own := [("a", 2), ("b", 3)]) rfl nd rfl rfl (sw_true rfl rfl rfl (by decide +kernel)) (ri_row (re_var (pv 0))) (blkOk_by (by kernel_rfl)) (by decide) (fun _ _ _ _ _ => rg_tp rfl (rgs_cons (rg_nm (i := 2) nd rfl (.inl rfl)) (rgs_cons (rg_nm (i := 3) nd rfl (.inl rfl)) (rgs_nil)))) (fun _ _ _ _ _ => rts_one (rt_c (c_eq hr) (re_callF g_law_add hr (by decide) takesB rfl (ra_cons (re_var (pv 2)) (ra_cons (re_callF g_law_mul hr (by decide) takesB rfl (ra_cons (re_var (pv 3)) (ra_cons (re_var (pv 6)) (ra_nil)))) (ra_nil)))) (re_var (pv 8)))) (fun _ _ _ _ _ => re_tup (ra_cons (re_var (pv 2)) (ra_cons (re_var (pv 3)) (ra_nil)))))
      (rs_cons (rs_asg (re_callF g_law_min hr (by decide) tk_def rfl (ra_cons (re_lc (own := [("a", 2), ("b", 3)]) rfl nd (ri_row (re_var (pv 9))) (blkOk_by (by kernel_rfl)) (by decide) (fun _ _ _ _ _ => rg_tp rfl (rgs_cons (rg_nm (i := 2) nd rfl (.inl rfl)) (rgs_cons (rg_nm (i := 3) nd rfl (.inl rfl)) (rgs_nil)))) (fun _ _ _ _ _ => rts_nil) (fun _ _ _ _ _ => re_var (pv 3))) (ra_nil))) (rg_nm (i := 10) nd rfl (.inr rfl)))
      (rs_cons (rs_asg (re_ix (re_lc (own := [("one", 12)]) rfl nd (ri_row (re_var (pv 9))) (blkOk_by (by kernel_rfl)) (by decide) (fun _ _ _ _ _ => rg_nm (i := 12) nd rfl (.inl rfl)) (fun _ _ _ _ _ => rts_one (rt_c (c_eq hr) (re_ix (re_var (pv 12)) (re_int)) (re_var (pv 10)))) (fun _ _ _ _ _ => re_var (pv 12))) (re_int)) (rg_nm (i := 11) nd rfl (.inl rfl)))
      (rs_cons (rs_if (L2.PW.pt (rw_or (rt_c (c_eq hr) (re_var (pv 7)) (re_lst (ra_nil))) (rw_or1 (rt_c (c_ne hr) (re_ix (re_ix (re_var (pv 7)) (re_neg (re_int))) (re_int)) (re_var (pv 11)))))) (rs_cons (rs_expr (re_append (re_var (pv 7)) (ra_cons (re_tup (ra_cons (re_var (pv 6)) (ra_cons (re_var (pv 11)) (ra_nil)))) (ra_nil))))
      (rs_nil)) (rs_nil))
      (rs_nil)))))))
      (rs_cons (rs_ret (re_callTy b_tuple rfl E.b_tuple bt_tuple (ra_cons (re_var (pv 7)) (ra_nil))))
      (rs_nil)))))
theorem ok_law_some_lines (E : Gb K mg cl) (g_law_add : FnIs P w K mg base T "_law_add" 2 ["one", "other"] (c_law_add cl)) (g_law_div : FnIs P w K mg base T "_law_div" 2 ["one", "other"] (c_law_div cl)) (g_law_frac : FnIs P w K mg base T "_law_frac" 3 ["bag", "most"] (c_law_frac cl)) (g_law_pos : FnIs P w K mg base T "_law_pos" 3 ["bag", "most"] (c_law_pos cl)) (g_law_some : FnIs P w K mg base T "_law_some" 2 ["bag", "things"] (c_law_some cl)) (g_law_take : FnIs P w K mg base T "_law_take" 1 ["bag", "many"] (c_law_take cl)) {f : Addr} {fd : FuncData} (F : Fun K "_law_some_lines" "_law_some_lines" s_law_some_lines f fd) : FnOk P w K mg base (L2.CX P w) 4 f fd ["bag", "most"] (spM T K (c_law_some_lines cl)) :=
  fn_okM (k := 3) F sc_law_some_lines fun cdv A outer s H Er hr => by
  have nd := sc_law_some_lines.nd
  exact rs_cons (rs_asg (re_lst (ra_nil)) (rg_nm (i := 2) nd rfl (.inl rfl)))
      (rs_cons (rs_for hp_def rfl (ri_range1 rfl E.b_range (ra_cons (re_add (re_int) (re_callF g_law_take hr (by decide) tk_def rfl (ra_cons (re_var (pv 0)) (ra_cons (re_var (pv 1)) (ra_nil))))) (ra_nil))) (rg_nm (i := 3) nd rfl (.inl rfl)) (rs_cons (rs_expr (re_append (re_var (pv 2)) (ra_cons (re_tup (ra_cons (re_callF g_law_frac hr (by decide) tk_def rfl (ra_cons (re_var (pv 0)) (ra_cons (re_int) (ra_nil)))) (ra_cons (re_callF g_law_some hr (by decide) tk_def rfl (ra_cons (re_var (pv 0)) (ra_cons (re_lst (ra_cons (re_tup (ra_cons (re_int) (ra_cons (re_int) (ra_nil)))) (ra_cons (re_callF g_law_pos hr (by decide) tk_def rfl (ra_cons (re_var (pv 0)) (ra_cons (re_int) (ra_nil)))) (ra_nil)))) (ra_nil)))) (ra_nil)))) (ra_nil))))
      (rs_nil)))
      (rs_cons (rs_if (rt_c (c_eq hr) (re_callF g_law_take hr (by decide) tk_def rfl (ra_cons (re_var (pv 0)) (ra_cons (re_int) (ra_nil)))) (re_int)) (rs_cons (rs_asg (re_tup (ra_cons (re_ix (re_var (pv 2)) (re_int)) (ra_cons (re_ix (re_var (pv 2)) (re_neg (re_int))) (ra_nil)))) (rg_tp rfl (rgs_cons (rg_tp rfl (rgs_cons (rg_nm (i := 4) nd rfl (.inl rfl)) (rgs_cons (rg_nm (i := 5) nd rfl (.inl rfl)) (rgs_nil)))) (rgs_cons (rg_tp rfl (rgs_cons (rg_nm (i := 6) nd rfl (.inl rfl)) (rgs_cons (rg_nm (i := 7) nd rfl (.inl rfl)) (rgs_nil)))) (rgs_nil)))))
      (rs_cons (rs_expr (re_append (re_var (pv 2)) (ra_cons (re_tup (ra_cons (re_callF g_law_div hr (by decide) tk_def rfl (ra_cons (re_callF g_law_add hr (by decide) tk_def rfl (ra_cons (re_var (pv 4)) (ra_cons (re_var (pv 6)) (ra_nil)))) (ra_cons (re_tup (ra_cons (re_int) (ra_cons (re_int) (ra_nil)))) (ra_nil)))) (ra_cons (re_callF g_law_div hr (by decide) tk_def rfl (ra_cons (re_callF g_law_add hr (by decide) tk_def rfl (ra_cons (re_var (pv 5)) (ra_cons (re_var (pv 7)) (ra_nil)))) (ra_cons (re_tup (ra_cons (re_int) (ra_cons (re_int) (ra_nil)))) (ra_nil)))) (ra_nil)))) (ra_nil))))
      (rs_nil))) (rs_nil))
      (rs_cons (rs_ret (re_callTy b_tuple rfl E.b_tuple bt_tuple (ra_cons (re_var (pv 2)) (ra_nil))))
      (rs_nil))))
theorem ok_law_any_values (E : Gb K mg cl) (g_is_envelope : FnIs P w K mg base T "is_envelope" 6 ["thing"] (c_is_envelope cl)) {f : Addr} {fd : FuncData} (F : Fun K "_law_any_values" "_law_any_values" s_law_any_values f fd) : FnOk P w K mg base (L2.CX P w) 7 f fd ["envelope"] (spM T K (c_law_any_values cl)) :=
  fn_okM (k := 6) F sc_law_any_values fun cdv A outer s H Er hr => by
  have nd := sc_law_any_values.nd
  exact rs_cons (rs_asg (re_tup (ra_cons (re_tup (ra_cons (re_int) (ra_cons (re_int) (ra_nil)))) (ra_cons (re_tup (ra_cons (re_int) (ra_cons (re_int) (ra_nil)))) (ra_cons (re_tup (ra_cons (re_int) (ra_cons (re_int) (ra_nil)))) (ra_nil))))) (rg_tp rfl (rgs_cons (rg_nm (i := 1) nd rfl (.inl rfl)) (rgs_cons (rg_nm (i := 2) nd rfl (.inl rfl)) (rgs_cons (rg_nm (i := 3) nd rfl (.inl rfl)) (rgs_nil))))))
      (rs_cons (rs_asg (re_lst (ra_cons (re_tup (ra_cons (re_tup (ra_cons (re_var (pv 3)) (ra_cons (re_tup (ra_cons (re_var (pv 1)) (ra_cons (re_var (pv 3)) (ra_nil)))) (ra_nil)))) (ra_nil))) (ra_cons (re_tup (ra_cons (re_tup (ra_cons (re_var (pv 3)) (ra_cons (re_tup (ra_cons (re_var (pv 3)) (ra_cons (re_var (pv 2)) (ra_nil)))) (ra_nil)))) (ra_cons (re_tup (ra_cons (re_tup (ra_cons (re_int) (ra_cons (re_int) (ra_nil)))) (ra_cons (re_tup (ra_cons (re_var (pv 1)) (ra_cons (re_var (pv 3)) (ra_nil)))) (ra_nil)))) (ra_nil)))) (ra_cons (re_var (pv 0)) (ra_nil))))) (rg_nm (i := 4) nd rfl (.inl rfl)))
      (rs_cons (rs_asg (re_lst (ra_cons (re_non) (ra_cons (re_tup (ra_nil)) (ra_cons (re_lst (ra_cons (re_tup (ra_cons (re_var (pv 3)) (ra_cons (re_tup (ra_cons (re_var (pv 1)) (ra_cons (re_var (pv 3)) (ra_nil)))) (ra_nil)))) (ra_nil))) (ra_cons (re_tup (ra_cons (re_tup (ra_cons (re_var (pv 2)) (ra_cons (re_tup (ra_cons (re_var (pv 1)) (ra_cons (re_var (pv 3)) (ra_nil)))) (ra_nil)))) (ra_nil))) (ra_cons (re_tup (ra_cons (re_tup (ra_cons (re_var (pv 3)) (ra_cons (re_tup (ra_cons (re_var (pv 1)) (ra_cons (re_tup (ra_cons (re_neg (re_int)) (ra_cons (re_int) (ra_nil)))) (ra_nil)))) (ra_nil)))) (ra_nil))) (ra_cons (re_tup (ra_cons (re_tup (ra_cons (re_var (pv 3)) (ra_cons (re_tup (ra_cons (re_var (pv 3)) (ra_cons (re_var (pv 2)) (ra_nil)))) (ra_nil)))) (ra_cons (re_tup (ra_cons (re_tup (ra_cons (re_int) (ra_cons (re_int) (ra_nil)))) (ra_cons (re_tup (ra_cons (re_var (pv 1)) (ra_cons (re_var (pv 3)) (ra_nil)))) (ra_nil)))) (ra_nil)))) (ra_cons (re_tup (ra_cons (re_tup (ra_cons (re_var (pv 3)) (ra_cons (re_tup (ra_cons (re_var (pv 1)) (ra_cons (re_var (pv 3)) (ra_nil)))) (ra_nil)))) (ra_cons (re_tup (ra_cons (re_tup (ra_cons (re_int) (ra_cons (re_int) (ra_nil)))) (ra_cons (re_tup (ra_cons (re_var (pv 3)) (ra_cons (re_var (pv 2)) (ra_nil)))) (ra_nil)))) (ra_nil)))) (ra_nil))))))))) (rg_nm (i := 5) nd rfl (.inl rfl)))
      (rs_cons (rs_asg (re_add (re_var (pv 5)) (re_lst (ra_cons (re_tup (ra_cons (re_tup (ra_cons (re_var (pv 3)) (ra_cons (re_tup (ra_cons (re_var (pv 3)) (ra_cons (re_var (pv 2)) (ra_nil)))) (ra_nil)))) (ra_cons (re_tup (ra_cons (re_tup (ra_cons (re_int) (ra_cons (re_int) (ra_nil)))) (ra_cons (re_tup (ra_cons (re_var (pv 3)) (ra_cons (re_var (pv 2)) (ra_nil)))) (ra_nil)))) (ra_nil)))) (ra_cons (re_tup (ra_cons (re_tup (ra_cons (re_var (pv 3)) (ra_cons (re_tup (ra_cons (re_var (pv 3)) (ra_cons (re_var (pv 2)) (ra_nil)))) (ra_nil)))) (ra_cons (re_tup (ra_cons (re_var (pv 3)) (ra_cons (re_tup (ra_cons (re_var (pv 3)) (ra_cons (re_var (pv 3)) (ra_nil)))) (ra_nil)))) (ra_nil)))) (ra_nil))))) (rg_nm (i := 5) nd rfl (.inl rfl)))
      (rs_cons (rs_asg (re_add (re_var (pv 5)) (re_lst (ra_cons (re_tup (ra_cons (re_tup (ra_cons (re_var (pv 3)) (ra_cons (re_tup (ra_cons (re_var (pv 3)) (ra_cons (re_var (pv 2)) (ra_nil)))) (ra_nil)))) (ra_cons (re_tup (ra_cons (re_tup (ra_cons (re_int) (ra_cons (re_int) (ra_nil)))) (ra_cons (re_tup (ra_cons (re_var (pv 1)) (ra_cons (re_var (pv 3)) (ra_nil)))) (ra_nil)))) (ra_cons (re_tup (ra_cons (re_tup (ra_cons (re_int) (ra_cons (re_int) (ra_nil)))) (ra_cons (re_tup (ra_cons (re_var (pv 1)) (ra_cons (re_var (pv 3)) (ra_nil)))) (ra_nil)))) (ra_nil))))) (ra_cons (re_tup (ra_cons (re_tup (ra_cons (re_var (pv 3)) (ra_cons (re_var (pv 1)) (ra_nil)))) (ra_nil))) (ra_cons (re_tup (ra_cons (re_tup (ra_cons (re_var (pv 3)) (ra_cons (re_tup (ra_cons (re_var (pv 1)) (ra_cons (re_var (pv 3)) (ra_cons (re_var (pv 3)) (ra_nil))))) (ra_nil)))) (ra_nil))) (ra_cons (re_tup (ra_cons (re_tup (ra_cons (re_int) (ra_cons (re_tup (ra_cons (re_var (pv 1)) (ra_cons (re_var (pv 3)) (ra_nil)))) (ra_nil)))) (ra_nil))) (ra_nil))))))) (rg_nm (i := 5) nd rfl (.inl rfl)))
      (rs_cons (rs_ret (re_and (re_c (c_eq hr) (re_lc (own := [("thing", 6)]) rfl nd (ri_row (re_var (pv 4))) (blkOk_by (by kernel_rfl)) (by decide) (fun _ _ _ _ _ => rg_nm (i := 6) nd rfl (.inl rfl)) (fun _ _ _ _ _ => rts_one (rt_c c_isNot (re_callF g_is_envelope hr (by decide) takesB rfl (ra_cons (re_var (pv 6)) (ra_nil))) (re_bl))) (fun _ _ _ _ _ => re_var (pv 6))) (re_lst (ra_nil))) (re_one (re_c (c_eq hr) (re_lc (own := [("thing", 6)]) rfl nd (ri_row (re_var (pv 5))) (blkOk_by (by kernel_rfl)) (by decide) (fun _ _ _ _ _ => rg_nm (i := 6) nd rfl (.inl rfl)) (fun _ _ _ _ _ => rts_one (rt_c c_isNot (re_callF g_is_envelope hr (by decide) takesB rfl (ra_cons (re_var (pv 6)) (ra_nil))) (re_bl))) (fun _ _ _ _ _ => re_var (pv 6))) (re_lst (ra_nil))))))
      (rs_nil))))))
theorem ok_law (E : Gb K mg cl) (g_law_add : FnIs P w K mg base T "_law_add" 2 ["one", "other"] (c_law_add cl)) (g_law_any_values : FnIs P w K mg base T "_law_any_values" 7 ["envelope"] (c_law_any_values cl)) (g_law_bag : FnIs P w K mg base T "_law_bag" 1 ["script"] (c_law_bag cl)) (g_law_cmp : FnIs P w K mg base T "_law_cmp" 1 ["one", "other"] (c_law_cmp cl)) (g_law_div : FnIs P w K mg base T "_law_div" 2 ["one", "other"] (c_law_div cl)) (g_law_frac : FnIs P w K mg base T "_law_frac" 3 ["bag", "most"] (c_law_frac cl)) (g_law_lowest : FnIs P w K mg base T "_law_lowest" 4 ["lines"] (c_law_lowest cl)) (g_law_mixed : FnIs P w K mg base T "_law_mixed" 2 ["bag", "things"] (c_law_mixed cl)) (g_law_mul : FnIs P w K mg base T "_law_mul" 2 ["one", "other"] (c_law_mul cl)) (g_law_on : FnIs P w K mg base T "_law_on" 3 ["lines", "m"] (c_law_on cl)) (g_law_pos : FnIs P w K mg base T "_law_pos" 3 ["bag", "most"] (c_law_pos cl)) (g_law_some : FnIs P w K mg base T "_law_some" 2 ["bag", "things"] (c_law_some cl)) (g_law_some_lines : FnIs P w K mg base T "_law_some_lines" 4 ["bag", "most"] (c_law_some_lines cl)) (g_added_line : FnIs P w K mg base T "added_line" 4 ["envelope", "line"] (c_added_line cl)) (g_is_envelope : FnIs P w K mg base T "is_envelope" 6 ["thing"] (c_is_envelope cl)) (g_least_of_two : FnIs P w K mg base T "least_of_two" 6 ["one", "other"] (c_least_of_two cl)) (g_lowest : FnIs P w K mg base T "lowest" 5 ["lines"] (c_lowest cl)) (g_turns_of : FnIs P w K mg base T "turns_of" 1 ["envelope"] (c_turns_of cl)) (g_value_on : FnIs P w K mg base T "value_on" 5 ["envelope", "m"] (c_value_on cl)) {cT PT : Addr} (LF : LamFn K mg "_law_nothing" "act" "Nothing" cl.Nothing) (hT : T = [(PT, (envOfC "law" (defScope s_law) 0 0 .none).qual ++ "<lambda>")]) (TB : LamX.TabB base mg cT PT) {f : Addr} {oc kV doc pm ct : Value} {an od : Option Addr} {osl : Array (Option Value)} (lk : K.lookup f = some ⟨oc, od, .func (PySem.W.fnOf "law" "law" (defArgs s_law) (defBody s_law) (defScope s_law) .none kV doc pm an (.ref cT) ct), osl⟩) (hcd : PySem.W.codeIn K (.ref cT) "law" = true) :
    FnOk P w K mg base (L2.CX P w) 11 f (PySem.W.fnOf "law" "law" (defArgs s_law) (defBody s_law) (defScope s_law) .none kV doc pm an (.ref cT) ct) ["script"] (spM T K (c_law cl)) :=
  fn_okMc (k := 10) lk hcd sc_law fun A outer s H Er hr => by
  have nd := sc_law.nd
  have LT : LamTab (cxOf (L2.CX P w) P w K mg base ["script", "bag", "lots", "told", "lines", "envelope", "turns", "asked", "m", "one", "other", "low", "high", "line", "bad", "k", "n", "a", "b"] "law" (defScope s_law) f (.ref cT) A outer s H Er) T := ⟨cT, PT, TB, rfl, by rw [hT]; exact List.mem_singleton.mpr rfl, fun p hp _ => by rw [hT] at hp; rw [List.mem_singleton.mp hp]; rfl⟩
  exact rs_cons (rs_asg (re_callF g_law_bag hr (by decide) tk_def rfl (ra_cons (re_var (pv 0)) (ra_nil))) (rg_nm (i := 1) nd rfl (.inr rfl)))
      (rs_cons (rs_setLc (i := 2) (own := [("k", 15)]) rfl nd rfl rfl (sw_true rfl rfl rfl (by decide +kernel)) (ri_range1 rfl E.b_range (ra_cons (re_int) (ra_nil))) (blkOk_by (by kernel_rfl)) (by decide) (fun _ _ _ _ _ => rg_nm (i := 15) nd rfl (.inl rfl)) (fun _ _ _ _ _ => rts_nil) (fun _ _ _ _ _ => re_callF g_law_some_lines hr (by decide) takesB rfl (ra_cons (re_var (pv 1)) (ra_cons (re_int) (ra_nil)))))
      (rs_cons (rs_setLc (i := 3) (own := [("lines", 4)]) rfl nd rfl rfl (sw_true rfl rfl rfl (by decide +kernel)) (ri_row (re_var (pv 2))) (blkOk_by (by kernel_rfl)) (by decide) (fun _ _ _ _ _ => rg_nm (i := 4) nd rfl (.inl rfl)) (fun _ _ _ _ _ => rts_nil) (fun _ _ _ _ _ => re_callF g_lowest hr (by decide) takesB rfl (ra_cons (re_var (pv 4)) (ra_nil))))
      (rs_cons (rs_for hp_def rfl (ri_zip rfl E.b_zip (ra_cons (re_var (pv 2)) (ra_cons (re_var (pv 3)) (ra_nil)))) (rg_tp rfl (rgs_cons (rg_nm (i := 4) nd rfl (.inl rfl)) (rgs_cons (rg_nm (i := 5) nd rfl (.inr rfl)) (rgs_nil)))) (rs_cons (rs_if (L2.PW.pt (rw_or (rt_c (c_ne hr) (re_var (pv 5)) (re_callF g_law_lowest hr (by decide) tk_def rfl (ra_cons (re_var (pv 4)) (ra_nil)))) (rw_or (rt_c c_isNot (re_callF g_is_envelope hr (by decide) tk_def rfl (ra_cons (re_var (pv 5)) (ra_nil))) (re_bl)) (rw_or1 (rt_c (c_ne hr) (re_callF g_lowest hr (by decide) tk_def rfl (ra_cons (re_callTy b_tuple rfl E.b_tuple bt_tuple (ra_cons (re_callF g_law_mixed hr (by decide) tk_def rfl (ra_cons (re_var (pv 1)) (ra_cons (re_add (re_callTy b_list rfl E.b_list bt_list (ra_cons (re_var (pv 4)) (ra_nil))) (re_callTy b_list rfl E.b_list bt_list (ra_cons (re_var (pv 4)) (ra_nil)))) (ra_nil)))) (ra_nil))) (ra_nil))) (re_var (pv 5))))))) (rs_cons (rs_ret (re_bl))
      (rs_nil)) (rs_nil))
      (rs_cons (rs_asg (re_callF g_turns_of hr (by decide) tk_def rfl (ra_cons (re_var (pv 5)) (ra_nil))) (rg_nm (i := 6) nd rfl (.inl rfl)))
      (rs_cons (rs_if (L2.PW.pt (rw_or (rt_c (c_ne hr) (re_var (pv 6)) (re_callTy b_tuple rfl E.b_tuple bt_tuple (ra_cons (re_lc (own := [("m", 8), ("line", 13)]) rfl nd (ri_row (re_sl (re_var (pv 5)) (ro_some (re_int)) (ro_none))) (blkOk_by (by kernel_rfl)) (by decide) (fun _ _ _ _ _ => rg_tp rfl (rgs_cons (rg_nm (i := 8) nd rfl (.inl rfl)) (rgs_cons (rg_nm (i := 13) nd rfl (.inl rfl)) (rgs_nil)))) (fun _ _ _ _ _ => rts_nil) (fun _ _ _ _ _ => re_var (pv 8))) (ra_nil)))) (rw_or1 (rt_c (c_ne hr) (re_callF g_lowest hr (by decide) tk_def rfl (ra_cons (re_callTy b_tuple rfl E.b_tuple bt_tuple (ra_cons (re_lc (own := [("m", 8), ("line", 13)]) rfl nd (ri_row (re_var (pv 5))) (blkOk_by (by kernel_rfl)) (by decide) (fun _ _ _ _ _ => rg_tp rfl (rgs_cons (rg_nm (i := 8) nd rfl (.inl rfl)) (rgs_cons (rg_nm (i := 13) nd rfl (.inl rfl)) (rgs_nil)))) (fun _ _ _ _ _ => rts_nil) (fun _ _ _ _ _ => re_var (pv 13))) (ra_nil))) (ra_nil))) (re_var (pv 5)))))) (rs_cons (rs_ret (re_bl))
      (rs_nil)) (rs_nil))
      (rs_cons (rs_asg (re_add (re_add (re_lst (ra_cons (re_tup (ra_cons (re_int) (ra_cons (re_int) (ra_nil)))) (ra_cons (re_callF g_law_pos hr (by decide) tk_def rfl (ra_cons (re_var (pv 1)) (ra_cons (re_int) (ra_nil)))) (ra_cons (re_tup (ra_cons (re_int) (ra_cons (re_int) (ra_nil)))) (ra_cons (re_tup (ra_cons (re_int) (ra_cons (re_int) (ra_nil)))) (ra_nil)))))) (re_callTy b_list rfl E.b_list bt_list (ra_cons (re_var (pv 6)) (ra_nil)))) (re_lc (own := [("m", 8), ("n", 16)]) rfl nd (ri_zip rfl E.b_zip (ra_cons (re_var (pv 6)) (ra_cons (re_sl (re_var (pv 6)) (ro_some (re_int)) (ro_none)) (ra_nil)))) (blkOk_by (by kernel_rfl)) (by decide) (fun _ _ _ _ _ => rg_tp rfl (rgs_cons (rg_nm (i := 8) nd rfl (.inl rfl)) (rgs_cons (rg_nm (i := 16) nd rfl (.inl rfl)) (rgs_nil)))) (fun _ _ _ _ _ => rts_nil) (fun _ _ _ _ _ => re_callF g_law_div hr (by decide) takesB rfl (ra_cons (re_callF g_law_add hr (by decide) takesB rfl (ra_cons (re_var (pv 8)) (ra_cons (re_var (pv 16)) (ra_nil)))) (ra_cons (re_tup (ra_cons (re_int) (ra_cons (re_int) (ra_nil)))) (ra_nil)))))) (rg_nm (i := 7) nd rfl (.inl rfl)))
      (rs_cons (rs_for hp_def rfl (ri_row (re_var (pv 7))) (rg_nm (i := 8) nd rfl (.inl rfl)) (rs_cons (rs_if (rt_c (c_ne hr) (re_callF g_value_on hr (by decide) tk_def rfl (ra_cons (re_var (pv 5)) (ra_cons (re_var (pv 8)) (ra_nil)))) (re_callF g_law_on hr (by decide) tk_def rfl (ra_cons (re_var (pv 4)) (ra_cons (re_var (pv 8)) (ra_nil))))) (rs_cons (rs_ret (re_bl))
      (rs_nil)) (rs_nil))
      (rs_nil)))
      (rs_cons (rs_par (i := 9) (j := 10) rfl nd rfl rfl (by decide) rfl rfl (ra_cons (re_callF g_law_pos hr (by decide) tk_def rfl (ra_cons (re_var (pv 1)) (ra_cons (re_int) (ra_nil)))) (ra_cons (re_callF g_law_pos hr (by decide) tk_def rfl (ra_cons (re_var (pv 1)) (ra_cons (re_int) (ra_nil)))) (ra_nil))))
      (rs_cons (rs_par (i := 11) (j := 12) rfl nd rfl rfl (by decide) rfl rfl (ra_cons (re_callF g_value_on hr (by decide) tk_def rfl (ra_cons (re_var (pv 5)) (ra_cons (re_var (pv 9)) (ra_nil)))) (ra_cons (re_callF g_value_on hr (by decide) tk_def rfl (ra_cons (re_var (pv 5)) (ra_cons (re_var (pv 10)) (ra_nil)))) (ra_nil))))
      (rs_cons (rs_if (L2.PW.pt (rw_or (rt_c c_lt (re_callF g_law_cmp hr (by decide) tk_def rfl (ra_cons (re_callF g_law_mul hr (by decide) tk_def rfl (ra_cons (re_tup (ra_cons (re_int) (ra_cons (re_int) (ra_nil)))) (ra_cons (re_callF g_value_on hr (by decide) tk_def rfl (ra_cons (re_var (pv 5)) (ra_cons (re_callF g_law_div hr (by decide) tk_def rfl (ra_cons (re_callF g_law_add hr (by decide) tk_def rfl (ra_cons (re_var (pv 9)) (ra_cons (re_var (pv 10)) (ra_nil)))) (ra_cons (re_tup (ra_cons (re_int) (ra_cons (re_int) (ra_nil)))) (ra_nil)))) (ra_nil)))) (ra_nil)))) (ra_cons (re_callF g_law_add hr (by decide) tk_def rfl (ra_cons (re_var (pv 11)) (ra_cons (re_var (pv 12)) (ra_nil)))) (ra_nil)))) (re_int)) (rw_or1 (rt_c c_lt (re_mul (re_callF g_law_cmp hr (by decide) tk_def rfl (ra_cons (re_var (pv 9)) (ra_cons (re_var (pv 10)) (ra_nil)))) (re_callF g_law_cmp hr (by decide) tk_def rfl (ra_cons (re_var (pv 11)) (ra_cons (re_var (pv 12)) (ra_nil))))) (re_int))))) (rs_cons (rs_ret (re_bl))
      (rs_nil)) (rs_nil))
      (rs_cons (rs_asg (re_tup (ra_cons (re_callF g_law_frac hr (by decide) tk_def rfl (ra_cons (re_var (pv 1)) (ra_cons (re_int) (ra_nil)))) (ra_cons (re_callF g_law_some hr (by decide) tk_def rfl (ra_cons (re_var (pv 1)) (ra_cons (re_lst (ra_cons (re_tup (ra_cons (re_int) (ra_cons (re_int) (ra_nil)))) (ra_cons (re_callF g_law_pos hr (by decide) tk_def rfl (ra_cons (re_var (pv 1)) (ra_cons (re_int) (ra_nil)))) (ra_nil)))) (ra_nil)))) (ra_nil)))) (rg_nm (i := 13) nd rfl (.inr rfl)))
      (rs_cons (rs_if (rt_c (c_ne hr) (re_callF g_added_line hr (by decide) tk_def rfl (ra_cons (re_var (pv 5)) (ra_cons (re_var (pv 13)) (ra_nil)))) (re_callF g_lowest hr (by decide) tk_def rfl (ra_cons (re_callTy b_tuple rfl E.b_tuple bt_tuple (ra_cons (re_lc (own := [("a", 17), ("b", 18)]) rfl nd (ri_row (re_var (pv 4))) (blkOk_by (by kernel_rfl)) (by decide) (fun _ _ _ _ _ => rg_tp rfl (rgs_cons (rg_nm (i := 17) nd rfl (.inl rfl)) (rgs_cons (rg_nm (i := 18) nd rfl (.inl rfl)) (rgs_nil)))) (fun _ _ _ _ _ => rts_nil) (fun _ _ _ _ _ => re_tup (ra_cons (re_callF g_law_add hr (by decide) takesB rfl (ra_cons (re_var (pv 17)) (ra_cons (re_ix (re_var (pv 13)) (re_int)) (ra_nil)))) (ra_cons (re_callF g_law_add hr (by decide) takesB rfl (ra_cons (re_var (pv 18)) (ra_cons (re_ix (re_var (pv 13)) (re_int)) (ra_nil)))) (ra_nil))))) (ra_nil))) (ra_nil)))) (rs_cons (rs_ret (re_bl))
      (rs_nil)) (rs_nil))
      (rs_cons (rs_for hp_def rfl (ri_row (re_tup (ra_cons (re_tup (ra_cons (re_neg (re_int)) (ra_cons (re_int) (ra_nil)))) (ra_cons (re_non) (ra_cons (re_int) (ra_nil)))))) (rg_nm (i := 14) nd rfl (.inr rfl)) (rs_cons (rs_if (rt_not (rt_val (re_lamNothing (k := 8) (a := "act") LF LT hr (by decide) rfl (LamX.lamS_by (by kernel_rfl)) rfl (fun _ _ _ _ _ => rfl) (fun A outer s H Er f c' hr => re_callF g_value_on hr (by decide) tk_lam rfl (ra_cons (re_var (pv 5)) (ra_cons (re_var (pv 14)) (ra_nil))))))) (rs_cons (rs_ret (re_bl))
      (rs_nil)) (rs_nil))
      (rs_nil)))
      (rs_nil)))))))))))))
      (rs_cons (rs_if (L2.PW.pt (rw_or (rt_c (c_ne hr) (re_callF g_least_of_two hr (by decide) tk_def rfl (ra_cons (re_ix (re_var (pv 3)) (re_int)) (ra_cons (re_ix (re_var (pv 3)) (re_int)) (ra_nil)))) (re_callF g_law_lowest hr (by decide) tk_def rfl (ra_cons (re_add (re_ix (re_var (pv 2)) (re_int)) (re_ix (re_var (pv 2)) (re_int))) (ra_nil)))) (rw_or1 (rt_c (c_ne hr) (re_callF g_least_of_two hr (by decide) tk_def rfl (ra_cons (re_ix (re_var (pv 3)) (re_int)) (ra_cons (re_ix (re_var (pv 3)) (re_int)) (ra_nil)))) (re_ix (re_var (pv 3)) (re_int)))))) (rs_cons (rs_ret (re_bl))
      (rs_nil)) (rs_nil))
      (rs_cons (rs_ret (re_callF g_law_any_values hr (by decide) tk_def rfl (ra_cons (re_ix (re_var (pv 3)) (re_int)) (ra_nil))))
      (rs_nil))))))
end
end K03
set_option Elab.async false
set_option linter.all false
set_option maxRecDepth 100000
set_option maxHeartbeats 4000000
namespace K03
open PySem PySem.Spec PyProof.Rows L2 RM
theorem all_mk {l : PySem.W.OpenLaw} {w : World} {K : PySem.W.Frag} {h : Heap} {mg : Str → Option Value} {fa : Addr} (L : ∀ cl : Cls, LawOk (c_law cl)) (X : K.In h) (G : h.Ns mainGlobals mg) (hfa : mg "law" = some (.ref fa)) {cT PT : Addr} (hP : h.get? PT = some { cls := .none, data := .fields #[] }) (nP : K.lookup PT = none) (hC : PySem.W.CodeHd h cT PT)
  {f_is_whole : Addr} {oc_is_whole kV_is_whole dc_is_whole pm_is_whole cd_is_whole ct_is_whole : Value} {od_is_whole an_is_whole : Option Addr} {sl_is_whole : Array (Option Value)}
  {f_common_divisor : Addr} {oc_common_divisor kV_common_divisor dc_common_divisor pm_common_divisor cd_common_divisor ct_common_divisor : Value} {od_common_divisor an_common_divisor : Option Addr} {sl_common_divisor : Array (Option Value)}
  {f_is_tuple_of : Addr} {oc_is_tuple_of kV_is_tuple_of dc_is_tuple_of pm_is_tuple_of cd_is_tuple_of ct_is_tuple_of : Value} {od_is_tuple_of an_is_tuple_of : Option Addr} {sl_is_tuple_of : Array (Option Value)}
  {f_is_fraction : Addr} {oc_is_fraction kV_is_fraction dc_is_fraction pm_is_fraction cd_is_fraction ct_is_fraction : Value} {od_is_fraction an_is_fraction : Option Addr} {sl_is_fraction : Array (Option Value)}
  {f_fraction : Addr} {oc_fraction kV_fraction dc_fraction pm_fraction cd_fraction ct_fraction : Value} {od_fraction an_fraction : Option Addr} {sl_fraction : Array (Option Value)}
  {f_plus : Addr} {oc_plus kV_plus dc_plus pm_plus cd_plus ct_plus : Value} {od_plus an_plus : Option Addr} {sl_plus : Array (Option Value)}
  {f_less : Addr} {oc_less kV_less dc_less pm_less cd_less ct_less : Value} {od_less an_less : Option Addr} {sl_less : Array (Option Value)}
  {f_times : Addr} {oc_times kV_times dc_times pm_times cd_times ct_times : Value} {od_times an_times : Option Addr} {sl_times : Array (Option Value)}
  {f_over : Addr} {oc_over kV_over dc_over pm_over cd_over ct_over : Value} {od_over an_over : Option Addr} {sl_over : Array (Option Value)}
  {f_sign : Addr} {oc_sign kV_sign dc_sign pm_sign cd_sign ct_sign : Value} {od_sign an_sign : Option Addr} {sl_sign : Array (Option Value)}
  {f_compare : Addr} {oc_compare kV_compare dc_compare pm_compare cd_compare ct_compare : Value} {od_compare an_compare : Option Addr} {sl_compare : Array (Option Value)}
  {f_line_at : Addr} {oc_line_at kV_line_at dc_line_at pm_line_at cd_line_at ct_line_at : Value} {od_line_at an_line_at : Option Addr} {sl_line_at : Array (Option Value)}
  {f_is_below : Addr} {oc_is_below kV_is_below dc_is_below pm_is_below cd_is_below ct_is_below : Value} {od_is_below an_is_below : Option Addr} {sl_is_below : Array (Option Value)}
  {f_first_line : Addr} {oc_first_line kV_first_line dc_first_line pm_first_line cd_first_line ct_first_line : Value} {od_first_line an_first_line : Option Addr} {sl_first_line : Array (Option Value)}
  {f_next_row : Addr} {oc_next_row kV_next_row dc_next_row pm_next_row cd_next_row ct_next_row : Value} {od_next_row an_next_row : Option Addr} {sl_next_row : Array (Option Value)}
  {f_lowest : Addr} {oc_lowest kV_lowest dc_lowest pm_lowest cd_lowest ct_lowest : Value} {od_lowest an_lowest : Option Addr} {sl_lowest : Array (Option Value)}
  {f_value_on : Addr} {oc_value_on kV_value_on dc_value_on pm_value_on cd_value_on ct_value_on : Value} {od_value_on an_value_on : Option Addr} {sl_value_on : Array (Option Value)}
  {f_lines_of : Addr} {oc_lines_of kV_lines_of dc_lines_of pm_lines_of cd_lines_of ct_lines_of : Value} {od_lines_of an_lines_of : Option Addr} {sl_lines_of : Array (Option Value)}
  {f_least_of_two : Addr} {oc_least_of_two kV_least_of_two dc_least_of_two pm_least_of_two cd_least_of_two ct_least_of_two : Value} {od_least_of_two an_least_of_two : Option Addr} {sl_least_of_two : Array (Option Value)}
  {f_added_line : Addr} {oc_added_line kV_added_line dc_added_line pm_added_line cd_added_line ct_added_line : Value} {od_added_line an_added_line : Option Addr} {sl_added_line : Array (Option Value)}
  {f_is_row : Addr} {oc_is_row kV_is_row dc_is_row pm_is_row cd_is_row ct_is_row : Value} {od_is_row an_is_row : Option Addr} {sl_is_row : Array (Option Value)}
  {f_is_behind : Addr} {oc_is_behind kV_is_behind dc_is_behind pm_is_behind cd_is_behind ct_is_behind : Value} {od_is_behind an_is_behind : Option Addr} {sl_is_behind : Array (Option Value)}
  {f_is_envelope : Addr} {oc_is_envelope kV_is_envelope dc_is_envelope pm_is_envelope cd_is_envelope ct_is_envelope : Value} {od_is_envelope an_is_envelope : Option Addr} {sl_is_envelope : Array (Option Value)}
  {f_turns_of : Addr} {oc_turns_of kV_turns_of dc_turns_of pm_turns_of cd_turns_of ct_turns_of : Value} {od_turns_of an_turns_of : Option Addr} {sl_turns_of : Array (Option Value)}
  {f_law_q : Addr} {oc_law_q kV_law_q dc_law_q pm_law_q cd_law_q ct_law_q : Value} {od_law_q an_law_q : Option Addr} {sl_law_q : Array (Option Value)}
  {f_law_add : Addr} {oc_law_add kV_law_add dc_law_add pm_law_add cd_law_add ct_law_add : Value} {od_law_add an_law_add : Option Addr} {sl_law_add : Array (Option Value)}
  {f_law_neg : Addr} {oc_law_neg kV_law_neg dc_law_neg pm_law_neg cd_law_neg ct_law_neg : Value} {od_law_neg an_law_neg : Option Addr} {sl_law_neg : Array (Option Value)}
  {f_law_sub : Addr} {oc_law_sub kV_law_sub dc_law_sub pm_law_sub cd_law_sub ct_law_sub : Value} {od_law_sub an_law_sub : Option Addr} {sl_law_sub : Array (Option Value)}
  {f_law_mul : Addr} {oc_law_mul kV_law_mul dc_law_mul pm_law_mul cd_law_mul ct_law_mul : Value} {od_law_mul an_law_mul : Option Addr} {sl_law_mul : Array (Option Value)}
  {f_law_div : Addr} {oc_law_div kV_law_div dc_law_div pm_law_div cd_law_div ct_law_div : Value} {od_law_div an_law_div : Option Addr} {sl_law_div : Array (Option Value)}
  {f_law_cmp : Addr} {oc_law_cmp kV_law_cmp dc_law_cmp pm_law_cmp cd_law_cmp ct_law_cmp : Value} {od_law_cmp an_law_cmp : Option Addr} {sl_law_cmp : Array (Option Value)}
  {f_law_min : Addr} {oc_law_min kV_law_min dc_law_min pm_law_min cd_law_min ct_law_min : Value} {od_law_min an_law_min : Option Addr} {sl_law_min : Array (Option Value)}
  {f_law_take : Addr} {oc_law_take kV_law_take dc_law_take pm_law_take cd_law_take ct_law_take : Value} {od_law_take an_law_take : Option Addr} {sl_law_take : Array (Option Value)}
  {f_law_some : Addr} {oc_law_some kV_law_some dc_law_some pm_law_some cd_law_some ct_law_some : Value} {od_law_some an_law_some : Option Addr} {sl_law_some : Array (Option Value)}
  {f_law_pos : Addr} {oc_law_pos kV_law_pos dc_law_pos pm_law_pos cd_law_pos ct_law_pos : Value} {od_law_pos an_law_pos : Option Addr} {sl_law_pos : Array (Option Value)}
  {f_law_frac : Addr} {oc_law_frac kV_law_frac dc_law_frac pm_law_frac cd_law_frac ct_law_frac : Value} {od_law_frac an_law_frac : Option Addr} {sl_law_frac : Array (Option Value)}
  {f_law_bag : Addr} {oc_law_bag kV_law_bag dc_law_bag pm_law_bag cd_law_bag ct_law_bag : Value} {od_law_bag an_law_bag : Option Addr} {sl_law_bag : Array (Option Value)}
  {f_law_mixed : Addr} {oc_law_mixed kV_law_mixed dc_law_mixed pm_law_mixed cd_law_mixed ct_law_mixed : Value} {od_law_mixed an_law_mixed : Option Addr} {sl_law_mixed : Array (Option Value)}
  {f_law_on : Addr} {oc_law_on kV_law_on dc_law_on pm_law_on cd_law_on ct_law_on : Value} {od_law_on an_law_on : Option Addr} {sl_law_on : Array (Option Value)}
  {f_law_in_order : Addr} {oc_law_in_order kV_law_in_order dc_law_in_order pm_law_in_order cd_law_in_order ct_law_in_order : Value} {od_law_in_order an_law_in_order : Option Addr} {sl_law_in_order : Array (Option Value)}
  {f_law_lowest : Addr} {oc_law_lowest kV_law_lowest dc_law_lowest pm_law_lowest cd_law_lowest ct_law_lowest : Value} {od_law_lowest an_law_lowest : Option Addr} {sl_law_lowest : Array (Option Value)}
  {f_law_some_lines : Addr} {oc_law_some_lines kV_law_some_lines dc_law_some_lines pm_law_some_lines cd_law_some_lines ct_law_some_lines : Value} {od_law_some_lines an_law_some_lines : Option Addr} {sl_law_some_lines : Array (Option Value)}
  {f_law_any_values : Addr} {oc_law_any_values kV_law_any_values dc_law_any_values pm_law_any_values cd_law_any_values ct_law_any_values : Value} {od_law_any_values an_law_any_values : Option Addr} {sl_law_any_values : Array (Option Value)}
  {f_law_nothing : Addr} {oc_law_nothing kV_law_nothing dc_law_nothing pm_law_nothing cd_law_nothing ct_law_nothing : Value} {od_law_nothing an_law_nothing : Option Addr} {sl_law_nothing : Array (Option Value)}
  {f_law : Addr} {oc_law kV_law dc_law pm_law  ct_law : Value} {od_law an_law : Option Addr} {sl_law : Array (Option Value)}
  {t_ZERO_0 : Tok}
  {t_ZERO_1 : Tok}
  {q_ZERO : Addr} {d_ZERO : Option Addr} {n_ZERO : Nat} {s_ZERO' : Array (Option Value)}
  {cl_Nothing : Addr}
  (a_is_whole : PySem.W.nsIn K mainGlobals "is_whole" = some (some (.ref f_is_whole)))
  (l_is_whole : K.lookup f_is_whole = some ⟨oc_is_whole, od_is_whole, .func (PySem.W.fnOf "is_whole" "is_whole" (defArgs s_is_whole) (defBody s_is_whole) (defScope s_is_whole) .none kV_is_whole dc_is_whole pm_is_whole an_is_whole cd_is_whole ct_is_whole), sl_is_whole⟩)
  (c_is_whole' : PySem.W.codeIn K cd_is_whole "is_whole" = true)
  (k_is_whole' : PySem.W.keepIn K (.ref f_is_whole) = true)
  (a_common_divisor : PySem.W.nsIn K mainGlobals "common_divisor" = some (some (.ref f_common_divisor)))
  (l_common_divisor : K.lookup f_common_divisor = some ⟨oc_common_divisor, od_common_divisor, .func (PySem.W.fnOf "common_divisor" "common_divisor" (defArgs s_common_divisor) (defBody s_common_divisor) (defScope s_common_divisor) .none kV_common_divisor dc_common_divisor pm_common_divisor an_common_divisor cd_common_divisor ct_common_divisor), sl_common_divisor⟩)
  (c_common_divisor' : PySem.W.codeIn K cd_common_divisor "common_divisor" = true)
  (k_common_divisor' : PySem.W.keepIn K (.ref f_common_divisor) = true)
  (a_is_tuple_of : PySem.W.nsIn K mainGlobals "is_tuple_of" = some (some (.ref f_is_tuple_of)))
  (l_is_tuple_of : K.lookup f_is_tuple_of = some ⟨oc_is_tuple_of, od_is_tuple_of, .func (PySem.W.fnOf "is_tuple_of" "is_tuple_of" (defArgs s_is_tuple_of) (defBody s_is_tuple_of) (defScope s_is_tuple_of) .none kV_is_tuple_of dc_is_tuple_of pm_is_tuple_of an_is_tuple_of cd_is_tuple_of ct_is_tuple_of), sl_is_tuple_of⟩)
  (c_is_tuple_of' : PySem.W.codeIn K cd_is_tuple_of "is_tuple_of" = true)
  (k_is_tuple_of' : PySem.W.keepIn K (.ref f_is_tuple_of) = true)
  (a_is_fraction : PySem.W.nsIn K mainGlobals "is_fraction" = some (some (.ref f_is_fraction)))
  (l_is_fraction : K.lookup f_is_fraction = some ⟨oc_is_fraction, od_is_fraction, .func (PySem.W.fnOf "is_fraction" "is_fraction" (defArgs s_is_fraction) (defBody s_is_fraction) (defScope s_is_fraction) .none kV_is_fraction dc_is_fraction pm_is_fraction an_is_fraction cd_is_fraction ct_is_fraction), sl_is_fraction⟩)
  (c_is_fraction' : PySem.W.codeIn K cd_is_fraction "is_fraction" = true)
  (k_is_fraction' : PySem.W.keepIn K (.ref f_is_fraction) = true)
  (a_fraction : PySem.W.nsIn K mainGlobals "fraction" = some (some (.ref f_fraction)))
  (l_fraction : K.lookup f_fraction = some ⟨oc_fraction, od_fraction, .func (PySem.W.fnOf "fraction" "fraction" (defArgs s_fraction) (defBody s_fraction) (defScope s_fraction) .none kV_fraction dc_fraction pm_fraction an_fraction cd_fraction ct_fraction), sl_fraction⟩)
  (c_fraction' : PySem.W.codeIn K cd_fraction "fraction" = true)
  (k_fraction' : PySem.W.keepIn K (.ref f_fraction) = true)
  (a_plus : PySem.W.nsIn K mainGlobals "plus" = some (some (.ref f_plus)))
  (l_plus : K.lookup f_plus = some ⟨oc_plus, od_plus, .func (PySem.W.fnOf "plus" "plus" (defArgs s_plus) (defBody s_plus) (defScope s_plus) .none kV_plus dc_plus pm_plus an_plus cd_plus ct_plus), sl_plus⟩)
  (c_plus' : PySem.W.codeIn K cd_plus "plus" = true)
  (k_plus' : PySem.W.keepIn K (.ref f_plus) = true)
  (a_less : PySem.W.nsIn K mainGlobals "less" = some (some (.ref f_less)))
  (l_less : K.lookup f_less = some ⟨oc_less, od_less, .func (PySem.W.fnOf "less" "less" (defArgs s_less) (defBody s_less) (defScope s_less) .none kV_less dc_less pm_less an_less cd_less ct_less), sl_less⟩)
  (c_less' : PySem.W.codeIn K cd_less "less" = true)
  (k_less' : PySem.W.keepIn K (.ref f_less) = true)
  (a_times : PySem.W.nsIn K mainGlobals "times" = some (some (.ref f_times)))
  (l_times : K.lookup f_times = some ⟨oc_times, od_times, .func (PySem.W.fnOf "times" "times" (defArgs s_times) (defBody s_times) (defScope s_times) .none kV_times dc_times pm_times an_times cd_times ct_times), sl_times⟩)
  (c_times' : PySem.W.codeIn K cd_times "times" = true)
  (k_times' : PySem.W.keepIn K (.ref f_times) = true)
  (a_over : PySem.W.nsIn K mainGlobals "over" = some (some (.ref f_over)))
  (l_over : K.lookup f_over = some ⟨oc_over, od_over, .func (PySem.W.fnOf "over" "over" (defArgs s_over) (defBody s_over) (defScope s_over) .none kV_over dc_over pm_over an_over cd_over ct_over), sl_over⟩)
  (c_over' : PySem.W.codeIn K cd_over "over" = true)
  (k_over' : PySem.W.keepIn K (.ref f_over) = true)
  (a_sign : PySem.W.nsIn K mainGlobals "sign" = some (some (.ref f_sign)))
  (l_sign : K.lookup f_sign = some ⟨oc_sign, od_sign, .func (PySem.W.fnOf "sign" "sign" (defArgs s_sign) (defBody s_sign) (defScope s_sign) .none kV_sign dc_sign pm_sign an_sign cd_sign ct_sign), sl_sign⟩)
  (c_sign' : PySem.W.codeIn K cd_sign "sign" = true)
  (k_sign' : PySem.W.keepIn K (.ref f_sign) = true)
  (a_compare : PySem.W.nsIn K mainGlobals "compare" = some (some (.ref f_compare)))
  (l_compare : K.lookup f_compare = some ⟨oc_compare, od_compare, .func (PySem.W.fnOf "compare" "compare" (defArgs s_compare) (defBody s_compare) (defScope s_compare) .none kV_compare dc_compare pm_compare an_compare cd_compare ct_compare), sl_compare⟩)
  (c_compare' : PySem.W.codeIn K cd_compare "compare" = true)
  (k_compare' : PySem.W.keepIn K (.ref f_compare) = true)
  (a_line_at : PySem.W.nsIn K mainGlobals "line_at" = some (some (.ref f_line_at)))
  (l_line_at : K.lookup f_line_at = some ⟨oc_line_at, od_line_at, .func (PySem.W.fnOf "line_at" "line_at" (defArgs s_line_at) (defBody s_line_at) (defScope s_line_at) .none kV_line_at dc_line_at pm_line_at an_line_at cd_line_at ct_line_at), sl_line_at⟩)
  (c_line_at' : PySem.W.codeIn K cd_line_at "line_at" = true)
  (k_line_at' : PySem.W.keepIn K (.ref f_line_at) = true)
  (a_is_below : PySem.W.nsIn K mainGlobals "is_below" = some (some (.ref f_is_below)))
  (l_is_below : K.lookup f_is_below = some ⟨oc_is_below, od_is_below, .func (PySem.W.fnOf "is_below" "is_below" (defArgs s_is_below) (defBody s_is_below) (defScope s_is_below) .none kV_is_below dc_is_below pm_is_below an_is_below cd_is_below ct_is_below), sl_is_below⟩)
  (c_is_below' : PySem.W.codeIn K cd_is_below "is_below" = true)
  (k_is_below' : PySem.W.keepIn K (.ref f_is_below) = true)
  (a_first_line : PySem.W.nsIn K mainGlobals "first_line" = some (some (.ref f_first_line)))
  (l_first_line : K.lookup f_first_line = some ⟨oc_first_line, od_first_line, .func (PySem.W.fnOf "first_line" "first_line" (defArgs s_first_line) (defBody s_first_line) (defScope s_first_line) .none kV_first_line dc_first_line pm_first_line an_first_line cd_first_line ct_first_line), sl_first_line⟩)
  (c_first_line' : PySem.W.codeIn K cd_first_line "first_line" = true)
  (k_first_line' : PySem.W.keepIn K (.ref f_first_line) = true)
  (a_next_row : PySem.W.nsIn K mainGlobals "next_row" = some (some (.ref f_next_row)))
  (l_next_row : K.lookup f_next_row = some ⟨oc_next_row, od_next_row, .func (PySem.W.fnOf "next_row" "next_row" (defArgs s_next_row) (defBody s_next_row) (defScope s_next_row) .none kV_next_row dc_next_row pm_next_row an_next_row cd_next_row ct_next_row), sl_next_row⟩)
  (c_next_row' : PySem.W.codeIn K cd_next_row "next_row" = true)
  (k_next_row' : PySem.W.keepIn K (.ref f_next_row) = true)
  (a_lowest : PySem.W.nsIn K mainGlobals "lowest" = some (some (.ref f_lowest)))
  (l_lowest : K.lookup f_lowest = some ⟨oc_lowest, od_lowest, .func (PySem.W.fnOf "lowest" "lowest" (defArgs s_lowest) (defBody s_lowest) (defScope s_lowest) .none kV_lowest dc_lowest pm_lowest an_lowest cd_lowest ct_lowest), sl_lowest⟩)
  (c_lowest' : PySem.W.codeIn K cd_lowest "lowest" = true)
  (k_lowest' : PySem.W.keepIn K (.ref f_lowest) = true)
  (a_value_on : PySem.W.nsIn K mainGlobals "value_on" = some (some (.ref f_value_on)))
  (l_value_on : K.lookup f_value_on = some ⟨oc_value_on, od_value_on, .func (PySem.W.fnOf "value_on" "value_on" (defArgs s_value_on) (defBody s_value_on) (defScope s_value_on) .none kV_value_on dc_value_on pm_value_on an_value_on cd_value_on ct_value_on), sl_value_on⟩)
  (c_value_on' : PySem.W.codeIn K cd_value_on "value_on" = true)
  (k_value_on' : PySem.W.keepIn K (.ref f_value_on) = true)
  (a_lines_of : PySem.W.nsIn K mainGlobals "lines_of" = some (some (.ref f_lines_of)))
  (l_lines_of : K.lookup f_lines_of = some ⟨oc_lines_of, od_lines_of, .func (PySem.W.fnOf "lines_of" "lines_of" (defArgs s_lines_of) (defBody s_lines_of) (defScope s_lines_of) .none kV_lines_of dc_lines_of pm_lines_of an_lines_of cd_lines_of ct_lines_of), sl_lines_of⟩)
  (c_lines_of' : PySem.W.codeIn K cd_lines_of "lines_of" = true)
  (k_lines_of' : PySem.W.keepIn K (.ref f_lines_of) = true)
  (a_least_of_two : PySem.W.nsIn K mainGlobals "least_of_two" = some (some (.ref f_least_of_two)))
  (l_least_of_two : K.lookup f_least_of_two = some ⟨oc_least_of_two, od_least_of_two, .func (PySem.W.fnOf "least_of_two" "least_of_two" (defArgs s_least_of_two) (defBody s_least_of_two) (defScope s_least_of_two) .none kV_least_of_two dc_least_of_two pm_least_of_two an_least_of_two cd_least_of_two ct_least_of_two), sl_least_of_two⟩)
  (c_least_of_two' : PySem.W.codeIn K cd_least_of_two "least_of_two" = true)
  (k_least_of_two' : PySem.W.keepIn K (.ref f_least_of_two) = true)
  (a_added_line : PySem.W.nsIn K mainGlobals "added_line" = some (some (.ref f_added_line)))
  (l_added_line : K.lookup f_added_line = some ⟨oc_added_line, od_added_line, .func (PySem.W.fnOf "added_line" "added_line" (defArgs s_added_line) (defBody s_added_line) (defScope s_added_line) .none kV_added_line dc_added_line pm_added_line an_added_line cd_added_line ct_added_line), sl_added_line⟩)
  (c_added_line' : PySem.W.codeIn K cd_added_line "added_line" = true)
  (k_added_line' : PySem.W.keepIn K (.ref f_added_line) = true)
  (a_is_row : PySem.W.nsIn K mainGlobals "is_row" = some (some (.ref f_is_row)))
  (l_is_row : K.lookup f_is_row = some ⟨oc_is_row, od_is_row, .func (PySem.W.fnOf "is_row" "is_row" (defArgs s_is_row) (defBody s_is_row) (defScope s_is_row) .none kV_is_row dc_is_row pm_is_row an_is_row cd_is_row ct_is_row), sl_is_row⟩)
  (c_is_row' : PySem.W.codeIn K cd_is_row "is_row" = true)
  (k_is_row' : PySem.W.keepIn K (.ref f_is_row) = true)
  (a_is_behind : PySem.W.nsIn K mainGlobals "is_behind" = some (some (.ref f_is_behind)))
  (l_is_behind : K.lookup f_is_behind = some ⟨oc_is_behind, od_is_behind, .func (PySem.W.fnOf "is_behind" "is_behind" (defArgs s_is_behind) (defBody s_is_behind) (defScope s_is_behind) .none kV_is_behind dc_is_behind pm_is_behind an_is_behind cd_is_behind ct_is_behind), sl_is_behind⟩)
  (c_is_behind' : PySem.W.codeIn K cd_is_behind "is_behind" = true)
  (k_is_behind' : PySem.W.keepIn K (.ref f_is_behind) = true)
  (a_is_envelope : PySem.W.nsIn K mainGlobals "is_envelope" = some (some (.ref f_is_envelope)))
  (l_is_envelope : K.lookup f_is_envelope = some ⟨oc_is_envelope, od_is_envelope, .func (PySem.W.fnOf "is_envelope" "is_envelope" (defArgs s_is_envelope) (defBody s_is_envelope) (defScope s_is_envelope) .none kV_is_envelope dc_is_envelope pm_is_envelope an_is_envelope cd_is_envelope ct_is_envelope), sl_is_envelope⟩)
  (c_is_envelope' : PySem.W.codeIn K cd_is_envelope "is_envelope" = true)
  (k_is_envelope' : PySem.W.keepIn K (.ref f_is_envelope) = true)
  (a_turns_of : PySem.W.nsIn K mainGlobals "turns_of" = some (some (.ref f_turns_of)))
  (l_turns_of : K.lookup f_turns_of = some ⟨oc_turns_of, od_turns_of, .func (PySem.W.fnOf "turns_of" "turns_of" (defArgs s_turns_of) (defBody s_turns_of) (defScope s_turns_of) .none kV_turns_of dc_turns_of pm_turns_of an_turns_of cd_turns_of ct_turns_of), sl_turns_of⟩)
  (c_turns_of' : PySem.W.codeIn K cd_turns_of "turns_of" = true)
  (k_turns_of' : PySem.W.keepIn K (.ref f_turns_of) = true)
  (a_law_q : PySem.W.nsIn K mainGlobals "_law_q" = some (some (.ref f_law_q)))
  (l_law_q : K.lookup f_law_q = some ⟨oc_law_q, od_law_q, .func (PySem.W.fnOf "_law_q" "_law_q" (defArgs s_law_q) (defBody s_law_q) (defScope s_law_q) .none kV_law_q dc_law_q pm_law_q an_law_q cd_law_q ct_law_q), sl_law_q⟩)
  (c_law_q' : PySem.W.codeIn K cd_law_q "_law_q" = true)
  (k_law_q' : PySem.W.keepIn K (.ref f_law_q) = true)
  (a_law_add : PySem.W.nsIn K mainGlobals "_law_add" = some (some (.ref f_law_add)))
  (l_law_add : K.lookup f_law_add = some ⟨oc_law_add, od_law_add, .func (PySem.W.fnOf "_law_add" "_law_add" (defArgs s_law_add) (defBody s_law_add) (defScope s_law_add) .none kV_law_add dc_law_add pm_law_add an_law_add cd_law_add ct_law_add), sl_law_add⟩)
  (c_law_add' : PySem.W.codeIn K cd_law_add "_law_add" = true)
  (k_law_add' : PySem.W.keepIn K (.ref f_law_add) = true)
  (a_law_neg : PySem.W.nsIn K mainGlobals "_law_neg" = some (some (.ref f_law_neg)))
  (l_law_neg : K.lookup f_law_neg = some ⟨oc_law_neg, od_law_neg, .func (PySem.W.fnOf "_law_neg" "_law_neg" (defArgs s_law_neg) (defBody s_law_neg) (defScope s_law_neg) .none kV_law_neg dc_law_neg pm_law_neg an_law_neg cd_law_neg ct_law_neg), sl_law_neg⟩)
  (c_law_neg' : PySem.W.codeIn K cd_law_neg "_law_neg" = true)
  (k_law_neg' : PySem.W.keepIn K (.ref f_law_neg) = true)
  (a_law_sub : PySem.W.nsIn K mainGlobals "_law_sub" = some (some (.ref f_law_sub)))
  (l_law_sub : K.lookup f_law_sub = some ⟨oc_law_sub, od_law_sub, .func (PySem.W.fnOf "_law_sub" "_law_sub" (defArgs s_law_sub) (defBody s_law_sub) (defScope s_law_sub) .none kV_law_sub dc_law_sub pm_law_sub an_law_sub cd_law_sub ct_law_sub), sl_law_sub⟩)
  (c_law_sub' : PySem.W.codeIn K cd_law_sub "_law_sub" = true)
  (k_law_sub' : PySem.W.keepIn K (.ref f_law_sub) = true)
  (a_law_mul : PySem.W.nsIn K mainGlobals "_law_mul" = some (some (.ref f_law_mul)))
  (l_law_mul : K.lookup f_law_mul = some ⟨oc_law_mul, od_law_mul, .func (PySem.W.fnOf "_law_mul" "_law_mul" (defArgs s_law_mul) (defBody s_law_mul) (defScope s_law_mul) .none kV_law_mul dc_law_mul pm_law_mul an_law_mul cd_law_mul ct_law_mul), sl_law_mul⟩)
  (c_law_mul' : PySem.W.codeIn K cd_law_mul "_law_mul" = true)
  (k_law_mul' : PySem.W.keepIn K (.ref f_law_mul) = true)
  (a_law_div : PySem.W.nsIn K mainGlobals "_law_div" = some (some (.ref f_law_div)))
  (l_law_div : K.lookup f_law_div = some ⟨oc_law_div, od_law_div, .func (PySem.W.fnOf "_law_div" "_law_div" (defArgs s_law_div) (defBody s_law_div) (defScope s_law_div) .none kV_law_div dc_law_div pm_law_div an_law_div cd_law_div ct_law_div), sl_law_div⟩)
  (c_law_div' : PySem.W.codeIn K cd_law_div "_law_div" = true)
  (k_law_div' : PySem.W.keepIn K (.ref f_law_div) = true)
  (a_law_cmp : PySem.W.nsIn K mainGlobals "_law_cmp" = some (some (.ref f_law_cmp)))
  (l_law_cmp : K.lookup f_law_cmp = some ⟨oc_law_cmp, od_law_cmp, .func (PySem.W.fnOf "_law_cmp" "_law_cmp" (defArgs s_law_cmp) (defBody s_law_cmp) (defScope s_law_cmp) .none kV_law_cmp dc_law_cmp pm_law_cmp an_law_cmp cd_law_cmp ct_law_cmp), sl_law_cmp⟩)
  (c_law_cmp' : PySem.W.codeIn K cd_law_cmp "_law_cmp" = true)
  (k_law_cmp' : PySem.W.keepIn K (.ref f_law_cmp) = true)
  (a_law_min : PySem.W.nsIn K mainGlobals "_law_min" = some (some (.ref f_law_min)))
  (l_law_min : K.lookup f_law_min = some ⟨oc_law_min, od_law_min, .func (PySem.W.fnOf "_law_min" "_law_min" (defArgs s_law_min) (defBody s_law_min) (defScope s_law_min) .none kV_law_min dc_law_min pm_law_min an_law_min cd_law_min ct_law_min), sl_law_min⟩)
  (c_law_min' : PySem.W.codeIn K cd_law_min "_law_min" = true)
  (k_law_min' : PySem.W.keepIn K (.ref f_law_min) = true)
  (a_law_take : PySem.W.nsIn K mainGlobals "_law_take" = some (some (.ref f_law_take)))
  (l_law_take : K.lookup f_law_take = some ⟨oc_law_take, od_law_take, .func (PySem.W.fnOf "_law_take" "_law_take" (defArgs s_law_take) (defBody s_law_take) (defScope s_law_take) .none kV_law_take dc_law_take pm_law_take an_law_take cd_law_take ct_law_take), sl_law_take⟩)
  (c_law_take' : PySem.W.codeIn K cd_law_take "_law_take" = true)
  (k_law_take' : PySem.W.keepIn K (.ref f_law_take) = true)
  (a_law_some : PySem.W.nsIn K mainGlobals "_law_some" = some (some (.ref f_law_some)))
  (l_law_some : K.lookup f_law_some = some ⟨oc_law_some, od_law_some, .func (PySem.W.fnOf "_law_some" "_law_some" (defArgs s_law_some) (defBody s_law_some) (defScope s_law_some) .none kV_law_some dc_law_some pm_law_some an_law_some cd_law_some ct_law_some), sl_law_some⟩)
  (c_law_some' : PySem.W.codeIn K cd_law_some "_law_some" = true)
  (k_law_some' : PySem.W.keepIn K (.ref f_law_some) = true)
  (a_law_pos : PySem.W.nsIn K mainGlobals "_law_pos" = some (some (.ref f_law_pos)))
  (l_law_pos : K.lookup f_law_pos = some ⟨oc_law_pos, od_law_pos, .func (PySem.W.fnOf "_law_pos" "_law_pos" (defArgs s_law_pos) (defBody s_law_pos) (defScope s_law_pos) .none kV_law_pos dc_law_pos pm_law_pos an_law_pos cd_law_pos ct_law_pos), sl_law_pos⟩)
  (c_law_pos' : PySem.W.codeIn K cd_law_pos "_law_pos" = true)
  (k_law_pos' : PySem.W.keepIn K (.ref f_law_pos) = true)
  (a_law_frac : PySem.W.nsIn K mainGlobals "_law_frac" = some (some (.ref f_law_frac)))
  (l_law_frac : K.lookup f_law_frac = some ⟨oc_law_frac, od_law_frac, .func (PySem.W.fnOf "_law_frac" "_law_frac" (defArgs s_law_frac) (defBody s_law_frac) (defScope s_law_frac) .none kV_law_frac dc_law_frac pm_law_frac an_law_frac cd_law_frac ct_law_frac), sl_law_frac⟩)
  (c_law_frac' : PySem.W.codeIn K cd_law_frac "_law_frac" = true)
  (k_law_frac' : PySem.W.keepIn K (.ref f_law_frac) = true)
  (a_law_bag : PySem.W.nsIn K mainGlobals "_law_bag" = some (some (.ref f_law_bag)))
  (l_law_bag : K.lookup f_law_bag = some ⟨oc_law_bag, od_law_bag, .func (PySem.W.fnOf "_law_bag" "_law_bag" (defArgs s_law_bag) (defBody s_law_bag) (defScope s_law_bag) .none kV_law_bag dc_law_bag pm_law_bag an_law_bag cd_law_bag ct_law_bag), sl_law_bag⟩)
  (c_law_bag' : PySem.W.codeIn K cd_law_bag "_law_bag" = true)
  (k_law_bag' : PySem.W.keepIn K (.ref f_law_bag) = true)
  (a_law_mixed : PySem.W.nsIn K mainGlobals "_law_mixed" = some (some (.ref f_law_mixed)))
  (l_law_mixed : K.lookup f_law_mixed = some ⟨oc_law_mixed, od_law_mixed, .func (PySem.W.fnOf "_law_mixed" "_law_mixed" (defArgs s_law_mixed) (defBody s_law_mixed) (defScope s_law_mixed) .none kV_law_mixed dc_law_mixed pm_law_mixed an_law_mixed cd_law_mixed ct_law_mixed), sl_law_mixed⟩)
  (c_law_mixed' : PySem.W.codeIn K cd_law_mixed "_law_mixed" = true)
  (k_law_mixed' : PySem.W.keepIn K (.ref f_law_mixed) = true)
  (a_law_on : PySem.W.nsIn K mainGlobals "_law_on" = some (some (.ref f_law_on)))
  (l_law_on : K.lookup f_law_on = some ⟨oc_law_on, od_law_on, .func (PySem.W.fnOf "_law_on" "_law_on" (defArgs s_law_on) (defBody s_law_on) (defScope s_law_on) .none kV_law_on dc_law_on pm_law_on an_law_on cd_law_on ct_law_on), sl_law_on⟩)
  (c_law_on' : PySem.W.codeIn K cd_law_on "_law_on" = true)
  (k_law_on' : PySem.W.keepIn K (.ref f_law_on) = true)
  (a_law_in_order : PySem.W.nsIn K mainGlobals "_law_in_order" = some (some (.ref f_law_in_order)))
  (l_law_in_order : K.lookup f_law_in_order = some ⟨oc_law_in_order, od_law_in_order, .func (PySem.W.fnOf "_law_in_order" "_law_in_order" (defArgs s_law_in_order) (defBody s_law_in_order) (defScope s_law_in_order) .none kV_law_in_order dc_law_in_order pm_law_in_order an_law_in_order cd_law_in_order ct_law_in_order), sl_law_in_order⟩)
  (c_law_in_order' : PySem.W.codeIn K cd_law_in_order "_law_in_order" = true)
  (k_law_in_order' : PySem.W.keepIn K (.ref f_law_in_order) = true)
  (a_law_lowest : PySem.W.nsIn K mainGlobals "_law_lowest" = some (some (.ref f_law_lowest)))
  (l_law_lowest : K.lookup f_law_lowest = some ⟨oc_law_lowest, od_law_lowest, .func (PySem.W.fnOf "_law_lowest" "_law_lowest" (defArgs s_law_lowest) (defBody s_law_lowest) (defScope s_law_lowest) .none kV_law_lowest dc_law_lowest pm_law_lowest an_law_lowest cd_law_lowest ct_law_lowest), sl_law_lowest⟩)
  (c_law_lowest' : PySem.W.codeIn K cd_law_lowest "_law_lowest" = true)
  (k_law_lowest' : PySem.W.keepIn K (.ref f_law_lowest) = true)
  (a_law_some_lines : PySem.W.nsIn K mainGlobals "_law_some_lines" = some (some (.ref f_law_some_lines)))
  (l_law_some_lines : K.lookup f_law_some_lines = some ⟨oc_law_some_lines, od_law_some_lines, .func (PySem.W.fnOf "_law_some_lines" "_law_some_lines" (defArgs s_law_some_lines) (defBody s_law_some_lines) (defScope s_law_some_lines) .none kV_law_some_lines dc_law_some_lines pm_law_some_lines an_law_some_lines cd_law_some_lines ct_law_some_lines), sl_law_some_lines⟩)
  (c_law_some_lines' : PySem.W.codeIn K cd_law_some_lines "_law_some_lines" = true)
  (k_law_some_lines' : PySem.W.keepIn K (.ref f_law_some_lines) = true)
  (a_law_any_values : PySem.W.nsIn K mainGlobals "_law_any_values" = some (some (.ref f_law_any_values)))
  (l_law_any_values : K.lookup f_law_any_values = some ⟨oc_law_any_values, od_law_any_values, .func (PySem.W.fnOf "_law_any_values" "_law_any_values" (defArgs s_law_any_values) (defBody s_law_any_values) (defScope s_law_any_values) .none kV_law_any_values dc_law_any_values pm_law_any_values an_law_any_values cd_law_any_values ct_law_any_values), sl_law_any_values⟩)
  (c_law_any_values' : PySem.W.codeIn K cd_law_any_values "_law_any_values" = true)
  (k_law_any_values' : PySem.W.keepIn K (.ref f_law_any_values) = true)
  (a_law_nothing : PySem.W.nsIn K mainGlobals "_law_nothing" = some (some (.ref f_law_nothing)))
  (l_law_nothing : K.lookup f_law_nothing = some ⟨oc_law_nothing, od_law_nothing, .func (PySem.W.fnOf "_law_nothing" "_law_nothing" (defArgs s_law_nothing) (defBody s_law_nothing) (defScope s_law_nothing) .none kV_law_nothing dc_law_nothing pm_law_nothing an_law_nothing cd_law_nothing ct_law_nothing), sl_law_nothing⟩)
  (c_law_nothing' : PySem.W.codeIn K cd_law_nothing "_law_nothing" = true)
  (k_law_nothing' : PySem.W.keepIn K (.ref f_law_nothing) = true)
  (a_law : PySem.W.nsIn K mainGlobals "law" = some (some (.ref f_law)))
  (l_law : K.lookup f_law = some ⟨oc_law, od_law, .func (PySem.W.fnOf "law" "law" (defArgs s_law) (defBody s_law) (defScope s_law) .none kV_law dc_law pm_law an_law (.ref cT) ct_law), sl_law⟩)
  (c_law' : PySem.W.codeIn K (.ref cT) "law" = true)
  (k_law' : PySem.W.keepIn K (.ref f_law) = true)
  (z_abs : PySem.W.nsIn K mainGlobals "abs" = some none)
  (z_all : PySem.W.nsIn K mainGlobals "all" = some none)
  (z_bool : PySem.W.nsIn K mainGlobals "bool" = some none)
  (z_int : PySem.W.nsIn K mainGlobals "int" = some none)
  (z_isinstance : PySem.W.nsIn K mainGlobals "isinstance" = some none)
  (z_len : PySem.W.nsIn K mainGlobals "len" = some none)
  (z_list : PySem.W.nsIn K mainGlobals "list" = some none)
  (z_range : PySem.W.nsIn K mainGlobals "range" = some none)
  (z_tuple : PySem.W.nsIn K mainGlobals "tuple" = some none)
  (z_zip : PySem.W.nsIn K mainGlobals "zip" = some none)
  (e_ZERO : PySem.W.nsIn K mainGlobals "ZERO" = some (some (.ref q_ZERO)))
  (m_ZERO' : K.lookup q_ZERO = some ⟨.type "tuple", d_ZERO, .seq ([.int 0 t_ZERO_0, .int 1 t_ZERO_1] : List Value).toArray n_ZERO, s_ZERO'⟩)
  (x_Nothing' : PySem.W.nsIn K mainGlobals "Nothing" = some (some (.ref cl_Nothing)))
  (xq_Nothing : PySem.W.excIn K cl_Nothing [.type "ValueError", .type "Exception", .type "BaseException", .type "object"] "ValueError.__new__" = true)
  (xk_Nothing : PySem.W.keepIn K (.ref cl_Nothing) = true)
  (xb_Nothing : PySem.W.subIn K (.ref cl_Nothing) (.type "BaseException") = some true)
  (xt_Nothing : PySem.W.typeIn K (.ref cl_Nothing) = some (.type "type"))
  (xi_Nothing : PySem.W.isClsIn K cl_Nothing = true)
  (xs_Nothing : PySem.W.subIn K (.ref cl_Nothing) (.ref cl_Nothing) = some true) :
  LamX.LawAtS l w K (L2.CX l.prog w) 11 63 "script" mg fa h := by
  have e := hfa.symm.trans (PySem.W.mg_of X G a_law)
  cases e
  let cl : Cls := ⟨cl_Nothing⟩
  have E : Gb K mg cl := { b_abs := PySem.W.mg_none_of X G z_abs, b_all := PySem.W.mg_none_of X G z_all, b_bool := PySem.W.mg_none_of X G z_bool, b_int := PySem.W.mg_none_of X G z_int, b_isinstance := PySem.W.mg_none_of X G z_isinstance, b_len := PySem.W.mg_none_of X G z_len, b_list := PySem.W.mg_none_of X G z_list, b_range := PySem.W.mg_none_of X G z_range, b_tuple := PySem.W.mg_none_of X G z_tuple, b_zip := PySem.W.mg_none_of X G z_zip, g_ZERO := globIs_of (vs := [V.int 0, V.int 1]) X G e_ZERO m_ZERO' (by show 2 ≤ sizeLine; decide) (.cons ⟨_, rfl⟩ (.cons ⟨_, rfl⟩ .nil)) (fun _ _ _ => Reps.cons rfl (Reps.cons rfl (Reps.nil))), x_Nothing := exc0_of X G x_Nothing' xq_Nothing xk_Nothing xb_Nothing xt_Nothing }
  have LF : LamFn K mg "_law_nothing" "act" "Nothing" cl.Nothing := ⟨⟨f_law_nothing, _, _, _, _, _, _, _, _, _, _, _, _, _, _, _, _, _, _, _, _, _, _, _, _, l_law_nothing, c_law_nothing', (fun_mk l_law_nothing c_law_nothing' k_law_nothing').binds (ps := ["act"]) (fun _ _ _ _ _ _ us hl => match us, hl with | [_], _ => rfl), sc_law_nothing, rfl, .inl rfl, rfl, fun _ => rfl, PySem.W.mg_of X G a_law_nothing, k_law_nothing', fun _ => rfl⟩, PySem.W.mg_of X G x_Nothing', exm_self xb_Nothing xi_Nothing xt_Nothing xs_Nothing⟩
  refine' ⟨_, [(cT, PT)], spM [(PT, (envOfC "law" (defScope s_law) 0 0 .none).qual ++ "<lambda>")] K (c_law cl), fun p hp => by rw [List.mem_singleton.mp hp]; exact hP, fun p hp => by rw [List.mem_singleton.mp hp]; exact nP, fun p hp => by rw [List.mem_singleton.mp hp]; exact hC, ?hb, fun H a ns hl hb hH hS => law_sp (L cl) hl hb (tabs_nil (fun p hp => by rw [List.mem_singleton.mp hp]; exact ⟨_, List.mem_singleton.mpr rfl, rfl⟩) hH) hS, fun base hK hN hTB => ?go⟩
  case go =>
    have TB := hTB _ (List.mem_singleton.mpr rfl)
    have g_is_whole : FnIs l.prog w K mg base [(PT, (envOfC "law" (defScope s_law) 0 0 .none).qual ++ "<lambda>")] "is_whole" 1 ["thing"] (c_is_whole cl) := fnIs_of X G a_is_whole l_is_whole c_is_whole' k_is_whole' (fun _ _ _ _ _ _ us hl => match us, hl with | [_], _ => rfl) (fun F => ok_is_whole E  F)
    have g_common_divisor : FnIs l.prog w K mg base [(PT, (envOfC "law" (defScope s_law) 0 0 .none).qual ++ "<lambda>")] "common_divisor" 1 ["one", "other"] (c_common_divisor cl) := fnIs_of X G a_common_divisor l_common_divisor c_common_divisor' k_common_divisor' (fun _ _ _ _ _ _ us hl => match us, hl with | [_, _], _ => rfl) (fun F => ok_common_divisor E  F)
    have g_is_tuple_of : FnIs l.prog w K mg base [(PT, (envOfC "law" (defScope s_law) 0 0 .none).qual ++ "<lambda>")] "is_tuple_of" 1 ["thing", "many"] (c_is_tuple_of cl) := fnIs_of X G a_is_tuple_of l_is_tuple_of c_is_tuple_of' k_is_tuple_of' (fun _ _ _ _ _ _ us hl => match us, hl with | [_, _], _ => rfl) (fun F => ok_is_tuple_of E  F)
    have g_is_fraction : FnIs l.prog w K mg base [(PT, (envOfC "law" (defScope s_law) 0 0 .none).qual ++ "<lambda>")] "is_fraction" 2 ["thing"] (c_is_fraction cl) := fnIs_of X G a_is_fraction l_is_fraction c_is_fraction' k_is_fraction' (fun _ _ _ _ _ _ us hl => match us, hl with | [_], _ => rfl) (fun F => ok_is_fraction E g_common_divisor g_is_tuple_of g_is_whole F)
    have g_fraction : FnIs l.prog w K mg base [(PT, (envOfC "law" (defScope s_law) 0 0 .none).qual ++ "<lambda>")] "fraction" 2 ["top", "bottom"] (c_fraction cl) := fnIs_of X G a_fraction l_fraction c_fraction' k_fraction' (fun _ _ _ _ _ _ us hl => match us, hl with | [_, _], _ => rfl) (fun F => ok_fraction E g_common_divisor F)
    have g_plus : FnIs l.prog w K mg base [(PT, (envOfC "law" (defScope s_law) 0 0 .none).qual ++ "<lambda>")] "plus" 3 ["one", "other"] (c_plus cl) := fnIs_of X G a_plus l_plus c_plus' k_plus' (fun _ _ _ _ _ _ us hl => match us, hl with | [_, _], _ => rfl) (fun F => ok_plus E g_fraction F)
    have g_less : FnIs l.prog w K mg base [(PT, (envOfC "law" (defScope s_law) 0 0 .none).qual ++ "<lambda>")] "less" 3 ["one", "other"] (c_less cl) := fnIs_of X G a_less l_less c_less' k_less' (fun _ _ _ _ _ _ us hl => match us, hl with | [_, _], _ => rfl) (fun F => ok_less E g_fraction F)
    have g_times : FnIs l.prog w K mg base [(PT, (envOfC "law" (defScope s_law) 0 0 .none).qual ++ "<lambda>")] "times" 3 ["one", "other"] (c_times cl) := fnIs_of X G a_times l_times c_times' k_times' (fun _ _ _ _ _ _ us hl => match us, hl with | [_, _], _ => rfl) (fun F => ok_times E g_fraction F)
    have g_over : FnIs l.prog w K mg base [(PT, (envOfC "law" (defScope s_law) 0 0 .none).qual ++ "<lambda>")] "over" 3 ["one", "other"] (c_over cl) := fnIs_of X G a_over l_over c_over' k_over' (fun _ _ _ _ _ _ us hl => match us, hl with | [_, _], _ => rfl) (fun F => ok_over E g_fraction F)
    have g_sign : FnIs l.prog w K mg base [(PT, (envOfC "law" (defScope s_law) 0 0 .none).qual ++ "<lambda>")] "sign" 1 ["one"] (c_sign cl) := fnIs_of X G a_sign l_sign c_sign' k_sign' (fun _ _ _ _ _ _ us hl => match us, hl with | [_], _ => rfl) (fun F => ok_sign E  F)
    have g_compare : FnIs l.prog w K mg base [(PT, (envOfC "law" (defScope s_law) 0 0 .none).qual ++ "<lambda>")] "compare" 2 ["one", "other"] (c_compare cl) := fnIs_of X G a_compare l_compare c_compare' k_compare' (fun _ _ _ _ _ _ us hl => match us, hl with | [_, _], _ => rfl) (fun F => ok_compare E g_sign F)
    have g_line_at : FnIs l.prog w K mg base [(PT, (envOfC "law" (defScope s_law) 0 0 .none).qual ++ "<lambda>")] "line_at" 4 ["line", "m"] (c_line_at cl) := fnIs_of X G a_line_at l_line_at c_line_at' k_line_at' (fun _ _ _ _ _ _ us hl => match us, hl with | [_, _], _ => rfl) (fun F => ok_line_at E g_plus g_times F)
    have g_is_below : FnIs l.prog w K mg base [(PT, (envOfC "law" (defScope s_law) 0 0 .none).qual ++ "<lambda>")] "is_below" 3 ["one", "other"] (c_is_below cl) := fnIs_of X G a_is_below l_is_below c_is_below' k_is_below' (fun _ _ _ _ _ _ us hl => match us, hl with | [_, _], _ => rfl) (fun F => ok_is_below E g_compare F)
    have g_first_line : FnIs l.prog w K mg base [(PT, (envOfC "law" (defScope s_law) 0 0 .none).qual ++ "<lambda>")] "first_line" 4 ["lines"] (c_first_line cl) := fnIs_of X G a_first_line l_first_line c_first_line' k_first_line' (fun _ _ _ _ _ _ us hl => match us, hl with | [_], _ => rfl) (fun F => ok_first_line E g_is_below F)
    have g_next_row : FnIs l.prog w K mg base [(PT, (envOfC "law" (defScope s_law) 0 0 .none).qual ++ "<lambda>")] "next_row" 4 ["line", "lines"] (c_next_row cl) := fnIs_of X G a_next_row l_next_row c_next_row' k_next_row' (fun _ _ _ _ _ _ us hl => match us, hl with | [_, _], _ => rfl) (fun F => ok_next_row E g_compare g_less g_over F)
    have g_lowest : FnIs l.prog w K mg base [(PT, (envOfC "law" (defScope s_law) 0 0 .none).qual ++ "<lambda>")] "lowest" 5 ["lines"] (c_lowest cl) := fnIs_of X G a_lowest l_lowest c_lowest' k_lowest' (fun _ _ _ _ _ _ us hl => match us, hl with | [_], _ => rfl) (fun F => ok_lowest E g_first_line g_next_row F)
    have g_value_on : FnIs l.prog w K mg base [(PT, (envOfC "law" (defScope s_law) 0 0 .none).qual ++ "<lambda>")] "value_on" 5 ["envelope", "m"] (c_value_on cl) := fnIs_of X G a_value_on l_value_on c_value_on' k_value_on' (fun _ _ _ _ _ _ us hl => match us, hl with | [_, _], _ => rfl) (fun F => ok_value_on E g_compare g_is_fraction g_line_at g_sign F)
    have g_lines_of : FnIs l.prog w K mg base [(PT, (envOfC "law" (defScope s_law) 0 0 .none).qual ++ "<lambda>")] "lines_of" 1 ["envelope"] (c_lines_of cl) := fnIs_of X G a_lines_of l_lines_of c_lines_of' k_lines_of' (fun _ _ _ _ _ _ us hl => match us, hl with | [_], _ => rfl) (fun F => ok_lines_of E  F)
    have g_least_of_two : FnIs l.prog w K mg base [(PT, (envOfC "law" (defScope s_law) 0 0 .none).qual ++ "<lambda>")] "least_of_two" 6 ["one", "other"] (c_least_of_two cl) := fnIs_of X G a_least_of_two l_least_of_two c_least_of_two' k_least_of_two' (fun _ _ _ _ _ _ us hl => match us, hl with | [_, _], _ => rfl) (fun F => ok_least_of_two E g_lines_of g_lowest F)
    have g_added_line : FnIs l.prog w K mg base [(PT, (envOfC "law" (defScope s_law) 0 0 .none).qual ++ "<lambda>")] "added_line" 4 ["envelope", "line"] (c_added_line cl) := fnIs_of X G a_added_line l_added_line c_added_line' k_added_line' (fun _ _ _ _ _ _ us hl => match us, hl with | [_, _], _ => rfl) (fun F => ok_added_line E g_plus F)
    have g_is_row : FnIs l.prog w K mg base [(PT, (envOfC "law" (defScope s_law) 0 0 .none).qual ++ "<lambda>")] "is_row" 3 ["thing"] (c_is_row cl) := fnIs_of X G a_is_row l_is_row c_is_row' k_is_row' (fun _ _ _ _ _ _ us hl => match us, hl with | [_], _ => rfl) (fun F => ok_is_row E g_is_fraction g_is_tuple_of g_sign F)
    have g_is_behind : FnIs l.prog w K mg base [(PT, (envOfC "law" (defScope s_law) 0 0 .none).qual ++ "<lambda>")] "is_behind" 5 ["one", "other"] (c_is_behind cl) := fnIs_of X G a_is_behind l_is_behind c_is_behind' k_is_behind' (fun _ _ _ _ _ _ us hl => match us, hl with | [_, _], _ => rfl) (fun F => ok_is_behind E g_compare g_line_at F)
    have g_is_envelope : FnIs l.prog w K mg base [(PT, (envOfC "law" (defScope s_law) 0 0 .none).qual ++ "<lambda>")] "is_envelope" 6 ["thing"] (c_is_envelope cl) := fnIs_of X G a_is_envelope l_is_envelope c_is_envelope' k_is_envelope' (fun _ _ _ _ _ _ us hl => match us, hl with | [_], _ => rfl) (fun F => ok_is_envelope E g_is_behind g_is_row F)
    have g_turns_of : FnIs l.prog w K mg base [(PT, (envOfC "law" (defScope s_law) 0 0 .none).qual ++ "<lambda>")] "turns_of" 1 ["envelope"] (c_turns_of cl) := fnIs_of X G a_turns_of l_turns_of c_turns_of' k_turns_of' (fun _ _ _ _ _ _ us hl => match us, hl with | [_], _ => rfl) (fun F => ok_turns_of E  F)
    have g_law_q : FnIs l.prog w K mg base [(PT, (envOfC "law" (defScope s_law) 0 0 .none).qual ++ "<lambda>")] "_law_q" 1 ["top", "bottom"] (c_law_q cl) := fnIs_of X G a_law_q l_law_q c_law_q' k_law_q' (fun _ _ _ _ _ _ us hl => match us, hl with | [_, _], _ => rfl) (fun F => ok_law_q E  F)
    have g_law_add : FnIs l.prog w K mg base [(PT, (envOfC "law" (defScope s_law) 0 0 .none).qual ++ "<lambda>")] "_law_add" 2 ["one", "other"] (c_law_add cl) := fnIs_of X G a_law_add l_law_add c_law_add' k_law_add' (fun _ _ _ _ _ _ us hl => match us, hl with | [_, _], _ => rfl) (fun F => ok_law_add E g_law_q F)
    have g_law_neg : FnIs l.prog w K mg base [(PT, (envOfC "law" (defScope s_law) 0 0 .none).qual ++ "<lambda>")] "_law_neg" 1 ["one"] (c_law_neg cl) := fnIs_of X G a_law_neg l_law_neg c_law_neg' k_law_neg' (fun _ _ _ _ _ _ us hl => match us, hl with | [_], _ => rfl) (fun F => ok_law_neg E  F)
    have g_law_sub : FnIs l.prog w K mg base [(PT, (envOfC "law" (defScope s_law) 0 0 .none).qual ++ "<lambda>")] "_law_sub" 3 ["one", "other"] (c_law_sub cl) := fnIs_of X G a_law_sub l_law_sub c_law_sub' k_law_sub' (fun _ _ _ _ _ _ us hl => match us, hl with | [_, _], _ => rfl) (fun F => ok_law_sub E g_law_add g_law_neg F)
    have g_law_mul : FnIs l.prog w K mg base [(PT, (envOfC "law" (defScope s_law) 0 0 .none).qual ++ "<lambda>")] "_law_mul" 2 ["one", "other"] (c_law_mul cl) := fnIs_of X G a_law_mul l_law_mul c_law_mul' k_law_mul' (fun _ _ _ _ _ _ us hl => match us, hl with | [_, _], _ => rfl) (fun F => ok_law_mul E g_law_q F)
    have g_law_div : FnIs l.prog w K mg base [(PT, (envOfC "law" (defScope s_law) 0 0 .none).qual ++ "<lambda>")] "_law_div" 2 ["one", "other"] (c_law_div cl) := fnIs_of X G a_law_div l_law_div c_law_div' k_law_div' (fun _ _ _ _ _ _ us hl => match us, hl with | [_, _], _ => rfl) (fun F => ok_law_div E g_law_q F)
    have g_law_cmp : FnIs l.prog w K mg base [(PT, (envOfC "law" (defScope s_law) 0 0 .none).qual ++ "<lambda>")] "_law_cmp" 1 ["one", "other"] (c_law_cmp cl) := fnIs_of X G a_law_cmp l_law_cmp c_law_cmp' k_law_cmp' (fun _ _ _ _ _ _ us hl => match us, hl with | [_, _], _ => rfl) (fun F => ok_law_cmp E  F)
    have g_law_min : FnIs l.prog w K mg base [(PT, (envOfC "law" (defScope s_law) 0 0 .none).qual ++ "<lambda>")] "_law_min" 2 ["things"] (c_law_min cl) := fnIs_of X G a_law_min l_law_min c_law_min' k_law_min' (fun _ _ _ _ _ _ us hl => match us, hl with | [_], _ => rfl) (fun F => ok_law_min E g_law_cmp F)
    have g_law_take : FnIs l.prog w K mg base [(PT, (envOfC "law" (defScope s_law) 0 0 .none).qual ++ "<lambda>")] "_law_take" 1 ["bag", "many"] (c_law_take cl) := fnIs_of X G a_law_take l_law_take c_law_take' k_law_take' (fun _ _ _ _ _ _ us hl => match us, hl with | [_, _], _ => rfl) (fun F => ok_law_take E  F)
    have g_law_some : FnIs l.prog w K mg base [(PT, (envOfC "law" (defScope s_law) 0 0 .none).qual ++ "<lambda>")] "_law_some" 2 ["bag", "things"] (c_law_some cl) := fnIs_of X G a_law_some l_law_some c_law_some' k_law_some' (fun _ _ _ _ _ _ us hl => match us, hl with | [_, _], _ => rfl) (fun F => ok_law_some E g_law_take F)
    have g_law_pos : FnIs l.prog w K mg base [(PT, (envOfC "law" (defScope s_law) 0 0 .none).qual ++ "<lambda>")] "_law_pos" 3 ["bag", "most"] (c_law_pos cl) := fnIs_of X G a_law_pos l_law_pos c_law_pos' k_law_pos' (fun _ _ _ _ _ _ us hl => match us, hl with | [_, _], _ => rfl) (fun F => ok_law_pos E g_law_q g_law_some g_law_take F)
    have g_law_frac : FnIs l.prog w K mg base [(PT, (envOfC "law" (defScope s_law) 0 0 .none).qual ++ "<lambda>")] "_law_frac" 3 ["bag", "most"] (c_law_frac cl) := fnIs_of X G a_law_frac l_law_frac c_law_frac' k_law_frac' (fun _ _ _ _ _ _ us hl => match us, hl with | [_, _], _ => rfl) (fun F => ok_law_frac E g_law_q g_law_some g_law_take F)
    have g_law_bag : FnIs l.prog w K mg base [(PT, (envOfC "law" (defScope s_law) 0 0 .none).qual ++ "<lambda>")] "_law_bag" 1 ["script"] (c_law_bag cl) := fnIs_of X G a_law_bag l_law_bag c_law_bag' k_law_bag' (fun _ _ _ _ _ _ us hl => match us, hl with | [_], _ => rfl) (fun F => ok_law_bag E  F)
    have g_law_mixed : FnIs l.prog w K mg base [(PT, (envOfC "law" (defScope s_law) 0 0 .none).qual ++ "<lambda>")] "_law_mixed" 2 ["bag", "things"] (c_law_mixed cl) := fnIs_of X G a_law_mixed l_law_mixed c_law_mixed' k_law_mixed' (fun _ _ _ _ _ _ us hl => match us, hl with | [_, _], _ => rfl) (fun F => ok_law_mixed E g_law_take F)
    have g_law_on : FnIs l.prog w K mg base [(PT, (envOfC "law" (defScope s_law) 0 0 .none).qual ++ "<lambda>")] "_law_on" 3 ["lines", "m"] (c_law_on cl) := fnIs_of X G a_law_on l_law_on c_law_on' k_law_on' (fun _ _ _ _ _ _ us hl => match us, hl with | [_, _], _ => rfl) (fun F => ok_law_on E g_law_add g_law_min g_law_mul F)
    have g_law_in_order : FnIs l.prog w K mg base [(PT, (envOfC "law" (defScope s_law) 0 0 .none).qual ++ "<lambda>")] "_law_in_order" 2 ["numbers"] (c_law_in_order cl) := fnIs_of X G a_law_in_order l_law_in_order c_law_in_order' k_law_in_order' (fun _ _ _ _ _ _ us hl => match us, hl with | [_], _ => rfl) (fun F => ok_law_in_order E g_law_cmp F)
    have g_law_lowest : FnIs l.prog w K mg base [(PT, (envOfC "law" (defScope s_law) 0 0 .none).qual ++ "<lambda>")] "_law_lowest" 4 ["lines"] (c_law_lowest cl) := fnIs_of X G a_law_lowest l_law_lowest c_law_lowest' k_law_lowest' (fun _ _ _ _ _ _ us hl => match us, hl with | [_], _ => rfl) (fun F => ok_law_lowest E g_law_add g_law_cmp g_law_div g_law_in_order g_law_min g_law_mul g_law_on g_law_sub F)
    have g_law_some_lines : FnIs l.prog w K mg base [(PT, (envOfC "law" (defScope s_law) 0 0 .none).qual ++ "<lambda>")] "_law_some_lines" 4 ["bag", "most"] (c_law_some_lines cl) := fnIs_of X G a_law_some_lines l_law_some_lines c_law_some_lines' k_law_some_lines' (fun _ _ _ _ _ _ us hl => match us, hl with | [_, _], _ => rfl) (fun F => ok_law_some_lines E g_law_add g_law_div g_law_frac g_law_pos g_law_some g_law_take F)
    have g_law_any_values : FnIs l.prog w K mg base [(PT, (envOfC "law" (defScope s_law) 0 0 .none).qual ++ "<lambda>")] "_law_any_values" 7 ["envelope"] (c_law_any_values cl) := fnIs_of X G a_law_any_values l_law_any_values c_law_any_values' k_law_any_values' (fun _ _ _ _ _ _ us hl => match us, hl with | [_], _ => rfl) (fun F => ok_law_any_values E g_is_envelope F)
    exact ok_law E g_law_add g_law_any_values g_law_bag g_law_cmp g_law_div g_law_frac g_law_lowest g_law_mixed g_law_mul g_law_on g_law_pos g_law_some g_law_some_lines g_added_line g_is_envelope g_least_of_two g_lowest g_turns_of g_value_on LF rfl TB l_law c_law'
  exact fun s v => .of_eq rfl
end K03
set_option Elab.async false
set_option linter.all false
set_option maxRecDepth 100000
namespace K03
open PySem PySem.Spec PyProof.Rows L2 RM
/-! numbers -/
def dq (q : Rat) : D := .tup [.int q.num, .int q.den]
def frD (a b : Int) : Rat := Rat.divInt a b
theorem fr_num (a b : Int) (hb : 0 < b) : (frD a b).num = a / (Int.gcd a b : Int) := by
  unfold frD
  rw [Rat.num_divInt, Int.sign_eq_one_of_pos hb, Int.one_mul, Int.gcd_comm]
theorem fr_den (a b : Int) (hb : b ≠ 0) : (frD a b).den = b.natAbs / Int.gcd a b := by
  unfold frD
  rw [Rat.den_divInt, if_neg hb, Int.gcd_comm]
theorem fr_add (p q : Rat) : frD (p.num * q.den + q.num * p.den) (p.den * q.den) = p + q := by
  unfold frD
  rw [Rat.add_def', show ((p.den : Int) * (q.den : Int)) = ((p.den * q.den : Nat) : Int) by push_cast; rfl, Rat.divInt_ofNat]
theorem fr_sub (p q : Rat) : frD (p.num * q.den - q.num * p.den) (p.den * q.den) = p - q := by
  unfold frD
  rw [Rat.sub_def', show ((p.den : Int) * (q.den : Int)) = ((p.den * q.den : Nat) : Int) by push_cast; rfl, Rat.divInt_ofNat]
theorem fr_mul (p q : Rat) : frD (p.num * q.num) (p.den * q.den) = p * q := by
  unfold frD
  rw [Rat.mul_def', show ((p.den : Int) * (q.den : Int)) = ((p.den * q.den : Nat) : Int) by push_cast; rfl, Rat.divInt_ofNat]
theorem fr_div (p q : Rat) : frD (p.num * q.den) (p.den * q.num) = p / q := by
  unfold frD
  rw [Rat.div_def, Rat.inv_def, ← Rat.divInt_mul_divInt, Rat.num_divInt_den]
theorem cmp_lt (p q : Rat) : p.num * q.den - q.num * p.den < 0 ↔ p < q := by
  rw [Rat.lt_iff]
  omega
theorem cmp_le (p q : Rat) : p.num * q.den - q.num * p.den ≤ 0 ↔ p ≤ q := by
  rw [Rat.le_iff]
  omega
theorem cmp_eq (p q : Rat) : p.num * q.den - q.num * p.den = 0 ↔ p = q := by
  rw [Rat.eq_iff_mul_eq_mul]
  omega
/-! sizes -/
def Sz (k : Nat) (q : Rat) : Prop := q.num.natAbs < 2 ^ k ∧ q.den < 2 ^ k
theorem Sz.up {k j : Nat} {q : Rat} (h : Sz k q) (hk : k ≤ j) : Sz j q :=
  ⟨Nat.lt_of_lt_of_le h.1 (Nat.pow_le_pow_right (by decide) hk), Nat.lt_of_lt_of_le h.2 (Nat.pow_le_pow_right (by decide) hk)⟩
theorem sz_fr {k : Nat} {a b : Int} (ha : a.natAbs < 2 ^ k) (hb : b.natAbs < 2 ^ k) (h0 : b ≠ 0) : Sz k (frD a b) := by
  refine ⟨?_, ?_⟩
  · unfold frD
    rw [Rat.num_divInt]
    refine Nat.lt_of_le_of_lt ?_ ha
    rw [Int.natAbs_ediv_of_dvd]
    · refine Nat.le_trans (Nat.div_le_self _ _) ?_
      rw [Int.natAbs_mul]
      have : b.sign.natAbs = 1 := by
        rcases Int.lt_trichotomy b 0 with h | h | h
        · rw [Int.sign_eq_neg_one_of_neg h]; rfl
        · exact absurd h h0
        · rw [Int.sign_eq_one_of_pos h]; rfl
      rw [this, Nat.one_mul]
      exact Nat.le_refl _
    · exact Int.dvd_mul_of_dvd_right (Int.gcd_dvd_right ..)
  · rw [fr_den _ _ h0]
    exact Nat.lt_of_le_of_lt (Nat.div_le_self _ _) hb
theorem sz_mulI {j k : Nat} {a b : Int} (ha : a.natAbs < 2 ^ j) (hb : b.natAbs < 2 ^ k) : (a * b).natAbs < 2 ^ (j + k) := by
  rw [Int.natAbs_mul, Nat.pow_add]
  exact Nat.mul_lt_mul_of_lt_of_le ha (Nat.le_of_lt hb) (Nat.two_pow_pos _)
theorem sz_den {k : Nat} {q : Rat} (h : Sz k q) : (q.den : Int).natAbs < 2 ^ k := by
  rw [Int.natAbs_natCast]; exact h.2
theorem sz_addI {k : Nat} {a b : Int} (ha : a.natAbs < 2 ^ k) (hb : b.natAbs < 2 ^ k) : (a + b).natAbs < 2 ^ (k + 1) := by
  have : (2 : Nat) ^ (k + 1) = 2 ^ k + 2 ^ k := by rw [Nat.pow_succ]; omega
  omega
theorem sz_subI {k : Nat} {a b : Int} (ha : a.natAbs < 2 ^ k) (hb : b.natAbs < 2 ^ k) : (a - b).natAbs < 2 ^ (k + 1) := by
  have : (2 : Nat) ^ (k + 1) = 2 ^ k + 2 ^ k := by rw [Nat.pow_succ]; omega
  omega
theorem pow_up {a k j : Nat} (h : a < 2 ^ k) (hk : k ≤ j) : a < 2 ^ j := Nat.lt_of_lt_of_le h (Nat.pow_le_pow_right (by decide) hk)
theorem den_ne (q : Rat) : (q.den : Int) ≠ 0 := by have := q.den_nz; omega
theorem Sz.add {j k : Nat} {p q : Rat} (hp : Sz j p) (hq : Sz k q) : Sz (j + k + 1) (p + q) := by
  rw [← fr_add]
  refine sz_fr (sz_addI (sz_mulI hp.1 (sz_den hq)) ?_) (pow_up (sz_mulI (sz_den hp) (sz_den hq)) (by omega)) (Int.mul_ne_zero (den_ne p) (den_ne q))
  rw [Nat.add_comm]; exact sz_mulI hq.1 (sz_den hp)
theorem Sz.sub {j k : Nat} {p q : Rat} (hp : Sz j p) (hq : Sz k q) : Sz (j + k + 1) (p - q) := by
  rw [← fr_sub]
  refine sz_fr (sz_subI (sz_mulI hp.1 (sz_den hq)) ?_) (pow_up (sz_mulI (sz_den hp) (sz_den hq)) (by omega)) (Int.mul_ne_zero (den_ne p) (den_ne q))
  rw [Nat.add_comm]; exact sz_mulI hq.1 (sz_den hp)
theorem Sz.mul {j k : Nat} {p q : Rat} (hp : Sz j p) (hq : Sz k q) : Sz (j + k) (p * q) := by
  rw [← fr_mul]
  exact sz_fr (sz_mulI hp.1 hq.1) (sz_mulI (sz_den hp) (sz_den hq)) (Int.mul_ne_zero (den_ne p) (den_ne q))
theorem num_ne {q : Rat} (h : q ≠ 0) : q.num ≠ 0 := fun e => h (Rat.num_eq_zero.mp e)
theorem Sz.div {j k : Nat} {p q : Rat} (hp : Sz j p) (hq : Sz k q) (h0 : q ≠ 0) : Sz (j + k) (p / q) := by
  rw [← fr_div]
  exact sz_fr (sz_mulI hp.1 (sz_den hq)) (sz_mulI (sz_den hp) hq.1) (Int.mul_ne_zero (den_ne p) (num_ne h0))
theorem Sz.neg {j : Nat} {p : Rat} (hp : Sz j p) : Sz j (-p) := ⟨by rw [Rat.neg_num, Int.natAbs_neg]; exact hp.1, hp.2⟩
theorem log2_lt {a k : Nat} (h : a < 2 ^ k) (hk : 0 < k) : a.log2 < k := by
  by_cases h0 : a = 0
  · subst h0; simpa using hk
  · exact (Nat.log2_lt h0).mpr h
end K03
set_option Elab.async false
set_option linter.all false
set_option maxRecDepth 100000
namespace K03
open PySem PySem.Spec PyProof.Rows L2 RM
def Sm (i : Int) : Prop := i.natAbs.log2 < 9000
theorem Sm.of {k : Nat} {i : Int} (h : i.natAbs < 2 ^ k) (hk : k ≤ 9000) : Sm i := log2_lt (pow_up h hk) (by decide)
theorem log2_mono {a b : Nat} (h : a ≤ b) : a.log2 ≤ b.log2 := by
  by_cases h0 : a = 0
  · subst h0; simp
  · exact (Nat.le_log2 (by omega)).mpr (Nat.le_trans (Nat.log2_self_le h0) h)
theorem Sm.le {i j : Int} (h : Sm j) (hij : i.natAbs ≤ j.natAbs) : Sm i := Nat.lt_of_le_of_lt (log2_mono hij) h
theorem trunc_same (d : D) (s : Sto) : trunc s (.ok d s) = .ok d s := by
  unfold trunc
  simp
theorem trunc_exc (c : Addr) (fs) (s : Sto) : trunc s (.exc c fs s) = .exc c fs s := by
  unfold trunc
  simp
theorem trunc_gen {d : D} {s s' : Sto} (hd : below s.length d = true) (h : Shut s s') : trunc s (.ok d s') = .ok d (s'.take s.length) := by
  exact if_pos ⟨hd, h⟩
theorem shut_app (s t : Sto) : Shut s (s ++ t) := ⟨by simp, fun i xs hi h => .inl (by rwa [List.getElem?_append_left hi] at h)⟩
theorem trunc_app {d : D} {s t : Sto} (hd : below s.length d = true) : trunc s (.ok d (s ++ t)) = .ok d s := by
  rw [trunc_gen hd (shut_app s t), List.take_left]
theorem pIx0 (x : D) (xs : List D) (s : Sto) : pIx (.tup (x :: xs)) (.int 0) s = .ok x s := by
  have : L2.atI (x :: xs) 0 = some x := by
    unfold L2.atI L2.ixN
    rw [if_pos (by decide), if_pos (by simp)]
    rfl
  show (match L2.atI (x :: xs) 0 with | some d => Res.ok d s | none => .bad) = _
  rw [this]
theorem pIx1 (x y : D) (xs : List D) (s : Sto) : pIx (.tup (x :: y :: xs)) (.int 1) s = .ok y s := by
  have : L2.atI (x :: y :: xs) 1 = some y := by
    unfold L2.atI L2.ixN
    rw [if_pos (by decide), if_pos (by simp; omega)]
    rfl
  show (match L2.atI (x :: y :: xs) 1 with | some d => Res.ok d s | none => .bad) = _
  rw [this]
theorem dq0 (q : Rat) (s : Sto) : pIx (dq q) (.int 0) s = .ok (.int q.num) s := pIx0 ..
theorem dq1 (q : Rat) (s : Sto) : pIx (dq q) (.int 1) s = .ok (.int q.den) s := pIx1 ..
theorem pMulI {i j : Int} (hi : Sm i) (hj : Sm j) (s : Sto) : pMul (.int i) (.int j) s = .ok (.int (i * j)) s := by
  unfold pMul pI
  have : (decide (i.natAbs.log2 + j.natAbs.log2 < 1000000)) = true := decide_eq_true (by unfold Sm at hi hj; omega)
  show (if (decide (i.natAbs.log2 + j.natAbs.log2 < 1000000)) = true then _ else _) = _
  rw [if_pos this]
theorem pAddI (i j : Int) (s : Sto) : pAdd (.int i) (.int j) s = .ok (.int (i + j)) s := rfl
theorem pSubI (i j : Int) (s : Sto) : pSub (.int i) (.int j) s = .ok (.int (i - j)) s := rfl
theorem pSubB (p q : Bool) (s : Sto) : pSub (.bl p) (.bl q) s = .ok (.int (b2i p - b2i q)) s := rfl
theorem pLtI (i j : Int) (s : Sto) : pLt (.int i) (.int j) s = .ok (.bl (decide (i < j))) s := rfl
theorem pLeI (i j : Int) (s : Sto) : pLe (.int i) (.int j) s = .ok (.bl (decide (i ≤ j))) s := rfl
theorem pGtI (i j : Int) (s : Sto) : pGt (.int i) (.int j) s = .ok (.bl (decide (j < i))) s := rfl
theorem pGeI (i j : Int) (s : Sto) : pGe (.int i) (.int j) s = .ok (.bl (decide (j ≤ i))) s := rfl
theorem pDivI {i j : Int} (h0 : j ≠ 0) (h : j.natAbs < 1073741824 ∨ (0 < j ∧ Sm j)) (s : Sto) : pDiv (.int i) (.int j) s = .ok (.int (i.fdiv j)) s := by
  unfold pDiv pI
  have : (decide (j ≠ 0 ∧ (j.natAbs < 1073741824 ∨ (0 < j ∧ j.natAbs.log2 < 9000)))) = true := decide_eq_true ⟨h0, h⟩
  show (if _ = true then _ else _) = _
  rw [if_pos this]
theorem pModI {i j : Int} (h0 : j ≠ 0) (s : Sto) : pMod (.int i) (.int j) s = .ok (.int (i.fmod j)) s := by
  unfold pMod pI
  show (if (decide (j ≠ 0)) = true then _ else _) = _
  rw [if_pos (decide_eq_true h0)]
theorem pyInt (s : Sto) (k : Nat) (i : Int) : pyOf s (k + 1) (.int i) = some (.int i) := rfl
theorem pEqI (i j : Int) (s : Sto) : pEq (.int i) (.int j) s = .ok (.bl (decide (i = j))) s := by
  show Res.ok (D.bl (PyData.eqv (.int i) (.int j))) s = _
  congr 2
theorem pNeI (i j : Int) (s : Sto) : pNe (.int i) (.int j) s = .ok (.bl (!decide (i = j))) s := by
  show Res.ok (D.bl (!PyData.eqv (.int i) (.int j))) s = _
  congr 2
theorem pTup2 (a b : D) (s : Sto) : pTup [a, b] s = .ok (.tup [a, b]) s := rfl
/-! the greatest common divisor -/
theorem gcd_loop (n : Nat) : ∀ (x y : Nat) (s : Sto), y ≤ n → ∃ k, runW (mTru (mOp2 pNe (mVar 1) (mC (.int 0)))) (mSeq (mPar 0 1 (mCons (mVar 1) (mCons (mOp2 pMod (mVar 0) (mVar 1)) (mNil)))) (mNx)) k [some (.int x), some (.int y)] s = some (.nx [some (.int (Nat.gcd x y)), some (.int 0)] s) := by
  induction n with
  | zero =>
    intro x y s h
    obtain rfl : y = 0 := by omega
    refine ⟨1, ?_⟩
    simp only [runW, mSeq, mRet, mNx, mOpN, mCons, mNil, mOp2, mOp1, mVar, mC, mTru, mIf, mAndT, mOrT, mNotT, mAnd, mOr, mIfS, mAsg, mPar, bindP, bindPs, fin, Res.bind_ok, Res.bind_exc, Res.bind_bad, Res.st_ok, Res.st_exc, Res.st_bad, List.length_cons, List.length_nil, List.map_cons, List.map_nil, List.replicate, List.set_cons_zero, List.set_cons_succ, List.getElem?_cons_zero, List.getElem?_cons_succ, List.cons_append, List.nil_append, List.append_nil, pNeI]
    simp
  | succ n ih =>
    intro x y s h
    by_cases h0 : y = 0
    · subst h0
      refine ⟨1, ?_⟩
      simp only [runW, mSeq, mRet, mNx, mOpN, mCons, mNil, mOp2, mOp1, mVar, mC, mTru, mIf, mAndT, mOrT, mNotT, mAnd, mOr, mIfS, mAsg, mPar, bindP, bindPs, fin, Res.bind_ok, Res.bind_exc, Res.bind_bad, Res.st_ok, Res.st_exc, Res.st_bad, List.length_cons, List.length_nil, List.map_cons, List.map_nil, List.replicate, List.set_cons_zero, List.set_cons_succ, List.getElem?_cons_zero, List.getElem?_cons_succ, List.cons_append, List.nil_append, List.append_nil, pNeI]
      simp
    · obtain ⟨k, hk⟩ := ih y (x % y) s (by have := Nat.mod_lt x (Nat.pos_of_ne_zero h0); omega)
      refine ⟨k + 1, ?_⟩
      have hy : (y : Int) ≠ 0 := by omega
      have hm : (x : Int).fmod y = ((x % y : Nat) : Int) := by rw [Int.fmod_eq_emod_of_nonneg _ (by omega)]; simp
      have e1 : (mTru (mOp2 pNe (mVar 1) (mC (.int 0)))) [some (.int x), some (.int y)] s = .ok true s := by
        simp only [mSeq, mRet, mNx, mOpN, mCons, mNil, mOp2, mOp1, mVar, mC, mTru, mIf, mAndT, mOrT, mNotT, mAnd, mOr, mIfS, mAsg, mPar, bindP, bindPs, fin, Res.bind_ok, Res.bind_exc, Res.bind_bad, Res.st_ok, Res.st_exc, Res.st_bad, List.length_cons, List.length_nil, List.map_cons, List.map_nil, List.replicate, List.set_cons_zero, List.set_cons_succ, List.getElem?_cons_zero, List.getElem?_cons_succ, List.cons_append, List.nil_append, List.append_nil, pNeI]
        simp [h0]
      have e2 : (mSeq (mPar 0 1 (mCons (mVar 1) (mCons (mOp2 pMod (mVar 0) (mVar 1)) (mNil)))) (mNx)) [some (.int x), some (.int y)] s = .nx [some (.int y), some (.int ((x % y : Nat) : Int))] s := by
        simp only [mSeq, mRet, mNx, mOpN, mCons, mNil, mOp2, mOp1, mVar, mC, mTru, mIf, mAndT, mOrT, mNotT, mAnd, mOr, mIfS, mAsg, mPar, bindP, bindPs, fin, Res.bind_ok, Res.bind_exc, Res.bind_bad, Res.st_ok, Res.st_exc, Res.st_bad, List.length_cons, List.length_nil, List.map_cons, List.map_nil, List.replicate, List.set_cons_zero, List.set_cons_succ, List.getElem?_cons_zero, List.getElem?_cons_succ, List.cons_append, List.nil_append, List.append_nil, pModI hy, hm]
      unfold runW
      rw [e1]
      simp only []
      rw [e2]
      simp only []
      rw [hk, Nat.gcd_comm y, ← Nat.gcd_rec, Nat.gcd_comm]
theorem c_gcd (cl : Cls) (a b : Int) (s : Sto) : c_common_divisor cl [.int a, .int b] s = .ok (.int (Int.gcd a b)) s := by
  have ha : (if a < 0 then -a else a) = (a.natAbs : Int) := by split <;> omega
  have hb : (if b < 0 then -b else b) = (b.natAbs : Int) := by split <;> omega
  obtain ⟨k, hk⟩ := gcd_loop b.natAbs a.natAbs b.natAbs s (Nat.le_refl _)
  simp only [c_common_divisor, m_common_divisor, fnM, fAbs, ha, hb, mSeq, mRet, mNx, mOpN, mCons, mNil, mOp2, mOp1, mVar, mC, mTru, mIf, mAndT, mOrT, mNotT, mAnd, mOr, mIfS, mAsg, mPar, bindP, bindPs, fin, Res.bind_ok, Res.bind_exc, Res.bind_bad, Res.st_ok, Res.st_exc, Res.st_bad, List.length_cons, List.length_nil, List.map_cons, List.map_nil, List.replicate, List.set_cons_zero, List.set_cons_succ, List.getElem?_cons_zero, List.getElem?_cons_succ, List.cons_append, List.nil_append, List.append_nil]
  simp only [mWhile_of hk, trunc_same, if_true, Nat.sub_self, List.replicate]
  simp only [mSeq, mVar, mRet, fin, mSeq, mRet, mNx, mOpN, mCons, mNil, mOp2, mOp1, mVar, mC, mTru, mIf, mAndT, mOrT, mNotT, mAnd, mOr, mIfS, mAsg, mPar, bindP, bindPs, fin, Res.bind_ok, Res.bind_exc, Res.bind_bad, Res.st_ok, Res.st_exc, Res.st_bad, List.length_cons, List.length_nil, List.map_cons, List.map_nil, List.replicate, List.set_cons_zero, List.set_cons_succ, List.getElem?_cons_zero, List.getElem?_cons_succ, List.cons_append, List.nil_append, List.append_nil]
  simp [trunc_same, Int.gcd]
end K03
set_option Elab.async false
set_option linter.all false
set_option maxRecDepth 100000
namespace K03
open PySem PySem.Spec PyProof.Rows L2 RM
variable (cl : Cls) (s : Sto)
theorem gcd_pos {a b : Int} (hb : b ≠ 0) : 0 < (Int.gcd a b : Int) := by
  have : 0 < Int.gcd a b := Int.gcd_pos_of_ne_zero_right _ hb
  omega
theorem fdiv_num {a b : Int} (hb : 0 < b) : a.fdiv (Int.gcd a b) = (frD a b).num := by
  rw [fr_num a b hb, Int.fdiv_eq_ediv_of_nonneg _ (by omega)]
theorem fdiv_den {a b : Int} (hb : 0 < b) : b.fdiv (Int.gcd a b) = (frD a b).den := by
  rw [fr_den a b (by omega), Int.fdiv_eq_ediv_of_nonneg _ (by omega)]
  obtain ⟨n, rfl⟩ := Int.eq_ofNat_of_zero_le (Int.le_of_lt hb)
  simp
theorem gcd_le {a b : Int} (hb : 0 < b) : (Int.gcd a b : Int) ≤ b := Int.le_of_dvd hb (Int.gcd_dvd_right ..)
theorem sm_gcd {a b : Int} (hb : 0 < b) (h : Sm b) : Sm (Int.gcd a b) := h.le (by have := gcd_le (a := a) hb; omega)
theorem c_fr {a b : Int} (hb : 0 < b) (h : Sm b) : c_fraction cl [.int a, .int b] s = .ok (dq (frD a b)) s := by
  have g := gcd_pos (a := a) (b := b) (by omega)
  have e0 : ¬ b = 0 := by omega
  simp only [c_fraction, m_fraction, fnM, mSeq, mRet, mNx, mOpN, mCons, mNil, mOp2, mOp1, mVar, mC, mTru, mIf, mAndT, mOrT, mNotT, mAnd, mOr, mIfS, mAsg, mPar, bindP, bindPs, fin, Res.bind_ok, Res.bind_exc, Res.bind_bad, Res.st_ok, Res.st_exc, Res.st_bad, List.length_cons, List.length_nil, List.map_cons, List.map_nil, List.replicate, List.set_cons_zero, List.set_cons_succ, List.getElem?_cons_zero, List.getElem?_cons_succ, List.cons_append, List.nil_append, List.append_nil, pEqI, c_gcd, pGtI, decide_eq_true hb, decide_eq_false e0, pMulI (sm_gcd hb h) (show Sm 1 by unfold Sm; decide), Int.mul_one, if_true, if_false, Bool.false_eq_true, reduceIte, pDivI (show (Int.gcd a b : Int) ≠ 0 by omega) (.inr ⟨g, sm_gcd hb h⟩), pTup2, trunc_same, fdiv_num hb, fdiv_den hb]
  rfl
def Q9 (q : Rat) : Prop := Sz 4000 q
theorem Q9.num {q : Rat} (h : Q9 q) : Sm q.num := Sm.of h.1 (by decide)
theorem Q9.den {q : Rat} (h : Q9 q) : Sm q.den := Sm.of (sz_den h) (by decide)
theorem den_pos (q : Rat) : 0 < (q.den : Int) := by have := q.den_nz; omega
theorem Q9.dd {p q : Rat} (h : Q9 p) (h' : Q9 q) : Sm (p.den * q.den) := Sm.of (sz_mulI (sz_den h) (sz_den h')) (by decide)
theorem dd_pos (p q : Rat) : 0 < (p.den * q.den : Int) := Int.mul_pos (den_pos p) (den_pos q)
theorem c_pl {p q : Rat} (hp : Q9 p) (hq : Q9 q) : c_plus cl [dq p, dq q] s = .ok (dq (p + q)) s := by
  simp only [c_plus, m_plus, fnM, mSeq, mRet, mNx, mOpN, mCons, mNil, mOp2, mOp1, mVar, mC, mTru, mIf, mAndT, mOrT, mNotT, mAnd, mOr, mIfS, mAsg, mPar, bindP, bindPs, fin, Res.bind_ok, Res.bind_exc, Res.bind_bad, Res.st_ok, Res.st_exc, Res.st_bad, List.length_cons, List.length_nil, List.map_cons, List.map_nil, List.replicate, List.set_cons_zero, List.set_cons_succ, List.getElem?_cons_zero, List.getElem?_cons_succ, List.cons_append, List.nil_append, List.append_nil, dq0, dq1, pMulI hp.num hq.den, pMulI hq.num hp.den, pMulI hp.den hq.den, pAddI, c_fr cl _ (dd_pos p q) (Q9.dd hp hq), fr_add, trunc_same]
  rfl
theorem c_ls {p q : Rat} (hp : Q9 p) (hq : Q9 q) : c_less cl [dq p, dq q] s = .ok (dq (p - q)) s := by
  simp only [c_less, m_less, fnM, mSeq, mRet, mNx, mOpN, mCons, mNil, mOp2, mOp1, mVar, mC, mTru, mIf, mAndT, mOrT, mNotT, mAnd, mOr, mIfS, mAsg, mPar, bindP, bindPs, fin, Res.bind_ok, Res.bind_exc, Res.bind_bad, Res.st_ok, Res.st_exc, Res.st_bad, List.length_cons, List.length_nil, List.map_cons, List.map_nil, List.replicate, List.set_cons_zero, List.set_cons_succ, List.getElem?_cons_zero, List.getElem?_cons_succ, List.cons_append, List.nil_append, List.append_nil, dq0, dq1, pMulI hp.num hq.den, pMulI hq.num hp.den, pMulI hp.den hq.den, pSubI, c_fr cl _ (dd_pos p q) (Q9.dd hp hq), fr_sub, trunc_same]
  rfl
theorem c_tm {p q : Rat} (hp : Q9 p) (hq : Q9 q) : c_times cl [dq p, dq q] s = .ok (dq (p * q)) s := by
  simp only [c_times, m_times, fnM, mSeq, mRet, mNx, mOpN, mCons, mNil, mOp2, mOp1, mVar, mC, mTru, mIf, mAndT, mOrT, mNotT, mAnd, mOr, mIfS, mAsg, mPar, bindP, bindPs, fin, Res.bind_ok, Res.bind_exc, Res.bind_bad, Res.st_ok, Res.st_exc, Res.st_bad, List.length_cons, List.length_nil, List.map_cons, List.map_nil, List.replicate, List.set_cons_zero, List.set_cons_succ, List.getElem?_cons_zero, List.getElem?_cons_succ, List.cons_append, List.nil_append, List.append_nil, dq0, dq1, pMulI hp.num hq.num, pMulI hp.den hq.den, pSubI, c_fr cl _ (dd_pos p q) (Q9.dd hp hq), fr_mul, trunc_same]
  rfl
theorem num_pos {q : Rat} (h : 0 < q) : 0 < q.num := by
  have h1 := Rat.num_nonneg.mpr (Rat.le_of_lt h)
  have h2 := num_ne (q := q) (fun e => by rw [e] at h; exact Rat.lt_irrefl h)
  omega
theorem c_ov {p q : Rat} (hp : Q9 p) (hq : Q9 q) (h0 : 0 < q) : c_over cl [dq p, dq q] s = .ok (dq (p / q)) s := by
  have hb : 0 < (p.den : Int) * q.num := Int.mul_pos (den_pos p) (num_pos h0)
  have hs : Sm ((p.den : Int) * q.num) := Sm.of (sz_mulI (sz_den hp) hq.1) (by decide)
  simp only [c_over, m_over, fnM, mSeq, mRet, mNx, mOpN, mCons, mNil, mOp2, mOp1, mVar, mC, mTru, mIf, mAndT, mOrT, mNotT, mAnd, mOr, mIfS, mAsg, mPar, bindP, bindPs, fin, Res.bind_ok, Res.bind_exc, Res.bind_bad, Res.st_ok, Res.st_exc, Res.st_bad, List.length_cons, List.length_nil, List.map_cons, List.map_nil, List.replicate, List.set_cons_zero, List.set_cons_succ, List.getElem?_cons_zero, List.getElem?_cons_succ, List.cons_append, List.nil_append, List.append_nil, dq0, dq1, pMulI hp.num hq.den, pMulI hp.den hq.num, pSubI, c_fr cl _ hb hs, fr_div, trunc_same]
  rfl
def sgn (i : Int) : Int := b2i (decide (0 < i)) - b2i (decide (i < 0))
theorem c_sg (i j : Int) : c_sign cl [.tup [.int i, .int j]] s = .ok (.int (sgn i)) s := by
  simp only [c_sign, m_sign, fnM, mSeq, mRet, mNx, mOpN, mCons, mNil, mOp2, mOp1, mVar, mC, mTru, mIf, mAndT, mOrT, mNotT, mAnd, mOr, mIfS, mAsg, mPar, bindP, bindPs, fin, Res.bind_ok, Res.bind_exc, Res.bind_bad, Res.st_ok, Res.st_exc, Res.st_bad, List.length_cons, List.length_nil, List.map_cons, List.map_nil, List.replicate, List.set_cons_zero, List.set_cons_succ, List.getElem?_cons_zero, List.getElem?_cons_succ, List.cons_append, List.nil_append, List.append_nil, pIx0, pGtI, pLtI, pSubB, trunc_same]
  rfl
def cmp (p q : Rat) : Int := sgn (p.num * q.den - q.num * p.den)
theorem c_cp {p q : Rat} (hp : Q9 p) (hq : Q9 q) : c_compare cl [dq p, dq q] s = .ok (.int (cmp p q)) s := by
  simp only [c_compare, m_compare, fnM, mSeq, mRet, mNx, mOpN, mCons, mNil, mOp2, mOp1, mVar, mC, mTru, mIf, mAndT, mOrT, mNotT, mAnd, mOr, mIfS, mAsg, mPar, bindP, bindPs, fin, Res.bind_ok, Res.bind_exc, Res.bind_bad, Res.st_ok, Res.st_exc, Res.st_bad, List.length_cons, List.length_nil, List.map_cons, List.map_nil, List.replicate, List.set_cons_zero, List.set_cons_succ, List.getElem?_cons_zero, List.getElem?_cons_succ, List.cons_append, List.nil_append, List.append_nil, dq0, dq1, pMulI hp.num hq.den, pMulI hq.num hp.den, pSubI, pTup2, c_sg, trunc_same]
  rfl
theorem sgn_neg (i : Int) : sgn i < 0 ↔ i < 0 := by
  unfold sgn b2i
  by_cases h1 : 0 < i
  · rw [decide_eq_true h1, decide_eq_false (show ¬ i < 0 by omega)]; simp; omega
  · by_cases h2 : i < 0
    · rw [decide_eq_false h1, decide_eq_true h2]; simp; omega
    · rw [decide_eq_false h1, decide_eq_false h2]; simp; omega
theorem sgn_zero (i : Int) : sgn i = 0 ↔ i = 0 := by
  unfold sgn b2i
  by_cases h1 : 0 < i
  · rw [decide_eq_true h1, decide_eq_false (show ¬ i < 0 by omega)]; simp; omega
  · by_cases h2 : i < 0
    · rw [decide_eq_false h1, decide_eq_true h2]; simp; omega
    · rw [decide_eq_false h1, decide_eq_false h2]; simp; omega
theorem cmpL (p q : Rat) : cmp p q < 0 ↔ p < q := (sgn_neg _).trans (cmp_lt p q)
theorem cmpE (p q : Rat) : cmp p q = 0 ↔ p = q := (sgn_zero _).trans (cmp_eq p q)
theorem cmpLe (p q : Rat) : cmp p q ≤ 0 ↔ p ≤ q := by
  rw [Rat.le_iff_lt_or_eq, ← cmpL, ← cmpE]
  omega
theorem cmpG (p q : Rat) : cmp p q ≥ 0 ↔ q ≤ p := by
  rw [← Rat.not_lt, ← cmpL]
  omega
/-! lines -/
abbrev Ln := Rat × Rat
def dl (l : Ln) : D := .tup [dq l.1, dq l.2]
def ev (l : Ln) (m : Rat) : Rat := l.1 + l.2 * m
def LB (l : Ln) : Prop := Sz 200 l.1 ∧ Sz 200 l.2
theorem q9 {k : Nat} {q : Rat} (h : Sz k q) (hk : k ≤ 4000 := by decide) : Q9 q := h.up hk
theorem LB.a {l : Ln} (h : LB l) : Q9 l.1 := q9 h.1
theorem LB.b {l : Ln} (h : LB l) : Q9 l.2 := q9 h.2
theorem dl0 (l : Ln) (s : Sto) : pIx (dl l) (.int 0) s = .ok (dq l.1) s := pIx0 ..
theorem dl1 (l : Ln) (s : Sto) : pIx (dl l) (.int 1) s = .ok (dq l.2) s := pIx1 ..
theorem c_la {l : Ln} {m : Rat} (h : LB l) (hm : Sz 3000 m) : c_line_at cl [dl l, dq m] s = .ok (dq (ev l m)) s := by
  simp only [c_line_at, m_line_at, fnM, mSeq, mRet, mNx, mOpN, mCons, mNil, mOp2, mOp1, mVar, mC, mTru, mIf, mAndT, mOrT, mNotT, mAnd, mOr, mIfS, mAsg, mPar, bindP, bindPs, fin, Res.bind_ok, Res.bind_exc, Res.bind_bad, Res.st_ok, Res.st_exc, Res.st_bad, List.length_cons, List.length_nil, List.map_cons, List.map_nil, List.replicate, List.set_cons_zero, List.set_cons_succ, List.getElem?_cons_zero, List.getElem?_cons_succ, List.cons_append, List.nil_append, List.append_nil, dl0, dl1, c_tm cl _ h.b (q9 hm), c_pl cl _ h.a (q9 (Sz.mul h.2 hm)), trunc_same]
  rfl
def isb (x y : Ln) : Bool := decide (x.1 < y.1 ∨ x.1 = y.1 ∧ x.2 < y.2)
theorem c_ib {x y : Ln} (hx : LB x) (hy : LB y) : c_is_below cl [dl x, dl y] s = .ok (.bl (isb x y)) s := by
  simp only [c_is_below, m_is_below, fnM, mSeq, mRet, mNx, mOpN, mCons, mNil, mOp2, mOp1, mVar, mC, mTru, mIf, mAndT, mOrT, mNotT, mAnd, mOr, mIfS, mAsg, mPar, bindP, bindPs, fin, Res.bind_ok, Res.bind_exc, Res.bind_bad, Res.st_ok, Res.st_exc, Res.st_bad, List.length_cons, List.length_nil, List.map_cons, List.map_nil, List.replicate, List.set_cons_zero, List.set_cons_succ, List.getElem?_cons_zero, List.getElem?_cons_succ, List.cons_append, List.nil_append, List.append_nil, dl0, dl1, c_cp cl _ hx.a hy.a, c_cp cl _ hx.b hy.b, pLtI, pEqI, trunc_same, List.set_cons_succ, List.set_cons_zero]
  simp only [cmpL, cmpE, isb]
  by_cases h1 : x.1 < y.1
  · simp [h1, trunc_same]
  · by_cases h2 : x.1 = y.1
    · have := Rat.lt_irrefl (a := y.1)
      simp [h1, h2, trunc_same, this]
    · simp [h1, h2, trunc_same]
end K03
set_option Elab.async false
set_option linter.all false
set_option maxRecDepth 100000
namespace K03
open PySem PySem.Spec PyProof.Rows L2 RM
theorem loop_run {α β : Type} {p : Pat} {body : MS} {chk : Sto → Prop} (enc : α → D) (f : β → α → β) (R : β → Slo → Sto → Prop) (hc : ∀ b σ s, R b σ s → chk s) : ∀ (xs : List α), (∀ x ∈ xs, ∀ b σ s, R b σ s → ∃ σ1 σ' s', bindP p (enc x) σ = some σ1 ∧ body σ1 s = .nx σ' s' ∧ R (f b x) σ' s') →
    ∀ b σ s, R b σ s → ∃ σ' s', loopM p body chk (xs.map enc) σ s = .nx σ' s' ∧ R (xs.foldl f b) σ' s'
  | [], _, b, σ, s, r => ⟨σ, s, by unfold loopM; exact if_pos (hc _ _ _ r), r⟩
  | x :: xs, h, b, σ, s, r => by
    obtain ⟨σ1, σ', s', e1, e2, r'⟩ := h x List.mem_cons_self b σ s r
    obtain ⟨σ2, s2, e3, r2⟩ := loop_run enc f R hc xs (fun y hy => h y (List.mem_cons_of_mem _ hy)) _ _ _ r'
    refine ⟨σ2, s2, ?_, r2⟩
    rw [List.map_cons]
    unfold loopM
    rw [if_pos (hc _ _ _ r), e1]
    simp only []
    rw [e2]
    exact e3
theorem lc_run {α : Type} {p : Pat} {chk : Sto → Prop} {t : MT} {m : ME} {σ : Slo} {s : Sto} (enc : α → D) (k : α → Bool) (y : α → D) (hs : chk s) : ∀ (xs : List α) (acc : List D), (∀ x ∈ xs, ∃ σ1, bindP p (enc x) σ = some σ1 ∧ t σ1 s = .ok (k x) s ∧ (k x = true → m σ1 s = .ok (y x) s)) → acc.length + xs.length ≤ big →
    lcM p chk t m σ (xs.map enc) acc s = .ok (acc ++ (xs.filter k).map y) s
  | [], acc, _, _ => by
    unfold lcM
    rw [List.map_nil, List.filter_nil, List.map_nil, List.append_nil]
    exact if_pos hs
  | x :: xs, acc, h, hl => by
    obtain ⟨σ1, e1, e2, e3⟩ := h x List.mem_cons_self
    have hl' : acc.length + (xs.length + 1) ≤ big := hl
    rw [List.map_cons]
    unfold lcM
    rw [if_pos hs, e1]
    simp only []
    rw [e2]
    cases hk : k x with
    | false =>
      rw [List.filter_cons_of_neg (by rw [hk]; decide)]
      exact lc_run enc k y hs xs acc (fun z hz => h z (List.mem_cons_of_mem _ hz)) (by omega)
    | true =>
      rw [List.filter_cons_of_pos hk]
      show (noX (m σ1 s)).bind _ = _
      rw [e3 hk]
      show (if acc.length < big then _ else _) = _
      rw [if_pos (by omega), lc_run enc k y hs xs _ (fun z hz => h z (List.mem_cons_of_mem _ hz)) (by rw [List.length_append]; simp; omega)]
      simp
/-- a row: a tuple or a list -/
def RowOf (d : D) (s : Sto) (xs : List D) : Prop := d = .tup xs ∨ ∃ n, d = .lst n ∧ s[n]? = some xs
theorem RowOf.app {d : D} {s : Sto} {xs : List D} (h : RowOf d s xs) (t : Sto) : RowOf d (s ++ t) xs := by
  rcases h with h | ⟨n, h, h2⟩
  · exact .inl h
  · refine .inr ⟨n, h, ?_⟩
    rw [List.getElem?_append_left (List.getElem?_eq_some_iff.mp h2).1]; exact h2
theorem RowOf.it {d : D} {s : Sto} {xs : List D} (h : RowOf d s xs) : ∃ chk, rowIt d s = .ok ⟨xs, chk⟩ s ∧ chk s ∧ ∀ t, chk (s ++ t) := by
  rcases h with rfl | ⟨n, rfl, h2⟩
  · exact ⟨fun _ => True, rfl, trivial, fun _ => trivial⟩
  · refine ⟨fun s => s[n]? = some xs, ?_, h2, fun t => ?_⟩
    · simp only [rowIt, h2]
    · show (s ++ t)[n]? = _
      rw [List.getElem?_append_left (List.getElem?_eq_some_iff.mp h2).1]; exact h2
theorem at0 (x : D) (xs : List D) : L2.atI (x :: xs) 0 = some x := by
  unfold L2.atI L2.ixN
  rw [if_pos (by decide), if_pos (by simp)]
  rfl
theorem RowOf.ix0 {d x : D} {s : Sto} {xs : List D} (h : RowOf d s (x :: xs)) : pIx d (.int 0) s = .ok x s := by
  rcases h with rfl | ⟨n, rfl, h2⟩
  · exact pIx0 ..
  · show (match s[n]? with | some xs => (match L2.atI xs 0 with | some d => Res.ok d s | none => .bad) | none => .bad) = _
    rw [h2]
    simp only []
    rw [at0]
theorem cut1 (x : D) (xs : List D) : RM.cutD (x :: xs) (some 1) none = xs := by
  unfold RM.cutD HT.sIx
  simp
theorem RowOf.tl {d x : D} {s : Sto} {xs : List D} (h : RowOf d s (x :: xs)) : ∃ e t, pSl d (some 1) none s = .ok e (s ++ t) ∧ RowOf e (s ++ t) xs := by
  rcases h with rfl | ⟨n, rfl, h2⟩
  · refine ⟨.tup xs, [], ?_, .inl rfl⟩
    show Res.ok (D.tup (RM.cutD (x :: xs) (some 1) none)) s = _
    rw [cut1, List.append_nil]
  · refine ⟨.lst s.length, [xs], ?_, .inr ⟨_, rfl, by simp⟩⟩
    show (match s[n]? with | some xs => Res.ok (D.lst s.length) (s ++ [RM.cutD xs (some 1) none]) | none => .bad) = _
    rw [h2]
    simp only []
    rw [cut1]
theorem mem_foldl {α : Type} {P : α → Prop} {f : α → α → α} (hf : ∀ a b, P a → P b → P (f a b)) : ∀ (xs : List α) (a : α), P a → (∀ x ∈ xs, P x) → P (xs.foldl f a)
  | [], _, h, _ => h
  | x :: xs, a, h, hx => mem_foldl hf xs (f a x) (hf a x h (hx x List.mem_cons_self)) fun y hy => hx y (List.mem_cons_of_mem _ hy)
def lower (f l : Ln) : Ln := if isb l f then l else f
theorem lower_lb {f l : Ln} (h : LB f) (h' : LB l) : LB (lower f l) := by unfold lower; split <;> assumption
def firstL (x : Ln) (xs : List Ln) : Ln := xs.foldl lower x
theorem firstL_lb {x : Ln} {xs : List Ln} (h : ∀ l ∈ x :: xs, LB l) : LB (firstL x xs) := mem_foldl (fun _ _ => lower_lb) xs x (h x List.mem_cons_self) fun y hy => h y (List.mem_cons_of_mem _ hy)
theorem below_dq (n : Nat) (q : Rat) : below n (dq q) = true := by simp [dq, below, belows]
theorem below_dl (n : Nat) (l : Ln) : below n (dl l) = true := by simp [dl, below, belows, below_dq]
variable (cl : Cls)
theorem c_fl {d : D} {s : Sto} {x : Ln} {xs : List Ln} (h : ∀ l ∈ x :: xs, LB l) (hd : RowOf d s ((x :: xs).map dl)) : c_first_line cl [d] s = .ok (dl (firstL x xs)) s := by
  obtain ⟨e, t, e1, e2⟩ := hd.tl
  obtain ⟨chk, e3, e4, -⟩ := e2.it
  obtain ⟨σ', s', e5, ⟨o, rfl, rfl⟩, -⟩ := loop_run (p := .nm 2) (body := mSeq (mAsg (.nm 1) (mIf (mTru (mOpN (c_is_below cl) (mCons (mVar 2) (mCons (mVar 1) (mNil))))) (mVar 2) (mVar 1))) (mNx)) (chk := chk) dl lower
    (fun f σ s' => (∃ o, σ = [some d, some (dl f), o] ∧ s' = s ++ t) ∧ LB f) (fun b σ s' r => by obtain ⟨⟨o, _, rfl⟩, _⟩ := r; exact e4) xs (fun y hy f σ s' r => by
      obtain ⟨⟨o, rfl, rfl⟩, hf⟩ := r
      have hy' := h y (List.mem_cons_of_mem _ hy)
      refine ⟨_, _, _, rfl, ?_, ⟨some (dl y), rfl, rfl⟩, lower_lb hf hy'⟩
      simp only [mSeq, mRet, mNx, mOpN, mCons, mNil, mOp2, mOp1, mVar, mC, mTru, mIf, mAndT, mOrT, mNotT, mAnd, mOr, mIfS, mAsg, mPar, bindP, bindPs, fin, Res.bind_ok, Res.bind_exc, Res.bind_bad, Res.st_ok, Res.st_exc, Res.st_bad, List.length_cons, List.length_nil, List.map_cons, List.map_nil, List.replicate, List.set_cons_zero, List.set_cons_succ, List.getElem?_cons_zero, List.getElem?_cons_succ, List.cons_append, List.nil_append, List.append_nil, c_ib cl _ hy' hf]
      unfold lower
      cases isb y f <;> rfl) x [some d, some (dl x), none] (s ++ t) ⟨⟨none, rfl, rfl⟩, h x List.mem_cons_self⟩
  simp only [c_first_line, m_first_line, fnM, if_true, List.length_cons, List.length_nil, List.map_cons, List.map_nil, Nat.reduceSub, List.replicate]
  simp only [mFor, mRow, mSl, mPart, mNoPart, mSeq, mRet, mNx, mOpN, mCons, mNil, mOp2, mOp1, mVar, mC, mTru, mIf, mAndT, mOrT, mNotT, mAnd, mOr, mIfS, mAsg, mPar, bindP, bindPs, fin, Res.bind_ok, Res.bind_exc, Res.bind_bad, Res.st_ok, Res.st_exc, Res.st_bad, List.length_cons, List.length_nil, List.map_cons, List.map_nil, List.replicate, List.set_cons_zero, List.set_cons_succ, List.getElem?_cons_zero, List.getElem?_cons_succ, List.cons_append, List.nil_append, List.append_nil, hd.ix0, e1, e3, e5]
  exact trunc_app (below_dl _ _)
end K03
set_option Elab.async false
set_option linter.all false
set_option maxRecDepth 100000
namespace K03
open PySem PySem.Spec PyProof.Rows L2 RM
abbrev Rw := Rat × Ln
def dr (r : Rw) : D := .tup [dq r.1, dl r.2]
def RB (r : Rw) : Prop := Sz 802 r.1 ∧ LB r.2
def better (L : Ln) (f : Option Rw) (o : Ln) : Option Rw :=
  if o.2 < L.2 then
    match f with
    | none => some ((o.1 - L.1) / (L.2 - o.2), o)
    | some r => if (o.1 - L.1) / (L.2 - o.2) < r.1 ∨ (o.1 - L.1) / (L.2 - o.2) = r.1 ∧ o.2 < r.2.2 then some ((o.1 - L.1) / (L.2 - o.2), o) else some r
  else f
def nextL (L : Ln) (ls : List Ln) : Option Rw := ls.foldl (better L) none
def OB : Option Rw → Prop | none => True | some r => RB r
def dor : Option Rw → D | none => .non | some r => dr r
theorem dr0 (r : Rw) (s : Sto) : pIx (dr r) (.int 0) s = .ok (dq r.1) s := pIx0 ..
theorem dr1 (r : Rw) (s : Sto) : pIx (dr r) (.int 1) s = .ok (dl r.2) s := pIx1 ..
theorem sub_pos {p q : Rat} (h : p < q) : 0 < q - p := (Rat.lt_iff_sub_pos _ _).mp h
theorem rb_of {L o : Ln} (hL : LB L) (ho : LB o) (h : o.2 < L.2) : RB ((o.1 - L.1) / (L.2 - o.2), o) :=
  ⟨(Sz.div (Sz.sub ho.1 hL.1) (Sz.sub hL.2 ho.2) (fun e => by have := sub_pos h; rw [e] at this; exact Rat.lt_irrefl this)).up (by decide), ho⟩
theorem better_ob {L : Ln} (hL : LB L) {f : Option Rw} {o : Ln} (hf : OB f) (ho : LB o) : OB (better L f o) := by
  unfold better
  split
  · rename_i h
    cases f with
    | none => exact rb_of hL ho h
    | some r =>
      simp only []
      split
      · exact rb_of hL ho h
      · exact hf
  · exact hf
theorem nextL_ob {L : Ln} (hL : LB L) {ls : List Ln} (h : ∀ l ∈ ls, LB l) : OB (nextL L ls) := by
  unfold nextL
  suffices ∀ (xs : List Ln) (f : Option Rw), OB f → (∀ l ∈ xs, LB l) → OB (xs.foldl (better L) f) from this ls none trivial h
  intro xs
  induction xs with
  | nil => intro f hf _; exact hf
  | cons x xs ih => intro f hf hx; exact ih _ (better_ob hL hf (hx x List.mem_cons_self)) fun y hy => hx y (List.mem_cons_of_mem _ hy)
theorem pIsNon (s : Sto) : pIs .non .non s = .ok (.bl true) s := rfl
theorem pIsNon_dr (r : Rw) (s : Sto) : pIs (dr r) .non s = .ok (.bl false) s := rfl
theorem pNegI (i : Int) (s : Sto) : pNeg (.int i) s = .ok (.int (-i)) s := rfl
theorem below_dr (n : Nat) (r : Rw) : below n (dr r) = true := by simp [dr, below, belows, below_dq, below_dl]
theorem below_dor (n : Nat) (r : Option Rw) : below n (dor r) = true := by
  cases r with
  | none => rfl
  | some r => exact below_dr ..
variable (cl : Cls)
theorem c_nr {d : D} {s : Sto} {L : Ln} {xs : List Ln} (hL : LB L) (h : ∀ l ∈ xs, LB l) (hd : RowOf d s (xs.map dl)) : c_next_row cl [dl L, d] s = .ok (dor (nextL L xs)) s := by
  obtain ⟨chk, e3, e4, -⟩ := hd.it
  obtain ⟨σ', s', e5, ⟨o1, o2, o3, rfl, rfl⟩, -⟩ := loop_run (p := .nm 3) (body := (mSeq (mIfS (mTru (mOp2 pLt (mOpN (c_compare cl) (mCons (mOp2 pIx (mVar 3) (mC (.int 1))) (mCons (mOp2 pIx (mVar 0) (mC (.int 1))) (mNil)))) (mC (.int 0)))) (mSeq (mAsg (.nm 4) (mOpN (c_over cl) (mCons (mOpN (c_less cl) (mCons (mOp2 pIx (mVar 3) (mC (.int 0))) (mCons (mOp2 pIx (mVar 0) (mC (.int 0))) (mNil)))) (mCons (mOpN (c_less cl) (mCons (mOp2 pIx (mVar 0) (mC (.int 1))) (mCons (mOp2 pIx (mVar 3) (mC (.int 1))) (mNil)))) (mNil))))) (mSeq (mAsg (.nm 5) (mIf (mTru (mOp2 pIs (mVar 2) (mC .non))) (mOp1 pNeg (mC (.int 1))) (mOpN (c_compare cl) (mCons (mVar 4) (mCons (mOp2 pIx (mVar 2) (mC (.int 0))) (mNil)))))) (mSeq (mIfS (mOrT (mTru (mOp2 pLt (mVar 5) (mC (.int 0)))) (mAndT (mTru (mOp2 pEq (mVar 5) (mC (.int 0)))) (mTru (mOp2 pLt (mOpN (c_compare cl) (mCons (mOp2 pIx (mVar 3) (mC (.int 1))) (mCons (mOp2 pIx (mOp2 pIx (mVar 2) (mC (.int 1))) (mC (.int 1))) (mNil)))) (mC (.int 0)))))) (mSeq (mAsg (.nm 2) (mOpN pTup (mCons (mVar 4) (mCons (mVar 3) (mNil))))) (mNx)) (mNx)) (mNx)))) (mNx)) (mNx))) (chk := chk) dl (better L)
    (fun f σ s' => (∃ o1 o2 o3, σ = [some (dl L), some d, some (dor f), o1, o2, o3] ∧ s' = s) ∧ OB f) (fun b σ s' r => by obtain ⟨⟨_, _, _, _, rfl⟩, _⟩ := r; exact e4) xs (fun y hy f σ s' r => by
      obtain ⟨⟨o1, o2, o3, rfl, rfl⟩, hf⟩ := r
      have hy' := h y hy
      have nb := better_ob hL hf hy'
      by_cases c : y.2 < L.2
      · have rb := rb_of hL hy' c
        have s1 := Sz.sub hy'.1 hL.1
        have s2 := Sz.sub hL.2 hy'.2
        cases f with
        | none =>
          refine ⟨_, _, _, rfl, ?_, ⟨some (dl y), some (dq ((y.1 - L.1) / (L.2 - y.2))), some (.int (-1)), rfl, rfl⟩, nb⟩
          simp only [mSeq, mRet, mNx, mOpN, mCons, mNil, mOp2, mOp1, mVar, mC, mTru, mIf, mAndT, mOrT, mNotT, mAnd, mOr, mIfS, mAsg, mPar, bindP, bindPs, fin, Res.bind_ok, Res.bind_exc, Res.bind_bad, Res.st_ok, Res.st_exc, Res.st_bad, List.length_cons, List.length_nil, List.map_cons, List.map_nil, List.replicate, List.set_cons_zero, List.set_cons_succ, List.getElem?_cons_zero, List.getElem?_cons_succ, List.cons_append, List.nil_append, List.append_nil, dl0, dl1, c_cp cl _ hy'.b hL.b, pLtI, cmpL, c, decide_true, reduceIte, c_ls cl _ hy'.a hL.a, c_ls cl _ hL.b hy'.b, c_ov cl _ (q9 s1) (q9 s2) (sub_pos c), dor, pIsNon, pNegI, pTup2]
          unfold better
          rw [if_pos c]
          rfl
        | some r =>
          refine ⟨_, _, _, rfl, ?_, ⟨some (dl y), some (dq ((y.1 - L.1) / (L.2 - y.2))), some (.int (cmp ((y.1 - L.1) / (L.2 - y.2)) r.1)), rfl, rfl⟩, nb⟩
          have hr : RB r := hf
          simp only [mSeq, mRet, mNx, mOpN, mCons, mNil, mOp2, mOp1, mVar, mC, mTru, mIf, mAndT, mOrT, mNotT, mAnd, mOr, mIfS, mAsg, mPar, bindP, bindPs, fin, Res.bind_ok, Res.bind_exc, Res.bind_bad, Res.st_ok, Res.st_exc, Res.st_bad, List.length_cons, List.length_nil, List.map_cons, List.map_nil, List.replicate, List.set_cons_zero, List.set_cons_succ, List.getElem?_cons_zero, List.getElem?_cons_succ, List.cons_append, List.nil_append, List.append_nil, dl0, dl1, dr0, dr1, c_cp cl _ hy'.b hL.b, pLtI, cmpL, c, decide_true, reduceIte, c_ls cl _ hy'.a hL.a, c_ls cl _ hL.b hy'.b, c_ov cl _ (q9 s1) (q9 s2) (sub_pos c), dor, pIsNon_dr, pNegI, pTup2, Bool.false_eq_true, c_cp cl _ (q9 rb.1) (q9 hr.1), c_cp cl _ hy'.b hr.2.b, pEqI, cmpE]
          unfold better
          rw [if_pos c]
          simp only []
          by_cases h1 : (y.1 - L.1) / (L.2 - y.2) < r.1
          · simp only [h1, decide_true, reduceIte, true_or, dr, Res.st_ok, Res.bind_ok]
          · by_cases h2 : (y.1 - L.1) / (L.2 - y.2) = r.1
            · by_cases h3 : y.2 < r.2.2
              · simp only [h2, h3, Rat.lt_irrefl, decide_true, decide_false, reduceIte, true_and, and_self, or_true, Bool.false_eq_true, dr, Res.st_ok, Res.bind_ok]
              · simp only [h2, h3, Rat.lt_irrefl, decide_true, decide_false, reduceIte, true_and, and_false, or_false, Bool.false_eq_true, dr, Res.st_ok, Res.bind_ok]
            · simp only [h1, h2, decide_true, decide_false, reduceIte, false_and, or_false, Bool.false_eq_true, dr, Res.st_ok, Res.bind_ok]
      · refine ⟨_, _, _, rfl, ?_, ⟨some (dl y), o2, o3, rfl, rfl⟩, nb⟩
        simp only [mSeq, mRet, mNx, mOpN, mCons, mNil, mOp2, mOp1, mVar, mC, mTru, mIf, mAndT, mOrT, mNotT, mAnd, mOr, mIfS, mAsg, mPar, bindP, bindPs, fin, Res.bind_ok, Res.bind_exc, Res.bind_bad, Res.st_ok, Res.st_exc, Res.st_bad, List.length_cons, List.length_nil, List.map_cons, List.map_nil, List.replicate, List.set_cons_zero, List.set_cons_succ, List.getElem?_cons_zero, List.getElem?_cons_succ, List.cons_append, List.nil_append, List.append_nil, dl0, dl1, c_cp cl _ hy'.b hL.b, pLtI, cmpL, c, decide_false, reduceIte, Bool.false_eq_true]
        unfold better
        rw [if_neg c]) none [some (dl L), some d, some .non, none, none, none] s ⟨⟨none, none, none, rfl, rfl⟩, trivial⟩
  simp only [c_next_row, m_next_row, fnM, if_true, List.length_cons, List.length_nil, List.map_cons, List.map_nil, Nat.reduceSub, List.replicate]
  simp only [mFor, mRow, mSeq, mRet, mNx, mOpN, mCons, mNil, mOp2, mOp1, mVar, mC, mTru, mIf, mAndT, mOrT, mNotT, mAnd, mOr, mIfS, mAsg, mPar, bindP, bindPs, fin, Res.bind_ok, Res.bind_exc, Res.bind_bad, Res.st_ok, Res.st_exc, Res.st_bad, List.length_cons, List.length_nil, List.map_cons, List.map_nil, List.replicate, List.set_cons_zero, List.set_cons_succ, List.getElem?_cons_zero, List.getElem?_cons_succ, List.cons_append, List.nil_append, List.append_nil, e3, e5]
  exact trunc_same ..
end K03
set_option Elab.async false
set_option linter.all false
set_option maxRecDepth 100000
namespace K03
open PySem PySem.Spec PyProof.Rows L2 RM
def IsChain (ls : List Ln) : Ln → List Rw → Prop
  | L, [] => nextL L ls = none
  | L, r :: rs => nextL L ls = some r ∧ IsChain ls r.2 rs
def envD (rows : List Rw) : D := .tup (rows.map dr)
variable (cl : Cls)
theorem dor_none : dor none = .non := rfl
theorem dor_some (r : Rw) : dor (some r) = dr r := rfl
theorem below_bl (n : Nat) (b : Bool) : below n (.bl b) = true := by unfold RM.below; rfl
theorem set_last (s : Sto) (x y : List D) : (s ++ [x]).set s.length y = s ++ [y] := by
  rw [List.set_append_right _ _ (Nat.le_refl _), Nat.sub_self]
  rfl
theorem get_last (s : Sto) (x : List D) : (s ++ [x])[s.length]? = some x := by simp
theorem belows_map {α : Type} (n : Nat) (f : α → D) (h : ∀ x, below n (f x) = true) : ∀ xs : List α, belows n (xs.map f) = true
  | [] => rfl
  | x :: xs => by simp [belows, h x, belows_map n f h xs]
theorem below_env (n : Nat) (rows : List Rw) : below n (envD rows) = true := by
  show belows n (rows.map dr) = true
  exact belows_map n dr (below_dr n) rows
theorem pIsNot_non (s : Sto) : pIsNot .non .non s = .ok (.bl false) s := rfl
theorem pIsNot_dr (r : Rw) (s : Sto) : pIsNot (dr r) .non s = .ok (.bl true) s := rfl
theorem app_last (s : Sto) (acc : List D) (x : D) (h : acc.length < big) : gAppend (.lst s.length) [x] (s ++ [acc]) = .ok .non (s ++ [acc ++ [x]]) := by
  simp only [gAppend, get_last, if_pos h, set_last]
theorem lowest_loop {d : D} {s : Sto} {ls : List Ln} (h : ∀ l ∈ ls, LB l) (hd : RowOf d s (ls.map dl)) : ∀ (rows : List Rw) (L : Ln) (acc : List D), LB L → IsChain ls L rows → acc.length + rows.length < big →
    runW (mTru (mOp2 pIsNot (mVar 2) (mC .non))) (mSeq (mDrop (mMethL gAppend (mVar 1) (mCons (mVar 2) (mNil)))) (mSeq (mAsg (.nm 2) (mOpN (c_next_row cl) (mCons (mOp2 pIx (mVar 2) (mC (.int 1))) (mCons (mVar 0) (mNil))))) (mNx))) (rows.length + 1) [some d, some (.lst s.length), some (dor (nextL L ls))] (s ++ [acc]) = some (.nx [some d, some (.lst s.length), some .non] (s ++ [acc ++ rows.map dr]))
  | [], L, acc, hL, hc, hl => by
    have e : nextL L ls = none := hc
    rw [e]
    unfold runW
    simp only [mSeq, mRet, mNx, mOpN, mCons, mNil, mOp2, mOp1, mVar, mC, mTru, mIf, mAndT, mOrT, mNotT, mAnd, mOr, mIfS, mAsg, mPar, bindP, bindPs, fin, Res.bind_ok, Res.bind_exc, Res.bind_bad, Res.st_ok, Res.st_exc, Res.st_bad, List.length_cons, List.length_nil, List.map_cons, List.map_nil, List.replicate, List.set_cons_zero, List.set_cons_succ, List.getElem?_cons_zero, List.getElem?_cons_succ, List.cons_append, List.nil_append, List.append_nil, dor_none, pIsNot_non, Bool.false_eq_true, reduceIte]
  | r :: rs, L, acc, hL, hc, hl => by
    obtain ⟨e, hc'⟩ := hc
    have hr : RB r := by have := nextL_ob hL h; rw [e] at this; exact this
    rw [e]
    have hl' : acc.length + (rs.length + 1) < big := hl
    have ih := lowest_loop h hd rs r.2 (acc ++ [dr r]) hr.2 hc' (by rw [List.length_append]; simp; omega)
    show runW _ _ (rs.length + 1 + 1) _ _ = _
    unfold runW
    simp only [mSeq, mRet, mNx, mOpN, mCons, mNil, mOp2, mOp1, mVar, mC, mTru, mIf, mAndT, mOrT, mNotT, mAnd, mOr, mIfS, mAsg, mPar, bindP, bindPs, fin, Res.bind_ok, Res.bind_exc, Res.bind_bad, Res.st_ok, Res.st_exc, Res.st_bad, List.length_cons, List.length_nil, List.map_cons, List.map_nil, List.replicate, List.set_cons_zero, List.set_cons_succ, List.getElem?_cons_zero, List.getElem?_cons_succ, List.cons_append, List.nil_append, List.append_nil, dor_some, pIsNot_dr, mDrop, mMethL, isL, if_true, app_last s acc (dr r) (by omega), dr1, c_nr cl hr.2 h (hd.app [acc ++ [dr r]])]
    rw [ih]
    simp
theorem pNeg1 (s : Sto) : pNeg (.int 1) s = .ok (.int (-1)) s := rfl
theorem ix_last (s : Sto) (x : D) : pIx (.lst s.length) (.int (-1)) (s ++ [[x]]) = .ok x (s ++ [[x]]) := by
  simp only [pIx, get_last]
  rfl
theorem pLst1 (s : Sto) (x : D) : pLst [x] s = .ok (.lst s.length) (s ++ [[x]]) := rfl
theorem dq_zero : dq 0 = k_ZERO := rfl
theorem c_lw {d : D} {s : Sto} {x : Ln} {xs : List Ln} {rows : List Rw} (h : ∀ l ∈ x :: xs, LB l) (hd : RowOf d s ((x :: xs).map dl)) (hc : IsChain (x :: xs) (firstL x xs) rows) (hl : rows.length + 1 < big) :
    c_lowest cl [d] s = .ok (envD ((0, firstL x xs) :: rows)) s := by
  have hf := firstL_lb h
  have hw := lowest_loop cl h hd rows (firstL x xs) [dr (0, firstL x xs)] hf hc (by simp; omega)
  simp only [c_lowest, m_lowest, fnM, if_true, List.length_cons, List.length_nil, List.map_cons, List.map_nil, Nat.reduceSub, List.replicate]
  simp only [mSeq, mRet, mNx, mOpN, mCons, mNil, mOp2, mOp1, mVar, mC, mTru, mIf, mAndT, mOrT, mNotT, mAnd, mOr, mIfS, mAsg, mPar, bindP, bindPs, fin, Res.bind_ok, Res.bind_exc, Res.bind_bad, Res.st_ok, Res.st_exc, Res.st_bad, List.length_cons, List.length_nil, List.map_cons, List.map_nil, List.replicate, List.set_cons_zero, List.set_cons_succ, List.getElem?_cons_zero, List.getElem?_cons_succ, List.cons_append, List.nil_append, List.append_nil, c_fl cl h hd, pTup2, pLst1, pNeg1, ix_last, pIx1, c_nr cl hf h (hd.app [[.tup [k_ZERO, dl (firstL x xs)]]])]
  rw [← dq_zero]
  have e : ([D.tup [dq 0, dl (firstL x xs)]] : List D) = [dr (0, firstL x xs)] := rfl
  rw [e, mWhile_of hw]
  simp only [mSeq, mRet, mNx, mOpN, mCons, mNil, mOp2, mOp1, mVar, mC, mTru, mIf, mAndT, mOrT, mNotT, mAnd, mOr, mIfS, mAsg, mPar, bindP, bindPs, fin, Res.bind_ok, Res.bind_exc, Res.bind_bad, Res.st_ok, Res.st_exc, Res.st_bad, List.length_cons, List.length_nil, List.map_cons, List.map_nil, List.replicate, List.set_cons_zero, List.set_cons_succ, List.getElem?_cons_zero, List.getElem?_cons_succ, List.cons_append, List.nil_append, List.append_nil, fTuple, itemsOf, get_last]
  exact trunc_app (below_env ..)
/-! fractions -/
def isIntD : D → Bool | .int _ => true | _ => false
theorem isi_int (T : String) (i : Int) (s : Sto) : pIsi "int" (.int i) s = .ok (.bl true) s := rfl
theorem isi_bool (i : Int) (s : Sto) : pIsi "bool" (.int i) s = .ok (.bl false) s := rfl
theorem c_wh (i : Int) (s : Sto) : c_is_whole cl [.int i] s = .ok (.bl true) s := by
  simp only [c_is_whole, m_is_whole, fnM, mSeq, mRet, mNx, mOpN, mCons, mNil, mOp2, mOp1, mVar, mC, mTru, mIf, mAndT, mOrT, mNotT, mAnd, mOr, mIfS, mAsg, mPar, bindP, bindPs, fin, Res.bind_ok, Res.bind_exc, Res.bind_bad, Res.st_ok, Res.st_exc, Res.st_bad, List.length_cons, List.length_nil, List.map_cons, List.map_nil, List.replicate, List.set_cons_zero, List.set_cons_succ, List.getElem?_cons_zero, List.getElem?_cons_succ, List.cons_append, List.nil_append, List.append_nil, isi_int "", isi_bool, pNot, trunc_same]
  rfl
theorem c_wh_no {d : D} (h1 : pIsi "int" d = fun s => .ok (.bl false) s) (s : Sto) : c_is_whole cl [d] s = .ok (.bl false) s := by
  simp only [c_is_whole, m_is_whole, fnM, mSeq, mRet, mNx, mOpN, mCons, mNil, mOp2, mOp1, mVar, mC, mTru, mIf, mAndT, mOrT, mNotT, mAnd, mOr, mIfS, mAsg, mPar, bindP, bindPs, fin, Res.bind_ok, Res.bind_exc, Res.bind_bad, Res.st_ok, Res.st_exc, Res.st_bad, List.length_cons, List.length_nil, List.map_cons, List.map_nil, List.replicate, List.set_cons_zero, List.set_cons_succ, List.getElem?_cons_zero, List.getElem?_cons_succ, List.cons_append, List.nil_append, List.append_nil, h1, trunc_same]
  rfl
theorem isi_tup (xs : List D) (s : Sto) : pIsi "tuple" (.tup xs) s = .ok (.bl true) s := rfl
theorem c_to (xs : List D) (n : Int) (s : Sto) : c_is_tuple_of cl [.tup xs, .int n] s = .ok (.bl (decide ((xs.length : Int) = n))) s := by
  simp only [c_is_tuple_of, m_is_tuple_of, fnM, mSeq, mRet, mNx, mOpN, mCons, mNil, mOp2, mOp1, mVar, mC, mTru, mIf, mAndT, mOrT, mNotT, mAnd, mOr, mIfS, mAsg, mPar, bindP, bindPs, fin, Res.bind_ok, Res.bind_exc, Res.bind_bad, Res.st_ok, Res.st_exc, Res.st_bad, List.length_cons, List.length_nil, List.map_cons, List.map_nil, List.replicate, List.set_cons_zero, List.set_cons_succ, List.getElem?_cons_zero, List.getElem?_cons_succ, List.cons_append, List.nil_append, List.append_nil, isi_tup, fLen, pEqI, trunc_same]
  rfl
theorem c_to2 (x y : D) (s : Sto) : c_is_tuple_of cl [.tup [x, y], .int 2] s = .ok (.bl true) s := (c_to cl [x, y] 2 s).trans (by simp)
theorem c_to_no {d : D} (h1 : pIsi "tuple" d = fun s => .ok (.bl false) s) (n : Int) (s : Sto) : c_is_tuple_of cl [d, .int n] s = .ok (.bl false) s := by
  simp only [c_is_tuple_of, m_is_tuple_of, fnM, mSeq, mRet, mNx, mOpN, mCons, mNil, mOp2, mOp1, mVar, mC, mTru, mIf, mAndT, mOrT, mNotT, mAnd, mOr, mIfS, mAsg, mPar, bindP, bindPs, fin, Res.bind_ok, Res.bind_exc, Res.bind_bad, Res.st_ok, Res.st_exc, Res.st_bad, List.length_cons, List.length_nil, List.map_cons, List.map_nil, List.replicate, List.set_cons_zero, List.set_cons_succ, List.getElem?_cons_zero, List.getElem?_cons_succ, List.cons_append, List.nil_append, List.append_nil, h1, trunc_same]
  rfl
theorem all_last (s : Sto) (bs : List Bool) : fAll [.lst s.length] (s ++ [bs.map D.bl]) = .ok (.bl (bs.all id)) (s ++ [bs.map D.bl]) := by
  have : ∀ bs : List Bool, allP blOf (bs.map D.bl) = some bs := by
    intro bs
    induction bs with
    | nil => rfl
    | cons b bs ih => simp only [List.map_cons, allP, ih]; rfl
  simp only [fAll, get_last, this]
theorem c_isf (a b : Int) (s : Sto) : c_is_fraction cl [.tup [.int a, .int b]] s = .ok (.bl (decide (1 ≤ b) && decide ((Int.gcd a b : Int) = 1))) s := by
  have hl := lc_run (p := .nm 1) (chk := fun _ => True) (t := mYes) (m := mOpN (c_is_whole cl) (mCons (mVar 1) (mNil))) (σ := [some (.tup [.int a, .int b]), none]) (s := s) D.int (fun _ => true) (fun _ => .bl true) trivial [a, b] [] (fun x _ => ⟨_, rfl, rfl, fun _ => by simp only [mSeq, mRet, mNx, mOpN, mCons, mNil, mOp2, mOp1, mVar, mC, mTru, mIf, mAndT, mOrT, mNotT, mAnd, mOr, mIfS, mAsg, mPar, bindP, bindPs, fin, Res.bind_ok, Res.bind_exc, Res.bind_bad, Res.st_ok, Res.st_exc, Res.st_bad, List.length_cons, List.length_nil, List.map_cons, List.map_nil, List.replicate, List.set_cons_zero, List.set_cons_succ, List.getElem?_cons_zero, List.getElem?_cons_succ, List.cons_append, List.nil_append, List.append_nil, c_wh]⟩) (by simp; decide)
  have e : fAll [.lst s.length] (s ++ [[D.bl true, D.bl true]]) = .ok (.bl true) (s ++ [[D.bl true, D.bl true]]) := all_last s [true, true]
  simp only [mSeq, mRet, mNx, mOpN, mCons, mNil, mOp2, mOp1, mVar, mC, mTru, mIf, mAndT, mOrT, mNotT, mAnd, mOr, mIfS, mAsg, mPar, bindP, bindPs, fin, Res.bind_ok, Res.bind_exc, Res.bind_bad, Res.st_ok, Res.st_exc, Res.st_bad, List.length_cons, List.length_nil, List.map_cons, List.map_nil, List.replicate, List.set_cons_zero, List.set_cons_succ, List.getElem?_cons_zero, List.getElem?_cons_succ, List.cons_append, List.nil_append, List.append_nil, List.filter_cons, List.filter_nil, if_true] at hl
  simp only [c_is_fraction, m_is_fraction, fnM, if_true, List.length_cons, List.length_nil, List.map_cons, List.map_nil, Nat.reduceSub, List.replicate]
  simp only [mSeq, mRet, mNx, mOpN, mCons, mNil, mOp2, mOp1, mVar, mC, mTru, mIf, mAndT, mOrT, mNotT, mAnd, mOr, mIfS, mAsg, mPar, bindP, bindPs, fin, Res.bind_ok, Res.bind_exc, Res.bind_bad, Res.st_ok, Res.st_exc, Res.st_bad, List.length_cons, List.length_nil, List.map_cons, List.map_nil, List.replicate, List.set_cons_zero, List.set_cons_succ, List.getElem?_cons_zero, List.getElem?_cons_succ, List.cons_append, List.nil_append, List.append_nil, c_to2, Bool.not_true, mLc, mRow, rowIt, wipeD, Bool.false_eq_true, if_false, decide_true, reduceIte]
  simp only [mSeq, mRet, mNx, mOpN, mCons, mNil, mOp2, mOp1, mVar, mC, mTru, mIf, mAndT, mOrT, mNotT, mAnd, mOr, mIfS, mAsg, mPar, bindP, bindPs, fin, Res.bind_ok, Res.bind_exc, Res.bind_bad, Res.st_ok, Res.st_exc, Res.st_bad, List.length_cons, List.length_nil, List.map_cons, List.map_nil, List.replicate, List.set_cons_zero, List.set_cons_succ, List.getElem?_cons_zero, List.getElem?_cons_succ, List.cons_append, List.nil_append, List.append_nil, hl, e, pIx0, pIx1, pGeI, c_gcd, pEqI, Bool.not_true, Bool.false_eq_true, if_false, decide_true, reduceIte]
  by_cases h : 1 ≤ b
  · simp only [h, decide_true, Bool.true_and, mSeq, mRet, mNx, mOpN, mCons, mNil, mOp2, mOp1, mVar, mC, mTru, mIf, mAndT, mOrT, mNotT, mAnd, mOr, mIfS, mAsg, mPar, bindP, bindPs, fin, Res.bind_ok, Res.bind_exc, Res.bind_bad, Res.st_ok, Res.st_exc, Res.st_bad, List.length_cons, List.length_nil, List.map_cons, List.map_nil, List.replicate, List.set_cons_zero, List.set_cons_succ, List.getElem?_cons_zero, List.getElem?_cons_succ, List.cons_append, List.nil_append, List.append_nil]
    exact trunc_app (below_bl _ _)
  · simp only [h, decide_false, Bool.false_and, mSeq, mRet, mNx, mOpN, mCons, mNil, mOp2, mOp1, mVar, mC, mTru, mIf, mAndT, mOrT, mNotT, mAnd, mOr, mIfS, mAsg, mPar, bindP, bindPs, fin, Res.bind_ok, Res.bind_exc, Res.bind_bad, Res.st_ok, Res.st_exc, Res.st_bad, List.length_cons, List.length_nil, List.map_cons, List.map_nil, List.replicate, List.set_cons_zero, List.set_cons_succ, List.getElem?_cons_zero, List.getElem?_cons_succ, List.cons_append, List.nil_append, List.append_nil]
    exact trunc_app (below_bl _ _)
end K03
set_option Elab.async false
set_option linter.all false
set_option maxRecDepth 100000
namespace K03
open PySem PySem.Spec PyProof.Rows L2 RM
/-! alike -/
def plain : Nat → D → Bool
  | 0, _ => false
  | k + 1, d => match d with
    | .non => true
    | .int _ => true
    | .tup xs => xs.all (plain k)
    | _ => false
theorem pl_tup {k : Nat} {xs : List D} (h : plain (k + 1) (.tup xs) = true) : ∀ x ∈ xs, plain k x = true := List.all_eq_true.mp h
theorem pl_py : ∀ (k : Nat) (d : D), plain k d = true → ∃ p, ∀ s, pyOf s k d = some p
  | 0, _, h => by cases h
  | k + 1, .non, _ => ⟨_, fun _ => rfl⟩
  | k + 1, .int _, _ => ⟨_, fun _ => rfl⟩
  | k + 1, .bl _, h => by cases h
  | k + 1, .str _, h => by cases h
  | k + 1, .lst _, h => by cases h
  | k + 1, .ro _, h => by cases h
  | k + 1, .tup xs, h => by
    have h' := pl_tup h
    have : ∃ ps, ∀ s, allP (pyOf s k) xs = some ps := by
      clear h
      induction xs with
      | nil => exact ⟨[], fun _ => rfl⟩
      | cons x xs ih =>
        obtain ⟨ps, e⟩ := ih fun y hy => h' y (List.mem_cons_of_mem _ hy)
        obtain ⟨p, e2⟩ := pl_py k x (h' x List.mem_cons_self)
        exact ⟨p :: ps, fun s => by simp only [allP, e, e2]; rfl⟩
    obtain ⟨ps, e⟩ := this
    exact ⟨.tuple ps, fun s => by show (allP (pyOf s k) xs).map _ = _; rw [e]; rfl⟩
theorem pl_eqv : ∀ (k : Nat) (a b : D) (p q : PyData) (s t : Sto), plain k a = true → plain k b = true → pyOf s k a = some p → pyOf t k b = some q → (PyData.eqv p q = true ↔ a = b)
  | 0, _, _, _, _, _, _, h, _, _, _ => by cases h
  | k + 1, a, b, p, q, s, t, ha, hb, ea, eb => by
    cases a with
    | bl _ => cases ha
    | str _ => cases ha
    | lst _ => cases ha
    | ro _ => cases ha
    | non =>
      cases ea
      cases b with
      | bl _ => cases hb
      | str _ => cases hb
      | lst _ => cases hb
      | ro _ => cases hb
      | non => cases eb; simp [PyData.eqv]
      | int j => cases eb; simp [PyData.eqv]
      | tup ys =>
        have eb' : (allP (pyOf t k) ys).map PyData.tuple = some q := eb
        cases e : allP (pyOf t k) ys with
        | none => rw [e] at eb'; cases eb'
        | some l => rw [e] at eb'; cases eb'; simp [PyData.eqv]
    | int i =>
      cases ea
      cases b with
      | bl _ => cases hb
      | str _ => cases hb
      | lst _ => cases hb
      | ro _ => cases hb
      | non => cases eb; simp [PyData.eqv]
      | int j => cases eb; simp [PyData.eqv]
      | tup ys =>
        have eb' : (allP (pyOf t k) ys).map PyData.tuple = some q := eb
        cases e : allP (pyOf t k) ys with
        | none => rw [e] at eb'; cases eb'
        | some l => rw [e] at eb'; cases eb'; simp [PyData.eqv]
    | tup xs =>
      have ea' : (allP (pyOf s k) xs).map PyData.tuple = some p := ea
      cases e1 : allP (pyOf s k) xs with
      | none => rw [e1] at ea'; cases ea'
      | some l =>
        rw [e1] at ea'
        cases ea'
        cases b with
        | bl _ => cases hb
        | str _ => cases hb
        | lst _ => cases hb
        | ro _ => cases hb
        | non => cases eb; simp [PyData.eqv]
        | int j => cases eb; simp [PyData.eqv]
        | tup ys =>
          have eb' : (allP (pyOf t k) ys).map PyData.tuple = some q := eb
          cases e2 : allP (pyOf t k) ys with
          | none => rw [e2] at eb'; cases eb'
          | some l2 =>
            rw [e2] at eb'
            cases eb'
            have hx := pl_tup ha
            have hy := pl_tup hb
            have key : ∀ (xs ys : List D) (l l2 : List PyData), (∀ x ∈ xs, plain k x = true) → (∀ y ∈ ys, plain k y = true) → allP (pyOf s k) xs = some l → allP (pyOf t k) ys = some l2 → (PyData.eqvAll l l2 = true ↔ xs = ys) := by
              intro xs
              induction xs with
              | nil =>
                intro ys l l2 _ _ e1 e2
                cases e1
                cases ys with
                | nil => cases e2; simp [PyData.eqvAll]
                | cons y ys => obtain ⟨_, _, rfl, _, _⟩ := allP_cons e2; simp [PyData.eqvAll]
              | cons x xs ih =>
                intro ys l l2 h1 h2 e1 e2
                obtain ⟨p1, r1, rfl, f1, g1⟩ := allP_cons e1
                cases ys with
                | nil => cases e2; simp [PyData.eqvAll]
                | cons y ys =>
                  obtain ⟨p2, r2, rfl, f2, g2⟩ := allP_cons e2
                  have i1 := pl_eqv k x y p1 p2 s t (h1 x List.mem_cons_self) (h2 y List.mem_cons_self) f1 f2
                  have i2 := ih ys r1 r2 (fun z hz => h1 z (List.mem_cons_of_mem _ hz)) (fun z hz => h2 z (List.mem_cons_of_mem _ hz)) g1 g2
                  simp only [PyData.eqvAll, Bool.and_eq_true, i1, i2, List.cons.injEq]
            have := key xs ys l l2 hx hy e1 e2
            simp only [PyData.eqv, this, D.tup.injEq]
theorem pEq_t {a : D} (h : plain 40 a = true) (s : Sto) : pEq a a s = .ok (.bl true) s := by
  obtain ⟨p, e⟩ := pl_py 40 a h
  have := (pl_eqv 40 a a p p s s h h (e s) (e s)).mpr rfl
  simp only [pEq, pEqB, e, this, Bool.false_eq_true, if_false]
theorem pNe_t {a : D} (h : plain 40 a = true) (s : Sto) : pNe a a s = .ok (.bl false) s := by
  obtain ⟨p, e⟩ := pl_py 40 a h
  have := (pl_eqv 40 a a p p s s h h (e s) (e s)).mpr rfl
  simp only [pNe, pEqB, e, this, if_true, Bool.not_true]
theorem pEq_f {a b : D} (h : plain 40 a = true) (h' : plain 40 b = true) (hn : a ≠ b) (s : Sto) : pEq a b s = .ok (.bl false) s := by
  obtain ⟨p, e⟩ := pl_py 40 a h
  obtain ⟨q, e'⟩ := pl_py 40 b h'
  have := pl_eqv 40 a b p q s s h h' (e s) (e' s)
  have t : PyData.eqv p q = false := by
    cases c : PyData.eqv p q with
    | false => rfl
    | true => exact absurd (this.mp c) hn
  simp only [pEq, pEqB, e, e', t, Bool.false_eq_true, if_false]
theorem pNe_f {a b : D} (h : plain 40 a = true) (h' : plain 40 b = true) (hn : a ≠ b) (s : Sto) : pNe a b s = .ok (.bl true) s := by
  obtain ⟨p, e⟩ := pl_py 40 a h
  obtain ⟨q, e'⟩ := pl_py 40 b h'
  have := pl_eqv 40 a b p q s s h h' (e s) (e' s)
  have t : PyData.eqv p q = false := by
    cases c : PyData.eqv p q with
    | false => rfl
    | true => exact absurd (this.mp c) hn
  simp only [pNe, pEqB, e, e', t, if_true, Bool.not_false]
theorem dq_inj {p q : Rat} (h : dq p = dq q) : p = q := by
  unfold dq at h
  simp only [D.tup.injEq, List.cons.injEq, D.int.injEq, and_true] at h
  exact Rat.ext h.1 (by omega)
theorem dl_inj {p q : Ln} (h : dl p = dl q) : p = q := by
  unfold dl at h
  simp only [D.tup.injEq, List.cons.injEq, and_true] at h
  exact Prod.ext (dq_inj h.1) (dq_inj h.2)
theorem dr_inj {p q : Rw} (h : dr p = dr q) : p = q := by
  unfold dr at h
  simp only [D.tup.injEq, List.cons.injEq, and_true] at h
  exact Prod.ext (dq_inj h.1) (dl_inj h.2)
theorem pl_dq (k : Nat) (q : Rat) : plain (k + 2) (dq q) = true := rfl
theorem pl_dl (k : Nat) (q : Ln) : plain (k + 3) (dl q) = true := rfl
theorem pl_dr (k : Nat) (q : Rw) : plain (k + 4) (dr q) = true := rfl
theorem pl_env (k : Nat) (rows : List Rw) : plain (k + 5) (envD rows) = true := by
  show (rows.map dr).all (plain (k + 4)) = true
  rw [List.all_eq_true]
  intro x hx
  obtain ⟨r, _, rfl⟩ := List.mem_map.mp hx
  rfl
theorem pEq_dq (p q : Rat) (s : Sto) : pEq (dq p) (dq q) s = .ok (.bl (decide (p = q))) s := by
  by_cases h : p = q
  · subst h; rw [pEq_t (pl_dq 38 _)]; simp
  · rw [pEq_f (pl_dq 38 _) (pl_dq 38 _) (fun e => h (dq_inj e))]; simp [h]
theorem pNe_dq (p q : Rat) (s : Sto) : pNe (dq p) (dq q) s = .ok (.bl (!decide (p = q))) s := by
  by_cases h : p = q
  · subst h; rw [pNe_t (pl_dq 38 _)]; simp
  · rw [pNe_f (pl_dq 38 _) (pl_dq 38 _) (fun e => h (dq_inj e))]; simp [h]
theorem pNe_dl (p q : Ln) (s : Sto) : pNe (dl p) (dl q) s = .ok (.bl (!decide (p = q))) s := by
  by_cases h : p = q
  · subst h; rw [pNe_t (pl_dl 37 _)]; simp
  · rw [pNe_f (pl_dl 37 _) (pl_dl 37 _) (fun e => h (dl_inj e))]; simp [h]
/-! comprehensions -/
theorem lc_of {α : Type} {vs : List Nat} {p : Pat} {mi : MI} {t : MT} {m : ME} {σ : Slo} {s s1 : Sto} {chk : Sto → Prop} (enc : α → D) (k : α → Bool) (y : α → D) {xs : List α} (h1 : mi σ s = .ok ⟨xs.map enc, chk⟩ s1) (hc : chk s1)
    (h2 : ∀ x ∈ xs, ∃ σ1, bindP p (enc x) (wipeD σ vs) = some σ1 ∧ t σ1 s1 = .ok (k x) s1 ∧ (k x = true → m σ1 s1 = .ok (y x) s1)) (hl : xs.length ≤ big) : mLc vs p mi t m σ s = .ok (.lst s1.length) (s1 ++ [(xs.filter k).map y]) := by
  unfold mLc
  rw [h1, Res.bind_ok, lc_run enc k y hc xs [] h2 (by simpa using hl), Res.bind_ok, List.nil_append]
theorem lc_all {α : Type} {vs : List Nat} {p : Pat} {mi : MI} {m : ME} {σ : Slo} {s s1 : Sto} {chk : Sto → Prop} (enc : α → D) (y : α → D) {xs : List α} (h1 : mi σ s = .ok ⟨xs.map enc, chk⟩ s1) (hc : chk s1)
    (h2 : ∀ x ∈ xs, ∃ σ1, bindP p (enc x) (wipeD σ vs) = some σ1 ∧ m σ1 s1 = .ok (y x) s1) (hl : xs.length ≤ big) : mLc vs p mi mYes m σ s = .ok (.lst s1.length) (s1 ++ [xs.map y]) := by
  have := lc_of (t := mYes) enc (fun _ => true) y h1 hc (fun x hx => by obtain ⟨σ1, e1, e2⟩ := h2 x hx; exact ⟨σ1, e1, rfl, fun _ => e2⟩) hl
  rw [this, List.filter_eq_self.mpr (fun _ _ => rfl)]
theorem all_lc (s : Sto) {α : Type} (k : α → Bool) (xs : List α) : fAll [.lst s.length] (s ++ [xs.map fun x => D.bl (k x)]) = .ok (.bl (xs.all k)) (s ++ [xs.map fun x => D.bl (k x)]) := by
  have := all_last s (xs.map k)
  rw [List.map_map] at this
  rw [show (xs.map fun x => D.bl (k x)) = xs.map (D.bl ∘ k) from rfl, this, List.all_map]
  rfl
end K03
set_option Elab.async false
set_option linter.all false
set_option maxRecDepth 100000
namespace K03
open PySem PySem.Spec PyProof.Rows L2 RM
variable (cl : Cls)
theorem c_isf_dq (q : Rat) (s : Sto) : c_is_fraction cl [dq q] s = .ok (.bl true) s := by
  have h1 : (1 : Int) ≤ (q.den : Int) := den_pos q
  have h2 : (Int.gcd q.num q.den : Int) = 1 := by
    have : Int.gcd q.num q.den = 1 := q.reduced
    omega
  rw [dq, c_isf, decide_eq_true h1, decide_eq_true h2]
  rfl
theorem c_sg_dq (q : Rat) (s : Sto) : c_sign cl [dq q] s = .ok (.int (sgn q.num)) s := c_sg ..
theorem num_neg (q : Rat) : sgn q.num < 0 ↔ q < 0 := by
  rw [sgn_neg, ← Int.not_le, Rat.num_nonneg, Rat.not_le]
theorem num_ge (q : Rat) : sgn q.num ≥ 0 ↔ 0 ≤ q := by
  rw [ge_iff_le, ← Int.not_lt, num_neg, Rat.not_lt]
def pick (m : Rat) (f : Ln) (r : Rw) : Ln := if r.1 ≤ m then r.2 else f
def valL (m : Rat) (r0 : Rw) (rs : List Rw) : Ln := (r0 :: rs).foldl (pick m) r0.2
theorem pick_lb {m : Rat} {f : Ln} {r : Rw} (h : LB f) (h' : RB r) : LB (pick m f r) := by
  unfold pick
  split
  · exact h'.2
  · exact h
theorem vallb (m : Rat) : ∀ (rs : List Rw) (f : Ln), LB f → (∀ r ∈ rs, RB r) → LB (rs.foldl (pick m) f)
  | [], f, h, _ => h
  | r :: rs, f, h, h' => vallb m rs _ (pick_lb h (h' r List.mem_cons_self)) fun x hx => h' x (List.mem_cons_of_mem _ hx)
theorem c_vo {r0 : Rw} {rs : List Rw} {m : Rat} (h : ∀ r ∈ r0 :: rs, RB r) (hm : Sz 3000 m) (h0 : 0 ≤ m) (s : Sto) : c_value_on cl [envD (r0 :: rs), dq m] s = .ok (dq (ev (valL m r0 rs) m)) s := by
  obtain ⟨σ', s1, e5, ⟨o1, o2, rfl, hs1⟩, -⟩ := loop_run (p := .tp [.nm 3, .nm 4]) (body := (mSeq (mAsg (.nm 2) (mIf (mTru (mOp2 pLe (mOpN (c_compare cl) (mCons (mVar 3) (mCons (mVar 1) (mNil)))) (mC (.int 0)))) (mVar 4) (mVar 2))) (mNx))) (chk := fun _ => True) dr (pick m)
    (fun f σ s' => (∃ o1 o2, σ = [some (envD (r0 :: rs)), some (dq m), some (dl f), o1, o2] ∧ s' = s) ∧ LB f) (fun _ _ _ _ => trivial) (r0 :: rs) (fun r hr f σ s' q => by
      obtain ⟨⟨o1, o2, rfl, rfl⟩, hf⟩ := q
      have hr' := h r hr
      refine ⟨_, _, _, rfl, ?_, ⟨some (dq r.1), some (dl r.2), rfl, rfl⟩, pick_lb hf hr'⟩
      simp only [mSeq, mRet, mNx, mOpN, mCons, mNil, mOp2, mOp1, mVar, mC, mTru, mIf, mAndT, mOrT, mNotT, mAnd, mOr, mIfS, mAsg, mPar, bindP, bindPs, fin, Res.bind_ok, Res.bind_exc, Res.bind_bad, Res.st_ok, Res.st_exc, Res.st_bad, List.length_cons, List.length_nil, List.map_cons, List.map_nil, List.replicate, List.set_cons_zero, List.set_cons_succ, List.getElem?_cons_zero, List.getElem?_cons_succ, List.cons_append, List.nil_append, List.append_nil, c_cp cl _ (q9 hr'.1) (q9 hm), pLeI, cmpLe]
      unfold pick
      by_cases c : r.1 ≤ m <;> simp [c]) r0.2 [some (envD (r0 :: rs)), some (dq m), some (dl r0.2), none, none] s ⟨⟨_, _, rfl, rfl⟩, (h r0 List.mem_cons_self).2⟩
  rw [hs1, List.map_cons] at e5
  change _ = Flo.nx [some (envD (r0 :: rs)), some (dq m), some (dl (valL m r0 rs)), o1, o2] s at e5
  have hlb : LB (valL m r0 rs) := vallb m (r0 :: rs) r0.2 (h r0 List.mem_cons_self).2 h
  have hs : decide (sgn m.num < 0) = false := decide_eq_false (fun z => by rw [num_neg] at z; exact absurd h0 (Rat.not_le.mpr z))
  have ei : pIx (envD (r0 :: rs)) (.int 0) s = .ok (dr r0) s := pIx0 ..
  simp only [c_value_on, m_value_on, fnM, if_true, List.length_cons, List.length_nil, List.map_cons, List.map_nil, Nat.reduceSub, List.replicate]
  simp only [mSeq, mRet, mNx, mOpN, mCons, mNil, mOp2, mOp1, mVar, mC, mTru, mIf, mAndT, mOrT, mNotT, mAnd, mOr, mIfS, mAsg, mPar, bindP, bindPs, fin, Res.bind_ok, Res.bind_exc, Res.bind_bad, Res.st_ok, Res.st_exc, Res.st_bad, List.length_cons, List.length_nil, List.map_cons, List.map_nil, List.replicate, List.set_cons_zero, List.set_cons_succ, List.getElem?_cons_zero, List.getElem?_cons_succ, List.cons_append, List.nil_append, List.append_nil, c_isf_dq, c_sg_dq, pLtI, hs, Bool.not_true, Bool.false_eq_true, if_false, reduceIte, ei, dr1, mFor, mRow]
  rw [show rowIt (envD (r0 :: rs)) s = .ok ⟨(r0 :: rs).map dr, fun _ => True⟩ s from rfl]
  simp only [mSeq, mRet, mNx, mOpN, mCons, mNil, mOp2, mOp1, mVar, mC, mTru, mIf, mAndT, mOrT, mNotT, mAnd, mOr, mIfS, mAsg, mPar, bindP, bindPs, fin, Res.bind_ok, Res.bind_exc, Res.bind_bad, Res.st_ok, Res.st_exc, Res.st_bad, List.length_cons, List.length_nil, List.map_cons, List.map_nil, List.replicate, List.set_cons_zero, List.set_cons_succ, List.getElem?_cons_zero, List.getElem?_cons_succ, List.cons_append, List.nil_append, List.append_nil, e5]
  simp only [mSeq, mRet, mNx, mOpN, mCons, mNil, mOp2, mOp1, mVar, mC, mTru, mIf, mAndT, mOrT, mNotT, mAnd, mOr, mIfS, mAsg, mPar, bindP, bindPs, fin, Res.bind_ok, Res.bind_exc, Res.bind_bad, Res.st_ok, Res.st_exc, Res.st_bad, List.length_cons, List.length_nil, List.map_cons, List.map_nil, List.replicate, List.set_cons_zero, List.set_cons_succ, List.getElem?_cons_zero, List.getElem?_cons_succ, List.cons_append, List.nil_append, List.append_nil, c_la cl _ hlb hm]
  exact trunc_same ..
theorem c_vo_bad1 {d e : D} (s : Sto) (h : c_is_fraction cl [e] s = .ok (.bl false) s) : c_value_on cl [d, e] s = .exc cl.Nothing [] s := by
  simp only [c_value_on, m_value_on, fnM, if_true, List.length_cons, List.length_nil, List.map_cons, List.map_nil, Nat.reduceSub, List.replicate]
  simp only [mSeq, mRet, mNx, mOpN, mCons, mNil, mOp2, mOp1, mVar, mC, mTru, mIf, mAndT, mOrT, mNotT, mAnd, mOr, mIfS, mAsg, mPar, bindP, bindPs, fin, Res.bind_ok, Res.bind_exc, Res.bind_bad, Res.st_ok, Res.st_exc, Res.st_bad, List.length_cons, List.length_nil, List.map_cons, List.map_nil, List.replicate, List.set_cons_zero, List.set_cons_succ, List.getElem?_cons_zero, List.getElem?_cons_succ, List.cons_append, List.nil_append, List.append_nil, h, Bool.not_false, if_true, mRaise]
  exact trunc_exc ..
theorem c_vo_bad2 {d : D} {q : Rat} (s : Sto) (h : q < 0) : c_value_on cl [d, dq q] s = .exc cl.Nothing [] s := by
  have hs : decide (sgn q.num < 0) = true := decide_eq_true ((num_neg q).mpr h)
  simp only [c_value_on, m_value_on, fnM, if_true, List.length_cons, List.length_nil, List.map_cons, List.map_nil, Nat.reduceSub, List.replicate]
  simp only [mSeq, mRet, mNx, mOpN, mCons, mNil, mOp2, mOp1, mVar, mC, mTru, mIf, mAndT, mOrT, mNotT, mAnd, mOr, mIfS, mAsg, mPar, bindP, bindPs, fin, Res.bind_ok, Res.bind_exc, Res.bind_bad, Res.st_ok, Res.st_exc, Res.st_bad, List.length_cons, List.length_nil, List.map_cons, List.map_nil, List.replicate, List.set_cons_zero, List.set_cons_succ, List.getElem?_cons_zero, List.getElem?_cons_succ, List.cons_append, List.nil_append, List.append_nil, c_isf_dq, c_sg_dq, pLtI, hs, Bool.not_true, Bool.false_eq_true, if_false, if_true, mRaise, reduceIte]
  exact trunc_exc ..
theorem c_lo {rows : List Rw} (hl : rows.length ≤ big) (s : Sto) : c_lines_of cl [envD rows] s = .ok (.lst s.length) (s ++ [rows.map fun r => dl r.2]) := by
  have e := lc_all (vs := [1, 2]) (p := .tp [.nm 1, .nm 2]) (mi := mRow (mVar 0)) (m := mVar 2) (σ := [some (envD rows), none, none]) (s := s) (s1 := s) (chk := fun _ => True) dr (fun r => dl r.2) (xs := rows) rfl trivial (fun r _ => ⟨_, rfl, rfl⟩) hl
  simp only [c_lines_of, m_lines_of, fnM, if_true, List.length_cons, List.length_nil, List.map_cons, List.map_nil, Nat.reduceSub, List.replicate]
  simp only [mSeq, mRet, mNx, mOpN, mCons, mNil, mOp2, mOp1, mVar, mC, mTru, mIf, mAndT, mOrT, mNotT, mAnd, mOr, mIfS, mAsg, mPar, bindP, bindPs, fin, Res.bind_ok, Res.bind_exc, Res.bind_bad, Res.st_ok, Res.st_exc, Res.st_bad, List.length_cons, List.length_nil, List.map_cons, List.map_nil, List.replicate, List.set_cons_zero, List.set_cons_succ, List.getElem?_cons_zero, List.getElem?_cons_succ, List.cons_append, List.nil_append, List.append_nil, e]
  unfold trunc
  have : below s.length (.lst s.length) = false := by unfold RM.below; simp
  simp [this]
theorem c_lt {x : Ln} {xs : List Ln} {rows : List Rw} {r1 r2 : List Rw} (e : r1.map (·.2) ++ r2.map (·.2) = x :: xs) (h : ∀ l ∈ x :: xs, LB l) (hc : IsChain (x :: xs) (firstL x xs) rows) (hl : rows.length + 1 < big) (h1 : r1.length + r2.length ≤ big) (s : Sto) :
    c_least_of_two cl [envD r1, envD r2] s = .ok (envD ((0, firstL x xs) :: rows)) s := by
  simp only [c_least_of_two, m_least_of_two, fnM, if_true, List.length_cons, List.length_nil, List.map_cons, List.map_nil, Nat.reduceSub, List.replicate]
  simp only [mSeq, mRet, mNx, mOpN, mCons, mNil, mOp2, mOp1, mVar, mC, mTru, mIf, mAndT, mOrT, mNotT, mAnd, mOr, mIfS, mAsg, mPar, bindP, bindPs, fin, Res.bind_ok, Res.bind_exc, Res.bind_bad, Res.st_ok, Res.st_exc, Res.st_bad, List.length_cons, List.length_nil, List.map_cons, List.map_nil, List.replicate, List.set_cons_zero, List.set_cons_succ, List.getElem?_cons_zero, List.getElem?_cons_succ, List.cons_append, List.nil_append, List.append_nil, c_lo cl (rows := r1) (by omega), c_lo cl (rows := r2) (by omega)]
  have ea : pAdd (.lst s.length) (.lst (s ++ [r1.map fun r => dl r.2]).length) (s ++ [r1.map fun r => dl r.2] ++ [r2.map fun r => dl r.2]) = .ok (.lst (s ++ [r1.map fun r => dl r.2] ++ [r2.map fun r => dl r.2]).length) (s ++ [r1.map fun r => dl r.2] ++ [r2.map fun r => dl r.2] ++ [(x :: xs).map dl]) := by
    have e1 : (s ++ [r1.map fun r => dl r.2] ++ [r2.map fun r => dl r.2])[s.length]? = some (r1.map fun r => dl r.2) := by
      rw [List.getElem?_append_left (by simp)]; simp
    have e2 : (s ++ [r1.map fun r => dl r.2] ++ [r2.map fun r => dl r.2])[(s ++ [r1.map fun r => dl r.2]).length]? = some (r2.map fun r => dl r.2) := by simp
    have e3 : (x :: xs).map dl = r1.map (fun r => dl r.2) ++ r2.map (fun r => dl r.2) := by
      rw [← e, List.map_append, List.map_map, List.map_map]
      rfl
    show por pCatL _ _ _ _ = _
    unfold por pCatL
    simp only [e1, e2, e3]
    rw [if_pos (by simpa using h1)]
  rw [ea]
  simp only [mSeq, mRet, mNx, mOpN, mCons, mNil, mOp2, mOp1, mVar, mC, mTru, mIf, mAndT, mOrT, mNotT, mAnd, mOr, mIfS, mAsg, mPar, bindP, bindPs, fin, Res.bind_ok, Res.bind_exc, Res.bind_bad, Res.st_ok, Res.st_exc, Res.st_bad, List.length_cons, List.length_nil, List.map_cons, List.map_nil, List.replicate, List.set_cons_zero, List.set_cons_succ, List.getElem?_cons_zero, List.getElem?_cons_succ, List.cons_append, List.nil_append, List.append_nil]
  rw [c_lw cl h (.inr ⟨_, rfl, by simp⟩) hc hl]
  simp only [mSeq, mRet, mNx, mOpN, mCons, mNil, mOp2, mOp1, mVar, mC, mTru, mIf, mAndT, mOrT, mNotT, mAnd, mOr, mIfS, mAsg, mPar, bindP, bindPs, fin, Res.bind_ok, Res.bind_exc, Res.bind_bad, Res.st_ok, Res.st_exc, Res.st_bad, List.length_cons, List.length_nil, List.map_cons, List.map_nil, List.replicate, List.set_cons_zero, List.set_cons_succ, List.getElem?_cons_zero, List.getElem?_cons_succ, List.cons_append, List.nil_append, List.append_nil, List.append_assoc]
  exact trunc_app (below_env ..)
end K03
set_option Elab.async false
set_option linter.all false
set_option maxRecDepth 100000
namespace K03
open PySem PySem.Spec PyProof.Rows L2 RM
variable (cl : Cls)
theorem cut_env (r0 : Rw) (rs : List Rw) (s : Sto) : pSl (envD (r0 :: rs)) (some 1) none s = .ok (envD rs) s := by
  show Res.ok (D.tup (RM.cutD (dr r0 :: rs.map dr) (some 1) none)) s = _
  rw [cut1]
  rfl
theorem below_tup {α : Type} (n : Nat) (f : α → D) (h : ∀ x, below n (f x) = true) (xs : List α) : below n (.tup (xs.map f)) = true := by
  unfold RM.below
  exact belows_map n f h xs
theorem c_tu (r0 : Rw) {rs : List Rw} (hl : rs.length ≤ big) (s : Sto) : c_turns_of cl [envD (r0 :: rs)] s = .ok (.tup (rs.map fun r => dq r.1)) s := by
  have e := lc_all (vs := [1, 2]) (p := .tp [.nm 1, .nm 2]) (mi := (mRow (mSl (mVar 0) (mPart (mC (.int 1))) (mNoPart)))) (m := mVar 1) (σ := [some (envD (r0 :: rs)), none, none]) (s := s) (s1 := s) (chk := fun _ => True) dr (fun r => dq r.1) (xs := rs) (by simp only [mRow, mSl, mPart, mNoPart, mSeq, mRet, mNx, mOpN, mCons, mNil, mOp2, mOp1, mVar, mC, mTru, mIf, mAndT, mOrT, mNotT, mAnd, mOr, mIfS, mAsg, mPar, bindP, bindPs, fin, Res.bind_ok, Res.bind_exc, Res.bind_bad, Res.st_ok, Res.st_exc, Res.st_bad, List.length_cons, List.length_nil, List.map_cons, List.map_nil, List.replicate, List.set_cons_zero, List.set_cons_succ, List.getElem?_cons_zero, List.getElem?_cons_succ, List.cons_append, List.nil_append, List.append_nil, cut_env]; rfl) trivial (fun r _ => ⟨_, rfl, rfl⟩) hl
  simp only [c_turns_of, m_turns_of, fnM, if_true, List.length_cons, List.length_nil, List.map_cons, List.map_nil, Nat.reduceSub, List.replicate]
  simp only [mSeq, mRet, mNx, mOpN, mCons, mNil, mOp2, mOp1, mVar, mC, mTru, mIf, mAndT, mOrT, mNotT, mAnd, mOr, mIfS, mAsg, mPar, bindP, bindPs, fin, Res.bind_ok, Res.bind_exc, Res.bind_bad, Res.st_ok, Res.st_exc, Res.st_bad, List.length_cons, List.length_nil, List.map_cons, List.map_nil, List.replicate, List.set_cons_zero, List.set_cons_succ, List.getElem?_cons_zero, List.getElem?_cons_succ, List.cons_append, List.nil_append, List.append_nil, e, fTuple, itemsOf, get_last]
  exact trunc_app (below_tup _ _ (fun r => below_dq _ _) _)
def addL (l : Ln) (r : Rw) : Rw := (r.1, (r.2.1 + l.1, r.2.2 + l.2))
theorem c_al {rows : List Rw} {l : Ln} (h : ∀ r ∈ rows, RB r) (hl : LB l) (hn : rows.length ≤ big) (s : Sto) : c_added_line cl [envD rows, dl l] s = .ok (envD (rows.map (addL l))) s := by
  have e := lc_all (vs := [2, 3]) (p := .tp [.nm 2, .nm 3]) (mi := mRow (mVar 0)) (m := (mOpN pTup (mCons (mVar 2) (mCons (mOpN pTup (mCons (mOpN (c_plus cl) (mCons (mOp2 pIx (mVar 3) (mC (.int 0))) (mCons (mOp2 pIx (mVar 1) (mC (.int 0))) (mNil)))) (mCons (mOpN (c_plus cl) (mCons (mOp2 pIx (mVar 3) (mC (.int 1))) (mCons (mOp2 pIx (mVar 1) (mC (.int 1))) (mNil)))) (mNil)))) (mNil))))) (σ := [some (envD rows), some (dl l), none, none]) (s := s) (s1 := s) (chk := fun _ => True) dr (fun r => dr (addL l r)) (xs := rows) rfl trivial (fun r hr => ⟨_, rfl, by
    have hr' := (h r hr).2
    simp only [mSeq, mRet, mNx, mOpN, mCons, mNil, mOp2, mOp1, mVar, mC, mTru, mIf, mAndT, mOrT, mNotT, mAnd, mOr, mIfS, mAsg, mPar, bindP, bindPs, fin, Res.bind_ok, Res.bind_exc, Res.bind_bad, Res.st_ok, Res.st_exc, Res.st_bad, List.length_cons, List.length_nil, List.map_cons, List.map_nil, List.replicate, List.set_cons_zero, List.set_cons_succ, List.getElem?_cons_zero, List.getElem?_cons_succ, List.cons_append, List.nil_append, List.append_nil, wipeD, dl0, dl1, c_pl cl _ hr'.a hl.a, c_pl cl _ hr'.b hl.b, pTup2]
    rfl⟩) hn
  simp only [c_added_line, m_added_line, fnM, if_true, List.length_cons, List.length_nil, List.map_cons, List.map_nil, Nat.reduceSub, List.replicate]
  simp only [mSeq, mRet, mNx, mOpN, mCons, mNil, mOp2, mOp1, mVar, mC, mTru, mIf, mAndT, mOrT, mNotT, mAnd, mOr, mIfS, mAsg, mPar, bindP, bindPs, fin, Res.bind_ok, Res.bind_exc, Res.bind_bad, Res.st_ok, Res.st_exc, Res.st_bad, List.length_cons, List.length_nil, List.map_cons, List.map_nil, List.replicate, List.set_cons_zero, List.set_cons_succ, List.getElem?_cons_zero, List.getElem?_cons_succ, List.cons_append, List.nil_append, List.append_nil, e, fTuple, itemsOf, get_last]
  rw [show rows.map (fun r => dr (addL l r)) = (rows.map (addL l)).map dr by rw [List.map_map]; rfl]
  exact trunc_app (below_env ..)
theorem c_isf_no {d : D} (h1 : pIsi "tuple" d = fun s => .ok (.bl false) s) (s : Sto) : c_is_fraction cl [d] s = .ok (.bl false) s := by
  simp only [c_is_fraction, m_is_fraction, fnM, if_true, List.length_cons, List.length_nil, List.map_cons, List.map_nil, Nat.reduceSub, List.replicate]
  simp only [mSeq, mRet, mNx, mOpN, mCons, mNil, mOp2, mOp1, mVar, mC, mTru, mIf, mAndT, mOrT, mNotT, mAnd, mOr, mIfS, mAsg, mPar, bindP, bindPs, fin, Res.bind_ok, Res.bind_exc, Res.bind_bad, Res.st_ok, Res.st_exc, Res.st_bad, List.length_cons, List.length_nil, List.map_cons, List.map_nil, List.replicate, List.set_cons_zero, List.set_cons_succ, List.getElem?_cons_zero, List.getElem?_cons_succ, List.cons_append, List.nil_append, List.append_nil, c_to_no cl h1, Bool.not_false, if_true]
  exact trunc_same ..
theorem dl_parts (l : Ln) : dl l = .tup ([l.1, l.2].map dq) := rfl
theorem c_ir (r : Rw) (s : Sto) : c_is_row cl [dr r] s = .ok (.bl (decide (0 ≤ r.2.2))) s := by
  have e := lc_all (vs := [1]) (p := .nm 1) (mi := (mRow (mOp2 pIx (mVar 0) (mC (.int 1))))) (m := (mOpN (c_is_fraction cl) (mCons (mVar 1) (mNil)))) (σ := [some (dr r), none]) (s := s) (s1 := s) (chk := fun _ => True) dq (fun _ => D.bl true) (xs := [r.2.1, r.2.2]) (by simp only [mRow, mSeq, mRet, mNx, mOpN, mCons, mNil, mOp2, mOp1, mVar, mC, mTru, mIf, mAndT, mOrT, mNotT, mAnd, mOr, mIfS, mAsg, mPar, bindP, bindPs, fin, Res.bind_ok, Res.bind_exc, Res.bind_bad, Res.st_ok, Res.st_exc, Res.st_bad, List.length_cons, List.length_nil, List.map_cons, List.map_nil, List.replicate, List.set_cons_zero, List.set_cons_succ, List.getElem?_cons_zero, List.getElem?_cons_succ, List.cons_append, List.nil_append, List.append_nil, dr1]; rfl) trivial (fun q _ => ⟨_, rfl, by simp only [mSeq, mRet, mNx, mOpN, mCons, mNil, mOp2, mOp1, mVar, mC, mTru, mIf, mAndT, mOrT, mNotT, mAnd, mOr, mIfS, mAsg, mPar, bindP, bindPs, fin, Res.bind_ok, Res.bind_exc, Res.bind_bad, Res.st_ok, Res.st_exc, Res.st_bad, List.length_cons, List.length_nil, List.map_cons, List.map_nil, List.replicate, List.set_cons_zero, List.set_cons_succ, List.getElem?_cons_zero, List.getElem?_cons_succ, List.cons_append, List.nil_append, List.append_nil, wipeD, c_isf_dq]⟩) (by simp; decide)
  have ea : fAll [.lst s.length] (s ++ [[D.bl true, D.bl true]]) = .ok (.bl true) (s ++ [[D.bl true, D.bl true]]) := all_last s [true, true]
  have et : ∀ s, c_is_tuple_of cl [dr r, .int 2] s = .ok (.bl true) s := fun s => c_to2 cl _ _ s
  have et2 : ∀ s, c_is_tuple_of cl [dl r.2, .int 2] s = .ok (.bl true) s := fun s => c_to2 cl _ _ s
  simp only [c_is_row, m_is_row, fnM, if_true, List.length_cons, List.length_nil, List.map_cons, List.map_nil, Nat.reduceSub, List.replicate]
  simp only [List.map_cons, List.map_nil] at e
  simp only [mSeq, mRet, mNx, mOpN, mCons, mNil, mOp2, mOp1, mVar, mC, mTru, mIf, mAndT, mOrT, mNotT, mAnd, mOr, mIfS, mAsg, mPar, bindP, bindPs, fin, Res.bind_ok, Res.bind_exc, Res.bind_bad, Res.st_ok, Res.st_exc, Res.st_bad, List.length_cons, List.length_nil, List.map_cons, List.map_nil, List.replicate, List.set_cons_zero, List.set_cons_succ, List.getElem?_cons_zero, List.getElem?_cons_succ, List.cons_append, List.nil_append, List.append_nil, et, et2, dr0, dr1, c_isf_dq, Bool.not_true, Bool.false_eq_true, if_false, reduceIte, e, ea, dl1, c_sg_dq, pGeI]
  rw [decide_eq_decide.mpr (num_ge r.2.2)]
  exact trunc_app (below_bl ..)
theorem cmpG' (p q : Rat) : 0 ≤ cmp p q ↔ q ≤ p := cmpG p q
def behind (x y : Rw) : Bool := decide (x.1 < y.1 ∧ y.2.2 < x.2.2 ∧ ev x.2 y.1 = ev y.2 y.1)
theorem c_ih {x y : Rw} (hx : RB x) (hy : RB y) (s : Sto) : c_is_behind cl [dr x, dr y] s = .ok (.bl (behind x y)) s := by
  simp only [c_is_behind, m_is_behind, fnM, if_true, List.length_cons, List.length_nil, List.map_cons, List.map_nil, Nat.reduceSub, List.replicate]
  simp only [mSeq, mRet, mNx, mOpN, mCons, mNil, mOp2, mOp1, mVar, mC, mTru, mIf, mAndT, mOrT, mNotT, mAnd, mOr, mIfS, mAsg, mPar, bindP, bindPs, fin, Res.bind_ok, Res.bind_exc, Res.bind_bad, Res.st_ok, Res.st_exc, Res.st_bad, List.length_cons, List.length_nil, List.map_cons, List.map_nil, List.replicate, List.set_cons_zero, List.set_cons_succ, List.getElem?_cons_zero, List.getElem?_cons_succ, List.cons_append, List.nil_append, List.append_nil, dr0, dr1, dl1, c_cp cl _ (q9 hx.1) (q9 hy.1), c_cp cl _ hy.2.b hx.2.b, pGeI, c_la cl _ hx.2 (hy.1.up (j := 3000) (by decide)), c_la cl _ hy.2 (hy.1.up (j := 3000) (by decide)), pEq_dq, cmpG']
  unfold behind
  by_cases h1 : y.1 ≤ x.1
  · have : ¬ x.1 < y.1 := Rat.not_lt.mpr h1
    simp only [h1, this, decide_true, if_true, false_and, decide_false, mSeq, mRet, mNx, mOpN, mCons, mNil, mOp2, mOp1, mVar, mC, mTru, mIf, mAndT, mOrT, mNotT, mAnd, mOr, mIfS, mAsg, mPar, bindP, bindPs, fin, Res.bind_ok, Res.bind_exc, Res.bind_bad, Res.st_ok, Res.st_exc, Res.st_bad, List.length_cons, List.length_nil, List.map_cons, List.map_nil, List.replicate, List.set_cons_zero, List.set_cons_succ, List.getElem?_cons_zero, List.getElem?_cons_succ, List.cons_append, List.nil_append, List.append_nil]
    exact trunc_same ..
  · by_cases h2 : x.2.2 ≤ y.2.2
    · have : ¬ y.2.2 < x.2.2 := Rat.not_lt.mpr h2
      simp only [h1, h2, this, decide_true, if_true, false_and, and_false, decide_false, Bool.false_eq_true, if_false, reduceIte, mSeq, mRet, mNx, mOpN, mCons, mNil, mOp2, mOp1, mVar, mC, mTru, mIf, mAndT, mOrT, mNotT, mAnd, mOr, mIfS, mAsg, mPar, bindP, bindPs, fin, Res.bind_ok, Res.bind_exc, Res.bind_bad, Res.st_ok, Res.st_exc, Res.st_bad, List.length_cons, List.length_nil, List.map_cons, List.map_nil, List.replicate, List.set_cons_zero, List.set_cons_succ, List.getElem?_cons_zero, List.getElem?_cons_succ, List.cons_append, List.nil_append, List.append_nil]
      exact trunc_same ..
    · have h3 := Rat.not_le.mp h1
      have h4 := Rat.not_le.mp h2
      simp only [h1, h2, h3, h4, decide_true, decide_false, true_and, Bool.false_eq_true, if_false, reduceIte, mSeq, mRet, mNx, mOpN, mCons, mNil, mOp2, mOp1, mVar, mC, mTru, mIf, mAndT, mOrT, mNotT, mAnd, mOr, mIfS, mAsg, mPar, bindP, bindPs, fin, Res.bind_ok, Res.bind_exc, Res.bind_bad, Res.st_ok, Res.st_exc, Res.st_bad, List.length_cons, List.length_nil, List.map_cons, List.map_nil, List.replicate, List.set_cons_zero, List.set_cons_succ, List.getElem?_cons_zero, List.getElem?_cons_succ, List.cons_append, List.nil_append, List.append_nil, dr0, dr1, c_la cl _ hx.2 (hy.1.up (j := 3000) (by decide)), c_la cl _ hy.2 (hy.1.up (j := 3000) (by decide)), pEq_dq]
      exact trunc_same ..
theorem zip_env (r0 : Rw) (rs : List Rw) : zipD ((r0 :: rs).map dr) (rs.map dr) = ((r0 :: rs).zip rs).map fun p => D.tup [dr p.1, dr p.2] := by
  unfold zipD
  rw [List.zipWith_map, List.zip, List.map_zipWith]
def isEnv (r0 : Rw) (rs : List Rw) : Bool := (r0 :: rs).all (fun r => decide (0 ≤ r.2.2)) && (decide (r0.1 = 0) && ((r0 :: rs).zip rs).all fun p => behind p.1 p.2)
theorem c_ie {r0 : Rw} {rs : List Rw} (h : ∀ r ∈ r0 :: rs, RB r) (hl : rs.length + 1 ≤ big) (s : Sto) : c_is_envelope cl [envD (r0 :: rs)] s = .ok (.bl (isEnv r0 rs)) s := by
  have e := lc_all (vs := [1]) (p := .nm 1) (mi := mRow (mVar 0)) (m := (mOpN (c_is_row cl) (mCons (mVar 1) (mNil)))) (σ := [some (envD (r0 :: rs)), none, none, none]) (s := s) (s1 := s) (chk := fun _ => True) dr (fun r => D.bl (decide (0 ≤ r.2.2))) (xs := r0 :: rs) rfl trivial (fun r hr => ⟨_, rfl, by simp only [mSeq, mRet, mNx, mOpN, mCons, mNil, mOp2, mOp1, mVar, mC, mTru, mIf, mAndT, mOrT, mNotT, mAnd, mOr, mIfS, mAsg, mPar, bindP, bindPs, fin, Res.bind_ok, Res.bind_exc, Res.bind_bad, Res.st_ok, Res.st_exc, Res.st_bad, List.length_cons, List.length_nil, List.map_cons, List.map_nil, List.replicate, List.set_cons_zero, List.set_cons_succ, List.getElem?_cons_zero, List.getElem?_cons_succ, List.cons_append, List.nil_append, List.append_nil, wipeD, c_ir]⟩) (by simpa using hl)
  have ea := all_lc s (fun r : Rw => decide (0 ≤ r.2.2)) (r0 :: rs)
  have es := cut_env r0 rs
  have ni : pEq (envD (r0 :: rs)) (.tup []) s = .ok (.bl false) s := pEq_f (pl_env 35 _) rfl (by unfold envD; simp) s
  have it : ∀ s, pIsi "tuple" (envD (r0 :: rs)) s = .ok (.bl true) s := fun s => rfl
  have i0 : ∀ s, pIx (envD (r0 :: rs)) (.int 0) s = .ok (dr r0) s := fun s => pIx0 ..
  simp only [c_is_envelope, m_is_envelope, fnM, if_true, List.length_cons, List.length_nil, List.map_cons, List.map_nil, Nat.reduceSub, List.replicate]
  have hp : ∀ s, pTup [] s = .ok (.tup []) s := fun _ => rfl
  simp only [mSeq, mRet, mNx, mOpN, mCons, mNil, mOp2, mOp1, mVar, mC, mTru, mIf, mAndT, mOrT, mNotT, mAnd, mOr, mIfS, mAsg, mPar, bindP, bindPs, fin, Res.bind_ok, Res.bind_exc, Res.bind_bad, Res.st_ok, Res.st_exc, Res.st_bad, List.length_cons, List.length_nil, List.map_cons, List.map_nil, List.replicate, List.set_cons_zero, List.set_cons_succ, List.getElem?_cons_zero, List.getElem?_cons_succ, List.cons_append, List.nil_append, List.append_nil, it, hp, ni, Bool.not_true, Bool.false_eq_true, if_false, reduceIte, e]
  simp only [List.map_cons] at ea
  simp only [mSeq, mRet, mNx, mOpN, mCons, mNil, mOp2, mOp1, mVar, mC, mTru, mIf, mAndT, mOrT, mNotT, mAnd, mOr, mIfS, mAsg, mPar, bindP, bindPs, fin, Res.bind_ok, Res.bind_exc, Res.bind_bad, Res.st_ok, Res.st_exc, Res.st_bad, List.length_cons, List.length_nil, List.map_cons, List.map_nil, List.replicate, List.set_cons_zero, List.set_cons_succ, List.getElem?_cons_zero, List.getElem?_cons_succ, List.cons_append, List.nil_append, List.append_nil, ea]
  unfold isEnv
  cases c1 : (r0 :: rs).all (fun r => decide (0 ≤ r.2.2)) with
  | false =>
    simp only [Bool.not_false, if_true, mSeq, mRet, mNx, mOpN, mCons, mNil, mOp2, mOp1, mVar, mC, mTru, mIf, mAndT, mOrT, mNotT, mAnd, mOr, mIfS, mAsg, mPar, bindP, bindPs, fin, Res.bind_ok, Res.bind_exc, Res.bind_bad, Res.st_ok, Res.st_exc, Res.st_bad, List.length_cons, List.length_nil, List.map_cons, List.map_nil, List.replicate, List.set_cons_zero, List.set_cons_succ, List.getElem?_cons_zero, List.getElem?_cons_succ, List.cons_append, List.nil_append, List.append_nil, Bool.false_and]
    exact trunc_app (below_bl ..)
  | true =>
    have e2 := fun s => lc_all (vs := [2, 3]) (p := .tp [.nm 2, .nm 3]) (mi := (mZip (mCons (mVar 0) (mCons (mSl (mVar 0) (mPart (mC (.int 1))) (mNoPart)) (mNil))))) (m := (mOpN (c_is_behind cl) (mCons (mVar 2) (mCons (mVar 3) (mNil))))) (σ := [some (envD (r0 :: rs)), none, none, none]) (s := s) (s1 := s) (chk := fun _ => True) (fun p : Rw × Rw => D.tup [dr p.1, dr p.2]) (fun p => D.bl (behind p.1 p.2)) (xs := (r0 :: rs).zip rs)
      (by simp only [mZip, mSl, mPart, mNoPart, mSeq, mRet, mNx, mOpN, mCons, mNil, mOp2, mOp1, mVar, mC, mTru, mIf, mAndT, mOrT, mNotT, mAnd, mOr, mIfS, mAsg, mPar, bindP, bindPs, fin, Res.bind_ok, Res.bind_exc, Res.bind_bad, Res.st_ok, Res.st_exc, Res.st_bad, List.length_cons, List.length_nil, List.map_cons, List.map_nil, List.replicate, List.set_cons_zero, List.set_cons_succ, List.getElem?_cons_zero, List.getElem?_cons_succ, List.cons_append, List.nil_append, List.append_nil, es]; rw [← zip_env]; rfl) trivial (fun p hp => ⟨_, rfl, by
        have z := List.of_mem_zip (a := p.1) (b := p.2) hp
        simp only [mSeq, mRet, mNx, mOpN, mCons, mNil, mOp2, mOp1, mVar, mC, mTru, mIf, mAndT, mOrT, mNotT, mAnd, mOr, mIfS, mAsg, mPar, bindP, bindPs, fin, Res.bind_ok, Res.bind_exc, Res.bind_bad, Res.st_ok, Res.st_exc, Res.st_bad, List.length_cons, List.length_nil, List.map_cons, List.map_nil, List.replicate, List.set_cons_zero, List.set_cons_succ, List.getElem?_cons_zero, List.getElem?_cons_succ, List.cons_append, List.nil_append, List.append_nil, wipeD, c_ih cl (h _ z.1) (h _ (List.mem_cons_of_mem _ z.2))]⟩) (by rw [List.length_zip]; simp; omega)
    have ea2 := fun s => all_lc s (fun p : Rw × Rw => behind p.1 p.2) ((r0 :: rs).zip rs)
    simp only [Bool.not_true, Bool.false_eq_true, if_false, reduceIte, mSeq, mRet, mNx, mOpN, mCons, mNil, mOp2, mOp1, mVar, mC, mTru, mIf, mAndT, mOrT, mNotT, mAnd, mOr, mIfS, mAsg, mPar, bindP, bindPs, fin, Res.bind_ok, Res.bind_exc, Res.bind_bad, Res.st_ok, Res.st_exc, Res.st_bad, List.length_cons, List.length_nil, List.map_cons, List.map_nil, List.replicate, List.set_cons_zero, List.set_cons_succ, List.getElem?_cons_zero, List.getElem?_cons_succ, List.cons_append, List.nil_append, List.append_nil, i0, dr0, ← dq_zero, pEq_dq, e2, ea2, Bool.true_and]
    by_cases c2 : r0.1 = 0
    · simp only [c2, decide_true, Bool.true_and, mSeq, mRet, mNx, mOpN, mCons, mNil, mOp2, mOp1, mVar, mC, mTru, mIf, mAndT, mOrT, mNotT, mAnd, mOr, mIfS, mAsg, mPar, bindP, bindPs, fin, Res.bind_ok, Res.bind_exc, Res.bind_bad, Res.st_ok, Res.st_exc, Res.st_bad, List.length_cons, List.length_nil, List.map_cons, List.map_nil, List.replicate, List.set_cons_zero, List.set_cons_succ, List.getElem?_cons_zero, List.getElem?_cons_succ, List.cons_append, List.nil_append, List.append_nil, e2, ea2]
      rw [List.append_assoc]
      exact trunc_app (below_bl ..)
    · simp only [c2, decide_false, Bool.false_and, mSeq, mRet, mNx, mOpN, mCons, mNil, mOp2, mOp1, mVar, mC, mTru, mIf, mAndT, mOrT, mNotT, mAnd, mOr, mIfS, mAsg, mPar, bindP, bindPs, fin, Res.bind_ok, Res.bind_exc, Res.bind_bad, Res.st_ok, Res.st_exc, Res.st_bad, List.length_cons, List.length_nil, List.map_cons, List.map_nil, List.replicate, List.set_cons_zero, List.set_cons_succ, List.getElem?_cons_zero, List.getElem?_cons_succ, List.cons_append, List.nil_append, List.append_nil]
      exact trunc_app (below_bl ..)
end K03
set_option Elab.async false
set_option linter.all false
set_option maxRecDepth 100000
namespace K03
open PySem PySem.Spec PyProof.Rows L2 RM
variable (cl : Cls)
theorem half {x y : Nat} (h : y ≤ x) (h0 : 0 < y) : 2 * (y * (x % y)) ≤ x * y := by
  have h1 : 2 * (x % y) ≤ x := by
    have a := Nat.mod_lt x h0
    have b := Nat.div_add_mod x y
    have c : 1 ≤ x / y := Nat.div_pos h h0
    have d : y * 1 ≤ y * (x / y) := Nat.mul_le_mul_left y c
    omega
  calc 2 * (y * (x % y)) = y * (2 * (x % y)) := by rw [Nat.mul_left_comm]
    _ ≤ y * x := Nat.mul_le_mul_left y h1
    _ = x * y := Nat.mul_comm ..
theorem fmod_nat (x y : Nat) (h : y ≠ 0) : (x : Int).fmod y = ((x % y : Nat) : Int) := by rw [Int.fmod_eq_emod_of_nonneg _ (by omega)]; simp
theorem int1 (i : Int) (s : Sto) : fInt [.int i] s = .ok (.int i) s := rfl
def qBody : MS := (mSeq (mIfS (mTru (mOp2 pEq (mVar 3) (mC (.int 0)))) (mSeq (mBrk) (mNx)) (mNx)) (mSeq (mPar 2 3 (mCons (mVar 3) (mCons (mOp2 pMod (mOpN fInt (mCons (mVar 2) (mNil))) (mOpN fInt (mCons (mVar 3) (mNil)))) (mNil)))) (mNx)))
theorem q_step {t b o d : Option D} {x y : Nat} {s : Sto} (h : y ≠ 0) : qBody [t, b, some (.int x), some (.int y), o] s = .nx [t, b, some (.int y), some (.int ((x % y : Nat) : Int)), o] s := by
  have hy : (y : Int) ≠ 0 := by omega
  unfold qBody
  simp only [mSeq, mRet, mNx, mOpN, mCons, mNil, mOp2, mOp1, mVar, mC, mTru, mIf, mAndT, mOrT, mNotT, mAnd, mOr, mIfS, mAsg, mPar, bindP, bindPs, fin, Res.bind_ok, Res.bind_exc, Res.bind_bad, Res.st_ok, Res.st_exc, Res.st_bad, List.length_cons, List.length_nil, List.map_cons, List.map_nil, List.replicate, List.set_cons_zero, List.set_cons_succ, List.getElem?_cons_zero, List.getElem?_cons_succ, List.cons_append, List.nil_append, List.append_nil, pEqI, decide_eq_false hy, Bool.false_eq_true, if_false, reduceIte, int1, pModI hy, fmod_nat x y h]
theorem q_stop {t b o : Option D} {x : Int} {s : Sto} : qBody [t, b, some (.int x), some (.int 0), o] s = .bk [t, b, some (.int x), some (.int 0), o] s := by
  unfold qBody
  simp only [mSeq, mRet, mNx, mOpN, mCons, mNil, mOp2, mOp1, mVar, mC, mTru, mIf, mAndT, mOrT, mNotT, mAnd, mOr, mIfS, mAsg, mPar, bindP, bindPs, fin, Res.bind_ok, Res.bind_exc, Res.bind_bad, Res.st_ok, Res.st_exc, Res.st_bad, List.length_cons, List.length_nil, List.map_cons, List.map_nil, List.replicate, List.set_cons_zero, List.set_cons_succ, List.getElem?_cons_zero, List.getElem?_cons_succ, List.cons_append, List.nil_append, List.append_nil, pEqI, decide_true, if_true, mBrk]
theorem q_loop {t b : Option D} {s : Sto} : ∀ (n : Nat) (items : List D) (x y : Nat) (o : Option D), x * y < 2 ^ n → y ≤ x → n < items.length →
    ∃ o', loopM (.nm 4) qBody (fun _ => True) items [t, b, some (.int x), some (.int y), o] s = .nx [t, b, some (.int (Nat.gcd x y)), some (.int 0), o'] s
  | n, [], _, _, _, _, _, h => by simp at h
  | n, d :: ds, x, y, o, h1, h2, h3 => by
    by_cases h : y = 0
    · subst h
      refine ⟨some d, ?_⟩
      unfold loopM
      simp only [if_true, mSeq, mRet, mNx, mOpN, mCons, mNil, mOp2, mOp1, mVar, mC, mTru, mIf, mAndT, mOrT, mNotT, mAnd, mOr, mIfS, mAsg, mPar, bindP, bindPs, fin, Res.bind_ok, Res.bind_exc, Res.bind_bad, Res.st_ok, Res.st_exc, Res.st_bad, List.length_cons, List.length_nil, List.map_cons, List.map_nil, List.replicate, List.set_cons_zero, List.set_cons_succ, List.getElem?_cons_zero, List.getElem?_cons_succ, List.cons_append, List.nil_append, List.append_nil]
      have := q_stop (t := t) (b := b) (o := some d) (x := x) (s := s)
      simp only [Int.natCast_zero, Nat.gcd_zero_right, this]
    · cases n with
      | zero =>
        exfalso
        have : 0 < x * y := Nat.mul_pos (by omega) (by omega)
        have h1' : x * y < 1 := h1
        omega
      | succ n =>
        have hh := half h2 (by omega)
        have hm := Nat.mod_lt x (show 0 < y by omega)
        obtain ⟨o', e⟩ := q_loop n ds y (x % y) (some d) (by rw [Nat.pow_succ] at h1; omega) (by omega) (by simp at h3; omega)
        refine ⟨o', ?_⟩
        unfold loopM
        simp only [if_true, mSeq, mRet, mNx, mOpN, mCons, mNil, mOp2, mOp1, mVar, mC, mTru, mIf, mAndT, mOrT, mNotT, mAnd, mOr, mIfS, mAsg, mPar, bindP, bindPs, fin, Res.bind_ok, Res.bind_exc, Res.bind_bad, Res.st_ok, Res.st_exc, Res.st_bad, List.length_cons, List.length_nil, List.map_cons, List.map_nil, List.replicate, List.set_cons_zero, List.set_cons_succ, List.getElem?_cons_zero, List.getElem?_cons_succ, List.cons_append, List.nil_append, List.append_nil]
        have := q_step (t := t) (b := b) (o := some d) (d := none) (x := x) (y := y) (s := s) h
        rw [this]
        simp only []
        rw [e, Nat.gcd_comm y, ← Nat.gcd_rec, Nat.gcd_comm]
theorem q_loop2 {t b o : Option D} {s : Sto} (n : Nat) (items : List D) (x y : Nat) (h1 : x * y < 2 ^ n) (h3 : n + 1 < items.length) :
    ∃ o', loopM (.nm 4) qBody (fun _ => True) items [t, b, some (.int x), some (.int y), o] s = .nx [t, b, some (.int (Nat.gcd x y)), some (.int 0), o'] s := by
  by_cases h2 : y ≤ x
  · exact q_loop n items x y o h1 h2 (by omega)
  · cases items with
    | nil => simp at h3
    | cons d ds =>
      obtain ⟨o', e⟩ := q_loop n ds y (x % y) (some d) (by rw [Nat.mod_eq_of_lt (by omega), Nat.mul_comm]; exact h1) (by rw [Nat.mod_eq_of_lt (by omega)]; omega) (by simp at h3; omega)
      refine ⟨o', ?_⟩
      unfold loopM
      simp only [if_true, mSeq, mRet, mNx, mOpN, mCons, mNil, mOp2, mOp1, mVar, mC, mTru, mIf, mAndT, mOrT, mNotT, mAnd, mOr, mIfS, mAsg, mPar, bindP, bindPs, fin, Res.bind_ok, Res.bind_exc, Res.bind_bad, Res.st_ok, Res.st_exc, Res.st_bad, List.length_cons, List.length_nil, List.map_cons, List.map_nil, List.replicate, List.set_cons_zero, List.set_cons_succ, List.getElem?_cons_zero, List.getElem?_cons_succ, List.cons_append, List.nil_append, List.append_nil]
      have := q_step (t := t) (b := b) (o := some d) (d := none) (x := x) (y := y) (s := s) (by omega)
      rw [this]
      simp only []
      rw [e, Nat.gcd_comm y, ← Nat.gcd_rec, Nat.gcd_comm]
theorem Sm.lt {i : Int} (h : Sm i) : i.natAbs < 2 ^ 9000 := by
  by_cases h0 : i.natAbs = 0
  · rw [h0]; exact Nat.two_pow_pos _
  · exact (Nat.log2_lt h0).mp h
theorem fdiv_numN {a b : Int} (hb : b < 0) : a.fdiv (0 - (Int.gcd a b : Int)) = (frD a b).num := by
  have hd : (Int.gcd a b : Int) ∣ a := Int.gcd_dvd_left ..
  rw [Int.zero_sub, Int.fdiv_eq_ediv_of_dvd (Int.neg_dvd.mpr hd), Int.ediv_neg]
  unfold frD
  rw [Rat.num_divInt, Int.sign_eq_neg_one_of_neg hb, Int.gcd_comm b a, Int.neg_mul, Int.one_mul, Int.neg_ediv_of_dvd hd]
theorem fdiv_denN {a b : Int} (hb : b < 0) : b.fdiv (0 - (Int.gcd a b : Int)) = (frD a b).den := by
  have hd : (Int.gcd a b : Int) ∣ b := Int.gcd_dvd_right ..
  rw [Int.zero_sub, Int.fdiv_eq_ediv_of_dvd (Int.neg_dvd.mpr hd), Int.ediv_neg, fr_den a b (by omega), ← Int.neg_ediv_of_dvd hd]
  have : -b = (b.natAbs : Int) := by omega
  rw [this]
  simp
theorem rng5 : ∃ items : List D, items.length = 100000 ∧ ∀ s, rngIt1 [.int 100000] s = .ok ⟨items, fun _ => True⟩ s := ⟨rInts 0 (100000 : Int).toNat, rInts_len, fun s => by
  show (if (-2 ^ 62 ≤ (100000 : Int) ∧ (100000 : Int) < 2 ^ 62) then Res.ok (⟨rInts 0 (100000 : Int).toNat, fun _ => True⟩ : ItD) s else .bad) = _
  rw [if_pos (by omega)]⟩
theorem c_lq {a b : Int} (ha : Sm a) (hb : Sm b) (h : 0 < b ∨ b < 0 ∧ b.natAbs < 1073741824) (s : Sto) : c_law_q cl [.int a, .int b] s = .ok (dq (frD a b)) s := by
  have ea : (if a < 0 then -a else a) = (a.natAbs : Int) := by split <;> omega
  have eb : (if b < 0 then -b else b) = (b.natAbs : Int) := by split <;> omega
  obtain ⟨items, hl, er⟩ := rng5
  obtain ⟨o', e⟩ := q_loop2 (t := some (.int a)) (b := some (.int b)) (o := none) (s := s) (9000 + 9000) items a.natAbs b.natAbs (by rw [Nat.pow_add]; exact Nat.mul_lt_mul_of_lt_of_le ha.lt (Nat.le_of_lt hb.lt) (Nat.two_pow_pos _)) (by rw [hl]; omega)
  have hg : Nat.gcd a.natAbs b.natAbs = Int.gcd a b := rfl
  rw [hg] at e
  unfold qBody at e
  simp only [c_law_q, m_law_q, fnM, if_true, List.length_cons, List.length_nil, List.map_cons, List.map_nil, Nat.reduceSub, List.replicate]
  simp only [mSeq, mRet, mNx, mOpN, mCons, mNil, mOp2, mOp1, mVar, mC, mTru, mIf, mAndT, mOrT, mNotT, mAnd, mOr, mIfS, mAsg, mPar, bindP, bindPs, fin, Res.bind_ok, Res.bind_exc, Res.bind_bad, Res.st_ok, Res.st_exc, Res.st_bad, List.length_cons, List.length_nil, List.map_cons, List.map_nil, List.replicate, List.set_cons_zero, List.set_cons_succ, List.getElem?_cons_zero, List.getElem?_cons_succ, List.cons_append, List.nil_append, List.append_nil, fAbs, ea, eb, mFor, mRng1, er, e, pGtI, pSubI]
  rcases h with h | ⟨h, h'⟩
  · have g := gcd_pos (a := a) (b := b) (by omega)
    simp only [decide_eq_true h, if_true, mSeq, mRet, mNx, mOpN, mCons, mNil, mOp2, mOp1, mVar, mC, mTru, mIf, mAndT, mOrT, mNotT, mAnd, mOr, mIfS, mAsg, mPar, bindP, bindPs, fin, Res.bind_ok, Res.bind_exc, Res.bind_bad, Res.st_ok, Res.st_exc, Res.st_bad, List.length_cons, List.length_nil, List.map_cons, List.map_nil, List.replicate, List.set_cons_zero, List.set_cons_succ, List.getElem?_cons_zero, List.getElem?_cons_succ, List.cons_append, List.nil_append, List.append_nil, pDivI (show (Int.gcd a b : Int) ≠ 0 by omega) (.inr ⟨g, sm_gcd h hb⟩), pTup2, fdiv_num h, fdiv_den h]
    exact trunc_same ..
  · have g := gcd_pos (a := a) (b := b) (by omega)
    have hle : (Int.gcd a b : Int) ≤ -b := by
      rw [← Int.gcd_neg]
      exact gcd_le (by omega)
    simp only [decide_eq_false (show ¬ 0 < b by omega), Bool.false_eq_true, if_false, reduceIte, mSeq, mRet, mNx, mOpN, mCons, mNil, mOp2, mOp1, mVar, mC, mTru, mIf, mAndT, mOrT, mNotT, mAnd, mOr, mIfS, mAsg, mPar, bindP, bindPs, fin, Res.bind_ok, Res.bind_exc, Res.bind_bad, Res.st_ok, Res.st_exc, Res.st_bad, List.length_cons, List.length_nil, List.map_cons, List.map_nil, List.replicate, List.set_cons_zero, List.set_cons_succ, List.getElem?_cons_zero, List.getElem?_cons_succ, List.cons_append, List.nil_append, List.append_nil, pDivI (show (0 - (Int.gcd a b : Int)) ≠ 0 by omega) (.inl (by omega)), pTup2, fdiv_numN h, fdiv_denN h]
    exact trunc_same ..
theorem Q9.nd {p q : Rat} (h : Q9 p) (h' : Q9 q) : Sm (p.num * q.den) := Sm.of (sz_mulI h.1 (sz_den h')) (by decide)
theorem Q9.nn {p q : Rat} (h : Q9 p) (h' : Q9 q) : Sm (p.num * q.num) := Sm.of (sz_mulI h.1 h'.1) (by decide)
theorem Q9.sum {p q : Rat} (h : Q9 p) (h' : Q9 q) : Sm (p.num * q.den + q.num * p.den) := Sm.of (sz_addI (sz_mulI h.1 (sz_den h')) (sz_mulI h'.1 (sz_den h))) (by decide)
theorem l_add {p q : Rat} (hp : Q9 p) (hq : Q9 q) (s : Sto) : c_law_add cl [dq p, dq q] s = .ok (dq (p + q)) s := by
  simp only [c_law_add, m_law_add, fnM, mSeq, mRet, mNx, mOpN, mCons, mNil, mOp2, mOp1, mVar, mC, mTru, mIf, mAndT, mOrT, mNotT, mAnd, mOr, mIfS, mAsg, mPar, bindP, bindPs, fin, Res.bind_ok, Res.bind_exc, Res.bind_bad, Res.st_ok, Res.st_exc, Res.st_bad, List.length_cons, List.length_nil, List.map_cons, List.map_nil, List.replicate, List.set_cons_zero, List.set_cons_succ, List.getElem?_cons_zero, List.getElem?_cons_succ, List.cons_append, List.nil_append, List.append_nil, dq0, dq1, pMulI hp.num hq.den, pMulI hq.num hp.den, pMulI hp.den hq.den, pAddI, c_lq cl (Q9.sum hp hq) (Q9.dd hp hq) (.inl (dd_pos p q)), fr_add, trunc_same]
  rfl
theorem Q9.neg {q : Rat} (h : Q9 q) : Q9 (-q) := Sz.neg h
theorem l_neg (q : Rat) (s : Sto) : c_law_neg cl [dq q] s = .ok (dq (-q)) s := by
  have e : (.tup [.int (0 - q.num), .int q.den] : D) = dq (-q) := by
    unfold dq
    rw [Rat.neg_num, Rat.neg_den, Int.zero_sub]
  simp only [c_law_neg, m_law_neg, fnM, mSeq, mRet, mNx, mOpN, mCons, mNil, mOp2, mOp1, mVar, mC, mTru, mIf, mAndT, mOrT, mNotT, mAnd, mOr, mIfS, mAsg, mPar, bindP, bindPs, fin, Res.bind_ok, Res.bind_exc, Res.bind_bad, Res.st_ok, Res.st_exc, Res.st_bad, List.length_cons, List.length_nil, List.map_cons, List.map_nil, List.replicate, List.set_cons_zero, List.set_cons_succ, List.getElem?_cons_zero, List.getElem?_cons_succ, List.cons_append, List.nil_append, List.append_nil, dq0, dq1, pSubI, pTup2, e, trunc_same]
  rfl
theorem l_sub {p q : Rat} (hp : Q9 p) (hq : Q9 q) (s : Sto) : c_law_sub cl [dq p, dq q] s = .ok (dq (p - q)) s := by
  simp only [c_law_sub, m_law_sub, fnM, mSeq, mRet, mNx, mOpN, mCons, mNil, mOp2, mOp1, mVar, mC, mTru, mIf, mAndT, mOrT, mNotT, mAnd, mOr, mIfS, mAsg, mPar, bindP, bindPs, fin, Res.bind_ok, Res.bind_exc, Res.bind_bad, Res.st_ok, Res.st_exc, Res.st_bad, List.length_cons, List.length_nil, List.map_cons, List.map_nil, List.replicate, List.set_cons_zero, List.set_cons_succ, List.getElem?_cons_zero, List.getElem?_cons_succ, List.cons_append, List.nil_append, List.append_nil, l_neg, l_add cl hp hq.neg, ← Rat.sub_eq_add_neg, trunc_same]
  rfl
theorem l_mul {p q : Rat} (hp : Q9 p) (hq : Q9 q) (s : Sto) : c_law_mul cl [dq p, dq q] s = .ok (dq (p * q)) s := by
  simp only [c_law_mul, m_law_mul, fnM, mSeq, mRet, mNx, mOpN, mCons, mNil, mOp2, mOp1, mVar, mC, mTru, mIf, mAndT, mOrT, mNotT, mAnd, mOr, mIfS, mAsg, mPar, bindP, bindPs, fin, Res.bind_ok, Res.bind_exc, Res.bind_bad, Res.st_ok, Res.st_exc, Res.st_bad, List.length_cons, List.length_nil, List.map_cons, List.map_nil, List.replicate, List.set_cons_zero, List.set_cons_succ, List.getElem?_cons_zero, List.getElem?_cons_succ, List.cons_append, List.nil_append, List.append_nil, dq0, dq1, pMulI hp.num hq.num, pMulI hp.den hq.den, c_lq cl (Q9.nn hp hq) (Q9.dd hp hq) (.inl (dd_pos p q)), fr_mul, trunc_same]
  rfl
theorem l_div {p q : Rat} (hp : Q9 p) (hq : Q9 q) (h : 0 < q ∨ q < 0 ∧ (p.den * q.num : Int).natAbs < 1073741824) (s : Sto) : c_law_div cl [dq p, dq q] s = .ok (dq (p / q)) s := by
  have hs : Sm ((p.den : Int) * q.num) := Sm.of (sz_mulI (sz_den hp) hq.1) (by decide)
  have hh : 0 < (p.den : Int) * q.num ∨ (p.den : Int) * q.num < 0 ∧ ((p.den : Int) * q.num).natAbs < 1073741824 := by
    rcases h with h | ⟨h, h'⟩
    · exact .inl (Int.mul_pos (den_pos p) (num_pos h))
    · refine .inr ⟨Int.mul_neg_of_pos_of_neg (den_pos p) ?_, h'⟩
      rw [← Int.not_le, Rat.num_nonneg, Rat.not_le]
      exact h
  simp only [c_law_div, m_law_div, fnM, mSeq, mRet, mNx, mOpN, mCons, mNil, mOp2, mOp1, mVar, mC, mTru, mIf, mAndT, mOrT, mNotT, mAnd, mOr, mIfS, mAsg, mPar, bindP, bindPs, fin, Res.bind_ok, Res.bind_exc, Res.bind_bad, Res.st_ok, Res.st_exc, Res.st_bad, List.length_cons, List.length_nil, List.map_cons, List.map_nil, List.replicate, List.set_cons_zero, List.set_cons_succ, List.getElem?_cons_zero, List.getElem?_cons_succ, List.cons_append, List.nil_append, List.append_nil, dq0, dq1, pMulI hp.num hq.den, pMulI hp.den hq.num, c_lq cl (Q9.nd hp hq) hs hh, fr_div, trunc_same]
  rfl
def lcmp (p q : Rat) : Int := p.num * q.den - q.num * p.den
theorem l_cmp {p q : Rat} (hp : Q9 p) (hq : Q9 q) (s : Sto) : c_law_cmp cl [dq p, dq q] s = .ok (.int (lcmp p q)) s := by
  simp only [c_law_cmp, m_law_cmp, fnM, mSeq, mRet, mNx, mOpN, mCons, mNil, mOp2, mOp1, mVar, mC, mTru, mIf, mAndT, mOrT, mNotT, mAnd, mOr, mIfS, mAsg, mPar, bindP, bindPs, fin, Res.bind_ok, Res.bind_exc, Res.bind_bad, Res.st_ok, Res.st_exc, Res.st_bad, List.length_cons, List.length_nil, List.map_cons, List.map_nil, List.replicate, List.set_cons_zero, List.set_cons_succ, List.getElem?_cons_zero, List.getElem?_cons_succ, List.cons_append, List.nil_append, List.append_nil, dq0, dq1, pMulI hp.num hq.den, pMulI hq.num hp.den, pSubI, trunc_same]
  rfl
theorem lcmpL (p q : Rat) : lcmp p q < 0 ↔ p < q := cmp_lt p q
theorem lcmpE (p q : Rat) : lcmp p q = 0 ↔ p = q := cmp_eq p q
end K03
set_option Elab.async false
set_option linter.all false
set_option maxRecDepth 100000
namespace K03
open PySem PySem.Spec PyProof.Rows L2 RM
variable (cl : Cls)
theorem loop_runN {α β : Type} {p : Pat} {body : MS} {chk : Sto → Prop} (enc : α → D) (f : β → α → β) (R : β → Nat → Slo → Sto → Prop) (hc : ∀ b n σ s, R b n σ s → chk s) : ∀ (xs : List α), (∀ x ∈ xs, ∀ b n σ s, R b (n + 1) σ s → ∃ σ1 σ' s', bindP p (enc x) σ = some σ1 ∧ body σ1 s = .nx σ' s' ∧ R (f b x) n σ' s') →
    ∀ b σ s, R b xs.length σ s → ∃ σ' s', loopM p body chk (xs.map enc) σ s = .nx σ' s' ∧ R (xs.foldl f b) 0 σ' s'
  | [], _, b, σ, s, r => ⟨σ, s, by unfold loopM; exact if_pos (hc _ _ _ _ r), r⟩
  | x :: xs, h, b, σ, s, r => by
    obtain ⟨σ1, σ', s', e1, e2, r'⟩ := h x List.mem_cons_self b xs.length σ s r
    obtain ⟨σ2, s2, e3, r2⟩ := loop_runN enc f R hc xs (fun y hy => h y (List.mem_cons_of_mem _ hy)) _ _ _ r'
    refine ⟨σ2, s2, ?_, r2⟩
    rw [List.map_cons]
    unfold loopM
    rw [if_pos (hc _ _ _ _ r), e1]
    simp only []
    rw [e2]
    exact e3
def minR (f t : Rat) : Rat := if t < f then t else f
def minL (x : Rat) (xs : List Rat) : Rat := (x :: xs).foldl minR x
theorem minR_q {f t : Rat} (h : Q9 f) (h' : Q9 t) : Q9 (minR f t) := by unfold minR; split <;> assumption
theorem l_min {d : D} {s : Sto} {x : Rat} {xs : List Rat} (hd : RowOf d s ((x :: xs).map dq)) (h : ∀ q ∈ x :: xs, Q9 q) : c_law_min cl [d] s = .ok (dq (minL x xs)) s := by
  obtain ⟨chk, e3, e4, -⟩ := hd.it
  obtain ⟨σ', s1, e5, ⟨o1, rfl, hs1⟩, -⟩ := loop_run (p := .nm 2) (body := (mSeq (mAsg (.nm 1) (mIf (mTru (mOp2 pLt (mOpN (c_law_cmp cl) (mCons (mVar 2) (mCons (mVar 1) (mNil)))) (mC (.int 0)))) (mVar 2) (mVar 1))) (mNx))) (chk := chk) dq minR
    (fun f σ s' => (∃ o1, σ = [some d, some (dq f), o1] ∧ s' = s) ∧ Q9 f) (fun _ _ _ r => by obtain ⟨⟨_, _, rfl⟩, _⟩ := r; exact e4) (x :: xs) (fun y hy f σ s' r => by
      obtain ⟨⟨o, rfl, rfl⟩, hf⟩ := r
      have hy' := h y hy
      refine ⟨_, _, _, rfl, ?_, ⟨some (dq y), rfl, rfl⟩, minR_q hf hy'⟩
      simp only [mSeq, mRet, mNx, mOpN, mCons, mNil, mOp2, mOp1, mVar, mC, mTru, mIf, mAndT, mOrT, mNotT, mAnd, mOr, mIfS, mAsg, mPar, bindP, bindPs, fin, Res.bind_ok, Res.bind_exc, Res.bind_bad, Res.st_ok, Res.st_exc, Res.st_bad, List.length_cons, List.length_nil, List.map_cons, List.map_nil, List.replicate, List.set_cons_zero, List.set_cons_succ, List.getElem?_cons_zero, List.getElem?_cons_succ, List.cons_append, List.nil_append, List.append_nil, l_cmp cl hy' hf, pLtI, lcmpL]
      unfold minR
      by_cases c : y < f <;> simp [c]) x [some d, some (dq x), none] s ⟨⟨none, rfl, rfl⟩, h x List.mem_cons_self⟩
  rw [hs1, List.map_cons] at e5
  rw [List.map_cons] at e3
  simp only [c_law_min, m_law_min, fnM, if_true, List.length_cons, List.length_nil, List.map_cons, List.map_nil, Nat.reduceSub, List.replicate]
  simp only [mFor, mRow, mSeq, mRet, mNx, mOpN, mCons, mNil, mOp2, mOp1, mVar, mC, mTru, mIf, mAndT, mOrT, mNotT, mAnd, mOr, mIfS, mAsg, mPar, bindP, bindPs, fin, Res.bind_ok, Res.bind_exc, Res.bind_bad, Res.st_ok, Res.st_exc, Res.st_bad, List.length_cons, List.length_nil, List.map_cons, List.map_nil, List.replicate, List.set_cons_zero, List.set_cons_succ, List.getElem?_cons_zero, List.getElem?_cons_succ, List.cons_append, List.nil_append, List.append_nil, hd.ix0, e3, e5]
  exact trunc_same ..
theorem ev_q {l : Ln} {m : Rat} (h : LB l) (hm : Sz 3000 m) : Q9 (ev l m) := (Sz.add h.1 (Sz.mul h.2 hm)).up (by decide)
def vmin (l : Ln) (ls : List Ln) (m : Rat) : Rat := minL (ev l m) (ls.map fun o => ev o m)
theorem l_on {l : Ln} {ls : List Ln} {m : Rat} (h : ∀ o ∈ l :: ls, LB o) (hm : Sz 3000 m) (hl : ls.length + 1 ≤ big) (s : Sto) : c_law_on cl [.tup ((l :: ls).map dl), dq m] s = .ok (dq (vmin l ls m)) s := by
  have e := lc_all (vs := [2, 3]) (p := .tp [.nm 2, .nm 3]) (mi := mRow (mVar 0)) (m := (mOpN (c_law_add cl) (mCons (mVar 2) (mCons (mOpN (c_law_mul cl) (mCons (mVar 3) (mCons (mVar 1) (mNil)))) (mNil))))) (σ := [some (.tup ((l :: ls).map dl)), some (dq m), none, none]) (s := s) (s1 := s) (chk := fun _ => True) dl (fun o => dq (ev o m)) (xs := l :: ls) rfl trivial (fun o ho => ⟨_, rfl, by
    have ho' := h o ho
    simp only [mSeq, mRet, mNx, mOpN, mCons, mNil, mOp2, mOp1, mVar, mC, mTru, mIf, mAndT, mOrT, mNotT, mAnd, mOr, mIfS, mAsg, mPar, bindP, bindPs, fin, Res.bind_ok, Res.bind_exc, Res.bind_bad, Res.st_ok, Res.st_exc, Res.st_bad, List.length_cons, List.length_nil, List.map_cons, List.map_nil, List.replicate, List.set_cons_zero, List.set_cons_succ, List.getElem?_cons_zero, List.getElem?_cons_succ, List.cons_append, List.nil_append, List.append_nil, wipeD, l_mul cl ho'.b (q9 hm), l_add cl ho'.a (q9 (Sz.mul ho'.2 hm))]
    rfl⟩) (by simpa using hl)
  have e2 : ∀ {t : Sto}, c_law_min cl [.lst t.length] (t ++ [(l :: ls).map fun o => dq (ev o m)]) = .ok (dq (vmin l ls m)) (t ++ [(l :: ls).map fun o => dq (ev o m)]) := fun {t} => by
    refine l_min cl (.inr ⟨_, rfl, ?_⟩) ?_
    · rw [get_last, List.map_cons, List.map_cons, List.map_map]
      rfl
    · intro q hq
      rw [← List.map_cons (f := fun o => ev o m)] at hq
      obtain ⟨o, ho, rfl⟩ := List.mem_map.mp hq
      exact ev_q (h o ho) hm
  simp only [List.map_cons] at e e2
  simp only [c_law_on, m_law_on, fnM, if_true, List.length_cons, List.length_nil, List.map_cons, List.map_nil, Nat.reduceSub, List.replicate]
  simp only [mSeq, mRet, mNx, mOpN, mCons, mNil, mOp2, mOp1, mVar, mC, mTru, mIf, mAndT, mOrT, mNotT, mAnd, mOr, mIfS, mAsg, mPar, bindP, bindPs, fin, Res.bind_ok, Res.bind_exc, Res.bind_bad, Res.st_ok, Res.st_exc, Res.st_bad, List.length_cons, List.length_nil, List.map_cons, List.map_nil, List.replicate, List.set_cons_zero, List.set_cons_succ, List.getElem?_cons_zero, List.getElem?_cons_succ, List.cons_append, List.nil_append, List.append_nil, e, e2]
  exact trunc_app (below_dq ..)
/-! in order -/
def cntB (f : List Rat) (x : Rat) : Nat := (f.filter fun y => decide (y < x)).length
def insQ (f : List Rat) (x : Rat) : List Rat := f.take (cntB f x) ++ [x] ++ f.drop (cntB f x)
theorem cntB_le (f : List Rat) (x : Rat) : cntB f x ≤ f.length := List.length_filter_le ..
theorem insQ_len (f : List Rat) (x : Rat) : (insQ f x).length = f.length + 1 := by
  have := cntB_le f x
  unfold insQ
  simp
  omega
theorem insQ_q {P : Rat → Prop} {f : List Rat} {x : Rat} (h : ∀ y ∈ f, P y) (hx : P x) : ∀ y ∈ insQ f x, P y := by
  intro y hy
  unfold insQ at hy
  simp only [List.mem_append, List.mem_singleton] at hy
  rcases hy with (hy | rfl) | hy
  · exact h y (List.mem_of_mem_take hy)
  · exact hx
  · exact h y (List.mem_of_mem_drop hy)
def inOrd (xs : List Rat) : List Rat := xs.foldl insQ []
theorem mid (s : Sto) (x : List D) (t : Sto) : (s ++ x :: t)[s.length]? = some x := by simp
theorem set_mid (s : Sto) (x y : List D) (t : Sto) : (s ++ x :: t).set s.length y = s ++ y :: t := by
  rw [List.set_append_right _ _ (Nat.le_refl _), Nat.sub_self]
  rfl
theorem l_inOrd {k : Nat} {s : Sto} {xs : List Rat} (hd : s[k]? = some (xs.map dq)) (h : ∀ q ∈ xs, Q9 q) (hl : xs.length ≤ 10000) : ∃ t, c_law_in_order cl [.lst k] s = .ok (.lst s.length) (s ++ (inOrd xs).map dq :: t) := by
  have hk : k < s.length := (List.getElem?_eq_some_iff.mp hd).1
  obtain ⟨chk, e3, e4, e4'⟩ := (show RowOf (.lst k) s (xs.map dq) from .inr ⟨k, rfl, hd⟩).it
  obtain ⟨chk', e3', e4a, e4b⟩ := ((show RowOf (.lst k) s (xs.map dq) from .inr ⟨k, rfl, hd⟩).app [[]]).it
  have hchk : ∀ t, chk' (s ++ t) := by
    intro t
    have : (⟨xs.map dq, chk'⟩ : ItD) = ⟨xs.map dq, fun s => s[k]? = some (xs.map dq)⟩ := by
      have z : rowIt (.lst k) (s ++ [[]]) = .ok ⟨xs.map dq, fun s => s[k]? = some (xs.map dq)⟩ (s ++ [[]]) := by
        have : (s ++ [[]])[k]? = some (xs.map dq) := by rw [List.getElem?_append_left hk]; exact hd
        simp only [rowIt, this]
      rw [e3'] at z
      injection z
    injection this with _ this
    rw [this]
    show (s ++ t)[k]? = some _
    rw [List.getElem?_append_left hk]; exact hd
  obtain ⟨σ', s1, e5, ⟨o1, o2, t, rfl, hs1⟩, -⟩ := loop_runN (p := .nm 2) (body := (mSeq (mDrop (mMethL gInsert (mVar 1) (mCons (mOpN fLen (mCons (mLc [3] (.nm 3) (mRow (mVar 1)) (mTru (mOp2 pLt (mOpN (c_law_cmp cl) (mCons (mVar 3) (mCons (mVar 2) (mNil)))) (mC (.int 0)))) (mVar 3)) (mNil))) (mCons (mVar 2) (mNil))))) (mNx))) (chk := chk') dq insQ
    (fun f n σ s' => (∃ o1 o2 t, σ = [some (.lst k), some (.lst s.length), o1, o2] ∧ s' = s ++ f.map dq :: t) ∧ (∀ q ∈ f, Q9 q) ∧ f.length + n ≤ 10000) (fun _ _ _ _ r => by obtain ⟨⟨_, _, t, _, rfl⟩, _⟩ := r; exact hchk _) xs (fun y hy f n σ s' r => by
      obtain ⟨⟨o1, o2, t, rfl, rfl⟩, hf, hn⟩ := r
      have hy' := h y hy
      have hc := cntB_le f y
      have el := lc_of (vs := [3]) (p := .nm 3) (mi := mRow (mVar 1)) (t := (mTru (mOp2 pLt (mOpN (c_law_cmp cl) (mCons (mVar 3) (mCons (mVar 2) (mNil)))) (mC (.int 0))))) (m := mVar 3) (σ := [some (.lst k), some (.lst s.length), some (dq y), o2]) (s := s ++ f.map dq :: t) (s1 := s ++ f.map dq :: t) (chk := fun s' => s'[s.length]? = some (f.map dq)) dq (fun z => decide (z < y)) dq (xs := f)
        (by simp only [mRow, mSeq, mRet, mNx, mOpN, mCons, mNil, mOp2, mOp1, mVar, mC, mTru, mIf, mAndT, mOrT, mNotT, mAnd, mOr, mIfS, mAsg, mPar, bindP, bindPs, fin, Res.bind_ok, Res.bind_exc, Res.bind_bad, Res.st_ok, Res.st_exc, Res.st_bad, List.length_cons, List.length_nil, List.map_cons, List.map_nil, List.replicate, List.set_cons_zero, List.set_cons_succ, List.getElem?_cons_zero, List.getElem?_cons_succ, List.cons_append, List.nil_append, List.append_nil, rowIt, mid]) (mid ..) (fun z hz => ⟨_, rfl, by simp only [mSeq, mRet, mNx, mOpN, mCons, mNil, mOp2, mOp1, mVar, mC, mTru, mIf, mAndT, mOrT, mNotT, mAnd, mOr, mIfS, mAsg, mPar, bindP, bindPs, fin, Res.bind_ok, Res.bind_exc, Res.bind_bad, Res.st_ok, Res.st_exc, Res.st_bad, List.length_cons, List.length_nil, List.map_cons, List.map_nil, List.replicate, List.set_cons_zero, List.set_cons_succ, List.getElem?_cons_zero, List.getElem?_cons_succ, List.cons_append, List.nil_append, List.append_nil, wipeD, l_cmp cl (hf z hz) hy', pLtI, lcmpL], fun _ => by simp only [mSeq, mRet, mNx, mOpN, mCons, mNil, mOp2, mOp1, mVar, mC, mTru, mIf, mAndT, mOrT, mNotT, mAnd, mOr, mIfS, mAsg, mPar, bindP, bindPs, fin, Res.bind_ok, Res.bind_exc, Res.bind_bad, Res.st_ok, Res.st_exc, Res.st_bad, List.length_cons, List.length_nil, List.map_cons, List.map_nil, List.replicate, List.set_cons_zero, List.set_cons_succ, List.getElem?_cons_zero, List.getElem?_cons_succ, List.cons_append, List.nil_append, List.append_nil, wipeD]⟩) (by unfold big; omega)
      have hL : ∀ (u : Sto) (v : List D), fLen [.lst u.length] (u ++ [v]) = .ok (.int v.length) (u ++ [v]) := fun u v => by simp only [fLen, get_last]
      refine ⟨_, _, _, rfl, ?_, ⟨some (dq y), o2, t ++ [(f.filter fun z => decide (z < y)).map dq], rfl, rfl⟩, insQ_q hf hy', by rw [insQ_len]; omega⟩
      simp only [mSeq, mRet, mNx, mOpN, mCons, mNil, mOp2, mOp1, mVar, mC, mTru, mIf, mAndT, mOrT, mNotT, mAnd, mOr, mIfS, mAsg, mPar, bindP, bindPs, fin, Res.bind_ok, Res.bind_exc, Res.bind_bad, Res.st_ok, Res.st_exc, Res.st_bad, List.length_cons, List.length_nil, List.map_cons, List.map_nil, List.replicate, List.set_cons_zero, List.set_cons_succ, List.getElem?_cons_zero, List.getElem?_cons_succ, List.cons_append, List.nil_append, List.append_nil, mDrop, mMethL, isL, if_true, el, hL]
      have e8 : (s ++ f.map dq :: t ++ [(f.filter fun z => decide (z < y)).map dq]) = s ++ f.map dq :: (t ++ [(f.filter fun z => decide (z < y)).map dq]) := by simp
      rw [e8]
      simp only [gInsert, mid, set_mid]
      have hlen : (((f.filter fun z => decide (z < y)).map dq).length : Int) = (cntB f y : Int) := by rw [List.length_map]; rfl
      rw [hlen, if_pos (by rw [List.length_map]; unfold big; refine ⟨by omega, by omega, by omega⟩)]
      simp only [mSeq, mRet, mNx, mOpN, mCons, mNil, mOp2, mOp1, mVar, mC, mTru, mIf, mAndT, mOrT, mNotT, mAnd, mOr, mIfS, mAsg, mPar, bindP, bindPs, fin, Res.bind_ok, Res.bind_exc, Res.bind_bad, Res.st_ok, Res.st_exc, Res.st_bad, List.length_cons, List.length_nil, List.map_cons, List.map_nil, List.replicate, List.set_cons_zero, List.set_cons_succ, List.getElem?_cons_zero, List.getElem?_cons_succ, List.cons_append, List.nil_append, List.append_nil]
      congr 3
      unfold insQ
      simp) [] [some (.lst k), some (.lst s.length), none, none] (s ++ [[]]) ⟨⟨none, none, [], rfl, rfl⟩, (fun _ z => by cases z), by simpa using hl⟩
  refine ⟨t, ?_⟩
  rw [hs1] at e5
  simp only [c_law_in_order, m_law_in_order, fnM, if_true, List.length_cons, List.length_nil, List.map_cons, List.map_nil, Nat.reduceSub, List.replicate]
  have hp : pLst [] s = .ok (.lst s.length) (s ++ [[]]) := rfl
  simp only [mFor, mRow, mSeq, mRet, mNx, mOpN, mCons, mNil, mOp2, mOp1, mVar, mC, mTru, mIf, mAndT, mOrT, mNotT, mAnd, mOr, mIfS, mAsg, mPar, bindP, bindPs, fin, Res.bind_ok, Res.bind_exc, Res.bind_bad, Res.st_ok, Res.st_exc, Res.st_bad, List.length_cons, List.length_nil, List.map_cons, List.map_nil, List.replicate, List.set_cons_zero, List.set_cons_succ, List.getElem?_cons_zero, List.getElem?_cons_succ, List.cons_append, List.nil_append, List.append_nil, hp, e3', e5]
  unfold trunc
  have : below s.length (.lst s.length) = false := by unfold RM.below; simp
  simp [this]
  rfl
end K03
set_option Elab.async false
set_option linter.all false
set_option maxRecDepth 100000
namespace K03
open PySem PySem.Spec PyProof.Rows L2 RM
/-! the plain law: lines and their lowest row -/
/-- l is lowest at m, and of the least slope among those -/
def Best (ls : List Ln) (m : Rat) (l : Ln) : Prop := l ∈ ls ∧ ∀ o ∈ ls, ev l m < ev o m ∨ ev l m = ev o m ∧ l.2 ≤ o.2
theorem Best.uniq {ls ls' : List Ln} {m : Rat} {l l' : Ln} (h : Best ls m l) (h' : Best ls' m l') (h1 : l' ∈ ls) (h2 : l ∈ ls') : l = l' := by
  have a := h.2 l' h1
  have b := h'.2 l h2
  unfold ev at a b
  have e2 : l.2 = l'.2 := by grind
  have e1 : l.1 = l'.1 := by
    have : l.1 + l.2 * m = l'.1 + l'.2 * m := by grind
    rw [e2] at this
    grind
  exact Prod.ext e1 e2
theorem Best.le {ls : List Ln} {m : Rat} {l o : Ln} (h : Best ls m l) (ho : o ∈ ls) : ev l m ≤ ev o m := by
  have := h.2 o ho
  grind
/-- the first line -/
theorem firstL_best : ∀ (xs : List Ln) (x : Ln) (P : List Ln), Best (P ++ [x]) 0 x ∨ True → (x ∈ P ++ [x]) → ((∀ o ∈ P, isb o x = false) → (firstL x xs) ∈ x :: xs ∧ (∀ o ∈ P ++ x :: xs, isb o (firstL x xs) = false)) := by
  intro xs
  induction xs with
  | nil =>
    intro x P _ _ h
    refine ⟨by simp [firstL], fun o ho => ?_⟩
    simp only [List.mem_append, List.mem_singleton] at ho
    rcases ho with ho | rfl
    · exact h o ho
    · simp [firstL, isb]
  | cons y xs ih =>
    intro x P _ _ h
    have hlow : firstL x (y :: xs) = firstL (lower x y) xs := rfl
    rw [hlow]
    have hP : ∀ o ∈ P ++ [x, y], isb o (lower x y) = false := by
      intro o ho
      simp only [List.mem_append, List.mem_cons, List.not_mem_nil, or_false] at ho
      unfold lower
      by_cases c : isb y x = true
      · rw [if_pos c]
        simp only [isb, decide_eq_true_eq, decide_eq_false_iff_not] at *
        rcases ho with ho | rfl | rfl
        · have := h o ho
          grind
        · grind
        · grind
      · rw [if_neg c]
        simp only [isb, decide_eq_true_eq, decide_eq_false_iff_not] at *
        rcases ho with ho | rfl | rfl
        · exact h o ho
        · grind
        · exact c
    obtain ⟨i1, i2⟩ := ih (lower x y) (P ++ [x, y]) (.inr trivial) (by simp) hP
    refine ⟨?_, fun o ho => i2 o (by simp only [List.mem_append, List.mem_cons] at ho ⊢; grind)⟩
    simp only [List.mem_cons] at i1 ⊢
    rcases i1 with i1 | i1
    · rw [i1]
      unfold lower
      split <;> simp
    · exact .inr (.inr i1)
theorem first_best (x : Ln) (xs : List Ln) : Best (x :: xs) 0 (firstL x xs) := by
  obtain ⟨h1, h2⟩ := firstL_best xs x [] (.inr trivial) (by simp) (fun _ z => by cases z)
  refine ⟨h1, fun o ho => ?_⟩
  have := h2 o ho
  simp only [isb, decide_eq_false_iff_not] at this
  unfold ev
  grind
/-- where the line o of a smaller slope crosses L -/
def crs (L o : Ln) : Rat := (o.1 - L.1) / (L.2 - o.2)
theorem crs_mul {L o : Ln} (h : o.2 < L.2) : crs L o * (L.2 - o.2) = o.1 - L.1 := by
  unfold crs
  exact Rat.div_mul_cancel (by grind)
theorem ev_crs {L o : Ln} (h : o.2 < L.2) (m : Rat) : ev o m - ev L m = (crs L o - m) * (L.2 - o.2) := by
  have := crs_mul h
  unfold ev
  grind
/-- what the next row is -/
def Nx (L : Ln) (ls : List Ln) : Option Rw → Prop
  | none => ∀ o ∈ ls, ¬ o.2 < L.2
  | some r => r.2 ∈ ls ∧ r.2.2 < L.2 ∧ r.1 = crs L r.2 ∧ ∀ o ∈ ls, o.2 < L.2 → r.1 < crs L o ∨ r.1 = crs L o ∧ r.2.2 ≤ o.2
theorem nx_step {L : Ln} {P : List Ln} {f : Option Rw} (h : Nx L P f) (o : Ln) : Nx L (P ++ [o]) (better L f o) := by
  unfold better
  by_cases c : o.2 < L.2
  · rw [if_pos c]
    cases f with
    | none =>
      refine ⟨by simp, c, rfl, fun z hz hs => ?_⟩
      simp only [List.mem_append, List.mem_singleton] at hz
      rcases hz with hz | rfl
      · exact absurd hs (h z hz)
      · right
        exact ⟨rfl, Rat.le_refl⟩
    | some r =>
      obtain ⟨h1, h2, h3, h4⟩ := h
      simp only []
      have ec : (o.1 - L.1) / (L.2 - o.2) = crs L o := rfl
      rw [ec]
      by_cases c2 : crs L o < r.1 ∨ crs L o = r.1 ∧ o.2 < r.2.2
      · rw [if_pos c2]
        refine ⟨by simp, c, rfl, fun z hz hs => ?_⟩
        simp only [List.mem_append, List.mem_singleton] at hz
        rcases hz with hz | rfl
        · have := h4 z hz hs
          simp only []
          grind
        · right
          exact ⟨rfl, Rat.le_refl⟩
      · rw [if_neg c2]
        refine ⟨by simp [h1], h2, h3, fun z hz hs => ?_⟩
        simp only [List.mem_append, List.mem_singleton] at hz
        rcases hz with hz | rfl
        · exact h4 z hz hs
        · grind
  · rw [if_neg c]
    cases f with
    | none =>
      intro z hz
      simp only [List.mem_append, List.mem_singleton] at hz
      rcases hz with hz | rfl
      · exact h z hz
      · exact c
    | some r =>
      obtain ⟨h1, h2, h3, h4⟩ := h
      refine ⟨by simp [h1], h2, h3, fun z hz hs => ?_⟩
      simp only [List.mem_append, List.mem_singleton] at hz
      rcases hz with hz | rfl
      · exact h4 z hz hs
      · exact absurd hs c
theorem nx_fold (L : Ln) : ∀ (ls P : List Ln) (f : Option Rw), Nx L P f → Nx L (P ++ ls) (ls.foldl (better L) f)
  | [], P, f, h => by rw [List.append_nil]; exact h
  | o :: ls, P, f, h => by
    have := nx_fold L ls (P ++ [o]) _ (nx_step h o)
    rw [List.append_assoc] at this
    exact this
theorem nx (L : Ln) (ls : List Ln) : Nx L ls (nextL L ls) := nx_fold L ls [] none (fun _ h => by cases h)
theorem Nx.uniq {L : Ln} {ls ls' : List Ln} {a b : Option Rw} (h : Nx L ls a) (h' : Nx L ls' b) (h1 : ∀ r, a = some r → r.2 ∈ ls') (h2 : ∀ r, b = some r → r.2 ∈ ls) : a = b := by
  cases a with
  | none =>
    cases b with
    | none => rfl
    | some r => exact absurd h'.2.1 (h _ (h2 r rfl))
  | some r =>
    cases b with
    | none => exact absurd h.2.1 (h' _ (h1 r rfl))
    | some q =>
      obtain ⟨a1, a2, a3, a4⟩ := h
      obtain ⟨b1, b2, b3, b4⟩ := h'
      have c1 := a4 q.2 (h2 q rfl) b2
      have c2 := b4 r.2 (h1 r rfl) a2
      have e : r.1 = q.1 := by grind
      have e2 : r.2.2 = q.2.2 := by grind
      have m1 := crs_mul a2
      have m2 := crs_mul b2
      have e1 : r.2.1 = q.2.1 := by
        rw [← a3, e, e2] at m1
        rw [← b3] at m2
        grind
      congr 1
      exact Prod.ext e (Prod.ext e1 e2)
/-- the next row's line is the best at its turn, and up to there the line stays the best -/
theorem nx_best {L : Ln} {ls : List Ln} {r : Rw} {m : Rat} (hb : Best ls m L) (h : Nx L ls (some r)) : m < r.1 ∧ Best ls r.1 r.2 ∧ ∀ p, m ≤ p → p < r.1 → Best ls p L := by
  obtain ⟨h1, h2, h3, h4⟩ := h
  have key : ∀ o ∈ ls, o.2 < L.2 → m < crs L o := by
    intro o ho hs
    have a := hb.2 o ho
    have b := ev_crs hs m
    have c : 0 < (crs L o - m) * (L.2 - o.2) := by grind
    have d : 0 < L.2 - o.2 := by grind
    have := (Rat.mul_pos_iff_of_pos_right d).mp c
    grind
  have k1 : m < r.1 := by rw [h3]; exact key _ h1 h2
  have up : ∀ p, m ≤ p → ∀ o ∈ ls, ¬ o.2 < L.2 → ev L p ≤ ev o p := by
    intro p hp o ho hs
    have a := hb.le ho
    have c : 0 ≤ (o.2 - L.2) * (p - m) := Rat.mul_nonneg (by grind) (by grind)
    unfold ev at *
    grind
  refine ⟨k1, ⟨h1, fun o ho => ?_⟩, fun p hp hq => ⟨hb.1, fun o ho => ?_⟩⟩
  · have er : ev r.2 r.1 = ev L r.1 := by
      have := ev_crs h2 r.1
      rw [← h3] at this
      grind
    by_cases c : o.2 < L.2
    · have a := h4 o ho c
      have b := ev_crs c r.1
      rcases a with a | ⟨a, a'⟩
      · left
        have : 0 < (crs L o - r.1) * (L.2 - o.2) := Rat.mul_pos (by grind) (by grind)
        grind
      · right
        refine ⟨?_, a'⟩
        rw [← a] at b
        grind
    · have a := up r.1 (Rat.le_of_lt k1) o ho c
      grind
  · by_cases c : o.2 < L.2
    · left
      have a := h4 o ho c
      have b := ev_crs c p
      have : 0 < (crs L o - p) * (L.2 - o.2) := Rat.mul_pos (by grind) (by grind)
      grind
    · have a := up p hp o ho c
      grind
theorem nx_none {L : Ln} {ls : List Ln} {m : Rat} (hb : Best ls m L) (h : Nx L ls none) : ∀ p, m ≤ p → Best ls p L := by
  intro p hp
  refine ⟨hb.1, fun o ho => ?_⟩
  have hs := h o ho
  have a := hb.le ho
  have c : 0 ≤ (o.2 - L.2) * (p - m) := Rat.mul_nonneg (by grind) (by grind)
  have d : ev L p ≤ ev o p := by
    unfold ev at *
    grind
  grind
/-- a chain stands -/
theorem chain_ex (ls : List Ln) : ∀ (n : Nat) (L : Ln), (ls.filter fun o => decide (o.2 < L.2)).length ≤ n → ∃ rows, IsChain ls L rows ∧ rows.length ≤ n
  | n, L, h => by
    have hn := nx L ls
    cases e : nextL L ls with
    | none => exact ⟨[], e, by simp⟩
    | some r =>
      rw [e] at hn
      obtain ⟨h1, h2, h3, h4⟩ := hn
      have hlt : (ls.filter fun o => decide (o.2 < r.2.2)).length < (ls.filter fun o => decide (o.2 < L.2)).length := by
        have e1 : (ls.filter fun o => decide (o.2 < r.2.2)) = (ls.filter fun o => decide (o.2 < L.2)).filter fun o => decide (o.2 < r.2.2) := by
          rw [List.filter_filter]
          apply List.filter_congr
          intro z _
          by_cases c : z.2 < r.2.2
          · have : z.2 < L.2 := by grind
            simp [c, this]
          · simp [c]
        rw [e1]
        apply List.length_filter_lt_length_iff_exists.mpr
        exact ⟨r.2, by simp [h1, h2], by simp⟩
      match n, h with
      | 0, h => omega
      | n + 1, h =>
        obtain ⟨rows, c, l⟩ := chain_ex ls n r.2 (by omega)
        exact ⟨r :: rows, ⟨e, c⟩, by simp; omega⟩
end K03
set_option Elab.async false
set_option linter.all false
set_option maxRecDepth 100000
namespace K03
open PySem PySem.Spec PyProof.Rows L2 RM
theorem chain_cons {ls : List Ln} {L : Ln} {r : Rw} {rs : List Rw} {m : Rat} (hb : Best ls m L) (h : IsChain ls L (r :: rs)) : (m < r.1 ∧ Best ls r.1 r.2 ∧ ∀ p, m ≤ p → p < r.1 → Best ls p L) ∧ IsChain ls r.2 rs := by
  obtain ⟨h1, h2⟩ := h
  have := nx L ls
  rw [h1] at this
  exact ⟨nx_best hb this, h2⟩
theorem chain_gt {ls : List Ln} : ∀ (rows : List Rw) (L : Ln) (m : Rat), Best ls m L → IsChain ls L rows → ∀ q ∈ rows, m < q.1 ∧ Best ls q.1 q.2
  | [], _, _, _, _, q, hq => by cases hq
  | r :: rs, L, m, hb, hc, q, hq => by
    obtain ⟨⟨a, b, _⟩, c⟩ := chain_cons hb hc
    rcases List.mem_cons.mp hq with rfl | hq
    · exact ⟨a, b⟩
    · have := chain_gt rs r.2 r.1 b c q hq
      exact ⟨by grind, this.2⟩
theorem pick_skip {p : Rat} : ∀ (rs : List Rw) (L : Ln), (∀ q ∈ rs, p < q.1) → rs.foldl (pick p) L = L
  | [], _, _ => rfl
  | r :: rs, L, h => by
    have h1 := h r List.mem_cons_self
    have : pick p L r = L := by
      unfold pick
      rw [if_neg (by grind)]
    rw [List.foldl_cons, this]
    exact pick_skip rs L fun q hq => h q (List.mem_cons_of_mem _ hq)
theorem chain_pick {ls : List Ln} : ∀ (rows : List Rw) (L : Ln) (m p : Rat), Best ls m L → IsChain ls L rows → m ≤ p → Best ls p (rows.foldl (pick p) L)
  | [], L, m, p, hb, hc, hp => by
    have := nx L ls
    rw [show nextL L ls = none from hc] at this
    exact nx_none hb this p hp
  | r :: rs, L, m, p, hb, hc, hp => by
    obtain ⟨⟨a, b, d⟩, c⟩ := chain_cons hb hc
    rw [List.foldl_cons]
    by_cases hr : r.1 ≤ p
    · have : pick p L r = r.2 := by unfold pick; rw [if_pos hr]
      rw [this]
      exact chain_pick rs r.2 r.1 p b c hr
    · have : pick p L r = L := by unfold pick; rw [if_neg hr]
      rw [this, pick_skip rs L (fun q hq => by have := (chain_gt rs r.2 r.1 b c q hq).1; grind)]
      exact d p hp (by grind)
theorem pick_mem {p : Rat} : ∀ (rs : List Rw) (L : Ln), rs.foldl (pick p) L = L ∨ ∃ r ∈ rs, rs.foldl (pick p) L = r.2
  | [], _ => .inl rfl
  | r :: rs, L => by
    rw [List.foldl_cons]
    rcases pick_mem (p := p) rs (pick p L r) with h | ⟨q, hq, h⟩
    · rw [h]
      unfold pick
      split
      · exact .inr ⟨r, List.mem_cons_self, rfl⟩
      · exact .inl rfl
    · exact .inr ⟨q, List.mem_cons_of_mem _ hq, h⟩
/-- what the law tells of a sorted row of points -/
def emit (bst : Rat → Ln) : Ln → List Rat → List Rw
  | _, [] => []
  | L, p :: ps => if bst p = L then emit bst L ps else (p, bst p) :: emit bst (bst p) ps
theorem chain_emit {ls : List Ln} {bst : Rat → Ln} (hB : ∀ p, Best ls p (bst p)) : ∀ (ps : List Rat) (rows : List Rw) (L : Ln) (m : Rat), Best ls m L → IsChain ls L rows → (m :: ps).Pairwise (· < ·) → (∀ l ∈ ls, ∀ o ∈ ls, o.2 < l.2 → m < crs l o → crs l o ∈ ps) → emit bst L ps = rows
  | [], rows, L, m, hb, hc, hs, hp => by
    cases rows with
    | nil => rfl
    | cons r rs =>
      have hn := nx L ls
      rw [hc.1] at hn
      have := (chain_cons hb hc).1.1
      have h4 := hp L hb.1 r.2 hn.1 hn.2.1 (by rw [← hn.2.2.1]; exact this)
      cases h4
  | p :: ps, rows, L, m, hb, hc, hs, hp => by
    have hmp : m < p := (List.pairwise_cons.mp hs).1 p List.mem_cons_self
    have hs' := (List.pairwise_cons.mp hs).2
    have hp' : ∀ l ∈ ls, ∀ o ∈ ls, o.2 < l.2 → p < crs l o → crs l o ∈ ps := by
      intro l hl o ho hlt hcr
      rcases List.mem_cons.mp (hp l hl o ho hlt (by grind)) with h | h
      · grind
      · exact h
    unfold emit
    cases rows with
    | nil =>
      have hn := nx L ls
      rw [show nextL L ls = none from hc] at hn
      have hbp := nx_none hb hn p (Rat.le_of_lt hmp)
      have : bst p = L := (hB p).uniq hbp hbp.1 (hB p).1
      rw [if_pos this]
      exact chain_emit hB ps [] L p hbp hc hs' hp'
    | cons r rs =>
      have hn := nx L ls
      rw [hc.1] at hn
      obtain ⟨⟨a, b, d⟩, c⟩ := chain_cons hb hc
      have hr := hp L hb.1 r.2 hn.1 hn.2.1 (by rw [← hn.2.2.1]; exact a)
      rw [← hn.2.2.1] at hr
      by_cases e : r.1 = p
      · have : bst p = r.2 := by
          rw [e] at b
          exact (hB p).uniq b b.1 (hB p).1
        have hne : ¬ bst p = L := by
          intro z
          have := hn.2.1
          grind
        rw [if_neg hne, this, ← e]
        rw [e] at b
        rw [chain_emit hB ps rs r.2 p b c hs' hp']
      · have hlt : p < r.1 := by
          rcases List.mem_cons.mp hr with h | h
          · exact absurd h e
          · exact (List.pairwise_cons.mp hs').1 _ h
        have hbp := d p (Rat.le_of_lt hmp) hlt
        have : bst p = L := (hB p).uniq hbp hbp.1 (hB p).1
        rw [if_pos this]
        exact chain_emit hB ps (r :: rs) L p hbp hc hs' hp'
/-- fewer lines, the same row -/
theorem chain_sub {ls S : List Ln} (h1 : ∀ o ∈ S, o ∈ ls) : ∀ (rows : List Rw) (L : Ln), IsChain ls L rows → (∀ r ∈ rows, r.2 ∈ S) → IsChain S L rows
  | [], L, hc, _ => by
    have a := nx L ls
    have b := nx L S
    exact ((Nx.uniq b a (fun r e => by rw [e] at b; exact h1 _ b.1) (fun r e => by rw [show nextL L ls = none from hc] at e; cases e)).trans hc)
  | r :: rs, L, hc, h2 => by
    have a := nx L ls
    have b := nx L S
    refine ⟨(Nx.uniq b a (fun r e => by rw [e] at b; exact h1 _ b.1) (fun q e => ?_)).trans hc.1, chain_sub h1 rs r.2 hc.2 fun q hq => h2 q (List.mem_cons_of_mem _ hq)⟩
    rw [hc.1] at e
    cases e
    exact h2 r List.mem_cons_self
theorem Best.sub {ls S : List Ln} {m : Rat} {l : Ln} (h : Best ls m l) (h1 : ∀ o ∈ S, o ∈ ls) (h2 : l ∈ S) : Best S m l := ⟨h2, fun o ho => h.2 o (h1 o ho)⟩
theorem first_sub {x y : Ln} {xs ys : List Ln} (h1 : ∀ o ∈ y :: ys, o ∈ x :: xs) (h2 : firstL x xs ∈ y :: ys) : firstL y ys = firstL x xs :=
  (first_best y ys).uniq ((first_best x xs).sub h1 h2) h2 (first_best y ys).1
/-! one line more to each -/
def addl (d l : Ln) : Ln := (l.1 + d.1, l.2 + d.2)
theorem better_add (d L : Ln) (f : Option Rw) (o : Ln) : better (addl d L) (f.map (addL d)) (addl d o) = (better L f o).map (addL d) := by
  have e1 : (addl d o).1 - (addl d L).1 = o.1 - L.1 := by unfold addl; grind
  have e2 : (addl d L).2 - (addl d o).2 = L.2 - o.2 := by unfold addl; grind
  have e3 : (addl d o).2 < (addl d L).2 ↔ o.2 < L.2 := by unfold addl; grind
  unfold better
  rw [e1, e2]
  by_cases c : o.2 < L.2
  · rw [if_pos (e3.mpr c), if_pos c]
    cases f with
    | none => rfl
    | some r =>
      simp only [Option.map_some]
      have e4 : (addL d r).1 = r.1 := rfl
      have e5 : (addl d o).2 < (addL d r).2.2 ↔ o.2 < r.2.2 := by unfold addl addL; grind
      simp only [e4, e5]
      split <;> rfl
  · rw [if_neg (fun z => c (e3.mp z)), if_neg c]
theorem next_add (d L : Ln) : ∀ (ls : List Ln) (f : Option Rw), (ls.map (addl d)).foldl (better (addl d L)) (f.map (addL d)) = (ls.foldl (better L) f).map (addL d)
  | [], _ => rfl
  | o :: ls, f => by
    rw [List.map_cons, List.foldl_cons, List.foldl_cons, better_add]
    exact next_add d L ls _
theorem chain_add (d : Ln) {ls : List Ln} : ∀ (rows : List Rw) (L : Ln), IsChain ls L rows → IsChain (ls.map (addl d)) (addl d L) (rows.map (addL d))
  | [], L, h => by
    have e := next_add d L ls none
    rw [show ls.foldl (better L) none = none from h] at e
    exact e
  | r :: rs, L, h => by
    have e := next_add d L ls none
    rw [show ls.foldl (better L) none = some r from h.1] at e
    exact ⟨e, chain_add d rs r.2 h.2⟩
theorem first_add (d : Ln) : ∀ (xs : List Ln) (x : Ln), firstL (addl d x) (xs.map (addl d)) = addl d (firstL x xs)
  | [], _ => rfl
  | y :: xs, x => by
    have e : lower (addl d x) (addl d y) = addl d (lower x y) := by
      have : isb (addl d y) (addl d x) = isb y x := by
        unfold isb addl
        rw [decide_eq_decide]
        grind
      unfold lower
      rw [this]
      split <;> rfl
    show firstL (lower (addl d x) (addl d y)) (xs.map (addl d)) = _
    rw [e]
    exact first_add d xs (lower x y)
/-! the row is a row as it ought to be -/
theorem chain_behind {ls : List Ln} : ∀ (rows : List Rw) (L : Ln) (m : Rat), Best ls m L → IsChain ls L rows → ∀ p ∈ ((m, L) :: rows).zip rows, behind p.1 p.2 = true
  | [], _, _, _, _, p, hp => by simp at hp
  | r :: rs, L, m, hb, hc, p, hp => by
    obtain ⟨⟨a, b, d⟩, c⟩ := chain_cons hb hc
    have hn := nx L ls
    rw [hc.1] at hn
    simp only [List.zip_cons_cons, List.mem_cons] at hp
    rcases hp with rfl | hp
    · unfold behind
      refine decide_eq_true ⟨a, hn.2.1, ?_⟩
      have := ev_crs hn.2.1 r.1
      rw [← hn.2.2.1] at this
      grind
    · exact chain_behind rs r.2 r.1 b c p (by simpa using hp)
theorem chain_mem {ls : List Ln} {rows : List Rw} {L : Ln} {m : Rat} (hb : Best ls m L) (hc : IsChain ls L rows) : ∀ r ∈ (m, L) :: rows, r.2 ∈ ls := by
  intro r hr
  rcases List.mem_cons.mp hr with rfl | hr
  · exact hb.1
  · exact (chain_gt rows L m hb hc r hr).2.1
theorem chain_env {ls : List Ln} {rows : List Rw} {L : Ln} (hb : Best ls 0 L) (hc : IsChain ls L rows) (h0 : ∀ l ∈ ls, 0 ≤ l.2) : isEnv (0, L) rows = true := by
  unfold isEnv
  rw [Bool.and_eq_true, Bool.and_eq_true]
  refine ⟨List.all_eq_true.mpr fun r hr => decide_eq_true (h0 _ (chain_mem hb hc r hr)), by simp, List.all_eq_true.mpr fun p hp => chain_behind rows L 0 hb hc p hp⟩
theorem val_best {ls : List Ln} {rows : List Rw} {L : Ln} {m : Rat} (hb : Best ls 0 L) (hc : IsChain ls L rows) (h : 0 ≤ m) : Best ls m (valL m (0, L) rows) := by
  have : valL m (0, L) rows = rows.foldl (pick m) L := by
    show rows.foldl (pick m) (pick m L (0, L)) = _
    have : pick m L (0, L) = L := by unfold pick; split <;> rfl
    rw [this]
  rw [this]
  exact chain_pick rows L 0 m hb hc h
theorem minL_spec (x : Rat) (xs : List Rat) : minL x xs ∈ x :: xs ∧ ∀ y ∈ x :: xs, minL x xs ≤ y := by
  suffices ∀ (ys : List Rat) (f : Rat), (ys.foldl minR f = f ∨ ys.foldl minR f ∈ ys) ∧ ys.foldl minR f ≤ f ∧ ∀ y ∈ ys, ys.foldl minR f ≤ y by
    obtain ⟨a, b, c⟩ := this (x :: xs) x
    exact ⟨by rcases a with a | a; · unfold minL; rw [a]; exact List.mem_cons_self
              · exact a, c⟩
  intro ys
  induction ys with
  | nil => intro f; exact ⟨.inl rfl, Rat.le_refl, fun _ z => by cases z⟩
  | cons y ys ih =>
    intro f
    obtain ⟨a, b, c⟩ := ih (minR f y)
    rw [List.foldl_cons]
    have h1 : minR f y = f ∨ minR f y = y := by unfold minR; split <;> simp
    have h2 : minR f y ≤ f := by unfold minR; split <;> grind
    have h3 : minR f y ≤ y := by unfold minR; split <;> grind
    refine ⟨?_, Rat.le_trans b h2, fun z hz => ?_⟩
    · rcases a with a | a
      · rw [a]
        rcases h1 with h1 | h1
        · exact .inl h1
        · rw [h1]; exact .inr List.mem_cons_self
      · exact .inr (List.mem_cons_of_mem _ a)
    · rcases List.mem_cons.mp hz with rfl | hz
      · exact Rat.le_trans b h3
      · exact c z hz
end K03
set_option Elab.async false
set_option linter.all false
set_option maxRecDepth 100000
namespace K03
open PySem PySem.Spec PyProof.Rows L2 RM
/-! the law's own lowest row -/
def hereL (v : Rat) (W : List Ln) (m : Rat) : List Ln := W.filter fun o => decide (ev o m = v)
def steepL : List Ln → Rat
  | [] => 0
  | h :: hs => minL h.2 (hs.map fun o => o.2)
def bstL (l : Ln) (ls : List Ln) (m : Rat) : Ln := ((hereL (vmin l ls m) (l :: ls) m).filter fun o => decide (o.2 = steepL (hereL (vmin l ls m) (l :: ls) m))).headD l
theorem vmin_spec (l : Ln) (ls : List Ln) (m : Rat) : (∃ o ∈ l :: ls, ev o m = vmin l ls m) ∧ ∀ o ∈ l :: ls, vmin l ls m ≤ ev o m := by
  obtain ⟨a, b⟩ := minL_spec (ev l m) (ls.map fun o => ev o m)
  rw [← List.map_cons (f := fun o => ev o m)] at a b
  obtain ⟨o, ho, e⟩ := List.mem_map.mp a
  exact ⟨⟨o, ho, e⟩, fun o ho => b _ (List.mem_map.mpr ⟨o, ho, rfl⟩)⟩
theorem here_ne (l : Ln) (ls : List Ln) (m : Rat) : ∃ h hs, hereL (vmin l ls m) (l :: ls) m = h :: hs := by
  obtain ⟨⟨o, ho, e⟩, _⟩ := vmin_spec l ls m
  have : o ∈ hereL (vmin l ls m) (l :: ls) m := List.mem_filter.mpr ⟨ho, decide_eq_true e⟩
  cases e : hereL (vmin l ls m) (l :: ls) m with
  | nil => rw [e] at this; cases this
  | cons h hs => exact ⟨h, hs, rfl⟩
theorem steep_spec (h : Ln) (hs : List Ln) : (∃ o ∈ h :: hs, o.2 = steepL (h :: hs)) ∧ ∀ o ∈ h :: hs, steepL (h :: hs) ≤ o.2 := by
  obtain ⟨a, b⟩ := minL_spec h.2 (hs.map fun o => o.2)
  rw [← List.map_cons (f := fun o : Ln => o.2)] at a b
  obtain ⟨o, ho, e⟩ := List.mem_map.mp a
  exact ⟨⟨o, ho, e⟩, fun o ho => b _ (List.mem_map.mpr ⟨o, ho, rfl⟩)⟩
theorem pick_ne (l : Ln) (ls : List Ln) (m : Rat) : ∃ xs, ((hereL (vmin l ls m) (l :: ls) m).filter fun o => decide (o.2 = steepL (hereL (vmin l ls m) (l :: ls) m))) = bstL l ls m :: xs := by
  obtain ⟨h, hs, e⟩ := here_ne l ls m
  unfold bstL
  rw [e]
  obtain ⟨⟨o, ho, e2⟩, _⟩ := steep_spec h hs
  have : o ∈ (h :: hs).filter fun o => decide (o.2 = steepL (h :: hs)) := List.mem_filter.mpr ⟨ho, decide_eq_true e2⟩
  cases e3 : (h :: hs).filter fun o => decide (o.2 = steepL (h :: hs)) with
  | nil => rw [e3] at this; cases this
  | cons x xs => exact ⟨xs, rfl⟩
theorem bst_best (l : Ln) (ls : List Ln) (m : Rat) : Best (l :: ls) m (bstL l ls m) := by
  obtain ⟨xs, e⟩ := pick_ne l ls m
  obtain ⟨h, hs, e2⟩ := here_ne l ls m
  have hm : bstL l ls m ∈ (hereL (vmin l ls m) (l :: ls) m).filter fun o => decide (o.2 = steepL (hereL (vmin l ls m) (l :: ls) m)) := by rw [e]; exact List.mem_cons_self
  obtain ⟨h1, h2⟩ := List.mem_filter.mp hm
  obtain ⟨h3, h4⟩ := List.mem_filter.mp h1
  have h5 := of_decide_eq_true h2
  have h6 := of_decide_eq_true h4
  have vs := (vmin_spec l ls m).2
  refine ⟨h3, fun o ho => ?_⟩
  have v := vs o ho
  by_cases c : ev o m = vmin l ls m
  · right
    refine ⟨h6.trans c.symm, ?_⟩
    have : o ∈ hereL (vmin l ls m) (l :: ls) m := List.mem_filter.mpr ⟨ho, decide_eq_true c⟩
    rw [h5]
    rw [e2] at this ⊢
    exact (steep_spec h hs).2 o this
  · left
    grind
theorem vmin_best {l : Ln} {ls : List Ln} {m : Rat} {b : Ln} (h : Best (l :: ls) m b) : vmin l ls m = ev b m := by
  obtain ⟨⟨o, ho, e⟩, h2⟩ := vmin_spec l ls m
  have := h2 b h.1
  have := h.le ho
  grind
def addRow (bst : Rat → Ln) (f : List Rw) (m : Rat) : List Rw := match f.getLast? with
  | none => [(m, bst m)]
  | some r => if bst m = r.2 then f else f ++ [(m, bst m)]
theorem addRow_emit (bst : Rat → Ln) : ∀ (ps : List Rat) (f : List Rw) (r : Rw), ps.foldl (addRow bst) (f ++ [r]) = f ++ r :: emit bst r.2 ps
  | [], f, r => rfl
  | p :: ps, f, r => by
    rw [List.foldl_cons]
    unfold emit
    have e : addRow bst (f ++ [r]) p = if bst p = r.2 then f ++ [r] else f ++ [r] ++ [(p, bst p)] := by
      unfold addRow
      rw [List.getLast?_append]
      rfl
    rw [e]
    by_cases c : bst p = r.2
    · rw [if_pos c, if_pos c]
      exact addRow_emit bst ps f r
    · rw [if_neg c, if_neg c, addRow_emit bst ps (f ++ [r]) (p, bst p)]
      simp
/-! the points -/
def ptStep (l : Ln) (pts : List Rat) (o : Ln) : List Rat := if l.2 = o.2 then pts else if 0 < crs l o ∧ crs l o ∉ pts then pts ++ [crs l o] else pts
theorem pt_cases (l : Ln) (pts : List Rat) (o : Ln) : ptStep l pts o = pts ∨ (ptStep l pts o = pts ++ [crs l o] ∧ 0 < crs l o ∧ crs l o ∉ pts ∧ l.2 ≠ o.2) := by
  unfold ptStep
  by_cases c : l.2 = o.2
  · rw [if_pos c]; exact .inl rfl
  · rw [if_neg c]
    by_cases c2 : 0 < crs l o ∧ crs l o ∉ pts
    · rw [if_pos c2]; exact .inr ⟨rfl, c2.1, c2.2, c⟩
    · rw [if_neg c2]; exact .inl rfl
theorem pt_sub (l : Ln) (pts : List Rat) (o : Ln) : ∀ q ∈ pts, q ∈ ptStep l pts o := by
  intro q hq
  rcases pt_cases l pts o with e | ⟨e, _⟩ <;> rw [e]
  · exact hq
  · exact List.mem_append_left _ hq
theorem pt_has (l : Ln) (pts : List Rat) (o : Ln) (h : l.2 ≠ o.2) (h0 : 0 < crs l o) : crs l o ∈ ptStep l pts o := by
  unfold ptStep
  rw [if_neg h]
  by_cases c : crs l o ∈ pts
  · rw [if_neg (fun z => z.2 c)]; exact c
  · rw [if_pos ⟨h0, c⟩]; simp
structure PtI (ls : List Ln) (P : Rat → Prop) (pts : List Rat) : Prop where
  nd : pts.Nodup
  nn : ∀ q ∈ pts, 0 ≤ q
  p : ∀ q ∈ pts, P q
  z : (0 : Rat) ∈ pts
theorem pt_I {ls : List Ln} {P : Rat → Prop} {l : Ln} {pts : List Rat} {o : Ln} (hP : l.2 ≠ o.2 → P (crs l o)) (h : PtI ls P pts) : PtI ls P (ptStep l pts o) := by
  rcases pt_cases l pts o with e | ⟨e, h1, h2, h3⟩ <;> rw [e]
  · exact h
  · refine ⟨?_, ?_, ?_, List.mem_append_left _ h.z⟩
    · rw [List.nodup_append]
      refine ⟨h.nd, by simp, fun a ha b hb => ?_⟩
      rw [List.mem_singleton.mp hb]
      intro z
      exact h2 (z ▸ ha)
    · intro q hq
      rcases List.mem_append.mp hq with hq | hq
      · exact h.nn q hq
      · rw [List.mem_singleton.mp hq]; exact Rat.le_of_lt h1
    · intro q hq
      rcases List.mem_append.mp hq with hq | hq
      · exact h.p q hq
      · rw [List.mem_singleton.mp hq]; exact hP h3
theorem pt_row {ls : List Ln} {P : Rat → Prop} {l : Ln} : ∀ (os : List Ln) (pts : List Rat), (∀ o ∈ os, l.2 ≠ o.2 → P (crs l o)) → PtI ls P pts → PtI ls P (os.foldl (ptStep l) pts) ∧ (∀ q ∈ pts, q ∈ os.foldl (ptStep l) pts) ∧ ∀ o ∈ os, l.2 ≠ o.2 → 0 < crs l o → crs l o ∈ os.foldl (ptStep l) pts
  | [], pts, _, h => ⟨h, fun _ hq => hq, fun _ z => by cases z⟩
  | o :: os, pts, hP, h => by
    obtain ⟨a, b, c⟩ := pt_row os (ptStep l pts o) (fun z hz => hP z (List.mem_cons_of_mem _ hz)) (pt_I (hP o List.mem_cons_self) h)
    refine ⟨a, fun q hq => b q (pt_sub l pts o q hq), fun z hz h1 h2 => ?_⟩
    rcases List.mem_cons.mp hz with rfl | hz
    · exact b _ (pt_has l pts z h1 h2)
    · exact c z hz h1 h2
def ptsOf (os ls : List Ln) (pts : List Rat) : List Rat := os.foldl (fun pts l => ls.foldl (ptStep l) pts) pts
theorem pt_all {ls : List Ln} {P : Rat → Prop} : ∀ (os : List Ln) (pts : List Rat), (∀ l ∈ os, ∀ o ∈ ls, l.2 ≠ o.2 → P (crs l o)) → PtI ls P pts → PtI ls P (ptsOf os ls pts) ∧ (∀ q ∈ pts, q ∈ ptsOf os ls pts) ∧ ∀ l ∈ os, ∀ o ∈ ls, l.2 ≠ o.2 → 0 < crs l o → crs l o ∈ ptsOf os ls pts
  | [], pts, _, h => ⟨h, fun _ hq => hq, fun _ z => by cases z⟩
  | l :: os, pts, hP, h => by
    obtain ⟨a, b, c⟩ := pt_row (l := l) ls pts (hP l List.mem_cons_self) h
    obtain ⟨a', b', c'⟩ := pt_all os _ (fun z hz => hP z (List.mem_cons_of_mem _ hz)) a
    refine ⟨a', fun q hq => b' q (b q hq), fun z hz o ho h1 h2 => ?_⟩
    rcases List.mem_cons.mp hz with rfl | hz
    · exact b' _ (c o ho h1 h2)
    · exact c' z hz o ho h1 h2
/-! their order -/
theorem insQ_sorted {f : List Rat} {x : Rat} (hs : f.Pairwise (· < ·)) (hx : x ∉ f) : (insQ f x).Pairwise (· < ·) ∧ ∀ q, q ∈ insQ f x ↔ q = x ∨ q ∈ f := by
  have key : ∀ f : List Rat, f.Pairwise (· < ·) → x ∉ f → insQ f x = (f.filter fun y => decide (y < x)) ++ [x] ++ f.filter fun y => decide (x < y) := by
    intro f
    induction f with
    | nil => intro _ _; rfl
    | cons y f ih =>
      intro hs hx
      obtain ⟨h1, h2⟩ := List.pairwise_cons.mp hs
      have hne : x ≠ y := fun z => hx (z ▸ List.mem_cons_self)
      have hx' : x ∉ f := fun z => hx (List.mem_cons_of_mem _ z)
      have i := ih h2 hx'
      by_cases c : y < x
      · have e : cntB (y :: f) x = cntB f x + 1 := by
          unfold cntB
          rw [List.filter_cons_of_pos (by simpa using c)]
          rfl
        have nc : ¬ x < y := by grind
        unfold insQ at i ⊢
        rw [e, List.take_succ_cons, List.drop_succ_cons, List.filter_cons_of_pos (by simpa using c), List.filter_cons_of_neg (by simpa using nc)]
        simp only [List.cons_append]
        rw [i]
      · have hlt : x < y := by grind
        have e0 : (f.filter fun y => decide (y < x)) = [] := by
          rw [List.filter_eq_nil_iff]
          intro z hz
          have := h1 z hz
          simp
          grind
        have e1 : (f.filter fun y => decide (x < y)) = f := by
          rw [List.filter_eq_self]
          intro z hz
          have := h1 z hz
          simp
          grind
        have e : cntB (y :: f) x = 0 := by
          unfold cntB
          rw [List.filter_cons_of_neg (by simpa using c), e0]
          rfl
        unfold insQ
        rw [e, List.filter_cons_of_neg (by simpa using c), List.filter_cons_of_pos (by simpa using hlt), e0, e1]
        rfl
  rw [key f hs hx]
  refine ⟨?_, fun q => ?_⟩
  · rw [List.pairwise_append, List.pairwise_append]
    refine ⟨⟨hs.filter _, by simp, fun a ha b hb => ?_⟩, hs.filter _, fun a ha b hb => ?_⟩
    · rw [List.mem_singleton.mp hb]
      simpa using (List.mem_filter.mp ha).2
    · have hb' : x < b := by simpa using (List.mem_filter.mp hb).2
      rcases List.mem_append.mp ha with ha | ha
      · have : a < x := by simpa using (List.mem_filter.mp ha).2
        grind
      · rw [List.mem_singleton.mp ha]; exact hb'
  · simp only [List.mem_append, List.mem_singleton, List.mem_filter, decide_eq_true_eq]
    constructor
    · rintro ((⟨h, _⟩ | h) | ⟨h, _⟩)
      · exact .inr h
      · exact .inl h
      · exact .inr h
    · rintro (h | h)
      · exact .inl (.inr h)
      · by_cases c : q < x
        · exact .inl (.inl ⟨h, c⟩)
        · by_cases c2 : q = x
          · exact .inl (.inr c2)
          · exact .inr ⟨h, by grind⟩
theorem inOrd_sorted : ∀ (xs f : List Rat), f.Pairwise (· < ·) → (∀ x ∈ xs, x ∉ f) → xs.Nodup → (xs.foldl insQ f).Pairwise (· < ·) ∧ ∀ q, q ∈ xs.foldl insQ f ↔ q ∈ xs ∨ q ∈ f
  | [], f, hs, _, _ => ⟨hs, fun q => by simp⟩
  | x :: xs, f, hs, hx, hn => by
    obtain ⟨a, b⟩ := insQ_sorted hs (hx x List.mem_cons_self)
    obtain ⟨n1, n2⟩ := List.nodup_cons.mp hn
    obtain ⟨c, d⟩ := inOrd_sorted xs (insQ f x) a (fun y hy => by
      rw [b]
      rintro (rfl | h)
      · exact n1 hy
      · exact hx y (List.mem_cons_of_mem _ hy) h) n2
    refine ⟨c, fun q => ?_⟩
    rw [List.foldl_cons, d, b]
    simp only [List.mem_cons]
    grind
/-- the law's row is the row -/
theorem law_rows {l : Ln} {ls : List Ln} {rows : List Rw} (hc : IsChain (l :: ls) (firstL l ls) rows) : (inOrd (ptsOf (l :: ls) (l :: ls) [0])).foldl (addRow (bstL l ls)) [] = (0, firstL l ls) :: rows := by
  have h0 : PtI (l :: ls) (fun _ => True) [0] := ⟨by simp, by simp [Rat.le_refl], fun _ _ => trivial, by simp⟩
  obtain ⟨I, _, hall⟩ := pt_all (l :: ls) [0] (fun _ _ _ _ _ => trivial) h0
  obtain ⟨so, me⟩ := inOrd_sorted (ptsOf (l :: ls) (l :: ls) [0]) [] List.Pairwise.nil (fun _ _ z => by cases z) I.nd
  have so' : (inOrd (ptsOf (l :: ls) (l :: ls) [0])).Pairwise (· < ·) := so
  have me' : ∀ q, q ∈ inOrd (ptsOf (l :: ls) (l :: ls) [0]) ↔ q ∈ ptsOf (l :: ls) (l :: ls) [0] := fun q => (me q).trans (by simp)
  cases e : inOrd (ptsOf (l :: ls) (l :: ls) [0]) with
  | nil =>
    have := (me' 0).mpr I.z
    rw [e] at this
    cases this
  | cons p ps =>
    rw [e] at so' me'
    have hp : p = 0 := by
      have a := (me' 0).mpr I.z
      rcases List.mem_cons.mp a with h | h
      · exact h.symm
      · have b := (List.pairwise_cons.mp so').1 0 h
        have c := I.nn p ((me' p).mp List.mem_cons_self)
        grind
    subst hp
    have fb := first_best l ls
    have eb : bstL l ls 0 = firstL l ls := (bst_best l ls 0).uniq fb fb.1 (bst_best l ls 0).1
    rw [List.foldl_cons]
    have e1 : addRow (bstL l ls) [] 0 = [] ++ [(0, firstL l ls)] := by
      unfold addRow
      rw [← eb]
      rfl
    rw [e1, addRow_emit, List.nil_append]
    congr 1
    refine chain_emit (bst_best l ls) ps rows (firstL l ls) 0 fb hc so' fun x hx o ho hlt hcr => ?_
    have := hall x hx o ho (by grind) hcr
    rcases List.mem_cons.mp ((me' _).mpr this) with h | h
    · grind
    · exact h
end K03
set_option Elab.async false
set_option linter.all false
set_option maxRecDepth 100000
namespace K03
open PySem PySem.Spec PyProof.Rows L2 RM
variable (cl : Cls)
def LS (l : Ln) : Prop := Sz 7 l.1 ∧ Sz 7 l.2
theorem LS.lb {l : Ln} (h : LS l) : LB l := ⟨h.1.up (by decide), h.2.up (by decide)⟩
theorem sub_ne {p q : Rat} (h : p ≠ q) : p - q ≠ 0 := by grind
theorem crs_sz {l o : Ln} (hl : LS l) (ho : LS o) (h : l.2 ≠ o.2) : Sz 30 (crs l o) := Sz.div (Sz.sub ho.1 hl.1) (Sz.sub hl.2 ho.2) (sub_ne h)
def toP (q : Rat) : PyData := .tuple [.int q.num, .int q.den]
theorem py_dq (s : Sto) (k : Nat) (q : Rat) : pyOf s (k + 2) (dq q) = some (toP q) := rfl
theorem allP_map {α : Type} {f : D → Option PyData} {g : α → D} {h : α → PyData} (e : ∀ x, f (g x) = some (h x)) : ∀ xs : List α, allP f (xs.map g) = some (xs.map h)
  | [] => rfl
  | x :: xs => by simp only [List.map_cons, allP, e, allP_map e xs]; rfl
theorem toP_eqv (p q : Rat) : PyData.eqv (toP p) (toP q) = decide (p = q) := by
  have := pl_eqv 40 (dq p) (dq q) (toP p) (toP q) [] [] rfl rfl rfl rfl
  by_cases c : p = q
  · rw [decide_eq_true c]; exact this.mpr (by rw [c])
  · rw [decide_eq_false c]
    cases e : PyData.eqv (toP p) (toP q) with
    | false => rfl
    | true => exact absurd (dq_inj (this.mp e)) c
theorem notin {k : Nat} {s : Sto} {pts : List Rat} (h : s[k]? = some (pts.map dq)) (m : Rat) : pInB true (dq m) (.lst k) s = .ok (.bl (!decide (m ∈ pts))) s := by
  have e : pyOf s 40 (.lst k) = some (.list (pts.map toP)) := by
    show (match s[k]? with | some xs => (allP (pyOf s 39) xs).map PyData.list | none => none) = _
    rw [h]
    simp only []
    rw [allP_map (fun q => py_dq s 37 q)]
    rfl
  have e2 : ((pts.map toP).any fun z => PyData.eqv z (toP m)) = decide (m ∈ pts) := by
    rw [List.any_map]
    by_cases c : m ∈ pts
    · rw [decide_eq_true c, List.any_eq_true]
      exact ⟨m, c, by simp [toP_eqv]⟩
    · rw [decide_eq_false c, List.any_eq_false]
      intro z hz
      have : z ≠ m := fun e => c (e ▸ hz)
      simp [toP_eqv, this]
  unfold pInB
  rw [py_dq s 38 m, e]
  simp only [e2, if_true]
theorem pt_len (l : Ln) (pts : List Rat) (o : Ln) : (ptStep l pts o).length ≤ pts.length + 1 := by
  rcases pt_cases l pts o with e | ⟨e, _⟩ <;> rw [e]
  · omega
  · simp
theorem numpos (q : Rat) : 0 < q.num ↔ 0 < q := by
  rw [← Int.not_le, ← Rat.not_le]
  constructor
  · intro h z
    have := Rat.num_nonneg.mpr (show 0 ≤ -q by grind)
    rw [Rat.neg_num] at this
    exact h (by omega)
  · intro h z
    have := Rat.num_nonneg.mp (show 0 ≤ (-q).num by rw [Rat.neg_num]; omega)
    grind
theorem lcmp_ne (p q : Rat) (s : Sto) : pNe (.int (lcmp p q)) (.int 0) s = .ok (.bl (!decide (p = q))) s := by
  rw [pNeI]
  congr 3
  rw [decide_eq_decide]
  exact lcmpE p q
theorem app_mid (s : Sto) (x : List D) (t : Sto) (y : D) (h : x.length < big) : gAppend (.lst s.length) [y] (s ++ x :: t) = .ok .non (s ++ (x ++ [y]) :: t) := by
  simp only [gAppend, mid, if_pos h, set_mid]
def LD (W : List Ln) : D := .tup (W.map dl)
theorem inner {W : List Ln} {l : Ln} {s : Sto} {B : Nat} (hW : ∀ o ∈ W, LS o) (hl : LS l) (hB : B ≤ 10000) (o4 o5 o6 : Option D) {pts : List Rat} (hp : pts.length + W.length ≤ B) :
    ∃ o4' o5' o6', loopM (.tp [.nm 4, .nm 5]) (mSeq (mIfS (mTru (mOp2 pNe (mOpN (c_law_cmp cl) (mCons (mVar 3) (mCons (mVar 5) (mNil)))) (mC (.int 0)))) (mSeq (mAsg (.nm 6) (mOpN (c_law_div cl) (mCons (mOpN (c_law_sub cl) (mCons (mVar 4) (mCons (mVar 2) (mNil)))) (mCons (mOpN (c_law_sub cl) (mCons (mVar 3) (mCons (mVar 5) (mNil)))) (mNil))))) (mSeq (mIfS (mAndT (mTru (mOp2 pGt (mOp2 pIx (mVar 6) (mC (.int 0))) (mC (.int 0)))) (mTru (mOp2 (pInB true) (mVar 6) (mVar 1)))) (mSeq (mDrop (mMethL gAppend (mVar 1) (mCons (mVar 6) (mNil)))) (mNx)) (mNx)) (mNx))) (mNx)) (mNx)) (fun _ => True) (W.map dl) [some (LD W), some (.lst s.length), some (dq l.1), some (dq l.2), o4, o5, o6, none, none, none, none, none, none] (s ++ [pts.map dq]) =
      .nx [some (LD W), some (.lst s.length), some (dq l.1), some (dq l.2), o4', o5', o6', none, none, none, none, none, none] (s ++ [(W.foldl (ptStep l) pts).map dq]) ∧ (W.foldl (ptStep l) pts).length ≤ B := by
  obtain ⟨σ', s1, e, ⟨a, b, c, rfl, hs1⟩, hlen⟩ := loop_runN (p := .tp [.nm 4, .nm 5]) (body := (mSeq (mIfS (mTru (mOp2 pNe (mOpN (c_law_cmp cl) (mCons (mVar 3) (mCons (mVar 5) (mNil)))) (mC (.int 0)))) (mSeq (mAsg (.nm 6) (mOpN (c_law_div cl) (mCons (mOpN (c_law_sub cl) (mCons (mVar 4) (mCons (mVar 2) (mNil)))) (mCons (mOpN (c_law_sub cl) (mCons (mVar 3) (mCons (mVar 5) (mNil)))) (mNil))))) (mSeq (mIfS (mAndT (mTru (mOp2 pGt (mOp2 pIx (mVar 6) (mC (.int 0))) (mC (.int 0)))) (mTru (mOp2 (pInB true) (mVar 6) (mVar 1)))) (mSeq (mDrop (mMethL gAppend (mVar 1) (mCons (mVar 6) (mNil)))) (mNx)) (mNx)) (mNx))) (mNx)) (mNx))) (chk := fun _ => True) dl (ptStep l)
    (fun pts n σ s' => (∃ o4 o5 o6, σ = [some (LD W), some (.lst s.length), some (dq l.1), some (dq l.2), o4, o5, o6, none, none, none, none, none, none] ∧ s' = s ++ [pts.map dq]) ∧ pts.length + n ≤ B) (fun _ _ _ _ _ => trivial) W (fun o ho pts n σ s' r => by
      obtain ⟨⟨o4, o5, o6, rfl, rfl⟩, hn⟩ := r
      have ho' := hW o ho
      have nl := pt_len l pts o
      by_cases c : l.2 = o.2
      · refine ⟨_, _, _, rfl, ?_, ⟨some (dq o.1), some (dq o.2), o6, rfl, rfl⟩, by omega⟩
        simp only [mSeq, mRet, mNx, mOpN, mCons, mNil, mOp2, mOp1, mVar, mC, mTru, mIf, mAndT, mOrT, mNotT, mAnd, mOr, mIfS, mAsg, mPar, bindP, bindPs, fin, Res.bind_ok, Res.bind_exc, Res.bind_bad, Res.st_ok, Res.st_exc, Res.st_bad, List.length_cons, List.length_nil, List.map_cons, List.map_nil, List.replicate, List.set_cons_zero, List.set_cons_succ, List.getElem?_cons_zero, List.getElem?_cons_succ, List.cons_append, List.nil_append, List.append_nil, l_cmp cl hl.lb.b ho'.lb.b, lcmp_ne, decide_eq_true c, Bool.not_true, Bool.false_eq_true, if_false, reduceIte]
        unfold ptStep
        rw [if_pos c]
      · have q1 := Sz.sub ho'.1 hl.1
        have q2 := Sz.sub hl.2 ho'.2
        have hd : 0 < l.2 - o.2 ∨ l.2 - o.2 < 0 ∧ (((o.1 - l.1).den : Int) * (l.2 - o.2).num).natAbs < 1073741824 := by
          by_cases z : 0 < l.2 - o.2
          · exact .inl z
          · exact .inr ⟨by grind, sz_mulI (j := 15) (k := 15) (sz_den q1) q2.1⟩
        have ec : (o.1 - l.1) / (l.2 - o.2) = crs l o := rfl
        refine ⟨_, _, _, rfl, ?_, ⟨some (dq o.1), some (dq o.2), some (dq (crs l o)), rfl, rfl⟩, by omega⟩
        simp only [mSeq, mRet, mNx, mOpN, mCons, mNil, mOp2, mOp1, mVar, mC, mTru, mIf, mAndT, mOrT, mNotT, mAnd, mOr, mIfS, mAsg, mPar, bindP, bindPs, fin, Res.bind_ok, Res.bind_exc, Res.bind_bad, Res.st_ok, Res.st_exc, Res.st_bad, List.length_cons, List.length_nil, List.map_cons, List.map_nil, List.replicate, List.set_cons_zero, List.set_cons_succ, List.getElem?_cons_zero, List.getElem?_cons_succ, List.cons_append, List.nil_append, List.append_nil, l_cmp cl hl.lb.b ho'.lb.b, lcmp_ne, decide_eq_false c, Bool.not_false, if_true, l_sub cl ho'.lb.a hl.lb.a, l_sub cl hl.lb.b ho'.lb.b, l_div cl (q9 q1) (q9 q2) hd, ec, dq0, pGtI, numpos]
        unfold ptStep
        rw [if_neg c]
        by_cases z : 0 < crs l o
        · simp only [z, decide_true, if_true, true_and, mSeq, mRet, mNx, mOpN, mCons, mNil, mOp2, mOp1, mVar, mC, mTru, mIf, mAndT, mOrT, mNotT, mAnd, mOr, mIfS, mAsg, mPar, bindP, bindPs, fin, Res.bind_ok, Res.bind_exc, Res.bind_bad, Res.st_ok, Res.st_exc, Res.st_bad, List.length_cons, List.length_nil, List.map_cons, List.map_nil, List.replicate, List.set_cons_zero, List.set_cons_succ, List.getElem?_cons_zero, List.getElem?_cons_succ, List.cons_append, List.nil_append, List.append_nil, notin (get_last s (pts.map dq)) (crs l o)]
          by_cases z2 : crs l o ∈ pts
          · simp only [z2, decide_true, Bool.not_true, Bool.false_eq_true, if_false, reduceIte, not_true_eq_false, and_false]
          · simp only [z2, decide_false, Bool.not_false, if_true, not_false_eq_true, and_true, z, mDrop, mMethL, isL, mSeq, mRet, mNx, mOpN, mCons, mNil, mOp2, mOp1, mVar, mC, mTru, mIf, mAndT, mOrT, mNotT, mAnd, mOr, mIfS, mAsg, mPar, bindP, bindPs, fin, Res.bind_ok, Res.bind_exc, Res.bind_bad, Res.st_ok, Res.st_exc, Res.st_bad, List.length_cons, List.length_nil, List.map_cons, List.map_nil, List.replicate, List.set_cons_zero, List.set_cons_succ, List.getElem?_cons_zero, List.getElem?_cons_succ, List.cons_append, List.nil_append, List.append_nil]
            rw [app_last s (pts.map dq) (dq (crs l o)) (by rw [List.length_map]; unfold big; omega)]
            simp only [mSeq, mRet, mNx, mOpN, mCons, mNil, mOp2, mOp1, mVar, mC, mTru, mIf, mAndT, mOrT, mNotT, mAnd, mOr, mIfS, mAsg, mPar, bindP, bindPs, fin, Res.bind_ok, Res.bind_exc, Res.bind_bad, Res.st_ok, Res.st_exc, Res.st_bad, List.length_cons, List.length_nil, List.map_cons, List.map_nil, List.replicate, List.set_cons_zero, List.set_cons_succ, List.getElem?_cons_zero, List.getElem?_cons_succ, List.cons_append, List.nil_append, List.append_nil, List.map_append]
        · simp only [z, decide_false, Bool.false_eq_true, if_false, reduceIte, false_and, mSeq, mRet, mNx, mOpN, mCons, mNil, mOp2, mOp1, mVar, mC, mTru, mIf, mAndT, mOrT, mNotT, mAnd, mOr, mIfS, mAsg, mPar, bindP, bindPs, fin, Res.bind_ok, Res.bind_exc, Res.bind_bad, Res.st_ok, Res.st_exc, Res.st_bad, List.length_cons, List.length_nil, List.map_cons, List.map_nil, List.replicate, List.set_cons_zero, List.set_cons_succ, List.getElem?_cons_zero, List.getElem?_cons_succ, List.cons_append, List.nil_append, List.append_nil]) pts _ (s ++ [pts.map dq]) ⟨⟨o4, o5, o6, rfl, rfl⟩, hp⟩
  refine ⟨a, b, c, ?_, by omega⟩
  rw [e, hs1]
theorem outer {W : List Ln} {s : Sto} (hW : ∀ o ∈ W, LS o) (hB : 1 + W.length * W.length ≤ 10000) :
    ∃ o2 o3 o4 o5 o6, loopM (.tp [.nm 2, .nm 3]) (mSeq (mFor (.tp [.nm 4, .nm 5]) (mRow (mVar 0)) (mSeq (mIfS (mTru (mOp2 pNe (mOpN (c_law_cmp cl) (mCons (mVar 3) (mCons (mVar 5) (mNil)))) (mC (.int 0)))) (mSeq (mAsg (.nm 6) (mOpN (c_law_div cl) (mCons (mOpN (c_law_sub cl) (mCons (mVar 4) (mCons (mVar 2) (mNil)))) (mCons (mOpN (c_law_sub cl) (mCons (mVar 3) (mCons (mVar 5) (mNil)))) (mNil))))) (mSeq (mIfS (mAndT (mTru (mOp2 pGt (mOp2 pIx (mVar 6) (mC (.int 0))) (mC (.int 0)))) (mTru (mOp2 (pInB true) (mVar 6) (mVar 1)))) (mSeq (mDrop (mMethL gAppend (mVar 1) (mCons (mVar 6) (mNil)))) (mNx)) (mNx)) (mNx))) (mNx)) (mNx))) (mNx)) (fun _ => True) (W.map dl) [some (LD W), some (.lst s.length), none, none, none, none, none, none, none, none, none, none, none] (s ++ [[dq 0]]) =
      .nx [some (LD W), some (.lst s.length), o2, o3, o4, o5, o6, none, none, none, none, none, none] (s ++ [(ptsOf W W [0]).map dq]) ∧ (ptsOf W W [0]).length ≤ 10000 := by
  obtain ⟨σ', s1, e, ⟨a, b, c, d, f, rfl, hs1⟩, hlen⟩ := loop_runN (p := .tp [.nm 2, .nm 3]) (body := (mSeq (mFor (.tp [.nm 4, .nm 5]) (mRow (mVar 0)) (mSeq (mIfS (mTru (mOp2 pNe (mOpN (c_law_cmp cl) (mCons (mVar 3) (mCons (mVar 5) (mNil)))) (mC (.int 0)))) (mSeq (mAsg (.nm 6) (mOpN (c_law_div cl) (mCons (mOpN (c_law_sub cl) (mCons (mVar 4) (mCons (mVar 2) (mNil)))) (mCons (mOpN (c_law_sub cl) (mCons (mVar 3) (mCons (mVar 5) (mNil)))) (mNil))))) (mSeq (mIfS (mAndT (mTru (mOp2 pGt (mOp2 pIx (mVar 6) (mC (.int 0))) (mC (.int 0)))) (mTru (mOp2 (pInB true) (mVar 6) (mVar 1)))) (mSeq (mDrop (mMethL gAppend (mVar 1) (mCons (mVar 6) (mNil)))) (mNx)) (mNx)) (mNx))) (mNx)) (mNx))) (mNx))) (chk := fun _ => True) dl (fun pts l => W.foldl (ptStep l) pts)
    (fun pts n σ s' => (∃ o2 o3 o4 o5 o6, σ = [some (LD W), some (.lst s.length), o2, o3, o4, o5, o6, none, none, none, none, none, none] ∧ s' = s ++ [pts.map dq]) ∧ pts.length + n * W.length ≤ 10000) (fun _ _ _ _ _ => trivial) W (fun l hl pts n σ s' r => by
      obtain ⟨⟨o2, o3, o4, o5, o6, rfl, rfl⟩, hn⟩ := r
      rw [Nat.add_mul, Nat.one_mul] at hn
      obtain ⟨p4, p5, p6, e, hh⟩ := inner cl (s := s) (B := 10000 - n * W.length) hW (hW l hl) (by omega) o4 o5 o6 (pts := pts) (by omega)
      refine ⟨_, _, _, rfl, ?_, ⟨some (dq l.1), some (dq l.2), p4, p5, p6, rfl, rfl⟩, by omega⟩
      simp only [mFor, mRow, mSeq, mRet, mNx, mOpN, mCons, mNil, mOp2, mOp1, mVar, mC, mTru, mIf, mAndT, mOrT, mNotT, mAnd, mOr, mIfS, mAsg, mPar, bindP, bindPs, fin, Res.bind_ok, Res.bind_exc, Res.bind_bad, Res.st_ok, Res.st_exc, Res.st_bad, List.length_cons, List.length_nil, List.map_cons, List.map_nil, List.replicate, List.set_cons_zero, List.set_cons_succ, List.getElem?_cons_zero, List.getElem?_cons_succ, List.cons_append, List.nil_append, List.append_nil]
      rw [show rowIt (LD W) (s ++ [pts.map dq]) = .ok ⟨W.map dl, fun _ => True⟩ (s ++ [pts.map dq]) from rfl]
      simp only [mSeq, mRet, mNx, mOpN, mCons, mNil, mOp2, mOp1, mVar, mC, mTru, mIf, mAndT, mOrT, mNotT, mAnd, mOr, mIfS, mAsg, mPar, bindP, bindPs, fin, Res.bind_ok, Res.bind_exc, Res.bind_bad, Res.st_ok, Res.st_exc, Res.st_bad, List.length_cons, List.length_nil, List.map_cons, List.map_nil, List.replicate, List.set_cons_zero, List.set_cons_succ, List.getElem?_cons_zero, List.getElem?_cons_succ, List.cons_append, List.nil_append, List.append_nil, e]) [0] _ (s ++ [[dq 0]]) ⟨⟨none, none, none, none, none, rfl, rfl⟩, by simpa using hB⟩
  refine ⟨a, b, c, d, f, ?_, by simpa [ptsOf] using hlen⟩
  rw [e, hs1]
  rfl
end K03
set_option Elab.async false
set_option linter.all false
set_option maxRecDepth 100000
namespace K03
open PySem PySem.Spec PyProof.Rows L2 RM
variable (cl : Cls)
theorem eqnil {i j : Nat} {s : Sto} {f : List Rw} (h : s[i]? = some (f.map dr)) (h' : s[j]? = some []) : pEq (.lst i) (.lst j) s = .ok (.bl f.isEmpty) s := by
  have e : ∃ ps, pyOf s 40 (.lst i) = some (.list ps) ∧ ps.length = f.length := by
    have : ∃ ps, allP (pyOf s 39) (f.map dr) = some ps ∧ ps.length = f.length := by
      clear h
      induction f with
      | nil => exact ⟨[], rfl, rfl⟩
      | cons r f ih =>
        obtain ⟨ps, e, hl⟩ := ih
        obtain ⟨p, e2⟩ := pl_py 39 (dr r) (pl_dr 35 r)
        exact ⟨p :: ps, by simp only [List.map_cons, allP, e, e2]; rfl, by simp [hl]⟩
    obtain ⟨ps, e, hl⟩ := this
    refine ⟨ps, ?_, hl⟩
    show (match s[i]? with | some xs => (allP (pyOf s 39) xs).map PyData.list | none => none) = _
    rw [h]
    simp only []
    rw [e]
    rfl
  obtain ⟨ps, e, hl⟩ := e
  have e2 : pyOf s 40 (.lst j) = some (.list []) := by
    show (match s[j]? with | some xs => (allP (pyOf s 39) xs).map PyData.list | none => none) = _
    rw [h']
    rfl
  simp only [pEq, pEqB, e, e2, Bool.false_eq_true, if_false]
  cases f with
  | nil =>
    cases ps with
    | nil => simp [PyData.eqv, PyData.eqvAll]
    | cons _ _ => simp at hl
  | cons _ _ =>
    cases ps with
    | nil => simp at hl
    | cons _ _ => simp [PyData.eqv, PyData.eqvAll]
theorem atLast {α : Type} (xs : List α) (x : α) : L2.atI (xs ++ [x]) (-1) = some x := by
  unfold L2.atI L2.ixN
  rw [if_neg (by decide), if_pos (by simp; omega)]
  have : ((((xs ++ [x]).length : Nat) : Int) + -1).toNat = xs.length := by simp; omega
  show (xs ++ [x])[((((xs ++ [x]).length : Nat) : Int) + -1).toNat]? = some x
  rw [this]
  simp
theorem ixLast {i : Nat} {s : Sto} {xs : List D} {x : D} (h : s[i]? = some (xs ++ [x])) : pIx (.lst i) (.int (-1)) s = .ok x s := by
  simp only [pIx, h, atLast]
theorem lix0 {i : Nat} {s : Sto} {xs : List D} {x : D} (h : s[i]? = some (x :: xs)) : pIx (.lst i) (.int 0) s = .ok x s := by
  simp only [pIx, h, at0]
theorem loop3 {l : Ln} {ls : List Ln} {base : Sto} (hW : ∀ o ∈ l :: ls, LS o) (hn : ls.length + 1 ≤ 50) {chk : Sto → Prop} (t0 : Sto) (hchk : ∀ x t, chk (base ++ x :: (t0 ++ t))) (ms : List Rat) (hms : ∀ m ∈ ms, Sz 3000 m) (hl : ms.length ≤ 20000) (k : Nat) (o2 o3 o4 o5 o6 o8 o9 o10 o11 o12 : Option D) :
    ∃ σ' t, loopM (.nm 6) (mSeq (mAsg (.nm 8) (mOpN (c_law_on cl) (mCons (mVar 0) (mCons (mVar 6) (mNil))))) (mSeq (mAsg (.nm 9) (mLc [2, 3] (.tp [.nm 2, .nm 3]) (mRow (mVar 0)) (mTru (mOp2 pEq (mOpN (c_law_add cl) (mCons (mVar 2) (mCons (mOpN (c_law_mul cl) (mCons (mVar 3) (mCons (mVar 6) (mNil)))) (mNil)))) (mVar 8))) (mOpN pTup (mCons (mVar 2) (mCons (mVar 3) (mNil)))))) (mSeq (mAsg (.nm 10) (mOpN (c_law_min cl) (mCons (mLc [2, 3] (.tp [.nm 2, .nm 3]) (mRow (mVar 9)) (mYes) (mVar 3)) (mNil)))) (mSeq (mAsg (.nm 11) (mOp2 pIx (mLc [12] (.nm 12) (mRow (mVar 9)) (mTru (mOp2 pEq (mOp2 pIx (mVar 12) (mC (.int 1))) (mVar 10))) (mVar 12)) (mC (.int 0)))) (mSeq (mIfS (mOrT (mTru (mOp2 pEq (mVar 7) (mOpN pLst (mNil)))) (mTru (mOp2 pNe (mOp2 pIx (mOp2 pIx (mVar 7) (mOp1 pNeg (mC (.int 1)))) (mC (.int 1))) (mVar 11)))) (mSeq (mDrop (mMethL gAppend (mVar 7) (mCons (mOpN pTup (mCons (mVar 6) (mCons (mVar 11) (mNil)))) (mNil)))) (mNx)) (mNx)) (mNx)))))) chk (ms.map dq) [some (LD (l :: ls)), some (.lst k), o2, o3, o4, o5, o6, some (.lst base.length), o8, o9, o10, o11, o12] (base ++ [] :: t0) = .nx σ' (base ++ (ms.foldl (addRow (bstL l ls)) []).map dr :: (t0 ++ t)) ∧ σ'[7]? = some (some (.lst base.length)) := by
  have hB : ∀ o ∈ l :: ls, LB o := fun o ho => (hW o ho).lb
  obtain ⟨σ', s1, e, ⟨⟨o6, o8, o9, o10, o11, o12, rfl⟩, t, hs1⟩, _⟩ := loop_runN (p := .nm 6) (body := (mSeq (mAsg (.nm 8) (mOpN (c_law_on cl) (mCons (mVar 0) (mCons (mVar 6) (mNil))))) (mSeq (mAsg (.nm 9) (mLc [2, 3] (.tp [.nm 2, .nm 3]) (mRow (mVar 0)) (mTru (mOp2 pEq (mOpN (c_law_add cl) (mCons (mVar 2) (mCons (mOpN (c_law_mul cl) (mCons (mVar 3) (mCons (mVar 6) (mNil)))) (mNil)))) (mVar 8))) (mOpN pTup (mCons (mVar 2) (mCons (mVar 3) (mNil)))))) (mSeq (mAsg (.nm 10) (mOpN (c_law_min cl) (mCons (mLc [2, 3] (.tp [.nm 2, .nm 3]) (mRow (mVar 9)) (mYes) (mVar 3)) (mNil)))) (mSeq (mAsg (.nm 11) (mOp2 pIx (mLc [12] (.nm 12) (mRow (mVar 9)) (mTru (mOp2 pEq (mOp2 pIx (mVar 12) (mC (.int 1))) (mVar 10))) (mVar 12)) (mC (.int 0)))) (mSeq (mIfS (mOrT (mTru (mOp2 pEq (mVar 7) (mOpN pLst (mNil)))) (mTru (mOp2 pNe (mOp2 pIx (mOp2 pIx (mVar 7) (mOp1 pNeg (mC (.int 1)))) (mC (.int 1))) (mVar 11)))) (mSeq (mDrop (mMethL gAppend (mVar 7) (mCons (mOpN pTup (mCons (mVar 6) (mCons (mVar 11) (mNil)))) (mNil)))) (mNx)) (mNx)) (mNx))))))) (chk := chk) dq (addRow (bstL l ls))
    (fun f n σ s' => ((∃ o6 o8 o9 o10 o11 o12, σ = [some (LD (l :: ls)), some (.lst k), o2, o3, o4, o5, o6, some (.lst base.length), o8, o9, o10, o11, o12]) ∧ ∃ t, s' = base ++ f.map dr :: (t0 ++ t)) ∧ f.length + n ≤ 20000) (fun _ _ _ _ r => by obtain ⟨⟨_, t, rfl⟩, _⟩ := r; exact hchk _ _) ms (fun m hm f n σ s' r => by
      obtain ⟨⟨⟨o6, o8, o9, o10, o11, o12, rfl⟩, t, rfl⟩, hf⟩ := r
      have hm' := hms m hm
      obtain ⟨h0, hs, eh⟩ := here_ne l ls m
      obtain ⟨xs, ep⟩ := pick_ne l ls m
      have hsub : ∀ o ∈ hereL (vmin l ls m) (l :: ls) m, o ∈ l :: ls := fun o ho => (List.mem_filter.mp ho).1
      have hle : (hereL (vmin l ls m) (l :: ls) m).length ≤ ls.length + 1 := List.length_filter_le ..
      generalize hu : base ++ f.map dr :: (t0 ++ t) = u
      have e1 := l_on cl hB hm' (by unfold big; omega) u
      have e2 := lc_of (vs := [2, 3]) (p := .tp [.nm 2, .nm 3]) (mi := mRow (mVar 0)) (t := (mTru (mOp2 pEq (mOpN (c_law_add cl) (mCons (mVar 2) (mCons (mOpN (c_law_mul cl) (mCons (mVar 3) (mCons (mVar 6) (mNil)))) (mNil)))) (mVar 8)))) (m := (mOpN pTup (mCons (mVar 2) (mCons (mVar 3) (mNil))))) (σ := [some (LD (l :: ls)), some (.lst k), o2, o3, o4, o5, some (dq m), some (.lst base.length), some (dq (vmin l ls m)), o9, o10, o11, o12]) (s := u) (s1 := u) (chk := fun _ => True) dl (fun o => decide (ev o m = vmin l ls m)) dl (xs := l :: ls) rfl trivial (fun o ho => ⟨_, rfl, by
          have ho' := hB o ho
          simp only [mSeq, mRet, mNx, mOpN, mCons, mNil, mOp2, mOp1, mVar, mC, mTru, mIf, mAndT, mOrT, mNotT, mAnd, mOr, mIfS, mAsg, mPar, bindP, bindPs, fin, Res.bind_ok, Res.bind_exc, Res.bind_bad, Res.st_ok, Res.st_exc, Res.st_bad, List.length_cons, List.length_nil, List.map_cons, List.map_nil, List.replicate, List.set_cons_zero, List.set_cons_succ, List.getElem?_cons_zero, List.getElem?_cons_succ, List.cons_append, List.nil_append, List.append_nil, wipeD, l_mul cl ho'.b (q9 hm'), l_add cl ho'.a (q9 (Sz.mul ho'.2 hm')), pEq_dq]
          rfl, fun _ => by simp only [mSeq, mRet, mNx, mOpN, mCons, mNil, mOp2, mOp1, mVar, mC, mTru, mIf, mAndT, mOrT, mNotT, mAnd, mOr, mIfS, mAsg, mPar, bindP, bindPs, fin, Res.bind_ok, Res.bind_exc, Res.bind_bad, Res.st_ok, Res.st_exc, Res.st_bad, List.length_cons, List.length_nil, List.map_cons, List.map_nil, List.replicate, List.set_cons_zero, List.set_cons_succ, List.getElem?_cons_zero, List.getElem?_cons_succ, List.cons_append, List.nil_append, List.append_nil, wipeD, pTup2]; rfl⟩) (by simp; unfold big; omega)
      rw [show (l :: ls).filter (fun o => decide (ev o m = vmin l ls m)) = hereL (vmin l ls m) (l :: ls) m from rfl] at e2
      generalize hv : u ++ [(hereL (vmin l ls m) (l :: ls) m).map dl] = v at e2
      have gv : v[u.length]? = some ((hereL (vmin l ls m) (l :: ls) m).map dl) := by rw [← hv]; simp
      have e3 := lc_all (vs := [2, 3]) (p := .tp [.nm 2, .nm 3]) (mi := mRow (mVar 9)) (m := mVar 3) (σ := [some (LD (l :: ls)), some (.lst k), o2, o3, o4, o5, some (dq m), some (.lst base.length), some (dq (vmin l ls m)), some (.lst u.length), o10, o11, o12]) (s := v) (s1 := v) (chk := fun s => s[u.length]? = some ((hereL (vmin l ls m) (l :: ls) m).map dl)) dl (fun o => dq o.2) (xs := hereL (vmin l ls m) (l :: ls) m)
        (by simp only [mRow, mSeq, mRet, mNx, mOpN, mCons, mNil, mOp2, mOp1, mVar, mC, mTru, mIf, mAndT, mOrT, mNotT, mAnd, mOr, mIfS, mAsg, mPar, bindP, bindPs, fin, Res.bind_ok, Res.bind_exc, Res.bind_bad, Res.st_ok, Res.st_exc, Res.st_bad, List.length_cons, List.length_nil, List.map_cons, List.map_nil, List.replicate, List.set_cons_zero, List.set_cons_succ, List.getElem?_cons_zero, List.getElem?_cons_succ, List.cons_append, List.nil_append, List.append_nil, rowIt, gv]) gv (fun o ho => ⟨_, rfl, by simp only [mSeq, mRet, mNx, mOpN, mCons, mNil, mOp2, mOp1, mVar, mC, mTru, mIf, mAndT, mOrT, mNotT, mAnd, mOr, mIfS, mAsg, mPar, bindP, bindPs, fin, Res.bind_ok, Res.bind_exc, Res.bind_bad, Res.st_ok, Res.st_exc, Res.st_bad, List.length_cons, List.length_nil, List.map_cons, List.map_nil, List.replicate, List.set_cons_zero, List.set_cons_succ, List.getElem?_cons_zero, List.getElem?_cons_succ, List.cons_append, List.nil_append, List.append_nil, wipeD]⟩) (by unfold big; omega)
      generalize hw : v ++ [(hereL (vmin l ls m) (l :: ls) m).map fun o => dq o.2] = w at e3
      have gw : w[u.length]? = some ((hereL (vmin l ls m) (l :: ls) m).map dl) := by
        rw [← hw, List.getElem?_append_left (List.getElem?_eq_some_iff.mp gv).1]; exact gv
      have gw2 : w[v.length]? = some ((hereL (vmin l ls m) (l :: ls) m).map fun o => dq o.2) := by rw [← hw]; simp
      have e4 : c_law_min cl [.lst v.length] w = .ok (dq (steepL (hereL (vmin l ls m) (l :: ls) m))) w := by
        rw [eh] at gw2 ⊢
        refine l_min cl (x := h0.2) (xs := hs.map fun o => o.2) (.inr ⟨_, rfl, by rw [gw2]; simp⟩) ?_
        intro q hq
        rw [← List.map_cons (f := fun o : Ln => o.2)] at hq
        obtain ⟨o, ho, rfl⟩ := List.mem_map.mp hq
        rw [← eh] at ho
        exact (hB o (hsub o ho)).b
      have e5 := lc_of (vs := [12]) (p := .nm 12) (mi := mRow (mVar 9)) (t := (mTru (mOp2 pEq (mOp2 pIx (mVar 12) (mC (.int 1))) (mVar 10)))) (m := mVar 12) (σ := [some (LD (l :: ls)), some (.lst k), o2, o3, o4, o5, some (dq m), some (.lst base.length), some (dq (vmin l ls m)), some (.lst u.length), some (dq (steepL (hereL (vmin l ls m) (l :: ls) m))), o11, o12]) (s := w) (s1 := w) (chk := fun s => s[u.length]? = some ((hereL (vmin l ls m) (l :: ls) m).map dl)) dl (fun o => decide (o.2 = steepL (hereL (vmin l ls m) (l :: ls) m))) dl (xs := hereL (vmin l ls m) (l :: ls) m)
        (by simp only [mRow, mSeq, mRet, mNx, mOpN, mCons, mNil, mOp2, mOp1, mVar, mC, mTru, mIf, mAndT, mOrT, mNotT, mAnd, mOr, mIfS, mAsg, mPar, bindP, bindPs, fin, Res.bind_ok, Res.bind_exc, Res.bind_bad, Res.st_ok, Res.st_exc, Res.st_bad, List.length_cons, List.length_nil, List.map_cons, List.map_nil, List.replicate, List.set_cons_zero, List.set_cons_succ, List.getElem?_cons_zero, List.getElem?_cons_succ, List.cons_append, List.nil_append, List.append_nil, rowIt, gw]) gw (fun o ho => ⟨_, rfl, by simp only [mSeq, mRet, mNx, mOpN, mCons, mNil, mOp2, mOp1, mVar, mC, mTru, mIf, mAndT, mOrT, mNotT, mAnd, mOr, mIfS, mAsg, mPar, bindP, bindPs, fin, Res.bind_ok, Res.bind_exc, Res.bind_bad, Res.st_ok, Res.st_exc, Res.st_bad, List.length_cons, List.length_nil, List.map_cons, List.map_nil, List.replicate, List.set_cons_zero, List.set_cons_succ, List.getElem?_cons_zero, List.getElem?_cons_succ, List.cons_append, List.nil_append, List.append_nil, wipeD, dl1, pEq_dq], fun _ => by simp only [mSeq, mRet, mNx, mOpN, mCons, mNil, mOp2, mOp1, mVar, mC, mTru, mIf, mAndT, mOrT, mNotT, mAnd, mOr, mIfS, mAsg, mPar, bindP, bindPs, fin, Res.bind_ok, Res.bind_exc, Res.bind_bad, Res.st_ok, Res.st_exc, Res.st_bad, List.length_cons, List.length_nil, List.map_cons, List.map_nil, List.replicate, List.set_cons_zero, List.set_cons_succ, List.getElem?_cons_zero, List.getElem?_cons_succ, List.cons_append, List.nil_append, List.append_nil, wipeD]⟩) (by unfold big; omega)
      rw [ep] at e5
      generalize hx : w ++ [(bstL l ls m :: xs).map dl] = x at e5
      have gx : x[w.length]? = some (dl (bstL l ls m) :: xs.map dl) := by rw [← hx]; simp
      have gu : u[base.length]? = some (f.map dr) := by rw [← hu]; exact mid ..
      have gx2 : (x ++ [[]])[base.length]? = some (f.map dr) := by
        have a := (List.getElem?_eq_some_iff.mp gu).1
        rw [← hx, ← hw, ← hv, List.append_assoc, List.append_assoc, List.append_assoc, List.getElem?_append_left a]
        exact gu
      have gx3 : (x ++ [([] : List D)])[x.length]? = some [] := by simp
      have ex : x ++ [[]] = base ++ f.map dr :: (t0 ++ (t ++ [(hereL (vmin l ls m) (l :: ls) m).map dl, (hereL (vmin l ls m) (l :: ls) m).map fun o => dq o.2, (bstL l ls m :: xs).map dl, []])) := by
        rw [← hx, ← hw, ← hv, ← hu]
        simp
      generalize hT : t ++ [(hereL (vmin l ls m) (l :: ls) m).map dl, (hereL (vmin l ls m) (l :: ls) m).map fun o => dq o.2, (bstL l ls m :: xs).map dl, []] = T at ex
      have hp : pLst [] x = .ok (.lst x.length) (x ++ [[]]) := rfl
      have fl : (addRow (bstL l ls) f m).length ≤ f.length + 1 := by
        unfold addRow
        split
        · simp
        · split <;> simp
      refine ⟨_, _, _, rfl, ?_, ⟨⟨some (dq m), some (dq (vmin l ls m)), some (.lst u.length), some (dq (steepL (hereL (vmin l ls m) (l :: ls) m))), some (dl (bstL l ls m)), o12, rfl⟩, T, rfl⟩, by omega⟩
      · rw [show LD (l :: ls) = .tup ((l :: ls).map dl) from rfl] at *
        simp only [List.map_cons] at e1 e2 e3 e5 ⊢
        simp only [mSeq, mRet, mNx, mOpN, mCons, mNil, mOp2, mOp1, mVar, mC, mTru, mIf, mAndT, mOrT, mNotT, mAnd, mOr, mIfS, mAsg, mPar, bindP, bindPs, fin, Res.bind_ok, Res.bind_exc, Res.bind_bad, Res.st_ok, Res.st_exc, Res.st_bad, List.length_cons, List.length_nil, List.map_cons, List.map_nil, List.replicate, List.set_cons_zero, List.set_cons_succ, List.getElem?_cons_zero, List.getElem?_cons_succ, List.cons_append, List.nil_append, List.append_nil, e1, e2, e3, e4, e5, lix0 gx, hp, eqnil gx2 gx3]
        rcases List.eq_nil_or_concat f with rfl | ⟨f', r, rfl⟩
        · simp only [List.isEmpty_nil, if_true, mSeq, mRet, mNx, mOpN, mCons, mNil, mOp2, mOp1, mVar, mC, mTru, mIf, mAndT, mOrT, mNotT, mAnd, mOr, mIfS, mAsg, mPar, bindP, bindPs, fin, Res.bind_ok, Res.bind_exc, Res.bind_bad, Res.st_ok, Res.st_exc, Res.st_bad, List.length_cons, List.length_nil, List.map_cons, List.map_nil, List.replicate, List.set_cons_zero, List.set_cons_succ, List.getElem?_cons_zero, List.getElem?_cons_succ, List.cons_append, List.nil_append, List.append_nil, mDrop, mMethL, isL, pTup2, ex]
          simp only [List.map_nil] at *
          rw [app_mid base [] _ _ (by simp; decide)]
          simp only [mSeq, mRet, mNx, mOpN, mCons, mNil, mOp2, mOp1, mVar, mC, mTru, mIf, mAndT, mOrT, mNotT, mAnd, mOr, mIfS, mAsg, mPar, bindP, bindPs, fin, Res.bind_ok, Res.bind_exc, Res.bind_bad, Res.st_ok, Res.st_exc, Res.st_bad, List.length_cons, List.length_nil, List.map_cons, List.map_nil, List.replicate, List.set_cons_zero, List.set_cons_succ, List.getElem?_cons_zero, List.getElem?_cons_succ, List.cons_append, List.nil_append, List.append_nil]
          rfl
        · have gx4 : (x ++ [[]])[base.length]? = some (f'.map dr ++ [dr r]) := by rw [gx2]; simp
          have ne : (f' ++ [r]).isEmpty = false := by cases f' <;> rfl
          have ea : addRow (bstL l ls) (f' ++ [r]) m = if bstL l ls m = r.2 then f' ++ [r] else f' ++ [r] ++ [(m, bstL l ls m)] := by
            unfold addRow
            rw [List.getLast?_append]
            rfl
          simp only [List.concat_eq_append] at *
          simp only [ne, Bool.false_eq_true, if_false, reduceIte, mSeq, mRet, mNx, mOpN, mCons, mNil, mOp2, mOp1, mVar, mC, mTru, mIf, mAndT, mOrT, mNotT, mAnd, mOr, mIfS, mAsg, mPar, bindP, bindPs, fin, Res.bind_ok, Res.bind_exc, Res.bind_bad, Res.st_ok, Res.st_exc, Res.st_bad, List.length_cons, List.length_nil, List.map_cons, List.map_nil, List.replicate, List.set_cons_zero, List.set_cons_succ, List.getElem?_cons_zero, List.getElem?_cons_succ, List.cons_append, List.nil_append, List.append_nil, pNeg1, ixLast gx4, dr1, pNe_dl]
          rw [ea]
          by_cases c : bstL l ls m = r.2
          · have c' : r.2 = bstL l ls m := c.symm
            simp only [c', decide_true, Bool.not_true, Bool.false_eq_true, if_false, reduceIte, mSeq, mRet, mNx, mOpN, mCons, mNil, mOp2, mOp1, mVar, mC, mTru, mIf, mAndT, mOrT, mNotT, mAnd, mOr, mIfS, mAsg, mPar, bindP, bindPs, fin, Res.bind_ok, Res.bind_exc, Res.bind_bad, Res.st_ok, Res.st_exc, Res.st_bad, List.length_cons, List.length_nil, List.map_cons, List.map_nil, List.replicate, List.set_cons_zero, List.set_cons_succ, List.getElem?_cons_zero, List.getElem?_cons_succ, List.cons_append, List.nil_append, List.append_nil, if_true]
            rw [ex]
          · have c' : ¬ r.2 = bstL l ls m := fun z => c z.symm
            simp only [c, c', decide_false, Bool.not_false, if_true, if_false, mSeq, mRet, mNx, mOpN, mCons, mNil, mOp2, mOp1, mVar, mC, mTru, mIf, mAndT, mOrT, mNotT, mAnd, mOr, mIfS, mAsg, mPar, bindP, bindPs, fin, Res.bind_ok, Res.bind_exc, Res.bind_bad, Res.st_ok, Res.st_exc, Res.st_bad, List.length_cons, List.length_nil, List.map_cons, List.map_nil, List.replicate, List.set_cons_zero, List.set_cons_succ, List.getElem?_cons_zero, List.getElem?_cons_succ, List.cons_append, List.nil_append, List.append_nil, mDrop, mMethL, isL, pTup2]
            rw [ex, app_mid base _ _ _ (by rw [List.length_map]; unfold big; omega)]
            simp only [mSeq, mRet, mNx, mOpN, mCons, mNil, mOp2, mOp1, mVar, mC, mTru, mIf, mAndT, mOrT, mNotT, mAnd, mOr, mIfS, mAsg, mPar, bindP, bindPs, fin, Res.bind_ok, Res.bind_exc, Res.bind_bad, Res.st_ok, Res.st_exc, Res.st_bad, List.length_cons, List.length_nil, List.map_cons, List.map_nil, List.replicate, List.set_cons_zero, List.set_cons_succ, List.getElem?_cons_zero, List.getElem?_cons_succ, List.cons_append, List.nil_append, List.append_nil]
            simp [dr]) [] _ (base ++ [] :: t0) ⟨⟨⟨o6, o8, o9, o10, o11, o12, rfl⟩, [], by simp⟩, by simpa using hl⟩
  exact ⟨_, t, by rw [e, hs1], rfl⟩
theorem l_low {l : Ln} {ls : List Ln} {rows : List Rw} (hW : ∀ o ∈ l :: ls, LS o) (hn : ls.length + 1 ≤ 50) (hc : IsChain (l :: ls) (firstL l ls) rows) (s : Sto) : c_law_lowest cl [LD (l :: ls)] s = .ok (envD ((0, firstL l ls) :: rows)) s := by
  have hB : 1 + (l :: ls).length * (l :: ls).length ≤ 10000 := by
    have : (l :: ls).length ≤ 50 := hn
    have := Nat.mul_le_mul this this
    omega
  obtain ⟨o2, o3, o4, o5, o6, e1, hl⟩ := outer cl (s := s) hW hB
  have h0 : PtI (l :: ls) (fun q => Sz 30 q) [0] := ⟨by simp, by simp [Rat.le_refl], fun q hq => by rw [List.mem_singleton.mp hq]; exact ⟨by decide, by decide⟩, by simp⟩
  obtain ⟨I, _, _⟩ := pt_all (l :: ls) [0] (fun x hx o ho hne => crs_sz (hW x hx) (hW o ho) hne) h0
  obtain ⟨so, me⟩ := inOrd_sorted (ptsOf (l :: ls) (l :: ls) [0]) [] List.Pairwise.nil (fun _ _ z => by cases z) I.nd
  have me' : ∀ q, q ∈ inOrd (ptsOf (l :: ls) (l :: ls) [0]) ↔ q ∈ ptsOf (l :: ls) (l :: ls) [0] := fun q => (me q).trans (by simp)
  generalize hp : ptsOf (l :: ls) (l :: ls) [0] = pts at *
  obtain ⟨t, e2⟩ := l_inOrd cl (k := s.length) (s := s ++ [pts.map dq] ++ [[]]) (xs := pts) (by simp) (fun q hq => q9 (I.p q hq)) hl
  have lenO : (inOrd pts).length = pts.length := by
    have : ∀ (xs f : List Rat), (xs.foldl insQ f).length = f.length + xs.length := by
      intro xs
      induction xs with
      | nil => intro f; rfl
      | cons x xs ih => intro f; rw [List.foldl_cons, ih, insQ_len]; simp; omega
    unfold inOrd
    rw [this]
    simp
  have lr := law_rows hc
  rw [hp] at lr
  have e0 : pTup [.int 0, .int 1] s = .ok (dq 0) s := rfl
  have e0' : pLst [dq 0] s = .ok (.lst s.length) (s ++ [[dq 0]]) := rfl
  have e9 : pLst [] (s ++ [pts.map dq]) = .ok (.lst (s ++ [pts.map dq]).length) (s ++ [pts.map dq] ++ [[]]) := rfl
  generalize hb : s ++ [pts.map dq] = base at *
  have hbl : s.length < base.length := by rw [← hb]; simp
  have hk : base[s.length]? = some (pts.map dq) := by rw [← hb]; simp
  have e3 : rowIt (.lst (base ++ [[]]).length) (base ++ [[]] ++ (inOrd pts).map dq :: t) = .ok ⟨(inOrd pts).map dq, fun s => s[(base ++ [([] : List D)]).length]? = some ((inOrd pts).map dq)⟩ (base ++ [[]] ++ (inOrd pts).map dq :: t) := by
    simp only [rowIt, mid]
  simp only [c_law_lowest, m_law_lowest, fnM, if_true, List.length_cons, List.length_nil, List.map_cons, List.map_nil, Nat.reduceSub, List.replicate]
  have es : base ++ [[]] ++ (inOrd pts).map dq :: t = base ++ [] :: ((inOrd pts).map dq :: t) := by simp
  obtain ⟨σ', t', e4, e7⟩ := loop3 cl (base := base) hW hn (chk := fun s => s[(base ++ [([] : List D)]).length]? = some ((inOrd pts).map dq)) ((inOrd pts).map dq :: t) (fun x u => by
    have : (base ++ [([] : List D)]).length = (base ++ [x]).length := by simp
    rw [this, show base ++ x :: ((inOrd pts).map dq :: t ++ u) = (base ++ [x]) ++ ((inOrd pts).map dq :: (t ++ u)) by simp]
    exact mid ..) (inOrd pts) (fun m hm => (I.p m ((me' m).mp hm)).up (by decide)) (by omega) s.length o2 o3 o4 o5 o6 none none none none none
  rw [lr] at e4
  rw [es] at e2 e3
  simp only [mFor, mRow, mSeq, mRet, mNx, mOpN, mCons, mNil, mOp2, mOp1, mVar, mC, mTru, mIf, mAndT, mOrT, mNotT, mAnd, mOr, mIfS, mAsg, mPar, bindP, bindPs, fin, Res.bind_ok, Res.bind_exc, Res.bind_bad, Res.st_ok, Res.st_exc, Res.st_bad, List.length_cons, List.length_nil, List.map_cons, List.map_nil, List.replicate, List.set_cons_zero, List.set_cons_succ, List.getElem?_cons_zero, List.getElem?_cons_succ, List.cons_append, List.nil_append, List.append_nil, e0, e0']
  rw [show rowIt (LD (l :: ls)) (s ++ [[dq 0]]) = .ok ⟨(l :: ls).map dl, fun _ => True⟩ (s ++ [[dq 0]]) from rfl]
  simp only [mSeq, mRet, mNx, mOpN, mCons, mNil, mOp2, mOp1, mVar, mC, mTru, mIf, mAndT, mOrT, mNotT, mAnd, mOr, mIfS, mAsg, mPar, bindP, bindPs, fin, Res.bind_ok, Res.bind_exc, Res.bind_bad, Res.st_ok, Res.st_exc, Res.st_bad, List.length_cons, List.length_nil, List.map_cons, List.map_nil, List.replicate, List.set_cons_zero, List.set_cons_succ, List.getElem?_cons_zero, List.getElem?_cons_succ, List.cons_append, List.nil_append, List.append_nil] at e1 e2 e3 e4 ⊢
  simp only [e1, mSeq, mRet, mNx, mOpN, mCons, mNil, mOp2, mOp1, mVar, mC, mTru, mIf, mAndT, mOrT, mNotT, mAnd, mOr, mIfS, mAsg, mPar, bindP, bindPs, fin, Res.bind_ok, Res.bind_exc, Res.bind_bad, Res.st_ok, Res.st_exc, Res.st_bad, List.length_cons, List.length_nil, List.map_cons, List.map_nil, List.replicate, List.set_cons_zero, List.set_cons_succ, List.getElem?_cons_zero, List.getElem?_cons_succ, List.cons_append, List.nil_append, List.append_nil, e9, e2, e3, e4, e7, fTuple, itemsOf, mid]
  have hs : ∃ u, base ++ (dr (0, firstL l ls) :: rows.map dr) :: ((inOrd pts).map dq :: (t ++ t')) = s ++ u := ⟨_, by rw [← hb, List.append_assoc]⟩
  obtain ⟨u, hs⟩ := hs
  rw [hs]
  exact trunc_app (below_env _ ((0, firstL l ls) :: rows))
end K03
set_option Elab.async false
set_option linter.all false
set_option maxRecDepth 100000
namespace K03
open PySem PySem.Spec PyProof.Rows L2 RM
variable (cl : Cls)
/-! the bag -/
def bagL (b0 b1 b2 : Int) (q : Nat) : List D := [.int b0, .int b1, .int b2, .lst q]
def Bag (b q c : Nat) (s : Sto) : Prop := ∃ (b0 b1 b2 : Int) (cells : List Int), s[b]? = some (bagL b0 b1 b2 q) ∧ s[q]? = some (cells.map D.int) ∧ q ≠ b ∧ 0 ≤ b1 ∧ b1 < 2147483648 ∧ 0 ≤ b2 ∧ b2 + c ≤ 1000000 ∧ cells.length ≤ 63
/-- only the place b changed -/
def Only (b : Nat) (s s' : Sto) : Prop := s'.length = s.length ∧ ∀ i, i ≠ b → s'[i]? = s[i]?
theorem Only.refl (b : Nat) (s : Sto) : Only b s s := ⟨rfl, fun _ _ => rfl⟩
theorem Only.trans {b : Nat} {s t u : Sto} (h : Only b s t) (h' : Only b t u) : Only b s u := ⟨h'.1.trans h.1, fun i hi => (h'.2 i hi).trans (h.2 i hi)⟩
theorem Bag.weak {b q c d : Nat} {s : Sto} (h : Bag b q c s) (hd : d ≤ c) : Bag b q d s := by
  obtain ⟨b0, b1, b2, cells, h1, h2, h3, h4, h5, h6, h7, h8⟩ := h
  exact ⟨b0, b1, b2, cells, h1, h2, h3, h4, h5, h6, by omega, h8⟩
theorem Bag.lt {b q c : Nat} {s : Sto} (h : Bag b q c s) : b < s.length := by
  obtain ⟨b0, b1, b2, cells, h1, _⟩ := h
  exact (List.getElem?_eq_some_iff.mp h1).1
theorem Bag.app {b q c : Nat} {s : Sto} (h : Bag b q c s) (t : Sto) : Bag b q c (s ++ t) := by
  obtain ⟨b0, b1, b2, cells, h1, h2, h3⟩ := h
  refine ⟨b0, b1, b2, cells, ?_, ?_, h3⟩
  · rw [List.getElem?_append_left (List.getElem?_eq_some_iff.mp h1).1]; exact h1
  · rw [List.getElem?_append_left (List.getElem?_eq_some_iff.mp h2).1]; exact h2
theorem bx {b : Nat} {s : Sto} {b0 b1 b2 : Int} {q : Nat} (h : s[b]? = some (bagL b0 b1 b2 q)) : pIx (.lst b) (.int 0) s = .ok (.int b0) s ∧ pIx (.lst b) (.int 1) s = .ok (.int b1) s ∧ pIx (.lst b) (.int 2) s = .ok (.int b2) s ∧ pIx (.lst b) (.int 3) s = .ok (.lst q) s := by
  simp only [pIx, h]
  exact ⟨rfl, rfl, rfl, rfl⟩
theorem sx {b : Nat} {s : Sto} {b0 b1 b2 : Int} {q : Nat} (h : s[b]? = some (bagL b0 b1 b2 q)) (v : Int) (σ : Slo) : setL (.lst b) (.int 0) (.int v) σ s = .nx σ (s.set b (bagL v b1 b2 q)) ∧ setL (.lst b) (.int 1) (.int v) σ s = .nx σ (s.set b (bagL b0 v b2 q)) ∧ setL (.lst b) (.int 2) (.int v) σ s = .nx σ (s.set b (bagL b0 b1 v q)) := by
  simp only [setL, h]
  exact ⟨rfl, rfl, rfl⟩
theorem set_same {b : Nat} {s : Sto} {X : List D} (h : s[b]? = some X) : s.set b X = s := by
  apply List.ext_getElem?
  intro i
  by_cases c : i = b
  · subst c
    rw [List.getElem?_set_self (List.getElem?_eq_some_iff.mp h).1, h]
  · rw [List.getElem?_set_ne (Ne.symm c)]
theorem set_at {b : Nat} {s : Sto} {X : List D} (h : b < s.length) : (s.set b X)[b]? = some X := by
  rw [List.getElem?_set_self h]
theorem cellx {cells : List Int} {lo hi : Option Int} (h : cells.length ≤ 63) : ∃ (L : List D) (z : Int), RM.cutD (cells.map D.int) lo hi = L ∧ L.length ≤ 63 ∧ L2.atI (L ++ [D.int 0]) 0 = some (.int z) := by
  refine ⟨RM.cutD (cells.map D.int) lo hi, ?_⟩
  have hm : ∀ d ∈ RM.cutD (cells.map D.int) lo hi, ∃ z, d = .int z := by
    intro d hd
    unfold RM.cutD at hd
    obtain ⟨z, _, rfl⟩ := List.mem_map.mp (List.mem_of_mem_drop (List.mem_of_mem_take hd))
    exact ⟨z, rfl⟩
  have hl : (RM.cutD (cells.map D.int) lo hi).length ≤ 63 := by
    unfold RM.cutD
    simp
    omega
  cases e : RM.cutD (cells.map D.int) lo hi with
  | nil => exact ⟨0, rfl, by simp, rfl⟩
  | cons d ds =>
    rw [e] at hm hl
    obtain ⟨z, rfl⟩ := hm d List.mem_cons_self
    exact ⟨z, rfl, hl, at0 ..⟩
theorem sm_small {i : Int} (h : i.natAbs < 2 ^ 200) : Sm i := Sm.of h (by decide)
theorem fm_pos (i : Int) {m : Int} (h : 0 < m) : 0 ≤ i.fmod m ∧ i.fmod m < m := ⟨Int.fmod_nonneg_of_pos i h, Int.fmod_lt_of_pos i h⟩
theorem pow18 (s : Sto) : pPow (.int 10) (.int 18) s = .ok (.int (10 ^ 18)) s := rfl
def takeA : MS := (mIfS (mTru (mOp2 pEq (mOp2 pIx (mVar 0) (mC (.int 0))) (mC (.int 0)))) (mSeq (mAsg (.nm 2) (mOp2 pIx (mOp2 pAdd (mSl (mOp2 pIx (mVar 0) (mC (.int 3))) (mPart (mOp2 pIx (mVar 0) (mC (.int 2)))) (mNoPart)) (mOpN pLst (mCons (mC (.int 0)) (mNil)))) (mC (.int 0)))) (mSeq (mAugIx (fun a b => a + b) (mVar 0) (mC (.int 2)) (mC (.int 1))) (mSeq (mIfS (mTru (mOp2 pGe (mVar 2) (mOp2 pPow (mC (.int 10)) (mC (.int 18))))) (mSeq (mSetIx (mVar 0) (mC (.int 0)) (mVar 2)) (mNx)) (mNx)) (mSeq (mAsg (.nm 3) (mOp2 pAdd (mOp2 pAdd (mOp2 pMul (mOp2 pIx (mVar 0) (mC (.int 1))) (mC (.int 48271))) (mOp2 pMod (mOpN fInt (mCons (mVar 2) (mNil))) (mC (.int 2147483647)))) (mOp2 pMul (mC (.int 7919)) (mOp2 pIx (mVar 0) (mC (.int 2)))))) (mSeq (mSetIx (mVar 0) (mC (.int 1)) (mOp2 pMod (mOpN fInt (mCons (mVar 3) (mNil))) (mC (.int 2147483647)))) (mNx)))))) (mNx))
def takeB : MS := (mSeq (mIfS (mTru (mOp2 pGt (mOp2 pIx (mVar 0) (mC (.int 0))) (mC (.int 0)))) (mSeq (mAsg (.nm 4) (mOp2 pMod (mOpN fInt (mCons (mOp2 pIx (mVar 0) (mC (.int 0))) (mNil))) (mVar 1))) (mSeq (mSetIx (mVar 0) (mC (.int 0)) (mOp2 pDiv (mOpN fInt (mCons (mOp2 pIx (mVar 0) (mC (.int 0))) (mNil))) (mVar 1))) (mSeq (mRet (mVar 4)) (mNx)))) (mNx)) (mSeq (mAsg (.nm 5) (mOp2 pMod (mOpN fInt (mCons (mOp2 pMul (mOp2 pAdd (mOp2 pIx (mVar 0) (mC (.int 1))) (mC (.int 1))) (mC (.int 39373))) (mNil))) (mC (.int 1000000007)))) (mSeq (mAsg (.nm 6) (mOp2 pMod (mOpN fInt (mCons (mOp2 pMul (mOp2 pMod (mOpN fInt (mCons (mOp2 pMul (mVar 5) (mVar 5)) (mNil))) (mC (.int 998244353))) (mC (.int 30011))) (mNil))) (mC (.int 998244353)))) (mSeq (mRet (mOp2 pMod (mOpN fInt (mCons (mOp2 pDiv (mVar 6) (mC (.int 7))) (mNil))) (mVar 1))) (mNx)))))
theorem take_eq (cl : Cls) : m_law_take cl = mSeq takeA takeB := rfl
theorem take_A {b q c : Nat} {s : Sto} {m : Int} (h : Bag b q (c + 1) s) : ∃ (o2 o3 : Option D) (b0 b1 b2 : Int) (t : Sto), takeA [some (.lst b), some (.int m), none, none, none, none, none] s = .nx [some (.lst b), some (.int m), o2, o3, none, none, none] (s.set b (bagL b0 b1 b2 q) ++ t) ∧
    Bag b q c (s.set b (bagL b0 b1 b2 q)) := by
  have hb := h.lt
  obtain ⟨b0, b1, b2, cells, h1, h2, h3, h4, h5, h6, h7, h8⟩ := h
  have hq := (List.getElem?_eq_some_iff.mp h2).1
  by_cases c0 : b0 = 0
  · subst c0
    obtain ⟨L, z, e1, e2, e3⟩ := cellx (lo := some b2) (hi := none) h8
    have esl : pSl (.lst q) (some b2) none s = .ok (.lst s.length) (s ++ [L]) := by
      simp only [pSl, h2, e1]
    have ep0 : pLst [.int 0] (s ++ [L]) = .ok (.lst (s ++ [L]).length) (s ++ [L] ++ [[.int 0]]) := rfl
    have ecat : pAdd (.lst s.length) (.lst (s ++ [L]).length) (s ++ [L] ++ [[.int 0]]) = .ok (.lst (s ++ [L] ++ [[D.int 0]]).length) (s ++ [L] ++ [[.int 0]] ++ [L ++ [.int 0]]) := by
      have a1 : (s ++ [L] ++ [[D.int 0]])[s.length]? = some L := by rw [List.getElem?_append_left (by simp)]; simp
      have a2 : (s ++ [L] ++ [[D.int 0]])[(s ++ [L]).length]? = some [D.int 0] := by simp
      show por pCatL _ _ _ _ = _
      unfold por pCatL
      simp only [a1, a2]
      rw [if_pos (by unfold big; simp; omega)]
    have eix : pIx (.lst (s ++ [L] ++ [[D.int 0]]).length) (.int 0) (s ++ [L] ++ [[.int 0]] ++ [L ++ [.int 0]]) = .ok (.int z) (s ++ [L] ++ [[.int 0]] ++ [L ++ [.int 0]]) := by
      simp only [pIx, get_last, e3]
    generalize hj : s ++ [L] ++ [[D.int 0]] ++ [L ++ [D.int 0]] = u at *
    have hu : u = s ++ ([L] ++ [[D.int 0]] ++ [L ++ [D.int 0]]) := by rw [← hj]; simp
    have hub : b < u.length := by rw [hu]; simp; omega
    have g1 : u[b]? = some (bagL 0 b1 b2 q) := by rw [hu, List.getElem?_append_left hb]; exact h1
    have g1' : L2.atI (bagL 0 b1 b2 q) 2 = some (.int b2) := rfl
    have g2 : (u.set b (bagL 0 b1 (b2 + 1) q))[b]? = some (bagL 0 b1 (b2 + 1) q) := set_at hub
    have fz := fm_pos z (m := 2147483647) (by decide)
    have mu1 : ∀ s, pMul (.int b1) (.int 48271) s = .ok (.int (b1 * 48271)) s := fun s => pMulI (sm_small (Nat.lt_of_lt_of_le (show b1.natAbs < 2 ^ 32 by omega) (Nat.pow_le_pow_right (by decide) (by decide)))) (sm_small (Nat.lt_of_lt_of_le (show (48271 : Int).natAbs < 2 ^ 32 by decide) (Nat.pow_le_pow_right (by decide) (by decide)))) s
    have mu2 : ∀ s, pMul (.int 7919) (.int (b2 + 1)) s = .ok (.int (7919 * (b2 + 1))) s := fun s => pMulI (sm_small (Nat.lt_of_lt_of_le (show (7919 : Int).natAbs < 2 ^ 32 by decide) (Nat.pow_le_pow_right (by decide) (by decide)))) (sm_small (Nat.lt_of_lt_of_le (show (b2 + 1).natAbs < 2 ^ 32 by omega) (Nat.pow_le_pow_right (by decide) (by decide)))) s
    have mo1 : ∀ (x : Int) s, pMod (.int x) (.int 2147483647) s = .ok (.int (x.fmod 2147483647)) s := fun x s => pModI (by decide) s
    have fin_ : ∀ (v0 v1 : Int), 0 ≤ v1 → v1 < 2147483648 → Bag b q c (s.set b (bagL v0 v1 (b2 + 1) q)) := fun v0 v1 y0 y1 => ⟨v0, v1, b2 + 1, cells, set_at hb, by rw [List.getElem?_set_ne (Ne.symm h3)]; exact h2, h3, y0, y1, by omega, by omega, h8⟩
    have setu : ∀ X, u.set b X = s.set b X ++ ([L] ++ [[D.int 0]] ++ [L ++ [D.int 0]]) := fun X => by rw [hu, List.set_append_left _ _ hb]
    by_cases c1 : (10 ^ 18 : Int) ≤ z
    · have g3 : ((u.set b (bagL 0 b1 (b2 + 1) q)).set b (bagL z b1 (b2 + 1) q))[b]? = some (bagL z b1 (b2 + 1) q) := set_at (by simpa using hub)
      have fv := fm_pos (b1 * 48271 + z.fmod 2147483647 + 7919 * (b2 + 1)) (m := 2147483647) (by decide)
      refine ⟨some (.int z), some (.int (b1 * 48271 + z.fmod 2147483647 + 7919 * (b2 + 1))), z, (b1 * 48271 + z.fmod 2147483647 + 7919 * (b2 + 1)).fmod 2147483647, b2 + 1, [L] ++ [[D.int 0]] ++ [L ++ [D.int 0]], ?_, fin_ _ _ fv.1 (by omega)⟩
      unfold takeA
      simp only [mSeq, mRet, mNx, mOpN, mCons, mNil, mOp2, mOp1, mVar, mC, mTru, mIf, mAndT, mOrT, mNotT, mAnd, mOr, mIfS, mAsg, mPar, bindP, bindPs, fin, Res.bind_ok, Res.bind_exc, Res.bind_bad, Res.st_ok, Res.st_exc, Res.st_bad, List.length_cons, List.length_nil, List.map_cons, List.map_nil, List.replicate, List.set_cons_zero, List.set_cons_succ, List.getElem?_cons_zero, List.getElem?_cons_succ, List.cons_append, List.nil_append, List.append_nil, (bx h1).1, (bx h1).2.2.1, (bx h1).2.2.2, pEqI, decide_true, if_true, mSl, mPart, mNoPart, esl, ep0, ecat, eix, mAugIx, g1, g1', (sx g1 (b2 + 1) _).2.2, pGeI, pow18, decide_eq_true c1, mSetIx, (sx g2 _ _).1, (bx g3).2.1, (bx g3).2.2.1, int1, mo1, mu1, mu2, pAddI, (sx g3 _ _).2.1]
      rw [List.set_set, List.set_set, setu]
      rfl
    · have fv := fm_pos (b1 * 48271 + z.fmod 2147483647 + 7919 * (b2 + 1)) (m := 2147483647) (by decide)
      refine ⟨some (.int z), some (.int (b1 * 48271 + z.fmod 2147483647 + 7919 * (b2 + 1))), 0, (b1 * 48271 + z.fmod 2147483647 + 7919 * (b2 + 1)).fmod 2147483647, b2 + 1, [L] ++ [[D.int 0]] ++ [L ++ [D.int 0]], ?_, fin_ _ _ fv.1 (by omega)⟩
      unfold takeA
      simp only [mSeq, mRet, mNx, mOpN, mCons, mNil, mOp2, mOp1, mVar, mC, mTru, mIf, mAndT, mOrT, mNotT, mAnd, mOr, mIfS, mAsg, mPar, bindP, bindPs, fin, Res.bind_ok, Res.bind_exc, Res.bind_bad, Res.st_ok, Res.st_exc, Res.st_bad, List.length_cons, List.length_nil, List.map_cons, List.map_nil, List.replicate, List.set_cons_zero, List.set_cons_succ, List.getElem?_cons_zero, List.getElem?_cons_succ, List.cons_append, List.nil_append, List.append_nil, (bx h1).1, (bx h1).2.2.1, (bx h1).2.2.2, pEqI, decide_true, if_true, mSl, mPart, mNoPart, esl, ep0, ecat, eix, mAugIx, g1, g1', (sx g1 (b2 + 1) _).2.2, pGeI, pow18, decide_eq_false c1, Bool.false_eq_true, if_false, reduceIte, mSetIx, (bx g2).2.1, (bx g2).2.2.1, int1, mo1, mu1, mu2, pAddI, (sx g2 _ _).2.1]
      rw [List.set_set, setu]
      rfl
  · refine ⟨none, none, b0, b1, b2, [], ?_, ?_⟩
    · unfold takeA
      simp only [mSeq, mRet, mNx, mOpN, mCons, mNil, mOp2, mOp1, mVar, mC, mTru, mIf, mAndT, mOrT, mNotT, mAnd, mOr, mIfS, mAsg, mPar, bindP, bindPs, fin, Res.bind_ok, Res.bind_exc, Res.bind_bad, Res.st_ok, Res.st_exc, Res.st_bad, List.length_cons, List.length_nil, List.map_cons, List.map_nil, List.replicate, List.set_cons_zero, List.set_cons_succ, List.getElem?_cons_zero, List.getElem?_cons_succ, List.cons_append, List.nil_append, List.append_nil, (bx h1).1, pEqI, decide_eq_false c0, Bool.false_eq_true, if_false, reduceIte]
      congr 1
      rw [set_same h1]
    · rw [set_same h1]
      exact ⟨b0, b1, b2, cells, h1, h2, h3, h4, h5, h6, by omega, h8⟩
theorem take_B {b c : Nat} {s : Sto} {m : Int} {b0 b1 b2 : Int} {q : Nat} {o2 o3 : Option D} {t : Sto} (hm : 0 < m) (hm2 : m < 1000000) (hg : s[b]? = some (bagL b0 b1 b2 q)) (hb : b < s.length) (h4 : 0 ≤ b1) (h5 : b1 < 2147483648) :
    ∃ (v b0' : Int), takeB [some (.lst b), some (.int m), o2, o3, none, none, none] (s ++ t) = .rt (.int v) (s.set b (bagL b0' b1 b2 q) ++ t) ∧ 0 ≤ v ∧ v < m := by
  have g1 : (s ++ t)[b]? = some (bagL b0 b1 b2 q) := by rw [List.getElem?_append_left hb]; exact hg
  have hm0 : m ≠ 0 := by omega
  by_cases c0 : 0 < b0
  · refine ⟨b0.fmod m, b0.fdiv m, ?_, (fm_pos b0 hm).1, (fm_pos b0 hm).2⟩
    unfold takeB
    simp only [mSeq, mRet, mNx, mOpN, mCons, mNil, mOp2, mOp1, mVar, mC, mTru, mIf, mAndT, mOrT, mNotT, mAnd, mOr, mIfS, mAsg, mPar, bindP, bindPs, fin, Res.bind_ok, Res.bind_exc, Res.bind_bad, Res.st_ok, Res.st_exc, Res.st_bad, List.length_cons, List.length_nil, List.map_cons, List.map_nil, List.replicate, List.set_cons_zero, List.set_cons_succ, List.getElem?_cons_zero, List.getElem?_cons_succ, List.cons_append, List.nil_append, List.append_nil, (bx g1).1, pGtI, decide_eq_true c0, if_true, int1, pModI hm0, pDivI hm0 (.inl (by omega)), mSetIx, (sx g1 _ _).1]
    rw [List.set_append_left _ _ hb]
  · have small : ∀ (i : Int) (k : Nat), k ≤ 200 → i.natAbs < 2 ^ k → Sm i := fun i k hk hi => sm_small (Nat.lt_of_lt_of_le hi (Nat.pow_le_pow_right (by decide) hk))
    have mu1 : ∀ s, pMul (.int (b1 + 1)) (.int 39373) s = .ok (.int ((b1 + 1) * 39373)) s := fun s => pMulI (small _ 32 (by decide) (by omega)) (small _ 32 (by decide) (by decide)) s
    have f1 := fm_pos ((b1 + 1) * 39373) (m := 1000000007) (by decide)
    generalize ex : ((b1 + 1) * 39373).fmod 1000000007 = x at f1
    have mu2 : ∀ s, pMul (.int x) (.int x) s = .ok (.int (x * x)) s := fun s => pMulI (small _ 32 (by decide) (by omega)) (small _ 32 (by decide) (by omega)) s
    have f2 := fm_pos (x * x) (m := 998244353) (by decide)
    generalize ey : (x * x).fmod 998244353 = y at f2
    have mu3 : ∀ s, pMul (.int y) (.int 30011) s = .ok (.int (y * 30011)) s := fun s => pMulI (small _ 32 (by decide) (by omega)) (small _ 32 (by decide) (by decide)) s
    have mo1 : ∀ (x : Int) s, pMod (.int x) (.int 1000000007) s = .ok (.int (x.fmod 1000000007)) s := fun x s => pModI (by decide) s
    have mo2 : ∀ (x : Int) s, pMod (.int x) (.int 998244353) s = .ok (.int (x.fmod 998244353)) s := fun x s => pModI (by decide) s
    have di : ∀ (x : Int) s, pDiv (.int x) (.int 7) s = .ok (.int (x.fdiv 7)) s := fun x s => pDivI (by decide) (.inl (by decide)) s
    refine ⟨(((y * 30011).fmod 998244353).fdiv 7).fmod m, b0, ?_, (fm_pos _ hm).1, (fm_pos _ hm).2⟩
    unfold takeB
    simp only [mSeq, mRet, mNx, mOpN, mCons, mNil, mOp2, mOp1, mVar, mC, mTru, mIf, mAndT, mOrT, mNotT, mAnd, mOr, mIfS, mAsg, mPar, bindP, bindPs, fin, Res.bind_ok, Res.bind_exc, Res.bind_bad, Res.st_ok, Res.st_exc, Res.st_bad, List.length_cons, List.length_nil, List.map_cons, List.map_nil, List.replicate, List.set_cons_zero, List.set_cons_succ, List.getElem?_cons_zero, List.getElem?_cons_succ, List.cons_append, List.nil_append, List.append_nil, (bx g1).1, (bx g1).2.1, pGtI, decide_eq_false c0, Bool.false_eq_true, if_false, reduceIte, int1, pAddI, mu1, mo1, ex, mu2, mo2, ey, mu3, di, pModI hm0]
    congr 1
    rw [set_same hg]
theorem l_take {b q c : Nat} {s : Sto} {m : Int} (h : Bag b q (c + 1) s) (hm : 0 < m) (hm2 : m < 1000000) : ∃ (v : Int) (s' : Sto), c_law_take cl [.lst b, .int m] s = .ok (.int v) s' ∧ 0 ≤ v ∧ v < m ∧ Bag b q c s' ∧ Only b s s' := by
  have hb := h.lt
  have hq : q < s.length := by
    obtain ⟨_, _, _, _, _, h2, _⟩ := h
    exact (List.getElem?_eq_some_iff.mp h2).1
  obtain ⟨o2, o3, b0, b1, b2, t, e1, hbag⟩ := take_A (m := m) h
  have hbag' := hbag
  obtain ⟨c0, c1, c2, cells, h1, h2, h3, h4, h5, h6, h7, h8⟩ := hbag'
  have hset : (s.set b (bagL b0 b1 b2 q))[b]? = some (bagL b0 b1 b2 q) := set_at hb
  rw [hset] at h1
  have hz := Option.some.inj h1
  unfold bagL at hz
  simp only [List.cons.injEq, D.int.injEq, D.lst.injEq, and_true] at hz
  obtain ⟨rfl, rfl, rfl⟩ := hz
  obtain ⟨v, b0', e2, v1, v2⟩ := take_B (c := c) (s := s.set b (bagL b0 b1 b2 q)) (o2 := o2) (o3 := o3) (t := t) hm hm2 hset (by simpa using hb) h4 h5
  rw [List.set_set] at e2
  refine ⟨v, s.set b (bagL b0' b1 b2 q), ?_, v1, v2, ⟨b0', b1, b2, cells, set_at hb, ?_, h3, h4, h5, h6, h7, h8⟩, by simp, fun i hi => List.getElem?_set_ne (Ne.symm hi)⟩
  · simp only [c_law_take, fnM, if_true, List.length_cons, List.length_nil, List.map_cons, List.map_nil, Nat.reduceSub, List.replicate, List.cons_append, List.nil_append, take_eq]
    simp only [mSeq, e1, e2, fin]
    rw [trunc_gen (by unfold RM.below; rfl)]
    · congr 1
      rw [List.take_append_of_le_length (by simp), List.take_of_length_le (by simp)]
    · refine ⟨by simp, fun i xs hi hx => ?_⟩
      rw [List.getElem?_append_left (by simpa using hi)] at hx
      by_cases c : i = b
      · subst c
        rw [set_at hb] at hx
        cases hx
        right
        simp [bagL, belows, RM.below, hq]
      · rw [List.getElem?_set_ne (Ne.symm c)] at hx
        exact .inl hx
  · rw [List.getElem?_set_ne (Ne.symm h3)] at h2 ⊢
    exact h2
end K03
set_option Elab.async false
set_option linter.all false
set_option maxRecDepth 100000
namespace K03
open PySem PySem.Spec PyProof.Rows L2 RM
variable (cl : Cls)
theorem trunc_len {d : D} {s s' : Sto} (h : s'.length = s.length) : trunc s (.ok d s') = .ok d s' := by
  unfold trunc
  split
  · rename_i z
    cases z
    split
    · rw [List.take_of_length_le (by omega)]
    · rfl
  · rename_i z; cases z
  · rename_i z; cases z
def OnlyL (b : Nat) (s s' : Sto) : Prop := s.length ≤ s'.length ∧ ∀ i, i < s.length → i ≠ b → s'[i]? = s[i]?
theorem Only.l {b : Nat} {s s' : Sto} (h : Only b s s') : OnlyL b s s' := ⟨by have := h.1; omega, fun i _ hi => h.2 i hi⟩
theorem OnlyL.trans {b : Nat} {s t u : Sto} (h : OnlyL b s t) (h' : OnlyL b t u) : OnlyL b s u := ⟨by have := h.1; have := h'.1; omega, fun i hi hn => (h'.2 i (by have := h.1; omega) hn).trans (h.2 i hi hn)⟩
theorem OnlyL.app (b : Nat) (s t : Sto) : OnlyL b s (s ++ t) := ⟨by simp, fun i hi _ => List.getElem?_append_left hi⟩
theorem trunc_bag {b q c c' : Nat} {s s' : Sto} {d : D} (h : Bag b q c s) (h' : Bag b q c' s') (ho : OnlyL b s s') (hd : below s.length d = true) : ∃ s2, trunc s (.ok d s') = .ok d s2 ∧ Bag b q c' s2 ∧ Only b s s2 := by
  have hb := h.lt
  have hq : q < s.length := by
    obtain ⟨_, _, _, _, _, h2, _⟩ := h
    exact (List.getElem?_eq_some_iff.mp h2).1
  obtain ⟨b0, b1, b2, cells, h1, h2, h3⟩ := h'
  refine ⟨s'.take s.length, ?_, ⟨b0, b1, b2, cells, by rw [List.getElem?_take_of_lt hb]; exact h1, by rw [List.getElem?_take_of_lt hq]; exact h2, h3⟩, by rw [List.length_take]; have := ho.1; omega, fun i hi => ?_⟩
  · refine trunc_gen hd ⟨ho.1, fun i xs hi hx => ?_⟩
    by_cases e : i = b
    · subst e
      rw [h1] at hx
      cases hx
      right
      simp [bagL, belows, RM.below, hq]
    · rw [ho.2 i hi e] at hx
      exact .inl hx
  · by_cases e : i < s.length
    · rw [List.getElem?_take_of_lt e]
      exact ho.2 i e hi
    · rw [List.getElem?_eq_none (by rw [List.length_take]; omega), List.getElem?_eq_none (by omega)]
theorem atN {xs : List D} {v : Int} (h0 : 0 ≤ v) (h : v < xs.length) : ∃ d ∈ xs, L2.atI xs v = some d := by
  have hl : v.toNat < xs.length := by omega
  refine ⟨xs[v.toNat], List.getElem_mem hl, ?_⟩
  unfold L2.atI L2.ixN
  rw [if_pos h0, if_pos h]
  show xs[v.toNat]? = _
  rw [List.getElem?_eq_getElem hl]
theorem l_some {b q c k : Nat} {s : Sto} {xs : List D} (h : Bag b q (c + 1) s) (hk : s[k]? = some xs) (hkb : k ≠ b) (h0 : 0 < xs.length) (h1 : xs.length < 1000000) : ∃ d ∈ xs, ∃ s', c_law_some cl [.lst b, .lst k] s = .ok d s' ∧ Bag b q c s' ∧ Only b s s' := by
  obtain ⟨v, s', e, v0, v1, hB, hO⟩ := l_take cl (m := xs.length) h (by omega) (by omega)
  obtain ⟨d, hd, ed⟩ := atN v0 v1
  refine ⟨d, hd, s', ?_, hB, hO⟩
  have hk' : s'[k]? = some xs := (hO.2 k hkb).trans hk
  simp only [c_law_some, m_law_some, fnM, mSeq, mRet, mNx, mOpN, mCons, mNil, mOp2, mOp1, mVar, mC, mTru, mIf, mAndT, mOrT, mNotT, mAnd, mOr, mIfS, mAsg, mPar, bindP, bindPs, fin, Res.bind_ok, Res.bind_exc, Res.bind_bad, Res.st_ok, Res.st_exc, Res.st_bad, List.length_cons, List.length_nil, List.map_cons, List.map_nil, List.replicate, List.set_cons_zero, List.set_cons_succ, List.getElem?_cons_zero, List.getElem?_cons_succ, List.cons_append, List.nil_append, List.append_nil, if_true, Nat.reduceSub, fLen, hk, e, pIx, hk', ed]
  exact trunc_len hO.1
def Sm1 (q : Rat) : Prop := q.num.natAbs ≤ 9 ∧ q.den ≤ 3
theorem fr_le (a b : Int) (h0 : b ≠ 0) : (frD a b).num.natAbs ≤ a.natAbs ∧ (frD a b).den ≤ b.natAbs := by
  constructor
  · unfold frD
    rw [Rat.num_divInt]
    rw [Int.natAbs_ediv_of_dvd]
    · refine Nat.le_trans (Nat.div_le_self _ _) ?_
      rw [Int.natAbs_mul]
      have : b.sign.natAbs = 1 := by
        rcases Int.lt_trichotomy b 0 with h | h | h
        · rw [Int.sign_eq_neg_one_of_neg h]; rfl
        · exact absurd h h0
        · rw [Int.sign_eq_one_of_pos h]; rfl
      rw [this, Nat.one_mul]
      exact Nat.le_refl _
    · exact Int.dvd_mul_of_dvd_right (Int.gcd_dvd_right ..)
  · rw [fr_den _ _ h0]
    exact Nat.div_le_self _ _
theorem fr_nn {a b : Int} (ha : 0 ≤ a) (hb : 0 < b) : 0 ≤ frD a b := by
  rw [← Rat.num_nonneg, fr_num a b hb]
  exact Int.ediv_nonneg ha (by omega)
theorem smI {i : Int} (h : i.natAbs < 2 ^ 20) : Sm i := sm_small (Nat.lt_of_lt_of_le h (Nat.pow_le_pow_right (by decide) (by decide)))
theorem ones {d : D} (h : d ∈ ([.int 1, .int 1, .int 2, .int 3] : List D)) : ∃ e : Int, d = .int e ∧ 1 ≤ e ∧ e ≤ 3 := by
  simp only [List.mem_cons, List.not_mem_nil, or_false] at h
  rcases h with rfl | rfl | rfl | rfl
  · exact ⟨1, rfl, by decide, by decide⟩
  · exact ⟨1, rfl, by decide, by decide⟩
  · exact ⟨2, rfl, by decide, by decide⟩
  · exact ⟨3, rfl, by decide, by decide⟩
theorem l_pos {b q c : Nat} {s : Sto} {m : Int} (h : Bag b q (c + 2) s) (h0 : 0 < m) (h1 : m ≤ 9) : ∃ p s', c_law_pos cl [.lst b, .int m] s = .ok (dq p) s' ∧ Sm1 p ∧ 0 ≤ p ∧ Bag b q c s' ∧ Only b s s' := by
  obtain ⟨v, s1, e1, v0, v1, hB, hO⟩ := l_take cl (m := m) h h0 (by omega)
  have hB2 := hB.app [[.int 1, .int 1, .int 2, .int 3]]
  obtain ⟨d, hd, s2, e2, hB3, hO3⟩ := l_some cl (k := s1.length) hB2 (get_last ..) (by have := hB.lt; omega) (by simp) (by simp)
  obtain ⟨z, rfl, z1, z2⟩ := ones hd
  have ep : pLst [.int 1, .int 1, .int 2, .int 3] s1 = .ok (.lst s1.length) (s1 ++ [[.int 1, .int 1, .int 2, .int 3]]) := rfl
  obtain ⟨s3, e3, hB4, hO4⟩ := trunc_bag (d := dq (frD (1 + v) z)) h hB3 ((hO.l.trans (OnlyL.app b s1 _)).trans hO3.l) (below_dq ..)
  refine ⟨frD (1 + v) z, s3, ?_, ?_, fr_nn (by omega) (by omega), hB4, hO4⟩
  · simp only [c_law_pos, m_law_pos, fnM, mSeq, mRet, mNx, mOpN, mCons, mNil, mOp2, mOp1, mVar, mC, mTru, mIf, mAndT, mOrT, mNotT, mAnd, mOr, mIfS, mAsg, mPar, bindP, bindPs, fin, Res.bind_ok, Res.bind_exc, Res.bind_bad, Res.st_ok, Res.st_exc, Res.st_bad, List.length_cons, List.length_nil, List.map_cons, List.map_nil, List.replicate, List.set_cons_zero, List.set_cons_succ, List.getElem?_cons_zero, List.getElem?_cons_succ, List.cons_append, List.nil_append, List.append_nil, if_true, Nat.reduceSub, e1, pAddI, ep, e2, c_lq cl (a := 1 + v) (b := z) (smI (by omega)) (smI (by omega)) (.inl (by omega))]
    exact e3
  · have := fr_le (1 + v) z (by omega)
    exact ⟨by omega, by omega⟩
theorem l_frac {b q c : Nat} {s : Sto} {m : Int} (h : Bag b q (c + 2) s) (h0 : 0 < m) (h1 : m ≤ 9) : ∃ p s', c_law_frac cl [.lst b, .int m] s = .ok (dq p) s' ∧ Sm1 p ∧ Bag b q c s' ∧ Only b s s' := by
  obtain ⟨v, s1, e1, v0, v1, hB, hO⟩ := l_take cl (m := 2 * m + 1) h (by omega) (by omega)
  have hB2 := hB.app [[.int 1, .int 1, .int 2, .int 3]]
  obtain ⟨d, hd, s2, e2, hB3, hO3⟩ := l_some cl (k := s1.length) hB2 (get_last ..) (by have := hB.lt; omega) (by simp) (by simp)
  obtain ⟨z, rfl, z1, z2⟩ := ones hd
  have ep : pLst [.int 1, .int 1, .int 2, .int 3] s1 = .ok (.lst s1.length) (s1 ++ [[.int 1, .int 1, .int 2, .int 3]]) := rfl
  have em : ∀ s, pMul (.int 2) (.int m) s = .ok (.int (2 * m)) s := fun s => pMulI (smI (by decide)) (smI (by omega)) s
  obtain ⟨s3, e3, hB4, hO4⟩ := trunc_bag (d := dq (frD (v - m) z)) h hB3 ((hO.l.trans (OnlyL.app b s1 _)).trans hO3.l) (below_dq ..)
  refine ⟨frD (v - m) z, s3, ?_, ?_, hB4, hO4⟩
  · simp only [c_law_frac, m_law_frac, fnM, mSeq, mRet, mNx, mOpN, mCons, mNil, mOp2, mOp1, mVar, mC, mTru, mIf, mAndT, mOrT, mNotT, mAnd, mOr, mIfS, mAsg, mPar, bindP, bindPs, fin, Res.bind_ok, Res.bind_exc, Res.bind_bad, Res.st_ok, Res.st_exc, Res.st_bad, List.length_cons, List.length_nil, List.map_cons, List.map_nil, List.replicate, List.set_cons_zero, List.set_cons_succ, List.getElem?_cons_zero, List.getElem?_cons_succ, List.cons_append, List.nil_append, List.append_nil, if_true, Nat.reduceSub, em, pAddI, e1, pSubI, ep, e2, c_lq cl (a := v - m) (b := z) (smI (by omega)) (smI (by omega)) (.inl (by omega))]
    exact e3
  · have := fr_le (v - m) z (by omega)
    exact ⟨by omega, by omega⟩
theorem Sm1.sz {q : Rat} (h : Sm1 q) : Sz 4 q := ⟨Nat.lt_of_le_of_lt h.1 (by decide), Nat.lt_of_le_of_lt h.2 (by decide)⟩
theorem avg_sz {p q : Rat} (hp : Sm1 p) (hq : Sm1 q) : Sz 7 ((p + q) / 2) := by
  have h1 : (p + q).num.natAbs ≤ 54 ∧ (p + q).den ≤ 9 := by
    rw [← fr_add]
    have := fr_le (p.num * q.den + q.num * p.den) (p.den * q.den) (Int.mul_ne_zero (den_ne p) (den_ne q))
    have a : (p.num * q.den).natAbs ≤ 9 * 3 := by rw [Int.natAbs_mul]; exact Nat.mul_le_mul hp.1 (by simpa using hq.2)
    have b : (q.num * p.den).natAbs ≤ 9 * 3 := by rw [Int.natAbs_mul]; exact Nat.mul_le_mul hq.1 (by simpa using hp.2)
    have c : ((p.den : Int) * q.den).natAbs ≤ 3 * 3 := by rw [Int.natAbs_mul]; exact Nat.mul_le_mul (by simpa using hp.2) (by simpa using hq.2)
    omega
  rw [← fr_div]
  have e1 : (2 : Rat).num = 2 := rfl
  have e2 : (2 : Rat).den = 1 := rfl
  rw [e1, e2]
  have := fr_le ((p + q).num * (1 : Nat)) ((p + q).den * 2) (by have := den_ne (p + q); omega)
  have a : ((p + q).num * ((1 : Nat) : Int)).natAbs = (p + q).num.natAbs := by simp
  have b : (((p + q).den : Int) * 2).natAbs = (p + q).den * 2 := by rw [Int.natAbs_mul]; simp
  exact ⟨by omega, by omega⟩
def dqs (l : Ln) : List D := [dq 0, dq l.2]
/-- a line drawn -/
theorem l_line {b q c : Nat} {s : Sto} {m n : Int} (h : Bag b q (c + 5) s) (h0 : 0 < m) (h1 : m ≤ 9) (h2 : 0 < n) (h3 : n ≤ 9) (σ : Slo) (hσ : ∃ r, σ = some (.lst b) :: r) : ∃ l s', (mOpN pTup (mCons (mOpN (c_law_frac cl) (mCons (mVar 0) (mCons (mC (.int m)) (mNil)))) (mCons (mOpN (c_law_some cl) (mCons (mVar 0) (mCons (mOpN pLst (mCons (mOpN pTup (mCons (mC (.int 0)) (mCons (mC (.int 1)) (mNil)))) (mCons (mOpN (c_law_pos cl) (mCons (mVar 0) (mCons (mC (.int n)) (mNil)))) (mNil)))) (mNil)))) (mNil)))) σ s = .ok (dl l) s' ∧
    Sm1 l.1 ∧ Sm1 l.2 ∧ 0 ≤ l.2 ∧ Bag b q c s' ∧ OnlyL b s s' := by
  obtain ⟨r, rfl⟩ := hσ
  obtain ⟨p, s1, e1, p1, B1, O1⟩ := l_frac cl (m := m) (c := c + 3) h h0 h1
  obtain ⟨z, s2, e2, z1, z2, B2, O2⟩ := l_pos cl (m := n) (c := c + 1) B1 h2 h3
  have B3 := B2.app [[dq 0, dq z]]
  obtain ⟨d, hd, s3, e3, B4, O4⟩ := l_some cl (k := s2.length) B3 (get_last ..) (by have := B2.lt; omega) (by simp) (by simp)
  have ep : pLst [dq 0, dq z] s2 = .ok (.lst s2.length) (s2 ++ [[dq 0, dq z]]) := rfl
  have e0 : ∀ s, pTup [.int 0, .int 1] s = .ok (dq 0) s := fun s => rfl
  have hO : OnlyL b s s3 := ((O1.l.trans O2.l).trans (OnlyL.app b s2 _)).trans O4.l
  simp only [List.mem_cons, List.not_mem_nil, or_false] at hd
  have hz : ∃ w : Rat, d = dq w ∧ Sm1 w ∧ 0 ≤ w := by
    rcases hd with rfl | rfl
    · exact ⟨0, rfl, ⟨by decide, by decide⟩, Rat.le_refl⟩
    · exact ⟨z, rfl, z1, z2⟩
  obtain ⟨w, rfl, w1, w2⟩ := hz
  refine ⟨(p, w), s3, ?_, p1, w1, w2, B4, hO⟩
  simp only [mSeq, mRet, mNx, mOpN, mCons, mNil, mOp2, mOp1, mVar, mC, mTru, mIf, mAndT, mOrT, mNotT, mAnd, mOr, mIfS, mAsg, mPar, bindP, bindPs, fin, Res.bind_ok, Res.bind_exc, Res.bind_bad, Res.st_ok, Res.st_exc, Res.st_bad, List.length_cons, List.length_nil, List.map_cons, List.map_nil, List.replicate, List.set_cons_zero, List.set_cons_succ, List.getElem?_cons_zero, List.getElem?_cons_succ, List.cons_append, List.nil_append, List.append_nil, e1, e0, e2, ep, e3, pTup2]
  rfl
end K03
set_option Elab.async false
set_option linter.all false
set_option maxRecDepth 100000
namespace K03
open PySem PySem.Spec PyProof.Rows L2 RM
variable (cl : Cls)
def Dr (o : Ln) : Prop := Sm1 o.1 ∧ Sm1 o.2 ∧ 0 ≤ o.2
theorem Dr.ls {o : Ln} (h : Dr o) : LS o := ⟨h.1.sz.up (by decide), h.2.1.sz.up (by decide)⟩
theorem OnlyL.set {b k : Nat} {s s' : Sto} {X : List D} (h : OnlyL b s s') (hk : s.length ≤ k) : OnlyL b s (s'.set k X) := ⟨by rw [List.length_set]; exact h.1, fun i hi hn => by rw [List.getElem?_set_ne (by omega)]; exact h.2 i hi hn⟩
theorem Bag.set {b q c k : Nat} {s : Sto} {X : List D} (h : Bag b q c s) (hb : k ≠ b) (hq : k ≠ q) : Bag b q c (s.set k X) := by
  obtain ⟨b0, b1, b2, cells, h1, h2, h3⟩ := h
  exact ⟨b0, b1, b2, cells, by rw [List.getElem?_set_ne hb]; exact h1, by rw [List.getElem?_set_ne hq]; exact h2, h3⟩
theorem Bag.q_lt {b q c : Nat} {s : Sto} (h : Bag b q c s) : q < s.length := by
  obtain ⟨_, _, _, _, _, h2, _⟩ := h
  exact (List.getElem?_eq_some_iff.mp h2).1
theorem app_at {k : Nat} {s : Sto} {xs : List D} (h : s[k]? = some xs) (hl : xs.length < big) (x : D) : gAppend (.lst k) [x] s = .ok .non (s.set k (xs ++ [x])) := by
  simp only [gAppend, h, if_pos hl]
theorem l_lines {b q c : Nat} {s : Sto} (h : Bag b q (c + 40) s) : ∃ l ls s', c_law_some_lines cl [.lst b, .int 6] s = .ok (LD (l :: ls)) s' ∧ (∀ o ∈ l :: ls, LS o ∧ 0 ≤ o.2) ∧ ls.length + 1 ≤ 7 ∧ Bag b q c s' ∧ Only b s s' := by
  have hb := h.lt
  have hq := h.q_lt
  obtain ⟨v, s1, e1, v0, v1, B1, O1⟩ := l_take cl (m := 6) (c := c + 39) (h.app [[]]) (by decide) (by decide)
  have hk1 : s1[s.length]? = some [] := by rw [O1.2 _ (by omega)]; simp
  have er : rngIt1 [.int (1 + v)] s1 = .ok ⟨(List.range (1 + v).toNat).map fun i => .int (0 + (i : Nat)), fun _ => True⟩ s1 := by
    show (if (-2 ^ 62 ≤ (1 + v) ∧ (1 + v) < 2 ^ 62) then Res.ok (⟨rInts 0 (1 + v).toNat, fun _ => True⟩ : ItD) s1 else .bad) = _
    rw [if_pos (by omega)]
    rfl
  obtain ⟨σ', s2, e2, ⟨found, o3, rfl, hlen, hf, hk2, B2, O2⟩, _⟩ := loop_runN (p := .nm 3) (body := (mSeq (mDrop (mMethL gAppend (mVar 2) (mCons (mOpN pTup (mCons (mOpN (c_law_frac cl) (mCons (mVar 0) (mCons (mC (.int 9)) (mNil)))) (mCons (mOpN (c_law_some cl) (mCons (mVar 0) (mCons (mOpN pLst (mCons (mOpN pTup (mCons (mC (.int 0)) (mCons (mC (.int 1)) (mNil)))) (mCons (mOpN (c_law_pos cl) (mCons (mVar 0) (mCons (mC (.int 6)) (mNil)))) (mNil)))) (mNil)))) (mNil)))) (mNil)))) (mNx))) (chk := fun _ => True) (fun i : Nat => D.int (0 + (i : Nat))) (fun (k : Nat) (_ : Nat) => k + 1)
    (fun k n σ s' => (∃ (found : List Ln) (o3 : Option D), σ = [some (.lst b), some (.int 6), some (.lst s.length), o3, none, none, none, none] ∧ found.length = k ∧ (∀ o ∈ found, Dr o) ∧ s'[s.length]? = some (found.map dl) ∧ Bag b q (c + 1 + 5 * n) s' ∧ OnlyL b s s') ∧ k + n ≤ 6) (fun _ _ _ _ _ => trivial) (List.range (1 + v).toNat) (fun i _ k n σ s' r => by
      obtain ⟨⟨found, o3, rfl, rfl, hf, hk, B, O⟩, hn⟩ := r
      obtain ⟨l, s3, e3, l1, l2, l3, B3, O3⟩ := l_line cl (m := 9) (n := 6) (b := b) (q := q) (c := c + 1 + 5 * n) (s := s') (B.weak (by omega)) (by decide) (by decide) (by decide) (by decide) [some (.lst b), some (.int 6), some (.lst s.length), some (.int (0 + (i : Nat))), none, none, none, none] ⟨_, rfl⟩
      have hsl : s.length < s'.length := (List.getElem?_eq_some_iff.mp hk).1
      have hk3 : s3[s.length]? = some (found.map dl) := by rw [O3.2 _ hsl (by omega)]; exact hk
      have hl3 : s.length < s3.length := (List.getElem?_eq_some_iff.mp hk3).1
      refine ⟨_, _, s3.set s.length (found.map dl ++ [dl l]), rfl, ?_, ⟨found ++ [l], some (.int (0 + (i : Nat))), rfl, by simp, fun o ho => ?_, ?_, B3.set (by omega) (by omega), (O.trans O3).set (Nat.le_refl _)⟩, by omega⟩
      · simp only [mSeq, mRet, mNx, mOpN, mCons, mNil, mOp2, mOp1, mVar, mC, mTru, mIf, mAndT, mOrT, mNotT, mAnd, mOr, mIfS, mAsg, mPar, bindP, bindPs, fin, Res.bind_ok, Res.bind_exc, Res.bind_bad, Res.st_ok, Res.st_exc, Res.st_bad, List.length_cons, List.length_nil, List.map_cons, List.map_nil, List.replicate, List.set_cons_zero, List.set_cons_succ, List.getElem?_cons_zero, List.getElem?_cons_succ, List.cons_append, List.nil_append, List.append_nil, mDrop, mMethL, isL, if_true] at e3 ⊢
        simp only [e3, mSeq, mRet, mNx, mOpN, mCons, mNil, mOp2, mOp1, mVar, mC, mTru, mIf, mAndT, mOrT, mNotT, mAnd, mOr, mIfS, mAsg, mPar, bindP, bindPs, fin, Res.bind_ok, Res.bind_exc, Res.bind_bad, Res.st_ok, Res.st_exc, Res.st_bad, List.length_cons, List.length_nil, List.map_cons, List.map_nil, List.replicate, List.set_cons_zero, List.set_cons_succ, List.getElem?_cons_zero, List.getElem?_cons_succ, List.cons_append, List.nil_append, List.append_nil, app_at hk3 (show (found.map dl).length < big by rw [List.length_map]; unfold big; omega)]
      · rcases List.mem_append.mp ho with ho | ho
        · exact hf o ho
        · rw [List.mem_singleton.mp ho]; exact ⟨l1, l2, l3⟩
      · rw [List.getElem?_set_self hl3, List.map_append]; rfl) 0 _ s1 ⟨⟨[], none, rfl, rfl, fun _ z => (nomatch z), hk1, B1.weak (by rw [List.length_range]; omega), (OnlyL.app b s [[]]).trans O1.l⟩, by rw [List.length_range]; omega⟩
  have hpos : 0 < found.length ∧ found.length ≤ 6 := by
    have : ∀ (xs : List Nat) (a : Nat), xs.foldl (fun (k : Nat) (_ : Nat) => k + 1) a = a + xs.length := by
      intro xs
      induction xs with
      | nil => intro a; rfl
      | cons x xs ih => intro a; rw [List.foldl_cons, ih]; simp; omega
    rw [this, List.length_range] at hlen
    omega
  obtain ⟨l, ls, rfl⟩ : ∃ l ls, found = l :: ls := by
    cases found with
    | nil => simp at hpos
    | cons l ls => exact ⟨l, ls, rfl⟩
  have hl6 : ls.length + 1 ≤ 6 := hpos.2
  obtain ⟨w, s3, e3, w0, w1, B3, O3⟩ := l_take cl (m := 2) (c := c) (B2.weak (by omega)) (by decide) (by decide)
  have hsl2 : s.length < s2.length := (List.getElem?_eq_some_iff.mp hk2).1
  have hk3 : s3[s.length]? = some ((l :: ls).map dl) := by rw [O3.2 _ (by omega)]; exact hk2
  have e0 : pLst [] s = .ok (.lst s.length) (s ++ [[]]) := rfl
  have O := O2.trans O3.l
  by_cases c0 : w = 0
  · obtain ⟨f', y, ef⟩ : ∃ f' y, l :: ls = f' ++ [y] := by
      rcases List.eq_nil_or_concat (l :: ls) with z | ⟨f', y, z⟩
      · cases z
      · exact ⟨f', y, by rw [z]; simp⟩
    have dl_ := hf l List.mem_cons_self
    have dy := hf y (by rw [ef]; simp)
    have hk3' : s3[s.length]? = some (f'.map dl ++ [dl y]) := by rw [hk3, ef]; simp
    have hk30 : s3[s.length]? = some (dl l :: ls.map dl) := hk3
    have sz1 := avg_sz dl_.1 dy.1
    have sz2 := avg_sz dl_.2.1 dy.2.1
    have t2 : Q9 (2 : Rat) := ⟨by show (2 : Int).natAbs < _; exact Nat.lt_of_lt_of_le (show 2 < 2 ^ 2 by decide) (Nat.pow_le_pow_right (by decide) (by decide)), by show 1 < _; exact Nat.lt_of_lt_of_le (show 1 < 2 ^ 2 by decide) (Nat.pow_le_pow_right (by decide) (by decide))⟩
    have q1 := q9 dl_.1.sz
    have q2 := q9 dy.1.sz
    have q3 := q9 dl_.2.1.sz
    have q4 := q9 dy.2.1.sz
    have e22 : ∀ s, pTup [.int 2, .int 1] s = .ok (dq 2) s := fun s => rfl
    let z : Ln := ((l.1 + y.1) / 2, (l.2 + y.2) / 2)
    have hl3 : s.length < s3.length := by have := O3.1; omega
    obtain ⟨s4, e4, B4, O4⟩ := trunc_bag (d := LD (l :: ls ++ [z])) (s' := s3.set s.length ((l :: ls).map dl ++ [dl z])) h (B3.set (by omega) (by omega)) (O.set (Nat.le_refl _)) (below_tup _ _ (below_dl _) _)
    refine ⟨l, ls ++ [z], s4, ?_, ?_, by simp; omega, B4, O4⟩
    · have eb : bindPs [.tp [.nm 4, .nm 5], .tp [.nm 6, .nm 7]] [dl l, dl y] [some (.lst b), some (.int 6), some (.lst s.length), o3, none, none, none, none] = some [some (.lst b), some (.int 6), some (.lst s.length), o3, some (dq l.1), some (dq l.2), some (dq y.1), some (dq y.2)] := rfl
      have hap := app_at hk3 (show ((l :: ls).map dl).length < big by rw [List.length_map]; unfold big; omega) (dl z)
      have hz : dl z = .tup [dq ((l.1 + y.1) / 2), dq ((l.2 + y.2) / 2)] := rfl
      have hg : (s3.set s.length ((l :: ls).map dl ++ [dl z]))[s.length]? = some ((l :: ls).map dl ++ [dl z]) := List.getElem?_set_self hl3
      rw [hz] at hap hg e4
      simp only [c_law_some_lines, m_law_some_lines, fnM, if_true, List.length_cons, List.length_nil, List.map_cons, List.map_nil, Nat.reduceSub, List.replicate]
      simp only [mFor, mRng1, mSeq, mRet, mNx, mOpN, mCons, mNil, mOp2, mOp1, mVar, mC, mTru, mIf, mAndT, mOrT, mNotT, mAnd, mOr, mIfS, mAsg, mPar, fin, Res.bind_ok, Res.bind_exc, Res.bind_bad, Res.st_ok, Res.st_exc, Res.st_bad, List.length_cons, List.length_nil, List.map_cons, List.map_nil, List.replicate, List.set_cons_zero, List.set_cons_succ, List.getElem?_cons_zero, List.getElem?_cons_succ, List.cons_append, List.nil_append, List.append_nil, bindP, e0, e1, pAddI, er, e2, e3, pEqI, decide_eq_true c0, if_true]
      simp only [List.map_cons] at hap hk30
      simp only [List.map_cons, List.cons_append] at hg
      simp only [mFor, mRng1, mSeq, mRet, mNx, mOpN, mCons, mNil, mOp2, mOp1, mVar, mC, mTru, mIf, mAndT, mOrT, mNotT, mAnd, mOr, mIfS, mAsg, mPar, fin, Res.bind_ok, Res.bind_exc, Res.bind_bad, Res.st_ok, Res.st_exc, Res.st_bad, List.length_cons, List.length_nil, List.map_cons, List.map_nil, List.replicate, List.set_cons_zero, List.set_cons_succ, List.getElem?_cons_zero, List.getElem?_cons_succ, List.cons_append, List.nil_append, List.append_nil, lix0 hk30, pNeg1, ixLast hk3', pTup2, eb, mDrop, mMethL, isL, if_true, l_add cl q1 q2, l_add cl q3 q4, e22, l_div cl (q9 (Sz.add dl_.1.sz dy.1.sz)) t2 (.inl (by decide)), l_div cl (q9 (Sz.add dl_.2.1.sz dy.2.1.sz)) t2 (.inl (by decide)), hap, fTuple, itemsOf, hg]
      rw [show LD (l :: (ls ++ [z])) = LD (l :: ls ++ [z]) from rfl, ← e4]
      simp [LD, hz]
    · intro o ho
      have ho' : o ∈ (l :: ls) ++ [z] := ho
      rcases List.mem_append.mp ho' with ho | ho
      · exact ⟨(hf o ho).ls, (hf o ho).2.2⟩
      · rw [List.mem_singleton.mp ho]
        refine ⟨⟨sz1, sz2⟩, ?_⟩
        have a := dl_.2.2
        have b := dy.2.2
        show 0 ≤ (l.2 + y.2) / 2
        grind
  · obtain ⟨s4, e4, B4, O4⟩ := trunc_bag (d := LD (l :: ls)) (s' := s3) h B3 O (below_tup _ _ (below_dl _) _)
    refine ⟨l, ls, s4, ?_, fun o ho => ⟨(hf o ho).ls, (hf o ho).2.2⟩, by omega, B4, O4⟩
    simp only [c_law_some_lines, m_law_some_lines, fnM, if_true, List.length_cons, List.length_nil, List.map_cons, List.map_nil, Nat.reduceSub, List.replicate]
    simp only [mFor, mRng1, mSeq, mRet, mNx, mOpN, mCons, mNil, mOp2, mOp1, mVar, mC, mTru, mIf, mAndT, mOrT, mNotT, mAnd, mOr, mIfS, mAsg, mPar, fin, Res.bind_ok, Res.bind_exc, Res.bind_bad, Res.st_ok, Res.st_exc, Res.st_bad, List.length_cons, List.length_nil, List.map_cons, List.map_nil, List.replicate, List.set_cons_zero, List.set_cons_succ, List.getElem?_cons_zero, List.getElem?_cons_succ, List.cons_append, List.nil_append, List.append_nil, bindP, e0, e1, pAddI, er, e2, e3, pEqI, decide_eq_false c0, Bool.false_eq_true, if_false, reduceIte, fTuple, itemsOf]
    have hk30 : s3[s.length]? = some (dl l :: ls.map dl) := hk3
    simp only [hk30]
    exact e4
/-! mixed -/
theorem l_mixed {b q c k : Nat} {s : Sto} {xs : List Ln} (h : Bag b q (c + xs.length) s) (hk : s[k]? = some (xs.map dl)) (hkb : k ≠ b) (hl : xs.length ≤ 1000) : ∃ (ys : List Ln) (s' : Sto), c_law_mixed cl [.lst b, .lst k] s = .ok (.lst s.length) s' ∧ s'[s.length]? = some (ys.map dl) ∧ (∀ x, x ∈ ys ↔ x ∈ xs) ∧ ys.length = xs.length ∧ Bag b q c s' ∧ OnlyL b s s' := by
  have hb := h.lt
  have hq := h.q_lt
  have hkl : k < s.length := (List.getElem?_eq_some_iff.mp hk).1
  obtain ⟨σ', s2, e2, ⟨ys, o3, rfl, hy, hlen, hk2, B2, O2⟩, _⟩ := loop_runN (p := .nm 3) (body := (mSeq (mDrop (mMethL gInsert (mVar 2) (mCons (mOpN (c_law_take cl) (mCons (mVar 0) (mCons (mOp2 pAdd (mOpN fLen (mCons (mVar 2) (mNil))) (mC (.int 1))) (mNil)))) (mCons (mVar 3) (mNil))))) (mNx))) (chk := fun s' => s'[k]? = some (xs.map dl)) dl (fun (z : List Ln) (x : Ln) => z ++ [x])
    (fun z n σ s' => (∃ (ys : List Ln) (o3 : Option D), σ = [some (.lst b), some (.lst k), some (.lst s.length), o3] ∧ (∀ x, x ∈ ys ↔ x ∈ z) ∧ ys.length = z.length ∧ s'[s.length]? = some (ys.map dl) ∧ Bag b q (c + n) s' ∧ OnlyL b s s') ∧ z.length + n ≤ 1000) (fun _ _ _ _ r => by obtain ⟨⟨_, _, _, _, _, _, _, O⟩, _⟩ := r; exact (O.2 k hkl hkb).trans hk) xs (fun x _ z n σ s' r => by
      obtain ⟨⟨ys, o3, rfl, hy, hlen, hk2, B, O⟩, hn⟩ := r
      obtain ⟨v, s3, e3, v0, v1, B3, O3⟩ := l_take cl (m := ys.length + 1) (c := c + n) (B.weak (by omega)) (by omega) (by omega)
      have hsl : s.length < s'.length := (List.getElem?_eq_some_iff.mp hk2).1
      have hk3 : s3[s.length]? = some (ys.map dl) := by rw [O3.2 _ (by omega)]; exact hk2
      have hl3 : s.length < s3.length := (List.getElem?_eq_some_iff.mp hk3).1
      have eL : fLen [.lst s.length] s' = .ok (.int ys.length) s' := by simp only [fLen, hk2, List.length_map]
      have eI : gInsert (.lst s.length) [.int v, dl x] s3 = .ok .non (s3.set s.length ((ys.map dl).take v.toNat ++ [dl x] ++ (ys.map dl).drop v.toNat)) := by
        simp only [gInsert, hk3]
        rw [if_pos ⟨by rw [List.length_map]; unfold big; omega, by omega, by omega⟩]
      refine ⟨_, _, s3.set s.length ((ys.map dl).take v.toNat ++ [dl x] ++ (ys.map dl).drop v.toNat), rfl, ?_, ⟨ys.take v.toNat ++ [x] ++ ys.drop v.toNat, some (dl x), rfl, fun w => ?_, ?_, ?_, B3.set (by omega) (by omega), (O.trans O3.l).set (Nat.le_refl _)⟩, by simp; omega⟩
      · simp only [mSeq, mRet, mNx, mOpN, mCons, mNil, mOp2, mOp1, mVar, mC, mTru, mIf, mAndT, mOrT, mNotT, mAnd, mOr, mIfS, mAsg, mPar, bindP, bindPs, fin, Res.bind_ok, Res.bind_exc, Res.bind_bad, Res.st_ok, Res.st_exc, Res.st_bad, List.length_cons, List.length_nil, List.map_cons, List.map_nil, List.replicate, List.set_cons_zero, List.set_cons_succ, List.getElem?_cons_zero, List.getElem?_cons_succ, List.cons_append, List.nil_append, List.append_nil, mDrop, mMethL, isL, if_true, eL, pAddI, e3, eI]
      · have : (w ∈ ys.take v.toNat ∨ w ∈ ys.drop v.toNat) ↔ w ∈ ys := by
          rw [← List.mem_append, List.take_append_drop]
        simp only [List.mem_append, List.mem_singleton]
        have := hy w
        grind
      · simp
        omega
      · rw [List.getElem?_set_self hl3]
        simp) [] _ (s ++ [[]]) ⟨⟨[], none, rfl, fun _ => Iff.rfl, rfl, by simp, h.app [[]], OnlyL.app b s _⟩, by simpa using hl⟩
  have hz : ∀ (xs z : List Ln), xs.foldl (fun (z : List Ln) (x : Ln) => z ++ [x]) z = z ++ xs := by
    intro xs
    induction xs with
    | nil => intro z; simp
    | cons x xs ih => intro z; rw [List.foldl_cons, ih]; simp
  rw [hz, List.nil_append] at hy hlen
  refine ⟨ys, s2, ?_, hk2, hy, hlen, B2, O2⟩
  have e0 : pLst [] s = .ok (.lst s.length) (s ++ [[]]) := rfl
  have er : rowIt (.lst k) (s ++ [[]]) = .ok ⟨xs.map dl, fun s' => s'[k]? = some (xs.map dl)⟩ (s ++ [[]]) := by
    simp only [rowIt, List.getElem?_append_left hkl, hk]
  simp only [c_law_mixed, m_law_mixed, fnM, if_true, List.length_cons, List.length_nil, List.map_cons, List.map_nil, Nat.reduceSub, List.replicate]
  simp only [mFor, mRow, mSeq, mRet, mNx, mOpN, mCons, mNil, mOp2, mOp1, mVar, mC, mTru, mIf, mAndT, mOrT, mNotT, mAnd, mOr, mIfS, mAsg, mPar, bindP, bindPs, fin, Res.bind_ok, Res.bind_exc, Res.bind_bad, Res.st_ok, Res.st_exc, Res.st_bad, List.length_cons, List.length_nil, List.map_cons, List.map_nil, List.replicate, List.set_cons_zero, List.set_cons_succ, List.getElem?_cons_zero, List.getElem?_cons_succ, List.cons_append, List.nil_append, List.append_nil, e0, er, e2]
  unfold trunc
  have : below s.length (.lst s.length) = false := by unfold RM.below; simp
  simp [this]
/-! the bag is packed -/
theorem cut63 (ns : List Int) (h : ns.length ≤ 63) : RM.cutD (ns.map D.int) none (some 63) = ns.map D.int := by
  show ((ns.map D.int).drop 0).take (HT.sIx (ns.map D.int).length (ns.map D.int).length (some ((63 : Nat) : Int)) - 0) = _
  rw [HT.sIx_nat, List.drop_zero, List.take_of_length_le (by rw [List.length_map]; omega)]
theorem abs1 (i : Int) (s : Sto) : fAbs [.int i] s = .ok (.int (if i < 0 then -i else i)) s := rfl
theorem l_bag {d : D} {s : Sto} {ns : List Int} (h : ns.length ≤ 63) (hd : d = .ro (ns.map .int) ∨ ∃ k, d = .lst k ∧ s[k]? = some (ns.map .int)) : ∃ s', c_law_bag cl [d] s = .ok (.lst (s.length + 2)) s' ∧ Bag (s.length + 2) (s.length + 1) 900000 s' := by
  have e1 : pSl d none (some 63) s = .ok (.lst s.length) (s ++ [ns.map D.int]) := by
    rcases hd with rfl | ⟨k, rfl, hk⟩
    · simp only [pSl, cut63 ns h]
    · simp only [pSl, hk, cut63 ns h]
  have e2 := lc_all (vs := [1]) (p := .nm 1) (mi := (mRow (mSl (mVar 0) (mNoPart) (mPart (mC (.int 63)))))) (m := (mOpN fAbs (mCons (mVar 1) (mNil)))) (σ := [some d, none]) (s := s) (s1 := s ++ [ns.map D.int]) (chk := fun s' => s'[s.length]? = some (ns.map D.int)) D.int (fun i => D.int (if i < 0 then -i else i)) (xs := ns)
    (by simp only [mRow, mSl, mPart, mNoPart, mSeq, mRet, mNx, mOpN, mCons, mNil, mOp2, mOp1, mVar, mC, mTru, mIf, mAndT, mOrT, mNotT, mAnd, mOr, mIfS, mAsg, mPar, bindP, bindPs, fin, Res.bind_ok, Res.bind_exc, Res.bind_bad, Res.st_ok, Res.st_exc, Res.st_bad, List.length_cons, List.length_nil, List.map_cons, List.map_nil, List.replicate, List.set_cons_zero, List.set_cons_succ, List.getElem?_cons_zero, List.getElem?_cons_succ, List.cons_append, List.nil_append, List.append_nil, e1, rowIt, get_last]) (get_last ..) (fun i _ => ⟨_, rfl, by simp only [mSeq, mRet, mNx, mOpN, mCons, mNil, mOp2, mOp1, mVar, mC, mTru, mIf, mAndT, mOrT, mNotT, mAnd, mOr, mIfS, mAsg, mPar, bindP, bindPs, fin, Res.bind_ok, Res.bind_exc, Res.bind_bad, Res.st_ok, Res.st_exc, Res.st_bad, List.length_cons, List.length_nil, List.map_cons, List.map_nil, List.replicate, List.set_cons_zero, List.set_cons_succ, List.getElem?_cons_zero, List.getElem?_cons_succ, List.cons_append, List.nil_append, List.append_nil, wipeD, abs1]⟩) (by unfold big; omega)
  refine ⟨s ++ [ns.map D.int] ++ [ns.map fun i => D.int (if i < 0 then -i else i)] ++ [bagL 0 1234567891 0 (s.length + 1)], ?_, 0, 1234567891, 0, ns.map (fun i => if i < 0 then -i else i), by simp, ?_, by omega, by decide, by decide, by decide, by decide, by simpa using h⟩
  · have ep : ∀ (u : Sto) (L : List D), L.length ≤ big → pLst L u = .ok (.lst u.length) (u ++ [L]) := fun u L hL => by unfold pLst; rw [if_pos hL]
    simp only [c_law_bag, m_law_bag, fnM, if_true, List.length_cons, List.length_nil, List.map_cons, List.map_nil, Nat.reduceSub, List.replicate]
    simp only [mSeq, mRet, mNx, mOpN, mCons, mNil, mOp2, mOp1, mVar, mC, mTru, mIf, mAndT, mOrT, mNotT, mAnd, mOr, mIfS, mAsg, mPar, bindP, bindPs, fin, Res.bind_ok, Res.bind_exc, Res.bind_bad, Res.st_ok, Res.st_exc, Res.st_bad, List.length_cons, List.length_nil, List.map_cons, List.map_nil, List.replicate, List.set_cons_zero, List.set_cons_succ, List.getElem?_cons_zero, List.getElem?_cons_succ, List.cons_append, List.nil_append, List.append_nil, e2, ep _ [.int 0, .int 1234567891, .int 0, .lst (s ++ [ns.map D.int]).length] (by simp; decide)]
    unfold trunc
    have : below s.length (.lst (s ++ [ns.map D.int] ++ [ns.map fun i => D.int (if i < 0 then -i else i)]).length) = false := by unfold RM.below; simp
    have this2 : below s.length (.lst (s.length + 2)) = false := by unfold RM.below; simp
    simp [this2, bagL]
  · rw [List.append_assoc, List.append_assoc, List.getElem?_append_right (by omega)]
    simp
end K03
set_option Elab.async false
set_option linter.all false
set_option maxRecDepth 100000
namespace K03
open PySem PySem.Spec PyProof.Rows L2 RM
variable (cl : Cls)
theorem rb4 {m a b : Rat} (h1 : Sz 4 m) (h2 : Sz 4 a) (h3 : Sz 4 b) : RB (m, (a, b)) := ⟨h1.up (by decide), h2.up (by decide), h3.up (by decide)⟩
theorem z0 : Sz 4 0 := ⟨by decide, by decide⟩
theorem z1 : Sz 4 1 := ⟨by decide, by decide⟩
theorem z2 : Sz 4 2 := ⟨by decide, by decide⟩
theorem z3 : Sz 4 3 := ⟨by decide, by decide⟩
theorem zm : Sz 4 (-1) := ⟨by decide, by decide⟩
theorem hp0 (s : Sto) : pTup [] s = .ok (.tup []) s := rfl
theorem pT1 (a : D) (s : Sto) : pTup [a] s = .ok (.tup [a]) s := rfl
theorem pT3 (a b c : D) (s : Sto) : pTup [a, b, c] s = .ok (.tup [a, b, c]) s := rfl
theorem ie_no {d : D} (h : pIsi "tuple" d = fun s => .ok (.bl false) s) (s : Sto) : c_is_envelope cl [d] s = .ok (.bl false) s := by
  simp only [c_is_envelope, m_is_envelope, fnM, if_true, List.length_cons, List.length_nil, List.map_cons, List.map_nil, Nat.reduceSub, List.replicate]
  simp only [mSeq, mRet, mNx, mOpN, mCons, mNil, mOp2, mOp1, mVar, mC, mTru, mIf, mAndT, mOrT, mNotT, mAnd, mOr, mIfS, mAsg, mPar, bindP, bindPs, fin, Res.bind_ok, Res.bind_exc, Res.bind_bad, Res.st_ok, Res.st_exc, Res.st_bad, List.length_cons, List.length_nil, List.map_cons, List.map_nil, List.replicate, List.set_cons_zero, List.set_cons_succ, List.getElem?_cons_zero, List.getElem?_cons_succ, List.cons_append, List.nil_append, List.append_nil, h, Bool.not_false, if_true]
  exact trunc_same ..
theorem ie_nil (s : Sto) : c_is_envelope cl [.tup []] s = .ok (.bl false) s := by
  have e : pEq (.tup []) (.tup []) s = .ok (.bl true) s := pEq_t rfl s
  simp only [c_is_envelope, m_is_envelope, fnM, if_true, List.length_cons, List.length_nil, List.map_cons, List.map_nil, Nat.reduceSub, List.replicate]
  simp only [mSeq, mRet, mNx, mOpN, mCons, mNil, mOp2, mOp1, mVar, mC, mTru, mIf, mAndT, mOrT, mNotT, mAnd, mOr, mIfS, mAsg, mPar, bindP, bindPs, fin, Res.bind_ok, Res.bind_exc, Res.bind_bad, Res.st_ok, Res.st_exc, Res.st_bad, List.length_cons, List.length_nil, List.map_cons, List.map_nil, List.replicate, List.set_cons_zero, List.set_cons_succ, List.getElem?_cons_zero, List.getElem?_cons_succ, List.cons_append, List.nil_append, List.append_nil, isi_tup, Bool.not_true, Bool.false_eq_true, if_false, reduceIte, hp0, e, if_true]
  exact trunc_same ..
theorem ie_row {d : D} (hp : plain 39 d = true) (h : ∀ s, c_is_row cl [d] s = .ok (.bl false) s) (s : Sto) : c_is_envelope cl [.tup [d]] s = .ok (.bl false) s := by
  have e := lc_all (vs := [1]) (p := .nm 1) (mi := mRow (mVar 0)) (m := (mOpN (c_is_row cl) (mCons (mVar 1) (mNil)))) (σ := [some (.tup [d]), none, none, none]) (s := s) (s1 := s) (chk := fun _ => True) (fun d : D => d) (fun _ => D.bl false) (xs := [d]) rfl trivial (fun r hr => ⟨_, rfl, by rw [List.mem_singleton.mp hr]; simp only [mSeq, mRet, mNx, mOpN, mCons, mNil, mOp2, mOp1, mVar, mC, mTru, mIf, mAndT, mOrT, mNotT, mAnd, mOr, mIfS, mAsg, mPar, bindP, bindPs, fin, Res.bind_ok, Res.bind_exc, Res.bind_bad, Res.st_ok, Res.st_exc, Res.st_bad, List.length_cons, List.length_nil, List.map_cons, List.map_nil, List.replicate, List.set_cons_zero, List.set_cons_succ, List.getElem?_cons_zero, List.getElem?_cons_succ, List.cons_append, List.nil_append, List.append_nil, wipeD, h]⟩) (by simp; decide)
  have ea : fAll [.lst s.length] (s ++ [[D.bl false]]) = .ok (.bl false) (s ++ [[D.bl false]]) := all_last s [false]
  have ni : pEq (.tup [d]) (.tup []) s = .ok (.bl false) s := pEq_f (by show [d].all (plain 39) = true; simp [hp]) rfl (by simp) s
  simp only [List.map_cons, List.map_nil] at e
  simp only [c_is_envelope, m_is_envelope, fnM, if_true, List.length_cons, List.length_nil, List.map_cons, List.map_nil, Nat.reduceSub, List.replicate]
  simp only [mSeq, mRet, mNx, mOpN, mCons, mNil, mOp2, mOp1, mVar, mC, mTru, mIf, mAndT, mOrT, mNotT, mAnd, mOr, mIfS, mAsg, mPar, bindP, bindPs, fin, Res.bind_ok, Res.bind_exc, Res.bind_bad, Res.st_ok, Res.st_exc, Res.st_bad, List.length_cons, List.length_nil, List.map_cons, List.map_nil, List.replicate, List.set_cons_zero, List.set_cons_succ, List.getElem?_cons_zero, List.getElem?_cons_succ, List.cons_append, List.nil_append, List.append_nil, isi_tup, Bool.not_true, Bool.false_eq_true, if_false, reduceIte, hp0, ni, e, ea, Bool.not_false, if_true]
  exact trunc_app (below_bl ..)
theorem row_a (p q : Rat) (s : Sto) : c_is_row cl [.tup [dq p, dq q]] s = .ok (.bl false) s := by
  have e := lc_all (vs := [1]) (p := .nm 1) (mi := (mRow (mOp2 pIx (mVar 0) (mC (.int 1))))) (m := (mOpN (c_is_fraction cl) (mCons (mVar 1) (mNil)))) (σ := [some (.tup [dq p, dq q]), none]) (s := s) (s1 := s) (chk := fun _ => True) D.int (fun _ => D.bl false) (xs := [q.num, (q.den : Int)]) (by simp only [mRow, mSeq, mRet, mNx, mOpN, mCons, mNil, mOp2, mOp1, mVar, mC, mTru, mIf, mAndT, mOrT, mNotT, mAnd, mOr, mIfS, mAsg, mPar, bindP, bindPs, fin, Res.bind_ok, Res.bind_exc, Res.bind_bad, Res.st_ok, Res.st_exc, Res.st_bad, List.length_cons, List.length_nil, List.map_cons, List.map_nil, List.replicate, List.set_cons_zero, List.set_cons_succ, List.getElem?_cons_zero, List.getElem?_cons_succ, List.cons_append, List.nil_append, List.append_nil, pIx1]; rfl) trivial (fun z _ => ⟨_, rfl, by
    have : pIsi "tuple" (D.int z) = fun s => .ok (.bl false) s := rfl
    simp only [mSeq, mRet, mNx, mOpN, mCons, mNil, mOp2, mOp1, mVar, mC, mTru, mIf, mAndT, mOrT, mNotT, mAnd, mOr, mIfS, mAsg, mPar, bindP, bindPs, fin, Res.bind_ok, Res.bind_exc, Res.bind_bad, Res.st_ok, Res.st_exc, Res.st_bad, List.length_cons, List.length_nil, List.map_cons, List.map_nil, List.replicate, List.set_cons_zero, List.set_cons_succ, List.getElem?_cons_zero, List.getElem?_cons_succ, List.cons_append, List.nil_append, List.append_nil, wipeD, c_isf_no cl this]⟩) (by simp; decide)
  have ea : fAll [.lst s.length] (s ++ [[D.bl false, D.bl false]]) = .ok (.bl false) (s ++ [[D.bl false, D.bl false]]) := all_last s [false, false]
  have et2 : ∀ s, c_is_tuple_of cl [dq q, .int 2] s = .ok (.bl true) s := fun s => c_to2 cl _ _ s
  simp only [List.map_cons, List.map_nil] at e
  simp only [c_is_row, m_is_row, fnM, if_true, List.length_cons, List.length_nil, List.map_cons, List.map_nil, Nat.reduceSub, List.replicate]
  simp only [mSeq, mRet, mNx, mOpN, mCons, mNil, mOp2, mOp1, mVar, mC, mTru, mIf, mAndT, mOrT, mNotT, mAnd, mOr, mIfS, mAsg, mPar, bindP, bindPs, fin, Res.bind_ok, Res.bind_exc, Res.bind_bad, Res.st_ok, Res.st_exc, Res.st_bad, List.length_cons, List.length_nil, List.map_cons, List.map_nil, List.replicate, List.set_cons_zero, List.set_cons_succ, List.getElem?_cons_zero, List.getElem?_cons_succ, List.cons_append, List.nil_append, List.append_nil, c_to2, et2, pIx0, pIx1, c_isf_dq, Bool.not_true, Bool.false_eq_true, if_false, reduceIte, e, ea]
  exact trunc_app (below_bl ..)
theorem row_b (p q r t : Rat) (s : Sto) : c_is_row cl [.tup [dq p, .tup [dq q, dq r, dq t]]] s = .ok (.bl false) s := by
  have et : ∀ s, c_is_tuple_of cl [.tup [dq q, dq r, dq t], .int 2] s = .ok (.bl false) s := fun s => (c_to cl _ _ s).trans (by simp)
  simp only [c_is_row, m_is_row, fnM, if_true, List.length_cons, List.length_nil, List.map_cons, List.map_nil, Nat.reduceSub, List.replicate]
  simp only [mSeq, mRet, mNx, mOpN, mCons, mNil, mOp2, mOp1, mVar, mC, mTru, mIf, mAndT, mOrT, mNotT, mAnd, mOr, mIfS, mAsg, mPar, bindP, bindPs, fin, Res.bind_ok, Res.bind_exc, Res.bind_bad, Res.st_ok, Res.st_exc, Res.st_bad, List.length_cons, List.length_nil, List.map_cons, List.map_nil, List.replicate, List.set_cons_zero, List.set_cons_succ, List.getElem?_cons_zero, List.getElem?_cons_succ, List.cons_append, List.nil_append, List.append_nil, c_to2, et, pIx0, pIx1, c_isf_dq, Bool.not_true, Bool.not_false, Bool.false_eq_true, if_false, if_true, reduceIte]
  exact trunc_same ..
theorem row_c (i : Int) (d : D) (s : Sto) : c_is_row cl [.tup [.int i, d]] s = .ok (.bl false) s := by
  have : pIsi "tuple" (D.int i) = fun s => .ok (.bl false) s := rfl
  simp only [c_is_row, m_is_row, fnM, if_true, List.length_cons, List.length_nil, List.map_cons, List.map_nil, Nat.reduceSub, List.replicate]
  simp only [mSeq, mRet, mNx, mOpN, mCons, mNil, mOp2, mOp1, mVar, mC, mTru, mIf, mAndT, mOrT, mNotT, mAnd, mOr, mIfS, mAsg, mPar, bindP, bindPs, fin, Res.bind_ok, Res.bind_exc, Res.bind_bad, Res.st_ok, Res.st_exc, Res.st_bad, List.length_cons, List.length_nil, List.map_cons, List.map_nil, List.replicate, List.set_cons_zero, List.set_cons_succ, List.getElem?_cons_zero, List.getElem?_cons_succ, List.cons_append, List.nil_append, List.append_nil, c_to2, pIx0, c_isf_no cl this, Bool.not_true, Bool.not_false, Bool.false_eq_true, if_false, if_true, reduceIte]
  exact trunc_same ..
theorem ie_env (r0 : Rw) (rs : List Rw) (b : Bool) (h : ∀ r ∈ r0 :: rs, RB r) (hl : rs.length ≤ 2) (e : isEnv r0 rs = b) (s : Sto) : c_is_envelope cl [envD (r0 :: rs)] s = .ok (.bl b) s := by
  rw [c_ie cl h (by unfold big; omega) s, e]
abbrev t0 : D := .tup [.int 0, .int 1]
abbrev t1 : D := .tup [.int 1, .int 1]
abbrev t2 : D := .tup [.int 2, .int 1]
abbrev t3 : D := .tup [.int 3, .int 1]
abbrev tm : D := .tup [.int (-1), .int 1]
def gd (e : D) : List D := [.tup [.tup [t0, .tup [t3, t0]]], .tup [.tup [t0, .tup [t0, t1]], .tup [t3, .tup [t3, t0]]], e]
def bd1 (k : Nat) : List D := [.non, .tup [], .lst k, .tup [.tup [t1, .tup [t3, t0]]], .tup [.tup [t0, .tup [t3, tm]]], .tup [.tup [t0, .tup [t0, t1]], .tup [t2, .tup [t3, t0]]], .tup [.tup [t0, .tup [t3, t0]], .tup [t3, .tup [t0, t1]]]]
def bd2 : List D := [.tup [.tup [t0, .tup [t0, t1]], .tup [t3, .tup [t0, t1]]], .tup [.tup [t0, .tup [t0, t1]], .tup [t0, .tup [t0, t0]]]]
def bd3 : List D := [.tup [.tup [t0, .tup [t0, t1]], .tup [t3, .tup [t3, t0]], .tup [t2, .tup [t3, t0]]], .tup [.tup [t0, t3]], .tup [.tup [t0, .tup [t3, t0, t0]]], .tup [.tup [.int 0, .tup [t3, t0]]]]
theorem gd_ok {e : D} (he : ∀ s, c_is_envelope cl [e] s = .ok (.bl true) s) : ∀ d ∈ gd e, ∀ s, c_is_envelope cl [d] s = .ok (.bl true) s := by
  intro d hd s
  simp only [gd, List.mem_cons, List.not_mem_nil, or_false] at hd
  rcases hd with rfl | rfl | rfl
  · exact ie_env cl (0, (3, 0)) [] true (by simp [rb4 z0 z3 z0]) (by simp) (by decide +kernel) s
  · exact ie_env cl (0, (0, 1)) [(3, (3, 0))] true (by simp [rb4 z0 z0 z1, rb4 z3 z3 z0]) (by simp) (by decide +kernel) s
  · exact he s
theorem bd_ok (k : Nat) : ∀ d ∈ bd1 k ++ bd2 ++ bd3, ∀ s, c_is_envelope cl [d] s = .ok (.bl false) s := by
  intro d hd s
  simp only [bd1, bd2, bd3, List.mem_cons, List.mem_append, List.not_mem_nil, or_false] at hd
  rcases hd with ((rfl | rfl | rfl | rfl | rfl | rfl | rfl) | rfl | rfl) | rfl | rfl | rfl | rfl
  · exact ie_no cl rfl s
  · exact ie_nil cl s
  · exact ie_no cl rfl s
  · exact ie_env cl (1, (3, 0)) [] false (by simp [rb4 z1 z3 z0]) (by simp) (by decide +kernel) s
  · exact ie_env cl (0, (3, -1)) [] false (by simp [rb4 z0 z3 zm]) (by simp) (by decide +kernel) s
  · exact ie_env cl (0, (0, 1)) [(2, (3, 0))] false (by simp [rb4 z0 z0 z1, rb4 z2 z3 z0]) (by simp) (by decide +kernel) s
  · exact ie_env cl (0, (3, 0)) [(3, (0, 1))] false (by simp [rb4 z0 z3 z0, rb4 z3 z0 z1]) (by simp) (by decide +kernel) s
  · exact ie_env cl (0, (0, 1)) [(3, (0, 1))] false (by simp [rb4 z0 z0 z1, rb4 z3 z0 z1]) (by simp) (by decide +kernel) s
  · exact ie_env cl (0, (0, 1)) [(0, (0, 0))] false (by simp [rb4 z0 z0 z1, rb4 z0 z0 z0]) (by simp) (by decide +kernel) s
  · exact ie_env cl (0, (0, 1)) [(3, (3, 0)), (2, (3, 0))] false (by simp [rb4 z0 z0 z1, rb4 z3 z3 z0, rb4 z2 z3 z0]) (by simp) (by decide +kernel) s
  · exact ie_row cl rfl (row_a cl 0 3) s
  · exact ie_row cl rfl (row_b cl 0 3 0 0) s
  · exact ie_row cl rfl (row_c cl 0 _) s
theorem catL {i j : Nat} {u : Sto} {xs ys : List D} (h1 : u[i]? = some xs) (h2 : u[j]? = some ys) (hl : xs.length + ys.length ≤ big) : pAdd (.lst i) (.lst j) u = .ok (.lst u.length) (u ++ [xs ++ ys]) := by
  show por pCatL _ _ _ _ = _
  unfold por pCatL
  simp only [h1, h2]
  rw [if_pos hl]
theorem pL (u : Sto) (L : List D) (hL : L.length ≤ big) : pLst L u = .ok (.lst u.length) (u ++ [L]) := by unfold pLst; rw [if_pos hL]
theorem notB (b : Bool) (s : Sto) : pIsNot (.bl b) (.bl b) s = .ok (.bl false) s := by cases b <;> rfl
theorem l_any {e : D} (he : ∀ s, c_is_envelope cl [e] s = .ok (.bl true) s) (s : Sto) : c_law_any_values cl [e] s = .ok (.bl true) s := by
  have b7 : ∀ L : List D, L.length ≤ 20 → L.length ≤ big := fun L h => by unfold big; omega
  have p1 : pLst (gd e) s = .ok (.lst s.length) (s ++ [gd e]) := pL s _ (b7 _ (by simp [gd]))
  generalize h1 : s ++ [gd e] = u1 at p1
  have p2 : pLst [.tup [t0, .tup [t3, t0]]] u1 = .ok (.lst u1.length) (u1 ++ [[.tup [t0, .tup [t3, t0]]]]) := rfl
  generalize h2 : u1 ++ [[D.tup [t0, .tup [t3, t0]]]] = u2 at p2
  have p3 : pLst (bd1 u1.length) u2 = .ok (.lst u2.length) (u2 ++ [bd1 u1.length]) := pL u2 _ (b7 _ (by simp [bd1]))
  generalize h3 : u2 ++ [bd1 u1.length] = u3 at p3
  have g3 : u3[u2.length]? = some (bd1 u1.length) := by rw [← h3]; simp
  have p4 : pLst bd2 u3 = .ok (.lst u3.length) (u3 ++ [bd2]) := pL u3 _ (b7 _ (by simp [bd2]))
  have p5 : pAdd (.lst u2.length) (.lst u3.length) (u3 ++ [bd2]) = .ok (.lst (u3 ++ [bd2]).length) (u3 ++ [bd2] ++ [bd1 u1.length ++ bd2]) := catL (by rw [List.getElem?_append_left (List.getElem?_eq_some_iff.mp g3).1]; exact g3) (get_last ..) (by simp [bd1, bd2]; decide)
  generalize h4 : u3 ++ [bd2] = u4 at p4 p5
  generalize h5 : u4 ++ [bd1 u1.length ++ bd2] = u5 at p5
  have g5 : u5[u4.length]? = some (bd1 u1.length ++ bd2) := by rw [← h5]; simp
  have p6 : pLst bd3 u5 = .ok (.lst u5.length) (u5 ++ [bd3]) := pL u5 _ (b7 _ (by simp [bd3]))
  have p7 : pAdd (.lst u4.length) (.lst u5.length) (u5 ++ [bd3]) = .ok (.lst (u5 ++ [bd3]).length) (u5 ++ [bd3] ++ [bd1 u1.length ++ bd2 ++ bd3]) := catL (by rw [List.getElem?_append_left (List.getElem?_eq_some_iff.mp g5).1]; exact g5) (get_last ..) (by simp [bd1, bd2, bd3]; decide)
  generalize h6 : u5 ++ [bd3] = u6 at p6 p7
  generalize h7 : u6 ++ [bd1 u1.length ++ bd2 ++ bd3] = u7 at p7
  have hs : ∃ t, u7 = s ++ gd e :: t := by
    refine ⟨[[D.tup [t0, .tup [t3, t0]]], bd1 u1.length, bd2, bd1 u1.length ++ bd2, bd3, bd1 u1.length ++ bd2 ++ bd3], ?_⟩
    rw [← h7, ← h6, ← h5, ← h4, ← h3, ← h2, ← h1]
    simp
  obtain ⟨t, hs⟩ := hs
  have gg : u7[s.length]? = some (gd e) := by rw [hs]; exact mid ..
  have gb : u7[u6.length]? = some (bd1 u1.length ++ bd2 ++ bd3) := by rw [← h7]; simp
  have c1 := lc_of (vs := [6]) (p := .nm 6) (mi := (mRow (mVar 4))) (t := (mTru (mOp2 pIsNot (mOpN (c_is_envelope cl) (mCons (mVar 6) (mNil))) (mC (.bl true))))) (m := mVar 6) (σ := [some e, some t3, some t1, some t0, some (.lst s.length), some (.lst u6.length), none]) (s := u7) (s1 := u7) (chk := fun s' => s'[s.length]? = some (gd e)) (fun d : D => d) (fun _ => false) (fun d : D => d) (xs := gd e)
    (by rw [List.map_id']; simp only [mRow, mSeq, mRet, mNx, mOpN, mCons, mNil, mOp2, mOp1, mVar, mC, mTru, mIf, mAndT, mOrT, mNotT, mAnd, mOr, mIfS, mAsg, mPar, bindP, bindPs, fin, Res.bind_ok, Res.bind_exc, Res.bind_bad, Res.st_ok, Res.st_exc, Res.st_bad, List.length_cons, List.length_nil, List.map_cons, List.map_nil, List.replicate, List.set_cons_zero, List.set_cons_succ, List.getElem?_cons_zero, List.getElem?_cons_succ, List.cons_append, List.nil_append, List.append_nil, rowIt, gg]) gg (fun d hd => ⟨_, rfl, by simp only [mSeq, mRet, mNx, mOpN, mCons, mNil, mOp2, mOp1, mVar, mC, mTru, mIf, mAndT, mOrT, mNotT, mAnd, mOr, mIfS, mAsg, mPar, bindP, bindPs, fin, Res.bind_ok, Res.bind_exc, Res.bind_bad, Res.st_ok, Res.st_exc, Res.st_bad, List.length_cons, List.length_nil, List.map_cons, List.map_nil, List.replicate, List.set_cons_zero, List.set_cons_succ, List.getElem?_cons_zero, List.getElem?_cons_succ, List.cons_append, List.nil_append, List.append_nil, wipeD, gd_ok cl he d hd, notB], fun z => by cases z⟩) (b7 _ (by simp [gd]))
  have f1 : ∀ xs : List D, ((xs.filter fun _ => false).map fun d => d) = [] := fun xs => by simp
  rw [f1] at c1
  have q1 : pLst [] (u7 ++ [[]]) = .ok (.lst (u7 ++ [[]]).length) (u7 ++ [[]] ++ [[]]) := rfl
  have q2 : pEq (.lst u7.length) (.lst (u7 ++ [([] : List D)]).length) (u7 ++ [[]] ++ [[]]) = .ok (.bl true) (u7 ++ [[]] ++ [[]]) := eqnil (f := []) (by rw [List.getElem?_append_left (by simp)]; simp) (by simp)
  generalize h8 : u7 ++ [[]] ++ [[]] = u8 at q1 q2
  have gb8 : u8[u6.length]? = some (bd1 u1.length ++ bd2 ++ bd3) := by
    rw [← h8, List.append_assoc, List.getElem?_append_left (List.getElem?_eq_some_iff.mp gb).1]; exact gb
  have c2 := lc_of (vs := [6]) (p := .nm 6) (mi := (mRow (mVar 5))) (t := (mTru (mOp2 pIsNot (mOpN (c_is_envelope cl) (mCons (mVar 6) (mNil))) (mC (.bl false))))) (m := mVar 6) (σ := [some e, some t3, some t1, some t0, some (.lst s.length), some (.lst u6.length), none]) (s := u8) (s1 := u8) (chk := fun s' => s'[u6.length]? = some (bd1 u1.length ++ bd2 ++ bd3)) (fun d : D => d) (fun _ => false) (fun d : D => d) (xs := bd1 u1.length ++ bd2 ++ bd3)
    (by rw [List.map_id']; simp only [mRow, mSeq, mRet, mNx, mOpN, mCons, mNil, mOp2, mOp1, mVar, mC, mTru, mIf, mAndT, mOrT, mNotT, mAnd, mOr, mIfS, mAsg, mPar, bindP, bindPs, fin, Res.bind_ok, Res.bind_exc, Res.bind_bad, Res.st_ok, Res.st_exc, Res.st_bad, List.length_cons, List.length_nil, List.map_cons, List.map_nil, List.replicate, List.set_cons_zero, List.set_cons_succ, List.getElem?_cons_zero, List.getElem?_cons_succ, List.cons_append, List.nil_append, List.append_nil, rowIt, gb8]) gb8 (fun d hd => ⟨_, rfl, by simp only [mSeq, mRet, mNx, mOpN, mCons, mNil, mOp2, mOp1, mVar, mC, mTru, mIf, mAndT, mOrT, mNotT, mAnd, mOr, mIfS, mAsg, mPar, bindP, bindPs, fin, Res.bind_ok, Res.bind_exc, Res.bind_bad, Res.st_ok, Res.st_exc, Res.st_bad, List.length_cons, List.length_nil, List.map_cons, List.map_nil, List.replicate, List.set_cons_zero, List.set_cons_succ, List.getElem?_cons_zero, List.getElem?_cons_succ, List.cons_append, List.nil_append, List.append_nil, wipeD, bd_ok cl u1.length d hd, notB], fun z => by cases z⟩) (b7 _ (by simp [bd1, bd2, bd3]))
  rw [f1] at c2
  have q3 : pLst [] (u8 ++ [[]]) = .ok (.lst (u8 ++ [[]]).length) (u8 ++ [[]] ++ [[]]) := rfl
  have q4 : pEq (.lst u8.length) (.lst (u8 ++ [([] : List D)]).length) (u8 ++ [[]] ++ [[]]) = .ok (.bl true) (u8 ++ [[]] ++ [[]]) := eqnil (f := []) (by rw [List.getElem?_append_left (by simp)]; simp) (by simp)
  have hz : u8 ++ [[]] ++ [[]] = s ++ (gd e :: t ++ [[], []] ++ [[], []]) := by rw [← h8, hs]; simp
  simp only [gd, bd1, bd2, bd3, List.cons_append, List.nil_append] at p1 p3 p4 p5 p6 p7 c1 c2
  simp only [c_law_any_values, m_law_any_values, fnM, if_true, List.length_cons, List.length_nil, List.map_cons, List.map_nil, Nat.reduceSub, List.replicate]
  simp only [mSeq, mRet, mNx, mOpN, mCons, mNil, mOp2, mOp1, mVar, mC, mTru, mIf, mAndT, mOrT, mNotT, mAnd, mOr, mIfS, mAsg, mPar, bindP, bindPs, fin, Res.bind_ok, Res.bind_exc, Res.bind_bad, Res.st_ok, Res.st_exc, Res.st_bad, List.length_cons, List.length_nil, List.map_cons, List.map_nil, List.replicate, List.set_cons_zero, List.set_cons_succ, List.getElem?_cons_zero, List.getElem?_cons_succ, List.cons_append, List.nil_append, List.append_nil, Option.bind_some, hp0, pT1, pTup2, pT3, pNeg1, if_true, p1, p2, p3, p4, p5, p6, p7, c1, q1, q2, c2, q3, q4]
  rw [hz]
  exact trunc_app (below_bl ..)
end K03
set_option Elab.async false
set_option linter.all false
set_option maxRecDepth 100000
namespace K03
open PySem PySem.Spec PyProof.Rows L2 RM
variable (cl : Cls)
structure PR (l : Ln) (ls : List Ln) (rows : List Rw) : Prop where
  ws : ∀ o ∈ l :: ls, LS o
  nn : ∀ o ∈ l :: ls, 0 ≤ o.2
  wl : ls.length + 1 ≤ 7
  ch : IsChain (l :: ls) (firstL l ls) rows
  rl : rows.length ≤ 7
abbrev R0 (l : Ln) (ls : List Ln) (rows : List Rw) : List Rw := (0, firstL l ls) :: rows
section
variable {l : Ln} {ls : List Ln} {rows : List Rw} (P : PR l ls rows)
include P
theorem PR.lb : ∀ o ∈ l :: ls, LB o := fun o ho => (P.ws o ho).lb
theorem PR.mem : ∀ r ∈ R0 l ls rows, r.2 ∈ l :: ls := chain_mem (first_best l ls) P.ch
theorem PR.nrb : ∀ r ∈ R0 l ls rows, RB r ∧ 0 ≤ r.1 := by
  have key : ∀ (rows : List Rw) (L : Ln), LB L → IsChain (l :: ls) L rows → ∀ r ∈ rows, RB r := by
    intro rows
    induction rows with
    | nil => intro _ _ _ r hr; cases hr
    | cons q rows ih =>
      intro L hL hc r hr
      have hq : RB q := by have := nextL_ob hL P.lb; rw [hc.1] at this; exact this
      rcases List.mem_cons.mp hr with rfl | hr
      · exact hq
      · exact ih q.2 hq.2 hc.2 r hr
  intro r hr
  rcases List.mem_cons.mp hr with rfl | hr
  · exact ⟨⟨⟨Nat.two_pow_pos _, Nat.one_lt_two_pow (by decide)⟩, P.lb _ (first_best l ls).1⟩, Rat.le_refl⟩
  · exact ⟨key rows _ (P.lb _ (first_best l ls).1) P.ch r hr, Rat.le_of_lt (chain_gt rows _ 0 (first_best l ls) P.ch r hr).1⟩
theorem PR.rb : ∀ r ∈ R0 l ls rows, RB r := fun r hr => (P.nrb r hr).1
theorem low_of {S : List Ln} (h1 : ∀ o ∈ S, o ∈ l :: ls) (h2 : ∀ r ∈ R0 l ls rows, r.2 ∈ S) {d : D} {s : Sto} (hd : RowOf d s (S.map dl)) : c_lowest cl [d] s = .ok (envD (R0 l ls rows)) s := by
  cases S with
  | nil => exact absurd (h2 (0, firstL l ls) List.mem_cons_self) (by simp)
  | cons y ys =>
    have hf : firstL y ys = firstL l ls := first_sub h1 (h2 (0, firstL l ls) List.mem_cons_self)
    have hc := chain_sub h1 rows (firstL l ls) P.ch fun r hr => h2 r (List.mem_cons_of_mem _ hr)
    rw [← hf] at hc
    have := c_lw cl (fun o ho => P.lb o (h1 o ho)) hd hc (by have := P.rl; unfold big; omega)
    rw [this, hf]
theorem ie_R (s : Sto) : c_is_envelope cl [envD (R0 l ls rows)] s = .ok (.bl true) s := by
  rw [c_ie cl P.rb (by have := P.rl; unfold big; omega), chain_env (first_best l ls) P.ch P.nn]
omit P in
theorem itup (xs : List D) (s : Sto) : fList [.tup xs] s = .ok (.lst s.length) (s ++ [xs]) := rfl
theorem ta {b q c : Nat} {s : Sto} (h : Bag b q (c + 14) s) (o0 o2 o3 : Option D) (rest : Slo) : ∃ s', (mOrT (mTru (mOp2 pNe (mVar 5) (mOpN (c_law_lowest cl) (mCons (mVar 4) (mNil))))) (mOrT (mTru (mOp2 pIsNot (mOpN (c_is_envelope cl) (mCons (mVar 5) (mNil))) (mC (.bl true)))) (mTru (mOp2 pNe (mOpN (c_lowest cl) (mCons (mOpN fTuple (mCons (mOpN (c_law_mixed cl) (mCons (mVar 1) (mCons (mOp2 pAdd (mOpN fList (mCons (mVar 4) (mNil))) (mOpN fList (mCons (mVar 4) (mNil)))) (mNil)))) (mNil))) (mNil))) (mVar 5))))) (o0 :: some (.lst b) :: o2 :: o3 :: some (LD (l :: ls)) :: some (envD (R0 l ls rows)) :: rest) s = .ok false s' ∧ Bag b q c s' ∧ OnlyL b s s' := by
  have hw := P.wl
  have e1 := l_low cl P.ws (by omega) P.ch s
  have e2 : fList [LD (l :: ls)] s = .ok (.lst s.length) (s ++ [(l :: ls).map dl]) := rfl
  have e3 : fList [LD (l :: ls)] (s ++ [(l :: ls).map dl]) = .ok (.lst (s ++ [(l :: ls).map dl]).length) (s ++ [(l :: ls).map dl] ++ [(l :: ls).map dl]) := rfl
  generalize h1 : s ++ [(l :: ls).map dl] = u1 at e2 e3
  generalize h2 : u1 ++ [(l :: ls).map dl] = u2 at e3
  have e4 : pAdd (.lst s.length) (.lst u1.length) u2 = .ok (.lst u2.length) (u2 ++ [(l :: ls).map dl ++ (l :: ls).map dl]) := catL (by rw [← h2, ← h1, List.append_assoc]; exact mid ..) (by rw [← h2]; simp) (by simp; unfold big; omega)
  generalize h3 : u2 ++ [(l :: ls).map dl ++ (l :: ls).map dl] = u3 at e4
  have hu : ∃ t, u3 = s ++ t := ⟨_, by rw [← h3, ← h2, ← h1, List.append_assoc, List.append_assoc]⟩
  obtain ⟨t, hu⟩ := hu
  have hb := h.lt
  have B3 : Bag b q (c + (l :: ls ++ (l :: ls)).length) u3 := by
    rw [hu]
    exact (h.app t).weak (by simp; omega)
  have g3 : u3[u2.length]? = some ((l :: ls ++ (l :: ls)).map dl) := by rw [← h3, List.map_append]; simp
  have hb2 : u2.length ≠ b := by rw [← h2, ← h1]; simp; omega
  obtain ⟨ys, s', e5, g5, hy, hl, B5, O5⟩ := l_mixed cl B3 g3 hb2 (by simp; omega)
  have hy' : ∀ x, x ∈ ys ↔ x ∈ l :: ls := fun x => (hy x).trans (List.mem_append.trans or_self_iff)
  have e6 : fTuple [.lst u3.length] s' = .ok (.tup (ys.map dl)) s' := by simp only [fTuple, itemsOf, g5]
  have e7 := low_of cl P (S := ys) (fun o ho => (hy' o).mp ho) (fun r hr => (hy' _).mpr (P.mem r hr)) (d := .tup (ys.map dl)) (s := s') (.inl rfl)
  refine ⟨s', ?_, B5, (by rw [hu] at O5; exact (OnlyL.app b s t).trans O5)⟩
  have nt := fun s => pNe_t (pl_env 35 (R0 l ls rows)) s
  have hi := ie_R cl P
  simp only [mSeq, mRet, mNx, mOpN, mCons, mNil, mOp2, mOp1, mVar, mC, mTru, mIf, mAndT, mOrT, mNotT, mAnd, mOr, mIfS, mAsg, mPar, bindP, bindPs, fin, Res.bind_ok, Res.bind_exc, Res.bind_bad, Res.st_ok, Res.st_exc, Res.st_bad, List.length_cons, List.length_nil, List.map_cons, List.map_nil, List.replicate, List.set_cons_zero, List.set_cons_succ, List.getElem?_cons_zero, List.getElem?_cons_succ, List.cons_append, List.nil_append, List.append_nil, e1, nt, hi, notB, e2, e3, e4, e5, e6, e7, Bool.false_eq_true, if_false, reduceIte]
theorem t_turns (s : Sto) : c_turns_of cl [envD (R0 l ls rows)] s = .ok (.tup (rows.map fun r => dq r.1)) s := c_tu cl _ (by have := P.rl; unfold big; omega) s
omit P in
theorem pl_tq {α : Type} (f : α → Rat) (xs : List α) : plain 40 (.tup (xs.map fun r => dq (f r))) = true := by
  show (xs.map fun r => dq (f r)).all (plain 39) = true
  rw [List.all_eq_true]
  intro x hx
  obtain ⟨r, _, rfl⟩ := List.mem_map.mp hx
  rfl
theorem tb {b q c : Nat} {s : Sto} (h : Bag b q c s) (o0 o2 o3 o7 o8 o9 o10 o11 o12 o13 o14 o15 o16 o17 o18 : Option D) : ∃ s', (mOrT (mTru (mOp2 pNe (mVar 6) (mOpN fTuple (mCons (mLc [8, 13] (.tp [.nm 8, .nm 13]) (mRow (mSl (mVar 5) (mPart (mC (.int 1))) (mNoPart))) (mYes) (mVar 8)) (mNil))))) (mTru (mOp2 pNe (mOpN (c_lowest cl) (mCons (mOpN fTuple (mCons (mLc [8, 13] (.tp [.nm 8, .nm 13]) (mRow (mVar 5)) (mYes) (mVar 13)) (mNil))) (mNil))) (mVar 5)))) [o0, some (.lst b), o2, o3, some (LD (l :: ls)), some (envD (R0 l ls rows)), some (.tup (rows.map fun r => dq r.1)), o7, o8, o9, o10, o11, o12, o13, o14, o15, o16, o17, o18] s = .ok false s' ∧ Bag b q c s' ∧ OnlyL b s s' := by
  have hr := P.rl
  have e1 := lc_all (vs := [8, 13]) (p := .tp [.nm 8, .nm 13]) (mi := (mRow (mSl (mVar 5) (mPart (mC (.int 1))) (mNoPart)))) (m := mVar 8) (σ := [o0, some (.lst b), o2, o3, some (LD (l :: ls)), some (envD (R0 l ls rows)), some (.tup (rows.map fun r => dq r.1)), o7, o8, o9, o10, o11, o12, o13, o14, o15, o16, o17, o18]) (s := s) (s1 := s) (chk := fun _ => True) dr (fun r => dq r.1) (xs := rows) (by simp only [mRow, mSl, mPart, mNoPart, mSeq, mRet, mNx, mOpN, mCons, mNil, mOp2, mOp1, mVar, mC, mTru, mIf, mAndT, mOrT, mNotT, mAnd, mOr, mIfS, mAsg, mPar, bindP, bindPs, fin, Res.bind_ok, Res.bind_exc, Res.bind_bad, Res.st_ok, Res.st_exc, Res.st_bad, List.length_cons, List.length_nil, List.map_cons, List.map_nil, List.replicate, List.set_cons_zero, List.set_cons_succ, List.getElem?_cons_zero, List.getElem?_cons_succ, List.cons_append, List.nil_append, List.append_nil, cut_env]; rfl) trivial (fun r _ => ⟨_, rfl, rfl⟩) (by unfold big; omega)
  have e2 : fTuple [.lst s.length] (s ++ [rows.map fun r => dq r.1]) = .ok (.tup (rows.map fun r => dq r.1)) (s ++ [rows.map fun r => dq r.1]) := by simp only [fTuple, itemsOf, get_last]
  generalize h1 : s ++ [rows.map fun r => dq r.1] = u1 at e1 e2
  have e3 := lc_all (vs := [8, 13]) (p := .tp [.nm 8, .nm 13]) (mi := (mRow (mVar 5))) (m := mVar 13) (σ := [o0, some (.lst b), o2, o3, some (LD (l :: ls)), some (envD (R0 l ls rows)), some (.tup (rows.map fun r => dq r.1)), o7, o8, o9, o10, o11, o12, o13, o14, o15, o16, o17, o18]) (s := u1) (s1 := u1) (chk := fun _ => True) dr (fun r => dl r.2) (xs := R0 l ls rows) rfl trivial (fun r _ => ⟨_, rfl, rfl⟩) (by simp; unfold big; omega)
  have e4 : fTuple [.lst u1.length] (u1 ++ [(R0 l ls rows).map fun r => dl r.2]) = .ok (.tup (((R0 l ls rows).map (·.2)).map dl)) (u1 ++ [(R0 l ls rows).map fun r => dl r.2]) := by
    simp only [fTuple, itemsOf, get_last, List.map_map]
    rfl
  have e5 := fun s => low_of cl P (S := (R0 l ls rows).map (·.2)) (fun o ho => by obtain ⟨r, hr, rfl⟩ := List.mem_map.mp ho; exact P.mem r hr) (fun r hr => List.mem_map.mpr ⟨r, hr, rfl⟩) (d := .tup (((R0 l ls rows).map (·.2)).map dl)) (s := s) (.inl rfl)
  have n1 := fun s => pNe_t (pl_tq (fun r : Rw => r.1) rows) s
  have n2 := fun s => pNe_t (pl_env 35 (R0 l ls rows)) s
  have hu : u1 ++ [(R0 l ls rows).map fun r => dl r.2] = s ++ ([rows.map fun r => dq r.1] ++ [(R0 l ls rows).map fun r => dl r.2]) := by rw [← h1, List.append_assoc]
  refine ⟨u1 ++ [(R0 l ls rows).map fun r => dl r.2], ?_, by rw [hu]; exact h.app _, by rw [hu]; exact OnlyL.app b s _⟩
  simp only [List.map_cons, List.map_nil] at e1 e2 e3 e4 e5 n1 n2 ⊢
  simp only [mSeq, mRet, mNx, mOpN, mCons, mNil, mOp2, mOp1, mVar, mC, mTru, mIf, mAndT, mOrT, mNotT, mAnd, mOr, mIfS, mAsg, mPar, bindP, bindPs, fin, Res.bind_ok, Res.bind_exc, Res.bind_bad, Res.st_ok, Res.st_exc, Res.st_bad, List.length_cons, List.length_nil, List.map_cons, List.map_nil, List.replicate, List.set_cons_zero, List.set_cons_succ, List.getElem?_cons_zero, List.getElem?_cons_succ, List.cons_append, List.nil_append, List.append_nil, e1, e2, n1, e3, e4, e5, n2, Bool.false_eq_true, if_false, reduceIte]
theorem tc {m : Rat} (hm : Sz 3000 m) (h0 : 0 ≤ m) (s : Sto) : c_value_on cl [envD (R0 l ls rows), dq m] s = .ok (dq (vmin l ls m)) s ∧ c_law_on cl [LD (l :: ls), dq m] s = .ok (dq (vmin l ls m)) s := by
  have hb := val_best (first_best l ls) P.ch h0
  refine ⟨?_, l_on cl P.lb hm (by have := P.wl; unfold big; omega) s⟩
  rw [c_vo cl P.rb hm h0, vmin_best hb]
end
end K03
set_option Elab.async false
set_option linter.all false
set_option maxRecDepth 100000
namespace K03
open PySem PySem.Spec PyProof.Rows L2 RM
variable (cl : Cls)
section
variable {l : Ln} {ls : List Ln} {rows : List Rw} (P : PR l ls rows)
theorem cutT : ∀ xs : List D, RM.cutD xs (some 1) none = xs.drop 1
  | [] => rfl
  | x :: xs => cut1 x xs
def thou : Rat := ⟨1, 1000, by decide, by decide⟩
theorem q2_ : Q9 (2 : Rat) := q9 (k := 4) z2
theorem e21 (s : Sto) : pTup [.int 2, .int 1] s = .ok (dq 2) s := rfl
theorem div2 {p : Rat} (h : Q9 p) (s : Sto) : c_law_div cl [dq p, dq 2] s = .ok (dq (p / 2)) s := l_div cl h q2_ (.inl (by decide)) s
include P
theorem td {b q c : Nat} {s : Sto} (h : Bag b q (c + 2) s) (o0 o2 o3 o7 o8 o9 o10 o11 o12 o13 o14 o15 o16 o17 o18 : Option D) : ∃ (A : List Rat) (k' : Nat) (s' : Sto), (mOp2 pAdd (mOp2 pAdd (mOpN pLst (mCons (mOpN pTup (mCons (mC (.int 0)) (mCons (mC (.int 1)) (mNil)))) (mCons (mOpN (c_law_pos cl) (mCons (mVar 1) (mCons (mC (.int 9)) (mNil)))) (mCons (mOpN pTup (mCons (mC (.int 1)) (mCons (mC (.int 1000)) (mNil)))) (mCons (mOpN pTup (mCons (mC (.int 1000)) (mCons (mC (.int 1)) (mNil)))) (mNil)))))) (mOpN fList (mCons (mVar 6) (mNil)))) (mLc [8, 16] (.tp [.nm 8, .nm 16]) (mZip (mCons (mVar 6) (mCons (mSl (mVar 6) (mPart (mC (.int 1))) (mNoPart)) (mNil)))) (mYes) (mOpN (c_law_div cl) (mCons (mOpN (c_law_add cl) (mCons (mVar 8) (mCons (mVar 16) (mNil)))) (mCons (mOpN pTup (mCons (mC (.int 2)) (mCons (mC (.int 1)) (mNil)))) (mNil)))))) [o0, some (.lst b), o2, o3, some (LD (l :: ls)), some (envD (R0 l ls rows)), some (.tup (rows.map fun r => dq r.1)), o7, o8, o9, o10, o11, o12, o13, o14, o15, o16, o17, o18] s = .ok (.lst k') s' ∧ s'[k']? = some (A.map dq) ∧ k' < s'.length ∧ k' ≠ b ∧ (∀ m ∈ A, Sz 3000 m ∧ 0 ≤ m) ∧ Bag b q c s' ∧ OnlyL b s s' := by
  have hr := P.rl
  have hb := h.lt
  obtain ⟨p, s1, e1, p1, p2, B1, O1⟩ := l_pos cl (m := 9) (c := c) h (by decide) (by decide)
  have e2 : pLst [dq 0, dq p, dq thou, dq 1000] s1 = .ok (.lst s1.length) (s1 ++ [[dq 0, dq p, dq thou, dq 1000]]) := rfl
  generalize h2 : s1 ++ [[dq 0, dq p, dq thou, dq 1000]] = u2 at e2
  have e3 : fList [.tup (rows.map fun r => dq r.1)] u2 = .ok (.lst u2.length) (u2 ++ [rows.map fun r => dq r.1]) := rfl
  generalize h3 : u2 ++ [rows.map fun r => dq r.1] = u3 at e3
  have e4 : pAdd (.lst s1.length) (.lst u2.length) u3 = .ok (.lst u3.length) (u3 ++ [[dq 0, dq p, dq thou, dq 1000] ++ rows.map fun r => dq r.1]) := catL (by rw [← h3, ← h2, List.append_assoc]; exact mid ..) (by rw [← h3]; simp) (by simp; unfold big; omega)
  generalize h4 : u3 ++ [[dq 0, dq p, dq thou, dq 1000] ++ rows.map fun r => dq r.1] = u4 at e4
  have hm : ∀ x ∈ rows, RB x ∧ 0 ≤ x.1 := fun x hx => P.nrb x (List.mem_cons_of_mem _ hx)
  have hz : zipD (rows.map fun r => dq r.1) ((rows.map fun r => dq r.1).drop 1) = (rows.zip (rows.drop 1)).map fun p => D.tup [dq p.1.1, dq p.2.1] := by
    unfold zipD
    rw [← List.map_drop, List.zipWith_map, List.zip, List.map_zipWith]
  have e5 := lc_all (vs := [8, 16]) (p := .tp [.nm 8, .nm 16]) (mi := (mZip (mCons (mVar 6) (mCons (mSl (mVar 6) (mPart (mC (.int 1))) (mNoPart)) (mNil))))) (m := (mOpN (c_law_div cl) (mCons (mOpN (c_law_add cl) (mCons (mVar 8) (mCons (mVar 16) (mNil)))) (mCons (mOpN pTup (mCons (mC (.int 2)) (mCons (mC (.int 1)) (mNil)))) (mNil))))) (σ := [o0, some (.lst b), o2, o3, some (LD (l :: ls)), some (envD (R0 l ls rows)), some (.tup (rows.map fun r => dq r.1)), o7, o8, o9, o10, o11, o12, o13, o14, o15, o16, o17, o18]) (s := u4) (s1 := u4) (chk := fun _ => True) (fun p : Rw × Rw => D.tup [dq p.1.1, dq p.2.1]) (fun p => dq ((p.1.1 + p.2.1) / 2)) (xs := rows.zip (rows.drop 1))
    (by simp only [mZip, mSl, mPart, mNoPart, mSeq, mRet, mNx, mOpN, mCons, mNil, mOp2, mOp1, mVar, mC, mTru, mIf, mAndT, mOrT, mNotT, mAnd, mOr, mIfS, mAsg, mPar, bindP, bindPs, fin, Res.bind_ok, Res.bind_exc, Res.bind_bad, Res.st_ok, Res.st_exc, Res.st_bad, List.length_cons, List.length_nil, List.map_cons, List.map_nil, List.replicate, List.set_cons_zero, List.set_cons_succ, List.getElem?_cons_zero, List.getElem?_cons_succ, List.cons_append, List.nil_append, List.append_nil, pSl, cutT]; rw [← hz]; rfl) trivial (fun p hp => ⟨_, rfl, by
      have z := List.of_mem_zip (a := p.1) (b := p.2) hp
      have r1 := (hm _ z.1).1.1
      have r2 := (hm _ (List.mem_of_mem_drop z.2)).1.1
      simp only [mSeq, mRet, mNx, mOpN, mCons, mNil, mOp2, mOp1, mVar, mC, mTru, mIf, mAndT, mOrT, mNotT, mAnd, mOr, mIfS, mAsg, mPar, bindP, bindPs, fin, Res.bind_ok, Res.bind_exc, Res.bind_bad, Res.st_ok, Res.st_exc, Res.st_bad, List.length_cons, List.length_nil, List.map_cons, List.map_nil, List.replicate, List.set_cons_zero, List.set_cons_succ, List.getElem?_cons_zero, List.getElem?_cons_succ, List.cons_append, List.nil_append, List.append_nil, wipeD, l_add cl (q9 r1) (q9 r2), e21, div2 cl (q9 (Sz.add r1 r2))]⟩) (by rw [List.length_zip]; unfold big; omega)
  generalize h5 : u4 ++ [(rows.zip (rows.drop 1)).map fun p => dq ((p.1.1 + p.2.1) / 2)] = u5 at e5
  have e6 : pAdd (.lst u3.length) (.lst u4.length) u5 = .ok (.lst u5.length) (u5 ++ [([dq 0, dq p, dq thou, dq 1000] ++ rows.map fun r => dq r.1) ++ (rows.zip (rows.drop 1)).map fun p => dq ((p.1.1 + p.2.1) / 2)]) := catL (by rw [← h5, ← h4, List.append_assoc]; exact mid ..) (by rw [← h5]; simp) (by simp; unfold big; omega)
  have hA : ([dq 0, dq p, dq thou, dq 1000] ++ rows.map fun r => dq r.1) ++ ((rows.zip (rows.drop 1)).map fun p => dq ((p.1.1 + p.2.1) / 2)) = (((([0, p, thou, 1000] : List Rat) ++ rows.map (fun r : Rw => r.1)) ++ (rows.zip (rows.drop 1)).map (fun p : Rw × Rw => (p.1.1 + p.2.1) / 2)) : List Rat).map dq := by
    simp [List.map_map, Function.comp_def]
  rw [hA] at e6
  have hu : ∃ t, u5 = s1 ++ t := ⟨_, by rw [← h5, ← h4, ← h3, ← h2, List.append_assoc, List.append_assoc, List.append_assoc]⟩
  obtain ⟨t, hu⟩ := hu
  have hl : b < s1.length := B1.lt
  have w1 : ∀ s, pTup [.int 0, .int 1] s = .ok (dq 0) s := fun _ => rfl
  have w2 : ∀ s, pTup [.int 1, .int 1000] s = .ok (dq thou) s := fun _ => rfl
  have w3 : ∀ s, pTup [.int 1000, .int 1] s = .ok (dq 1000) s := fun _ => rfl
  refine ⟨((([0, p, thou, 1000] : List Rat) ++ rows.map (fun r : Rw => r.1)) ++ (rows.zip (rows.drop 1)).map (fun p : Rw × Rw => (p.1.1 + p.2.1) / 2)), u5.length, u5 ++ [((([0, p, thou, 1000] : List Rat) ++ rows.map (fun r : Rw => r.1)) ++ (rows.zip (rows.drop 1)).map (fun p : Rw × Rw => (p.1.1 + p.2.1) / 2)).map dq], ?_, get_last .., by simp, by rw [hu]; simp; omega, ?_, (by rw [hu, List.append_assoc]; exact B1.app _), (by rw [hu, List.append_assoc]; exact O1.l.trans (OnlyL.app b s1 _))⟩
  · simp only [mSeq, mRet, mNx, mOpN, mCons, mNil, mOp2, mOp1, mVar, mC, mTru, mIf, mAndT, mOrT, mNotT, mAnd, mOr, mIfS, mAsg, mPar, bindP, bindPs, fin, Res.bind_ok, Res.bind_exc, Res.bind_bad, Res.st_ok, Res.st_exc, Res.st_bad, List.length_cons, List.length_nil, List.map_cons, List.map_nil, List.replicate, List.set_cons_zero, List.set_cons_succ, List.getElem?_cons_zero, List.getElem?_cons_succ, List.cons_append, List.nil_append, List.append_nil, w1, e1, w2, w3, e2, e3, e4, e5, e6]
  · intro m hm'
    simp only [List.mem_append, List.mem_cons, List.not_mem_nil, or_false, List.mem_map] at hm'
    rcases hm' with ((rfl | rfl | rfl | rfl) | ⟨r, hr, rfl⟩) | ⟨r, hr, rfl⟩
    · exact ⟨z0.up (by decide), Rat.le_refl⟩
    · exact ⟨p1.sz.up (by decide), p2⟩
    · exact ⟨(show Sz 10 thou from ⟨by decide, by decide⟩).up (by decide), by decide⟩
    · exact ⟨(show Sz 10 1000 from ⟨by decide, by decide⟩).up (by decide), by decide⟩
    · exact ⟨(hm r hr).1.1.up (by decide), (hm r hr).2⟩
    · have z := List.of_mem_zip (a := r.1) (b := r.2) hr
      have r1 := hm _ z.1
      have r2 := hm _ (List.mem_of_mem_drop z.2)
      refine ⟨(Sz.div (Sz.add r1.1.1 r2.1.1) z2 (by decide)).up (by decide), ?_⟩
      have a := r1.2
      have b := r2.2
      grind
/-! the value of the row -/
theorem vsz {m : Rat} {j : Nat} (hm : Sz j m) : Sz (7 + (7 + j) + 1) (vmin l ls m) := by
  have hb := bst_best l ls m
  rw [vmin_best hb]
  have hw := P.ws _ hb.1
  exact Sz.add hw.1 (Sz.mul hw.2 hm)
theorem vconc {x y : Rat} (h0 : 0 ≤ x) (h1 : 0 ≤ y) : vmin l ls x + vmin l ls y ≤ 2 * vmin l ls ((x + y) / 2) := by
  have hb := bst_best l ls ((x + y) / 2)
  have a := (vmin_spec l ls x).2 _ hb.1
  have b := (vmin_spec l ls y).2 _ hb.1
  rw [vmin_best hb]
  unfold ev at *
  grind
theorem vmono {x y : Rat} (h : x ≤ y) : vmin l ls x ≤ vmin l ls y := by
  have hb := bst_best l ls y
  have a := (vmin_spec l ls x).2 _ hb.1
  have hn := P.nn _ hb.1
  rw [vmin_best hb]
  have c : 0 ≤ (bstL l ls y).2 * (y - x) := Rat.mul_nonneg hn (by grind)
  unfold ev at *
  grind
theorem te {x y : Rat} (hx : Sm1 x) (hy : Sm1 y) (h0 : 0 ≤ x) (h1 : 0 ≤ y) (o0 o1 o2 o3 o6 o7 o8 o13 o14 o15 o16 o17 o18 : Option D) (s : Sto) : (mOrT (mTru (mOp2 pLt (mOpN (c_law_cmp cl) (mCons (mOpN (c_law_mul cl) (mCons (mOpN pTup (mCons (mC (.int 2)) (mCons (mC (.int 1)) (mNil)))) (mCons (mOpN (c_value_on cl) (mCons (mVar 5) (mCons (mOpN (c_law_div cl) (mCons (mOpN (c_law_add cl) (mCons (mVar 9) (mCons (mVar 10) (mNil)))) (mCons (mOpN pTup (mCons (mC (.int 2)) (mCons (mC (.int 1)) (mNil)))) (mNil)))) (mNil)))) (mNil)))) (mCons (mOpN (c_law_add cl) (mCons (mVar 11) (mCons (mVar 12) (mNil)))) (mNil)))) (mC (.int 0)))) (mTru (mOp2 pLt (mOp2 pMul (mOpN (c_law_cmp cl) (mCons (mVar 9) (mCons (mVar 10) (mNil)))) (mOpN (c_law_cmp cl) (mCons (mVar 11) (mCons (mVar 12) (mNil))))) (mC (.int 0))))) [o0, o1, o2, o3, some (LD (l :: ls)), some (envD (R0 l ls rows)), o6, o7, o8, some (dq x), some (dq y), some (dq (vmin l ls x)), some (dq (vmin l ls y)), o13, o14, o15, o16, o17, o18] s = .ok false s := by
  have sm := Sz.div (Sz.add hx.sz hy.sz) z2 (by decide)
  have hm0 : 0 ≤ (x + y) / 2 := by grind
  have v1 := vsz P sm
  have v2 := vsz P hx.sz
  have v3 := vsz P hy.sz
  have ev_ := fun s => (tc cl P (sm.up (j := 3000) (by decide)) hm0 s).1
  have q1 : Q9 (2 * vmin l ls ((x + y) / 2)) := q9 (Sz.mul z2 v1)
  have q2 : Q9 (vmin l ls x + vmin l ls y) := q9 (Sz.add v2 v3)
  have n1 : decide (lcmp (2 * vmin l ls ((x + y) / 2)) (vmin l ls x + vmin l ls y) < 0) = false := decide_eq_false fun z => by
    have := (lcmpL _ _).mp z
    have := vconc P h0 h1
    grind
  have s1 : Sm (lcmp x y) := Sm.of (k := 4 + 4 + 1) (sz_subI (sz_mulI hx.sz.1 (sz_den hy.sz)) (sz_mulI hy.sz.1 (sz_den hx.sz))) (by decide)
  have s2 : Sm (lcmp (vmin l ls x) (vmin l ls y)) := Sm.of (sz_subI (sz_mulI v2.1 (sz_den v3)) (sz_mulI v3.1 (sz_den v2))) (by decide)
  have n2 : decide (lcmp x y * lcmp (vmin l ls x) (vmin l ls y) < 0) = false := decide_eq_false fun z => by
    by_cases c : x ≤ y
    · have m := vmono P c
      have a : lcmp x y ≤ 0 := (cmp_le x y).mpr c
      have b : lcmp (vmin l ls x) (vmin l ls y) ≤ 0 := (cmp_le _ _).mpr m
      have := Int.mul_nonneg_of_nonpos_of_nonpos a b
      omega
    · have m := vmono P (show y ≤ x by grind)
      have a : 0 ≤ lcmp x y := by
        have := mt (lcmpL x y).mp (by grind)
        omega
      have b : 0 ≤ lcmp (vmin l ls x) (vmin l ls y) := by
        have := mt (lcmpL (vmin l ls x) (vmin l ls y)).mp (by grind)
        omega
      have := Int.mul_nonneg a b
      omega
  simp only [mSeq, mRet, mNx, mOpN, mCons, mNil, mOp2, mOp1, mVar, mC, mTru, mIf, mAndT, mOrT, mNotT, mAnd, mOr, mIfS, mAsg, mPar, bindP, bindPs, fin, Res.bind_ok, Res.bind_exc, Res.bind_bad, Res.st_ok, Res.st_exc, Res.st_bad, List.length_cons, List.length_nil, List.map_cons, List.map_nil, List.replicate, List.set_cons_zero, List.set_cons_succ, List.getElem?_cons_zero, List.getElem?_cons_succ, List.cons_append, List.nil_append, List.append_nil, e21, l_add cl (q9 hx.sz) (q9 hy.sz), div2 cl (q9 (Sz.add hx.sz hy.sz)), ev_, l_mul cl q2_ (q9 v1), l_add cl (q9 v2) (q9 v3), l_cmp cl q1 q2, l_cmp cl (q9 hx.sz) (q9 hy.sz), l_cmp cl (q9 v2) (q9 v3), pLtI, n1, n2, pMulI s1 s2, Bool.false_eq_true, if_false, reduceIte]
theorem tf {d : Ln} (hd1 : Sm1 d.1) (hd2 : Sm1 d.2) (b : Nat) (o0 o1 o2 o3 o6 o7 o8 o9 o10 o11 o12 o14 o15 o16 o17 o18 : Option D) (s : Sto) : ∃ t, (mTru (mOp2 pNe (mOpN (c_added_line cl) (mCons (mVar 5) (mCons (mVar 13) (mNil)))) (mOpN (c_lowest cl) (mCons (mOpN fTuple (mCons (mLc [17, 18] (.tp [.nm 17, .nm 18]) (mRow (mVar 4)) (mYes) (mOpN pTup (mCons (mOpN (c_law_add cl) (mCons (mVar 17) (mCons (mOp2 pIx (mVar 13) (mC (.int 0))) (mNil)))) (mCons (mOpN (c_law_add cl) (mCons (mVar 18) (mCons (mOp2 pIx (mVar 13) (mC (.int 1))) (mNil)))) (mNil))))) (mNil))) (mNil))))) [o0, o1, o2, o3, some (LD (l :: ls)), some (envD (R0 l ls rows)), o6, o7, o8, o9, o10, o11, o12, some (dl d), o14, o15, o16, o17, o18] s = .ok false (s ++ t) := by
  have hw := P.wl
  have hr := P.rl
  have hdL : LB d := ⟨hd1.sz.up (by decide), hd2.sz.up (by decide)⟩
  have e1 := c_al cl (rows := R0 l ls rows) P.rb hdL (by simp; unfold big; omega) s
  have e2 := lc_all (vs := [17, 18]) (p := .tp [.nm 17, .nm 18]) (mi := mRow (mVar 4)) (m := (mOpN pTup (mCons (mOpN (c_law_add cl) (mCons (mVar 17) (mCons (mOp2 pIx (mVar 13) (mC (.int 0))) (mNil)))) (mCons (mOpN (c_law_add cl) (mCons (mVar 18) (mCons (mOp2 pIx (mVar 13) (mC (.int 1))) (mNil)))) (mNil))))) (σ := [o0, o1, o2, o3, some (LD (l :: ls)), some (envD (R0 l ls rows)), o6, o7, o8, o9, o10, o11, o12, some (dl d), o14, o15, o16, o17, o18]) (s := s) (s1 := s) (chk := fun _ => True) dl (fun o => dl (addl d o)) (xs := l :: ls) rfl trivial (fun o ho => ⟨_, rfl, by
    have ho' := P.lb o ho
    simp only [mSeq, mRet, mNx, mOpN, mCons, mNil, mOp2, mOp1, mVar, mC, mTru, mIf, mAndT, mOrT, mNotT, mAnd, mOr, mIfS, mAsg, mPar, bindP, bindPs, fin, Res.bind_ok, Res.bind_exc, Res.bind_bad, Res.st_ok, Res.st_exc, Res.st_bad, List.length_cons, List.length_nil, List.map_cons, List.map_nil, List.replicate, List.set_cons_zero, List.set_cons_succ, List.getElem?_cons_zero, List.getElem?_cons_succ, List.cons_append, List.nil_append, List.append_nil, wipeD, dl0, dl1, l_add cl ho'.a hdL.a, l_add cl ho'.b hdL.b, pTup2]
    rfl⟩) (by simp; unfold big; omega)
  have e3 : fTuple [.lst s.length] (s ++ [(l :: ls).map fun o => dl (addl d o)]) = .ok (.tup ((addl d l :: ls.map (addl d)).map dl)) (s ++ [(l :: ls).map fun o => dl (addl d o)]) := by
    simp only [fTuple, itemsOf, get_last]
    simp [List.map_map, Function.comp_def]
  have hLB : ∀ o ∈ addl d l :: ls.map (addl d), LB o := by
    intro o ho
    rw [← List.map_cons (f := addl d)] at ho
    obtain ⟨w, hw', rfl⟩ := List.mem_map.mp ho
    have := P.ws w hw'
    exact ⟨(Sz.add this.1 hd1.sz).up (by decide), (Sz.add this.2 hd2.sz).up (by decide)⟩
  have hc := chain_add d rows _ P.ch
  rw [← first_add, List.map_cons] at hc
  have e4 := fun s => c_lw cl (d := .tup ((addl d l :: ls.map (addl d)).map dl)) (s := s) hLB (.inl rfl) hc (by rw [List.length_map]; unfold big; omega)
  have e5 : (R0 l ls rows).map (addL d) = (0, firstL (addl d l) (ls.map (addl d))) :: rows.map (addL d) := by
    rw [List.map_cons, first_add]
    rfl
  rw [e5] at e1
  have n1 := fun s => pNe_t (pl_env 35 ((0, firstL (addl d l) (ls.map (addl d))) :: rows.map (addL d))) s
  refine ⟨[(l :: ls).map fun o => dl (addl d o)], ?_⟩
  · simp only [List.map_cons] at e2 e3 e4 ⊢
    simp only [mSeq, mRet, mNx, mOpN, mCons, mNil, mOp2, mOp1, mVar, mC, mTru, mIf, mAndT, mOrT, mNotT, mAnd, mOr, mIfS, mAsg, mPar, bindP, bindPs, fin, Res.bind_ok, Res.bind_exc, Res.bind_bad, Res.st_ok, Res.st_exc, Res.st_bad, List.length_cons, List.length_nil, List.map_cons, List.map_nil, List.replicate, List.set_cons_zero, List.set_cons_succ, List.getElem?_cons_zero, List.getElem?_cons_succ, List.cons_append, List.nil_append, List.append_nil, e1, e2, e3, e4, n1]
omit P in
theorem neg12 : (D.tup [.int (-1), .int 2]) = dq ⟨-1, 2, by decide, by decide⟩ := rfl
omit P in
theorem tg (e : D) (o0 o1 o2 o3 o4 o6 o7 o8 o9 o10 o11 o12 o13 o15 o16 o17 o18 : Option D) (s : Sto) (d : D) (hd : d ∈ ([.tup [.int (-1), .int 2], .non, .int 1] : List D)) : (mNotT (mTru (mNothing cl.Nothing (mOpN (c_value_on cl) (mCons (mVar 5) (mCons (mVar 14) (mNil))))))) [o0, o1, o2, o3, o4, some e, o6, o7, o8, o9, o10, o11, o12, o13, some d, o15, o16, o17, o18] s = .ok false s := by
  have key : c_value_on cl [e, d] s = .exc cl.Nothing [] s := by
    simp only [List.mem_cons, List.not_mem_nil, or_false] at hd
    rcases hd with rfl | rfl | rfl
    · rw [neg12]
      exact c_vo_bad2 cl s (by decide)
    · exact c_vo_bad1 cl s (c_isf_no cl rfl s)
    · exact c_vo_bad1 cl s (c_isf_no cl rfl s)
  simp only [mNotT, mTru, mNothing, mSeq, mRet, mNx, mOpN, mCons, mNil, mOp2, mOp1, mVar, mC, mTru, mIf, mAndT, mOrT, mNotT, mAnd, mOr, mIfS, mAsg, mPar, bindP, bindPs, fin, Res.bind_ok, Res.bind_exc, Res.bind_bad, Res.st_ok, Res.st_exc, Res.st_bad, List.length_cons, List.length_nil, List.map_cons, List.map_nil, List.replicate, List.set_cons_zero, List.set_cons_succ, List.getElem?_cons_zero, List.getElem?_cons_succ, List.cons_append, List.nil_append, List.append_nil, key, if_true, Bool.not_true]
end
end K03
set_option Elab.async false
set_option linter.all false
set_option maxRecDepth 100000
namespace K03
open PySem PySem.Spec PyProof.Rows L2 RM
theorem seq_nx {a b : MS} {σ σ' : Slo} {s s' : Sto} (h : a σ s = .nx σ' s') : mSeq a b σ s = b σ' s' := by unfold mSeq; rw [h]
theorem ifs_nx {t : MT} {x : MS} {σ : Slo} {s s' : Sto} (h : t σ s = .ok false s') : mIfS t x mNx σ s = .nx σ s' := by unfold mIfS; rw [h]; rfl
theorem asg_nx {p : Pat} {m : ME} {d : D} {σ σ' : Slo} {s s' : Sto} (h : m σ s = .ok d s') (h2 : bindP p d σ = some σ') : mAsg p m σ s = .nx σ' s' := by unfold mAsg; rw [h, Res.st_ok, h2]
theorem for_nx {p : Pat} {mi : MI} {b : MS} {it : ItD} {σ σ' : Slo} {s s1 s' : Sto} (h : mi σ s = .ok it s1) (h2 : loopM p b it.chk it.items σ s1 = .nx σ' s') : mFor p mi b σ s = .nx σ' s' := by unfold mFor; rw [h, Res.st_ok, h2]
theorem par_nx {i j : Nat} {m : MA} {a b : D} {σ : Slo} {s s' : Sto} (h : m σ s = .ok [a, b] s') : mPar i j m σ s = .nx ((σ.set i (some a)).set j (some b)) s' := by unfold mPar; rw [h, Res.st_ok]
variable (cl : Cls)
theorem law_body {l : Ln} {ls : List Ln} {rows : List Rw} (P : PR l ls rows) {b q c : Nat} {s : Sto} (h : Bag b q (c + 30) s) (o0 o2 o3 o6 o7 o8 o9 o10 o11 o12 o13 o14 o15 o16 o17 o18 : Option D) :
    ∃ o6' o7' o8' o9' o10' o11' o12' o13' o14' s', (mSeq (mIfS (mOrT (mTru (mOp2 pNe (mVar 5) (mOpN (c_law_lowest cl) (mCons (mVar 4) (mNil))))) (mOrT (mTru (mOp2 pIsNot (mOpN (c_is_envelope cl) (mCons (mVar 5) (mNil))) (mC (.bl true)))) (mTru (mOp2 pNe (mOpN (c_lowest cl) (mCons (mOpN fTuple (mCons (mOpN (c_law_mixed cl) (mCons (mVar 1) (mCons (mOp2 pAdd (mOpN fList (mCons (mVar 4) (mNil))) (mOpN fList (mCons (mVar 4) (mNil)))) (mNil)))) (mNil))) (mNil))) (mVar 5))))) (mSeq (mRet (mC (.bl false))) (mNx)) (mNx)) (mSeq (mAsg (.nm 6) (mOpN (c_turns_of cl) (mCons (mVar 5) (mNil)))) (mSeq (mIfS (mOrT (mTru (mOp2 pNe (mVar 6) (mOpN fTuple (mCons (mLc [8, 13] (.tp [.nm 8, .nm 13]) (mRow (mSl (mVar 5) (mPart (mC (.int 1))) (mNoPart))) (mYes) (mVar 8)) (mNil))))) (mTru (mOp2 pNe (mOpN (c_lowest cl) (mCons (mOpN fTuple (mCons (mLc [8, 13] (.tp [.nm 8, .nm 13]) (mRow (mVar 5)) (mYes) (mVar 13)) (mNil))) (mNil))) (mVar 5)))) (mSeq (mRet (mC (.bl false))) (mNx)) (mNx)) (mSeq (mAsg (.nm 7) (mOp2 pAdd (mOp2 pAdd (mOpN pLst (mCons (mOpN pTup (mCons (mC (.int 0)) (mCons (mC (.int 1)) (mNil)))) (mCons (mOpN (c_law_pos cl) (mCons (mVar 1) (mCons (mC (.int 9)) (mNil)))) (mCons (mOpN pTup (mCons (mC (.int 1)) (mCons (mC (.int 1000)) (mNil)))) (mCons (mOpN pTup (mCons (mC (.int 1000)) (mCons (mC (.int 1)) (mNil)))) (mNil)))))) (mOpN fList (mCons (mVar 6) (mNil)))) (mLc [8, 16] (.tp [.nm 8, .nm 16]) (mZip (mCons (mVar 6) (mCons (mSl (mVar 6) (mPart (mC (.int 1))) (mNoPart)) (mNil)))) (mYes) (mOpN (c_law_div cl) (mCons (mOpN (c_law_add cl) (mCons (mVar 8) (mCons (mVar 16) (mNil)))) (mCons (mOpN pTup (mCons (mC (.int 2)) (mCons (mC (.int 1)) (mNil)))) (mNil))))))) (mSeq (mFor (.nm 8) (mRow (mVar 7)) (mSeq (mIfS (mTru (mOp2 pNe (mOpN (c_value_on cl) (mCons (mVar 5) (mCons (mVar 8) (mNil)))) (mOpN (c_law_on cl) (mCons (mVar 4) (mCons (mVar 8) (mNil)))))) (mSeq (mRet (mC (.bl false))) (mNx)) (mNx)) (mNx))) (mSeq (mPar 9 10 (mCons (mOpN (c_law_pos cl) (mCons (mVar 1) (mCons (mC (.int 9)) (mNil)))) (mCons (mOpN (c_law_pos cl) (mCons (mVar 1) (mCons (mC (.int 9)) (mNil)))) (mNil)))) (mSeq (mPar 11 12 (mCons (mOpN (c_value_on cl) (mCons (mVar 5) (mCons (mVar 9) (mNil)))) (mCons (mOpN (c_value_on cl) (mCons (mVar 5) (mCons (mVar 10) (mNil)))) (mNil)))) (mSeq (mIfS (mOrT (mTru (mOp2 pLt (mOpN (c_law_cmp cl) (mCons (mOpN (c_law_mul cl) (mCons (mOpN pTup (mCons (mC (.int 2)) (mCons (mC (.int 1)) (mNil)))) (mCons (mOpN (c_value_on cl) (mCons (mVar 5) (mCons (mOpN (c_law_div cl) (mCons (mOpN (c_law_add cl) (mCons (mVar 9) (mCons (mVar 10) (mNil)))) (mCons (mOpN pTup (mCons (mC (.int 2)) (mCons (mC (.int 1)) (mNil)))) (mNil)))) (mNil)))) (mNil)))) (mCons (mOpN (c_law_add cl) (mCons (mVar 11) (mCons (mVar 12) (mNil)))) (mNil)))) (mC (.int 0)))) (mTru (mOp2 pLt (mOp2 pMul (mOpN (c_law_cmp cl) (mCons (mVar 9) (mCons (mVar 10) (mNil)))) (mOpN (c_law_cmp cl) (mCons (mVar 11) (mCons (mVar 12) (mNil))))) (mC (.int 0))))) (mSeq (mRet (mC (.bl false))) (mNx)) (mNx)) (mSeq (mAsg (.nm 13) (mOpN pTup (mCons (mOpN (c_law_frac cl) (mCons (mVar 1) (mCons (mC (.int 5)) (mNil)))) (mCons (mOpN (c_law_some cl) (mCons (mVar 1) (mCons (mOpN pLst (mCons (mOpN pTup (mCons (mC (.int 0)) (mCons (mC (.int 1)) (mNil)))) (mCons (mOpN (c_law_pos cl) (mCons (mVar 1) (mCons (mC (.int 3)) (mNil)))) (mNil)))) (mNil)))) (mNil))))) (mSeq (mIfS (mTru (mOp2 pNe (mOpN (c_added_line cl) (mCons (mVar 5) (mCons (mVar 13) (mNil)))) (mOpN (c_lowest cl) (mCons (mOpN fTuple (mCons (mLc [17, 18] (.tp [.nm 17, .nm 18]) (mRow (mVar 4)) (mYes) (mOpN pTup (mCons (mOpN (c_law_add cl) (mCons (mVar 17) (mCons (mOp2 pIx (mVar 13) (mC (.int 0))) (mNil)))) (mCons (mOpN (c_law_add cl) (mCons (mVar 18) (mCons (mOp2 pIx (mVar 13) (mC (.int 1))) (mNil)))) (mNil))))) (mNil))) (mNil))))) (mSeq (mRet (mC (.bl false))) (mNx)) (mNx)) (mSeq (mFor (.nm 14) (mRow (mOpN pTup (mCons (mOpN pTup (mCons (mOp1 pNeg (mC (.int 1))) (mCons (mC (.int 2)) (mNil)))) (mCons (mC .non) (mCons (mC (.int 1)) (mNil)))))) (mSeq (mIfS (mNotT (mTru (mNothing cl.Nothing (mOpN (c_value_on cl) (mCons (mVar 5) (mCons (mVar 14) (mNil))))))) (mSeq (mRet (mC (.bl false))) (mNx)) (mNx)) (mNx))) (mNx)))))))))))) [o0, some (.lst b), o2, o3, some (LD (l :: ls)), some (envD (R0 l ls rows)), o6, o7, o8, o9, o10, o11, o12, o13, o14, o15, o16, o17, o18] s =
      .nx [o0, some (.lst b), o2, o3, some (LD (l :: ls)), some (envD (R0 l ls rows)), o6', o7', o8', o9', o10', o11', o12', o13', o14', o15, o16, o17, o18] s' ∧ Bag b q c s' ∧ OnlyL b s s' := by
  obtain ⟨s1, e1, B1, O1⟩ := ta cl P (c := c + 16) h o0 o2 o3 [o6, o7, o8, o9, o10, o11, o12, o13, o14, o15, o16, o17, o18]
  have e2 := t_turns cl P s1
  obtain ⟨s3, e3, B3, O3⟩ := tb cl P B1 o0 o2 o3 o7 o8 o9 o10 o11 o12 o13 o14 o15 o16 o17 o18
  obtain ⟨A, k', s4, e4, g4, hk4, hkb, hA, B4, O4⟩ := td cl P (c := c + 14) B3 o0 o2 o3 o7 o8 o9 o10 o11 o12 o13 o14 o15 o16 o17 o18
  obtain ⟨σ5, s5, e5, ⟨o8', rfl, hs5⟩⟩ := loop_run (p := .nm 8) (body := (mSeq (mIfS (mTru (mOp2 pNe (mOpN (c_value_on cl) (mCons (mVar 5) (mCons (mVar 8) (mNil)))) (mOpN (c_law_on cl) (mCons (mVar 4) (mCons (mVar 8) (mNil)))))) (mSeq (mRet (mC (.bl false))) (mNx)) (mNx)) (mNx))) (chk := fun s => s[k']? = some (A.map dq)) dq (fun (_ : Unit) (_ : Rat) => ())
    (fun _ σ s' => ∃ o8', σ = [o0, some (.lst b), o2, o3, some (LD (l :: ls)), some (envD (R0 l ls rows)), some (.tup (rows.map fun r => dq r.1)), some (.lst k'), o8', o9, o10, o11, o12, o13, o14, o15, o16, o17, o18] ∧ s' = s4) (fun _ _ _ r => by obtain ⟨_, _, rfl⟩ := r; exact g4) A (fun m hm _ σ s' r => by
      obtain ⟨o8', rfl, rfl⟩ := r
      obtain ⟨t1, t2⟩ := tc cl P (hA m hm).1 (hA m hm).2 s'
      have n1 : pNe (dq (vmin l ls m)) (dq (vmin l ls m)) s' = .ok (.bl false) s' := by rw [pNe_dq]; simp
      refine ⟨_, _, _, rfl, ?_, some (dq m), rfl, rfl⟩
      simp only [mSeq, mRet, mNx, mOpN, mCons, mNil, mOp2, mOp1, mVar, mC, mTru, mIf, mAndT, mOrT, mNotT, mAnd, mOr, mIfS, mAsg, mPar, bindP, bindPs, fin, Res.bind_ok, Res.bind_exc, Res.bind_bad, Res.st_ok, Res.st_exc, Res.st_bad, List.length_cons, List.length_nil, List.map_cons, List.map_nil, List.replicate, List.set_cons_zero, List.set_cons_succ, List.getElem?_cons_zero, List.getElem?_cons_succ, List.cons_append, List.nil_append, List.append_nil, t1, t2, n1, Bool.false_eq_true, if_false, reduceIte]) () _ s4 ⟨o8, rfl, rfl⟩
  rw [hs5] at e5
  obtain ⟨x, s6, e6, x1, x2, B6, O6⟩ := l_pos cl (m := 9) (c := c + 12) B4 (by decide) (by decide)
  obtain ⟨y, s7, e7, y1, y2, B7, O7⟩ := l_pos cl (m := 9) (c := c + 10) B6 (by decide) (by decide)
  have e8 := fun s => (tc cl P (x1.sz.up (j := 3000) (by decide)) x2 s).1
  have e9 := fun s => (tc cl P (y1.sz.up (j := 3000) (by decide)) y2 s).1
  have e10 := te cl P x1 y1 x2 y2 o0 (some (.lst b)) o2 o3 (some (.tup (rows.map fun r => dq r.1))) (some (.lst k')) o8' o13 o14 o15 o16 o17 o18 s7
  obtain ⟨d, s8, e11, d1, d2, d3, B8, O8⟩ := l_line cl (m := 5) (n := 3) (c := c + 5) B7 (by decide) (by decide) (by decide) (by decide) [some (.lst b)] ⟨_, rfl⟩
  obtain ⟨t, e12⟩ := tf cl P d1 d2 b o0 (some (.lst b)) o2 o3 (some (.tup (rows.map fun r => dq r.1))) (some (.lst k')) o8' (some (dq x)) (some (dq y)) (some (dq (vmin l ls x))) (some (dq (vmin l ls y))) o14 o15 o16 o17 o18 s8
  obtain ⟨σ9, s9, e13, ⟨o14', rfl, hs9⟩⟩ := loop_run (p := .nm 14) (body := (mSeq (mIfS (mNotT (mTru (mNothing cl.Nothing (mOpN (c_value_on cl) (mCons (mVar 5) (mCons (mVar 14) (mNil))))))) (mSeq (mRet (mC (.bl false))) (mNx)) (mNx)) (mNx))) (chk := fun _ => True) (fun d : D => d) (fun (_ : Unit) (_ : D) => ())
    (fun _ σ s' => ∃ o14', σ = [o0, some (.lst b), o2, o3, some (LD (l :: ls)), some (envD (R0 l ls rows)), some (.tup (rows.map fun r => dq r.1)), some (.lst k'), o8', some (dq x), some (dq y), some (dq (vmin l ls x)), some (dq (vmin l ls y)), some (dl d), o14', o15, o16, o17, o18] ∧ s' = s8 ++ t) (fun _ _ _ r => trivial) [.tup [.int (-1), .int 2], .non, .int 1] (fun m hm _ σ s' r => by
      obtain ⟨o14', rfl, rfl⟩ := r
      exact ⟨_, _, _, rfl, (seq_nx (ifs_nx (tg cl _ _ _ _ _ _ _ _ _ _ _ _ _ _ _ _ _ _ _ m hm))).trans rfl, some m, rfl, rfl⟩) () _ (s8 ++ t) ⟨o14, rfl, rfl⟩
  rw [hs9] at e13
  refine ⟨some (.tup (rows.map fun r => dq r.1)), some (.lst k'), o8', some (dq x), some (dq y), some (dq (vmin l ls x)), some (dq (vmin l ls y)), some (dl d), o14', s8 ++ t, ?_, (B8.weak (by omega)).app t, ((((((O1.trans O3).trans O4).trans O6.l).trans O7.l).trans O8).trans (OnlyL.app b s8 t))⟩
  refine (seq_nx (ifs_nx e1)).trans ?_
  refine (seq_nx (asg_nx (d := .tup (rows.map fun r => dq r.1)) (s' := s1) (by simp only [mSeq, mRet, mNx, mOpN, mCons, mNil, mOp2, mOp1, mVar, mC, mTru, mIf, mAndT, mOrT, mNotT, mAnd, mOr, mIfS, mAsg, mPar, bindP, bindPs, fin, Res.bind_ok, Res.bind_exc, Res.bind_bad, Res.st_ok, Res.st_exc, Res.st_bad, List.length_cons, List.length_nil, List.map_cons, List.map_nil, List.replicate, List.set_cons_zero, List.set_cons_succ, List.getElem?_cons_zero, List.getElem?_cons_succ, List.cons_append, List.nil_append, List.append_nil, e2]) rfl)).trans ?_
  refine (seq_nx (ifs_nx e3)).trans ?_
  refine (seq_nx (asg_nx e4 rfl)).trans ?_
  refine (seq_nx (for_nx (it := ⟨A.map dq, fun s => s[k']? = some (A.map dq)⟩) (s1 := s4) (by simp only [mRow, mSeq, mRet, mNx, mOpN, mCons, mNil, mOp2, mOp1, mVar, mC, mTru, mIf, mAndT, mOrT, mNotT, mAnd, mOr, mIfS, mAsg, mPar, bindP, bindPs, fin, Res.bind_ok, Res.bind_exc, Res.bind_bad, Res.st_ok, Res.st_exc, Res.st_bad, List.length_cons, List.length_nil, List.map_cons, List.map_nil, List.replicate, List.set_cons_zero, List.set_cons_succ, List.getElem?_cons_zero, List.getElem?_cons_succ, List.cons_append, List.nil_append, List.append_nil, rowIt, g4]) e5)).trans ?_
  refine (seq_nx (par_nx (a := dq x) (b := dq y) (s' := s7) (by simp only [mSeq, mRet, mNx, mOpN, mCons, mNil, mOp2, mOp1, mVar, mC, mTru, mIf, mAndT, mOrT, mNotT, mAnd, mOr, mIfS, mAsg, mPar, bindP, bindPs, fin, Res.bind_ok, Res.bind_exc, Res.bind_bad, Res.st_ok, Res.st_exc, Res.st_bad, List.length_cons, List.length_nil, List.map_cons, List.map_nil, List.replicate, List.set_cons_zero, List.set_cons_succ, List.getElem?_cons_zero, List.getElem?_cons_succ, List.cons_append, List.nil_append, List.append_nil, e6, e7]))).trans ?_
  refine (seq_nx (par_nx (a := dq (vmin l ls x)) (b := dq (vmin l ls y)) (s' := s7) (by simp only [mSeq, mRet, mNx, mOpN, mCons, mNil, mOp2, mOp1, mVar, mC, mTru, mIf, mAndT, mOrT, mNotT, mAnd, mOr, mIfS, mAsg, mPar, bindP, bindPs, fin, Res.bind_ok, Res.bind_exc, Res.bind_bad, Res.st_ok, Res.st_exc, Res.st_bad, List.length_cons, List.length_nil, List.map_cons, List.map_nil, List.replicate, List.set_cons_zero, List.set_cons_succ, List.getElem?_cons_zero, List.getElem?_cons_succ, List.cons_append, List.nil_append, List.append_nil, e8, e9]))).trans ?_
  refine (seq_nx (ifs_nx e10)).trans ?_
  refine (seq_nx (asg_nx (d := dl d) (s' := s8) (by simp only [mSeq, mRet, mNx, mOpN, mCons, mNil, mOp2, mOp1, mVar, mC, mTru, mIf, mAndT, mOrT, mNotT, mAnd, mOr, mIfS, mAsg, mPar, bindP, bindPs, fin, Res.bind_ok, Res.bind_exc, Res.bind_bad, Res.st_ok, Res.st_exc, Res.st_bad, List.length_cons, List.length_nil, List.map_cons, List.map_nil, List.replicate, List.set_cons_zero, List.set_cons_succ, List.getElem?_cons_zero, List.getElem?_cons_succ, List.cons_append, List.nil_append, List.append_nil] at e11 ⊢; exact e11) rfl)).trans ?_
  refine (seq_nx (ifs_nx e12)).trans ?_
  refine (seq_nx (for_nx (it := ⟨[.tup [.int (-1), .int 2], .non, .int 1], fun _ => True⟩) (s1 := s8 ++ t) (by simp only [mRow, mSeq, mRet, mNx, mOpN, mCons, mNil, mOp2, mOp1, mVar, mC, mTru, mIf, mAndT, mOrT, mNotT, mAnd, mOr, mIfS, mAsg, mPar, bindP, bindPs, fin, Res.bind_ok, Res.bind_exc, Res.bind_bad, Res.st_ok, Res.st_exc, Res.st_bad, List.length_cons, List.length_nil, List.map_cons, List.map_nil, List.replicate, List.set_cons_zero, List.set_cons_succ, List.getElem?_cons_zero, List.getElem?_cons_succ, List.cons_append, List.nil_append, List.append_nil, pNeg1, pTup2, pT3]; rfl) (by simpa using e13))).trans ?_
  rfl
end K03
set_option Elab.async false
set_option linter.all false
set_option maxRecDepth 100000
namespace K03
open PySem PySem.Spec PyProof.Rows L2 RM
variable (cl : Cls)
theorem lc_step {p : Pat} {chk : Sto → Prop} {m : ME} {σ σ1 : Slo} {s s' : Sto} {d y : D} {ds acc : List D} (hs : chk s) (e1 : bindP p d σ = some σ1) (e2 : m σ1 s = .ok y s') (hl : acc.length < big) : lcM p chk mYes m σ (d :: ds) acc s = lcM p chk mYes m σ ds (acc ++ [y]) s' := by
  conv => lhs; unfold lcM
  rw [if_pos hs, e1]
  show (noX (m σ1 s)).bind _ = _
  rw [e2]
  show (if acc.length < big then _ else _) = _
  rw [if_pos hl]
theorem lc_two {vs : List Nat} {p : Pat} {mi : MI} {m : ME} {σ σ1 σ2 : Slo} {s s1 s2 : Sto} {d0 d1 y0 y1 : D} (h1 : mi σ s = .ok ⟨[d0, d1], fun _ => True⟩ s) (b0 : bindP p d0 (wipeD σ vs) = some σ1) (m0 : m σ1 s = .ok y0 s1) (b1 : bindP p d1 (wipeD σ vs) = some σ2) (m1 : m σ2 s1 = .ok y1 s2) :
    mLc vs p mi mYes m σ s = .ok (.lst s2.length) (s2 ++ [[y0, y1]]) := by
  unfold mLc
  rw [h1, Res.bind_ok]
  have e : lcM p (fun _ => True) mYes m (wipeD σ vs) [d0, d1] [] s = .ok [y0, y1] s2 := by
    rw [lc_step (chk := fun _ => True) trivial b0 m0 (show ([] : List D).length < big by show 0 < big; decide), lc_step (chk := fun _ => True) trivial b1 m1 (show ([] ++ [y0] : List D).length < big by show 1 < big; decide)]
    unfold lcM
    exact if_pos trivial
  simp only [e, Res.bind_ok]
theorem pr_of {l : Ln} {ls : List Ln} (h : ∀ o ∈ l :: ls, LS o ∧ 0 ≤ o.2) (hl : ls.length + 1 ≤ 7) : ∃ rows, PR l ls rows := by
  have hlen : ((l :: ls).filter fun o => decide (o.2 < (firstL l ls).2)).length ≤ 7 := Nat.le_trans (List.length_filter_le ..) hl
  obtain ⟨rows, hc, hr⟩ := chain_ex (l :: ls) 7 (firstL l ls) hlen
  exact ⟨rows, fun o ho => (h o ho).1, fun o ho => (h o ho).2, hl, hc, hr⟩
theorem lix1 {i : Nat} {s : Sto} {x y : D} {xs : List D} (h : s[i]? = some (x :: y :: xs)) : pIx (.lst i) (.int 1) s = .ok y s := by
  have : L2.atI (x :: y :: xs) 1 = some y := by
    unfold L2.atI L2.ixN
    rw [if_pos (by decide), if_pos (by simp; omega)]
    rfl
  simp only [pIx, h, this]
theorem catT {xs ys : List D} (h : xs.length + ys.length ≤ big) (s : Sto) : pAdd (.tup xs) (.tup ys) s = .ok (.tup (xs ++ ys)) s := by
  show por pCatT pCatS _ _ s = _
  unfold por pCatT
  simp only []
  rw [if_pos h]
theorem val_mem {l : Ln} {ls : List Ln} {rows : List Rw} (P : PR l ls rows) {m : Rat} {b : Ln} (h0 : 0 ≤ m) (hb : Best (l :: ls) m b) : ∃ r ∈ R0 l ls rows, r.2 = b := by
  have hv := val_best (first_best l ls) P.ch h0
  have e := hv.uniq hb hb.1 hv.1
  rw [← e]
  rcases pick_mem (p := m) (R0 l ls rows) (firstL l ls) with h | ⟨r, hr, h⟩
  · exact ⟨(0, firstL l ls), List.mem_cons_self, h.symm⟩
  · exact ⟨r, hr, h.symm⟩
theorem tz {l0 l1 : Ln} {ls0 ls1 : List Ln} {rw0 rw1 : List Rw} (P0 : PR l0 ls0 rw0) (P1 : PR l1 ls1 rw1) {k2 k3 : Nat} {s : Sto} (h2 : s[k2]? = some [LD (l0 :: ls0), LD (l1 :: ls1)]) (h3 : s[k3]? = some [envD (R0 l0 ls0 rw0), envD (R0 l1 ls1 rw1)]) (o0 o1 : Option D) (rest : Slo) :
    (mOrT (mTru (mOp2 pNe (mOpN (c_least_of_two cl) (mCons (mOp2 pIx (mVar 3) (mC (.int 0))) (mCons (mOp2 pIx (mVar 3) (mC (.int 1))) (mNil)))) (mOpN (c_law_lowest cl) (mCons (mOp2 pAdd (mOp2 pIx (mVar 2) (mC (.int 0))) (mOp2 pIx (mVar 2) (mC (.int 1)))) (mNil))))) (mTru (mOp2 pNe (mOpN (c_least_of_two cl) (mCons (mOp2 pIx (mVar 3) (mC (.int 0))) (mCons (mOp2 pIx (mVar 3) (mC (.int 0))) (mNil)))) (mOp2 pIx (mVar 3) (mC (.int 0)))))) (o0 :: o1 :: some (.lst k2) :: some (.lst k3) :: rest) s = .ok false s := by
  have w0 := P0.wl
  have w1 := P1.wl
  have q0 := P0.rl
  have q1 := P1.rl
  have hW : ∀ o ∈ l0 :: (ls0 ++ l1 :: ls1), LS o := by
    intro o ho
    rw [← List.cons_append] at ho
    rcases List.mem_append.mp ho with ho | ho
    · exact P0.ws o ho
    · exact P1.ws o ho
  have hlen : ((l0 :: (ls0 ++ l1 :: ls1)).filter fun o => decide (o.2 < (firstL l0 (ls0 ++ l1 :: ls1)).2)).length ≤ 14 := Nat.le_trans (List.length_filter_le ..) (by simp; omega)
  obtain ⟨rows, hc, hr⟩ := chain_ex (l0 :: (ls0 ++ l1 :: ls1)) 14 (firstL l0 (ls0 ++ l1 :: ls1)) hlen
  have fb := first_best l0 (ls0 ++ l1 :: ls1)
  have hin : ∀ r ∈ (0, firstL l0 (ls0 ++ l1 :: ls1)) :: rows, 0 ≤ r.1 ∧ Best (l0 :: (ls0 ++ l1 :: ls1)) r.1 r.2 := by
    intro r hr
    rcases List.mem_cons.mp hr with rfl | hr
    · exact ⟨Rat.le_refl, fb⟩
    · have := chain_gt rows _ 0 fb hc r hr
      exact ⟨Rat.le_of_lt this.1, this.2⟩
  have e1 := l_low cl hW (by simp; omega) hc s
  let S := firstL l0 ls0 :: (rw0.map (·.2) ++ (R0 l1 ls1 rw1).map (·.2))
  have hS : (R0 l0 ls0 rw0).map (·.2) ++ (R0 l1 ls1 rw1).map (·.2) = S := rfl
  have hs1 : ∀ o ∈ S, o ∈ l0 :: (ls0 ++ l1 :: ls1) := by
    intro o ho
    rw [← hS] at ho
    rw [← List.cons_append]
    rcases List.mem_append.mp ho with ho | ho
    · obtain ⟨r, hr, rfl⟩ := List.mem_map.mp ho
      exact List.mem_append_left _ (P0.mem r hr)
    · obtain ⟨r, hr, rfl⟩ := List.mem_map.mp ho
      exact List.mem_append_right _ (P1.mem r hr)
  have hs2 : ∀ r ∈ (0, firstL l0 (ls0 ++ l1 :: ls1)) :: rows, r.2 ∈ S := by
    intro r hr
    obtain ⟨h0, hb⟩ := hin r hr
    have hm : r.2 ∈ (l0 :: ls0) ++ (l1 :: ls1) := hb.1
    rw [← hS]
    rcases List.mem_append.mp hm with hm | hm
    · obtain ⟨z, hz, e⟩ := val_mem P0 h0 (hb.sub (fun o ho => by rw [← List.cons_append]; exact List.mem_append_left _ ho) hm)
      exact List.mem_append_left _ (List.mem_map.mpr ⟨z, hz, e⟩)
    · obtain ⟨z, hz, e⟩ := val_mem P1 h0 (hb.sub (fun o ho => by rw [← List.cons_append]; exact List.mem_append_right _ ho) hm)
      exact List.mem_append_right _ (List.mem_map.mpr ⟨z, hz, e⟩)
  have hf := first_sub (y := firstL l0 ls0) (ys := rw0.map (·.2) ++ (R0 l1 ls1 rw1).map (·.2)) hs1 (hs2 (0, firstL l0 (ls0 ++ l1 :: ls1)) List.mem_cons_self)
  have hc' := chain_sub hs1 rows _ hc fun r hr => hs2 r (List.mem_cons_of_mem _ hr)
  rw [← hf] at hc'
  have e2 := c_lt cl (r1 := R0 l0 ls0 rw0) (r2 := R0 l1 ls1 rw1) hS (fun o ho => (hW o (hs1 o ho)).lb) hc' (by unfold big; omega) (by simp; unfold big; omega) s
  rw [hf] at e2
  let T := firstL l0 ls0 :: (rw0.map (·.2) ++ (R0 l0 ls0 rw0).map (·.2))
  have hT : (R0 l0 ls0 rw0).map (·.2) ++ (R0 l0 ls0 rw0).map (·.2) = T := rfl
  have ht1 : ∀ o ∈ T, o ∈ l0 :: ls0 := by
    intro o ho
    rw [← hT] at ho
    rcases List.mem_append.mp ho with ho | ho <;>
    · obtain ⟨r, hr, rfl⟩ := List.mem_map.mp ho
      exact P0.mem r hr
  have ht2 : ∀ r ∈ R0 l0 ls0 rw0, r.2 ∈ T := fun r hr => by
    rw [← hT]
    exact List.mem_append_left _ (List.mem_map.mpr ⟨r, hr, rfl⟩)
  have hf2 := first_sub (y := firstL l0 ls0) (ys := rw0.map (·.2) ++ (R0 l0 ls0 rw0).map (·.2)) ht1 (ht2 (0, firstL l0 ls0) List.mem_cons_self)
  have hc2 := chain_sub ht1 rw0 _ P0.ch fun r hr => ht2 r (List.mem_cons_of_mem _ hr)
  rw [← hf2] at hc2
  have e3 := c_lt cl (r1 := R0 l0 ls0 rw0) (r2 := R0 l0 ls0 rw0) hT (fun o ho => P0.lb o (ht1 o ho)) hc2 (by unfold big; omega) (by simp; unfold big; omega) s
  rw [hf2] at e3
  have e4 : pAdd (LD (l0 :: ls0)) (LD (l1 :: ls1)) s = .ok (LD (l0 :: (ls0 ++ l1 :: ls1))) s := by
    have := catT (xs := (l0 :: ls0).map dl) (ys := (l1 :: ls1).map dl) (by simp; unfold big; omega) s
    rw [← List.map_append] at this
    exact this
  have n1 := fun s => pNe_t (pl_env 35 ((0, firstL l0 (ls0 ++ l1 :: ls1)) :: rows)) s
  have n2 := fun s => pNe_t (pl_env 35 (R0 l0 ls0 rw0)) s
  simp only [mSeq, mRet, mNx, mOpN, mCons, mNil, mOp2, mOp1, mVar, mC, mTru, mIf, mAndT, mOrT, mNotT, mAnd, mOr, mIfS, mAsg, mPar, bindP, bindPs, fin, Res.bind_ok, Res.bind_exc, Res.bind_bad, Res.st_ok, Res.st_exc, Res.st_bad, List.length_cons, List.length_nil, List.map_cons, List.map_nil, List.replicate, List.set_cons_zero, List.set_cons_succ, List.getElem?_cons_zero, List.getElem?_cons_succ, List.cons_append, List.nil_append, List.append_nil, lix0 h3, lix1 h3, lix0 h2, lix1 h2, e4, e1, e2, e3, n1, n2, Bool.false_eq_true, if_false, reduceIte]
theorem trunc_some (d : D) (s s' : Sto) : ∃ s2, trunc s (.ok d s') = .ok d s2 := by
  unfold trunc
  simp only []
  split
  · exact ⟨_, rfl⟩
  · exact ⟨_, rfl⟩
abbrev It3 := Ln × List Ln × List Rw
theorem law_run {d : D} {s : Sto} {ns : List Int} (h : ns.length ≤ 63) (hd : d = .ro (ns.map .int) ∨ ∃ k, d = .lst k ∧ s[k]? = some (ns.map .int)) : ∃ s', c_law cl [d] s = .ok (.bl true) s' := by
  obtain ⟨s1, e1, B1⟩ := l_bag cl h hd
  generalize hb : s.length + 2 = b at e1 B1
  generalize hq : s.length + 1 = q at B1
  obtain ⟨l0, ls0, s2, e2, w0, n0, B2, O2⟩ := l_lines cl (c := 900000 - 40) B1
  obtain ⟨l1, ls1, s3, e3, w1, n1, B3, O3⟩ := l_lines cl (c := 900000 - 80) B2
  obtain ⟨rw0, P0⟩ := pr_of w0 n0
  obtain ⟨rw1, P1⟩ := pr_of w1 n1
  have f1 : ((mLc [15] (.nm 15) (mRng1 (mCons (mC (.int 2)) (mNil))) (mYes) (mOpN (c_law_some_lines cl) (mCons (mVar 1) (mCons (mC (.int 6)) (mNil)))))) [some d, some (.lst b), none, none, none, none, none, none, none, none, none, none, none, none, none, none, none, none, none] s1 = .ok (.lst s3.length) (s3 ++ [[LD (l0 :: ls0), LD (l1 :: ls1)]]) :=
    lc_two (d0 := .int 0) (d1 := .int 1) (s1 := s2) (s2 := s3) (y0 := LD (l0 :: ls0)) (y1 := LD (l1 :: ls1)) rfl rfl (by simp only [mSeq, mRet, mNx, mOpN, mCons, mNil, mOp2, mOp1, mVar, mC, mTru, mIf, mAndT, mOrT, mNotT, mAnd, mOr, mIfS, mAsg, mPar, bindP, bindPs, fin, Res.bind_ok, Res.bind_exc, Res.bind_bad, Res.st_ok, Res.st_exc, Res.st_bad, List.length_cons, List.length_nil, List.map_cons, List.map_nil, List.replicate, List.set_cons_zero, List.set_cons_succ, List.getElem?_cons_zero, List.getElem?_cons_succ, List.cons_append, List.nil_append, List.append_nil, wipeD, e2]) rfl (by simp only [mSeq, mRet, mNx, mOpN, mCons, mNil, mOp2, mOp1, mVar, mC, mTru, mIf, mAndT, mOrT, mNotT, mAnd, mOr, mIfS, mAsg, mPar, bindP, bindPs, fin, Res.bind_ok, Res.bind_exc, Res.bind_bad, Res.st_ok, Res.st_exc, Res.st_bad, List.length_cons, List.length_nil, List.map_cons, List.map_nil, List.replicate, List.set_cons_zero, List.set_cons_succ, List.getElem?_cons_zero, List.getElem?_cons_succ, List.cons_append, List.nil_append, List.append_nil, wipeD, e3])
  have B4 := B3.app [[LD (l0 :: ls0), LD (l1 :: ls1)]]
  have g4 : (s3 ++ [[LD (l0 :: ls0), LD (l1 :: ls1)]])[s3.length]? = some [LD (l0 :: ls0), LD (l1 :: ls1)] := get_last ..
  have hb3 : b < s3.length := B3.lt
  have r4 : rowIt (.lst s3.length) (s3 ++ [[LD (l0 :: ls0), LD (l1 :: ls1)]]) = .ok ⟨[LD (l0 :: ls0), LD (l1 :: ls1)], fun s => s[s3.length]? = some [LD (l0 :: ls0), LD (l1 :: ls1)]⟩ (s3 ++ [[LD (l0 :: ls0), LD (l1 :: ls1)]]) := by simp only [rowIt, g4]
  generalize hk2 : s3.length = k2 at *
  generalize h4 : s3 ++ [[LD (l0 :: ls0), LD (l1 :: ls1)]] = s4 at *
  have hk24 : k2 < s4.length := (List.getElem?_eq_some_iff.mp g4).1
  have f2 := lc_all (vs := [4]) (p := .nm 4) (mi := (mRow (mVar 2))) (m := (mOpN (c_lowest cl) (mCons (mVar 4) (mNil)))) (σ := [some d, some (.lst b), some (.lst k2), none, none, none, none, none, none, none, none, none, none, none, none, none, none, none, none]) (s := s4) (s1 := s4) (chk := fun s => s[k2]? = some [LD (l0 :: ls0), LD (l1 :: ls1)]) (fun t : It3 => LD (t.1 :: t.2.1)) (fun t => envD (R0 t.1 t.2.1 t.2.2)) (xs := [(l0, ls0, rw0), (l1, ls1, rw1)])
    (by simp only [mRow, mSeq, mRet, mNx, mOpN, mCons, mNil, mOp2, mOp1, mVar, mC, mTru, mIf, mAndT, mOrT, mNotT, mAnd, mOr, mIfS, mAsg, mPar, bindP, bindPs, fin, Res.bind_ok, Res.bind_exc, Res.bind_bad, Res.st_ok, Res.st_exc, Res.st_bad, List.length_cons, List.length_nil, List.map_cons, List.map_nil, List.replicate, List.set_cons_zero, List.set_cons_succ, List.getElem?_cons_zero, List.getElem?_cons_succ, List.cons_append, List.nil_append, List.append_nil, r4]) g4 (fun t ht => ⟨_, rfl, by
      simp only [List.mem_cons, List.not_mem_nil, or_false] at ht
      rcases ht with rfl | rfl
      · simp only [mSeq, mRet, mNx, mOpN, mCons, mNil, mOp2, mOp1, mVar, mC, mTru, mIf, mAndT, mOrT, mNotT, mAnd, mOr, mIfS, mAsg, mPar, bindP, bindPs, fin, Res.bind_ok, Res.bind_exc, Res.bind_bad, Res.st_ok, Res.st_exc, Res.st_bad, List.length_cons, List.length_nil, List.map_cons, List.map_nil, List.replicate, List.set_cons_zero, List.set_cons_succ, List.getElem?_cons_zero, List.getElem?_cons_succ, List.cons_append, List.nil_append, List.append_nil, wipeD, low_of cl P0 (S := l0 :: ls0) (fun _ h => h) P0.mem (d := LD (l0 :: ls0)) (s := s4) (.inl rfl)]
      · simp only [mSeq, mRet, mNx, mOpN, mCons, mNil, mOp2, mOp1, mVar, mC, mTru, mIf, mAndT, mOrT, mNotT, mAnd, mOr, mIfS, mAsg, mPar, bindP, bindPs, fin, Res.bind_ok, Res.bind_exc, Res.bind_bad, Res.st_ok, Res.st_exc, Res.st_bad, List.length_cons, List.length_nil, List.map_cons, List.map_nil, List.replicate, List.set_cons_zero, List.set_cons_succ, List.getElem?_cons_zero, List.getElem?_cons_succ, List.cons_append, List.nil_append, List.append_nil, wipeD, low_of cl P1 (S := l1 :: ls1) (fun _ h => h) P1.mem (d := LD (l1 :: ls1)) (s := s4) (.inl rfl)]⟩) (by simp; decide)
  simp only [List.map_cons, List.map_nil] at f2
  have B5 := B4.app [[envD (R0 l0 ls0 rw0), envD (R0 l1 ls1 rw1)]]
  have g5 : (s4 ++ [[envD (R0 l0 ls0 rw0), envD (R0 l1 ls1 rw1)]])[s4.length]? = some [envD (R0 l0 ls0 rw0), envD (R0 l1 ls1 rw1)] := get_last ..
  have g5' : (s4 ++ [[envD (R0 l0 ls0 rw0), envD (R0 l1 ls1 rw1)]])[k2]? = some [LD (l0 :: ls0), LD (l1 :: ls1)] := by rw [List.getElem?_append_left hk24]; exact g4
  generalize hk3 : s4.length = k3 at *
  generalize h5 : s4 ++ [[envD (R0 l0 ls0 rw0), envD (R0 l1 ls1 rw1)]] = s5 at *
  have hk25 : k2 < s5.length := (List.getElem?_eq_some_iff.mp g5').1
  have hk35 : k3 < s5.length := (List.getElem?_eq_some_iff.mp g5).1
  obtain ⟨σ6, s6, e6, ⟨rest, rfl, _⟩, B6, O6⟩ := loop_runN (p := .tp [.nm 4, .nm 5]) (body := (mSeq (mIfS (mOrT (mTru (mOp2 pNe (mVar 5) (mOpN (c_law_lowest cl) (mCons (mVar 4) (mNil))))) (mOrT (mTru (mOp2 pIsNot (mOpN (c_is_envelope cl) (mCons (mVar 5) (mNil))) (mC (.bl true)))) (mTru (mOp2 pNe (mOpN (c_lowest cl) (mCons (mOpN fTuple (mCons (mOpN (c_law_mixed cl) (mCons (mVar 1) (mCons (mOp2 pAdd (mOpN fList (mCons (mVar 4) (mNil))) (mOpN fList (mCons (mVar 4) (mNil)))) (mNil)))) (mNil))) (mNil))) (mVar 5))))) (mSeq (mRet (mC (.bl false))) (mNx)) (mNx)) (mSeq (mAsg (.nm 6) (mOpN (c_turns_of cl) (mCons (mVar 5) (mNil)))) (mSeq (mIfS (mOrT (mTru (mOp2 pNe (mVar 6) (mOpN fTuple (mCons (mLc [8, 13] (.tp [.nm 8, .nm 13]) (mRow (mSl (mVar 5) (mPart (mC (.int 1))) (mNoPart))) (mYes) (mVar 8)) (mNil))))) (mTru (mOp2 pNe (mOpN (c_lowest cl) (mCons (mOpN fTuple (mCons (mLc [8, 13] (.tp [.nm 8, .nm 13]) (mRow (mVar 5)) (mYes) (mVar 13)) (mNil))) (mNil))) (mVar 5)))) (mSeq (mRet (mC (.bl false))) (mNx)) (mNx)) (mSeq (mAsg (.nm 7) (mOp2 pAdd (mOp2 pAdd (mOpN pLst (mCons (mOpN pTup (mCons (mC (.int 0)) (mCons (mC (.int 1)) (mNil)))) (mCons (mOpN (c_law_pos cl) (mCons (mVar 1) (mCons (mC (.int 9)) (mNil)))) (mCons (mOpN pTup (mCons (mC (.int 1)) (mCons (mC (.int 1000)) (mNil)))) (mCons (mOpN pTup (mCons (mC (.int 1000)) (mCons (mC (.int 1)) (mNil)))) (mNil)))))) (mOpN fList (mCons (mVar 6) (mNil)))) (mLc [8, 16] (.tp [.nm 8, .nm 16]) (mZip (mCons (mVar 6) (mCons (mSl (mVar 6) (mPart (mC (.int 1))) (mNoPart)) (mNil)))) (mYes) (mOpN (c_law_div cl) (mCons (mOpN (c_law_add cl) (mCons (mVar 8) (mCons (mVar 16) (mNil)))) (mCons (mOpN pTup (mCons (mC (.int 2)) (mCons (mC (.int 1)) (mNil)))) (mNil))))))) (mSeq (mFor (.nm 8) (mRow (mVar 7)) (mSeq (mIfS (mTru (mOp2 pNe (mOpN (c_value_on cl) (mCons (mVar 5) (mCons (mVar 8) (mNil)))) (mOpN (c_law_on cl) (mCons (mVar 4) (mCons (mVar 8) (mNil)))))) (mSeq (mRet (mC (.bl false))) (mNx)) (mNx)) (mNx))) (mSeq (mPar 9 10 (mCons (mOpN (c_law_pos cl) (mCons (mVar 1) (mCons (mC (.int 9)) (mNil)))) (mCons (mOpN (c_law_pos cl) (mCons (mVar 1) (mCons (mC (.int 9)) (mNil)))) (mNil)))) (mSeq (mPar 11 12 (mCons (mOpN (c_value_on cl) (mCons (mVar 5) (mCons (mVar 9) (mNil)))) (mCons (mOpN (c_value_on cl) (mCons (mVar 5) (mCons (mVar 10) (mNil)))) (mNil)))) (mSeq (mIfS (mOrT (mTru (mOp2 pLt (mOpN (c_law_cmp cl) (mCons (mOpN (c_law_mul cl) (mCons (mOpN pTup (mCons (mC (.int 2)) (mCons (mC (.int 1)) (mNil)))) (mCons (mOpN (c_value_on cl) (mCons (mVar 5) (mCons (mOpN (c_law_div cl) (mCons (mOpN (c_law_add cl) (mCons (mVar 9) (mCons (mVar 10) (mNil)))) (mCons (mOpN pTup (mCons (mC (.int 2)) (mCons (mC (.int 1)) (mNil)))) (mNil)))) (mNil)))) (mNil)))) (mCons (mOpN (c_law_add cl) (mCons (mVar 11) (mCons (mVar 12) (mNil)))) (mNil)))) (mC (.int 0)))) (mTru (mOp2 pLt (mOp2 pMul (mOpN (c_law_cmp cl) (mCons (mVar 9) (mCons (mVar 10) (mNil)))) (mOpN (c_law_cmp cl) (mCons (mVar 11) (mCons (mVar 12) (mNil))))) (mC (.int 0))))) (mSeq (mRet (mC (.bl false))) (mNx)) (mNx)) (mSeq (mAsg (.nm 13) (mOpN pTup (mCons (mOpN (c_law_frac cl) (mCons (mVar 1) (mCons (mC (.int 5)) (mNil)))) (mCons (mOpN (c_law_some cl) (mCons (mVar 1) (mCons (mOpN pLst (mCons (mOpN pTup (mCons (mC (.int 0)) (mCons (mC (.int 1)) (mNil)))) (mCons (mOpN (c_law_pos cl) (mCons (mVar 1) (mCons (mC (.int 3)) (mNil)))) (mNil)))) (mNil)))) (mNil))))) (mSeq (mIfS (mTru (mOp2 pNe (mOpN (c_added_line cl) (mCons (mVar 5) (mCons (mVar 13) (mNil)))) (mOpN (c_lowest cl) (mCons (mOpN fTuple (mCons (mLc [17, 18] (.tp [.nm 17, .nm 18]) (mRow (mVar 4)) (mYes) (mOpN pTup (mCons (mOpN (c_law_add cl) (mCons (mVar 17) (mCons (mOp2 pIx (mVar 13) (mC (.int 0))) (mNil)))) (mCons (mOpN (c_law_add cl) (mCons (mVar 18) (mCons (mOp2 pIx (mVar 13) (mC (.int 1))) (mNil)))) (mNil))))) (mNil))) (mNil))))) (mSeq (mRet (mC (.bl false))) (mNx)) (mNx)) (mSeq (mFor (.nm 14) (mRow (mOpN pTup (mCons (mOpN pTup (mCons (mOp1 pNeg (mC (.int 1))) (mCons (mC (.int 2)) (mNil)))) (mCons (mC .non) (mCons (mC (.int 1)) (mNil)))))) (mSeq (mIfS (mNotT (mTru (mNothing cl.Nothing (mOpN (c_value_on cl) (mCons (mVar 5) (mCons (mVar 14) (mNil))))))) (mSeq (mRet (mC (.bl false))) (mNx)) (mNx)) (mNx))) (mNx))))))))))))) (chk := fun s => s[k2]? = some [LD (l0 :: ls0), LD (l1 :: ls1)] ∧ s[k3]? = some [envD (R0 l0 ls0 rw0), envD (R0 l1 ls1 rw1)]) (fun t : It3 => D.tup [LD (t.1 :: t.2.1), envD (R0 t.1 t.2.1 t.2.2)]) (fun (_ : Unit) (_ : It3) => ())
    (fun _ n σ s' => (∃ o : List (Option D), σ = some d :: some (.lst b) :: some (.lst k2) :: some (.lst k3) :: o ∧ o.length = 15) ∧ Bag b q (1000 + 30 * n) s' ∧ OnlyL b s5 s') (fun _ _ _ s' r => by
      obtain ⟨_, _, O⟩ := r
      exact ⟨(O.2 k2 hk25 (by omega)).trans g5', (O.2 k3 hk35 (by omega)).trans g5⟩) [(l0, ls0, rw0), (l1, ls1, rw1)] (fun t ht _ n σ s' r => by
      obtain ⟨⟨o, rfl, ho⟩, B, O⟩ := r
      match o, ho with
      | [o4, o5, o6, o7, o8, o9, o10, o11, o12, o13, o14, o15, o16, o17, o18], _ =>
        have Pt : PR t.1 t.2.1 t.2.2 := by
          simp only [List.mem_cons, List.not_mem_nil, or_false] at ht
          rcases ht with rfl | rfl
          · exact P0
          · exact P1
        obtain ⟨a6, a7, a8, a9, a10, a11, a12, a13, a14, s7, e7, B7, O7⟩ := law_body cl Pt (c := 1000 + 30 * n) (s := s') (b := b) (q := q) (B.weak (by omega)) (some d) (some (.lst k2)) (some (.lst k3)) o6 o7 o8 o9 o10 o11 o12 o13 o14 o15 o16 o17 o18
        exact ⟨_, _, s7, rfl, e7, ⟨_, rfl, rfl⟩, B7, O.trans O7⟩) () (some d :: some (.lst b) :: some (.lst k2) :: some (.lst k3) :: List.replicate 15 none) s5 ⟨⟨_, rfl, by simp⟩, B5.weak (by simp), ⟨Nat.le_refl _, fun _ _ _ => rfl⟩⟩
  have g6 : s6[k2]? = some [LD (l0 :: ls0), LD (l1 :: ls1)] := (O6.2 k2 hk25 (by omega)).trans g5'
  have g6' : s6[k3]? = some [envD (R0 l0 ls0 rw0), envD (R0 l1 ls1 rw1)] := (O6.2 k3 hk35 (by omega)).trans g5
  have e7 := tz cl P0 P1 g6 g6' (some d) (some (.lst b)) rest
  have e8 := l_any cl (ie_R cl P0) s6
  have em : m_law cl [some d, none, none, none, none, none, none, none, none, none, none, none, none, none, none, none, none, none, none] s = .rt (.bl true) s6 := by
    unfold m_law
    refine (seq_nx (asg_nx (d := .lst b) (s' := s1) (by simp only [mSeq, mRet, mNx, mOpN, mCons, mNil, mOp2, mOp1, mVar, mC, mTru, mIf, mAndT, mOrT, mNotT, mAnd, mOr, mIfS, mAsg, mPar, bindP, bindPs, fin, Res.bind_ok, Res.bind_exc, Res.bind_bad, Res.st_ok, Res.st_exc, Res.st_bad, List.length_cons, List.length_nil, List.map_cons, List.map_nil, List.replicate, List.set_cons_zero, List.set_cons_succ, List.getElem?_cons_zero, List.getElem?_cons_succ, List.cons_append, List.nil_append, List.append_nil, e1]) rfl)).trans ?_
    refine (seq_nx (asg_nx f1 rfl)).trans ?_
    refine (seq_nx (asg_nx f2 rfl)).trans ?_
    refine (seq_nx (for_nx (it := ⟨[D.tup [LD (l0 :: ls0), envD (R0 l0 ls0 rw0)], D.tup [LD (l1 :: ls1), envD (R0 l1 ls1 rw1)]], fun s => s[k2]? = some [LD (l0 :: ls0), LD (l1 :: ls1)] ∧ s[k3]? = some [envD (R0 l0 ls0 rw0), envD (R0 l1 ls1 rw1)]⟩) (s1 := s5) (by simp only [mZip, mSeq, mRet, mNx, mOpN, mCons, mNil, mOp2, mOp1, mVar, mC, mTru, mIf, mAndT, mOrT, mNotT, mAnd, mOr, mIfS, mAsg, mPar, bindP, bindPs, fin, Res.bind_ok, Res.bind_exc, Res.bind_bad, Res.st_ok, Res.st_exc, Res.st_bad, List.length_cons, List.length_nil, List.map_cons, List.map_nil, List.replicate, List.set_cons_zero, List.set_cons_succ, List.getElem?_cons_zero, List.getElem?_cons_succ, List.cons_append, List.nil_append, List.append_nil, zipIt, g5, g5']; rfl) e6)).trans ?_
    refine (seq_nx (ifs_nx e7)).trans ?_
    simp only [mSeq, mRet, mNx, mOpN, mCons, mNil, mOp2, mOp1, mVar, mC, mTru, mIf, mAndT, mOrT, mNotT, mAnd, mOr, mIfS, mAsg, mPar, bindP, bindPs, fin, Res.bind_ok, Res.bind_exc, Res.bind_bad, Res.st_ok, Res.st_exc, Res.st_bad, List.length_cons, List.length_nil, List.map_cons, List.map_nil, List.replicate, List.set_cons_zero, List.set_cons_succ, List.getElem?_cons_zero, List.getElem?_cons_succ, List.cons_append, List.nil_append, List.append_nil, lix0 g6', e8]
  obtain ⟨s', e9⟩ := trunc_some (.bl true) s s6
  refine ⟨s', ?_⟩
  rw [← e9]
  simp only [c_law, fnM, if_true, List.length_cons, List.length_nil, List.map_cons, List.map_nil, Nat.reduceSub, List.replicate, List.cons_append, List.nil_append, em, fin]
theorem law_ok : LawOk (c_law cl) := fun ns h _ => ⟨law_run cl h (.inl rfl), law_run cl h (.inr ⟨0, rfl, rfl⟩)⟩
end K03
set_option Elab.async false
set_option linter.all false
set_option maxRecDepth 100000
open PySem PySem.W PyProof.Rows
set_option maxHeartbeats 0 in
theorem PySem.Challenge.cw_relays_k03_whole_lowest_lines_holds : PySem.Challenge.rw_relays_k03_whole_lowest_lines.Holds := by
  w_on; o_law; k_head; (case hw => w_witness2)
  k_fill
  refine LamX.walk_ofTs (l := PySem.Challenge.rw_relays_k03_whole_lowest_lines) (n := 63) (k := 11) (x := "script") (CX := fun w => L2.CX PySem.Challenge.rw_relays_k03_whole_lowest_lines.prog w) rfl (by decide) rfl ⟨rfl, by decide, by decide⟩ (fun w h Y => PySem.W.km_in_of Y) ?F (fun w H s e s' z => by obtain ⟨_, _, _, _, _, _, _, _, _, _, _, _, z⟩ := z; exact z)
  case F =>
    intro w mg fa h Y KX G hmg
    refine' K03.all_mk (fun cl => K03.law_ok cl) KX G hmg ?hP ?nP ?hC ?a_is_whole ?l_is_whole ?c_is_whole1 ?k_is_whole1 ?a_common_divisor ?l_common_divisor ?c_common_divisor1 ?k_common_divisor1 ?a_is_tuple_of ?l_is_tuple_of ?c_is_tuple_of1 ?k_is_tuple_of1 ?a_is_fraction ?l_is_fraction ?c_is_fraction1 ?k_is_fraction1 ?a_fraction ?l_fraction ?c_fraction1 ?k_fraction1 ?a_plus ?l_plus ?c_plus1 ?k_plus1 ?a_less ?l_less ?c_less1 ?k_less1 ?a_times ?l_times ?c_times1 ?k_times1 ?a_over ?l_over ?c_over1 ?k_over1 ?a_sign ?l_sign ?c_sign1 ?k_sign1 ?a_compare ?l_compare ?c_compare1 ?k_compare1 ?a_line_at ?l_line_at ?c_line_at1 ?k_line_at1 ?a_is_below ?l_is_below ?c_is_below1 ?k_is_below1 ?a_first_line ?l_first_line ?c_first_line1 ?k_first_line1 ?a_next_row ?l_next_row ?c_next_row1 ?k_next_row1 ?a_lowest ?l_lowest ?c_lowest1 ?k_lowest1 ?a_value_on ?l_value_on ?c_value_on1 ?k_value_on1 ?a_lines_of ?l_lines_of ?c_lines_of1 ?k_lines_of1 ?a_least_of_two ?l_least_of_two ?c_least_of_two1 ?k_least_of_two1 ?a_added_line ?l_added_line ?c_added_line1 ?k_added_line1 ?a_is_row ?l_is_row ?c_is_row1 ?k_is_row1 ?a_is_behind ?l_is_behind ?c_is_behind1 ?k_is_behind1 ?a_is_envelope ?l_is_envelope ?c_is_envelope1 ?k_is_envelope1 ?a_turns_of ?l_turns_of ?c_turns_of1 ?k_turns_of1 ?a_law_q ?l_law_q ?c_law_q1 ?k_law_q1 ?a_law_add ?l_law_add ?c_law_add1 ?k_law_add1 ?a_law_neg ?l_law_neg ?c_law_neg1 ?k_law_neg1 ?a_law_sub ?l_law_sub ?c_law_sub1 ?k_law_sub1 ?a_law_mul ?l_law_mul ?c_law_mul1 ?k_law_mul1 ?a_law_div ?l_law_div ?c_law_div1 ?k_law_div1 ?a_law_cmp ?l_law_cmp ?c_law_cmp1 ?k_law_cmp1 ?a_law_min ?l_law_min ?c_law_min1 ?k_law_min1 ?a_law_take ?l_law_take ?c_law_take1 ?k_law_take1 ?a_law_some ?l_law_some ?c_law_some1 ?k_law_some1 ?a_law_pos ?l_law_pos ?c_law_pos1 ?k_law_pos1 ?a_law_frac ?l_law_frac ?c_law_frac1 ?k_law_frac1 ?a_law_bag ?l_law_bag ?c_law_bag1 ?k_law_bag1 ?a_law_mixed ?l_law_mixed ?c_law_mixed1 ?k_law_mixed1 ?a_law_on ?l_law_on ?c_law_on1 ?k_law_on1 ?a_law_in_order ?l_law_in_order ?c_law_in_order1 ?k_law_in_order1 ?a_law_lowest ?l_law_lowest ?c_law_lowest1 ?k_law_lowest1 ?a_law_some_lines ?l_law_some_lines ?c_law_some_lines1 ?k_law_some_lines1 ?a_law_any_values ?l_law_any_values ?c_law_any_values1 ?k_law_any_values1 ?a_law_nothing ?l_law_nothing ?c_law_nothing1 ?k_law_nothing1 ?a_law ?l_law ?c_law1 ?k_law1 ?z_abs ?z_all ?z_bool ?z_int ?z_isinstance ?z_len ?z_list ?z_range ?z_tuple ?z_zip ?e_ZERO ?m_ZERO1 ?x_Nothing1 ?xq_Nothing ?xk_Nothing ?xb_Nothing ?xt_Nothing ?xi_Nothing ?xs_Nothing
    case a_is_whole => k_is
    case l_is_whole => k_is
    case c_is_whole1 => k_is
    case k_is_whole1 => k_is
    case a_common_divisor => k_is
    case l_common_divisor => k_is
    case c_common_divisor1 => k_is
    case k_common_divisor1 => k_is
    case a_is_tuple_of => k_is
    case l_is_tuple_of => k_is
    case c_is_tuple_of1 => k_is
    case k_is_tuple_of1 => k_is
    case a_is_fraction => k_is
    case l_is_fraction => k_is
    case c_is_fraction1 => k_is
    case k_is_fraction1 => k_is
    case a_fraction => k_is
    case l_fraction => k_is
    case c_fraction1 => k_is
    case k_fraction1 => k_is
    case a_plus => k_is
    case l_plus => k_is
    case c_plus1 => k_is
    case k_plus1 => k_is
    case a_less => k_is
    case l_less => k_is
    case c_less1 => k_is
    case k_less1 => k_is
    case a_times => k_is
    case l_times => k_is
    case c_times1 => k_is
    case k_times1 => k_is
    case a_over => k_is
    case l_over => k_is
    case c_over1 => k_is
    case k_over1 => k_is
    case a_sign => k_is
    case l_sign => k_is
    case c_sign1 => k_is
    case k_sign1 => k_is
    case a_compare => k_is
    case l_compare => k_is
    case c_compare1 => k_is
    case k_compare1 => k_is
    case a_line_at => k_is
    case l_line_at => k_is
    case c_line_at1 => k_is
    case k_line_at1 => k_is
    case a_is_below => k_is
    case l_is_below => k_is
    case c_is_below1 => k_is
    case k_is_below1 => k_is
    case a_first_line => k_is
    case l_first_line => k_is
    case c_first_line1 => k_is
    case k_first_line1 => k_is
    case a_next_row => k_is
    case l_next_row => k_is
    case c_next_row1 => k_is
    case k_next_row1 => k_is
    case a_lowest => k_is
    case l_lowest => k_is
    case c_lowest1 => k_is
    case k_lowest1 => k_is
    case a_value_on => k_is
    case l_value_on => k_is
    case c_value_on1 => k_is
    case k_value_on1 => k_is
    case a_lines_of => k_is
    case l_lines_of => k_is
    case c_lines_of1 => k_is
    case k_lines_of1 => k_is
    case a_least_of_two => k_is
    case l_least_of_two => k_is
    case c_least_of_two1 => k_is
    case k_least_of_two1 => k_is
    case a_added_line => k_is
    case l_added_line => k_is
    case c_added_line1 => k_is
    case k_added_line1 => k_is
    case a_is_row => k_is
    case l_is_row => k_is
    case c_is_row1 => k_is
    case k_is_row1 => k_is
    case a_is_behind => k_is
    case l_is_behind => k_is
    case c_is_behind1 => k_is
    case k_is_behind1 => k_is
    case a_is_envelope => k_is
    case l_is_envelope => k_is
    case c_is_envelope1 => k_is
    case k_is_envelope1 => k_is
    case a_turns_of => k_is
    case l_turns_of => k_is
    case c_turns_of1 => k_is
    case k_turns_of1 => k_is
    case a_law_q => k_is
    case l_law_q => k_is
    case c_law_q1 => k_is
    case k_law_q1 => k_is
    case a_law_add => k_is
    case l_law_add => k_is
    case c_law_add1 => k_is
    case k_law_add1 => k_is
    case a_law_neg => k_is
    case l_law_neg => k_is
    case c_law_neg1 => k_is
    case k_law_neg1 => k_is
    case a_law_sub => k_is
    case l_law_sub => k_is
    case c_law_sub1 => k_is
    case k_law_sub1 => k_is
    case a_law_mul => k_is
    case l_law_mul => k_is
    case c_law_mul1 => k_is
    case k_law_mul1 => k_is
    case a_law_div => k_is
    case l_law_div => k_is
    case c_law_div1 => k_is
    case k_law_div1 => k_is
    case a_law_cmp => k_is
    case l_law_cmp => k_is
    case c_law_cmp1 => k_is
    case k_law_cmp1 => k_is
    case a_law_min => k_is
    case l_law_min => k_is
    case c_law_min1 => k_is
    case k_law_min1 => k_is
    case a_law_take => k_is
    case l_law_take => k_is
    case c_law_take1 => k_is
    case k_law_take1 => k_is
    case a_law_some => k_is
    case l_law_some => k_is
    case c_law_some1 => k_is
    case k_law_some1 => k_is
    case a_law_pos => k_is
    case l_law_pos => k_is
    case c_law_pos1 => k_is
    case k_law_pos1 => k_is
    case a_law_frac => k_is
    case l_law_frac => k_is
    case c_law_frac1 => k_is
    case k_law_frac1 => k_is
    case a_law_bag => k_is
    case l_law_bag => k_is
    case c_law_bag1 => k_is
    case k_law_bag1 => k_is
    case a_law_mixed => k_is
    case l_law_mixed => k_is
    case c_law_mixed1 => k_is
    case k_law_mixed1 => k_is
    case a_law_on => k_is
    case l_law_on => k_is
    case c_law_on1 => k_is
    case k_law_on1 => k_is
    case a_law_in_order => k_is
    case l_law_in_order => k_is
    case c_law_in_order1 => k_is
    case k_law_in_order1 => k_is
    case a_law_lowest => k_is
    case l_law_lowest => k_is
    case c_law_lowest1 => k_is
    case k_law_lowest1 => k_is
    case a_law_some_lines => k_is
    case l_law_some_lines => k_is
    case c_law_some_lines1 => k_is
    case k_law_some_lines1 => k_is
    case a_law_any_values => k_is
    case l_law_any_values => k_is
    case c_law_any_values1 => k_is
    case k_law_any_values1 => k_is
    case a_law_nothing => k_is
    case l_law_nothing => k_is
    case c_law_nothing1 => k_is
    case k_law_nothing1 => k_is
    case a_law => k_is
    case l_law => k_is
    case c_law1 => k_is
    case k_law1 => k_is
    case z_abs => k_is
    case z_all => k_is
    case z_bool => k_is
    case z_int => k_is
    case z_isinstance => k_is
    case z_len => k_is
    case z_list => k_is
    case z_range => k_is
    case z_tuple => k_is
    case z_zip => k_is
    case e_ZERO => k_is
    case m_ZERO1 => k_is
    case x_Nothing1 => k_is
    case xq_Nothing => first | k_exc | exact rfl | kernel_rfl | decide +kernel
    case xk_Nothing => k_is
    case xb_Nothing => k_is
    case xt_Nothing => k_is
    case xi_Nothing => k_is
    case xs_Nothing => k_is
    case hP => first | exact PySem.W.km_tabs_of Y _ (List.Mem.head _)
    case nP => first | exact rfl
    case hC => first | exact PySem.W.codeHd_of_K KX (by rfl)
