import PyProof.Rows.All
import Wide.All
import OpenK.AllK
import Wide.FinOn
import HandS.ForMost
import HandS.Walk
import HandS.Zip
import HandS.Wide
import HandS.Deep
import HandS.TupLe
import HandS.TupAny
import HandS.Flow
import HandS.IsInst
import PyProof.SumWalkG
import HandS.Style
import HandS.NoneIn
import HandS.TupMul
import PySem.Challenge.RW_placekeep_k40_whole_sources_or_bars
set_option Elab.async false
set_option linter.all false
set_option maxRecDepth 100000
set_option maxHeartbeats 4000000
/-! by-value data over the hand layer -/
namespace DL
open PySem PySem.Spec PyProof.Rows L2

inductive D where
  | non | bl (b : Bool) | int (i : Int) | str (x : Str)
  | tup (xs : List D)
  | lst (xs : List D)
  | scr (ns : List Int)
  | dK (ks : List Key) (vs : List D)
  | dT (ks : List (List Key)) (vs : List D)

/-- a list that never changes: known to the object, or one of the module -/
def FzL (K : PySem.W.Frag) (H : Hp) (a : Addr) (xs : List V) : Prop :=
  SqL K H a xs ∧ ∀ H' : Hp, (∀ b o u, H b = some (.frz o u) → H' b = some (.frz o u)) → SqL K H' a xs

mutual
def Rep (K : PySem.W.Frag) (H : Hp) (E : Addr → Prop) : D → V → Prop
  | .non, v => v = .non
  | .bl b, v => v = .bl b
  | .int i, v => v = .int i
  | .str x, v => v = .str x
  | .tup ds, v => ∃ a xs, v = .ref a ∧ SqT K H a xs ∧ Reps K H E ds xs
  | .lst ds, v => ∃ a xs, v = .ref a ∧ H a = some (.lst xs) ∧ E a ∧ Reps K H E ds xs
  | .scr ns, v => ∃ a, v = .ref a ∧ FzL K H a (ns.map V.int)
  | .dK ks ds, v => ∃ a kvs, v = .ref a ∧ H a = some (.dK kvs) ∧ E a ∧ kvs.map (·.1) = ks ∧ Reps K H E ds (kvs.map (·.2))
  | .dT ks ds, v => ∃ a kvs, v = .ref a ∧ H a = some (.dT kvs) ∧ E a ∧ kvs.map (·.1) = ks ∧ Reps K H E ds (kvs.map (·.2))
def Reps (K : PySem.W.Frag) (H : Hp) (E : Addr → Prop) : List D → List V → Prop
  | [], xs => xs = []
  | d :: ds, xs => ∃ x r, xs = x :: r ∧ Rep K H E d x ∧ Reps K H E ds r
end

/-- what data lean on stands -/
structure Kp (H : Hp) (E : Addr → Prop) (H' : Hp) (E' : Addr → Prop) : Prop where
  tup : ∀ a xs, H a = some (.tup xs) → H' a = some (.tup xs)
  frz : ∀ a o u, H a = some (.frz o u) → H' a = some (.frz o u)
  ext : ∀ a o, E a → H a = some o → H' a = some o
  sub : ∀ a, E a → E' a
section
variable {K : PySem.W.Frag} {H H' H1 H2 : Hp} {E E' E1 E2 : Addr → Prop}
theorem Kp.sqT (k : Kp H E H' E') {a : Addr} {xs : List V} (h : SqT K H a xs) : SqT K H' a xs := by
  rcases h with (h | ⟨o, h⟩) | h
  · exact .inl (.inl (k.tup _ _ h))
  · exact .inl (.inr ⟨o, k.frz _ _ _ h⟩)
  · exact .inr h
theorem FzL.keep {a : Addr} {xs : List V} (h : FzL K H a xs) (k : Kp H E H' E') : FzL K H' a xs := by
  refine ⟨h.2 H' k.frz, fun H2 h2 => h.2 H2 fun b o u e => h2 b o u (k.frz b o u e)⟩
mutual
theorem Rep.keep (k : Kp H E H' E') : ∀ {d : D} {v : V}, Rep K H E d v → Rep K H' E' d v
  | .non, _, h => h
  | .bl _, _, h => h
  | .int _, _, h => h
  | .str _, _, h => h
  | .tup ds, v, h => by
    unfold Rep at h ⊢
    obtain ⟨a, xs, e, hs, hr⟩ := h
    exact ⟨a, xs, e, k.sqT hs, Reps.keep k hr⟩
  | .lst ds, v, h => by
    unfold Rep at h ⊢
    obtain ⟨a, xs, e, hs, he, hr⟩ := h
    exact ⟨a, xs, e, k.ext _ _ he hs, k.sub _ he, Reps.keep k hr⟩
  | .scr ns, v, h => by
    unfold Rep at h ⊢
    obtain ⟨a, e, hf⟩ := h
    exact ⟨a, e, hf.keep k⟩
  | .dK ks ds, v, h => by
    unfold Rep at h ⊢
    obtain ⟨a, kvs, e, hs, he, hk, hr⟩ := h
    exact ⟨a, kvs, e, k.ext _ _ he hs, k.sub _ he, hk, Reps.keep k hr⟩
  | .dT ks ds, v, h => by
    unfold Rep at h ⊢
    obtain ⟨a, kvs, e, hs, he, hk, hr⟩ := h
    exact ⟨a, kvs, e, k.ext _ _ he hs, k.sub _ he, hk, Reps.keep k hr⟩
theorem Reps.keep (k : Kp H E H' E') : ∀ {ds : List D} {xs : List V}, Reps K H E ds xs → Reps K H' E' ds xs
  | [], _, h => h
  | d :: ds, xs, h => by
    unfold Reps at h ⊢
    obtain ⟨x, r, e, h1, h2⟩ := h
    exact ⟨x, r, e, Rep.keep k h1, Reps.keep k h2⟩
end
theorem Reps.length : ∀ {ds : List D} {xs : List V}, Reps K H E ds xs → xs.length = ds.length
  | [], xs, h => by unfold Reps at h; rw [h]; rfl
  | d :: ds, xs, h => by
    unfold Reps at h
    obtain ⟨x, r, rfl, _, h2⟩ := h
    rw [List.length_cons, List.length_cons, Reps.length h2]
theorem Reps.get : ∀ {ds : List D} {xs : List V} {i : Nat} {d : D}, Reps K H E ds xs → ds[i]? = some d → ∃ x, xs[i]? = some x ∧ Rep K H E d x
  | [], _, _, _, _, e => by simp at e
  | d :: ds, xs, 0, _, h, e => by
    unfold Reps at h
    obtain ⟨x, r, rfl, h1, _⟩ := h
    simp at e
    subst e
    exact ⟨x, rfl, h1⟩
  | d :: ds, xs, i + 1, _, h, e => by
    unfold Reps at h
    obtain ⟨x, r, rfl, _, h2⟩ := h
    obtain ⟨y, e1, e2⟩ := Reps.get (i := i) h2 (by simpa using e)
    exact ⟨y, by simpa using e1, e2⟩
theorem Reps.got : ∀ {ds : List D} {xs : List V} {i : Nat} {x : V}, Reps K H E ds xs → xs[i]? = some x → ∃ d, ds[i]? = some d ∧ Rep K H E d x
  | [], xs, _, _, h, e => by unfold Reps at h; rw [h] at e; simp at e
  | d :: ds, xs, 0, _, h, e => by
    unfold Reps at h
    obtain ⟨x, r, rfl, h1, _⟩ := h
    simp at e
    subst e
    exact ⟨d, rfl, h1⟩
  | d :: ds, xs, i + 1, _, h, e => by
    unfold Reps at h
    obtain ⟨x, r, rfl, _, h2⟩ := h
    obtain ⟨y, e1, e2⟩ := Reps.got (i := i) h2 (by simpa using e)
    exact ⟨y, by simpa using e1, e2⟩
theorem Reps.append : ∀ {ds es : List D} {xs ys : List V}, Reps K H E ds xs → Reps K H E es ys → Reps K H E (ds ++ es) (xs ++ ys)
  | [], _, _, _, h, g => by unfold Reps at h; subst h; exact g
  | d :: ds, es, xs, ys, h, g => by
    unfold Reps at h
    obtain ⟨x, r, rfl, h1, h2⟩ := h
    show Reps K H E (d :: (ds ++ es)) (x :: (r ++ ys))
    unfold Reps
    exact ⟨x, r ++ ys, rfl, h1, Reps.append h2 g⟩
theorem Reps.nil : Reps K H E [] [] := by unfold Reps; rfl
theorem Reps.cons {d : D} {ds : List D} {x : V} {xs : List V} (h : Rep K H E d x) (g : Reps K H E ds xs) : Reps K H E (d :: ds) (x :: xs) := by
  unfold Reps; exact ⟨x, xs, rfl, h, g⟩
theorem Reps.snoc {d : D} {ds : List D} {x : V} {xs : List V} (g : Reps K H E ds xs) (h : Rep K H E d x) : Reps K H E (ds ++ [d]) (xs ++ [x]) :=
  g.append (.cons h .nil)
theorem Reps.set : ∀ {ds : List D} {xs : List V} {d : D} {x : V} (i : Nat), Reps K H E ds xs → Rep K H E d x → Reps K H E (ds.set i d) (xs.set i x)
  | [], xs, _, _, _, h, _ => by unfold Reps at h; subst h; exact .nil
  | d :: ds, xs, _, _, 0, h, g => by
    unfold Reps at h
    obtain ⟨x, r, rfl, h1, h2⟩ := h
    exact .cons g h2
  | d :: ds, xs, _, _, i + 1, h, g => by
    unfold Reps at h
    obtain ⟨x, r, rfl, h1, h2⟩ := h
    exact .cons h1 (Reps.set i h2 g)
theorem Reps.take : ∀ {ds : List D} {xs : List V} (n : Nat), Reps K H E ds xs → Reps K H E (ds.take n) (xs.take n)
  | _, _, 0, _ => by simpa using Reps.nil
  | [], xs, n + 1, h => by unfold Reps at h; subst h; exact .nil
  | d :: ds, xs, n + 1, h => by
    unfold Reps at h
    obtain ⟨x, r, rfl, h1, h2⟩ := h
    exact .cons h1 (Reps.take n h2)
theorem Reps.drop : ∀ {ds : List D} {xs : List V} (n : Nat), Reps K H E ds xs → Reps K H E (ds.drop n) (xs.drop n)
  | _, _, 0, h => h
  | [], xs, n + 1, h => by unfold Reps at h; subst h; exact .nil
  | d :: ds, xs, n + 1, h => by
    unfold Reps at h
    obtain ⟨x, r, rfl, h1, h2⟩ := h
    exact Reps.drop n h2
theorem Reps.dropLast {ds : List D} {xs : List V} (h : Reps K H E ds xs) : Reps K H E ds.dropLast xs.dropLast := by
  rw [List.dropLast_eq_take, List.dropLast_eq_take, h.length]
  exact h.take _
theorem Reps.eraseIdx : ∀ {ds : List D} {xs : List V} (i : Nat), Reps K H E ds xs → Reps K H E (ds.eraseIdx i) (xs.eraseIdx i)
  | [], xs, _, h => by unfold Reps at h; subst h; exact .nil
  | d :: ds, xs, 0, h => by
    unfold Reps at h
    obtain ⟨x, r, rfl, h1, h2⟩ := h
    exact h2
  | d :: ds, xs, i + 1, h => by
    unfold Reps at h
    obtain ⟨x, r, rfl, h1, h2⟩ := h
    exact .cons h1 (Reps.eraseIdx i h2)
theorem Reps.ints : ∀ {ns : List Int} {xs : List V}, Reps K H E (ns.map D.int) xs → xs = ns.map V.int
  | [], xs, h => by unfold List.map Reps at h; exact h
  | n :: ns, xs, h => by
    rw [List.map_cons] at h
    unfold Reps at h
    obtain ⟨x, r, rfl, h1, h2⟩ := h
    unfold Rep at h1
    rw [h1, Reps.ints h2]
    rfl

/-- the heap has grown: nothing that was tracked has changed -/
structure Gr (H : Hp) (E : Addr → Prop) (H' : Hp) (E' : Addr → Prop) : Prop where
  same : ∀ a o, H a = some o → H' a = some o
  sub : ∀ a, E a → E' a
  new : ∀ a, E' a → E a ∨ H a = none
  dom : ∀ a, E' a → H' a ≠ none
theorem Gr.kp (g : Gr H E H' E') : Kp H E H' E' := ⟨fun a xs e => g.same a _ e, fun a o u e => g.same a _ e, fun a o _ e => g.same a o e, g.sub⟩
theorem Gr.free (g : Gr H E H' E') {a : Addr} (h : H' a = none) : H a = none := by
  cases q : H a with
  | none => rfl
  | some o => rw [g.same a o q] at h; cases h
theorem Gr.trans (f : Gr H E H1 E1) (g : Gr H1 E1 H2 E2) : Gr H E H2 E2 :=
  ⟨fun a o e => g.same a o (f.same a o e), fun a e => g.sub a (f.sub a e), fun a e => by
    rcases g.new a e with h | h
    · exact f.new a h
    · exact .inr (f.free h), g.dom⟩
theorem Gr.refl (hd : ∀ a, E a → H a ≠ none) : Gr H E H E := ⟨fun _ _ e => e, fun _ e => e, fun _ e => .inl e, hd⟩
/-- a new object, not of the kind that is handed on -/
theorem Gr.laid {p : Addr} {o : HO} (hd : ∀ a, E a → H a ≠ none) (hp : H p = none) : Gr H E (upd H p o) E :=
  ⟨fun a u e => by rw [upd_ne (ne_of_none e hp)]; exact e, fun _ e => e, fun _ e => .inl e, fun a e => by
    by_cases h : a = p
    · rw [h, upd_same]; simp
    · rw [upd_ne h]; exact hd a e⟩
/-- .. handed on -/
theorem Gr.laidE {p : Addr} {o : HO} (hd : ∀ a, E a → H a ≠ none) (hp : H p = none) : Gr H E (upd H p o) (fun a => E a ∨ a = p) :=
  ⟨fun a u e => by rw [upd_ne (ne_of_none e hp)]; exact e, fun _ e => .inl e, fun a e => by
    rcases e with e | e
    · exact .inl e
    · rw [e]; exact .inr hp, fun a e => by
    by_cases h : a = p
    · rw [h, upd_same]; simp
    · rcases e with e | e
      · rw [upd_ne h]; exact hd a e
      · exact absurd e h⟩
end

/-! ### a def's names -/
inductive S where
  | no
  | val (d : D)
  | lst (ds : List D)
  | dK (ks : List Key) (vs : List D)
  | dT (ks : List (List Key)) (vs : List D)
abbrev Ev := List S

section
variable (K : PySem.W.Frag) (H : Hp) (E : Addr → Prop)
def RepS : S → Option V → List Addr → Prop
  | .no, _, os => os = []
  | .val d, v, os => os = [] ∧ ∃ x, v = some x ∧ Rep K H E d x
  | .lst ds, v, os => ∃ a xs, v = some (.ref a) ∧ os = [a] ∧ H a = some (.lst xs) ∧ Reps K H E ds xs
  | .dK ks ds, v, os => ∃ a kvs, v = some (.ref a) ∧ os = [a] ∧ H a = some (.dK kvs) ∧ kvs.map (·.1) = ks ∧ Reps K H E ds (kvs.map (·.2))
  | .dT ks ds, v, os => ∃ a kvs, v = some (.ref a) ∧ os = [a] ∧ H a = some (.dT kvs) ∧ kvs.map (·.1) = ks ∧ Reps K H E ds (kvs.map (·.2))
def RepEv : Ev → L2.St → List Addr → Prop
  | [], σ, os => σ = [] ∧ os = []
  | s :: δ, σ, os => ∃ v r o1 o2, σ = v :: r ∧ os = o1 ++ o2 ∧ RepS K H E s v o1 ∧ RepEv δ r o2
end
section
variable {K : PySem.W.Frag} {H H' H1 H2 : Hp} {E E' E1 E2 : Addr → Prop}
theorem RepS.keep (k : Kp H E H' E') {s : S} {v : Option V} {os : List Addr} (ho : ∀ a ∈ os, ∀ o, H a = some o → H' a = some o) (h : RepS K H E s v os) : RepS K H' E' s v os := by
  cases s with
  | no => exact h
  | val d => obtain ⟨e, x, e1, r⟩ := h; exact ⟨e, x, e1, r.keep k⟩
  | lst ds => obtain ⟨a, xs, e, e1, e2, r⟩ := h; exact ⟨a, xs, e, e1, ho a (by rw [e1]; simp) _ e2, r.keep k⟩
  | dK ks ds => obtain ⟨a, xs, e, e1, e2, e3, r⟩ := h; exact ⟨a, xs, e, e1, ho a (by rw [e1]; simp) _ e2, e3, r.keep k⟩
  | dT ks ds => obtain ⟨a, xs, e, e1, e2, e3, r⟩ := h; exact ⟨a, xs, e, e1, ho a (by rw [e1]; simp) _ e2, e3, r.keep k⟩
theorem RepEv.keep (k : Kp H E H' E') : ∀ {δ : Ev} {σ : L2.St} {os : List Addr}, (∀ a ∈ os, ∀ o, H a = some o → H' a = some o) → RepEv K H E δ σ os → RepEv K H' E' δ σ os
  | [], _, _, _, h => h
  | s :: δ, σ, os, ho, h => by
    obtain ⟨v, r, o1, o2, e1, e2, h1, h2⟩ := h
    subst e2
    exact ⟨v, r, o1, o2, e1, rfl, h1.keep k fun a m => ho a (List.mem_append_left _ m), RepEv.keep k (fun a m => ho a (List.mem_append_right _ m)) h2⟩
theorem RepS.dom {s : S} {v : Option V} {os : List Addr} (h : RepS K H E s v os) : ∀ a ∈ os, H a ≠ none := by
  intro a ha
  cases s with
  | no => rw [show os = [] from h] at ha; cases ha
  | val d => rw [h.1] at ha; cases ha
  | lst ds => obtain ⟨b, xs, e, e1, e2, r⟩ := h; rw [e1] at ha; rw [List.mem_singleton.mp ha, e2]; simp
  | dK ks ds => obtain ⟨b, xs, e, e1, e2, r⟩ := h; rw [e1] at ha; rw [List.mem_singleton.mp ha, e2]; simp
  | dT ks ds => obtain ⟨b, xs, e, e1, e2, r⟩ := h; rw [e1] at ha; rw [List.mem_singleton.mp ha, e2]; simp
theorem RepEv.dom : ∀ {δ : Ev} {σ : L2.St} {os : List Addr}, RepEv K H E δ σ os → ∀ a ∈ os, H a ≠ none
  | [], _, _, h, a, ha => by rw [h.2] at ha; cases ha
  | s :: δ, σ, os, h, a, ha => by
    obtain ⟨v, r, o1, o2, e1, e2, h1, h2⟩ := h
    rw [e2] at ha
    rcases List.mem_append.mp ha with m | m
    · exact h1.dom a m
    · exact h2.dom a m
theorem RepEv.length : ∀ {δ : Ev} {σ : L2.St} {os : List Addr}, RepEv K H E δ σ os → σ.length = δ.length
  | [], _, _, h => by rw [h.1]; rfl
  | s :: δ, σ, os, h => by
    obtain ⟨v, r, o1, o2, e1, e2, h1, h2⟩ := h
    rw [e1, List.length_cons, List.length_cons, h2.length]
theorem RepEv.get : ∀ {δ : Ev} {σ : L2.St} {os : List Addr} {i : Nat} {s : S}, RepEv K H E δ σ os → δ[i]? = some s → ∃ v o1, σ[i]? = some v ∧ RepS K H E s v o1 ∧ ∀ a ∈ o1, a ∈ os
  | [], _, _, _, _, _, e => by simp at e
  | s :: δ, σ, os, 0, _, h, e => by
    obtain ⟨v, r, o1, o2, rfl, rfl, h1, h2⟩ := h
    simp at e
    subst e
    exact ⟨v, o1, rfl, h1, fun a m => List.mem_append_left _ m⟩
  | s :: δ, σ, os, i + 1, _, h, e => by
    obtain ⟨v, r, o1, o2, rfl, rfl, h1, h2⟩ := h
    obtain ⟨w, o3, e1, e2, e3⟩ := RepEv.get (i := i) h2 (by simpa using e)
    exact ⟨w, o3, by simpa using e1, e2, fun a m => List.mem_append_right _ (e3 a m)⟩

/-- the names' data, the state -/
structure ER (K : PySem.W.Frag) (H : Hp) (E : Addr → Prop) (δ : Ev) (σ : L2.St) (os : List Addr) : Prop where
  rep : RepEv K H E δ σ os
  nd : os.Nodup
  dis : ∀ a ∈ os, ¬ E a
  dom : ∀ a, E a → H a ≠ none
theorem ER.grow {δ : Ev} {σ : L2.St} {os : List Addr} (e : ER K H E δ σ os) (g : Gr H E H' E') : ER K H' E' δ σ os :=
  ⟨e.rep.keep g.kp fun a _ o h => g.same a o h, e.nd, fun a ha h => by
    rcases g.new a h with q | q
    · exact e.dis a ha q
    · exact e.rep.dom a ha q, g.dom⟩
theorem ER.gr0 {δ : Ev} {σ : L2.St} {os : List Addr} (e : ER K H E δ σ os) : Gr H E H E := Gr.refl e.dom
end
end DL

/-! judgements, expressions -/
namespace DL
open PySem PySem.Spec PyProof.Rows L2

/-- read alone: an own list too -/
def RepB (K : PySem.W.Frag) (H : Hp) (E : Addr → Prop) : D → V → Prop
  | .lst ds, v => ∃ a xs, v = .ref a ∧ H a = some (.lst xs) ∧ Reps K H E ds xs
  | .dK ks ds, v => ∃ a kvs, v = .ref a ∧ H a = some (.dK kvs) ∧ kvs.map (·.1) = ks ∧ Reps K H E ds (kvs.map (·.2))
  | .dT ks ds, v => ∃ a kvs, v = .ref a ∧ H a = some (.dT kvs) ∧ kvs.map (·.1) = ks ∧ Reps K H E ds (kvs.map (·.2))
  | d, v => Rep K H E d v
section
variable {K : PySem.W.Frag} {H H' H1 H2 : Hp} {E E' E1 E2 : Addr → Prop}
theorem Rep.b {d : D} {v : V} (h : Rep K H E d v) : RepB K H E d v := by
  cases d with
  | lst ds => unfold Rep at h; obtain ⟨a, xs, e, h1, _, h2⟩ := h; exact ⟨a, xs, e, h1, h2⟩
  | dK ks ds => unfold Rep at h; obtain ⟨a, xs, e, h1, _, h2⟩ := h; exact ⟨a, xs, e, h1, h2⟩
  | dT ks ds => unfold Rep at h; obtain ⟨a, xs, e, h1, _, h2⟩ := h; exact ⟨a, xs, e, h1, h2⟩
  | _ => exact h
theorem RepB.grow (g : Gr H E H' E') {d : D} {v : V} (h : RepB K H E d v) : RepB K H' E' d v := by
  cases d with
  | lst ds => obtain ⟨a, xs, e, h1, h2⟩ := h; exact ⟨a, xs, e, g.same _ _ h1, h2.keep g.kp⟩
  | dK ks ds => obtain ⟨a, xs, e, h1, h2, h3⟩ := h; exact ⟨a, xs, e, g.same _ _ h1, h2, h3.keep g.kp⟩
  | dT ks ds => obtain ⟨a, xs, e, h1, h2, h3⟩ := h; exact ⟨a, xs, e, g.same _ _ h1, h2, h3.keep g.kp⟩
  | _ => exact Rep.keep g.kp h
def RepBs (K : PySem.W.Frag) (H : Hp) (E : Addr → Prop) : List D → List V → Prop
  | [], xs => xs = []
  | d :: ds, xs => ∃ x r, xs = x :: r ∧ RepB K H E d x ∧ RepBs K H E ds r
theorem RepBs.grow (g : Gr H E H' E') : ∀ {ds : List D} {xs : List V}, RepBs K H E ds xs → RepBs K H' E' ds xs
  | [], _, h => h
  | d :: ds, xs, h => by
    obtain ⟨x, r, e, h1, h2⟩ := h
    exact ⟨x, r, e, h1.grow g, h2.grow g⟩
theorem Reps.b : ∀ {ds : List D} {xs : List V}, Reps K H E ds xs → RepBs K H E ds xs
  | [], _, h => by unfold Reps at h; exact h
  | d :: ds, xs, h => by
    unfold Reps at h
    obtain ⟨x, r, e, h1, h2⟩ := h
    exact ⟨x, r, e, h1.b, Reps.b h2⟩
/-- new, nobody else has it: H ahead, H' now -/
def RepF (K : PySem.W.Frag) (H H' : Hp) (E' : Addr → Prop) : S → V → Prop
  | .no, _ => False
  | .val d, v => Rep K H' E' d v
  | .lst ds, v => ∃ a xs, v = .ref a ∧ H a = none ∧ ¬ E' a ∧ H' a = some (.lst xs) ∧ Reps K H' E' ds xs
  | .dK ks ds, v => ∃ a kvs, v = .ref a ∧ H a = none ∧ ¬ E' a ∧ H' a = some (.dK kvs) ∧ kvs.map (·.1) = ks ∧ Reps K H' E' ds (kvs.map (·.2))
  | .dT ks ds, v => ∃ a kvs, v = .ref a ∧ H a = none ∧ ¬ E' a ∧ H' a = some (.dT kvs) ∧ kvs.map (·.1) = ks ∧ Reps K H' E' ds (kvs.map (·.2))
def S.d : S → Option D
  | .no => none
  | .val d => some d
  | .lst ds => some (.lst ds)
  | .dK ks ds => some (.dK ks ds)
  | .dT ks ds => some (.dT ks ds)
theorem Kp.more {p : Addr} (hd : ∀ a, E a → H a ≠ none) : Kp H E H (fun a => E a ∨ a = p) := ⟨fun _ _ e => e, fun _ _ _ e => e, fun _ _ _ e => e, fun _ e => .inl e⟩
/-- handed on -/
theorem RepF.toD {s : S} {d : D} {v : V} (h : RepF K H H' E' s v) (g : Gr H E H' E') (e : s.d = some d) : ∃ E2, Gr H E H' E2 ∧ Rep K H' E2 d v := by
  have up : ∀ (a : Addr) (o : HO), H a = none → H' a = some o → Gr H E H' (fun b => E' b ∨ b = a) := fun a o hn hs =>
    ⟨g.same, fun b q => .inl (g.sub b q), fun b q => by
      rcases q with q | q
      · exact g.new b q
      · rw [q]; exact .inr hn, fun b q => by
      rcases q with q | q
      · exact g.dom b q
      · rw [q, hs]; simp⟩
  cases s with
  | no => cases e
  | val d' => cases e; exact ⟨E', g, h⟩
  | lst ds =>
    cases e
    obtain ⟨a, xs, e1, e2, e3, e4, r⟩ := h
    refine ⟨_, up a _ e2 e4, ?_⟩
    unfold Rep
    exact ⟨a, xs, e1, e4, .inr rfl, r.keep (Kp.more g.dom)⟩
  | dK ks ds =>
    cases e
    obtain ⟨a, xs, e1, e2, e3, e4, e5, r⟩ := h
    refine ⟨_, up a _ e2 e4, ?_⟩
    unfold Rep
    exact ⟨a, xs, e1, e4, .inr rfl, e5, r.keep (Kp.more g.dom)⟩
  | dT ks ds =>
    cases e
    obtain ⟨a, xs, e1, e2, e3, e4, e5, r⟩ := h
    refine ⟨_, up a _ e2 e4, ?_⟩
    unfold Rep
    exact ⟨a, xs, e1, e4, .inr rfl, e5, r.keep (Kp.more g.dom)⟩
end

/-! ### the readings -/
def tD (K : PySem.W.Frag) (f : Ev → Option D) : TE := fun σ H Q => ∃ δ E os d, ER K H E δ σ os ∧ f δ = some d ∧ ∀ v H' E', Gr H E H' E' → Rep K H' E' d v → Q v H'
def tDB (K : PySem.W.Frag) (f : Ev → Option D) : TE := fun σ H Q => ∃ δ E os d, ER K H E δ σ os ∧ f δ = some d ∧ ∀ v H' E', Gr H E H' E' → RepB K H' E' d v → Q v H'
def tDF (K : PySem.W.Frag) (f : Ev → Option S) : TE := fun σ H Q => ∃ δ E os s, ER K H E δ σ os ∧ f δ = some s ∧ ∀ v H' E', Gr H E H' E' → RepF K H H' E' s v → Q v H'
def tDT (K : PySem.W.Frag) (f : Ev → Option Bool) : TT := fun σ H Q => ∃ δ E os b, ER K H E δ σ os ∧ f δ = some b ∧ ∀ H' E', Gr H E H' E' → Q b H'
def tDA (K : PySem.W.Frag) (f : Ev → Option (List D)) : TA := fun σ H Q => ∃ δ E os ds, ER K H E δ σ os ∧ f δ = some ds ∧ ∀ vs H' E', Gr H E H' E' → Reps K H' E' ds vs → Q vs H'
def tDAB (K : PySem.W.Frag) (f : Ev → Option (List D)) : TA := fun σ H Q => ∃ δ E os ds, ER K H E δ σ os ∧ f δ = some ds ∧ ∀ vs H' E', Gr H E H' E' → RepBs K H' E' ds vs → Q vs H'

structure DE (X : Cx) (e : Expr) (f : Ev → Option D) : Prop where
  pe : PE X e (tD X.K f)
structure DB (X : Cx) (e : Expr) (f : Ev → Option D) : Prop where
  pe : PE X e (tDB X.K f)
structure DF (X : Cx) (e : Expr) (f : Ev → Option S) : Prop where
  pe : PE X e (tDF X.K f)
structure DT (X : Cx) (e : Expr) (f : Ev → Option Bool) : Prop where
  pt : PT X e (tDT X.K f)
structure DW (X : Cx) (e : Expr) (f : Ev → Option Bool) : Prop where
  pw : PW X e (tDT X.K f)
structure DA (X : Cx) (es : List Expr) (f : Ev → Option (List D)) : Prop where
  pa : PA X es (tDA X.K f)
structure DAB (X : Cx) (es : List Expr) (f : Ev → Option (List D)) : Prop where
  pa : PA X es (tDAB X.K f)

section
variable {X : Cx} {e a b c : Expr} {es : List Expr} {pos p : Pos}
theorem peImp {t t' : TE} (h : PE X e t) (i : ∀ σ H Q, t' σ H Q → t σ H Q) : PE X e t' := ⟨fun pins s σ H Q I q => h.run pins s σ H Q I (i σ H Q q)⟩
theorem ptImp {t t' : TT} (h : PT X e t) (i : ∀ σ H Q, t' σ H Q → t σ H Q) : PT X e t' := ⟨fun pins s σ H Q I q => h.run pins s σ H Q I (i σ H Q q)⟩
theorem pwImp {t t' : TT} (h : PW X e t) (i : ∀ σ H Q, t' σ H Q → t σ H Q) : PW X e t' := ⟨fun w pins s σ H Q I q => h.run w pins s σ H Q I (i σ H Q q)⟩
theorem paImp {t t' : TA} (h : PA X es t) (i : ∀ σ H Q, t' σ H Q → t σ H Q) : PA X es t' := ⟨fun ps pins s σ H Q I q => h.run ps pins s σ H Q I (i σ H Q q)⟩
theorem DE.tb {f} (h : DE X e f) : DB X e f := ⟨peImp h.pe fun σ H Q ⟨δ, E, os, d, er, hf, k⟩ => ⟨δ, E, os, d, er, hf, fun v H' E' g r => k v H' E' g r.b⟩⟩
def sd (f : Ev → Option S) : Ev → Option D := fun δ => (f δ).bind S.d
theorem DF.te {f} (h : DF X e f) : DE X e (sd f) := ⟨peImp h.pe fun σ H Q ⟨δ, E, os, d, er, hf, k⟩ => by
  obtain ⟨s, h1, h2⟩ := Option.bind_eq_some_iff.mp hf
  refine ⟨δ, E, os, s, er, h1, fun v H' E' g r => ?_⟩
  obtain ⟨E2, g2, r2⟩ := r.toD g h2
  exact k v H' E2 g2 r2⟩
theorem DE.tf {f} (h : DE X e f) : DF X e (fun δ => (f δ).map S.val) := ⟨peImp h.pe fun σ H Q ⟨δ, E, os, s, er, hf, k⟩ => by
  obtain ⟨d, h1, h2⟩ := Option.map_eq_some_iff.mp hf
  subst h2
  exact ⟨δ, E, os, d, er, h1, fun v H' E' g r => k v H' E' g r⟩⟩

/-! ### names, constants -/
def eV (i : Nat) : Ev → Option D := fun δ => match δ[i]? with
  | some (.val d) => some d
  | _ => none
def eVB (i : Nat) : Ev → Option D := fun δ => match δ[i]? with
  | some s => s.d
  | _ => none
def eC (d : D) : Ev → Option D := fun _ => some d
theorem RepS.rb {K : PySem.W.Frag} {H : Hp} {E : Addr → Prop} {s : S} {v : Option V} {os : List Addr} {d : D} (h : RepS K H E s v os) (e : s.d = some d) : ∃ x, v = some x ∧ RepB K H E d x := by
  cases s with
  | no => cases e
  | val d' => cases e; obtain ⟨_, x, e1, r⟩ := h; exact ⟨x, e1, r.b⟩
  | lst ds => cases e; obtain ⟨a, xs, e1, _, e2, r⟩ := h; exact ⟨_, e1, a, xs, rfl, e2, r⟩
  | dK ks ds => cases e; obtain ⟨a, xs, e1, _, e2, e3, r⟩ := h; exact ⟨_, e1, a, xs, rfl, e2, e3, r⟩
  | dT ks ds => cases e; obtain ⟨a, xs, e1, _, e2, e3, r⟩ := h; exact ⟨_, e1, a, xs, rfl, e2, e3, r⟩
theorem de_v (i : Nat) {x : Str} (hN : X.N[i]? = some x := by rfl) (hv : Vis X.env.scope x := by first | exact Or.inl rfl | exact Or.inr (Or.inl rfl) | exact Or.inr (Or.inr rfl)) (hd : (x == ("__debug__" : Str)) = false := by decide)
    (hcd : (x == ("__classdict__" : Str)) = false := by decide) : DE X (.Name x pos) (eV i) := ⟨peImp (pe_var hN hv hd hcd) fun σ H Q ⟨δ, E, os, d, er, hf, k⟩ => by
  unfold eV at hf
  split at hf
  · rename_i d' hs
    cases hf
    obtain ⟨v, o1, e1, r, _⟩ := er.rep.get hs
    obtain ⟨_, x', e2, r2⟩ := r
    subst e2
    exact ⟨x', e1, k x' H E er.gr0 r2⟩
  · cases hf⟩
theorem db_v (i : Nat) {x : Str} (hN : X.N[i]? = some x := by rfl) (hv : Vis X.env.scope x := by first | exact Or.inl rfl | exact Or.inr (Or.inl rfl) | exact Or.inr (Or.inr rfl)) (hd : (x == ("__debug__" : Str)) = false := by decide)
    (hcd : (x == ("__classdict__" : Str)) = false := by decide) : DB X (.Name x pos) (eVB i) := ⟨peImp (pe_var hN hv hd hcd) fun σ H Q ⟨δ, E, os, d, er, hf, k⟩ => by
  unfold eVB at hf
  split at hf
  · rename_i s hs
    obtain ⟨v, o1, e1, r, _⟩ := er.rep.get hs
    obtain ⟨x', e2, r2⟩ := RepS.rb r hf
    subst e2
    exact ⟨x', e1, k x' H E er.gr0 r2⟩
  · cases hf⟩
theorem de_const {t : TE} {d : D} {x : V} (h : PE X e (tC x)) (hr : ∀ H E, Rep X.K H E d x) : DE X e (eC d) := ⟨peImp h fun σ H Q ⟨δ, E, os, d', er, hf, k⟩ => by
  cases hf
  exact k x H E er.gr0 (hr H E)⟩
theorem de_int {i : Int} {j} : DE X (.Constant (.int i) j pos) (eC (.int i)) := de_const (t := tC (.int i)) pe_int fun _ _ => by unfold Rep; rfl
theorem de_bl {i : Bool} {j} : DE X (.Constant (.bool i) j pos) (eC (.bl i)) := de_const (t := tC (.bl i)) pe_bl fun _ _ => by unfold Rep; rfl
theorem de_non {j} : DE X (.Constant .none j pos) (eC .non) := de_const (t := tC .non) pe_non fun _ _ => by unfold Rep; rfl
theorem de_str {i : Str} {j} : DE X (.Constant (.str i) j pos) (eC (.str i)) := de_const (t := tC (.str i)) pe_str fun _ _ => by unfold Rep; rfl

/-! ### two operands, by values -/
def e1 (g : D → Option D) (fa : Ev → Option D) : Ev → Option D := fun δ => (fa δ).bind g
def e2 (g : D → D → Option D) (fa fb : Ev → Option D) : Ev → Option D := fun δ => (fa δ).bind fun x => (fb δ).bind fun y => g x y
def e2F (g : D → D → Option S) (fa fb : Ev → Option D) : Ev → Option S := fun δ => (fa δ).bind fun x => (fb δ).bind fun y => g x y
def rD (K : PySem.W.Frag) (g : D → D → Option D) : R2 := fun x y H Q => ∃ E d1 d2 d, (∀ a, E a → H a ≠ none) ∧ RepB K H E d1 x ∧ RepB K H E d2 y ∧ g d1 d2 = some d ∧ ∀ v H' E', Gr H E H' E' → Rep K H' E' d v → Q v H'
def rDF (K : PySem.W.Frag) (g : D → D → Option S) : R2 := fun x y H Q => ∃ E d1 d2 s, (∀ a, E a → H a ≠ none) ∧ RepB K H E d1 x ∧ RepB K H E d2 y ∧ g d1 d2 = some s ∧ ∀ v H' E', Gr H E H' E' → RepF K H H' E' s v → Q v H'
theorem tOp_of {K : PySem.W.Frag} {g : D → D → Option D} {fa fb : Ev → Option D} {σ : L2.St} {H : Hp} {Q : VK} (h : tD K (e2 g fa fb) σ H Q) : tOp (rD K g) (tDB K fa) (tDB K fb) σ H Q := by
  obtain ⟨δ, E, os, d, er, hf, k⟩ := h
  obtain ⟨d1, h1, h2⟩ := Option.bind_eq_some_iff.mp hf
  obtain ⟨d2, h2, h3⟩ := Option.bind_eq_some_iff.mp h2
  refine ⟨δ, E, os, d1, er, h1, fun x H1 E1 g1 r1 => ⟨δ, E1, os, d2, er.grow g1, h2, fun y H2 E2 g2 r2 => ?_⟩⟩
  exact ⟨E2, d1, d2, d, g2.dom, r1.grow g2, r2, h3, fun v H' E' g3 r3 => k v H' E' ((g1.trans g2).trans g3) r3⟩
theorem RepF.earlier {K : PySem.W.Frag} {H H1 H' : Hp} {E E1 E' : Addr → Prop} {s : S} {v : V} (g : Gr H E H1 E1) (h : RepF K H1 H' E' s v) : RepF K H H' E' s v := by
  cases s with
  | no => exact h
  | val d => exact h
  | lst ds => obtain ⟨a, xs, e, e1, r⟩ := h; exact ⟨a, xs, e, g.free e1, r⟩
  | dK ks ds => obtain ⟨a, xs, e, e1, r⟩ := h; exact ⟨a, xs, e, g.free e1, r⟩
  | dT ks ds => obtain ⟨a, xs, e, e1, r⟩ := h; exact ⟨a, xs, e, g.free e1, r⟩
theorem tOpF_of {K : PySem.W.Frag} {g : D → D → Option S} {fa fb : Ev → Option D} {σ : L2.St} {H : Hp} {Q : VK} (h : tDF K (e2F g fa fb) σ H Q) : tOp (rDF K g) (tDB K fa) (tDB K fb) σ H Q := by
  obtain ⟨δ, E, os, d, er, hf, k⟩ := h
  obtain ⟨d1, h1, h2⟩ := Option.bind_eq_some_iff.mp hf
  obtain ⟨d2, h2, h3⟩ := Option.bind_eq_some_iff.mp h2
  refine ⟨δ, E, os, d1, er, h1, fun x H1 E1 g1 r1 => ⟨δ, E1, os, d2, er.grow g1, h2, fun y H2 E2 g2 r2 => ?_⟩⟩
  exact ⟨E2, d1, d2, d, g2.dom, r1.grow g2, r2, h3, fun v H' E' g3 r3 => k v H' E' ((g1.trans g2).trans g3) (r3.earlier (g1.trans g2))⟩
def OpD (X : Cx) (fn : Value → Value → Sem Value) (g : D → D → Option D) : Prop := OpR X fn (rD X.K g)
def OpF (X : Cx) (fn : Value → Value → Sem Value) (g : D → D → Option S) : Prop := OpR X fn (rDF X.K g)
theorem de_op {op : Operator} {g fa fb} (o : OpD X (binaryOp op) g) (ha : DB X a fa) (hb : DB X b fb) : DE X (.BinOp a op b pos) (e2 g fa fb) :=
  ⟨peImp (pe_op o ha.pe hb.pe) fun σ H Q h => tOp_of h⟩
theorem df_op {op : Operator} {g fa fb} (o : OpF X (binaryOp op) g) (ha : DB X a fa) (hb : DB X b fb) : DF X (.BinOp a op b pos) (e2F g fa fb) :=
  ⟨peImp (pe_op o ha.pe hb.pe) fun σ H Q h => tOpF_of h⟩
theorem de_cmp {op : CmpOp} {g fa fb} (o : OpD X (compareOp op) g) (ha : DB X a fa) (hb : DB X b fb) (hm : behindInMarks op b = false := by rfl) : DE X (.Compare a [op] [b] pos) (e2 g fa fb) :=
  ⟨peImp (pe_cmpR o ha.pe hb.pe hm) fun σ H Q h => tOp_of h⟩
/-- a test of data that is True or False -/
def D.bool? : D → Option Bool
  | .bl b => some b
  | _ => none
def tE (f : Ev → Option D) : Ev → Option Bool := fun δ => (f δ).bind D.bool?
theorem tDT_of {K : PySem.W.Frag} {f : Ev → Option D} {σ : L2.St} {H : Hp} {Q : Bool → Hp → Prop} (h : tDT K (tE f) σ H Q) : tD K f σ H fun x H' => ∃ k, x = .bl k ∧ Q k H' := by
  obtain ⟨δ, E, os, b, er, hf, k⟩ := h
  obtain ⟨d, h1, h2⟩ := Option.bind_eq_some_iff.mp hf
  refine ⟨δ, E, os, d, er, h1, fun v H' E' g r => ?_⟩
  cases d with
  | bl c => cases h2; unfold Rep at r; exact ⟨_, r, k H' E' g⟩
  | _ => cases h2
theorem dt_cmp {op : CmpOp} {g fa fb} (o : OpD X (compareOp op) g) (ha : DB X a fa) (hb : DB X b fb) (hm : behindInMarks op b = false := by rfl) : DT X (.Compare a [op] [b] pos) (tE (e2 g fa fb)) :=
  ⟨ptImp (pt_cmpR o ha.pe hb.pe hm) fun σ H Q h => tOp_of (tDT_of h)⟩
theorem dt_val {f} (h : DE X e f) (he : ∀ whole, isTrue e X.env whole = (do let v ← whole; standAt e.pos; holding [v] (truthy v)) := by intro _; rfl) : DT X e (tE f) :=
  ⟨ptImp (pt_val h.pe he) fun σ H Q h => tDT_of h⟩

/-! ### and, or, not -/
def tAn (f g : Ev → Option Bool) : Ev → Option Bool := fun δ => (f δ).bind fun x => if x = true then g δ else some false
def tOr' (f g : Ev → Option Bool) : Ev → Option Bool := fun δ => (f δ).bind fun x => if x = true then some true else g δ
def tNo (f : Ev → Option Bool) : Ev → Option Bool := fun δ => (f δ).map (!·)
theorem DW.t {f} (h : DW X e f) : DT X e f := ⟨h.pw.pt⟩
theorem dw_and1 {f} (h : DT X a f) : DW X (.BoolOp .And [a] pos) f := ⟨pw_and1 h.pt⟩
theorem dw_or1 {f} (h : DT X a f) : DW X (.BoolOp .Or [a] pos) f := ⟨pw_or1 h.pt⟩
theorem dw_and {f g} {rest : List Expr} (h : DT X a f) (h2 : DW X (.BoolOp .And (b :: rest) pos) g) : DW X (.BoolOp .And (a :: b :: rest) pos) (tAn f g) :=
  ⟨pwImp (pw_and h.pt h2.pw) fun σ H Q ⟨δ, E, os, c, er, hf, k⟩ => by
    obtain ⟨x, h1, h2⟩ := Option.bind_eq_some_iff.mp hf
    refine ⟨δ, E, os, x, er, h1, fun H' E' g' => ?_⟩
    cases x with
    | true => exact iteT ⟨δ, E', os, c, er.grow g', by simpa using h2, fun H2 E2 g2 => k H2 E2 (g'.trans g2)⟩
    | false => simp at h2; subst h2; exact iteF (k H' E' g')⟩
theorem dw_or {f g} {rest : List Expr} (h : DT X a f) (h2 : DW X (.BoolOp .Or (b :: rest) pos) g) : DW X (.BoolOp .Or (a :: b :: rest) pos) (tOr' f g) :=
  ⟨pwImp (pw_or h.pt h2.pw) fun σ H Q ⟨δ, E, os, c, er, hf, k⟩ => by
    obtain ⟨x, h1, h2⟩ := Option.bind_eq_some_iff.mp hf
    refine ⟨δ, E, os, x, er, h1, fun H' E' g' => ?_⟩
    cases x with
    | false => exact iteF ⟨δ, E', os, c, er.grow g', by simpa using h2, fun H2 E2 g2 => k H2 E2 (g'.trans g2)⟩
    | true => simp at h2; subst h2; exact iteT (k H' E' g')⟩
theorem dt_not {f} (h : DT X a f) : DT X (.UnaryOp .Not a pos) (tNo f) := ⟨ptImp (pt_not h.pt) fun σ H Q ⟨δ, E, os, c, er, hf, k⟩ => by
  obtain ⟨x, h1, h2⟩ := Option.map_eq_some_iff.mp hf
  exact ⟨δ, E, os, x, er, h1, fun H' E' g' => by subst h2; exact k H' E' g'⟩⟩
def eAn (f g : Ev → Option D) : Ev → Option D := fun δ => (f δ).bind fun x => x.bool?.bind fun c => if c = true then g δ else some (.bl false)
def eOr (f g : Ev → Option D) : Ev → Option D := fun δ => (f δ).bind fun x => x.bool?.bind fun c => if c = true then some (.bl true) else g δ
def eNo (f : Ev → Option D) : Ev → Option D := fun δ => (f δ).bind fun x => x.bool?.map fun c => .bl (!c)
theorem boolOf {K : PySem.W.Frag} {H : Hp} {E : Addr → Prop} {d : D} {v : V} {c : Bool} (h : d.bool? = some c) (r : Rep K H E d v) : v = .bl c := by
  cases d with
  | bl b => cases h; unfold Rep at r; exact r
  | _ => cases h
theorem repBl {K : PySem.W.Frag} {H : Hp} {E : Addr → Prop} {c : Bool} : Rep K H E (.bl c) (.bl c) := by unfold Rep; rfl
theorem repI {K : PySem.W.Frag} {H : Hp} {E : Addr → Prop} {c : Int} : Rep K H E (.int c) (.int c) := by unfold Rep; rfl
theorem repS {K : PySem.W.Frag} {H : Hp} {E : Addr → Prop} {c : Str} : Rep K H E (.str c) (.str c) := by unfold Rep; rfl
theorem repN {K : PySem.W.Frag} {H : Hp} {E : Addr → Prop} : Rep K H E .non .non := by unfold Rep; rfl
theorem de_one {f op} (h : DE X a f) : DE X (.BoolOp op [a] pos) f := ⟨pe_one h.pe⟩
theorem de_and {f g} {rest : List Expr} (h : DE X a f) (h2 : DE X (.BoolOp .And (b :: rest) pos) g) : DE X (.BoolOp .And (a :: b :: rest) pos) (eAn f g) :=
  ⟨peImp (pe_and h.pe h2.pe) fun σ H Q ⟨δ, E, os, d, er, hf, k⟩ => by
    obtain ⟨x, h1, h2⟩ := Option.bind_eq_some_iff.mp hf
    obtain ⟨c, h2, h3⟩ := Option.bind_eq_some_iff.mp h2
    refine ⟨δ, E, os, x, er, h1, fun v H' E' g' r => ⟨c, boolOf h2 r, ?_⟩⟩
    cases c with
    | true => exact iteT ⟨δ, E', os, d, er.grow g', by simpa using h3, fun v H2 E2 g2 r2 => k v H2 E2 (g'.trans g2) r2⟩
    | false => simp at h3; subst h3; exact iteF (k _ H' E' g' repBl)⟩
theorem de_or {f g} {rest : List Expr} (h : DE X a f) (h2 : DE X (.BoolOp .Or (b :: rest) pos) g) : DE X (.BoolOp .Or (a :: b :: rest) pos) (eOr f g) :=
  ⟨peImp (pe_or h.pe h2.pe) fun σ H Q ⟨δ, E, os, d, er, hf, k⟩ => by
    obtain ⟨x, h1, h2⟩ := Option.bind_eq_some_iff.mp hf
    obtain ⟨c, h2, h3⟩ := Option.bind_eq_some_iff.mp h2
    refine ⟨δ, E, os, x, er, h1, fun v H' E' g' r => ⟨c, boolOf h2 r, ?_⟩⟩
    cases c with
    | false => exact iteF ⟨δ, E', os, d, er.grow g', by simpa using h3, fun v H2 E2 g2 r2 => k v H2 E2 (g'.trans g2) r2⟩
    | true => simp at h3; subst h3; exact iteT (k _ H' E' g' repBl)⟩
theorem de_not {f} (h : DE X a f) : DE X (.UnaryOp .Not a pos) (eNo f) := ⟨peImp (pe_not h.pe) fun σ H Q ⟨δ, E, os, d, er, hf, k⟩ => by
  obtain ⟨x, h1, h2⟩ := Option.bind_eq_some_iff.mp hf
  obtain ⟨c, h4, h3⟩ := Option.map_eq_some_iff.mp h2
  subst h3
  exact ⟨δ, E, os, x, er, h1, fun v H' E' g' r => ⟨c, boolOf h4 r, k _ H' E' g' repBl⟩⟩⟩
def eIf (t : Ev → Option Bool) (f g : Ev → Option D) : Ev → Option D := fun δ => (t δ).bind fun c => if c = true then f δ else g δ
theorem de_if {t f g} (hc : DT X c t) (ha : DE X a f) (hb : DE X b g) : DE X (.IfExp c a b pos) (eIf t f g) := ⟨peImp (pe_ifExp hc.pt ha.pe hb.pe) fun σ H Q ⟨δ, E, os, d, er, hf, k⟩ => by
  obtain ⟨x, h1, h2⟩ := Option.bind_eq_some_iff.mp hf
  refine ⟨δ, E, os, x, er, h1, fun H' E' g' => ?_⟩
  cases x with
  | true => exact iteT ⟨δ, E', os, d, er.grow g', by simpa using h2, fun v H2 E2 g2 r2 => k v H2 E2 (g'.trans g2) r2⟩
  | false => exact iteF ⟨δ, E', os, d, er.grow g', by simpa using h2, fun v H2 E2 g2 r2 => k v H2 E2 (g'.trans g2) r2⟩⟩
/-- a and b, a or b: the last one's value may be read alone -/
theorem db_if {t f g} (hc : DT X c t) (ha : DB X a f) (hb : DB X b g) : DB X (.IfExp c a b pos) (eIf t f g) := ⟨peImp (pe_ifExp hc.pt ha.pe hb.pe) fun σ H Q ⟨δ, E, os, d, er, hf, k⟩ => by
  obtain ⟨x, h1, h2⟩ := Option.bind_eq_some_iff.mp hf
  refine ⟨δ, E, os, x, er, h1, fun H' E' g' => ?_⟩
  cases x with
  | true => exact iteT ⟨δ, E', os, d, er.grow g', by simpa using h2, fun v H2 E2 g2 r2 => k v H2 E2 (g'.trans g2) r2⟩
  | false => exact iteF ⟨δ, E', os, d, er.grow g', by simpa using h2, fun v H2 E2 g2 r2 => k v H2 E2 (g'.trans g2) r2⟩⟩

/-! ### argument lists, displays -/
def eNil : Ev → Option (List D) := fun _ => some []
def eCons (f : Ev → Option D) (g : Ev → Option (List D)) : Ev → Option (List D) := fun δ => (f δ).bind fun x => (g δ).map fun r => x :: r
theorem da_nil : DA X [] eNil := ⟨paImp pa_nil fun σ H Q ⟨δ, E, os, ds, er, hf, k⟩ => by
  cases hf
  exact k [] H E er.gr0 .nil⟩
theorem da_cons {f g} (h : DE X e f) (hr : DA X es g) (hs : starEach (e :: es) X.env = (false, eval e X.env) :: starEach es X.env := by rfl) : DA X (e :: es) (eCons f g) := ⟨paImp (pa_cons h.pe hr.pa hs) fun σ H Q ⟨δ, E, os, ds, er, hf, k⟩ => by
  obtain ⟨x, h1, h2⟩ := Option.bind_eq_some_iff.mp hf
  obtain ⟨r, h4, h3⟩ := Option.map_eq_some_iff.mp h2
  subst h3
  exact ⟨δ, E, os, x, er, h1, fun v H1 E1 g1 r1 => ⟨δ, E1, os, r, er.grow g1, h4, fun vs H2 E2 g2 r2 => k _ H2 E2 (g1.trans g2) (.cons (r1.keep g2.kp) r2)⟩⟩⟩
theorem dab_nil : DAB X [] eNil := ⟨paImp pa_nil fun σ H Q ⟨δ, E, os, ds, er, hf, k⟩ => by
  cases hf
  exact k [] H E er.gr0 rfl⟩
theorem dab_cons {f g} (h : DB X e f) (hr : DAB X es g) (hs : starEach (e :: es) X.env = (false, eval e X.env) :: starEach es X.env := by rfl) : DAB X (e :: es) (eCons f g) := ⟨paImp (pa_cons h.pe hr.pa hs) fun σ H Q ⟨δ, E, os, ds, er, hf, k⟩ => by
  obtain ⟨x, h1, h2⟩ := Option.bind_eq_some_iff.mp hf
  obtain ⟨r, h4, h3⟩ := Option.map_eq_some_iff.mp h2
  subst h3
  exact ⟨δ, E, os, x, er, h1, fun v H1 E1 g1 r1 => ⟨δ, E1, os, r, er.grow g1, h4, fun vs H2 E2 g2 r2 => k _ H2 E2 (g1.trans g2) ⟨_, _, rfl, r1.grow g2, r2⟩⟩⟩⟩
/-- a list within the line -/
def fits (xs : List D) : Option (List D) := if xs.length ≤ sizeLine then some xs else none
theorem fits_some {xs ys : List D} (h : fits xs = some ys) : xs.length ≤ sizeLine ∧ ys = xs := by
  unfold fits at h
  split at h
  · cases h; exact ⟨by assumption, rfl⟩
  · cases h
def eTup (g : Ev → Option (List D)) : Ev → Option D := fun δ => ((g δ).bind fits).map D.tup
def eLst (g : Ev → Option (List D)) : Ev → Option S := fun δ => ((g δ).bind fits).map S.lst
theorem repTup {K : PySem.W.Frag} {H : Hp} {E : Addr → Prop} {p : Addr} {ds : List D} {xs : List V} (h : H p = some (.tup xs)) (r : Reps K H E ds xs) : Rep K H E (.tup ds) (.ref p) := by
  unfold Rep; exact ⟨p, xs, rfl, .of h, r⟩
theorem de_tup {g} {x1} (h : DA X es g) : DE X (.Tuple es x1 pos) (eTup g) := ⟨peImp (pe_tup h.pa) fun σ H Q ⟨δ, E, os, d, er, hf, k⟩ => by
  obtain ⟨r, h2, h3⟩ := Option.map_eq_some_iff.mp hf
  obtain ⟨r', h1, h2⟩ := Option.bind_eq_some_iff.mp h2
  obtain ⟨hz, e⟩ := fits_some h2
  subst e h3
  refine ⟨δ, E, os, r, er, h1, fun vs H1 E1 g1 r1 => ⟨by rw [r1.length]; exact hz, fun p hp => ?_⟩⟩
  have g2 : Gr H1 E1 (upd H1 p (.tup vs)) E1 := Gr.laid g1.dom hp
  exact k _ _ E1 (g1.trans g2) (repTup upd_same (r1.keep g2.kp))⟩
theorem df_lst {g} (h : DA X es g) : DF X (.List es pos) (eLst g) := ⟨peImp (pe_lst h.pa) fun σ H Q ⟨δ, E, os, d, er, hf, k⟩ => by
  obtain ⟨r, h2, h3⟩ := Option.map_eq_some_iff.mp hf
  obtain ⟨r', h1, h2⟩ := Option.bind_eq_some_iff.mp h2
  obtain ⟨hz, e⟩ := fits_some h2
  subst e h3
  refine ⟨δ, E, os, r, er, h1, fun vs H1 E1 g1 r1 => ⟨by rw [r1.length]; exact hz, fun p hp => ?_⟩⟩
  have g2 : Gr H1 E1 (upd H1 p (.lst vs)) E1 := Gr.laid g1.dom hp
  exact k _ _ E1 (g1.trans g2) ⟨p, vs, rfl, g1.free hp, fun q => g1.dom p q hp, upd_same, r1.keep g2.kp⟩⟩

/-! ### calls of built-ins -/
def rC (K : PySem.W.Frag) (g : List D → Option D) : List V → Hp → VK → Prop := fun xs H Q => ∃ E ds d, (∀ a, E a → H a ≠ none) ∧ RepBs K H E ds xs ∧ g ds = some d ∧ ∀ v H' E', Gr H E H' E' → Rep K H' E' d v → Q v H'
def rCF (K : PySem.W.Frag) (g : List D → Option S) : List V → Hp → VK → Prop := fun xs H Q => ∃ E ds s, (∀ a, E a → H a ≠ none) ∧ RepBs K H E ds xs ∧ g ds = some s ∧ ∀ v H' E', Gr H E H' E' → RepF K H H' E' s v → Q v H'
def CallD (X : Cx) (f : Value) (g : List D → Option D) : Prop := CallR X f (rC X.K g)
def CallF (X : Cx) (f : Value) (g : List D → Option S) : Prop := CallR X f (rCF X.K g)
def eCall (g : List D → Option D) (fa : Ev → Option (List D)) : Ev → Option D := fun δ => (fa δ).bind g
def eCallF (g : List D → Option S) (fa : Ev → Option (List D)) : Ev → Option S := fun δ => (fa δ).bind g
theorem tCB_of {K : PySem.W.Frag} {g : List D → Option D} {fa : Ev → Option (List D)} {σ : L2.St} {H : Hp} {Q : VK} (h : tD K (eCall g fa) σ H Q) : tCB (rC K g) (tDAB K fa) σ H Q := by
  obtain ⟨δ, E, os, d, er, hf, k⟩ := h
  obtain ⟨ds, h1, h2⟩ := Option.bind_eq_some_iff.mp hf
  exact ⟨δ, E, os, ds, er, h1, fun vs H1 E1 g1 r1 => ⟨E1, ds, d, g1.dom, r1, h2, fun v H' E' g3 r3 => k v H' E' (g1.trans g3) r3⟩⟩
theorem tCBF_of {K : PySem.W.Frag} {g : List D → Option S} {fa : Ev → Option (List D)} {σ : L2.St} {H : Hp} {Q : VK} (h : tDF K (eCallF g fa) σ H Q) : tCB (rCF K g) (tDAB K fa) σ H Q := by
  obtain ⟨δ, E, os, d, er, hf, k⟩ := h
  obtain ⟨ds, h1, h2⟩ := Option.bind_eq_some_iff.mp hf
  exact ⟨δ, E, os, ds, er, h1, fun vs H1 E1 g1 r1 => ⟨E1, ds, d, g1.dom, r1, h2, fun v H' E' g3 r3 => k v H' E' (g1.trans g3) (r3.earlier g1)⟩⟩
end
end DL

/-! operators, comparisons -/
namespace DL
open PySem PySem.Spec PyProof.Rows L2
section
variable {X : Cx}
/-! ### arithmetic -/
def mulOk (i j : Int) : Bool := decide (i.natAbs < 18446744073709551616) || decide (j.natAbs < 18446744073709551616) || decide (i.natAbs.log2 + j.natAbs.log2 < 1000000)
def divOk (j : Int) : Bool := decide (j ≠ 0) && (decide (j.natAbs < 1073741824) || decide (j.natAbs.log2 < 9000))
def dAdd : D → D → Option D
  | .int i, .int j => some (.int (i + j))
  | .str x, .str y => if x.length + y.length ≤ sizeLine then some (.str (x ++ y)) else none
  | .tup xs, .tup ys => (fits (xs ++ ys)).map D.tup
  | _, _ => none
def dSub : D → D → Option D
  | .int i, .int j => some (.int (i - j))
  | _, _ => none
def dMul : D → D → Option D
  | .int i, .int j => if mulOk i j = true then some (.int (i * j)) else none
  | _, _ => none
def dFdiv : D → D → Option D
  | .int i, .int j => if divOk j = true then some (.int (i.fdiv j)) else none
  | _, _ => none
def dMod : D → D → Option D
  | .int i, .int j => if j ≠ 0 then some (.int (i.fmod j)) else none
  | _, _ => none
def dPow : D → D → Option D
  | .int i, .int j => if 0 ≤ j ∧ j ≤ 1000000 ∧ i.natAbs < 18446744073709551616 then some (.int (i ^ j.toNat)) else none
  | _, _ => none
theorem repBI {K : PySem.W.Frag} {H : Hp} {E : Addr → Prop} {i : Int} {x : V} (h : RepB K H E (.int i) x) : x = .int i := by
  have h' : Rep K H E (.int i) x := h
  unfold Rep at h'; exact h'
theorem repBS {K : PySem.W.Frag} {H : Hp} {E : Addr → Prop} {i : Str} {x : V} (h : RepB K H E (.str i) x) : x = .str i := by
  have h' : Rep K H E (.str i) x := h
  unfold Rep at h'; exact h'
theorem repBB {K : PySem.W.Frag} {H : Hp} {E : Addr → Prop} {i : Bool} {x : V} (h : RepB K H E (.bl i) x) : x = .bl i := by
  have h' : Rep K H E (.bl i) x := h
  unfold Rep at h'; exact h'
theorem repBN {K : PySem.W.Frag} {H : Hp} {E : Addr → Prop} {x : V} (h : RepB K H E .non x) : x = .non := by
  have h' : Rep K H E .non x := h
  unfold Rep at h'; exact h'
theorem repBT {K : PySem.W.Frag} {H : Hp} {E : Addr → Prop} {ds : List D} {x : V} (h : RepB K H E (.tup ds) x) : ∃ a xs, x = .ref a ∧ SqT K H a xs ∧ Reps K H E ds xs := by
  have h' : Rep K H E (.tup ds) x := h
  unfold Rep at h'; exact h'
theorem repT {K : PySem.W.Frag} {H : Hp} {E : Addr → Prop} {ds : List D} {a : Addr} {xs : List V} (h : SqT K H a xs) (r : Reps K H E ds xs) : Rep K H E (.tup ds) (.ref a) := by
  unfold Rep; exact ⟨a, xs, rfl, h, r⟩
theorem Reps.isNil {K : PySem.W.Frag} {H : Hp} {E : Addr → Prop} {ds : List D} {xs : List V} (r : Reps K H E ds xs) (h : xs = []) : ds = [] := by
  have e := r.length
  rw [h] at e
  exact List.length_eq_zero_iff.mp e.symm
theorem mulOk_ok {i j : Int} (h : mulOk i j = true) : IntMulOk i j := by
  unfold mulOk at h
  simp only [Bool.or_eq_true, decide_eq_true_eq] at h
  rcases h with (h | h) | h
  · exact CMul.ok (.inl ⟨by omega, by omega⟩)
  · exact CMul.ok (.inr ⟨by omega, by omega⟩)
  · exact CMulW.ok h
theorem od_add : OpD X (binaryOp .Add) dAdd := by
  intro pins s σ H x y v u Q I rx ry h
  obtain ⟨E, d1, d2, d, hd, h1, h2, hg, k⟩ := h
  unfold dAdd at hg
  split at hg
  · cases hg
    rw [repBI h1] at rx; rw [repBI h2] at ry
    exact op_add pins s σ H _ _ v u Q I rx ry ⟨_, _, rfl, rfl, k _ H E (Gr.refl hd) repI⟩
  · split at hg
    · cases hg
      rw [repBS h1] at rx; rw [repBS h2] at ry
      exact op_add_str pins s σ H _ _ v u Q I rx ry ⟨_, _, rfl, rfl, by assumption, k _ H E (Gr.refl hd) repS⟩
    · cases hg
  · obtain ⟨r, e1, e2⟩ := Option.map_eq_some_iff.mp hg
    obtain ⟨hz, e3⟩ := fits_some e1
    subst e3 e2
    obtain ⟨a, xs, e4, q1, r1⟩ := repBT h1
    obtain ⟨b, ys, e5, q2, r2⟩ := repBT h2
    subst e4 e5
    have rr := r1.append r2
    refine op_catA pins s σ H _ _ v u Q I rx ry ⟨a, b, xs, ys, rfl, rfl, q1, q2, ?_, fun z => ?_, fun _ z => ?_, fun _ _ p hp => ?_⟩
    · rw [List.length_append] at hz; rw [r1.length, r2.length]; exact hz
    · have z1 := r1.isNil z
      subst z z1
      exact k _ H E (Gr.refl hd) (repT q2 rr)
    · have z1 := r2.isNil z
      subst z z1
      rw [List.append_nil] at k
      exact k _ H E (Gr.refl hd) (repT q1 r1)
    · have g : Gr H E (upd H p (.tup (xs ++ ys))) E := Gr.laid hd hp
      exact k _ _ E g (repTup upd_same (rr.keep g.kp))
  · cases hg
theorem od_sub : OpD X (binaryOp .Sub) dSub := by
  intro pins s σ H x y v u Q I rx ry h
  obtain ⟨E, d1, d2, d, hd, h1, h2, hg, k⟩ := h
  unfold dSub at hg
  split at hg
  · cases hg
    rw [repBI h1] at rx; rw [repBI h2] at ry
    exact op_sub pins s σ H _ _ v u Q I rx ry ⟨_, _, rfl, rfl, k _ H E (Gr.refl hd) repI⟩
  · cases hg
theorem od_mul : OpD X (binaryOp .Mult) dMul := by
  intro pins s σ H x y v u Q I rx ry h
  obtain ⟨E, d1, d2, d, hd, h1, h2, hg, k⟩ := h
  unfold dMul at hg
  split at hg
  · split at hg
    · cases hg
      rename_i hm
      rw [repBI h1] at rx; rw [repBI h2] at ry
      obtain ⟨t, rfl⟩ := rx
      obtain ⟨t', rfl⟩ := ry
      exact mul_int ⟨.int _, H, I.tok _, ⟨_, rfl⟩, k _ H E (Gr.refl hd) repI⟩ (mulOk_ok hm)
    · cases hg
  · cases hg
theorem fdivWide : OpR X (binaryOp .FloorDiv) (rI (fun _ j => j ≠ 0 ∧ j.natAbs.log2 < 9000) fun i j => .int (i.fdiv j)) := opI fun i j _ _ _ _ _ hc q => floordiv_int hc.1 q (.inl (PyProof.noPylong_of_log2 hc.2))
theorem od_fdiv : OpD X (binaryOp .FloorDiv) dFdiv := by
  intro pins s σ H x y v u Q I rx ry h
  obtain ⟨E, d1, d2, d, hd, h1, h2, hg, k⟩ := h
  unfold dFdiv at hg
  split at hg
  · split at hg
    · cases hg
      rename_i hm
      rw [repBI h1] at rx; rw [repBI h2] at ry
      unfold divOk at hm
      simp only [Bool.or_eq_true, Bool.and_eq_true, decide_eq_true_eq] at hm
      have q := k _ H E (Gr.refl hd) repI
      rcases hm.2 with h9 | h9
      · exact op_fdivN pins s σ H _ _ v u Q I rx ry ⟨_, _, rfl, rfl, ⟨hm.1, h9⟩, q⟩
      · exact fdivWide pins s σ H _ _ v u Q I rx ry ⟨_, _, rfl, rfl, ⟨hm.1, h9⟩, q⟩
    · cases hg
  · cases hg
theorem od_mod : OpD X (binaryOp .Mod) dMod := by
  intro pins s σ H x y v u Q I rx ry h
  obtain ⟨E, d1, d2, d, hd, h1, h2, hg, k⟩ := h
  unfold dMod at hg
  split at hg
  · split at hg
    · cases hg
      rw [repBI h1] at rx; rw [repBI h2] at ry
      exact op_modN pins s σ H _ _ v u Q I rx ry ⟨_, _, rfl, rfl, by assumption, k _ H E (Gr.refl hd) repI⟩
    · cases hg
  · cases hg
theorem od_pow : OpD X (binaryOp .Pow) dPow := by
  intro pins s σ H x y v u Q I rx ry h
  obtain ⟨E, d1, d2, d, hd, h1, h2, hg, k⟩ := h
  unfold dPow at hg
  split at hg
  · split at hg
    · cases hg
      rename_i hm
      rw [repBI h1] at rx; rw [repBI h2] at ry
      exact op_pow pins s σ H _ _ v u Q I rx ry ⟨_, _, rfl, rfl, ⟨hm.1, hm.2.1, by omega⟩, k _ H E (Gr.refl hd) repI⟩
    · cases hg
  · cases hg
/-- -n -/
def dNeg : D → Option D
  | .int i => some (.int (-i))
  | _ => none
theorem de_neg {a : Expr} {pos : Pos} {f} (ha : DE X a f) : DE X (.UnaryOp .USub a pos) (e1 dNeg f) := ⟨peImp (pe_un un_neg ha.pe) fun σ H Q ⟨δ, E, os, d, er, hf, k⟩ => by
  obtain ⟨x, h1, h2⟩ := Option.bind_eq_some_iff.mp hf
  refine ⟨δ, E, os, x, er, h1, fun v H' E' g r => ?_⟩
  unfold dNeg at h2
  split at h2
  · cases h2
    unfold Rep at r
    exact ⟨_, r, k _ H' E' g repI⟩
  · cases h2⟩
/-- [..] + [..] -/
def fCat : D → D → Option S
  | .lst xs, .lst ys => (fits (xs ++ ys)).map S.lst
  | _, _ => none
theorem of_cat : OpF X (binaryOp .Add) fCat := by
  intro pins s σ H x y v u Q I rx ry h
  obtain ⟨E, d1, d2, d, hd, h1, h2, hg, k⟩ := h
  unfold fCat at hg
  split at hg
  · obtain ⟨r, e1, e2⟩ := Option.map_eq_some_iff.mp hg
    obtain ⟨hz, e3⟩ := fits_some e1
    subst e3 e2
    obtain ⟨a, xs, e4, q1, r1⟩ := h1
    obtain ⟨b, ys, e5, q2, r2⟩ := h2
    subst e4 e5
    refine op_cat pins s σ H _ _ v u Q I rx ry ⟨a, b, xs, ys, rfl, rfl, q1, q2, ?_, fun p hp => ?_⟩
    · rw [List.length_append] at hz; rw [r1.length, r2.length]; exact hz
    · have g : Gr H E (upd H p (.lst (xs ++ ys))) E := Gr.laid hd hp
      exact k _ _ E g ⟨p, _, rfl, hp, fun q => hd p q hp, upd_same, (r1.append r2).keep g.kp⟩
  · cases hg
/-- [..] * n -/
noncomputable def fRep : D → D → Option S
  | .lst xs, .int k => @ite _ (-(9223372036854775808) ≤ k ∧ k < 9223372036854775808 ∧ xs.length * k.toNat ≤ sizeLine) (Classical.propDecidable _) (some (.lst (List.replicate k.toNat xs).flatten)) none
  | _, _ => none
theorem Reps.repl {K : PySem.W.Frag} {H : Hp} {E : Addr → Prop} {ds : List D} {xs : List V} (h : Reps K H E ds xs) : ∀ n, Reps K H E (List.replicate n ds).flatten (List.replicate n xs).flatten
  | 0 => .nil
  | n + 1 => by
    rw [List.replicate_succ, List.replicate_succ, List.flatten_cons, List.flatten_cons]
    exact h.append (Reps.repl h n)
theorem of_rep : OpF X (binaryOp .Mult) fRep := by
  intro pins s σ H x y v u Q I rx ry h
  obtain ⟨E, d1, d2, d, hd, h1, h2, hg, k⟩ := h
  unfold fRep at hg
  split at hg
  · split at hg
    · cases hg
      rename_i hm
      obtain ⟨a, xs, e4, q1, r1⟩ := h1
      subst e4
      rw [repBI h2] at ry
      refine op_rep pins s σ H _ _ v u Q I rx ry ⟨a, _, xs, rfl, rfl, q1, by omega, by omega, by rw [r1.length]; exact hm.2.2, fun p hp => ?_⟩
      exact k _ _ E (Gr.laid hd hp) ⟨p, _, rfl, hp, fun q => hd p q hp, upd_same, (r1.repl _).keep (Gr.laid hd hp).kp⟩
    · cases hg
  · cases hg

/-! ### order -/
def dLt : D → D → Option D
  | .int i, .int j => some (.bl (decide (i < j)))
  | .str x, .str y => some (.bl (decide (x.cps.toList < y.cps.toList)))
  | _, _ => none
def dLe : D → D → Option D
  | .int i, .int j => some (.bl (decide (i ≤ j)))
  | _, _ => none
def dGt : D → D → Option D
  | .int i, .int j => some (.bl (decide (j < i)))
  | _, _ => none
def dGe : D → D → Option D
  | .int i, .int j => some (.bl (decide (j ≤ i)))
  | _, _ => none
theorem od_lt : OpD X (compareOp .Lt) dLt := by
  intro pins s σ H x y v u Q I rx ry h
  obtain ⟨E, d1, d2, d, hd, h1, h2, hg, k⟩ := h
  unfold dLt at hg
  split at hg
  · cases hg
    rw [repBI h1] at rx; rw [repBI h2] at ry
    exact op_lt pins s σ H _ _ v u Q I rx ry ⟨_, _, rfl, rfl, k _ H E (Gr.refl hd) repBl⟩
  · cases hg
    rw [repBS h1] at rx; rw [repBS h2] at ry
    exact op_lt_str pins s σ H _ _ v u Q I rx ry ⟨_, _, rfl, rfl, k _ H E (Gr.refl hd) repBl⟩
  · cases hg
theorem od_le : OpD X (compareOp .LtE) dLe := by
  intro pins s σ H x y v u Q I rx ry h
  obtain ⟨E, d1, d2, d, hd, h1, h2, hg, k⟩ := h
  unfold dLe at hg
  split at hg
  · cases hg
    rw [repBI h1] at rx; rw [repBI h2] at ry
    exact op_le pins s σ H _ _ v u Q I rx ry ⟨_, _, rfl, rfl, k _ H E (Gr.refl hd) repBl⟩
  · cases hg
theorem od_gt : OpD X (compareOp .Gt) dGt := by
  intro pins s σ H x y v u Q I rx ry h
  obtain ⟨E, d1, d2, d, hd, h1, h2, hg, k⟩ := h
  unfold dGt at hg
  split at hg
  · cases hg
    rw [repBI h1] at rx; rw [repBI h2] at ry
    exact op_gt pins s σ H _ _ v u Q I rx ry ⟨_, _, rfl, rfl, k _ H E (Gr.refl hd) repBl⟩
  · cases hg
theorem od_ge : OpD X (compareOp .GtE) dGe := by
  intro pins s σ H x y v u Q I rx ry h
  obtain ⟨E, d1, d2, d, hd, h1, h2, hg, k⟩ := h
  unfold dGe at hg
  split at hg
  · cases hg
    rw [repBI h1] at rx; rw [repBI h2] at ry
    exact op_ge pins s σ H _ _ v u Q I rx ry ⟨_, _, rfl, rfl, k _ H E (Gr.refl hd) repBl⟩
  · cases hg

/-! ### is None -/
def dIsN : D → D → Option D
  | .non, .non => some (.bl true)
  | _, .non => some (.bl false)
  | _, _ => none
def dNotN : D → D → Option D
  | .non, .non => some (.bl false)
  | _, .non => some (.bl true)
  | _, _ => none
def D.isN : D → Bool
  | .non => true
  | _ => false
theorem repBnon {K : PySem.W.Frag} {H : Hp} {E : Addr → Prop} {d : D} {x : V} (h : RepB K H E d x) : decide (x = .non) = d.isN := by
  cases d with
  | non => rw [repBN h]; rfl
  | bl b => rw [repBB h]; rfl
  | int b => rw [repBI h]; rfl
  | str b => rw [repBS h]; rfl
  | tup ds => obtain ⟨a, xs, e, _⟩ := repBT h; rw [e]; rfl
  | lst ds => obtain ⟨a, xs, e, _⟩ := h; rw [e]; rfl
  | scr ds =>
    have h' : Rep K H E (.scr ds) x := h
    unfold Rep at h'
    obtain ⟨a, e, _⟩ := h'; rw [e]; rfl
  | dK ks ds => obtain ⟨a, xs, e, _⟩ := h; rw [e]; rfl
  | dT ks ds => obtain ⟨a, xs, e, _⟩ := h; rw [e]; rfl
theorem od_isN : OpD X (compareOp .Is) dIsN := by
  intro pins s σ H x y v u Q I rx ry h
  obtain ⟨E, d1, d2, d, hd, h1, h2, hg, k⟩ := h
  have hx := repBnon h1
  unfold dIsN at hg
  split at hg
  · cases hg
    rw [repBN h2] at ry
    exact op_isN pins s σ H _ _ v u Q I rx ry ⟨rfl, by rw [hx]; exact k _ H E (Gr.refl hd) repBl⟩
  · cases hg
    rename_i hn
    rw [repBN h2] at ry
    refine op_isN pins s σ H _ _ v u Q I rx ry ⟨rfl, ?_⟩
    have e : d1.isN = false := by
      cases d1 <;> first | rfl | exact (hn rfl).elim
    rw [hx, e]
    exact k _ H E (Gr.refl hd) repBl
  · cases hg
theorem od_notN : OpD X (compareOp .IsNot) dNotN := by
  intro pins s σ H x y v u Q I rx ry h
  obtain ⟨E, d1, d2, d, hd, h1, h2, hg, k⟩ := h
  have hx := repBnon h1
  unfold dNotN at hg
  split at hg
  · cases hg
    rw [repBN h2] at ry
    refine op_notN pins s σ H _ _ v u Q I rx ry ⟨rfl, ?_⟩
    rw [hx]
    exact k _ H E (Gr.refl hd) repBl
  · cases hg
    rename_i hn
    rw [repBN h2] at ry
    refine op_notN pins s σ H _ _ v u Q I rx ry ⟨rfl, ?_⟩
    have e : d1.isN = false := by
      cases d1 <;> first | rfl | exact (hn rfl).elim
    rw [hx, e]
    exact k _ H E (Gr.refl hd) repBl
  · cases hg
end
end DL

/-! == and in -/
namespace DL
open PySem PySem.Spec PyProof.Rows L2 PySem.SeqAt
mutual
def D.eq : D → D → Bool
  | .non, .non => true
  | .bl a, .bl b => a == b
  | .bl a, .int j => (if a then 1 else 0) == j
  | .int i, .bl b => i == (if b then 1 else 0)
  | .int i, .int j => i == j
  | .str x, .str y => x == y
  | .tup xs, .tup ys => eqs xs ys
  | .lst xs, .lst ys => eqs xs ys
  | _, _ => false
def eqs : List D → List D → Bool
  | [], [] => true
  | x :: xs, y :: ys => D.eq x y && eqs xs ys
  | _, _ => false
end
mutual
def D.dep : D → Nat
  | .tup xs => deps xs + 1
  | .lst xs => deps xs + 1
  | .scr _ => 1000
  | .dK _ _ => 1000
  | .dT _ _ => 1000
  | _ => 0
def deps : List D → Nat
  | [] => 0
  | x :: xs => max (D.dep x) (deps xs)
end
theorem deps_get : ∀ {ds : List D} {j : Nat} {d : D}, ds[j]? = some d → d.dep ≤ deps ds
  | [], _, _, h => by simp at h
  | x :: xs, 0, _, h => by simp at h; subst h; unfold deps; exact Nat.le_max_left _ _
  | x :: xs, j + 1, d, h => by
    have := deps_get (ds := xs) (j := j) (d := d) (by simpa using h)
    unfold deps
    exact Nat.le_trans this (Nat.le_max_right _ _)
theorem eqs_range : ∀ (xs ys : List D), ((List.range (min xs.length ys.length)).all (fun j => (xs.getD j .non).eq (ys.getD j .non)) && (xs.length == ys.length)) = eqs xs ys := by
  intro xs
  induction xs with
  | nil =>
    intro ys
    cases ys with
    | nil => simp [eqs]
    | cons y ys => simp [eqs]
  | cons x xs ih =>
    intro ys
    cases ys with
    | nil => simp [eqs]
    | cons y ys =>
      have h := ih ys
      unfold eqs
      rw [← h]
      have e : min (x :: xs).length (y :: ys).length = min xs.length ys.length + 1 := by simp only [List.length_cons]; omega
      rw [e, List.range_succ_eq_map, List.all_cons, List.all_map]
      have e2 : ((fun j => ((x :: xs).getD j D.non).eq ((y :: ys).getD j D.non)) ∘ Nat.succ) = fun j => (xs.getD j D.non).eq (ys.getD j D.non) := by
        funext j; simp
      rw [e2]
      simp [Bool.and_assoc]
mutual
theorem D.eq_refl : ∀ (d : D), d.dep < 1000 → d.eq d = true
  | .non, _ => by simp [D.eq]
  | .bl b, _ => by simp [D.eq]
  | .int i, _ => by simp [D.eq]
  | .str x, _ => by simp [D.eq]
  | .tup xs, h => by unfold D.dep at h; unfold D.eq; exact eqs_refl xs (by omega)
  | .lst xs, h => by unfold D.dep at h; unfold D.eq; exact eqs_refl xs (by omega)
  | .scr _, h => by unfold D.dep at h; omega
  | .dK _ _, h => by unfold D.dep at h; omega
  | .dT _ _, h => by unfold D.dep at h; omega
theorem eqs_refl : ∀ (xs : List D), deps xs < 1000 → eqs xs xs = true
  | [], _ => by simp [eqs]
  | x :: xs, h => by
    unfold deps at h
    unfold eqs
    rw [D.eq_refl x (by omega), eqs_refl xs (by omega)]
    rfl
end
section
variable {X : Cx} {pins : List (Addr × Obj)} {σ : L2.St} {H : Hp} {s : Shared} {E : Addr → Prop}
theorem sqL_of {a : Addr} {xs : List V} {K : PySem.W.Frag} (h : H a = some (.lst xs)) : SqL K H a xs := .inl (.inl h)
mutual
theorem Rep.inj (I : Inv X pins σ H s) : ∀ (d d' : D) (v : V), d.dep < 1000 → d'.dep < 1000 → RepB X.K H E d v → RepB X.K H E d' v → d = d'
  | .non, d', v, _, h', r, r' => by rw [repBN r] at r'; cases d' with
    | non => rfl
    | bl b => have := repBB r'; cases this
    | int b => have := repBI r'; cases this
    | str b => have := repBS r'; cases this
    | tup b => obtain ⟨_, _, e, _⟩ := repBT r'; cases e
    | lst b => obtain ⟨_, _, e, _⟩ := r'; cases e
    | scr b => unfold D.dep at h'; omega
    | dK b c => unfold D.dep at h'; omega
    | dT b c => unfold D.dep at h'; omega
  | .bl x, d', v, _, h', r, r' => by rw [repBB r] at r'; cases d' with
    | non => have := repBN r'; cases this
    | bl b => have := repBB r'; cases this; rfl
    | int b => have := repBI r'; cases this
    | str b => have := repBS r'; cases this
    | tup b => obtain ⟨_, _, e, _⟩ := repBT r'; cases e
    | lst b => obtain ⟨_, _, e, _⟩ := r'; cases e
    | scr b => unfold D.dep at h'; omega
    | dK b c => unfold D.dep at h'; omega
    | dT b c => unfold D.dep at h'; omega
  | .int x, d', v, _, h', r, r' => by rw [repBI r] at r'; cases d' with
    | non => have := repBN r'; cases this
    | bl b => have := repBB r'; cases this
    | int b => have := repBI r'; cases this; rfl
    | str b => have := repBS r'; cases this
    | tup b => obtain ⟨_, _, e, _⟩ := repBT r'; cases e
    | lst b => obtain ⟨_, _, e, _⟩ := r'; cases e
    | scr b => unfold D.dep at h'; omega
    | dK b c => unfold D.dep at h'; omega
    | dT b c => unfold D.dep at h'; omega
  | .str x, d', v, _, h', r, r' => by rw [repBS r] at r'; cases d' with
    | non => have := repBN r'; cases this
    | bl b => have := repBB r'; cases this
    | int b => have := repBI r'; cases this
    | str b => have := repBS r'; cases this; rfl
    | tup b => obtain ⟨_, _, e, _⟩ := repBT r'; cases e
    | lst b => obtain ⟨_, _, e, _⟩ := r'; cases e
    | scr b => unfold D.dep at h'; omega
    | dK b c => unfold D.dep at h'; omega
    | dT b c => unfold D.dep at h'; omega
  | .tup x, d', v, h, h', r, r' => by
    obtain ⟨a, xs, e, q, rr⟩ := repBT r
    subst e
    cases d' with
    | non => have := repBN r'; cases this
    | bl b => have := repBB r'; cases this
    | int b => have := repBI r'; cases this
    | str b => have := repBS r'; cases this
    | tup b =>
      obtain ⟨a', ys, e, q', rr'⟩ := repBT r'
      cases e
      have := I.tuple_inj q q'
      subst this
      unfold D.dep at h h'
      rw [Reps.inj I x b xs (by omega) (by omega) rr rr']
    | lst b =>
      obtain ⟨a', ys, e, q', rr'⟩ := r'
      cases e
      obtain ⟨_, _, ⟨_, _, h1, h2, _⟩, _⟩ := I.list (sqL_of q')
      obtain ⟨_, _, ⟨_, h3, h4, _⟩, _⟩ := I.tuple q
      rw [h1] at h3
      cases h3
      rw [h2] at h4
      simp at h4
    | scr b => unfold D.dep at h'; omega
    | dK b c => unfold D.dep at h'; omega
    | dT b c => unfold D.dep at h'; omega
  | .lst x, d', v, h, h', r, r' => by
    obtain ⟨a, xs, e, q, rr⟩ := r
    subst e
    cases d' with
    | non => have := repBN r'; cases this
    | bl b => have := repBB r'; cases this
    | int b => have := repBI r'; cases this
    | str b => have := repBS r'; cases this
    | tup b =>
      obtain ⟨a', ys, e, q', rr'⟩ := repBT r'
      cases e
      obtain ⟨_, _, ⟨_, _, h1, h2, _⟩, _⟩ := I.list (sqL_of q)
      obtain ⟨_, _, ⟨_, h3, h4, _⟩, _⟩ := I.tuple q'
      rw [h1] at h3
      cases h3
      rw [h2] at h4
      simp at h4
    | lst b =>
      obtain ⟨a', ys, e, q', rr'⟩ := r'
      cases e
      have e2 : xs = ys := by
        have : some (HO.lst xs) = some (HO.lst ys) := q.symm.trans q'
        cases this; rfl
      subst e2
      unfold D.dep at h h'
      rw [Reps.inj I x b xs (by omega) (by omega) rr rr']
    | scr b => unfold D.dep at h'; omega
    | dK b c => unfold D.dep at h'; omega
    | dT b c => unfold D.dep at h'; omega
  | .scr _, _, _, h, _, _, _ => by unfold D.dep at h; omega
  | .dK _ _, _, _, h, _, _, _ => by unfold D.dep at h; omega
  | .dT _ _, _, _, h, _, _, _ => by unfold D.dep at h; omega
theorem Reps.inj (I : Inv X pins σ H s) : ∀ (ds ds' : List D) (vs : List V), deps ds < 1000 → deps ds' < 1000 → Reps X.K H E ds vs → Reps X.K H E ds' vs → ds = ds'
  | [], ds', vs, _, _, r, r' => by
    have e1 := r.length
    have e2 := r'.length
    rw [e1] at e2
    exact (List.length_eq_zero_iff.mp e2.symm).symm
  | d :: ds, ds', vs, h, h', r, r' => by
    cases ds' with
    | nil => have e1 := r.length; have e2 := r'.length; rw [e1] at e2; simp at e2
    | cons d' ds' =>
      unfold Reps at r r'
      obtain ⟨x, t, rfl, r1, r2⟩ := r
      obtain ⟨x', t', e, r1', r2'⟩ := r'
      cases e
      unfold deps at h h'
      rw [Rep.inj I d d' x (by omega) (by omega) r1.b r1'.b, Reps.inj I ds ds' t (by omega) (by omega) r2 r2']
end
/-- what stands behind data, as the library's comparisons want it -/
inductive Kd (K : PySem.W.Frag) (H : Hp) (E : Addr → Prop) (h : Heap) : D → Value → Prop where
  | non : Kd K H E h .non .none
  | bl (b : Bool) : Kd K H E h (.bl b) (.bool b)
  | int (i : Int) (t : Tok) : Kd K H E h (.int i) (.int i t)
  | str (x : Str) (t : Tok) : Kd K H E h (.str x) (.str x t)
  | lst {ds : List D} {a : Addr} {xs : List V} {its : List Value} : h.IsList a its.toArray → Reps K H E ds xs → Vals xs its → Kd K H E h (.lst ds) (.ref a)
  | tup {ds : List D} {a : Addr} {xs : List V} {its : List Value} : h.IsTuple a its.toArray → Reps K H E ds xs → Vals xs its → Kd K H E h (.tup ds) (.ref a)
theorem kd_of (I : Inv X pins σ H s) {d : D} {x : V} {v : Value} (hd : d.dep < 1000) (r : RepB X.K H E d x) (rv : RelV x v) : Kd X.K H E s.heap d v := by
  cases d with
  | non => rw [repBN r] at rv; cases rv; exact .non
  | bl b => rw [repBB r] at rv; cases rv; exact .bl b
  | int b => rw [repBI r] at rv; obtain ⟨t, rfl⟩ := rv; exact .int b t
  | str b => rw [repBS r] at rv; obtain ⟨t, rfl⟩ := rv; exact .str b t
  | tup b =>
    obtain ⟨a, xs, e, q, rr⟩ := repBT r
    subst e
    cases rv
    obtain ⟨its, rv, p, _⟩ := I.tuple q
    exact .tup p rr rv
  | lst b =>
    obtain ⟨a, xs, e, q, rr⟩ := r
    subst e
    cases rv
    obtain ⟨its, rv, p, _⟩ := I.list (sqL_of q)
    exact .lst p.isList rr rv
  | scr b => unfold D.dep at hd; omega
  | dK b c => unfold D.dep at hd; omega
  | dT b c => unfold D.dep at hd; omega
theorem Reps.kd (I : Inv X pins σ H s) {ds : List D} {xs : List V} {its : List Value} (r : Reps X.K H E ds xs) (rv : Vals xs its) {j : Nat} (hj : j < its.toArray.size) : ∃ x, ds[j]? = some (ds.getD j .non) ∧ Rep X.K H E (ds.getD j .non) x ∧ RelV x its.toArray[j] := by
  have hj' : j < its.length := by simpa using hj
  have e1 := r.length
  have e2 := rv.length
  have hd : j < ds.length := by omega
  have hx : j < xs.length := by omega
  have g : ds[j]? = some (ds.getD j .non) := by simp [List.getD, List.getElem?_eq_getElem hd]
  obtain ⟨x, hx2, hr⟩ := r.get g
  obtain ⟨u, hu, hv⟩ := rv.get hx2
  refine ⟨x, g, hr, ?_⟩
  have : its.toArray[j] = u := by
    rw [List.getElem?_eq_getElem hj'] at hu
    simpa using hu
  rw [this]; exact hv
theorem eqAt (I : Inv X pins σ H s) : ∀ (n : Nat) (d1 d2 : D) (x y : V) (v u : Value) (A : Around), d1.dep ≤ n → n < 1000 → d2.dep < 1000 → A.units + n < cLine →
    RepB X.K H E d1 x → RepB X.K H E d2 y → RelV x v → RelV y u → EqAt A s v u (d1.eq d2) ∧ RcAt A s v u (d1.eq d2) := by
  intro n
  induction n with
  | zero =>
    intro d1 d2 x y v u A h1 hn h2 hu r1 r2 rx ry
    have k1 := kd_of I (by omega) r1 rx
    have k2 := kd_of I h2 r2 ry
    have hu0 : A.units < cLine := by omega
    cases k1 with
    | non =>
      cases k2 with
      | non => exact ⟨by unfold D.eq; exact EqAt.same _, by unfold D.eq; exact RcAt.none_none⟩
      | bl b => exact ⟨by unfold D.eq; exact EqAt.none_bool b, by unfold D.eq; exact RcAt.none_bool b⟩
      | int b u => exact ⟨by unfold D.eq; exact EqAt.none_int b u, by unfold D.eq; exact RcAt.none_int b u⟩
      | str b u => exact ⟨by unfold D.eq; exact EqAt.none_str b u, by unfold D.eq; exact RcAt.none_str b u⟩
      | lst l2 rr2 rv2 => exact ⟨by unfold D.eq; exact EqAt.none_list l2 hu0, by unfold D.eq; exact RcAt.none_list l2 hu0⟩
      | tup l2 rr2 rv2 => exact ⟨by unfold D.eq; exact EqAt.none_tuple l2 hu0, by unfold D.eq; exact RcAt.none_tuple l2 hu0⟩
    | bl a =>
      cases k2 with
      | non => exact ⟨by unfold D.eq; exact EqAt.bool_none a, by unfold D.eq; exact RcAt.bool_none a⟩
      | bl b => exact ⟨by unfold D.eq; exact EqAt.bool_bool a b, by unfold D.eq; exact RcAt.bool_bool a b⟩
      | int b u => exact ⟨by unfold D.eq; exact EqAt.bool_int a b u, by unfold D.eq; exact RcAt.bool_int a b u⟩
      | str b u => exact ⟨by unfold D.eq; exact EqAt.bool_str a b u, by unfold D.eq; exact RcAt.bool_str a b u⟩
      | lst l2 rr2 rv2 => exact ⟨by unfold D.eq; exact EqAt.bool_list a l2 hu0, by unfold D.eq; exact RcAt.bool_list a l2 hu0⟩
      | tup l2 rr2 rv2 => exact ⟨by unfold D.eq; exact EqAt.bool_tuple a l2 hu0, by unfold D.eq; exact RcAt.bool_tuple a l2 hu0⟩
    | int a t =>
      cases k2 with
      | non => exact ⟨by unfold D.eq; exact EqAt.int_none a t, by unfold D.eq; exact RcAt.int_none a t⟩
      | bl b => exact ⟨by unfold D.eq; exact EqAt.int_bool a t b, by unfold D.eq; exact RcAt.int_bool a t b⟩
      | int b u => exact ⟨by unfold D.eq; exact EqAt.int_int a t b u, by unfold D.eq; exact RcAt.int_int a t b u⟩
      | str b u => exact ⟨by unfold D.eq; exact EqAt.int_str a t b u, by unfold D.eq; exact RcAt.int_str a t b u⟩
      | lst l2 rr2 rv2 => exact ⟨by unfold D.eq; exact EqAt.int_list a t l2 hu0, by unfold D.eq; exact RcAt.int_list a t l2 hu0⟩
      | tup l2 rr2 rv2 => exact ⟨by unfold D.eq; exact EqAt.int_tuple a t l2 hu0, by unfold D.eq; exact RcAt.int_tuple a t l2 hu0⟩
    | str a t =>
      cases k2 with
      | non => exact ⟨by unfold D.eq; exact EqAt.str_none a t, by unfold D.eq; exact RcAt.str_none a t⟩
      | bl b => exact ⟨by unfold D.eq; exact EqAt.str_bool a t b, by unfold D.eq; exact RcAt.str_bool a t b⟩
      | int b u => exact ⟨by unfold D.eq; exact EqAt.str_int a t b u, by unfold D.eq; exact RcAt.str_int a t b u⟩
      | str b u => exact ⟨by unfold D.eq; exact EqAt.str_str a t b u, by unfold D.eq; exact RcAt.str_str a t b u⟩
      | lst l2 rr2 rv2 => exact ⟨by unfold D.eq; exact EqAt.str_list a t l2 hu0, by unfold D.eq; exact RcAt.str_list a t l2 hu0⟩
      | tup l2 rr2 rv2 => exact ⟨by unfold D.eq; exact EqAt.str_tuple a t l2 hu0, by unfold D.eq; exact RcAt.str_tuple a t l2 hu0⟩
    | lst l1 rr1 rv1 => unfold D.dep at h1; omega
    | tup l1 rr1 rv1 => unfold D.dep at h1; omega
  | succ n ih =>
    intro d1 d2 x y v u A h1 hn h2 hu r1 r2 rx ry
    have k1 := kd_of I (by omega) r1 rx
    have k2 := kd_of I h2 r2 ry
    have hu0 : A.units < cLine := by omega
    have hu1 : A.in1.units + n < cLine := by show A.units + 1 + n < cLine; omega
    cases k1 with
    | non =>
      cases k2 with
      | non => exact ⟨by unfold D.eq; exact EqAt.same _, by unfold D.eq; exact RcAt.none_none⟩
      | bl b => exact ⟨by unfold D.eq; exact EqAt.none_bool b, by unfold D.eq; exact RcAt.none_bool b⟩
      | int b u => exact ⟨by unfold D.eq; exact EqAt.none_int b u, by unfold D.eq; exact RcAt.none_int b u⟩
      | str b u => exact ⟨by unfold D.eq; exact EqAt.none_str b u, by unfold D.eq; exact RcAt.none_str b u⟩
      | lst l2 rr2 rv2 => exact ⟨by unfold D.eq; exact EqAt.none_list l2 hu0, by unfold D.eq; exact RcAt.none_list l2 hu0⟩
      | tup l2 rr2 rv2 => exact ⟨by unfold D.eq; exact EqAt.none_tuple l2 hu0, by unfold D.eq; exact RcAt.none_tuple l2 hu0⟩
    | bl a =>
      cases k2 with
      | non => exact ⟨by unfold D.eq; exact EqAt.bool_none a, by unfold D.eq; exact RcAt.bool_none a⟩
      | bl b => exact ⟨by unfold D.eq; exact EqAt.bool_bool a b, by unfold D.eq; exact RcAt.bool_bool a b⟩
      | int b u => exact ⟨by unfold D.eq; exact EqAt.bool_int a b u, by unfold D.eq; exact RcAt.bool_int a b u⟩
      | str b u => exact ⟨by unfold D.eq; exact EqAt.bool_str a b u, by unfold D.eq; exact RcAt.bool_str a b u⟩
      | lst l2 rr2 rv2 => exact ⟨by unfold D.eq; exact EqAt.bool_list a l2 hu0, by unfold D.eq; exact RcAt.bool_list a l2 hu0⟩
      | tup l2 rr2 rv2 => exact ⟨by unfold D.eq; exact EqAt.bool_tuple a l2 hu0, by unfold D.eq; exact RcAt.bool_tuple a l2 hu0⟩
    | int a t =>
      cases k2 with
      | non => exact ⟨by unfold D.eq; exact EqAt.int_none a t, by unfold D.eq; exact RcAt.int_none a t⟩
      | bl b => exact ⟨by unfold D.eq; exact EqAt.int_bool a t b, by unfold D.eq; exact RcAt.int_bool a t b⟩
      | int b u => exact ⟨by unfold D.eq; exact EqAt.int_int a t b u, by unfold D.eq; exact RcAt.int_int a t b u⟩
      | str b u => exact ⟨by unfold D.eq; exact EqAt.int_str a t b u, by unfold D.eq; exact RcAt.int_str a t b u⟩
      | lst l2 rr2 rv2 => exact ⟨by unfold D.eq; exact EqAt.int_list a t l2 hu0, by unfold D.eq; exact RcAt.int_list a t l2 hu0⟩
      | tup l2 rr2 rv2 => exact ⟨by unfold D.eq; exact EqAt.int_tuple a t l2 hu0, by unfold D.eq; exact RcAt.int_tuple a t l2 hu0⟩
    | str a t =>
      cases k2 with
      | non => exact ⟨by unfold D.eq; exact EqAt.str_none a t, by unfold D.eq; exact RcAt.str_none a t⟩
      | bl b => exact ⟨by unfold D.eq; exact EqAt.str_bool a t b, by unfold D.eq; exact RcAt.str_bool a t b⟩
      | int b u => exact ⟨by unfold D.eq; exact EqAt.str_int a t b u, by unfold D.eq; exact RcAt.str_int a t b u⟩
      | str b u => exact ⟨by unfold D.eq; exact EqAt.str_str a t b u, by unfold D.eq; exact RcAt.str_str a t b u⟩
      | lst l2 rr2 rv2 => exact ⟨by unfold D.eq; exact EqAt.str_list a t l2 hu0, by unfold D.eq; exact RcAt.str_list a t l2 hu0⟩
      | tup l2 rr2 rv2 => exact ⟨by unfold D.eq; exact EqAt.str_tuple a t l2 hu0, by unfold D.eq; exact RcAt.str_tuple a t l2 hu0⟩
    | lst l1 rr1 rv1 =>
      cases k2 with
      | non => exact ⟨by unfold D.eq; exact EqAt.list_none l1 hu0, by unfold D.eq; exact RcAt.list_none l1 hu0⟩
      | bl b => exact ⟨by unfold D.eq; exact EqAt.list_bool b l1 hu0, by unfold D.eq; exact RcAt.list_bool b l1 hu0⟩
      | int b u => exact ⟨by unfold D.eq; exact EqAt.list_int b u l1 hu0, by unfold D.eq; exact RcAt.list_int b u l1 hu0⟩
      | str b u => exact ⟨by unfold D.eq; exact EqAt.list_str b u l1 hu0, by unfold D.eq; exact RcAt.list_str b u l1 hu0⟩
      | tup l2 rr2 rv2 => exact ⟨by unfold D.eq; exact EqAt.list_tuple l1 l2 hu0, by unfold D.eq; exact RcAt.list_tuple l1 l2 hu0⟩
      | lst l2 rr2 rv2 =>
        rename_i ds a xs its ds2 a2 xs2 its2
        have el : ∀ j (q1 : j < its.toArray.size) (q2 : j < its2.toArray.size), EqAt A.in1 s its.toArray[j] its2.toArray[j] ((ds.getD j .non).eq (ds2.getD j .non)) := fun j q1 q2 => by
          obtain ⟨x1, g1, p1, v1⟩ := rr1.kd I rv1 q1
          obtain ⟨x2, g2, p2, v2⟩ := rr2.kd I rv2 q2
          have b1 := deps_get g1
          have b2 := deps_get g2
          unfold D.dep at h1 h2
          exact (ih _ _ x1 x2 _ _ A.in1 (by omega) (by omega) (by omega) hu1 p1.b p2.b v1 v2).1
        have z1 : its.toArray.size = ds.length := by rw [List.size_toArray, ← rv1.length, rr1.length]
        have z2 : its2.toArray.size = ds2.length := by rw [List.size_toArray, ← rv2.length, rr2.length]
        have rc : RcAt A s (.ref a) (.ref a2) (D.eq (.lst ds) (.lst ds2)) := by
          unfold D.eq
          rw [← eqs_range]
          by_cases hz : ds.length = ds2.length
          · have q := RcAt.lists l1 l2 (by rw [z1, z2, hz]) hu0 el
            rw [z1] at q
            have e3 : (ds.length == ds2.length) = true := by simp [hz]
            have e4 : min ds.length ds2.length = ds.length := by omega
            rw [e3, e4, Bool.and_true]
            exact q
          · have q := RcAt.lists_lengths (A := A) l1 l2 (by rw [z1, z2]; simpa using hz) hu0
            have e3 : (ds.length == ds2.length) = false := by simpa using hz
            rw [e3, Bool.and_false]
            exact q
        refine ⟨?_, rc⟩
        by_cases ha : a = a2
        · subst ha
          have e5 : x = y := L2.RelV.inj rx ry
          subst e5
          have e6 := Rep.inj I _ _ _ (by omega) h2 r1 r2
          rw [← e6, D.eq_refl _ (by omega)]
          exact EqAt.same _
        · exact EqAt.of_refs ha rc
    | tup l1 rr1 rv1 =>
      cases k2 with
      | non => exact ⟨by unfold D.eq; exact EqAt.tuple_none l1 hu0, by unfold D.eq; exact RcAt.tuple_none l1 hu0⟩
      | bl b => exact ⟨by unfold D.eq; exact EqAt.tuple_bool b l1 hu0, by unfold D.eq; exact RcAt.tuple_bool b l1 hu0⟩
      | int b u => exact ⟨by unfold D.eq; exact EqAt.tuple_int b u l1 hu0, by unfold D.eq; exact RcAt.tuple_int b u l1 hu0⟩
      | str b u => exact ⟨by unfold D.eq; exact EqAt.tuple_str b u l1 hu0, by unfold D.eq; exact RcAt.tuple_str b u l1 hu0⟩
      | lst l2 rr2 rv2 => exact ⟨by unfold D.eq; exact EqAt.tuple_list l1 l2 hu0, by unfold D.eq; exact RcAt.tuple_list l1 l2 hu0⟩
      | tup l2 rr2 rv2 =>
        rename_i ds a xs its ds2 a2 xs2 its2
        have el : ∀ j (q1 : j < its.toArray.size) (q2 : j < its2.toArray.size), EqAt A.in1 s its.toArray[j] its2.toArray[j] ((ds.getD j .non).eq (ds2.getD j .non)) := fun j q1 q2 => by
          obtain ⟨x1, g1, p1, v1⟩ := rr1.kd I rv1 q1
          obtain ⟨x2, g2, p2, v2⟩ := rr2.kd I rv2 q2
          have b1 := deps_get g1
          have b2 := deps_get g2
          unfold D.dep at h1 h2
          exact (ih _ _ x1 x2 _ _ A.in1 (by omega) (by omega) (by omega) hu1 p1.b p2.b v1 v2).1
        have z1 : its.toArray.size = ds.length := by rw [List.size_toArray, ← rv1.length, rr1.length]
        have z2 : its2.toArray.size = ds2.length := by rw [List.size_toArray, ← rv2.length, rr2.length]
        have rc : RcAt A s (.ref a) (.ref a2) (D.eq (.tup ds) (.tup ds2)) := by
          unfold D.eq
          rw [← eqs_range]
          have q := RcAt.tuples l1 l2 hu0 el
          rw [z1, z2] at q
          exact q
        refine ⟨?_, rc⟩
        by_cases ha : a = a2
        · subst ha
          have e5 : x = y := L2.RelV.inj rx ry
          subst e5
          have e6 := Rep.inj I _ _ _ (by omega) h2 r1 r2
          rw [← e6, D.eq_refl _ (by omega)]
          exact EqAt.same _
        · exact EqAt.of_refs ha rc
theorem anyCases (b : Bool) : b = true ∨ b = false := by cases b <;> simp
end
/-! the operators -/
section
variable {X : Cx}
def dEq (a b : D) : Option D := if a.dep ≤ 64 ∧ b.dep ≤ 64 then some (.bl (a.eq b)) else none
def dNe (a b : D) : Option D := if a.dep ≤ 64 ∧ b.dep ≤ 64 then some (.bl (!a.eq b)) else none
theorem od_eq (hu : X.A.units + 64 < cLine) : OpD X (compareOp .Eq) dEq := by
  intro pins s σ H x y v u Q I rx ry h
  obtain ⟨E, d1, d2, d, hd, h1, h2, hg, k⟩ := h
  unfold dEq at hg
  split at hg
  · rename_i hz
    cases hg
    exact (eqAt I 64 d1 d2 x y v u X.A hz.1 (by omega) (by omega) hu h1 h2 rx ry).2 X.prog X.w X.xe _ ⟨.bl _, H, I, rfl, k _ H E (Gr.refl hd) repBl⟩
  · cases hg
end
end DL

/-! != , in -/
namespace DL
open PySem PySem.Spec PyProof.Rows L2 PySem.SeqAt
section
variable {X : Cx} {pins : List (Addr × Obj)} {σ : L2.St} {H : Hp} {s : Shared} {E : Addr → Prop}
theorem neAt (I : Inv X pins σ H s) : ∀ (d1 d2 : D) (x y : V) (v u : Value) (A : Around), d1.dep ≤ 64 → d2.dep ≤ 64 → A.units + 64 < cLine →
    RepB X.K H E d1 x → RepB X.K H E d2 y → RelV x v → RelV y u → RcNeAt A s v u (!d1.eq d2) := by
    intro d1 d2 x y v u A h1 h2 hu r1 r2 rx ry
    have hu1 : A.in1.units + 63 < cLine := by show A.units + 1 + 63 < cLine; omega
    have k1 := kd_of I (by omega) r1 rx
    have k2 := kd_of I (by omega) r2 ry
    have hu0 : A.units < cLine := by omega
    cases k1 with
    | non =>
      cases k2 with
      | non => (unfold D.eq; exact RcNeAt.none_none)
      | bl b => (unfold D.eq; exact RcNeAt.none_bool b)
      | int b u => (unfold D.eq; exact RcNeAt.none_int b u)
      | str b u => (unfold D.eq; exact RcNeAt.none_str b u)
      | lst l2 rr2 rv2 => (unfold D.eq; exact RcNeAt.none_list l2 hu0)
      | tup l2 rr2 rv2 => (unfold D.eq; exact RcNeAt.none_tuple l2 hu0)
    | bl a =>
      cases k2 with
      | non => (unfold D.eq; exact RcNeAt.bool_none a)
      | bl b => (unfold D.eq; exact RcNeAt.bool_bool a b)
      | int b u => (unfold D.eq; exact RcNeAt.bool_int a b u)
      | str b u => (unfold D.eq; exact RcNeAt.bool_str a b u)
      | lst l2 rr2 rv2 => (unfold D.eq; exact RcNeAt.bool_list a l2 hu0)
      | tup l2 rr2 rv2 => (unfold D.eq; exact RcNeAt.bool_tuple a l2 hu0)
    | int a t =>
      cases k2 with
      | non => (unfold D.eq; exact RcNeAt.int_none a t)
      | bl b => (unfold D.eq; exact RcNeAt.int_bool a t b)
      | int b u => (unfold D.eq; exact RcNeAt.int_int a t b u)
      | str b u => (unfold D.eq; exact RcNeAt.int_str a t b u)
      | lst l2 rr2 rv2 => (unfold D.eq; exact RcNeAt.int_list a t l2 hu0)
      | tup l2 rr2 rv2 => (unfold D.eq; exact RcNeAt.int_tuple a t l2 hu0)
    | str a t =>
      cases k2 with
      | non => (unfold D.eq; exact RcNeAt.str_none a t)
      | bl b => (unfold D.eq; exact RcNeAt.str_bool a t b)
      | int b u => (unfold D.eq; exact RcNeAt.str_int a t b u)
      | str b u => (unfold D.eq; exact RcNeAt.str_str a t b u)
      | lst l2 rr2 rv2 => (unfold D.eq; exact RcNeAt.str_list a t l2 hu0)
      | tup l2 rr2 rv2 => (unfold D.eq; exact RcNeAt.str_tuple a t l2 hu0)
    | lst l1 rr1 rv1 =>
      cases k2 with
      | non => (unfold D.eq; exact RcNeAt.list_none l1 hu0)
      | bl b => (unfold D.eq; exact RcNeAt.list_bool b l1 hu0)
      | int b u => (unfold D.eq; exact RcNeAt.list_int b u l1 hu0)
      | str b u => (unfold D.eq; exact RcNeAt.list_str b u l1 hu0)
      | tup l2 rr2 rv2 => (unfold D.eq; exact RcNeAt.list_tuple l1 l2 hu0)
      | lst l2 rr2 rv2 =>
        rename_i ds a xs its ds2 a2 xs2 its2
        have el : ∀ j (q1 : j < its.toArray.size) (q2 : j < its2.toArray.size), EqAt A.in1 s its.toArray[j] its2.toArray[j] ((ds.getD j .non).eq (ds2.getD j .non)) := fun j q1 q2 => by
          obtain ⟨x1, g1, p1, v1⟩ := rr1.kd I rv1 q1
          obtain ⟨x2, g2, p2, v2⟩ := rr2.kd I rv2 q2
          have b1 := deps_get g1
          have b2 := deps_get g2
          unfold D.dep at h1 h2
          exact (eqAt I 63 _ _ x1 x2 _ _ A.in1 (by omega) (by omega) (by omega) hu1 p1.b p2.b v1 v2).1
        have z1 : its.toArray.size = ds.length := by rw [List.size_toArray, ← rv1.length, rr1.length]
        have z2 : its2.toArray.size = ds2.length := by rw [List.size_toArray, ← rv2.length, rr2.length]
        have rc : RcNeAt A s (.ref a) (.ref a2) (!D.eq (.lst ds) (.lst ds2)) := by
          unfold D.eq
          rw [← eqs_range]
          by_cases hz : ds.length = ds2.length
          · have q := RcNeAt.lists l1 l2 (by rw [z1, z2, hz]) hu0 el
            rw [z1] at q
            have e3 : (ds.length == ds2.length) = true := by simp [hz]
            have e4 : min ds.length ds2.length = ds.length := by omega
            rw [e3, e4, Bool.and_true]
            exact q
          · have q := RcNeAt.lists_lengths (A := A) l1 l2 (by rw [z1, z2]; simpa using hz) hu0
            have e3 : (ds.length == ds2.length) = false := by simpa using hz
            rw [e3, Bool.and_false]
            exact q
        exact rc
    | tup l1 rr1 rv1 =>
      cases k2 with
      | non => (unfold D.eq; exact RcNeAt.tuple_none l1 hu0)
      | bl b => (unfold D.eq; exact RcNeAt.tuple_bool b l1 hu0)
      | int b u => (unfold D.eq; exact RcNeAt.tuple_int b u l1 hu0)
      | str b u => (unfold D.eq; exact RcNeAt.tuple_str b u l1 hu0)
      | lst l2 rr2 rv2 => (unfold D.eq; exact RcNeAt.tuple_list l1 l2 hu0)
      | tup l2 rr2 rv2 =>
        rename_i ds a xs its ds2 a2 xs2 its2
        have el : ∀ j (q1 : j < its.toArray.size) (q2 : j < its2.toArray.size), EqAt A.in1 s its.toArray[j] its2.toArray[j] ((ds.getD j .non).eq (ds2.getD j .non)) := fun j q1 q2 => by
          obtain ⟨x1, g1, p1, v1⟩ := rr1.kd I rv1 q1
          obtain ⟨x2, g2, p2, v2⟩ := rr2.kd I rv2 q2
          have b1 := deps_get g1
          have b2 := deps_get g2
          unfold D.dep at h1 h2
          exact (eqAt I 63 _ _ x1 x2 _ _ A.in1 (by omega) (by omega) (by omega) hu1 p1.b p2.b v1 v2).1
        have z1 : its.toArray.size = ds.length := by rw [List.size_toArray, ← rv1.length, rr1.length]
        have z2 : its2.toArray.size = ds2.length := by rw [List.size_toArray, ← rv2.length, rr2.length]
        have rc : RcNeAt A s (.ref a) (.ref a2) (!D.eq (.tup ds) (.tup ds2)) := by
          unfold D.eq
          rw [← eqs_range]
          have q := RcNeAt.tuples l1 l2 hu0 el
          rw [z1, z2] at q
          exact q
        exact rc
end
section
variable {X : Cx}
theorem od_ne (hu : X.A.units + 64 < cLine) : OpD X (compareOp .NotEq) dNe := by
  intro pins s σ H x y v u Q I rx ry h
  obtain ⟨E, d1, d2, d, hd, h1, h2, hg, k⟩ := h
  unfold dNe at hg
  split at hg
  · rename_i hz
    cases hg
    exact neAt I d1 d2 x y v u X.A hz.1 hz.2 hu h1 h2 rx ry X.prog X.w X.xe _ ⟨.bl _, H, I, rfl, k _ H E (Gr.refl hd) repBl⟩
  · cases hg
/-- x in a tuple, a list -/
def dIn : D → D → Option D
  | x, .tup ds => if x.dep ≤ 64 ∧ deps ds ≤ 64 then some (.bl (ds.any fun z => z.eq x)) else none
  | x, .lst ds => if x.dep ≤ 64 ∧ deps ds ≤ 64 then some (.bl (ds.any fun z => z.eq x)) else none
  | .str x, .str y => some (.bl (!(Builtin.Str.occurrences y x 0 y.length 1).isEmpty))
  | _, _ => none
def dNotIn (x y : D) : Option D := (dIn x y).bind eNotB
where eNotB : D → Option D
  | .bl b => some (.bl (!b))
  | _ => none
/-- the library's rule wants the answer as a function of the value -/
theorem any_of {s : Shared} {pins : List (Addr × Obj)} {σ : L2.St} {H : Hp} {E : Addr → Prop} (I : Inv X pins σ H s) {ds : List D} {xs : List V} {its : List Value} (r : Reps X.K H E ds xs) (rv : Vals xs its) {dx : D} {x : V} {v : Value}
    (h1 : dx.dep ≤ 64) (h2 : deps ds ≤ 64) (rx : RepB X.K H E dx x) (rvx : RelV x v) (hu : X.A.units + 65 < cLine) : ∃ e : Value → Bool, (∀ y, y ∈ its.toArray → EqAt X.A.in1 s y v (e y)) ∧ its.toArray.any e = ds.any (fun z => z.eq dx) := by
  classical
  refine ⟨fun u => decide (∃ d y, d ∈ ds ∧ Rep X.K H E d y ∧ RelV y u ∧ d.eq dx = true), ?_, ?_⟩
  · intro u hu2
    obtain ⟨j, hj, e⟩ := Array.getElem_of_mem hu2
    obtain ⟨y, g, p, q⟩ := r.kd I rv hj
    rw [e] at q
    have b := deps_get g
    have E1 := (eqAt I 64 _ dx y x u v X.A.in1 (by omega) (by omega) (by omega) (by show X.A.units + 1 + 64 < cLine; omega) p.b rx q rvx).1
    have e2 : decide (∃ d y, d ∈ ds ∧ Rep X.K H E d y ∧ RelV y u ∧ d.eq dx = true) = (ds.getD j .non).eq dx := by
      cases hq : (ds.getD j .non).eq dx with
      | true => exact decide_eq_true ⟨_, y, List.mem_of_getElem? g, p, q, hq⟩
      | false =>
        refine decide_eq_false ?_
        rintro ⟨d', y', m, p', q', hq'⟩
        have : y = y' := L2.RelV.inj q q'
        subst this
        obtain ⟨j', hj'⟩ := List.getElem?_of_mem m
        have b' := deps_get hj'
        have := Rep.inj I _ _ _ (by omega) (by omega) p.b p'.b
        rw [← this, hq] at hq'
        cases hq'
    show EqAt X.A.in1 s u v (decide (∃ d y, d ∈ ds ∧ Rep X.K H E d y ∧ L2.RelV y u ∧ d.eq dx = true))
    rw [e2]; exact E1
  · have z1 : its.length = ds.length := by rw [← rv.length, r.length]
    rw [Bool.eq_iff_iff]
    simp only [Array.any_eq_true, List.any_eq_true]
    constructor
    · rintro ⟨j, hj, h⟩
      obtain ⟨d, y, m, _, _, h⟩ := of_decide_eq_true h
      exact ⟨d, m, h⟩
    · rintro ⟨d, m, h⟩
      obtain ⟨j, hj⟩ := List.getElem?_of_mem m
      obtain ⟨hj1, hj2⟩ := List.getElem?_eq_some_iff.mp hj
      have hj' : j < its.toArray.size := by rw [List.size_toArray]; omega
      obtain ⟨y, g, p, q⟩ := r.kd I rv hj'
      refine ⟨j, hj', decide_eq_true ⟨d, y, m, ?_, q, h⟩⟩
      rw [hj] at g
      have : d = ds.getD j .non := Option.some.inj g
      rw [this]; exact p
theorem od_in (hu : X.A.units + 65 < cLine) : OpD X (compareOp .In) dIn := by
  intro pins s σ H x y v u Q I rx ry h
  obtain ⟨E, d1, d2, d, hd, h1, h2, hg, k⟩ := h
  unfold dIn at hg
  split at hg
  · split at hg
    · rename_i hz
      cases hg
      obtain ⟨a, xs, e, q, rr⟩ := repBT h2
      subst e
      cases ry
      obtain ⟨its, rv, p, _⟩ := I.tuple q
      obtain ⟨e, he, ha⟩ := any_of I rr rv hz.1 hz.2 h1 rx hu
      refine in_tupleAt e p he ?_
      rw [ha]
      exact ⟨.bl _, H, I, rfl, k _ H E (Gr.refl hd) repBl⟩
    · cases hg
  · split at hg
    · rename_i hz
      cases hg
      obtain ⟨a, xs, e, q, rr⟩ := h2
      subst e
      cases ry
      obtain ⟨its, rv, p, _⟩ := I.list (sqL_of q)
      obtain ⟨e, he, ha⟩ := any_of I rr rv hz.1 hz.2 h1 rx hu
      refine in_listAt e p.isList he ?_
      rw [ha]
      exact ⟨.bl _, H, I, rfl, k _ H E (Gr.refl hd) repBl⟩
    · cases hg
  · cases hg
    rw [repBS h1] at rx; rw [repBS h2] at ry
    exact op_in_str pins s σ H _ _ v u Q I rx ry ⟨_, _, rfl, rfl, k _ H E (Gr.refl hd) repBl⟩
  · cases hg
theorem od_notIn (hu : X.A.units + 65 < cLine) : OpD X (compareOp .NotIn) dNotIn := by
  intro pins s σ H x y v u Q I rx ry h
  obtain ⟨E, d1, d2, d, hd, h1, h2, hg, k⟩ := h
  unfold dNotIn at hg
  obtain ⟨dd, hg, hgg⟩ := Option.bind_eq_some_iff.mp hg
  unfold dIn at hg
  split at hg
  · split at hg
    · rename_i hz
      cases hg
      cases hgg
      obtain ⟨a, xs, e, q, rr⟩ := repBT h2
      subst e
      cases ry
      obtain ⟨its, rv, p, _⟩ := I.tuple q
      obtain ⟨e, he, ha⟩ := any_of I rr rv hz.1 hz.2 h1 rx hu
      refine notIn_tupleAt e p he ?_
      rw [ha]
      exact ⟨.bl _, H, I, rfl, k _ H E (Gr.refl hd) repBl⟩
    · cases hg
  · split at hg
    · rename_i hz
      cases hg
      cases hgg
      obtain ⟨a, xs, e, q, rr⟩ := h2
      subst e
      cases ry
      obtain ⟨its, rv, p, _⟩ := I.list (sqL_of q)
      obtain ⟨e, he, ha⟩ := any_of I rr rv hz.1 hz.2 h1 rx hu
      refine notIn_listAt e p.isList he ?_
      rw [ha]
      exact ⟨.bl _, H, I, rfl, k _ H E (Gr.refl hd) repBl⟩
    · cases hg
  · cases hg
    cases hgg
    rw [repBS h1] at rx; rw [repBS h2] at ry
    exact op_notin_str pins s σ H _ _ v u Q I rx ry ⟨_, _, rfl, rfl, k _ H E (Gr.refl hd) repBl⟩
  · cases hg
end
end DL

/-! subscripts, slices, built-ins -/
namespace DL
open PySem PySem.Spec PyProof.Rows L2 PySem.SeqAt
section
variable {X : Cx} {a b e : Expr} {es : List Expr} {pos p p2 : Pos}
def IxD (X : Cx) (g : D → D → Option D) : Prop := IxR X (rD X.K g)
theorem de_ix {g fa fb} (o : IxD X g) (ha : DB X a fa) (hb : DB X b fb) (hs : PlainIx b := by intro _ _; rfl) : DE X (.Subscript a b pos) (e2 g fa fb) :=
  ⟨peImp (pe_ix o ha.pe hb.pe hs) fun σ H Q h => tOp_of h⟩
def dIx : D → D → Option D
  | .tup ds, .int i => atI ds i
  | .lst ds, .int i => atI ds i
  | .scr ns, .int i => (atI ns i).map D.int
  | .str x, .int i => if x.length ≤ sizeLine then (atI x.cps.toList i).map fun c => .str ⟨#[c]⟩ else none
  | _, _ => none
theorem Reps.atI {K : PySem.W.Frag} {H : Hp} {E : Addr → Prop} {ds : List D} {xs : List V} {i : Int} {d : D} (r : Reps K H E ds xs) (h : L2.atI ds i = some d) : ∃ x, L2.atI xs i = some x ∧ Rep K H E d x := by
  unfold L2.atI at h ⊢
  obtain ⟨j, h1, h2⟩ := Option.bind_eq_some_iff.mp h
  obtain ⟨x, h3, h4⟩ := r.get h2
  rw [r.length]
  exact ⟨x, Option.bind_eq_some_iff.mpr ⟨j, h1, h3⟩, h4⟩
theorem atI_map {α β : Type} {f : α → β} {xs : List α} {i : Int} : L2.atI (xs.map f) i = (L2.atI xs i).map f := by
  unfold L2.atI
  rw [List.length_map]
  cases ixN xs.length i with
  | none => rfl
  | some j => simp
theorem ix_d : IxD X dIx := by
  intro value slice pins s σ H x y v u Q I rx ry h hs
  obtain ⟨E, d1, d2, d, hd, h1, h2, hg, k⟩ := h
  unfold dIx at hg
  split at hg
  · obtain ⟨a, xs, e, q, rr⟩ := repBT h1
    subst e
    rw [repBI h2] at ry
    obtain ⟨z, hz, hr⟩ := rr.atI hg
    exact ix_tup value slice pins s σ H _ _ v u Q I rx ry ⟨a, xs, _, z, rfl, rfl, q, hz, k _ H E (Gr.refl hd) hr⟩ hs
  · obtain ⟨a, xs, e, q, rr⟩ := h1
    subst e
    rw [repBI h2] at ry
    obtain ⟨z, hz, hr⟩ := rr.atI hg
    exact ix_list value slice pins s σ H _ _ v u Q I rx ry ⟨a, xs, _, z, rfl, rfl, sqL_of q, hz, k _ H E (Gr.refl hd) hr⟩ hs
  · have h' : Rep X.K H E (.scr _) x := h1
    unfold Rep at h'
    obtain ⟨a, e, q⟩ := h'
    subst e
    rw [repBI h2] at ry
    obtain ⟨n, hn, e⟩ := Option.map_eq_some_iff.mp hg
    subst e
    exact ix_list value slice pins s σ H _ _ v u Q I rx ry ⟨a, _, _, .int n, rfl, rfl, q.1, by rw [atI_map, hn]; rfl, k _ H E (Gr.refl hd) repI⟩ hs
  · split at hg
    · rename_i hz
      rw [repBS h1] at rx; rw [repBI h2] at ry
      obtain ⟨n, hn, e⟩ := Option.map_eq_some_iff.mp hg
      subst e
      exact ix_str value slice pins s σ H _ _ v u Q I rx ry ⟨_, _, n, rfl, rfl, hz, hn, k _ H E (Gr.refl hd) repS⟩ hs
    · cases hg
  · cases hg

/-! ### slices -/
def cut {α : Type} (xs : List α) (lo hi : Option Int) : List α := (xs.drop (HT.sIx xs.length 0 lo)).take (HT.sIx xs.length xs.length hi - HT.sIx xs.length 0 lo)
def dSl : D → Option Int → Option Int → Option D
  | .tup ds, lo, hi => some (.tup (cut ds lo hi))
  | .str x, lo, hi => if x.length ≤ sizeLine then some (.str (cutS x lo hi)) else none
  | _, _, _ => none
def fSl : D → Option Int → Option Int → Option S
  | .lst ds, lo, hi => some (.lst (cut ds lo hi))
  | _, _, _ => none
def ePart (f : Ev → Option D) : Ev → Option (Option Int) := fun δ => (f δ).bind fun x => match x with
  | .int i => some (some i)
  | _ => none
def eNoPart : Ev → Option (Option Int) := fun _ => some none
def tPartD (K : PySem.W.Frag) (f : Ev → Option (Option Int)) : TO := fun σ H Q => ∃ δ E os o, ER K H E δ σ os ∧ f δ = some o ∧ ∀ H' E', Gr H E H' E' → Q o H'
structure DP (X : Cx) (e : Option Expr) (f : Ev → Option (Option Int)) : Prop where
  po : PO X e (tPartD X.K f)
theorem dp_none : DP X none eNoPart := ⟨⟨fun pins s σ H Q I ⟨δ, E, os, o, er, hf, k⟩ => po_none.run pins s σ H Q I (by cases hf; exact k H E er.gr0)⟩⟩
theorem dp_some {f} (h : DE X e f) : DP X (some e) (ePart f) := ⟨⟨fun pins s σ H Q I ⟨δ, E, os, o, er, hf, k⟩ => (po_some h.pe).run pins s σ H Q I (by
  obtain ⟨d, h1, h2⟩ := Option.bind_eq_some_iff.mp hf
  refine ⟨δ, E, os, d, er, h1, fun v H' E' g r => ?_⟩
  split at h2
  · cases h2
    unfold Rep at r
    exact ⟨_, r, k H' E' g⟩
  · cases h2)⟩⟩
def eSl (f : Ev → Option D) (lo hi : Ev → Option (Option Int)) : Ev → Option D := fun δ => (f δ).bind fun x => (lo δ).bind fun l => (hi δ).bind fun h => dSl x l h
def eSlF (f : Ev → Option D) (lo hi : Ev → Option (Option Int)) : Ev → Option S := fun δ => (f δ).bind fun x => (lo δ).bind fun l => (hi δ).bind fun h => fSl x l h
def rSlD (K : PySem.W.Frag) : V → Option Int → Option Int → Hp → VK → Prop := fun x lo hi H Q => ∃ E d1 d, (∀ a, E a → H a ≠ none) ∧ RepB K H E d1 x ∧ dSl d1 lo hi = some d ∧ ∀ v H' E', Gr H E H' E' → Rep K H' E' d v → Q v H'
def rSlF (K : PySem.W.Frag) : V → Option Int → Option Int → Hp → VK → Prop := fun x lo hi H Q => ∃ E d1 d, (∀ a, E a → H a ≠ none) ∧ RepB K H E d1 x ∧ fSl d1 lo hi = some d ∧ ∀ v H' E', Gr H E H' E' → RepF K H H' E' d v → Q v H'
theorem Reps.cut {K : PySem.W.Frag} {H : Hp} {E : Addr → Prop} {ds : List D} {xs : List V} (r : Reps K H E ds xs) (lo hi : Option Int) : Reps K H E (DL.cut ds lo hi) (cutV xs lo hi) := by
  unfold DL.cut cutV
  rw [r.length]
  exact (r.drop _).take _
theorem cut_whole {ds : List D} {lo hi : Option Int} (h : HT.sIx ds.length 0 lo = 0 ∧ HT.sIx ds.length ds.length hi = ds.length) : cut ds lo hi = ds := by
  unfold cut
  rw [h.1, h.2]
  simp
theorem sl_d : SlR X (rSlD X.K) := by
  intro pins s σ H x v vl vu lo hi sl Q I rx hs pl pu h
  obtain ⟨E, d1, d, hd, h1, hg, k⟩ := h
  unfold dSl at hg
  split at hg
  · cases hg
    obtain ⟨a, xs, e, q, rr⟩ := repBT h1
    subst e
    refine sl_tupA pins s σ H _ v vl vu _ _ sl Q I rx hs pl pu ⟨a, xs, rfl, q, fun hw => ?_, fun _ p hp => ?_⟩
    · rw [rr.length] at hw
      exact k _ H E (Gr.refl hd) (by rw [cut_whole hw]; exact repT q rr)
    · have g := Gr.laid (E := E) (o := .tup (cutV xs lo hi)) hd hp
      exact k _ _ E g (repTup upd_same ((rr.cut lo hi).keep g.kp))
  · split at hg
    · cases hg
      rw [repBS h1] at rx
      exact L2.sl_str pins s σ H _ v vl vu _ _ sl Q I rx hs pl pu ⟨_, rfl, by assumption, k _ H E (Gr.refl hd) repS⟩
    · cases hg
  · cases hg
theorem sl_f : SlR X (rSlF X.K) := by
  intro pins s σ H x v vl vu lo hi sl Q I rx hs pl pu h
  obtain ⟨E, d1, d, hd, h1, hg, k⟩ := h
  unfold fSl at hg
  split at hg
  · cases hg
    obtain ⟨a, xs, e, q, rr⟩ := h1
    subst e
    refine sl_list pins s σ H _ v vl vu _ _ sl Q I rx hs pl pu ⟨a, xs, rfl, sqL_of q, fun p hp => ?_⟩
    have g := Gr.laid (E := E) (o := .lst (cutV xs lo hi)) hd hp
    exact k _ _ E g ⟨p, _, rfl, hp, fun q => hd p q hp, upd_same, (rr.cut lo hi).keep g.kp⟩
  · cases hg
theorem de_sl {f} {lo hi : Option Expr} {fl fh} (h : DB X e f) (hl : DP X lo fl) (hh : DP X hi fh) : DE X (.Subscript e (.Slice lo hi none p2) pos) (eSl f fl fh) := ⟨peImp (pe_slice sl_d h.pe hl.po hh.po) fun σ H Q ⟨δ, E, os, d, er, hf, k⟩ => by
  obtain ⟨x, h1, h2⟩ := Option.bind_eq_some_iff.mp hf
  obtain ⟨l, h2, h3⟩ := Option.bind_eq_some_iff.mp h2
  obtain ⟨u, h3, h4⟩ := Option.bind_eq_some_iff.mp h3
  refine ⟨δ, E, os, x, er, h1, fun v H1 E1 g1 r1 => ⟨δ, E1, os, l, er.grow g1, h2, fun H2 E2 g2 => ⟨δ, E2, os, u, (er.grow g1).grow g2, h3, fun H3 E3 g3 => ?_⟩⟩⟩
  exact ⟨E3, x, d, g3.dom, (r1.grow g2).grow g3, h4, fun v H' E' g r => k v H' E' (((g1.trans g2).trans g3).trans g) r⟩⟩
theorem df_sl {f} {lo hi : Option Expr} {fl fh} (h : DB X e f) (hl : DP X lo fl) (hh : DP X hi fh) : DF X (.Subscript e (.Slice lo hi none p2) pos) (eSlF f fl fh) := ⟨peImp (pe_slice sl_f h.pe hl.po hh.po) fun σ H Q ⟨δ, E, os, d, er, hf, k⟩ => by
  obtain ⟨x, h1, h2⟩ := Option.bind_eq_some_iff.mp hf
  obtain ⟨l, h2, h3⟩ := Option.bind_eq_some_iff.mp h2
  obtain ⟨u, h3, h4⟩ := Option.bind_eq_some_iff.mp h3
  refine ⟨δ, E, os, x, er, h1, fun v H1 E1 g1 r1 => ⟨δ, E1, os, l, er.grow g1, h2, fun H2 E2 g2 => ⟨δ, E2, os, u, (er.grow g1).grow g2, h3, fun H3 E3 g3 => ?_⟩⟩⟩
  exact ⟨E3, x, d, g3.dom, (r1.grow g2).grow g3, h4, fun v H' E' g r => k v H' E' (((g1.trans g2).trans g3).trans g) (r.earlier ((g1.trans g2).trans g3))⟩⟩

/-! ### calls -/
variable {x : Str} {id T : String}
theorem de_callB {g fa} (hc : CallD X (.builtin id) g) (hg : Gl X x) (hm : X.mg x = none) (hv : bootBuiltins x = some (.builtin id)) (ha : DAB X (e :: es) fa) (hn : x ≠ "__name__" := by decide) (hdb : (x == ("__debug__" : Str)) = false := by decide)
    (he : starEach (e :: es) X.env = (false, eval e X.env) :: starEach es X.env := by rfl) (hpl : (backTo pos (starEach es X.env)).any (·.1) = false := by rfl) : DE X (.Call (.Name x p) (e :: es) [] pos) (eCall g fa) :=
  ⟨peImp (pe_callB hc hg hm hv ha.pa hn hdb he hpl) fun σ H Q h => tCB_of h⟩
theorem df_callB {g fa} (hc : CallF X (.builtin id) g) (hg : Gl X x) (hm : X.mg x = none) (hv : bootBuiltins x = some (.builtin id)) (ha : DAB X (e :: es) fa) (hn : x ≠ "__name__" := by decide) (hdb : (x == ("__debug__" : Str)) = false := by decide)
    (he : starEach (e :: es) X.env = (false, eval e X.env) :: starEach es X.env := by rfl) (hpl : (backTo pos (starEach es X.env)).any (·.1) = false := by rfl) : DF X (.Call (.Name x p) (e :: es) [] pos) (eCallF g fa) :=
  ⟨peImp (pe_callB hc hg hm hv ha.pa hn hdb he hpl) fun σ H Q h => tCBF_of h⟩
theorem de_callT {g fa} (hc : CallD X (.type T) g) (hg : Gl X x) (hm : X.mg x = none) (hv : bootBuiltins x = some (.type T)) (ha : DAB X (e :: es) fa) (hn : x ≠ "__name__" := by decide) (hdb : (x == ("__debug__" : Str)) = false := by decide)
    (he : starEach (e :: es) X.env = (false, eval e X.env) :: starEach es X.env := by rfl) (hpl : (backTo pos (starEach es X.env)).any (·.1) = false := by rfl) : DE X (.Call (.Name x p) (e :: es) [] pos) (eCall g fa) :=
  ⟨peImp (pe_callTy hc hg hm hv ha.pa hn hdb he hpl) fun σ H Q h => tCB_of h⟩
theorem df_callT {g fa} (hc : CallF X (.type T) g) (hg : Gl X x) (hm : X.mg x = none) (hv : bootBuiltins x = some (.type T)) (ha : DAB X (e :: es) fa) (hn : x ≠ "__name__" := by decide) (hdb : (x == ("__debug__" : Str)) = false := by decide)
    (he : starEach (e :: es) X.env = (false, eval e X.env) :: starEach es X.env := by rfl) (hpl : (backTo pos (starEach es X.env)).any (·.1) = false := by rfl) : DF X (.Call (.Name x p) (e :: es) [] pos) (eCallF g fa) :=
  ⟨peImp (pe_callTy hc hg hm hv ha.pa hn hdb he hpl) fun σ H Q h => tCBF_of h⟩
theorem repB1 {K : PySem.W.Frag} {H : Hp} {E : Addr → Prop} {d : D} {xs : List V} (h : RepBs K H E [d] xs) : ∃ x, xs = [x] ∧ RepB K H E d x := by
  obtain ⟨x, r, rfl, h1, h2⟩ := h
  have h2' : r = [] := h2
  subst h2'
  exact ⟨x, rfl, h1⟩
theorem repB2 {K : PySem.W.Frag} {H : Hp} {E : Addr → Prop} {d d' : D} {xs : List V} (h : RepBs K H E [d, d'] xs) : ∃ x y, xs = [x, y] ∧ RepB K H E d x ∧ RepB K H E d' y := by
  obtain ⟨x, r, rfl, h1, h2⟩ := h
  obtain ⟨y, rfl, h3⟩ := repB1 h2
  exact ⟨x, y, rfl, h1, h3⟩
def cLen : List D → Option D
  | [.str y] => if y.length ≤ sizeLine then some (.int y.length) else none
  | [.tup ds] => some (.int ds.length)
  | [.lst ds] => some (.int ds.length)
  | [.scr ds] => some (.int ds.length)
  | _ => none
theorem cd_len : CallD X (.builtin "len") cLen := by
  intro pins s σ H xs us Q I r h
  obtain ⟨E, ds, d, hd, h1, hg, k⟩ := h
  unfold cLen at hg
  split at hg
  · split at hg
    · cases hg
      obtain ⟨x, rfl, r1⟩ := repB1 h1
      rw [repBS r1] at r
      exact L2.call_len pins s σ H _ us Q I r ⟨_, _, rfl, ⟨by assumption, rfl⟩, k _ H E (Gr.refl hd) repI⟩
    · cases hg
  · cases hg
    obtain ⟨x, rfl, r1⟩ := repB1 h1
    obtain ⟨a, xs, rfl, q, rr⟩ := repBT r1
    exact L2.call_len pins s σ H _ us Q I r ⟨_, _, rfl, .inr ⟨_, q, rfl⟩, by rw [rr.length]; exact k _ H E (Gr.refl hd) repI⟩
  · cases hg
    obtain ⟨x, rfl, r1⟩ := repB1 h1
    obtain ⟨a, xs, rfl, q, rr⟩ := r1
    exact L2.call_len pins s σ H _ us Q I r ⟨_, _, rfl, .inl ⟨_, sqL_of q, rfl⟩, by rw [rr.length]; exact k _ H E (Gr.refl hd) repI⟩
  · cases hg
    obtain ⟨x, rfl, r1⟩ := repB1 h1
    have h' : Rep X.K H E (.scr _) x := r1
    unfold Rep at h'
    obtain ⟨a, rfl, q⟩ := h'
    exact L2.call_len pins s σ H _ us Q I r ⟨_, _, rfl, .inl ⟨_, q.1, rfl⟩, by rw [List.length_map]; exact k _ H E (Gr.refl hd) repI⟩
  · cases hg
def cAbs : List D → Option D
  | [.int i] => some (.int (i.natAbs : Int))
  | _ => none
theorem cd_abs : CallD X (.builtin "abs") cAbs := by
  intro pins s σ H xs us Q I r h
  obtain ⟨E, ds, d, hd, h1, hg, k⟩ := h
  unfold cAbs at hg
  split at hg
  · cases hg
    obtain ⟨x, rfl, r1⟩ := repB1 h1
    rw [repBI r1] at r
    rename_i i
    refine L2.call_abs pins s σ H _ us Q I r ⟨i, rfl, ?_⟩
    have e : (if i < 0 then -i else i) = (i.natAbs : Int) := by split <;> omega
    rw [e]
    exact k _ H E (Gr.refl hd) repI
  · cases hg
def cInt : List D → Option D
  | [.int i] => some (.int i)
  | [.bl b] => some (.int (if b then 1 else 0))
  | _ => none
theorem cd_int : CallD X (.type "int") cInt := by
  intro pins s σ H xs us Q I r h
  obtain ⟨E, ds, d, hd, h1, hg, k⟩ := h
  unfold cInt at hg
  split at hg
  · cases hg
    obtain ⟨x, rfl, r1⟩ := repB1 h1
    rw [repBI r1] at r
    exact L2.call_int1 pins s σ H _ us Q I r (.inl ⟨_, rfl, k _ H E (Gr.refl hd) repI⟩)
  · cases hg
    obtain ⟨x, rfl, r1⟩ := repB1 h1
    rw [repBB r1] at r
    exact L2.call_int1 pins s σ H _ us Q I r (.inr ⟨_, rfl, k _ H E (Gr.refl hd) repI⟩)
  · cases hg
/-- ints alone -/
def allInt : List D → Option (List Int)
  | [] => some []
  | .int i :: r => (allInt r).map fun t => i :: t
  | _ :: _ => none
theorem allInt_map : ∀ (ns : List Int), allInt (ns.map D.int) = some ns
  | [] => rfl
  | n :: ns => by rw [List.map_cons]; unfold allInt; rw [allInt_map ns]; rfl
theorem allInt_some : ∀ {ds : List D} {ns : List Int}, allInt ds = some ns → ds = ns.map D.int
  | [], ns, h => by unfold allInt at h; cases h; rfl
  | d :: ds, ns, h => by
    unfold allInt at h
    split at h
    · rename_i e
      cases e
    · rename_i i r e
      cases e
      obtain ⟨t, h1, h2⟩ := Option.map_eq_some_iff.mp h
      subst h2
      rw [List.map_cons, ← allInt_some h1]
    · cases h
def minI : Int → List Int → Int
  | m, [] => m
  | m, x :: xs => minI (if x < m then x else m) xs
def maxI : Int → List Int → Int
  | m, [] => m
  | m, x :: xs => maxI (if x > m then x else m) xs
theorem minI_spec : ∀ (xs : List Int) (m : Int), (minI m xs = m ∨ minI m xs ∈ xs) ∧ minI m xs ≤ m ∧ ∀ y ∈ xs, minI m xs ≤ y
  | [], m => ⟨.inl rfl, Int.le_refl _, fun _ h => by cases h⟩
  | x :: xs, m => by
    unfold minI
    obtain ⟨h1, h2, h3⟩ := minI_spec xs (if x < m then x else m)
    by_cases hx : x < m
    · rw [if_pos hx] at h1 h2 h3 ⊢
      refine ⟨.inr ?_, by omega, fun y hy => ?_⟩
      · rcases h1 with h1 | h1
        · rw [h1]; exact List.mem_cons_self
        · exact List.mem_cons_of_mem _ h1
      · rcases List.mem_cons.mp hy with e | hy
        · subst e; exact h2
        · exact h3 y hy
    · rw [if_neg hx] at h1 h2 h3 ⊢
      refine ⟨?_, h2, fun y hy => ?_⟩
      · rcases h1 with h1 | h1
        · exact .inl h1
        · exact .inr (List.mem_cons_of_mem _ h1)
      · rcases List.mem_cons.mp hy with e | hy
        · subst e; omega
        · exact h3 y hy
theorem maxI_spec : ∀ (xs : List Int) (m : Int), (maxI m xs = m ∨ maxI m xs ∈ xs) ∧ m ≤ maxI m xs ∧ ∀ y ∈ xs, y ≤ maxI m xs
  | [], m => ⟨.inl rfl, Int.le_refl _, fun _ h => by cases h⟩
  | x :: xs, m => by
    unfold maxI
    obtain ⟨h1, h2, h3⟩ := maxI_spec xs (if x > m then x else m)
    by_cases hx : x > m
    · rw [if_pos hx] at h1 h2 h3 ⊢
      refine ⟨.inr ?_, by omega, fun y hy => ?_⟩
      · rcases h1 with h1 | h1
        · rw [h1]; exact List.mem_cons_self
        · exact List.mem_cons_of_mem _ h1
      · rcases List.mem_cons.mp hy with e | hy
        · subst e; exact h2
        · exact h3 y hy
    · rw [if_neg hx] at h1 h2 h3 ⊢
      refine ⟨?_, h2, fun y hy => ?_⟩
      · rcases h1 with h1 | h1
        · exact .inl h1
        · exact .inr (List.mem_cons_of_mem _ h1)
      · rcases List.mem_cons.mp hy with e | hy
        · subst e; omega
        · exact h3 y hy
def cMin : List D → Option D
  | [.int i, .int j] => some (.int (if j < i then j else i))
  | [.lst ds] => (allInt ds).bind fun ns => match ns with
    | [] => none
    | m :: r => some (.int (minI m r))
  | _ => none
def cMax : List D → Option D
  | [.int i, .int j] => some (.int (if j > i then j else i))
  | [.lst ds] => (allInt ds).bind fun ns => match ns with
    | [] => none
    | m :: r => some (.int (maxI m r))
  | _ => none
theorem cd_min (hc : X.calm = true) : CallD X (.builtin "min") cMin := by
  intro pins s σ H xs us Q I r h
  obtain ⟨E, ds, d, hd, h1, hg, k⟩ := h
  unfold cMin at hg
  split at hg
  · cases hg
    obtain ⟨x, y, rfl, r1, r2⟩ := repB2 h1
    rw [repBI r1, repBI r2] at r
    exact L2.call_min2 hc pins s σ H _ us Q I r ⟨_, _, rfl, k _ H E (Gr.refl hd) repI⟩
  · obtain ⟨ns, g1, g2⟩ := Option.bind_eq_some_iff.mp hg
    have e := allInt_some g1
    subst e
    obtain ⟨x, rfl, r1⟩ := repB1 h1
    obtain ⟨a, xs, rfl, q, rr⟩ := r1
    have e2 := rr.ints
    subst e2
    cases ns with
    | nil => cases g2
    | cons m t =>
      cases g2
      refine L2.cr_min hc pins s σ H _ us Q I r ⟨a, m :: t, rfl, sqL_of q, by simp, fun m' h3 h4 => ?_⟩
      obtain ⟨s1, s2, s3⟩ := minI_spec t m
      have e3 : m' = minI m t := by
        have le1 : m' ≤ minI m t := h4 _ (by rcases s1 with z | z; rw [z]; exact List.mem_cons_self; exact List.mem_cons_of_mem _ z)
        have le2 : minI m t ≤ m' := by
          rcases List.mem_cons.mp h3 with z | z
          · rw [z]; exact s2
          · exact s3 _ z
        omega
      rw [e3]
      exact k _ H E (Gr.refl hd) repI
  · cases hg
theorem cd_max (hc : X.calm = true) : CallD X (.builtin "max") cMax := by
  intro pins s σ H xs us Q I r h
  obtain ⟨E, ds, d, hd, h1, hg, k⟩ := h
  unfold cMax at hg
  split at hg
  · cases hg
    obtain ⟨x, y, rfl, r1, r2⟩ := repB2 h1
    rw [repBI r1, repBI r2] at r
    exact L2.call_max2 hc pins s σ H _ us Q I r ⟨_, _, rfl, k _ H E (Gr.refl hd) repI⟩
  · obtain ⟨ns, g1, g2⟩ := Option.bind_eq_some_iff.mp hg
    have e := allInt_some g1
    subst e
    obtain ⟨x, rfl, r1⟩ := repB1 h1
    obtain ⟨a, xs, rfl, q, rr⟩ := r1
    have e2 := rr.ints
    subst e2
    cases ns with
    | nil => cases g2
    | cons m t =>
      cases g2
      refine L2.cr_max hc pins s σ H _ us Q I r ⟨a, m :: t, rfl, sqL_of q, by simp, fun m' h3 h4 => ?_⟩
      obtain ⟨s1, s2, s3⟩ := maxI_spec t m
      have e3 : m' = maxI m t := by
        have le1 : maxI m t ≤ m' := h4 _ (by rcases s1 with z | z; rw [z]; exact List.mem_cons_self; exact List.mem_cons_of_mem _ z)
        have le2 : m' ≤ maxI m t := by
          rcases List.mem_cons.mp h3 with z | z
          · rw [z]; exact s2
          · exact s3 _ z
        omega
      rw [e3]
      exact k _ H E (Gr.refl hd) repI
  · cases hg
end
end DL

/-! sum, tuple, list, all, any, isinstance -/
namespace DL
open PySem PySem.Spec PyProof.Rows L2 PySem.SeqAt
section
variable {X : Cx} {a b e : Expr} {es : List Expr} {pos p p2 : Pos}
theorem preSum_getD (ns : List Int) : ∀ j, preSum (fun i => ns.getD i 0) j = (ns.take j).sum
  | 0 => by simp [preSum]
  | j + 1 => by
    rw [preSum, preSum_getD ns j]
    by_cases h : j < ns.length
    · have e : ns.take (j + 1) = ns.take j ++ [ns[j]] := List.take_succ_eq_append_getElem h
      rw [e, List.sum_append]
      simp [List.getD, List.getElem?_eq_getElem h]
    · rw [List.take_of_length_le (by omega), List.take_of_length_le (by omega)]
      simp [List.getD, List.getElem?_eq_none (Nat.le_of_not_lt h)]
theorem sum_tupleG {prog : Program} {w : World} {A : Around} {E : Value → Shared → Prop} {s : Shared} {l : Addr} {its : List Value} {ns : List Int} {Q : Value → Shared → Prop} (hh : A.handled = none) (hl : s.heap.IsTuple l its.toArray) (hi : IntsAre its ns)
    (h : ∀ h' tk t', (∀ b o, s.heap.get? b = some o → h'.get? b = some o) → Q (.int ns.sum t') { s with heap := h', toks := tk }) : wpAny (model prog w) A (call (.builtin "sum") [.ref l]) Q E s := by
  have hlt : l < s.heap.objs.size := by obtain ⟨_, e, _⟩ := hl; exact Heap.lt_size e
  refine call_sum_walkG (wpAny_pyIter_tuple hl ?_)
  refine ⟨_, _, _, _, _, _, (fun i => ns.getD i 0), rfl, Walks.tuple (A := A.in1) hh _ l (Nat.ne_of_lt hlt) its.toArray, ⟨⟨_, Heap.get?_push_size _ rfl, rfl, rfl⟩, hl.push _⟩, fun b hb => ?_, fun i v hv => ?_, fun h' tk t' hk => ?_⟩
  · simp only [List.mem_cons, List.not_mem_nil, or_false] at hb
    rw [Heap.size_push]
    rcases hb with hb | hb
    · rw [hb]; exact Nat.lt_succ_self _
    · rw [hb]; exact Nat.lt_succ_of_lt hlt
  · have hv' : its.toArray[i]? = some v := hv
    obtain ⟨hi1, hi2⟩ := Array.getElem?_eq_some_iff.mp hv'
    have hi3 : its[i]? = some v := by simpa using hv'
    exact IntsAre.int_at hi _ _ hi3
  · have := h h' tk t' fun b o e => hk b o (by simp; exact Nat.ne_of_lt (Heap.lt_size e)) (Heap.get?_push_of_some _ e)
    rw [preSum_getD]
    have e : its.toArray.size = ns.length := by rw [List.size_toArray]; exact hi.length
    rw [e, List.take_of_length_le (Nat.le_refl _)]
    exact this
def cSum : List D → Option D
  | [.lst ds] => (allInt ds).map fun ns => .int ns.sum
  | [.tup ds] => (allInt ds).map fun ns => .int ns.sum
  | _ => none
theorem cd_sum (hc : X.calm = true) : CallD X (.builtin "sum") cSum := by
  intro pins s σ H xs us Q I r h
  obtain ⟨E, ds, d, hd, h1, hg, k⟩ := h
  unfold cSum at hg
  split at hg
  · obtain ⟨ns, g1, g2⟩ := Option.map_eq_some_iff.mp hg
    have e := allInt_some g1
    subst e g2
    obtain ⟨x, rfl, r1⟩ := repB1 h1
    obtain ⟨a, xs, rfl, q, rr⟩ := r1
    have e2 := rr.ints
    subst e2
    exact L2.cr_sum hc pins s σ H _ us Q I r ⟨a, ns, rfl, sqL_of q, k _ H E (Gr.refl hd) repI⟩
  · obtain ⟨ns, g1, g2⟩ := Option.map_eq_some_iff.mp hg
    have e := allInt_some g1
    subst e g2
    obtain ⟨x, rfl, r1⟩ := repB1 h1
    obtain ⟨a, xs, rfl, q, rr⟩ := repBT r1
    have e2 := rr.ints
    subst e2
    obtain ⟨its, rv, ht, _⟩ := I.tuple q
    rw [Vals.ref1 r]
    exact sum_tupleG (I.ok.hd hc) ht rv.ints fun h' tk t' hk => ⟨.int _, H, I.kept hk, ⟨_, rfl⟩, k _ H E (Gr.refl hd) repI⟩
  · cases hg
def cTuple : List D → Option D
  | [.lst ds] => some (.tup ds)
  | [.tup ds] => some (.tup ds)
  | _ => none
theorem cd_tuple : CallD X (.type "tuple") cTuple := by
  intro pins s σ H xs us Q I r h
  obtain ⟨E, ds, d, hd, h1, hg, k⟩ := h
  unfold cTuple at hg
  split at hg
  · cases hg
    obtain ⟨x, rfl, r1⟩ := repB1 h1
    obtain ⟨a, xs, rfl, q, rr⟩ := r1
    refine L2.call_tuple_of pins s σ H _ us Q I r ⟨a, xs, rfl, .inl ⟨sqL_of q, fun p hp => ?_⟩⟩
    have g := Gr.laid (E := E) (o := .tup xs) hd hp
    exact k _ _ E g (repTup upd_same (rr.keep g.kp))
  · cases hg
    obtain ⟨x, rfl, r1⟩ := repB1 h1
    obtain ⟨a, xs, rfl, q, rr⟩ := repBT r1
    exact L2.call_tuple_of pins s σ H _ us Q I r ⟨a, xs, rfl, .inr ⟨q, k _ H E (Gr.refl hd) (repT q rr)⟩⟩
  · cases hg
def cList : List D → Option S
  | [.lst ds] => some (.lst ds)
  | [.tup ds] => some (.lst ds)
  | _ => none
theorem cf_list : CallF X (.type "list") cList := by
  intro pins s σ H xs us Q I r h
  obtain ⟨E, ds, d, hd, h1, hg, k⟩ := h
  unfold cList at hg
  split at hg
  · cases hg
    obtain ⟨x, rfl, r1⟩ := repB1 h1
    obtain ⟨a, xs, rfl, q, rr⟩ := r1
    refine L2.call_list_of pins s σ H _ us Q I r ⟨a, xs, rfl, .inl (sqL_of q), fun p hp => ?_⟩
    have g := Gr.laid (E := E) (o := .lst xs) hd hp
    exact k _ _ E g ⟨p, _, rfl, hp, fun q => hd p q hp, upd_same, rr.keep g.kp⟩
  · cases hg
    obtain ⟨x, rfl, r1⟩ := repB1 h1
    obtain ⟨a, xs, rfl, q, rr⟩ := repBT r1
    refine L2.call_list_of pins s σ H _ us Q I r ⟨a, xs, rfl, .inr q, fun p hp => ?_⟩
    have g := Gr.laid (E := E) (o := .lst xs) hd hp
    exact k _ _ E g ⟨p, _, rfl, hp, fun q => hd p q hp, upd_same, rr.keep g.kp⟩
  · cases hg
/-- bools alone -/
def allBl : List D → Option (List Bool)
  | [] => some []
  | .bl i :: r => (allBl r).map fun t => i :: t
  | _ :: _ => none
theorem allBl_map : ∀ (ns : List Bool), allBl (ns.map D.bl) = some ns
  | [] => rfl
  | n :: ns => by rw [List.map_cons]; unfold allBl; rw [allBl_map ns]; rfl
theorem allBl_some : ∀ {ds : List D} {ns : List Bool}, allBl ds = some ns → ds = ns.map D.bl
  | [], ns, h => by unfold allBl at h; cases h; rfl
  | d :: ds, ns, h => by
    unfold allBl at h
    split at h
    · rename_i e
      cases e
    · rename_i i r e
      cases e
      obtain ⟨t, h1, h2⟩ := Option.map_eq_some_iff.mp h
      subst h2
      rw [List.map_cons, ← allBl_some h1]
    · cases h
theorem Reps.bls {K : PySem.W.Frag} {H : Hp} {E : Addr → Prop} : ∀ {ns : List Bool} {xs : List V}, Reps K H E (ns.map D.bl) xs → xs = ns.map V.bl
  | [], xs, h => by unfold List.map Reps at h; exact h
  | n :: ns, xs, h => by
    rw [List.map_cons] at h
    unfold Reps at h
    obtain ⟨x, r, rfl, h1, h2⟩ := h
    unfold Rep at h1
    rw [h1, Reps.bls h2]
    rfl
def cAll : List D → Option D
  | [.lst ds] => (allBl ds).map fun ns => .bl (ns.all id)
  | _ => none
def cAny : List D → Option D
  | [.lst ds] => (allBl ds).map fun ns => .bl (ns.any id)
  | _ => none
theorem cd_all (hc : X.calm = true) : CallD X (.builtin "all") cAll := by
  intro pins s σ H xs us Q I r h
  obtain ⟨E, ds, d, hd, h1, hg, k⟩ := h
  unfold cAll at hg
  split at hg
  · obtain ⟨ns, g1, g2⟩ := Option.map_eq_some_iff.mp hg
    have e := allBl_some g1
    subst e g2
    obtain ⟨x, rfl, r1⟩ := repB1 h1
    obtain ⟨a, xs, rfl, q, rr⟩ := r1
    have e2 := rr.bls
    subst e2
    exact L2.cr_all hc pins s σ H _ us Q I r ⟨a, ns, rfl, sqL_of q, k _ H E (Gr.refl hd) repBl⟩
  · cases hg
theorem cd_any (hc : X.calm = true) : CallD X (.builtin "any") cAny := by
  intro pins s σ H xs us Q I r h
  obtain ⟨E, ds, d, hd, h1, hg, k⟩ := h
  unfold cAny at hg
  split at hg
  · obtain ⟨ns, g1, g2⟩ := Option.map_eq_some_iff.mp hg
    have e := allBl_some g1
    subst e g2
    obtain ⟨x, rfl, r1⟩ := repB1 h1
    obtain ⟨a, xs, rfl, q, rr⟩ := r1
    have e2 := rr.bls
    subst e2
    exact L2.cr_any hc pins s σ H _ us Q I r ⟨a, ns, rfl, sqL_of q, k _ H E (Gr.refl hd) repBl⟩
  · cases hg
/-! ### isinstance -/
def D.ty : D → String
  | .non => "NoneType"
  | .bl _ => "bool"
  | .int _ => "int"
  | .str _ => "str"
  | .tup _ => "tuple"
  | .lst _ => "list"
  | .scr _ => "list"
  | .dK _ _ => "dict"
  | .dT _ _ => "dict"
def isTy (T : String) (d : D) : Bool := (d.ty == T) || (T == "int" && d.ty == "bool")
def eIsi (T : String) (f : Ev → Option D) : Ev → Option D := fun δ => (f δ).map fun d => .bl (isTy T d)
theorem kit4 {K : PySem.W.Frag} {T : String} (hT : T = "int" ∨ T = "bool" ∨ T = "str" ∨ T = "tuple") (d : D) (hs : ∀ ns, d ≠ .scr ns) : PySem.W.kitOne K (.type d.ty) (.type T) = some (isTy T d) := by
  have key : ∀ t : String, t = "NoneType" ∨ t = "bool" ∨ t = "int" ∨ t = "str" ∨ t = "tuple" ∨ t = "list" ∨ t = "dict" → kitB t T = some ((t == T) || (T == "int" && t == "bool")) := by
    intro t ht
    rcases hT with rfl | rfl | rfl | rfl <;> rcases ht with rfl | rfl | rfl | rfl | rfl | rfl | rfl <;> decide +kernel
  refine kit_ty (key d.ty ?_)
  cases d <;> simp [D.ty]
theorem de_isi {tn : Str} {f} {q1 : Pos} {Ts : String} (hT : Ts = "int" ∨ Ts = "bool" ∨ Ts = "str" ∨ Ts = "tuple") (hg : Gl X "isinstance") (hm : X.mg "isinstance" = none) (hgT : Gl X tn) (hmT : X.mg tn = none) (hvT : bootBuiltins tn = some (.type Ts))
    (hn : tn ≠ "__name__" := by decide) (hdb : (tn == ("__debug__" : Str)) = false := by decide) (ha : DB X e f)
    (he : starEach [e, .Name tn q1] X.env = (false, eval e X.env) :: starEach [.Name tn q1] X.env := by rfl) (he2 : starEach [.Name tn q1] X.env = (false, eval (.Name tn q1) X.env) :: starEach [] X.env := by rfl)
    (hpl : (backTo pos (starEach [.Name tn q1] X.env)).any (·.1) = false := by rfl) : DE X (.Call (.Name "isinstance" p) [e, .Name tn q1] [] pos) (eIsi Ts f) :=
  ⟨peImp (pe_callB call_isi hg hm PyProof.Rows.boot_isinstance (pa_cons ha.pe (pa_cons (pe_bltn (v := .ty Ts) hgT hmT hvT rfl hn hdb) pa_nil he2) he) (by decide) (by decide) he hpl) fun σ H Q ⟨δ, E, os, d, er, hf, k⟩ => by
    obtain ⟨x, h1, h2⟩ := Option.map_eq_some_iff.mp hf
    subst h2
    refine ⟨δ, E, os, x, er, h1, fun v H1 E1 g1 r1 => ?_⟩
    have tyx : ∀ (z : D), z.ty = x.ty → TyX X.K H1 v (.type x.ty) → True := fun _ _ _ => trivial
    have t : TyX X.K H1 v (.type x.ty) := by
      cases x with
      | non => rw [repBN r1]; exact .base .non
      | bl b => rw [repBB r1]; exact .base (.bl b)
      | int b => rw [repBI r1]; exact .base (.int b)
      | str b => rw [repBS r1]; exact .base (.str b)
      | tup b =>
        obtain ⟨a, xs, rfl, q, rr⟩ := repBT r1
        rcases q with (q | ⟨o, q⟩) | ⟨o, its, n, q1, q2, q3⟩
        · exact .base (.tup q)
        · exact .fTuple q
        · exact .kTuple q1 q2
      | lst b => obtain ⟨a, xs, rfl, q, rr⟩ := r1; exact .base (.lst q)
      | scr b =>
        have h' : Rep X.K H1 E1 (.scr b) v := r1
        unfold Rep at h'
        obtain ⟨a, rfl, q, _⟩ := h'
        rcases q with (q | ⟨o, q⟩) | ⟨o, its, n, q1, q2, q3⟩
        · exact .base (.lst q)
        · exact .base (.frz q)
        · exact .kList q1 q2
      | dK ks b => obtain ⟨a, xs, rfl, q, rr⟩ := r1; exact .base (.dK q)
      | dT ks b => obtain ⟨a, xs, rfl, q, rr⟩ := r1; exact .base (.dT q)
    refine ⟨v, .ty Ts, .type x.ty, .type Ts, isTy Ts x, rfl, .ty Ts, t, ?_, k _ H1 E1 g1 repBl⟩
    have key : ∀ t : String, t = "NoneType" ∨ t = "bool" ∨ t = "int" ∨ t = "str" ∨ t = "tuple" ∨ t = "list" ∨ t = "dict" → kitB t Ts = some ((t == Ts) || (Ts == "int" && t == "bool")) := by
      intro t ht
      rcases hT with rfl | rfl | rfl | rfl <;> rcases ht with rfl | rfl | rfl | rfl | rfl | rfl | rfl <;> decide +kernel
    refine kit_ty (key x.ty ?_)
    cases x <;> simp [D.ty]⟩
end
end DL

/-! statements -/
namespace DL
open PySem PySem.Spec PyProof.Rows L2 PySem.SeqAt
inductive Out where
  | nx (δ : Ev) | rt (s : S) | bk (δ : Ev) | ct (δ : Ev)
/-- what a statement leaves of the heap: os, what the def alone has -/
structure Fr0 (H : Hp) (E : Addr → Prop) (os : List Addr) (H' : Hp) (E' : Addr → Prop) : Prop where
  keep : ∀ a o, H a = some o → a ∉ os → H' a = some o
  sub : ∀ a, E a → E' a
  new : ∀ a, E' a → E a ∨ a ∈ os ∨ H a = none
  dom : ∀ a, E' a → H' a ≠ none
structure Fm (H : Hp) (E : Addr → Prop) (os : List Addr) (H' : Hp) (E' : Addr → Prop) (os' : List Addr) : Prop extends Fr0 H E os H' E' where
  ow : ∀ a ∈ os', a ∈ os ∨ H a = none
/-- what a def hands back -/
def RepR (K : PySem.W.Frag) (H : Hp) (os : List Addr) (H' : Hp) (E' : Addr → Prop) : S → V → Prop
  | .no, _ => False
  | .val d, v => Rep K H' E' d v
  | .lst ds, v => ∃ a xs, v = .ref a ∧ (a ∈ os ∨ H a = none) ∧ ¬ E' a ∧ H' a = some (.lst xs) ∧ Reps K H' E' ds xs
  | .dK ks ds, v => ∃ a kvs, v = .ref a ∧ (a ∈ os ∨ H a = none) ∧ ¬ E' a ∧ H' a = some (.dK kvs) ∧ kvs.map (·.1) = ks ∧ Reps K H' E' ds (kvs.map (·.2))
  | .dT ks ds, v => ∃ a kvs, v = .ref a ∧ (a ∈ os ∨ H a = none) ∧ ¬ E' a ∧ H' a = some (.dT kvs) ∧ kvs.map (·.1) = ks ∧ Reps K H' E' ds (kvs.map (·.2))
section
variable {K : PySem.W.Frag} {H H' H1 H2 : Hp} {E E' E1 E2 : Addr → Prop} {os os' os1 os2 : List Addr}
theorem Fr0.free (f : Fr0 H E os H1 E1) {a : Addr} (h : H1 a = none) : a ∈ os ∨ H a = none := by
  by_cases ha : a ∈ os
  · exact .inl ha
  · cases q : H a with
    | none => exact .inr rfl
    | some o => rw [f.keep a o q ha] at h; cases h
theorem Fm.trans0 (f : Fm H E os H1 E1 os1) (g : Fr0 H1 E1 os1 H2 E2) : Fr0 H E os H2 E2 where
  keep := fun a o e n => g.keep a o (f.keep a o e n) fun m => by
    rcases f.ow a m with z | z
    · exact n z
    · rw [e] at z; cases z
  sub := fun a e => g.sub a (f.sub a e)
  new := fun a e => by
    rcases g.new a e with z | z | z
    · exact f.new a z
    · exact .inr (f.ow a z)
    · exact .inr (f.free z)
  dom := g.dom
theorem Fm.trans (f : Fm H E os H1 E1 os1) (g : Fm H1 E1 os1 H2 E2 os2) : Fm H E os H2 E2 os2 :=
  ⟨f.trans0 g.toFr0, fun a m => by
      rcases g.ow a m with z | z
      · exact f.ow a z
      · exact f.free z⟩
theorem Gr.fm (g : Gr H E H' E') (h : ∀ a ∈ os', a ∈ os ∨ H a = none) : Fm H E os H' E' os' :=
  ⟨⟨fun a o e _ => g.same a o e, g.sub, fun a e => by
    rcases g.new a e with z | z
    · exact .inl z
    · exact .inr (.inr z), g.dom⟩, h⟩
theorem Gr.fr0 (g : Gr H E H' E') : Fr0 H E os H' E' := (g.fm (os' := []) fun a m => by cases m).toFr0
theorem RepR.earlier {s : S} {v : V} (f : Fm H E os H1 E1 os1) (h : RepR K H1 os1 H' E' s v) : RepR K H os H' E' s v := by
  have up : ∀ a, (a ∈ os1 ∨ H1 a = none) → (a ∈ os ∨ H a = none) := fun a z => by
    rcases z with z | z
    · exact f.ow a z
    · exact f.free z
  cases s with
  | no => exact h
  | val d => exact h
  | lst ds => obtain ⟨a, xs, e, e1, r⟩ := h; exact ⟨a, xs, e, up a e1, r⟩
  | dK ks ds => obtain ⟨a, xs, e, e1, r⟩ := h; exact ⟨a, xs, e, up a e1, r⟩
  | dT ks ds => obtain ⟨a, xs, e, e1, r⟩ := h; exact ⟨a, xs, e, up a e1, r⟩

/-! ### a name is stored -/
theorem RepEv.set : ∀ {δ : Ev} {σ : L2.St} {os : List Addr} {i : Nat} {s : S} {v : Option V} {o1 : List Addr}, RepEv K H E δ σ os → RepS K H E s v o1 → os.Nodup → o1.Nodup → (∀ a ∈ o1, a ∉ os) →
    ∃ os', RepEv K H E (δ.set i s) (σ.set i v) os' ∧ os'.Nodup ∧ (∀ a ∈ os', a ∈ os ∨ a ∈ o1)
  | [], _, _, _, _, _, _, h, _, hn, _, _ => by
    obtain ⟨rfl, rfl⟩ := h
    exact ⟨[], ⟨rfl, rfl⟩, List.nodup_nil, fun a m => by cases m⟩
  | s0 :: δ, σ, os, 0, s, v, o1, h, r, hn, hn1, hd => by
    obtain ⟨v0, t, p1, p2, rfl, rfl, h1, h2⟩ := h
    refine ⟨o1 ++ p2, ⟨v, t, o1, p2, rfl, rfl, r, h2⟩, ?_, fun a m => ?_⟩
    · rw [List.nodup_append] at hn ⊢
      refine ⟨hn1, hn.2.1, fun a m b m' e => ?_⟩
      subst e
      exact hd a m (List.mem_append_right _ m')
    · rcases List.mem_append.mp m with m | m
      · exact .inr m
      · exact .inl (List.mem_append_right _ m)
  | s0 :: δ, σ, os, i + 1, s, v, o1, h, r, hn, hn1, hd => by
    obtain ⟨v0, t, p1, p2, rfl, rfl, h1, h2⟩ := h
    rw [List.nodup_append] at hn
    obtain ⟨q, r2, n2, m2⟩ := RepEv.set (i := i) h2 r hn.2.1 hn1 fun a m m' => hd a m (List.mem_append_right _ m')
    refine ⟨p1 ++ q, ⟨v0, t.set i v, p1, q, rfl, rfl, h1, r2⟩, ?_, fun a m => ?_⟩
    · rw [List.nodup_append]
      refine ⟨hn.1, n2, fun a m b m' e => ?_⟩
      subst e
      rcases m2 a m' with z | z
      · exact hn.2.2 a m a z rfl
      · exact hd a z (List.mem_append_left _ m)
    · rcases List.mem_append.mp m with m | m
      · exact .inl (List.mem_append_left _ m)
      · rcases m2 a m with z | z
        · exact .inl (List.mem_append_right _ z)
        · exact .inr z
theorem ER.setVal {δ : Ev} {σ : L2.St} {i : Nat} {d : D} {v : V} (e : ER K H E δ σ os) (r : Rep K H E d v) : ∃ os', ER K H E (δ.set i (.val d)) (σ.set i (some v)) os' ∧ ∀ a ∈ os', a ∈ os := by
  obtain ⟨os', r', n', m'⟩ := e.rep.set (i := i) (s := .val d) (v := some v) (o1 := []) ⟨rfl, v, rfl, r⟩ e.nd List.nodup_nil fun a m => by cases m
  have m2 : ∀ a ∈ os', a ∈ os := fun a m => by
    rcases m' a m with z | z
    · exact z
    · cases z
  exact ⟨os', ⟨r', n', fun a m => e.dis a (m2 a m), e.dom⟩, m2⟩
/-- what is new gets a name -/
theorem ER.setNew {δ : Ev} {σ : L2.St} {i : Nat} {s : S} {v : V} (e : ER K H E δ σ os) (g : Gr H E H' E') (r : RepF K H H' E' s v) : ∃ os', ER K H' E' (δ.set i s) (σ.set i (some v)) os' ∧ Fm H E os H' E' os' := by
  have e' := e.grow g
  have nos : ∀ a, H a = none → a ∉ os := fun a h m => e.rep.dom a m h
  have fin : ∀ (o1 : List Addr), RepS K H' E' s (some v) o1 → o1.Nodup → (∀ a ∈ o1, H a = none ∧ ¬ E' a) → ∃ os', ER K H' E' (δ.set i s) (σ.set i (some v)) os' ∧ Fm H E os H' E' os' := fun o1 r1 n1 f1 => by
    obtain ⟨os', r', n', m'⟩ := e'.rep.set (i := i) r1 e'.nd n1 fun a m => nos a (f1 a m).1
    refine ⟨os', ⟨r', n', fun a m => ?_, g.dom⟩, g.fm fun a m => ?_⟩
    · rcases m' a m with z | z
      · exact e'.dis a z
      · exact (f1 a z).2
    · rcases m' a m with z | z
      · exact .inl z
      · exact .inr (f1 a z).1
  cases s with
  | no => exact r.elim
  | val d => exact fin [] ⟨rfl, v, rfl, r⟩ List.nodup_nil fun a m => by cases m
  | lst ds =>
    obtain ⟨a, xs, rfl, h1, h2, h3, h4⟩ := r
    exact fin [a] ⟨a, xs, rfl, rfl, h3, h4⟩ (by simp) fun b m => by rw [List.mem_singleton.mp m]; exact ⟨h1, h2⟩
  | dK ks ds =>
    obtain ⟨a, xs, rfl, h1, h2, h3, h4⟩ := r
    exact fin [a] ⟨a, xs, rfl, rfl, h3, h4⟩ (by simp) fun b m => by rw [List.mem_singleton.mp m]; exact ⟨h1, h2⟩
  | dT ks ds =>
    obtain ⟨a, xs, rfl, h1, h2, h3, h4⟩ := r
    exact fin [a] ⟨a, xs, rfl, rfl, h3, h4⟩ (by simp) fun b m => by rw [List.mem_singleton.mp m]; exact ⟨h1, h2⟩
end

/-! ### the judgement -/
def EndOk (K : PySem.W.Frag) (D : Ends) (H : Hp) (E : Addr → Prop) (os : List Addr) : Out → Prop
  | .nx δ' => ∀ σ' H' E' os', ER K H' E' δ' σ' os' → Fm H E os H' E' os' → D.nx σ' H'
  | .bk δ' => ∀ σ' H' E' os', ER K H' E' δ' σ' os' → Fm H E os H' E' os' → D.bk σ' H'
  | .ct δ' => ∀ σ' H' E' os', ER K H' E' δ' σ' os' → Fm H E os H' E' os' → D.ct σ' H'
  | .rt s => ∀ v H' E', Fr0 H E os H' E' → RepR K H os H' E' s v → D.rt v H'
def tS (K : PySem.W.Frag) (f : Ev → Option Out) : TS := fun D σ H => ∃ δ E os out, ER K H E δ σ os ∧ f δ = some out ∧ EndOk K D H E os out
structure DS (X : Cx) (st : Stmt) (f : Ev → Option Out) : Prop where
  ps : PS X st (tS X.K f)
structure DSs (X : Cx) (st : List Stmt) (f : Ev → Option Out) : Prop where
  pss : PSs X st (tS X.K f)
theorem EndOk.later {K : PySem.W.Frag} {D : Ends} {H H1 : Hp} {E E1 : Addr → Prop} {os os1 : List Addr} {out : Out} (f : Fm H E os H1 E1 os1) (h : EndOk K D H E os out) : EndOk K D H1 E1 os1 out := by
  cases out with
  | nx δ' => exact fun σ' H' E' os' e g => h σ' H' E' os' e (f.trans g)
  | bk δ' => exact fun σ' H' E' os' e g => h σ' H' E' os' e (f.trans g)
  | ct δ' => exact fun σ' H' E' os' e g => h σ' H' E' os' e (f.trans g)
  | rt s => exact fun v H' E' g r => h v H' E' (f.trans0 g) (r.earlier f)
section
variable {X : Cx} {st : Stmt} {rest sts : List Stmt} {e : Expr} {pos : Pos}
theorem psImp {t t' : TS} (h : PS X st t) (i : ∀ D σ H, t' D σ H → t D σ H) : PS X st t' := ⟨fun pins s σ H D I q => h.run pins s σ H D I (i D σ H q)⟩
theorem pssImp {t t' : TS} (h : PSs X sts t) (i : ∀ D σ H, t' D σ H → t D σ H) : PSs X sts t' := ⟨fun pins s σ H D I q => h.run pins s σ H D I (i D σ H q)⟩
def sNil : Ev → Option Out := fun δ => some (.nx δ)
def sSeq (f g : Ev → Option Out) : Ev → Option Out := fun δ => (f δ).bind fun o => match o with
  | .nx δ' => g δ'
  | o => some o
theorem ER.fm0 {K : PySem.W.Frag} {H : Hp} {E : Addr → Prop} {δ : Ev} {σ : L2.St} {os : List Addr} (e : ER K H E δ σ os) : Fm H E os H E os := e.gr0.fm fun a m => .inl m
theorem dss_nil : DSs X [] sNil := ⟨pssImp pss_nil fun D σ H ⟨δ, E, os, out, er, hf, k⟩ => by
  cases hf
  exact k σ H E os er er.fm0⟩
theorem dss_one {f} (h : DS X st f) : DSs X [st] f := ⟨pss_one h.ps⟩
theorem dss_cons {f g} (h : DS X st f) (h2 : DSs X rest g) : DSs X (st :: rest) (sSeq f g) := ⟨pssImp (pss_cons h.ps h2.pss) fun D σ H ⟨δ, E, os, out, er, hf, k⟩ => by
  obtain ⟨o, h1, h2⟩ := Option.bind_eq_some_iff.mp hf
  refine ⟨δ, E, os, o, er, h1, ?_⟩
  cases o with
  | nx δ' => exact fun σ' H' E' os' e f => ⟨δ', E', os', out, e, h2, k.later f⟩
  | bk δ' => cases h2; exact k
  | ct δ' => cases h2; exact k
  | rt s => cases h2; exact k⟩
theorem ds_pass : DS X (.Pass pos) sNil := ⟨psImp ps_pass fun D σ H ⟨δ, E, os, out, er, hf, k⟩ => by
  cases hf
  exact k σ H E os er er.fm0⟩
def sBreak : Ev → Option Out := fun δ => some (.bk δ)
def sCont : Ev → Option Out := fun δ => some (.ct δ)
theorem ds_break : DS X (.Break pos) sBreak := ⟨psImp ps_break fun D σ H ⟨δ, E, os, out, er, hf, k⟩ => by
  cases hf
  exact k σ H E os er er.fm0⟩
theorem ds_cont : DS X (.Continue pos) sCont := ⟨psImp ps_continue fun D σ H ⟨δ, E, os, out, er, hf, k⟩ => by
  cases hf
  exact k σ H E os er er.fm0⟩
/-- name = e -/
def sSet (i : Nat) (f : Ev → Option D) : Ev → Option Out := fun δ => (f δ).map fun d => .nx (δ.set i (.val d))
theorem ds_set {i : Nat} {x : Str} {pos' : Pos} {f} (h : DE X e f) (hN : X.N.Nodup) (hi : X.N[i]? = some x := by rfl) (hx : Loc X.env.scope x := by first | exact Or.inl rfl | exact Or.inr rfl) (hs : swapsWith e (some (.Name x pos')) pos.line X.env = pure false := by rfl)
    (hf : X.fn x = true ∨ X.env.scope.names.lookup x = some .local := by first | exact .inl rfl | exact .inr rfl | assumption) : DS X (.Assign [.Name x pos'] e pos) (sSet i f) :=
  ⟨psImp (ps_set hN hi hx h.pe hs hf) fun D σ H ⟨δ, E, os, out, er, hf, k⟩ => by
    obtain ⟨d, h1, h2⟩ := Option.map_eq_some_iff.mp hf
    subst h2
    refine ⟨δ, E, os, d, er, h1, fun v H1 E1 g r => ?_⟩
    obtain ⟨os', e', m'⟩ := (er.grow g).setVal (i := i) r
    exact k _ H1 E1 os' e' (g.fm fun a m => .inl (m' a m))⟩
/-- name = what is new -/
def sOwn (i : Nat) (f : Ev → Option S) : Ev → Option Out := fun δ => (f δ).map fun s => .nx (δ.set i s)
theorem ds_own {i : Nat} {x : Str} {pos' : Pos} {f} (h : DF X e f) (hN : X.N.Nodup) (hi : X.N[i]? = some x := by rfl) (hx : Loc X.env.scope x := by first | exact Or.inl rfl | exact Or.inr rfl) (hs : swapsWith e (some (.Name x pos')) pos.line X.env = pure false := by rfl)
    (hf : X.fn x = true ∨ X.env.scope.names.lookup x = some .local := by first | exact .inl rfl | exact .inr rfl | assumption) : DS X (.Assign [.Name x pos'] e pos) (sOwn i f) :=
  ⟨psImp (ps_set hN hi hx h.pe hs hf) fun D σ H ⟨δ, E, os, out, er, hf, k⟩ => by
    obtain ⟨s, h1, h2⟩ := Option.map_eq_some_iff.mp hf
    subst h2
    refine ⟨δ, E, os, s, er, h1, fun v H1 E1 g r => ?_⟩
    obtain ⟨os', e', m'⟩ := er.setNew (i := i) g r
    exact k _ H1 E1 os' e' m'⟩
/-- an own list is from here on read alone -/
def lock (i : Nat) (δ : Ev) : Ev := match δ[i]? with
  | some s => match s.d with
    | some d => δ.set i (.val d)
    | none => δ
  | none => δ
theorem RepEv.lock {K : PySem.W.Frag} {H : Hp} {E : Addr → Prop} {d : D} : ∀ {δ : Ev} {σ : L2.St} {os : List Addr} {i : Nat} {s : S}, RepEv K H E δ σ os → os.Nodup → (∀ a, E a → H a ≠ none) → (∀ a ∈ os, ¬ E a) → δ[i]? = some s → s.d = some d →
    ∃ (E' : Addr → Prop) (os' : List Addr), RepEv K H E' (δ.set i (.val d)) σ os' ∧ os'.Nodup ∧ (∀ a ∈ os', a ∈ os) ∧ (∀ a, E a → E' a) ∧ (∀ a, E' a → E a ∨ a ∈ os) ∧ (∀ a ∈ os', ¬ E' a) ∧ (∀ a, E' a → H a ≠ none)
  | [], _, _, _, _, _, _, _, _, e, _ => by simp at e
  | s0 :: δ, σ, os, 0, s, h, hn, hd, hx, e, es => by
    obtain ⟨v0, t, p1, p2, rfl, rfl, h1, h2⟩ := h
    simp at e
    subst e
    rw [List.nodup_append] at hn
    have dm : ∀ a, (E a ∨ a ∈ p1) → H a ≠ none := fun a z => by
      rcases z with z | z
      · exact hd a z
      · exact h1.dom a z
    have kp : Kp H E H (fun a => E a ∨ a ∈ p1) := ⟨fun _ _ e => e, fun _ _ _ e => e, fun _ _ _ e => e, fun _ e => .inl e⟩
    refine ⟨fun a => E a ∨ a ∈ p1, p2, ⟨v0, t, [], p2, rfl, rfl, ⟨rfl, ?_⟩, h2.keep kp fun a _ o e => e⟩, hn.2.1, fun a m => List.mem_append_right _ m, fun a z => .inl z, fun a z => ?_, fun a m z => ?_, dm⟩
    · cases s0 with
      | no => cases es
      | val d' => cases es; obtain ⟨_, x, e, r⟩ := h1; exact ⟨x, e, r.keep kp⟩
      | lst ds =>
        cases es
        obtain ⟨a, xs, e1, e2, e3, r⟩ := h1
        refine ⟨_, e1, ?_⟩
        unfold Rep
        exact ⟨a, xs, rfl, e3, .inr (by rw [e2]; simp), r.keep kp⟩
      | dK ks ds =>
        cases es
        obtain ⟨a, xs, e1, e2, e3, e4, r⟩ := h1
        refine ⟨_, e1, ?_⟩
        unfold Rep
        exact ⟨a, xs, rfl, e3, .inr (by rw [e2]; simp), e4, r.keep kp⟩
      | dT ks ds =>
        cases es
        obtain ⟨a, xs, e1, e2, e3, e4, r⟩ := h1
        refine ⟨_, e1, ?_⟩
        unfold Rep
        exact ⟨a, xs, rfl, e3, .inr (by rw [e2]; simp), e4, r.keep kp⟩
    · rcases z with z | z
      · exact .inl z
      · exact .inr (List.mem_append_left _ z)
    · rcases z with z | z
      · exact hx a (List.mem_append_right _ m) z
      · exact hn.2.2 a z a m rfl
  | s0 :: δ, σ, os, i + 1, s, h, hn, hd, hx, e, es => by
    obtain ⟨v0, t, p1, p2, rfl, rfl, h1, h2⟩ := h
    rw [List.nodup_append] at hn
    obtain ⟨E', os', r', n', m', s1, s2, s3, s4⟩ := RepEv.lock (i := i) h2 hn.2.1 hd (fun a m => hx a (List.mem_append_right _ m)) (by simpa using e) es
    have kp : Kp H E H E' := ⟨fun _ _ e => e, fun _ _ _ e => e, fun _ _ _ e => e, s1⟩
    refine ⟨E', p1 ++ os', ⟨v0, t, p1, os', rfl, rfl, h1.keep kp fun a _ o e => e, r'⟩, ?_, fun a m => ?_, s1, fun a z => ?_, fun a m z => ?_, s4⟩
    · rw [List.nodup_append]
      exact ⟨hn.1, n', fun a m b m2 e => hn.2.2 a m b (m' b m2) e⟩
    · rcases List.mem_append.mp m with z | z
      · exact List.mem_append_left _ z
      · exact List.mem_append_right _ (m' a z)
    · rcases s2 a z with z | z
      · exact .inl z
      · exact .inr (List.mem_append_right _ z)
    · rcases List.mem_append.mp m with q | q
      · rcases s2 a z with z | z
        · exact hx a (List.mem_append_left _ q) z
        · exact hn.2.2 a q a z rfl
      · exact s3 a q z
theorem ER.lock {K : PySem.W.Frag} {H : Hp} {E : Addr → Prop} {δ : Ev} {σ : L2.St} {os : List Addr} (e : ER K H E δ σ os) (i : Nat) : ∃ E' os', ER K H E' (DL.lock i δ) σ os' ∧ Fm H E os H E' os' := by
  unfold DL.lock
  split
  · rename_i s hs
    split
    · rename_i d hd
      obtain ⟨E', os', r', n', m', s1, s2, s3, s4⟩ := e.rep.lock (i := i) e.nd e.dom e.dis hs hd
      exact ⟨E', os', ⟨r', n', s3, s4⟩, ⟨⟨fun a o h _ => h, s1, fun a z => by
        rcases s2 a z with z | z
        · exact .inl z
        · exact .inr (.inl z), s4⟩, fun a m => .inl (m' a m)⟩⟩
    · exact ⟨E, os, e, e.fm0⟩
  · exact ⟨E, os, e, e.fm0⟩
/-- ahead of a statement -/
def sLock (i : Nat) (f : Ev → Option Out) : Ev → Option Out := fun δ => f (lock i δ)
theorem ds_lock (i : Nat) {f} (h : DS X st f) : DS X st (sLock i f) := ⟨psImp h.ps fun D σ H ⟨δ, E, os, out, er, hf, k⟩ => by
  obtain ⟨E', os', e', f'⟩ := er.lock i
  exact ⟨lock i δ, E', os', out, e', hf, k.later f'⟩⟩
/-- names that nobody asks again are forgotten -/
def drop1 (i : Nat) (δ : Ev) : Ev := δ.set i .no
theorem RepEv.forget {K : PySem.W.Frag} {H : Hp} {E : Addr → Prop} : ∀ {δ : Ev} {σ : L2.St} {os : List Addr} {i : Nat}, RepEv K H E δ σ os → os.Nodup → ∃ os', RepEv K H E (δ.set i .no) σ os' ∧ os'.Nodup ∧ (∀ a ∈ os', a ∈ os)
  | [], _, _, _, h, hn => ⟨_, h, hn, fun a m => m⟩
  | s0 :: δ, σ, os, 0, h, hn => by
    obtain ⟨v0, t, p1, p2, rfl, rfl, h1, h2⟩ := h
    rw [List.nodup_append] at hn
    exact ⟨p2, ⟨v0, t, [], p2, rfl, rfl, rfl, h2⟩, hn.2.1, fun a m => List.mem_append_right _ m⟩
  | s0 :: δ, σ, os, i + 1, h, hn => by
    obtain ⟨v0, t, p1, p2, rfl, rfl, h1, h2⟩ := h
    rw [List.nodup_append] at hn
    obtain ⟨q, r', n', m'⟩ := RepEv.forget (i := i) h2 hn.2.1
    refine ⟨p1 ++ q, ⟨v0, t, p1, q, rfl, rfl, h1, r'⟩, ?_, fun a m => ?_⟩
    · rw [List.nodup_append]
      exact ⟨hn.1, n', fun a m b m2 e => hn.2.2 a m b (m' b m2) e⟩
    · rcases List.mem_append.mp m with z | z
      · exact List.mem_append_left _ z
      · exact List.mem_append_right _ (m' a z)
theorem ER.forget {K : PySem.W.Frag} {H : Hp} {E : Addr → Prop} {δ : Ev} {σ : L2.St} {os : List Addr} (e : ER K H E δ σ os) (i : Nat) : ∃ os', ER K H E (drop1 i δ) σ os' ∧ ∀ a ∈ os', a ∈ os := by
  obtain ⟨os', r, n, m⟩ := e.rep.forget (i := i) e.nd
  exact ⟨os', ⟨r, n, fun a h => e.dis a (m a h), e.dom⟩, m⟩
def drops : List Nat → Ev → Ev
  | [], δ => δ
  | i :: is, δ => drops is (drop1 i δ)
theorem ER.forgets {K : PySem.W.Frag} {H : Hp} {E : Addr → Prop} : ∀ (is : List Nat) {δ : Ev} {σ : L2.St} {os : List Addr}, ER K H E δ σ os → ∃ os', ER K H E (drops is δ) σ os' ∧ ∀ a ∈ os', a ∈ os
  | [], _, _, os, e => ⟨os, e, fun a m => m⟩
  | i :: is, δ, σ, os, e => by
    obtain ⟨o1, e1, m1⟩ := e.forget i
    obtain ⟨o2, e2, m2⟩ := ER.forgets is e1
    exact ⟨o2, e2, fun a m => m1 a (m2 a m)⟩
def Out.drops (is : List Nat) : Out → Out
  | .nx δ => .nx (DL.drops is δ)
  | .bk δ => .bk (DL.drops is δ)
  | .ct δ => .ct (DL.drops is δ)
  | .rt s => .rt s
/-- behind a statement -/
def sDrop (is : List Nat) (f : Ev → Option Out) : Ev → Option Out := fun δ => (f δ).map (Out.drops is)
theorem EndOk.drops {K : PySem.W.Frag} {D : Ends} {H : Hp} {E : Addr → Prop} {os : List Addr} {is : List Nat} {out : Out} (h : EndOk K D H E os (out.drops is)) : EndOk K D H E os out := by
  have go : ∀ {δ' : Ev} {k : L2.St → Hp → Prop}, (∀ σ' H' E' os', ER K H' E' (DL.drops is δ') σ' os' → Fm H E os H' E' os' → k σ' H') → ∀ σ' H' E' os', ER K H' E' δ' σ' os' → Fm H E os H' E' os' → k σ' H' := fun {δ' k} q σ' H' E' os' e f => by
    obtain ⟨o2, e2, m2⟩ := ER.forgets is e
    exact q σ' H' E' o2 e2 ⟨f.toFr0, fun a m => f.ow a (m2 a m)⟩
  cases out with
  | nx δ' => exact go h
  | bk δ' => exact go h
  | ct δ' => exact go h
  | rt s => exact h
theorem ds_drop (is : List Nat) {f} (h : DS X st f) : DS X st (sDrop is f) := ⟨psImp h.ps fun D σ H ⟨δ, E, os, out, er, hf, k⟩ => by
  obtain ⟨o, h1, h2⟩ := Option.map_eq_some_iff.mp hf
  subst h2
  exact ⟨δ, E, os, o, er, h1, k.drops⟩⟩
theorem dss_drop (is : List Nat) {f} (h : DSs X sts f) : DSs X sts (sDrop is f) := ⟨pssImp h.pss fun D σ H ⟨δ, E, os, out, er, hf, k⟩ => by
  obtain ⟨o, h1, h2⟩ := Option.map_eq_some_iff.mp hf
  subst h2
  exact ⟨δ, E, os, o, er, h1, k.drops⟩⟩
/-- return -/
def sRet (f : Ev → Option D) : Ev → Option Out := fun δ => (f δ).map fun d => .rt (.val d)
def sRetF (f : Ev → Option S) : Ev → Option Out := fun δ => (f δ).map .rt
def sRetN : Ev → Option Out := fun _ => some (.rt (.val .non))
theorem ds_ret {f} (h : DE X e f) : DS X (.Return (some e) pos) (sRet f) := ⟨psImp (ps_ret h.pe) fun D σ H ⟨δ, E, os, out, er, hf, k⟩ => by
  obtain ⟨d, h1, h2⟩ := Option.map_eq_some_iff.mp hf
  subst h2
  exact ⟨δ, E, os, d, er, h1, fun v H' E' g r => k v H' E' g.fr0 r⟩⟩
theorem RepF.r {K : PySem.W.Frag} {H H' : Hp} {E' : Addr → Prop} {os : List Addr} {s : S} {v : V} (h : RepF K H H' E' s v) : RepR K H os H' E' s v := by
  cases s with
  | no => exact h
  | val d => exact h
  | lst ds => obtain ⟨a, xs, e, e1, r⟩ := h; exact ⟨a, xs, e, .inr e1, r⟩
  | dK ks ds => obtain ⟨a, xs, e, e1, r⟩ := h; exact ⟨a, xs, e, .inr e1, r⟩
  | dT ks ds => obtain ⟨a, xs, e, e1, r⟩ := h; exact ⟨a, xs, e, .inr e1, r⟩
theorem ds_retF {f} (h : DF X e f) : DS X (.Return (some e) pos) (sRetF f) := ⟨psImp (ps_ret h.pe) fun D σ H ⟨δ, E, os, out, er, hf, k⟩ => by
  obtain ⟨d, h1, h2⟩ := Option.map_eq_some_iff.mp hf
  subst h2
  exact ⟨δ, E, os, d, er, h1, fun v H' E' g r => k v H' E' g.fr0 r.r⟩⟩
theorem ds_retN : DS X (.Return none pos) sRetN := ⟨psImp ps_retN fun D σ H ⟨δ, E, os, out, er, hf, k⟩ => by
  cases hf
  have q : RepR X.K H os H E (.val .non) .non := (repN : Rep X.K H E .non .non)
  exact k .non H E er.gr0.fr0 q⟩
/-- return x, x an own list: it goes along -/
def sRetO (i : Nat) : Ev → Option Out := fun δ => match δ[i]? with
  | some (.lst ds) => some (.rt (.lst ds))
  | some (.dK ks ds) => some (.rt (.dK ks ds))
  | some (.dT ks ds) => some (.rt (.dT ks ds))
  | _ => none
theorem ds_retO (i : Nat) {x : Str} {p : Pos} (hN : X.N[i]? = some x := by rfl) (hv : Vis X.env.scope x := by first | exact Or.inl rfl | exact Or.inr (Or.inl rfl) | exact Or.inr (Or.inr rfl)) (hd : (x == ("__debug__" : Str)) = false := by decide)
    (hcd : (x == ("__classdict__" : Str)) = false := by decide) : DS X (.Return (some (.Name x p)) pos) (sRetO i) := ⟨psImp (ps_ret (pe_var hN hv hd hcd)) fun D σ H ⟨δ, E, os, out, er, hf, k⟩ => by
  unfold sRetO at hf
  have go : ∀ {s : S}, δ[i]? = some s → ∃ v o1, σ[i]? = some v ∧ RepS X.K H E s v o1 ∧ ∀ a ∈ o1, a ∈ os := fun hs => er.rep.get hs
  split at hf
  · rename_i ds hs
    cases hf
    obtain ⟨v, o1, e1, ⟨a, xs, rfl, e2, e3, r⟩, m⟩ := go hs
    have ha : a ∈ os := m a (by rw [e2]; simp)
    exact ⟨_, e1, k _ H E er.gr0.fr0 ⟨a, xs, rfl, .inl ha, er.dis a ha, e3, r⟩⟩
  · rename_i ks ds hs
    cases hf
    obtain ⟨v, o1, e1, ⟨a, xs, rfl, e2, e3, r⟩, m⟩ := go hs
    have ha : a ∈ os := m a (by rw [e2]; simp)
    exact ⟨_, e1, k _ H E er.gr0.fr0 ⟨a, xs, rfl, .inl ha, er.dis a ha, e3, r⟩⟩
  · rename_i ks ds hs
    cases hf
    obtain ⟨v, o1, e1, ⟨a, xs, rfl, e2, e3, r⟩, m⟩ := go hs
    have ha : a ∈ os := m a (by rw [e2]; simp)
    exact ⟨_, e1, k _ H E er.gr0.fr0 ⟨a, xs, rfl, .inl ha, er.dis a ha, e3, r⟩⟩
  · cases hf⟩
/-- if -/
def sIf (t : Ev → Option Bool) (f g : Ev → Option Out) : Ev → Option Out := fun δ => (t δ).bind fun c => if c = true then f δ else g δ
theorem ds_if {c : Expr} {a b : List Stmt} {t f g} (hc : DT X c t) (ha : DSs X a f) (hb : DSs X b g) : DS X (.If c a b pos) (sIf t f g) := ⟨psImp (ps_if hc.pt ha.pss hb.pss) fun D σ H ⟨δ, E, os, out, er, hf, k⟩ => by
  obtain ⟨x, h1, h2⟩ := Option.bind_eq_some_iff.mp hf
  refine ⟨δ, E, os, x, er, h1, fun H' E' g' => ?_⟩
  have fm : Fm H E os H' E' os := g'.fm fun a m => .inl m
  cases x with
  | true => exact iteT ⟨δ, E', os, out, er.grow g', by simpa using h2, k.later fm⟩
  | false => exact iteF ⟨δ, E', os, out, er.grow g', by simpa using h2, k.later fm⟩⟩
/-- an expression alone -/
def sExpr (f : Ev → Option D) : Ev → Option Out := fun δ => (f δ).map fun _ => .nx δ
theorem ds_expr {f} (h : DE X e f) (hs : swapsWith e none pos.line X.env = pure false := by rfl) : DS X (.Expr e pos) (sExpr f) := ⟨psImp (ps_expr h.pe hs) fun D σ H ⟨δ, E, os, out, er, hf, k⟩ => by
  obtain ⟨d, h1, h2⟩ := Option.map_eq_some_iff.mp hf
  subst h2
  exact ⟨δ, E, os, d, er, h1, fun v H' E' g r => k σ H' E' os (er.grow g) (g.fm fun a m => .inl m)⟩⟩
end
end DL

/-! targets, iterables, loops -/
namespace DL
open PySem PySem.Spec PyProof.Rows L2 PySem.SeqAt
/-! ### targets -/
def Agree (sl : List Nat) (σ σ' : L2.St) : Prop := σ'.length = σ.length ∧ ∀ i, i ∉ sl → σ'[i]? = σ[i]?
theorem Agree.refl (sl : List Nat) (σ : L2.St) : Agree sl σ σ := ⟨rfl, fun _ _ => rfl⟩
theorem Agree.trans {s1 s2 sl : List Nat} {σ σ1 σ2 : L2.St} (a : Agree s1 σ σ1) (b : Agree s2 σ1 σ2) (h1 : ∀ i ∈ s1, i ∈ sl) (h2 : ∀ i ∈ s2, i ∈ sl) : Agree sl σ σ2 :=
  ⟨b.1.trans a.1, fun i hi => (b.2 i fun m => hi (h2 i m)).trans (a.2 i fun m => hi (h1 i m))⟩
def tG (K : PySem.W.Frag) (sl : List Nat) (t : D → Ev → Option Ev) : TG := fun v σ H Q => ∃ δ E os d δ', ER K H E δ σ os ∧ Rep K H E d v ∧ t d δ = some δ' ∧ ∀ σ' os', ER K H E δ' σ' os' → (∀ a ∈ os', a ∈ os) → Agree sl σ σ' → Q σ' H
def tGs (K : PySem.W.Frag) (sl : List Nat) (t : List D → Ev → Option Ev) : TGs := fun vs σ H Q => ∃ δ E os ds δ', ER K H E δ σ os ∧ Reps K H E ds vs ∧ t ds δ = some δ' ∧ ∀ σ' os', ER K H E δ' σ' os' → (∀ a ∈ os', a ∈ os) → Agree sl σ σ' → Q σ' H
structure DG (X : Cx) (tg : Expr) (sl : List Nat) (t : D → Ev → Option Ev) : Prop where
  pg : PG X tg (tG X.K sl t)
structure DGs (X : Cx) (ts : List Expr) (sl : List Nat) (t : List D → Ev → Option Ev) : Prop where
  pgs : PGs X ts (tGs X.K sl t)
section
variable {X : Cx} {pos : Pos}
theorem pgImp {tg : Expr} {t t' : TG} (h : PG X tg t) (i : ∀ v σ H Q, t' v σ H Q → t v σ H Q) : PG X tg t' := ⟨fun pins s σ H v u Q I r q => h.run pins s σ H v u Q I r (i v σ H Q q)⟩
theorem pgsImp {ts : List Expr} {t t' : TGs} (h : PGs X ts t) (i : ∀ v σ H Q, t' v σ H Q → t v σ H Q) : PGs X ts t' := ⟨fun pins s σ H v u Q I r q => h.run pins s σ H v u Q I r (i v σ H Q q)⟩
def gN (i : Nat) : D → Ev → Option Ev := fun d δ => some (δ.set i (.val d))
theorem dg_name (i : Nat) {x : Str} (hN : X.N.Nodup) (hi : X.N[i]? = some x := by rfl) (hx : Loc X.env.scope x := by first | exact Or.inl rfl | exact Or.inr rfl) (hf : X.fn x = true ∨ X.env.scope.names.lookup x = some .local := by first | exact .inl rfl | exact .inr rfl | assumption) :
    DG X (.Name x pos) [i] (gN i) := ⟨pgImp (pg_name hN hi hx hf) fun v σ H Q ⟨δ, E, os, d, δ', er, r, ht, k⟩ => by
  cases ht
  obtain ⟨os', e', m'⟩ := er.setVal (i := i) r
  exact k _ os' e' m' ⟨by simp, fun j hj => by
    rw [List.getElem?_set_ne]
    intro e
    subst e
    exact hj (by simp)⟩⟩
def gsN : List D → Ev → Option Ev := fun ds δ => match ds with
  | [] => some δ
  | _ => none
def gsC (t : D → Ev → Option Ev) (u : List D → Ev → Option Ev) : List D → Ev → Option Ev := fun ds δ => match ds with
  | d :: r => (t d δ).bind fun δ' => u r δ'
  | [] => none
theorem dgs_nil : DGs X [] [] gsN := ⟨pgsImp pgs_nil fun v σ H Q ⟨δ, E, os, ds, δ', er, r, ht, k⟩ => by
  unfold gsN at ht
  split at ht
  · cases ht
    unfold Reps at r
    exact ⟨r, k σ os er (fun a m => m) (Agree.refl _ _)⟩
  · cases ht⟩
theorem dgs_cons {e : Expr} {es : List Expr} {s1 s2 : List Nat} {t u} (h1 : DG X e s1 t) (h2 : DGs X es s2 u) (hs : (assignEach (e :: es) X.env).map (·.2) = assign e X.env :: (assignEach es X.env).map (·.2) := by rfl) : DGs X (e :: es) (s1 ++ s2) (gsC t u) :=
  ⟨pgsImp (pgs_cons h1.pg h2.pgs hs) fun v σ H Q ⟨δ, E, os, ds, δ', er, r, ht, k⟩ => by
    unfold gsC at ht
    split at ht
    · rename_i d ds
      obtain ⟨δ1, t1, t2⟩ := Option.bind_eq_some_iff.mp ht
      unfold Reps at r
      obtain ⟨x, xs, rfl, r1, r2⟩ := r
      refine ⟨x, xs, rfl, δ, E, os, d, δ1, er, r1, t1, fun σ1 os1 e1 m1 a1 => ?_⟩
      exact ⟨δ1, E, os1, ds, δ', e1, r2, t2, fun σ2 os2 e2 m2 a2 => k σ2 os2 e2 (fun a m => m1 a (m2 a m)) (a1.trans a2 (fun i m => List.mem_append_left _ m) fun i m => List.mem_append_right _ m)⟩
    · cases ht⟩
def gT (n : Nat) (u : List D → Ev → Option Ev) : D → Ev → Option Ev := fun d δ => match d with
  | .tup ds => if ds.length = n then u ds δ else none
  | .lst ds => if ds.length = n then u ds δ else none
  | _ => none
theorem dg_tup {es : List Expr} {k : Nat} {u} {n : Nat} {sl : List Nat} (hc : X.calm = true) (h : DGs X es sl u)
    (hn : (assignEach es X.env).length = n := by rfl) (hst : (assignEach es X.env).findIdx? (·.1) = none := by rfl) : DG X (.Tuple es k pos) sl (gT n u) := ⟨⟨fun pins s σ H v uu Q I rv ⟨δ, E, os, d, δ', er, r, ht, kk⟩ => by
  unfold gT at ht
  split at ht
  · split at ht
    · rename_i hl
      obtain ⟨a, xs, rfl, q, rr⟩ := repBT r.b
      exact (pg_tup hc h.pgs hn hst).run pins s σ H _ uu Q I rv ⟨a, xs, rfl, q, by rw [rr.length]; exact hl, δ, E, os, _, δ', er, rr, ht, kk⟩
    · cases ht
  · split at ht
    · rename_i hl
      unfold Rep at r
      obtain ⟨a, xs, rfl, q, _, rr⟩ := r
      exact (pg_unl hc h.pgs hn hst).run pins s σ H _ uu Q I rv ⟨a, xs, rfl, sqL_of q, by rw [rr.length]; exact hl, δ, E, os, _, δ', er, rr, ht, kk⟩
    · cases ht
  · cases ht⟩⟩
/-- target = e -/
def sAsg (t : D → Ev → Option Ev) (f : Ev → Option D) : Ev → Option Out := fun δ => (f δ).bind fun d => (t d δ).map .nx
theorem ds_asg {tg e : Expr} {t f} {sl : List Nat} (he : DE X e f) (hg : DG X tg sl t) (hs : swapsWithSole [tg] e pos.line X.env = pure false := by rfl) (hw : swappedStores [tg] e X.env = pure none := by rfl)
    (h1 : (assignEach [tg] X.env).map (·.2) = [assign tg X.env] := by rfl) : DS X (.Assign [tg] e pos) (sAsg t f) := ⟨psImp (ps_asg he.pe hg.pg hs hw h1) fun D σ H ⟨δ, E, os, out, er, hf, k⟩ => by
  obtain ⟨d, h1, h2⟩ := Option.bind_eq_some_iff.mp hf
  obtain ⟨δ', h4, h3⟩ := Option.map_eq_some_iff.mp h2
  subst h3
  refine ⟨δ, E, os, d, er, h1, fun v H1 E1 g r => ⟨δ, E1, os, d, δ', er.grow g, r, h4, fun σ' os' e' m' _ => ?_⟩⟩
  exact k σ' H1 E1 os' e' (g.fm fun a m => .inl (m' a m))⟩
/-- a, b = x, y -/
def sPar (i j : Nat) (f : Ev → Option (List D)) : Ev → Option Out := fun δ => (f δ).bind fun ds => match ds with
  | [a, b] => some (.nx ((δ.set i (.val a)).set j (.val b)))
  | _ => none
theorem ds_par {i j : Nat} {x y : Str} {a b : Expr} {f} {px py pt : Pos} {kt k2 pt2} (ha : DA X [a, b] f) (hc : X.calm = true) (hN : X.N.Nodup) (hi : X.N[i]? = some x := by rfl) (hj : X.N[j]? = some y := by rfl) (hij : i ≠ j := by decide)
    (hx : X.env.scope.names.lookup x = some .local := by rfl) (hy : X.env.scope.names.lookup y = some .local := by rfl)
    (hw : swappedStores [.Tuple [.Name x px, .Name y py] kt pt] (.Tuple [a, b] k2 pt2) X.env = pure (some [x, y]) := by rfl)
    (hs : swapsWithSole [.Tuple [.Name x px, .Name y py] kt pt] (.Tuple [a, b] k2 pt2) pos.line X.env = pure false := by rfl) :
    DS X (.Assign [.Tuple [.Name x px, .Name y py] kt pt] (.Tuple [a, b] k2 pt2) pos) (sPar i j f) := ⟨psImp (ps_par hc hN hi hj hij hx hy ha.pa hw hs) fun D σ H ⟨δ, E, os, out, er, hf, k⟩ => by
  obtain ⟨ds, h1, h2⟩ := Option.bind_eq_some_iff.mp hf
  split at h2
  · cases h2
    refine ⟨δ, E, os, _, er, h1, fun vs H1 E1 g r => ?_⟩
    unfold Reps at r
    obtain ⟨v, t, rfl, r1, r2⟩ := r
    unfold Reps at r2
    obtain ⟨w, t2, rfl, r2, r3⟩ := r2
    unfold Reps at r3
    subst r3
    obtain ⟨o1, e1, m1⟩ := (er.grow g).setVal (i := i) r1
    obtain ⟨o2, e2, m2⟩ := e1.setVal (i := j) r2
    exact ⟨v, w, rfl, k _ H1 E1 o2 e2 (g.fm fun a m => .inl (m1 a (m2 a m)))⟩
  · cases h2⟩
def sPar3 (i j l : Nat) (f : Ev → Option (List D)) : Ev → Option Out := fun δ => (f δ).bind fun ds => match ds with
  | [a, b, c] => some (.nx (((δ.set i (.val a)).set j (.val b)).set l (.val c)))
  | _ => none
theorem ds_par3 {i j l : Nat} {x y z : Str} {a b c : Expr} {f} {px py pz pt : Pos} {kt k2 pt2} (ha : DA X [a, b, c] f) (hc : X.calm = true) (hN : X.N.Nodup) (hi : X.N[i]? = some x := by rfl) (hj : X.N[j]? = some y := by rfl) (hl : X.N[l]? = some z := by rfl)
    (hij : i ≠ j := by decide) (hil : i ≠ l := by decide) (hjl : j ≠ l := by decide)
    (hx : X.env.scope.names.lookup x = some .local := by rfl) (hy : X.env.scope.names.lookup y = some .local := by rfl) (hz : X.env.scope.names.lookup z = some .local := by rfl)
    (hw : swappedStores [.Tuple [.Name x px, .Name y py, .Name z pz] kt pt] (.Tuple [a, b, c] k2 pt2) X.env = pure (some [x, y, z]) := by rfl)
    (hs : swapsWithSole [.Tuple [.Name x px, .Name y py, .Name z pz] kt pt] (.Tuple [a, b, c] k2 pt2) pos.line X.env = pure false := by rfl) :
    DS X (.Assign [.Tuple [.Name x px, .Name y py, .Name z pz] kt pt] (.Tuple [a, b, c] k2 pt2) pos) (sPar3 i j l f) := ⟨psImp (ps_par3 hc hN hi hj hl hij hil hjl hx hy hz ha.pa hw hs) fun D σ H ⟨δ, E, os, out, er, hf, k⟩ => by
  obtain ⟨ds, h1, h2⟩ := Option.bind_eq_some_iff.mp hf
  split at h2
  · cases h2
    refine ⟨δ, E, os, _, er, h1, fun vs H1 E1 g r => ?_⟩
    unfold Reps at r
    obtain ⟨v, t, rfl, r1, r2⟩ := r
    unfold Reps at r2
    obtain ⟨w, t2, rfl, r2, r3⟩ := r2
    unfold Reps at r3
    obtain ⟨w3, t3, rfl, r3, r4⟩ := r3
    unfold Reps at r4
    subst r4
    obtain ⟨o1, e1, m1⟩ := (er.grow g).setVal (i := i) r1
    obtain ⟨o2, e2, m2⟩ := e1.setVal (i := j) r2
    obtain ⟨o3, e3, m3⟩ := e2.setVal (i := l) r3
    exact ⟨v, w, w3, rfl, k _ H1 E1 o3 e3 (g.fm fun a m => .inl (m1 a (m2 a (m3 a m))))⟩
  · cases h2⟩
end

/-! ### what is walked -/
/-- ds, one after the other; St: how long it stands -/
structure ItB (K : PySem.W.Frag) (J : It) (ds : List D) (St : Hp → Prop) (H : Hp) (E : Addr → Prop) : Prop where
  w : ∃ (G : Hp → Prop) (Y : Nat → Hp → V → Hp → Prop), Walk J ds.length G Y ∧ (∀ H', St H' → G H') ∧
    ∀ i H' E' x H'', Kp H E H' E' → (∀ a, E' a → H' a ≠ none) → St H' → i < ds.length → Y i H' x H'' → ∃ E'', Gr H' E' H'' E'' ∧ ∃ d, ds[i]? = some d ∧ Rep K H'' E'' d x
/-- it stands as long as what is handed on stands -/
def ItOk (K : PySem.W.Frag) (J : It) (ds : List D) (H : Hp) (E : Addr → Prop) : Prop := ItB K J ds (fun H' => ∃ E', Kp H E H' E') H E
/-- .. as long as nothing changes -/
def ItGr (K : PySem.W.Frag) (J : It) (ds : List D) (H : Hp) (E : Addr → Prop) : Prop := ItB K J ds (fun H' => ∀ a o, H a = some o → H' a = some o) H E
theorem ItOk.gr {K : PySem.W.Frag} {J : It} {ds : List D} {H : Hp} {E : Addr → Prop} (h : ItOk K J ds H E) : ItGr K J ds H E := by
  obtain ⟨G, Y, w, s, y⟩ := h.w
  have k : ∀ H' : Hp, (∀ a o, H a = some o → H' a = some o) → ∃ E', Kp H E H' E' := fun H' h => ⟨E, ⟨fun a xs e => h a _ e, fun a o u e => h a _ e, fun a o _ e => h a o e, fun _ e => e⟩⟩
  exact ⟨G, Y, w, fun H' h => s H' (k H' h), fun i H' E' x H'' kp hd st hi yy => y i H' E' x H'' kp hd (k H' st) hi yy⟩
def tIt (K : PySem.W.Frag) (f : Ev → Option (List D)) : TI := fun σ H R => ∃ δ E os ds, ER K H E δ σ os ∧ f δ = some ds ∧ ∀ J H' E', Gr H E H' E' → ItOk K J ds H' E' → R J H'
def tItB (K : PySem.W.Frag) (f : Ev → Option (List D)) : TI := fun σ H R => ∃ δ E os ds, ER K H E δ σ os ∧ f δ = some ds ∧ ∀ J H' E', Gr H E H' E' → ItGr K J ds H' E' → R J H'
structure DI (X : Cx) (tg iter : Expr) (f : Ev → Option (List D)) : Prop where
  pi : PI X tg iter (tIt X.K f)
structure DIB (X : Cx) (tg iter : Expr) (f : Ev → Option (List D)) : Prop where
  pi : PI X tg iter (tItB X.K f)
section
variable {X : Cx} {tg e a b : Expr} {pos p : Pos}
theorem DI.tb {f} (h : DI X tg e f) : DIB X tg e f := ⟨⟨fun pins s σ H R I ⟨δ, E, os, ds, er, hf, k⟩ => h.pi.run pins s σ H R I ⟨δ, E, os, ds, er, hf, fun J H' E' g i => k J H' E' g i.gr⟩⟩⟩
def signs (x : Str) : List D := x.cps.toList.map fun c => .str ⟨#[c]⟩
def items : D → Option (List D)
  | .tup ds => some ds
  | .lst ds => some ds
  | .str x => some (signs x)
  | _ => none
def eIt (f : Ev → Option D) : Ev → Option (List D) := fun δ => (f δ).bind items
theorem Reps.yat {K : PySem.W.Frag} {H H' H'' : Hp} {E E' : Addr → Prop} {ds : List D} {xs : List V} (rr : Reps K H E ds xs) {i : Nat} {x : V} (kp : Kp H E H' E') (hd : ∀ a, E' a → H' a ≠ none) (hy : YAt xs i H' x H'') :
    ∃ E'', Gr H' E' H'' E'' ∧ ∃ d, ds[i]? = some d ∧ Rep K H'' E'' d x := by
  obtain ⟨e1, e2⟩ := hy
  subst e1
  obtain ⟨d, g1, g2⟩ := (rr.keep kp).got e2
  exact ⟨E', Gr.refl hd, d, g1, g2⟩
theorem itTup {K : PySem.W.Frag} {H : Hp} {E : Addr → Prop} {ds : List D} {a : Addr} {xs : List V} (q : SqT K H a xs) (rr : Reps K H E ds xs) : ItOk K (Itt K a) ds H E := by
  refine ⟨_, _, by rw [← rr.length]; exact walk_tup, fun H' ⟨E', kp⟩ => kp.sqT q, fun i H' E' x H'' kp hd _ hi yy => rr.yat kp hd yy⟩
theorem itLst {K : PySem.W.Frag} {H : Hp} {E : Addr → Prop} {ds : List D} {a : Addr} {xs : List V} (q : H a = some (.lst xs)) (ha : E a) (rr : Reps K H E ds xs) : ItOk K (Itl K a) ds H E := by
  refine ⟨_, _, by rw [← rr.length]; exact walk_list, fun H' ⟨E', kp⟩ => sqL_of (kp.ext _ _ ha q), fun i H' E' x H'' kp hd _ hi yy => rr.yat kp hd yy⟩
theorem itLstB {K : PySem.W.Frag} {H : Hp} {E : Addr → Prop} {ds : List D} {a : Addr} {xs : List V} (q : H a = some (.lst xs)) (rr : Reps K H E ds xs) : ItGr K (Itl K a) ds H E := by
  refine ⟨_, _, by rw [← rr.length]; exact walk_list, fun H' st => sqL_of (st _ _ q), fun i H' E' x H'' kp hd _ hi yy => rr.yat kp hd yy⟩
theorem itStr {K : PySem.W.Frag} {H : Hp} {E : Addr → Prop} (z : Str) : ItOk K (Its z) (signs z) H E := by
  have e : (signs z).length = z.cps.size := by unfold signs; rw [List.length_map, Array.length_toList]
  refine ⟨_, _, by rw [e]; exact walk_str, fun H' _ => trivial, fun i H' E' x H'' kp hd _ hi yy => ?_⟩
  obtain ⟨e1, c, e2, e3⟩ := yy
  subst e1 e3
  refine ⟨E', Gr.refl hd, .str ⟨#[c]⟩, ?_, repS⟩
  unfold signs
  rw [List.getElem?_map, Array.getElem?_toList, e2]
  rfl
theorem di_e {f} (h : DE X e f) : DI X tg e (eIt f) := ⟨⟨fun pins s σ H R I ⟨δ, E, os, ds, er, hf, k⟩ => by
  obtain ⟨d, h1, h2⟩ := Option.bind_eq_some_iff.mp hf
  unfold items at h2
  split at h2
  · cases h2
    refine (pi_tup h.pe).run pins s σ H R I ⟨δ, E, os, _, er, h1, fun v H' E' g r => ?_⟩
    obtain ⟨a, xs, rfl, q, rr⟩ := repBT r.b
    exact ⟨a, rfl, ⟨xs, q⟩, k _ H' E' g (itTup q rr)⟩
  · cases h2
    refine (pi_list h.pe).run pins s σ H R I ⟨δ, E, os, _, er, h1, fun v H' E' g r => ?_⟩
    unfold Rep at r
    obtain ⟨a, xs, rfl, q, ha, rr⟩ := r
    exact ⟨a, rfl, ⟨xs, sqL_of q⟩, k _ H' E' g (itLst q ha rr)⟩
  · cases h2
    refine (pi_str h.pe).run pins s σ H R I ⟨δ, E, os, _, er, h1, fun v H' E' g r => ?_⟩
    rw [repBS r.b]
    exact ⟨_, rfl, k _ H' E' g (itStr _)⟩
  · cases h2⟩⟩
theorem dib_e {f} (h : DB X e f) : DIB X tg e (eIt f) := ⟨⟨fun pins s σ H R I ⟨δ, E, os, ds, er, hf, k⟩ => by
  obtain ⟨d, h1, h2⟩ := Option.bind_eq_some_iff.mp hf
  unfold items at h2
  split at h2
  · cases h2
    refine (pi_tup h.pe).run pins s σ H R I ⟨δ, E, os, _, er, h1, fun v H' E' g r => ?_⟩
    obtain ⟨a, xs, rfl, q, rr⟩ := repBT r
    exact ⟨a, rfl, ⟨xs, q⟩, k _ H' E' g (itTup q rr).gr⟩
  · cases h2
    refine (pi_list h.pe).run pins s σ H R I ⟨δ, E, os, _, er, h1, fun v H' E' g r => ?_⟩
    obtain ⟨a, xs, rfl, q, rr⟩ := r
    exact ⟨a, rfl, ⟨xs, sqL_of q⟩, k _ H' E' g (itLstB q rr)⟩
  · cases h2
    refine (pi_str h.pe).run pins s σ H R I ⟨δ, E, os, _, er, h1, fun v H' E' g r => ?_⟩
    rw [repBS r]
    exact ⟨_, rfl, k _ H' E' g (itStr _).gr⟩
  · cases h2⟩⟩
def okR (j : Int) : Bool := decide (-4611686018427387904 ≤ j) && decide (j < 4611686018427387904)
def rng (lo : Int) (n : Nat) : List D := (List.range n).map fun i => .int (lo + (i : Nat))
noncomputable def eRng1 (f : Ev → Option (List D)) : Ev → Option (List D) := fun δ => (f δ).bind fun ds => match ds with
  | [.int j] => @ite _ (okR j = true) (Classical.propDecidable _) (some (rng 0 j.toNat)) none
  | _ => none
noncomputable def eRng2 (f : Ev → Option (List D)) : Ev → Option (List D) := fun δ => (f δ).bind fun ds => match ds with
  | [.int i, .int j] => @ite _ (okR i = true ∧ okR j = true) (Classical.propDecidable _) (some (rng i (j - i).toNat)) none
  | _ => none
theorem okR_iff {j : Int} (h : okR j = true) : -(2 ^ 62) ≤ j ∧ j < 2 ^ 62 := by
  unfold okR at h
  simp only [Bool.and_eq_true, decide_eq_true_eq] at h
  exact ⟨by omega, by omega⟩
theorem itRng {K : PySem.W.Frag} {H : Hp} {E : Addr → Prop} (lo : Int) (n : Nat) : ItOk K (Itr lo n) (rng lo n) H E := by
  have e : (rng lo n).length = n := by unfold rng; simp
  refine ⟨_, _, by rw [e]; exact walk_range, fun H' _ => trivial, fun i H' E' x H'' kp hd _ hi yy => ?_⟩
  obtain ⟨e1, e2⟩ := yy
  subst e1 e2
  refine ⟨E', Gr.refl hd, .int (lo + (i : Nat)), ?_, repI⟩
  unfold rng
  rw [e] at hi
  simp [hi]
theorem reps1 {K : PySem.W.Frag} {H : Hp} {E : Addr → Prop} {i : Int} {vs : List V} (h : Reps K H E [.int i] vs) : vs = [.int i] := Reps.ints (ns := [i]) h
theorem reps2 {K : PySem.W.Frag} {H : Hp} {E : Addr → Prop} {i j : Int} {vs : List V} (h : Reps K H E [.int i, .int j] vs) : vs = [.int i, .int j] := Reps.ints (ns := [i, j]) h
theorem di_range1 {f} (hg : Gl X "range") (hm : X.mg "range" = none) (ha : DA X [a] f) (hs : starEach [a] X.env = [(false, eval a X.env)] := by rfl) : DI X tg (.Call (.Name "range" p) [a] [] pos) (eRng1 f) := ⟨⟨fun pins s σ H R I ⟨δ, E, os, ds, er, hf, k⟩ => by
  obtain ⟨d, h1, h2⟩ := Option.bind_eq_some_iff.mp hf
  split at h2
  · split at h2
    · rename_i hj
      cases h2
      refine (pi_range1 hg hm ha.pa hs).run pins s σ H R I ⟨δ, E, os, _, er, h1, fun vs H' E' g r => ?_⟩
      obtain ⟨q1, q2⟩ := okR_iff hj
      exact ⟨_, reps1 r, q1, q2, k _ H' E' g (itRng _ _)⟩
    · cases h2
  · cases h2⟩⟩
theorem di_range2 {f} (hg : Gl X "range") (hm : X.mg "range" = none) (ha : DA X [a, b] f) (hs : starEach [a, b] X.env = [(false, eval a X.env), (false, eval b X.env)] := by rfl) (hs2 : starEach [b] X.env = [(false, eval b X.env)] := by rfl) : DI X tg (.Call (.Name "range" p) [a, b] [] pos) (eRng2 f) := ⟨⟨fun pins s σ H R I ⟨δ, E, os, ds, er, hf, k⟩ => by
  obtain ⟨d, h1, h2⟩ := Option.bind_eq_some_iff.mp hf
  split at h2
  · split at h2
    · rename_i hj
      cases h2
      refine (pi_range2 hg hm ha.pa hs hs2).run pins s σ H R I ⟨δ, E, os, _, er, h1, fun vs H' E' g r => ?_⟩
      obtain ⟨q1, q2⟩ := okR_iff hj.1
      obtain ⟨q3, q4⟩ := okR_iff hj.2
      exact ⟨_, _, reps2 r, ⟨q1, q2, q3, q4⟩, k _ H' E' g (itRng _ _)⟩
    · cases h2
  · cases h2⟩⟩

/-! ### for, while -/
def forL (t : D → Ev → Option Ev) (body : Ev → Option Out) : List D → Ev → Option Out
  | [], δ => some (.nx δ)
  | d :: r, δ => (t d δ).bind fun δ1 => (body δ1).bind fun o => match o with
    | .nx δ' => forL t body r δ'
    | .ct δ' => forL t body r δ'
    | .bk δ' => some (.nx δ')
    | .rt s => some (.rt s)
def sFor (it : Ev → Option (List D)) (t : D → Ev → Option Ev) (body : Ev → Option Out) : Ev → Option Out := fun δ => (it δ).bind fun ds => forL t body ds δ
theorem Fr0.kp {K : PySem.W.Frag} {H H' : Hp} {E E' : Addr → Prop} {os : List Addr} {δ : Ev} {σ : L2.St} (er : ER K H E δ σ os) (f : Fr0 H E os H' E') : Kp H E H' E' := by
  have kd : ∀ {δ : Ev} {σ : L2.St} {os : List Addr}, RepEv K H E δ σ os → ∀ a ∈ os, (∀ xs, H a ≠ some (.tup xs)) ∧ ∀ o u, H a ≠ some (.frz o u) := by
    intro δ
    induction δ with
    | nil => intro σ os h a m; rw [h.2] at m; cases m
    | cons s δ ih =>
      intro σ os h a m
      obtain ⟨v, r, o1, o2, rfl, rfl, h1, h2⟩ := h
      rcases List.mem_append.mp m with m | m
      · cases s with
        | no => rw [show o1 = [] from h1] at m; cases m
        | val d => rw [h1.1] at m; cases m
        | lst ds => obtain ⟨b, xs, _, e, e2, _⟩ := h1; rw [e] at m; rw [List.mem_singleton.mp m, e2]; exact ⟨fun _ q => (by cases q), fun _ _ q => (by cases q)⟩
        | dK ks ds => obtain ⟨b, xs, _, e, e2, _⟩ := h1; rw [e] at m; rw [List.mem_singleton.mp m, e2]; exact ⟨fun _ q => (by cases q), fun _ _ q => (by cases q)⟩
        | dT ks ds => obtain ⟨b, xs, _, e, e2, _⟩ := h1; rw [e] at m; rw [List.mem_singleton.mp m, e2]; exact ⟨fun _ q => (by cases q), fun _ _ q => (by cases q)⟩
      · exact ih h2 a m
  exact ⟨fun a xs e => f.keep a _ e fun m => (kd er.rep a m).1 xs e, fun a o u e => f.keep a _ e fun m => (kd er.rep a m).2 o u e, fun a o h e => f.keep a o e fun m => er.dis a m h, f.sub⟩
theorem Kp.trans {H H1 H2 : Hp} {E E1 E2 : Addr → Prop} (a : Kp H E H1 E1) (b : Kp H1 E1 H2 E2) : Kp H E H2 E2 :=
  ⟨fun x xs e => b.tup x xs (a.tup x xs e), fun x o u e => b.frz x o u (a.frz x o u e), fun x o h e => b.ext x o (a.sub x h) (a.ext x o h e), fun x h => b.sub x (a.sub x h)⟩
theorem Kp.refl {H : Hp} {E : Addr → Prop} : Kp H E H E := ⟨fun _ _ e => e, fun _ _ _ e => e, fun _ _ _ e => e, fun _ e => e⟩
theorem ds_for {iter : Expr} {body : List Stmt} {it t f} {sl : List Nat} (hi : DI X tg iter it) (hg : DG X tg sl t) (hb : DSs X body f) (hc : X.calm = true) (hp : PassesOwn (model X.prog X.w) X.A X.env X.xe)
    (hs : ∀ x, foldedSetIterable iter X.env x = pure x := by intro _; rfl) : DS X (.For tg iter body [] pos) (sFor it t f) := ⟨psImp (ps_for hp hc hi.pi hg.pg hb.pss hs) fun D σ H ⟨δ, E, os, out, er, hf, k⟩ => by
  obtain ⟨ds, h1, h2⟩ := Option.bind_eq_some_iff.mp hf
  refine ⟨δ, E, os, ds, er, h1, fun J H1 E1 g i => ?_⟩
  obtain ⟨G, Y, w, hG, hY⟩ := i.w
  have fm0 : Fm H E os H1 E1 os := g.fm fun a m => .inl m
  refine for_it w (fun i σ H' => ∃ δi Ei osi, ER X.K H' Ei δi σ osi ∧ forL t f (ds.drop i) δi = some out ∧ EndOk X.K D H' Ei osi out ∧ Kp H1 E1 H' Ei) ⟨δ, E1, os, er.grow g, by simpa using h2, k.later fm0, Kp.refl⟩
    (fun i σ H' _ ⟨δi, Ei, osi, ei, _, _, kp⟩ => hG H' ⟨Ei, kp⟩) (fun i x σi H' H'' hi' ⟨δi, Ei, osi, ei, hfi, ki, kp⟩ yy => ?_) fun σi H' ⟨δi, Ei, osi, ei, hfi, ki, kp⟩ => ?_
  · obtain ⟨E2, g2, d, hd, rd⟩ := hY i H' Ei x H'' kp ei.dom ⟨Ei, kp⟩ hi' yy
    have e9 : ds.drop i = d :: ds.drop (i + 1) := by
      obtain ⟨q1, q2⟩ := List.getElem?_eq_some_iff.mp hd
      rw [← q2]
      exact List.drop_eq_getElem_cons q1
    rw [e9] at hfi
    unfold forL at hfi
    obtain ⟨δ1, t1, t2⟩ := Option.bind_eq_some_iff.mp hfi
    obtain ⟨o, b1, b2⟩ := Option.bind_eq_some_iff.mp t2
    have ei2 := ei.grow g2
    have fm2 : Fm H' Ei osi H'' E2 osi := g2.fm fun a m => .inl m
    have ki2 := ki.later fm2
    refine ⟨δi, E2, osi, d, δ1, ei2, rd, t1, fun σ' os' e' m' _ => ⟨δ1, E2, os', o, e', b1, ?_⟩⟩
    have fm3 : Fm H'' E2 osi H'' E2 os' := e'.gr0.fm fun a m => .inl (m' a m)
    have ki3 := ki2.later fm3
    have go : ∀ {δ'}, forL t f (ds.drop (i + 1)) δ' = some out → ∀ σ'' H3 E3 os3, ER X.K H3 E3 δ' σ'' os3 → Fm H'' E2 os' H3 E3 os3 → ∃ δi Ei osi, ER X.K H3 Ei δi σ'' osi ∧ forL t f (ds.drop (i + 1)) δi = some out ∧ EndOk X.K D H3 Ei osi out ∧ Kp H1 E1 H3 Ei := fun {δ'} hh σ'' H3 E3 os3 e3 f3 =>
      ⟨δ', E3, os3, e3, hh, ki3.later f3, (kp.trans g2.kp).trans (f3.toFr0.kp e')⟩
    cases o with
    | nx δ' => exact go b2
    | ct δ' => exact go b2
    | bk δ' =>
      cases b2
      exact fun σ'' H3 E3 os3 e3 f3 => ki3 σ'' H3 E3 os3 e3 f3
    | rt s => cases b2; exact fun v H3 E3 f3 r3 => ki3 v H3 E3 f3 r3
  · rw [List.drop_eq_nil_of_le (Nat.le_refl _)] at hfi
    unfold forL at hfi
    cases hfi
    exact ki σi H' Ei osi ei ei.fm0⟩
def whileL (t : Ev → Option Bool) (body : Ev → Option Out) : Nat → Ev → Option Out
  | 0, _ => none
  | n + 1, δ => (t δ).bind fun c => if c = true then (body δ).bind fun o => match o with
    | .nx δ' => whileL t body n δ'
    | .ct δ' => whileL t body n δ'
    | .bk δ' => some (.nx δ')
    | .rt s => some (.rt s)
    else some (.nx δ)
def sWhile (n : Nat) (t : Ev → Option Bool) (body : Ev → Option Out) : Ev → Option Out := whileL t body n
theorem ds_while (n : Nat) {c : Expr} {body : List Stmt} {t f} (ht : DT X c t) (hb : DSs X body f) (hp : PassesOwn (model X.prog X.w) X.A X.env X.xe) : DS X (.While c body [] pos) (sWhile n t f) := ⟨psImp (ps_while hp ht.pt hb.pss) fun D σ H ⟨δ, E, os, out, er, hf, k⟩ => by
  refine ⟨fun m σ H => ∃ δ E os, ER X.K H E δ σ os ∧ whileL t f m δ = some out ∧ EndOk X.K D H E os out, ⟨n, δ, E, os, er, hf, k⟩, fun m σi H' ⟨δi, Ei, osi, ei, hfi, ki⟩ => ?_⟩
  cases m with
  | zero => unfold whileL at hfi; cases hfi
  | succ m =>
    unfold whileL at hfi
    obtain ⟨b, h1, h2⟩ := Option.bind_eq_some_iff.mp hfi
    refine ⟨δi, Ei, osi, b, ei, h1, fun H2 E2 g2 => ?_⟩
    have fm2 : Fm H' Ei osi H2 E2 osi := g2.fm fun a m => .inl m
    have ki2 := ki.later fm2
    have ei2 := ei.grow g2
    cases b with
    | false =>
      refine iteF ?_
      simp at h2
      subst h2
      exact ki2 σi H2 E2 osi ei2 ei2.fm0
    | true =>
      refine iteT ?_
      simp only [if_true] at h2
      obtain ⟨o, b1, b2⟩ := Option.bind_eq_some_iff.mp h2
      refine ⟨fun σ' H3 => ∃ δ E os, ER X.K H3 E δ σ' os ∧ whileL t f m δ = some out ∧ EndOk X.K D H3 E os out, fun σ' H3 q => ⟨m, Nat.lt_succ_self m, q⟩, δi, E2, osi, o, ei2, b1, ?_⟩
      cases o with
      | nx δ' => exact fun σ'' H3 E3 os3 e3 f3 => ⟨δ', E3, os3, e3, b2, ki2.later f3⟩
      | ct δ' => exact fun σ'' H3 E3 os3 e3 f3 => ⟨δ', E3, os3, e3, b2, ki2.later f3⟩
      | bk δ' => cases b2; exact fun σ'' H3 E3 os3 e3 f3 => ki2 σ'' H3 E3 os3 e3 f3
      | rt s => cases b2; exact fun v H3 E3 f3 r3 => ki2 v H3 E3 f3 r3⟩
end
end DL

/-! own lists changed; comprehensions; defs -/
namespace DL
open PySem PySem.Spec PyProof.Rows L2 PySem.SeqAt
section
variable {K : PySem.W.Frag} {H H' : Hp} {E E' : Addr → Prop} {os : List Addr}
theorem ne_of {P : Addr → Prop} {a b : Addr} (h : P b) (n : ¬ P a) : b ≠ a := fun z => n (by rw [← z]; exact h)
theorem ne_of' {P : Addr → Prop} {a b : Addr} (n : ¬ P b) (h : P a) : b ≠ a := fun z => n (by rw [z]; exact h)
/-- the object of the own list at name i is another one -/
theorem RepEv.write {a : Addr} {xs xs' : List V} {ds' : List D} (ha : H a = some (.lst xs)) (hE : ¬ E a) (r' : Reps K (upd H a (.lst xs')) E ds' xs') : ∀ {δ : Ev} {σ : L2.St} {os : List Addr} {i : Nat} {ds : List D}, RepEv K H E δ σ os → os.Nodup → δ[i]? = some (.lst ds) → σ[i]? = some (some (.ref a)) →
    RepEv K (upd H a (.lst xs')) E (δ.set i (.lst ds')) σ os := by
  have kp : Kp H E (upd H a (.lst xs')) E := ⟨fun b ys e => by rw [upd_ne (fun z => by rw [z, ha] at e; cases e)]; exact e, fun b o u e => by rw [upd_ne (fun z => by rw [z, ha] at e; cases e)]; exact e,
    fun b o h e => by rw [upd_ne (ne_of h hE)]; exact e, fun _ e => e⟩
  intro δ
  induction δ with
  | nil => intro σ os i ds h hn e; simp at e
  | cons s δ ih =>
    intro σ os i ds h hn e1 e2
    obtain ⟨v, t, o1, o2, rfl, rfl, h1, h2⟩ := h
    rw [List.nodup_append] at hn
    cases i with
    | zero =>
      simp at e1 e2
      subst e1 e2
      obtain ⟨b, ys, e3, e4, e5, r⟩ := h1
      cases e3
      refine ⟨_, t, o1, o2, rfl, rfl, ⟨a, xs', rfl, e4, upd_same, r'⟩, h2.keep kp fun b m o e => ?_⟩
      rw [upd_ne]
      · exact e
      · intro z
        subst z
        exact hn.2.2 b (by rw [e4]; simp) b m rfl
    | succ i =>
      have e1' : δ[i]? = some (.lst ds) := by simpa using e1
      have e2' : t[i]? = some (some (.ref a)) := by simpa using e2
      refine ⟨v, t, o1, o2, rfl, rfl, h1.keep kp fun b m o e => ?_, ih h2 hn.2.1 e1' e2'⟩
      rw [upd_ne]
      · exact e
      · intro z
        subst z
        obtain ⟨w, o3, g1, g2, g3⟩ := h2.get e1'
        rw [e2'] at g1
        cases g1
        obtain ⟨b', ys, e3, e4, e5, r⟩ := g2
        cases e3
        exact hn.2.2 b m b (g3 b (by rw [e4]; simp)) rfl
theorem ER.own {δ : Ev} {σ : L2.St} {i : Nat} {ds : List D} (e : ER K H E δ σ os) (h : δ[i]? = some (.lst ds)) : ∃ a xs, σ[i]? = some (some (.ref a)) ∧ a ∈ os ∧ H a = some (.lst xs) ∧ Reps K H E ds xs := by
  obtain ⟨v, o1, g1, ⟨a, xs, e1, e2, e3, r⟩, m⟩ := e.rep.get h
  subst e1
  exact ⟨a, xs, g1, m a (by rw [e2]; simp), e3, r⟩
theorem ER.write {δ : Ev} {σ : L2.St} {i : Nat} {ds ds' : List D} {a : Addr} {xs xs' : List V} (e : ER K H E δ σ os) (h : δ[i]? = some (.lst ds)) (hs : σ[i]? = some (some (.ref a))) (ha : H a = some (.lst xs)) (hm : a ∈ os) (r' : Reps K H E ds' xs') :
    ER K (upd H a (.lst xs')) E (δ.set i (.lst ds')) σ os ∧ Fm H E os (upd H a (.lst xs')) E os := by
  have hE := e.dis a hm
  have kp : Kp H E (upd H a (.lst xs')) E := ⟨fun b ys e => by rw [upd_ne (fun z => by rw [z, ha] at e; cases e)]; exact e, fun b o u e => by rw [upd_ne (fun z => by rw [z, ha] at e; cases e)]; exact e,
    fun b o h e => by rw [upd_ne (ne_of h hE)]; exact e, fun _ e => e⟩
  have dm : ∀ b, E b → upd H a (.lst xs') b ≠ none := fun b h => by rw [upd_ne (ne_of h hE)]; exact e.dom b h
  refine ⟨⟨e.rep.write ha hE (r'.keep kp) e.nd h hs, e.nd, e.dis, dm⟩, ⟨⟨fun b o q n => ?_, fun _ q => q, fun _ q => .inl q, dm⟩, fun b m => .inl m⟩⟩
  rw [upd_ne (ne_of' (P := (· ∈ os)) n hm)]
  exact q
end
section
variable {X : Cx} {e e2 : Expr} {pos p apos cpos tpos : Pos}
/-- x.append(e) -/
def sApp (i : Nat) (f : Ev → Option D) : Ev → Option Out := fun δ => match δ[i]? with
  | some (.lst ds) => (f δ).bind fun d => if ds.length < sizeLine then some (.nx (δ.set i (.lst (ds ++ [d])))) else none
  | _ => none
theorem ds_app (i : Nat) {x : Str} {f} (h : DE X e f) (hN : X.N[i]? = some x := by rfl) (hv : Vis X.env.scope x := by first | exact Or.inl rfl | exact Or.inr (Or.inl rfl) | exact Or.inr (Or.inr rfl)) (hd : (x == ("__debug__" : Str)) = false := by decide)
    (hcd : (x == ("__classdict__" : Str)) = false := by decide) (hsw : swapsWith (.Call (.Attribute (.Name x p) "append" apos) [e] [] cpos) none pos.line X.env = pure false := by rfl)
    (hbase : attributeBase (.Name x p) "append" X.env (eval (.Name x p) X.env) = eval (.Name x p) X.env := by rfl)
    (hfew : ((backTo cpos (starEach [e] X.env)).all (fun x => !x.1) && (backToKw cpos (keywordEach [] X.env)).all (fun x => x.1.isSome)
      && decide ([e].length + ([] : List Keyword).length + (if ([] : List Keyword).isEmpty then 0 else 1) < 30)) = true := by rfl)
    (hline : (apos.endLine == cpos.line) = true := by rfl) (hs : starEach [e] X.env = (false, eval e X.env) :: starEach [] X.env := by rfl) (hplain : (backTo cpos (starEach [] X.env)).any (·.1) = false := by rfl) :
    DS X (.Expr (.Call (.Attribute (.Name x p) "append" apos) [e] [] cpos) pos) (sApp i f) :=
  ⟨psImp (ps_expr (pe_bm PySem.F.plainAttrs_list PySem.F.slot_list_append PySem.F.type_list_append (r := rAppend) mt_append (pe_var hN hv hd hcd) (pa_cons h.pe pa_nil hs) hbase hfew hline hs hplain) hsw) fun D σ H ⟨δ, E, os, out, er, hf, k⟩ => by
    unfold sApp at hf
    split at hf
    · rename_i ds hi
      obtain ⟨d, h1, h2⟩ := Option.bind_eq_some_iff.mp hf
      split at h2
      · rename_i hz
        cases h2
        obtain ⟨a, xs, g1, g2, g3, g4⟩ := er.own hi
        refine ⟨_, g1, .inl ⟨rfl, xs, sqL_of g3⟩, δ, E, os, d, er, h1, fun v H1 E1 g r => ?_⟩
        have er1 := er.grow g
        have ha1 : H1 a = some (.lst xs) := g.same _ _ g3
        refine ⟨a, xs, v, rfl, rfl, ha1, by rw [g4.length]; exact hz, ?_⟩
        obtain ⟨e2, f2⟩ := er1.write (ds' := ds ++ [d]) hi g1 ha1 g2 ((g4.keep g.kp).snoc r)
        exact k _ _ E1 os e2 ((g.fm fun a m => .inl m).trans f2)
      · cases h2
    · cases hf⟩
/-- target = x.pop() -/
def sPop (i : Nat) (t : D → Ev → Option Ev) : Ev → Option Out := fun δ => match δ[i]? with
  | some (.lst ds) => match ds[ds.length - 1]? with
    | some d => (t d (δ.set i (.lst ds.dropLast))).map .nx
    | none => none
  | _ => none
theorem ds_pop (i : Nat) {tg : Expr} {x : Str} {t} {sl : List Nat} (hg : DG X tg sl t) (hN : X.N[i]? = some x := by rfl) (hv : Vis X.env.scope x := by first | exact Or.inl rfl | exact Or.inr (Or.inl rfl) | exact Or.inr (Or.inr rfl)) (hd : (x == ("__debug__" : Str)) = false := by decide)
    (hcd : (x == ("__classdict__" : Str)) = false := by decide)
    (hbase : attributeBase (.Name x p) "pop" X.env (eval (.Name x p) X.env) = eval (.Name x p) X.env := by rfl) (hline : (apos.endLine == cpos.line) = true := by rfl)
    (hs : swapsWithSole [tg] (.Call (.Attribute (.Name x p) "pop" apos) [] [] cpos) pos.line X.env = pure false := by rfl) (hw : swappedStores [tg] (.Call (.Attribute (.Name x p) "pop" apos) [] [] cpos) X.env = pure none := by rfl)
    (h1 : (assignEach [tg] X.env).map (·.2) = [assign tg X.env] := by rfl) :
    DS X (.Assign [tg] (.Call (.Attribute (.Name x p) "pop" apos) [] [] cpos) pos) (sPop i t) :=
  ⟨psImp (ps_asg (pe_bm0 PySem.F.plainAttrs_list PySem.F.slot_list_pop PySem.F.type_list_pop (r := rPop) mt_pop (pe_var hN hv hd hcd) hbase hline) hg.pg hs hw h1) fun D σ H ⟨δ, E, os, out, er, hf, k⟩ => by
    unfold sPop at hf
    split at hf
    · rename_i ds hi
      split at hf
      · rename_i d hd
        obtain ⟨δ', t1, t2⟩ := Option.map_eq_some_iff.mp hf
        subst t2
        obtain ⟨a, xs, g1, g2, g3, g4⟩ := er.own hi
        obtain ⟨y, hy, ry⟩ := g4.get hd
        rw [← g4.length] at hy
        refine ⟨_, g1, .inl ⟨rfl, xs, sqL_of g3⟩, a, xs, y, rfl, rfl, g3, hy, ?_⟩
        obtain ⟨e2, f2⟩ := er.write (ds' := ds.dropLast) hi g1 g3 g2 g4.dropLast
        have ry2 : Rep X.K (upd H a (.lst xs.dropLast)) E d y := ry.keep ⟨fun b ys e => by rw [upd_ne (fun z => by rw [z, g3] at e; cases e)]; exact e, fun b o u e => by rw [upd_ne (fun z => by rw [z, g3] at e; cases e)]; exact e,
          fun b o h e => by rw [upd_ne (ne_of h (er.dis a g2))]; exact e, fun _ e => e⟩
        exact ⟨_, E, os, d, δ', e2, ry2, t1, fun σ' os' e' m' _ => k σ' _ E os' e' (f2.trans (e2.gr0.fm fun a m => .inl (m' a m)))⟩
      · cases hf
    · cases hf⟩
/-- target = x.pop(n) -/
noncomputable def sPopAt (i : Nat) (n : Ev → Option D) (t : D → Ev → Option Ev) : Ev → Option Out := fun δ => match δ[i]? with
  | some (.lst ds) => (n δ).bind fun j => match j with
    | .int j => @ite _ (-(9223372036854775808) ≤ j ∧ j < 9223372036854775808) (Classical.propDecidable _) ((seqIndex? j ds.length).bind fun k => match ds[k]? with
      | some d => (t d (δ.set i (.lst (ds.eraseIdx k)))).map .nx
      | none => none)
      none
    | _ => none
  | _ => none
theorem ds_popAt (i : Nat) {tg : Expr} {x : Str} {t n} {sl : List Nat} (hn : DE X e n) (hg : DG X tg sl t) (hN : X.N[i]? = some x := by rfl) (hv : Vis X.env.scope x := by first | exact Or.inl rfl | exact Or.inr (Or.inl rfl) | exact Or.inr (Or.inr rfl)) (hd : (x == ("__debug__" : Str)) = false := by decide)
    (hcd : (x == ("__classdict__" : Str)) = false := by decide)
    (hbase : attributeBase (.Name x p) "pop" X.env (eval (.Name x p) X.env) = eval (.Name x p) X.env := by rfl)
    (hfew : ((backTo cpos (starEach [e] X.env)).all (fun x => !x.1) && (backToKw cpos (keywordEach [] X.env)).all (fun x => x.1.isSome)
      && decide ([e].length + ([] : List Keyword).length + (if ([] : List Keyword).isEmpty then 0 else 1) < 30)) = true := by rfl)
    (hline : (apos.endLine == cpos.line) = true := by rfl) (hse : starEach [e] X.env = (false, eval e X.env) :: starEach [] X.env := by rfl) (hplain : (backTo cpos (starEach [] X.env)).any (·.1) = false := by rfl)
    (hs : swapsWithSole [tg] (.Call (.Attribute (.Name x p) "pop" apos) [e] [] cpos) pos.line X.env = pure false := by rfl) (hw : swappedStores [tg] (.Call (.Attribute (.Name x p) "pop" apos) [e] [] cpos) X.env = pure none := by rfl)
    (h1 : (assignEach [tg] X.env).map (·.2) = [assign tg X.env] := by rfl) :
    DS X (.Assign [tg] (.Call (.Attribute (.Name x p) "pop" apos) [e] [] cpos) pos) (sPopAt i n t) :=
  ⟨psImp (ps_asg (pe_bm PySem.F.plainAttrs_list PySem.F.slot_list_pop PySem.F.type_list_pop (r := rPopAt) mt_popAt (pe_var hN hv hd hcd) (pa_cons hn.pe pa_nil hse) hbase hfew hline hse hplain) hg.pg hs hw h1) fun D σ H ⟨δ, E, os, out, er, hf, k⟩ => by
    unfold sPopAt at hf
    split at hf
    · rename_i ds hi
      obtain ⟨j, j1, j2⟩ := Option.bind_eq_some_iff.mp hf
      split at j2
      · split at j2
        · rename_i hb
          obtain ⟨kk, j3, j4⟩ := Option.bind_eq_some_iff.mp j2
          split at j4
          · rename_i d hd
            obtain ⟨δ', t1, t2⟩ := Option.map_eq_some_iff.mp j4
            subst t2
            obtain ⟨a, xs, g1, g2, g3, g4⟩ := er.own hi
            refine ⟨_, g1, .inl ⟨rfl, xs, sqL_of g3⟩, δ, E, os, _, er, j1, fun v H1 E1 g r => ?_⟩
            have er1 := er.grow g
            have ha1 : H1 a = some (.lst xs) := g.same _ _ g3
            have g41 := g4.keep g.kp
            obtain ⟨y, hy, ry⟩ := g41.get hd
            rw [repBI r.b]
            refine ⟨a, xs, _, kk, y, rfl, rfl, ha1, by omega, by omega, by rw [g4.length]; exact j3, hy, ?_⟩
            obtain ⟨e2, f2⟩ := er1.write (ds' := ds.eraseIdx kk) hi g1 ha1 g2 (g41.eraseIdx kk)
            have ry2 : Rep X.K (upd H1 a (.lst (xs.eraseIdx kk))) E1 d y := ry.keep ⟨fun b ys e => by rw [upd_ne (fun z => by rw [z, ha1] at e; cases e)]; exact e, fun b o u e => by rw [upd_ne (fun z => by rw [z, ha1] at e; cases e)]; exact e,
              fun b o h e => by rw [upd_ne (ne_of h (er1.dis a g2))]; exact e, fun _ e => e⟩
            exact ⟨_, E1, os, d, δ', e2, ry2, t1, fun σ' os' e' m' _ => k σ' _ E1 os' e' (((g.fm fun a m => .inl m).trans f2).trans (e2.gr0.fm fun a m => .inl (m' a m)))⟩
          · cases j4
        · cases j2
      · cases j2
    · cases hf⟩
/-- x[i] = e -/
def sSetIx (i : Nat) (fj : Ev → Option D) (f : Ev → Option D) : Ev → Option Out := fun δ => (f δ).bind fun d => match δ[i]? with
  | some (.lst ds) => (fj δ).bind fun j => match j with
    | .int j => (ixN ds.length j).map fun k => .nx (δ.set i (.lst (ds.set k d)))
    | _ => none
  | _ => none
theorem ds_setIx (i : Nat) {x : Str} {f fj} {ix : Expr} (h : DE X e f) (hj : DE X ix fj) (hN : X.N[i]? = some x := by rfl) (hv : Vis X.env.scope x := by first | exact Or.inl rfl | exact Or.inr (Or.inl rfl) | exact Or.inr (Or.inr rfl)) (hd : (x == ("__debug__" : Str)) = false := by decide)
    (hcd : (x == ("__classdict__" : Str)) = false := by decide)
    (ha : ∀ v, assign (.Subscript (.Name x p) ix tpos) X.env v = (do
      let ov ← holding [v] (eval (.Name x p) X.env)
      let iv ← holding [v, ov] (eval ix X.env)
      standAt tpos
      holding [v, ov, iv] (setItem ov iv v)
      release [v, ov, iv] []) := by intro _; rfl)
    (hs : swapsWithSole [.Subscript (.Name x p) ix tpos] e pos.line X.env = pure false := by rfl) (hw : swappedStores [.Subscript (.Name x p) ix tpos] e X.env = pure none := by rfl)
    (h1 : (assignEach [.Subscript (.Name x p) ix tpos] X.env).map (·.2) = [assign (.Subscript (.Name x p) ix tpos) X.env] := by rfl) :
    DS X (.Assign [.Subscript (.Name x p) ix tpos] e pos) (sSetIx i fj f) :=
  ⟨psImp (ps_asg h.pe (pg_sub (pe_var hN hv hd hcd) hj.pe set_list ha) hs hw h1) fun D σ H ⟨δ, E, os, out, er, hf, k⟩ => by
    obtain ⟨d, h1, h2⟩ := Option.bind_eq_some_iff.mp hf
    split at h2
    · rename_i ds hi
      obtain ⟨j, j1, j2⟩ := Option.bind_eq_some_iff.mp h2
      split at j2
      · obtain ⟨kk, j3, j4⟩ := Option.map_eq_some_iff.mp j2
        subst j4
        refine ⟨δ, E, os, d, er, h1, fun v H1 E1 g r => ?_⟩
        have er1 := er.grow g
        obtain ⟨a, xs, g1, g2, g3, g4⟩ := er1.own hi
        refine ⟨_, g1, δ, E1, os, _, er1, j1, fun w H2 E2 gg rr => ?_⟩
        have er2 := er1.grow gg
        have ha2 : H2 a = some (.lst xs) := gg.same _ _ g3
        rw [repBI rr.b]
        refine ⟨a, xs, _, kk, rfl, rfl, ha2, by rw [g4.length]; exact j3, ?_⟩
        obtain ⟨e2, f2⟩ := er2.write (ds' := ds.set kk d) hi g1 ha2 g2 ((g4.keep gg.kp).set kk (r.keep gg.kp))
        exact k _ _ E2 os e2 (((g.trans gg).fm fun a m => .inl m).trans f2)
      · cases j2
    · cases h2⟩
/-- x op= e, x no list -/
def IpD (X : Cx) (op : Operator) (g : D → D → Option D) : Prop := PIp X op (rD X.K g)
def sAug (i : Nat) (g : D → D → Option D) (f : Ev → Option D) : Ev → Option Out := fun δ => (eV i δ).bind fun x => (f δ).bind fun y => (g x y).map fun z => .nx (δ.set i (.val z))
theorem ds_aug (i : Nat) {x : Str} {op : Operator} {g f} {pos' : Pos} (ho : IpD X op g) (h : DE X e f) (hN : X.N.Nodup) (hi : X.N[i]? = some x := by rfl) (hx : Loc X.env.scope x := by first | exact Or.inl rfl | exact Or.inr rfl)
    (hf : X.fn x = true ∨ X.env.scope.names.lookup x = some .local := by first | exact .inl rfl | exact .inr rfl | assumption) : DS X (.AugAssign (.Name x pos') op e pos) (sAug i g f) :=
  ⟨psImp (ps_aug hN hi hx h.pe ho hf) fun D σ H ⟨δ, E, os, out, er, hf, k⟩ => by
    obtain ⟨d, h1, h2⟩ := Option.bind_eq_some_iff.mp hf
    obtain ⟨y, h3, h4⟩ := Option.bind_eq_some_iff.mp h2
    obtain ⟨z, h5, h6⟩ := Option.map_eq_some_iff.mp h4
    subst h6
    unfold eV at h1
    split at h1
    · rename_i d' hs
      cases h1
      obtain ⟨v, o1, e1, ⟨_, x', e2, r2⟩, _⟩ := er.rep.get hs
      subst e2
      refine ⟨x', e1, δ, E, os, y, er, h3, fun w H1 E1 g1 r1 => ?_⟩
      refine ⟨E1, d, y, z, g1.dom, (r2.keep g1.kp).b, r1.b, h5, fun u H2 E2 g2 r3 => ?_⟩
      obtain ⟨os', e', m'⟩ := (er.grow (g1.trans g2)).setVal (i := i) r3
      exact k _ H2 E2 os' e' ((g1.trans g2).fm fun a m => .inl (m' a m))
    · cases h1⟩
def dAddI : D → D → Option D := fun a b => match a, b with
  | .int i, .int j => some (.int (i + j))
  | _, _ => none
theorem ip_addD : IpD X .Add dAddI := by
  intro pins s σ H x y v u Q I rx ry h
  obtain ⟨E, d1, d2, d, hd, h1, h2, hg, k⟩ := h
  unfold dAddI at hg
  split at hg
  · cases hg
    rw [repBI h1] at rx; rw [repBI h2] at ry
    exact ip_add pins s σ H _ _ v u Q I rx ry ⟨_, _, rfl, rfl, k _ H E (Gr.refl hd) repI⟩
  · cases hg
theorem ip_subD : IpD X .Sub dSub := by
  intro pins s σ H x y v u Q I rx ry h
  obtain ⟨E, d1, d2, d, hd, h1, h2, hg, k⟩ := h
  unfold dSub at hg
  split at hg
  · cases hg
    rw [repBI h1] at rx; rw [repBI h2] at ry
    exact ip_sub pins s σ H _ _ v u Q I rx ry ⟨_, _, rfl, rfl, k _ H E (Gr.refl hd) repI⟩
  · cases hg
theorem ip_mulD : IpD X .Mult dMul := by
  intro pins s σ H x y v u Q I rx ry h
  obtain ⟨E, d1, d2, d, hd, h1, h2, hg, k⟩ := h
  unfold dMul at hg
  split at hg
  · split at hg
    · rename_i hm
      cases hg
      rw [repBI h1] at rx; rw [repBI h2] at ry
      obtain ⟨t, rfl⟩ := rx
      obtain ⟨t', rfl⟩ := ry
      exact imul_int ⟨.int _, H, I.tok _, ⟨_, rfl⟩, k _ H E (Gr.refl hd) repI⟩ (mulOk_ok hm)
    · cases hg
  · cases hg
/-- x[i] op= e on ints -/
def sAugIx (i : Nat) (g : D → D → Option D) (fj f : Ev → Option D) : Ev → Option Out := fun δ => match δ[i]? with
  | some (.lst ds) => (fj δ).bind fun j => match j with
    | .int j => (ixN ds.length j).bind fun k => match ds[k]? with
      | some old => (f δ).bind fun y => (g old y).map fun z => .nx (δ.set i (.lst (ds.set k z)))
      | none => none
    | _ => none
  | _ => none
def rGetL (K : PySem.W.Frag) : V → V → Hp → VK → Prop := fun o i H Q => ∃ p xs k j y, o = .ref p ∧ i = .int k ∧ H p = some (.lst xs) ∧ ixN xs.length k = some j ∧ xs[j]? = some y ∧ Q y H
theorem get_list : PGet X (rGetL X.K) := by
  intro pins s σ H o i ov iv Q I ro ri h
  obtain ⟨p, xs, k, j, y, rfl, rfl, hp, hj, hy, q⟩ := h
  cases ro
  obtain ⟨t, rfl⟩ := ri
  obtain ⟨its, rv, pl, hz⟩ := I.list (sqL_of hp)
  obtain ⟨u, hu, ru⟩ := rv.get hy
  have hl := rv.length
  have hsz : its.toArray.size = xs.length := by rw [List.size_toArray]; exact hl.symm
  obtain ⟨h1, h2, h3, h4⟩ := ixN_seq hj
  have hline := line63
  unfold ixN at hj
  by_cases h0 : 0 ≤ k
  · rw [if_pos h0, if_pos h4] at hj
    cases hj
    exact wpAny_getItem_list pl.isList h0 (by omega) (by simpa using hu) ⟨y, H, I, ru, q⟩
  · rw [if_neg h0, if_pos h3] at hj
    cases hj
    refine wpAny_getItem_list_neg pl.isList (by omega) (by rw [hsz]; omega) (by omega) ?_ ⟨y, H, I, ru, q⟩
    rw [hsz]
    simpa using hu
theorem ds_augIx (i : Nat) {x : Str} {op : Operator} {g f fj} {ix : Expr} (ho : IpD X op g) (h : DE X e f) (hj : DE X ix fj) (hN : X.N[i]? = some x := by rfl) (hv : Vis X.env.scope x := by first | exact Or.inl rfl | exact Or.inr (Or.inl rfl) | exact Or.inr (Or.inr rfl)) (hd : (x == ("__debug__" : Str)) = false := by decide)
    (hcd : (x == ("__classdict__" : Str)) = false := by decide)
    (ha : ∀ ov iv new, augStore ix ov iv new = (do holding [new, ov, iv] (setItem ov iv new); release [new, ov, iv] []; pure .next) := by intros; rfl) : DS X (.AugAssign (.Subscript (.Name x p) ix tpos) op e pos) (sAugIx i g fj f) :=
  ⟨psImp (ps_augS (pe_var hN hv hd hcd) hj.pe get_list h.pe ho set_list ha) fun D σ H ⟨δ, E, os, out, er, hf, k⟩ => by
    unfold sAugIx at hf
    split at hf
    · rename_i ds hi
      obtain ⟨j, j1, j2⟩ := Option.bind_eq_some_iff.mp hf
      split at j2
      · obtain ⟨kk, j3, j4⟩ := Option.bind_eq_some_iff.mp j2
        split at j4
        · rename_i old ho
          obtain ⟨y, y1, y2⟩ := Option.bind_eq_some_iff.mp j4
          obtain ⟨z, z1, z2⟩ := Option.map_eq_some_iff.mp y2
          subst z2
          obtain ⟨a, xs, g1, g2, g3, g4⟩ := er.own hi
          refine ⟨_, g1, δ, E, os, _, er, j1, fun w H1 E1 gg rr => ?_⟩
          have er1 := er.grow gg
          have ha1 : H1 a = some (.lst xs) := gg.same _ _ g3
          have g41 := g4.keep gg.kp
          obtain ⟨o, ho1, ho2⟩ := g41.get ho
          rw [repBI rr.b]
          refine ⟨a, xs, _, kk, o, rfl, rfl, ha1, by rw [g4.length]; exact j3, ho1, δ, E1, os, y, er1, y1, fun u H2 E2 gg2 rr2 => ?_⟩
          refine ⟨E2, old, y, z, gg2.dom, (ho2.keep gg2.kp).b, rr2.b, z1, fun nv H3 E3 gg3 rr3 => ?_⟩
          have er3 := (er1.grow gg2).grow gg3
          have ha3 : H3 a = some (.lst xs) := gg3.same _ _ (gg2.same _ _ ha1)
          refine ⟨a, xs, _, kk, rfl, rfl, ha3, by rw [g4.length]; exact j3, ?_⟩
          obtain ⟨e2, f2⟩ := er3.write (ds' := ds.set kk z) hi g1 ha3 g2 (((g41.keep gg2.kp).keep gg3.kp).set kk rr3)
          exact k _ _ E3 os e2 ((((gg.trans gg2).trans gg3).fm fun a m => .inl m).trans f2)
        · cases j4
      · cases j2
    · cases hf⟩
end
end DL

/-! comprehensions -/
namespace DL
open PySem PySem.Spec PyProof.Rows L2 PySem.SeqAt
def wpE (δ : Ev) : List Nat → Ev
  | [] => δ
  | v :: vs => (wpE δ vs).set v .no
section
variable {K : PySem.W.Frag} {H H' : Hp} {E E' : Addr → Prop} {os : List Addr}
theorem ER.wipe {δ : Ev} {σ : L2.St} (e : ER K H E δ σ os) : ∀ vs : List Nat, ∃ os', ER K H E (wpE δ vs) (L2.wipe σ vs) os' ∧ ∀ a ∈ os', a ∈ os
  | [] => ⟨os, e, fun a m => m⟩
  | v :: vs => by
    obtain ⟨o1, e1, m1⟩ := ER.wipe e vs
    obtain ⟨o2, r, n, m⟩ := e1.rep.set (i := v) (s := .no) (v := none) (o1 := []) rfl e1.nd List.nodup_nil fun a m => by cases m
    have m2 : ∀ a ∈ o2, a ∈ o1 := fun a q => by
      rcases m a q with z | z
      · exact z
      · cases z
    exact ⟨o2, ⟨r, n, fun a h => e1.dis a (m2 a h), e1.dom⟩, fun a q => m1 a (m2 a q)⟩
theorem wipe_in {σ : L2.St} {i : Nat} : ∀ {vs : List Nat}, i ∈ vs → (L2.wipe σ vs)[i]? = if i < σ.length then some none else none
  | [], h => by cases h
  | v :: vs, h => by
    show ((L2.wipe σ vs).set v none)[i]? = _
    by_cases e : v = i
    · subst e
      rw [List.getElem?_set]
      simp only [if_true, wipe_length]
    · rw [List.getElem?_set_ne e]
      rcases List.mem_cons.mp h with q | q
      · exact absurd q.symm e
      · exact wipe_in q
theorem wipe_agree {σ σ2 : L2.St} {sl vs : List Nat} (h : Agree sl (L2.wipe σ vs) σ2) (hs : ∀ i ∈ sl, i ∈ vs) : L2.wipe σ2 vs = L2.wipe σ vs := by
  obtain ⟨h1, h2⟩ := h
  rw [wipe_length] at h1
  refine List.ext_getElem? fun i => ?_
  by_cases q : i ∈ vs
  · rw [wipe_in q, wipe_in q, h1]
  · rw [wipe_out q, h2 i fun z => q (hs i z)]
/-- the list at L is new: it may change, all else grows -/
theorem Gr.upd {H2 : Hp} {E2 : Addr → Prop} {L : Addr} {o : HO} (g : Gr H E H2 E2) (hn : H L = none) (hE : ¬ E2 L) : Gr H E (upd H2 L o) E2 :=
  ⟨fun a u e => by rw [upd_ne (fun z => by rw [z, hn] at e; cases e)]; exact g.same a u e, g.sub, g.new, fun a e => by rw [upd_ne (ne_of e hE)]; exact g.dom a e⟩
theorem kpUpd {xs : List V} {L : Addr} {o : HO} (h : H L = some (.lst xs)) (hE : ¬ E L) : Kp H E (upd H L o) E :=
  ⟨fun b ys e => by rw [upd_ne (fun z => by rw [z, h] at e; cases e)]; exact e, fun b o u e => by rw [upd_ne (fun z => by rw [z, h] at e; cases e)]; exact e,
    fun b o e _ => by rw [upd_ne (ne_of e hE)]; assumption, fun _ e => e⟩
end
def tTs (K : PySem.W.Frag) (f : Ev → Option Bool) : TT := tDT K f
structure DTs (X : Cx) (ifs : List Expr) (f : Ev → Option Bool) : Prop where
  pts : PTs X ifs (tDT X.K f)
def cYes : Ev → Option Bool := fun _ => some true
section
variable {X : Cx} {c c2 : Expr}
theorem ptsImp {ifs : List Expr} {t t' : TT} (h : PTs X ifs t) (i : ∀ σ H Q, t' σ H Q → t σ H Q) : PTs X ifs t' := ⟨fun pins s σ H Q I q => h.run pins s σ H Q I (i σ H Q q)⟩
theorem dts_nil : DTs X [] cYes := ⟨ptsImp pts_nil fun σ H Q ⟨δ, E, os, b, er, hf, k⟩ => by
  cases hf
  exact k H E er.gr0⟩
theorem dts_one {f} (h : DT X c f) : DTs X [c] f := ⟨pts_one h.pt⟩
end
def cmpL (δ0 : Ev) (t : D → Ev → Option Ev) (c : Ev → Option Bool) (f : Ev → Option D) : List D → Option (List D)
  | [] => some []
  | d :: r => (t d δ0).bind fun δ1 => (c δ1).bind fun b => if b = true then (f δ1).bind fun y => (cmpL δ0 t c f r).map (y :: ·) else cmpL δ0 t c f r
def eLc (vs : List Nat) (it : Ev → Option (List D)) (t : D → Ev → Option Ev) (c : Ev → Option Bool) (f : Ev → Option D) : Ev → Option S := fun δ =>
  (it δ).bind fun ds => ((cmpL (wpE δ vs) t c f ds).bind fits).map S.lst
theorem drop_at {ds : List D} {i : Nat} {d : D} (h : ds[i]? = some d) : ds.drop i = d :: ds.drop (i + 1) := by
  obtain ⟨q1, q2⟩ := List.getElem?_eq_some_iff.mp h
  rw [← q2]
  exact List.drop_eq_getElem_cons q1
theorem Gr.not {H H' : Hp} {E E' : Addr → Prop} (g : Gr H E H' E') {a : Addr} {o : HO} (h : H a = some o) (n : ¬ E a) : ¬ E' a := fun q => by
  rcases g.new a q with z | z
  · exact n z
  · rw [h] at z; cases z
theorem lcImp {K : PySem.W.Frag} {it t c f} {sl vs : List Nat} (hs : ∀ i ∈ sl, i ∈ vs) {σ : L2.St} {H : Hp} {Q : VK} (h : tDF K (eLc vs it t c f) σ H Q) : tLc (tItB K it) (tG K sl t) (tDT K c) (tD K f) vs σ H Q := by
  obtain ⟨δ, E, os, s, er, hf, k⟩ := h
  obtain ⟨ds, h1, h2⟩ := Option.bind_eq_some_iff.mp hf
  obtain ⟨ys, h3, h4⟩ := Option.map_eq_some_iff.mp h2
  obtain ⟨ys', h5, h6⟩ := Option.bind_eq_some_iff.mp h3
  obtain ⟨hz, rfl⟩ := fits_some h6
  subst h4
  refine ⟨δ, E, os, ds, er, h1, fun J H1 E1 g i L hL => ?_⟩
  obtain ⟨G, Y, w, hG, hY⟩ := i.w
  have nE1 : ¬ E1 L := fun q => g.dom L q hL
  have er1 := er.grow g
  refine lc_it w (fun i H' => ∃ Ei acc dacc rest, Gr H1 E1 H' Ei ∧ ¬ Ei L ∧ H' L = some (.lst acc) ∧ Reps K H' Ei dacc acc ∧ cmpL (wpE δ vs) t c f (ds.drop i) = some rest ∧ dacc ++ rest = ys)
    ⟨E1, [], [], ys, (Gr.refl g.dom).upd hL nE1, nE1, upd_same, by unfold Reps; rfl, by simpa using h5, rfl⟩ (fun i H' _ ⟨Ei, acc, dacc, rest, gi, _⟩ => hG H' gi.same) (fun i x H' H'' hi ⟨Ei, acc, dacc, rest, gi, nE, hD, rr, hc, he⟩ yy => ?_) fun H' ⟨Ei, acc, dacc, rest, gi, nE, hD, rr, hc, he⟩ => ?_
  · obtain ⟨E2, g2, d, hd, rd⟩ := hY i H' Ei x H'' gi.kp gi.dom gi.same hi yy
    rw [drop_at hd] at hc
    unfold cmpL at hc
    obtain ⟨δ1, c1, c2⟩ := Option.bind_eq_some_iff.mp hc
    obtain ⟨b, c3, c4⟩ := Option.bind_eq_some_iff.mp c2
    obtain ⟨o2, e2, m2⟩ := (er1.grow (gi.trans g2)).wipe vs
    refine ⟨_, E2, o2, d, δ1, e2, rd, c1, fun σ3 o3 e3 m3 ag => ⟨wipe_agree ag hs, δ1, E2, o3, b, e3, c3, fun H3 E3 g3 => ?_⟩⟩
    have g13 := (gi.trans g2).trans g3
    have hD3 : H3 L = some (.lst acc) := g3.same _ _ (g2.same _ _ hD)
    have n3 : ¬ E3 L := g3.not (g2.same _ _ hD) (g2.not hD nE)
    have rr3 := (rr.keep g2.kp).keep g3.kp
    cases b with
    | false =>
      refine iteF ?_
      simp only [Bool.false_eq_true, if_false] at c4
      exact ⟨E3, acc, dacc, rest, g13, n3, hD3, rr3, c4, he⟩
    | true =>
      refine iteT ?_
      simp only [if_true] at c4
      obtain ⟨y, c5, c6⟩ := Option.bind_eq_some_iff.mp c4
      obtain ⟨rest', c7, c8⟩ := Option.map_eq_some_iff.mp c6
      subst c8
      refine ⟨δ1, E3, o3, y, e3.grow g3, c5, fun v H4 E4 g4 r4 => ?_⟩
      have hD4 : H4 L = some (.lst acc) := g4.same _ _ hD3
      have n4 : ¬ E4 L := g4.not hD3 n3
      have rr4 := rr3.keep g4.kp
      have kp4 := kpUpd (o := .lst (acc ++ [v])) hD4 n4
      refine ⟨acc, hD4, ?_, E4, acc ++ [v], dacc ++ [y], rest', (g13.trans g4).upd hL n4, n4, upd_same, (rr4.keep kp4).snoc (r4.keep kp4), c7, by rw [List.append_assoc]; exact he⟩
      rw [rr.length]
      have : (dacc ++ y :: rest').length ≤ sizeLine := by rw [he]; exact hz
      rw [List.length_append, List.length_cons] at this
      omega
  · rw [List.drop_eq_nil_of_le (Nat.le_refl _)] at hc
    unfold cmpL at hc
    cases hc
    rw [List.append_nil] at he
    subst he
    exact k (.ref L) H' Ei (g.trans gi) ⟨L, acc, rfl, g.free hL, nE, hD, rr⟩
section
variable {X : Cx} {pos spos : Pos} {elt tg iter : Expr} {ifs : List Expr} {scope : Scope} {own : List (Str × Nat)} {it t c f} {sl : List Nat}
/-- [elt for tg in iter if ..] -/
theorem df_lc (hc : X.calm = true) (hN : X.N.Nodup) (own : List (Str × Nat)) (hi : DIB X tg iter it)
    (hg : ∀ (s : Shared) (H : Hp) (C : Addr) (cl : List (Str × Addr)) (fp : List Addr), DG (X.blk s H scope (compEnvC scope cl C X.env) fp) tg sl t) (ht : ∀ (s : Shared) (H : Hp) (C : Addr) (cl : List (Str × Addr)) (fp : List Addr), DTs (X.blk s H scope (compEnvC scope cl C X.env) fp) ifs c)
    (he : ∀ (s : Shared) (H : Hp) (C : Addr) (cl : List (Str × Addr)) (fp : List Addr), DE (X.blk s H scope (compEnvC scope cl C X.env) fp) elt f) (ok : BlkOk X.N X.env.scope scope own) (hsl : ∀ i ∈ sl, i ∈ own.map (·.2)) (hs : ∀ x, foldedSetIterable iter X.env x = pure x := by intro _; rfl) :
    DF X (.ListComp elt [⟨tg, iter, ifs, 0⟩] scope pos) (eLc (own.map (·.2)) it t c f) :=
  ⟨peImp (pe_lc hc hN hi.pi ok (fun s H C cl fp => (hg s H C cl fp).pg) (fun s H C cl fp => (ht s H C cl fp).pts) (fun s H C cl fp => (he s H C cl fp).pe) hs) fun σ H Q h => lcImp hsl h⟩
/-- name = a comprehension -/
theorem ds_ownL {i : Nat} {y : Str} {py : Pos} (own : List (Str × Nat)) (hc : X.calm = true) (hN : X.N.Nodup) (hi : DIB X tg iter it)
    (hg : ∀ (s : Shared) (H : Hp) (C : Addr) (cl : List (Str × Addr)) (fp : List Addr), DG (X.blk s H scope (compEnvC scope cl C X.env) fp) tg sl t) (ht : ∀ (s : Shared) (H : Hp) (C : Addr) (cl : List (Str × Addr)) (fp : List Addr), DTs (X.blk s H scope (compEnvC scope cl C X.env) fp) ifs c)
    (he : ∀ (s : Shared) (H : Hp) (C : Addr) (cl : List (Str × Addr)) (fp : List Addr), DE (X.blk s H scope (compEnvC scope cl C X.env) fp) elt f) (ok : BlkOk X.N X.env.scope scope own) (hsl : ∀ i ∈ sl, i ∈ own.map (·.2)) (hsw : swapsWith (.ListComp elt [⟨tg, iter, ifs, 0⟩] scope pos) (some (.Name y py)) spos.line X.env = pure true)
    (hy : X.N[i]? = some y := by rfl) (hyl : X.env.scope.names.lookup y = some .local := by rfl) (hs : ∀ x, foldedSetIterable iter X.env x = pure x := by intro _; rfl) :
    DS X (.Assign [.Name y py] (.ListComp elt [⟨tg, iter, ifs, 0⟩] scope pos) spos) (sOwn i (eLc (own.map (·.2)) it t c f)) :=
  ⟨psImp (ps_setLc hc hN hy hyl hsw hi.pi ok (fun s H C cl fp => (hg s H C cl fp).pg) (fun s H C cl fp => (ht s H C cl fp).pts) (fun s H C cl fp => (he s H C cl fp).pe) hs) fun D σ H ⟨δ, E, os, out, er, hf, k⟩ => by
    obtain ⟨s, h1, h2⟩ := Option.map_eq_some_iff.mp hf
    subst h2
    refine lcImp hsl ⟨δ, E, os, s, er, h1, fun v H1 E1 g r => ?_⟩
    obtain ⟨os', e', m'⟩ := er.setNew (i := i) g r
    exact k _ H1 E1 os' e' m'⟩
end
/-! ### two clauses -/
def cmpL2 (δ0 : Ev) (vs1 : List Nat) (t : D → Ev → Option Ev) (c : Ev → Option Bool) (it1 : Ev → Option (List D)) (t1 : D → Ev → Option Ev) (c1 : Ev → Option Bool) (f : Ev → Option D) : List D → Option (List D)
  | [] => some []
  | d :: r => (t d δ0).bind fun δ1 => (c δ1).bind fun b => if b = true then (it1 δ1).bind fun es => (cmpL (wpE δ1 vs1) t1 c1 f es).bind fun ys => (cmpL2 δ0 vs1 t c it1 t1 c1 f r).map (ys ++ ·) else cmpL2 δ0 vs1 t c it1 t1 c1 f r
def eLc2 (vs vs1 : List Nat) (it : Ev → Option (List D)) (t : D → Ev → Option Ev) (c : Ev → Option Bool) (it1 : Ev → Option (List D)) (t1 : D → Ev → Option Ev) (c1 : Ev → Option Bool) (f : Ev → Option D) : Ev → Option S := fun δ =>
  (it δ).bind fun ds => ((cmpL2 (wpE δ vs) vs1 t c it1 t1 c1 f ds).bind fits).map S.lst
/-- the walk of a source whose tracked things stay -/
theorem w_it {J : It} {n : Nat} {G : Hp → Prop} {Y : Nat → Hp → V → Hp → Prop} (w : Walk J n G Y) {H4 : Hp} {N : Hp → Prop} {R : (Hp → Prop) → V → Hp → Prop} (Pv : Nat → Hp → Prop) (h0 : Pv 0 H4) (hG : ∀ i H, i ≤ n → Pv i H → G H)
    (hs : ∀ i x H H', i < n → Pv i H → Y i H x H' → R (Pv (i + 1)) x H') (hd : ∀ H, Pv n H → N H) :
    ∃ W1 : Nat → Nat → Hp → Prop, (∃ m, W1 0 m H4) ∧ ∀ j k H, W1 j k H → (J.stop j H ∧ N H) ∨ (J.go j H ∧ ∃ Nx1 : Hp → Prop, (∀ H', Nx1 H' → ∃ k', k' < k ∧ W1 (j + 1) k' H') ∧ ∀ x H', J.yld j H x H' → R Nx1 x H') := by
  refine ⟨fun i m H => m = n - i ∧ i ≤ n ∧ Pv i H, ⟨n, by simp, Nat.zero_le _, h0⟩, ?_⟩
  rintro i m H ⟨rfl, hi, p⟩
  have q := hG i H hi p
  by_cases hlt : i < n
  · exact .inr ⟨w.goes i H hlt q, Pv (i + 1), fun H' p' => ⟨n - (i + 1), by omega, rfl, hlt, p'⟩, fun x H' y => hs i x H H' hlt p (w.yields i H x H' hlt q y)⟩
  · have e : i = n := by omega
    subst e
    exact .inl ⟨w.stops H q, hd H p⟩
theorem lc2Imp {K : PySem.W.Frag} {it t c it1 t1 c1 f} {sl sl1 vs vs1 : List Nat} (hs : ∀ i ∈ sl, i ∈ vs) (hs1 : ∀ i ∈ sl1, i ∈ vs1) {σ : L2.St} {H : Hp} {Q : VK} (h : tDF K (eLc2 vs vs1 it t c it1 t1 c1 f) σ H Q) : tLc2 (tItB K it) (tG K sl t) (tDT K c) (tIt K it1) (tG K sl1 t1) (tDT K c1) (tD K f) vs vs1 σ H Q := by
  obtain ⟨δ, E, os, s, er, hf, k⟩ := h
  obtain ⟨ds, h1, h2⟩ := Option.bind_eq_some_iff.mp hf
  obtain ⟨ys, h3, h4⟩ := Option.map_eq_some_iff.mp h2
  obtain ⟨ys', h5, h6⟩ := Option.bind_eq_some_iff.mp h3
  obtain ⟨hz, rfl⟩ := fits_some h6
  subst h4
  refine ⟨δ, E, os, ds, er, h1, fun J H1 E1 g i L hL => ?_⟩
  obtain ⟨G, Y, w, hG, hY⟩ := i.w
  have nE1 : ¬ E1 L := fun q => g.dom L q hL
  have er1 := er.grow g
  let P : Nat → Hp → Prop := fun i H' => ∃ Ei acc dacc rest, Gr H1 E1 H' Ei ∧ ¬ Ei L ∧ H' L = some (.lst acc) ∧ Reps K H' Ei dacc acc ∧ cmpL2 (wpE δ vs) vs1 t c it1 t1 c1 f (ds.drop i) = some rest ∧ dacc ++ rest = ys
  refine w_it w P ⟨E1, [], [], ys, (Gr.refl g.dom).upd hL nE1, nE1, upd_same, by unfold Reps; rfl, by simpa using h5, rfl⟩ (fun i H' _ ⟨Ei, acc, dacc, rest, gi, _⟩ => hG H' gi.same) (fun i x H' H'' hi ⟨Ei, acc, dacc, rest, gi, nE, hD, rr, hc, he⟩ yy => ?_) fun H' ⟨Ei, acc, dacc, rest, gi, nE, hD, rr, hc, he⟩ => ?_
  · obtain ⟨E2, g2, d, hd, rd⟩ := hY i H' Ei x H'' gi.kp gi.dom gi.same hi yy
    rw [drop_at hd] at hc
    unfold cmpL2 at hc
    obtain ⟨δ1, k1, k2⟩ := Option.bind_eq_some_iff.mp hc
    obtain ⟨b, k3, k4⟩ := Option.bind_eq_some_iff.mp k2
    obtain ⟨o2, e2, m2⟩ := (er1.grow (gi.trans g2)).wipe vs
    refine ⟨_, E2, o2, d, δ1, e2, rd, k1, fun σ3 o3 e3 m3 ag => ⟨wipe_agree ag hs, δ1, E2, o3, b, e3, k3, fun H3 E3 g3 => ?_⟩⟩
    have g13 := (gi.trans g2).trans g3
    have hD3 : H3 L = some (.lst acc) := g3.same _ _ (g2.same _ _ hD)
    have n3 : ¬ E3 L := g3.not (g2.same _ _ hD) (g2.not hD nE)
    have rr3 := (rr.keep g2.kp).keep g3.kp
    have e33 := e3.grow g3
    cases b with
    | false =>
      refine iteF ?_
      simp only [Bool.false_eq_true, if_false] at k4
      exact ⟨E3, acc, dacc, rest, g13, n3, hD3, rr3, k4, he⟩
    | true =>
      refine iteT ?_
      simp only [if_true] at k4
      obtain ⟨es, k5, k6⟩ := Option.bind_eq_some_iff.mp k4
      obtain ⟨zs, k7, k8⟩ := Option.bind_eq_some_iff.mp k6
      obtain ⟨rest', k9, k10⟩ := Option.map_eq_some_iff.mp k8
      subst k10
      refine ⟨δ1, E3, o3, es, e33, k5, fun J1 H4 E4 g4 i1 => ?_⟩
      obtain ⟨G1, Y1, w1, hG1, hY1⟩ := i1.w
      have hD4 : H4 L = some (.lst acc) := g4.same _ _ hD3
      have n4 : ¬ E4 L := g4.not hD3 n3
      have rr4 := rr3.keep g4.kp
      have g14 := g13.trans g4
      have e4 := e33.grow g4
      let P1 : Nat → Hp → Prop := fun j H' => ∃ Ej acc' dacc' rest1, Gr H1 E1 H' Ej ∧ Kp H4 E4 H' Ej ∧ ¬ Ej L ∧ H' L = some (.lst acc') ∧ Reps K H' Ej dacc' acc' ∧ cmpL (wpE δ1 vs1) t1 c1 f (es.drop j) = some rest1 ∧ dacc' ++ (rest1 ++ rest') = ys ∧ (∀ δ σ os, ER K H4 E4 δ σ os → L ∉ os → ER K H' Ej δ σ os)
      have nL : L ∉ o3 := fun m => er1.rep.dom L (m2 _ (m3 _ m)) hL
      refine w_it w1 P1 ⟨E4, acc, dacc, zs, g14, Kp.refl, n4, hD4, rr4, by simpa using k7, he, fun _ _ _ e _ => e⟩ (fun j H' _ ⟨Ej, _, _, _, _, kj, _⟩ => hG1 H' ⟨Ej, kj⟩) (fun j x H5 H6 hj ⟨Ej, acc', dacc', rest1, gj, kj, nEj, hDj, rrj, hcj, hej, rj⟩ yj => ?_) fun H' ⟨Ej, acc', dacc', rest1, gj, kj, nEj, hDj, rrj, hcj, hej, rj⟩ => ?_
      · obtain ⟨E6, g6, d', hd', rd'⟩ := hY1 j H5 Ej x H6 kj gj.dom ⟨Ej, kj⟩ hj yj
        rw [drop_at hd'] at hcj
        unfold cmpL at hcj
        obtain ⟨δ2, l1, l2⟩ := Option.bind_eq_some_iff.mp hcj
        obtain ⟨b, l3, l4⟩ := Option.bind_eq_some_iff.mp l2
        have e5 := rj _ _ _ e4 nL
        obtain ⟨o5, e6, m6⟩ := (e5.grow g6).wipe vs1
        refine ⟨_, E6, o5, d', δ2, e6, rd', l1, fun σ7 o7 e7 m7 ag => ⟨wipe_agree ag hs1, δ2, E6, o7, b, e7, l3, fun H8 E8 g8 => ?_⟩⟩
        have g18 := (gj.trans g6).trans g8
        have hD8 : H8 L = some (.lst acc') := g8.same _ _ (g6.same _ _ hDj)
        have n8 : ¬ E8 L := g8.not (g6.same _ _ hDj) (g6.not hDj nEj)
        have rr8 := (rrj.keep g6.kp).keep g8.kp
        have k8 := (kj.trans g6.kp).trans g8.kp
        have r8 : ∀ δ σ os, ER K H4 E4 δ σ os → L ∉ os → ER K H8 E8 δ σ os := fun δ σ os e n => ((rj δ σ os e n).grow g6).grow g8
        cases b with
        | false =>
          refine iteF ?_
          simp only [Bool.false_eq_true, if_false] at l4
          exact ⟨E8, acc', dacc', rest1, g18, k8, n8, hD8, rr8, l4, hej, r8⟩
        | true =>
          refine iteT ?_
          simp only [if_true] at l4
          obtain ⟨y, l5, l6⟩ := Option.bind_eq_some_iff.mp l4
          obtain ⟨rest2, l7, l8⟩ := Option.map_eq_some_iff.mp l6
          subst l8
          refine ⟨δ2, E8, o7, y, e7.grow g8, l5, fun v H9 E9 g9 r9 => ?_⟩
          have hD9 : H9 L = some (.lst acc') := g9.same _ _ hD8
          have n9 : ¬ E9 L := g9.not hD8 n8
          have rr9 := rr8.keep g9.kp
          have kp9 := kpUpd (o := .lst (acc' ++ [v])) hD9 n9
          refine ⟨acc', hD9, ?_, E9, acc' ++ [v], dacc' ++ [y], rest2, (g18.trans g9).upd hL n9, (k8.trans g9.kp).trans kp9, n9, upd_same, (rr9.keep kp9).snoc (r9.keep kp9), l7, by rw [← hej]; simp, fun δ σ os e n => ?_⟩
          · rw [rrj.length]
            have : (dacc' ++ (y :: rest2 ++ rest')).length ≤ sizeLine := by rw [hej]; exact hz
            rw [List.length_append, List.length_append, List.length_cons] at this
            omega
          · have e9 := (r8 δ σ os e n).grow g9
            exact ⟨e9.rep.keep kp9 fun a m o q => by rw [upd_ne (fun z => n (by rw [← z]; exact m))]; exact q, e9.nd, e9.dis, fun a q => by rw [upd_ne (ne_of q n9)]; exact e9.dom a q⟩
      · rw [List.drop_eq_nil_of_le (Nat.le_refl _)] at hcj
        unfold cmpL at hcj
        cases hcj
        exact ⟨Ej, acc', dacc', rest', gj, nEj, hDj, rrj, k9, by simpa using hej⟩
  · rw [List.drop_eq_nil_of_le (Nat.le_refl _)] at hc
    unfold cmpL2 at hc
    cases hc
    rw [List.append_nil] at he
    subst he
    exact k (.ref L) H' Ei (g.trans gi) ⟨L, acc, rfl, g.free hL, nE, hD, rr⟩
section
variable {X : Cx} {pos spos : Pos} {elt tg iter tg1 iter1 : Expr} {ifs ifs1 : List Expr} {scope : Scope} {it t c it1 t1 c1 f} {sl sl1 : List Nat}
/-- [elt for tg in iter if .. for tg1 in iter1 if ..] -/
theorem df_lc2 (hc : X.calm = true) (hN : X.N.Nodup) (own : List (Str × Nat)) (vs1 : List Nat) (hi : DIB X tg iter it)
    (hg : ∀ (s : Shared) (H : Hp) (C : Addr) (cl : List (Str × Addr)) (fp : List Addr), DG (X.blk s H scope (compEnvC scope cl C X.env) fp) tg sl t) (ht : ∀ (s : Shared) (H : Hp) (C : Addr) (cl : List (Str × Addr)) (fp : List Addr), DTs (X.blk s H scope (compEnvC scope cl C X.env) fp) ifs c)
    (hi1 : ∀ (s : Shared) (H : Hp) (C : Addr) (cl : List (Str × Addr)) (fp : List Addr), DI (X.blk s H scope (compEnvC scope cl C X.env) fp) tg1 iter1 it1)
    (hg1 : ∀ (s : Shared) (H : Hp) (C : Addr) (cl : List (Str × Addr)) (fp : List Addr), DG (X.blk s H scope (compEnvC scope cl C X.env) fp) tg1 sl1 t1) (ht1 : ∀ (s : Shared) (H : Hp) (C : Addr) (cl : List (Str × Addr)) (fp : List Addr), DTs (X.blk s H scope (compEnvC scope cl C X.env) fp) ifs1 c1)
    (he : ∀ (s : Shared) (H : Hp) (C : Addr) (cl : List (Str × Addr)) (fp : List Addr), DE (X.blk s H scope (compEnvC scope cl C X.env) fp) elt f) (ok : BlkOk X.N X.env.scope scope own) (hv : ∀ i ∈ vs1, i ∈ own.map (·.2)) (hsl : ∀ i ∈ sl, i ∈ own.map (·.2)) (hsl1 : ∀ i ∈ sl1, i ∈ vs1)
    (hs : ∀ x, foldedSetIterable iter X.env x = pure x := by intro _; rfl) (hs1 : ∀ env x, foldedSetIterable iter1 env x = pure x := by intro _ _; rfl) :
    DF X (.ListComp elt [⟨tg, iter, ifs, 0⟩, ⟨tg1, iter1, ifs1, 0⟩] scope pos) (eLc2 (own.map (·.2)) vs1 it t c it1 t1 c1 f) :=
  ⟨peImp (pe_lc2 hc hN hi.pi ok hv (fun s H C cl fp => (hg s H C cl fp).pg) (fun s H C cl fp => (ht s H C cl fp).pts) (fun s H C cl fp => (hi1 s H C cl fp).pi) (fun s H C cl fp => (hg1 s H C cl fp).pg) (fun s H C cl fp => (ht1 s H C cl fp).pts) (fun s H C cl fp => (he s H C cl fp).pe) hs hs1) fun σ H Q h => lc2Imp hsl hsl1 h⟩
theorem ds_ownL2 {i : Nat} {y : Str} {py : Pos} (own : List (Str × Nat)) (vs1 : List Nat) (hc : X.calm = true) (hN : X.N.Nodup) (hi : DIB X tg iter it)
    (hg : ∀ (s : Shared) (H : Hp) (C : Addr) (cl : List (Str × Addr)) (fp : List Addr), DG (X.blk s H scope (compEnvC scope cl C X.env) fp) tg sl t) (ht : ∀ (s : Shared) (H : Hp) (C : Addr) (cl : List (Str × Addr)) (fp : List Addr), DTs (X.blk s H scope (compEnvC scope cl C X.env) fp) ifs c)
    (hi1 : ∀ (s : Shared) (H : Hp) (C : Addr) (cl : List (Str × Addr)) (fp : List Addr), DI (X.blk s H scope (compEnvC scope cl C X.env) fp) tg1 iter1 it1)
    (hg1 : ∀ (s : Shared) (H : Hp) (C : Addr) (cl : List (Str × Addr)) (fp : List Addr), DG (X.blk s H scope (compEnvC scope cl C X.env) fp) tg1 sl1 t1) (ht1 : ∀ (s : Shared) (H : Hp) (C : Addr) (cl : List (Str × Addr)) (fp : List Addr), DTs (X.blk s H scope (compEnvC scope cl C X.env) fp) ifs1 c1)
    (he : ∀ (s : Shared) (H : Hp) (C : Addr) (cl : List (Str × Addr)) (fp : List Addr), DE (X.blk s H scope (compEnvC scope cl C X.env) fp) elt f) (ok : BlkOk X.N X.env.scope scope own) (hv : ∀ i ∈ vs1, i ∈ own.map (·.2)) (hsl : ∀ i ∈ sl, i ∈ own.map (·.2)) (hsl1 : ∀ i ∈ sl1, i ∈ vs1)
    (hsw : swapsWith (.ListComp elt [⟨tg, iter, ifs, 0⟩, ⟨tg1, iter1, ifs1, 0⟩] scope pos) (some (.Name y py)) spos.line X.env = pure true) (hy : X.N[i]? = some y := by rfl) (hyl : X.env.scope.names.lookup y = some .local := by rfl)
    (hs : ∀ x, foldedSetIterable iter X.env x = pure x := by intro _; rfl) (hs1 : ∀ env x, foldedSetIterable iter1 env x = pure x := by intro _ _; rfl) :
    DS X (.Assign [.Name y py] (.ListComp elt [⟨tg, iter, ifs, 0⟩, ⟨tg1, iter1, ifs1, 0⟩] scope pos) spos) (sOwn i (eLc2 (own.map (·.2)) vs1 it t c it1 t1 c1 f)) :=
  ⟨psImp (ps_setLc2 hc hN hy hyl hsw hi.pi ok hv (fun s H C cl fp => (hg s H C cl fp).pg) (fun s H C cl fp => (ht s H C cl fp).pts) (fun s H C cl fp => (hi1 s H C cl fp).pi) (fun s H C cl fp => (hg1 s H C cl fp).pg) (fun s H C cl fp => (ht1 s H C cl fp).pts) (fun s H C cl fp => (he s H C cl fp).pe) hs hs1) fun D σ H ⟨δ, E, os, out, er, hf, k⟩ => by
    obtain ⟨s, h1, h2⟩ := Option.map_eq_some_iff.mp hf
    subst h2
    refine lc2Imp hsl hsl1 ⟨δ, E, os, s, er, h1, fun v H1 E1 g r => ?_⟩
    obtain ⟨os', e', m'⟩ := er.setNew (i := i) g r
    exact k _ H1 E1 os' e' m'⟩
end
end DL

/-! defs and calls; chains of comparisons -/
namespace DL
open PySem PySem.Spec PyProof.Rows L2 PySem.SeqAt
section
variable {X : Cx} {a b c : Expr} {pos : Pos}
/-- a op b op' c -/
def eCh (g g' : D → D → Option D) (fa fb fc : Ev → Option D) : Ev → Option D := fun δ => (fa δ).bind fun x => (fb δ).bind fun y => (g x y).bind fun z => match z with
  | .bl k => if k = true then (fc δ).bind fun w => g' y w else some (.bl false)
  | _ => none
theorem tCh_of {K : PySem.W.Frag} {g g' : D → D → Option D} {fa fb fc : Ev → Option D} {σ : L2.St} {H : Hp} {Q : VK} (h : tD K (eCh g g' fa fb fc) σ H Q) : tChain (rD K g) (rD K g') (tDB K fa) (tDB K fb) (tDB K fc) σ H Q := by
  obtain ⟨δ, E, os, d, er, hf, k⟩ := h
  obtain ⟨d1, h1, h2⟩ := Option.bind_eq_some_iff.mp hf
  obtain ⟨d2, h3, h4⟩ := Option.bind_eq_some_iff.mp h2
  obtain ⟨d3, h5, h6⟩ := Option.bind_eq_some_iff.mp h4
  split at h6
  · rename_i kk
    refine ⟨δ, E, os, d1, er, h1, fun x H1 E1 g1 r1 => ⟨δ, E1, os, d2, er.grow g1, h3, fun y H2 E2 g2 r2 => ⟨E2, d1, d2, _, g2.dom, r1.grow g2, r2, h5, fun v H3 E3 g3 r3 => ?_⟩⟩⟩
    have g13 := (g1.trans g2).trans g3
    unfold Rep at r3
    subst r3
    refine ⟨kk, rfl, ?_⟩
    cases kk with
    | false =>
      refine iteF ?_
      simp only [Bool.false_eq_true, if_false] at h6
      cases h6
      exact k _ H3 E3 g13 (by unfold Rep; rfl)
    | true =>
      refine iteT ?_
      simp only [if_true] at h6
      obtain ⟨d4, h7, h8⟩ := Option.bind_eq_some_iff.mp h6
      exact ⟨δ, E3, os, d4, er.grow g13, h7, fun w H4 E4 g4 r4 => ⟨E4, d2, d4, d, g4.dom, (r2.grow g3).grow g4, r4, h8, fun v H' E' g5 r5 => k v H' E' ((g13.trans g4).trans g5) r5⟩⟩
  · cases h6
theorem de_cmp2 {op op' : CmpOp} {g g' fa fb fc} (o : OpD X (compareOp op) g) (o' : OpD X (compareOp op') g') (ha : DB X a fa) (hb : DB X b fb) (hc : DB X c fc) (hm : lastMarks [op, op'] [b, c] = false := by with_unfolding_all rfl) :
    DE X (.Compare a [op, op'] [b, c] pos) (eCh g g' fa fb fc) := ⟨peImp (pe_chain o o' ha.pe hb.pe hc.pe hm) fun σ H Q h => tCh_of h⟩
theorem dt_cmp2 {op op' : CmpOp} {g g' fa fb fc} (o : OpD X (compareOp op) g) (o' : OpD X (compareOp op') g') (ha : DB X a fa) (hb : DB X b fb) (hc : DB X c fc) (hm : lastMarks [op, op'] [b, c] = false := by with_unfolding_all rfl) :
    DT X (.Compare a [op, op'] [b, c] pos) (tE (eCh g g' fa fb fc)) := ⟨ptImp (pt_chain o o' ha.pe hb.pe hc.pe hm) fun σ H Q h => tCh_of (tDT_of h)⟩
end
/-! ### a def: arguments by value, a result that is new or never changes -/
def spD (K : PySem.W.Frag) (ev : List D → Option S) : Sp := fun vs H Q _ => ∃ E ds s, (∀ a, E a → H a ≠ none) ∧ Reps K H E ds vs ∧ ev ds = some s ∧ ∀ v H' E', Gr H E H' E' → RepF K H H' E' s v → Q v H'
structure DCal (P : Program) (w : World) (K : PySem.W.Frag) (mg : Str → Option Value) (base : Heap) (k : Nat) (x : Str) (ev : List D → Option S) : Prop where
  ex : ∃ f fd ps, FnOk P w K mg base CX0 k f fd ps (spD K ev) ∧ mg x = some (.ref f) ∧ PySem.W.keepIn K (.ref f) = true ∧ Binds K fd ps []
def outS : Out → Option S
  | .rt s => some s
  | .nx _ => some (.val .non)
  | _ => none
def runB (n N : Nat) (f : Ev → Option Out) : List D → Option S := fun ds => if ds.length = n then (f (ds.map S.val ++ List.replicate (N - n) S.no)).bind outS else none
theorem repEv_no {K : PySem.W.Frag} {H : Hp} {E : Addr → Prop} : ∀ n : Nat, RepEv K H E (List.replicate n S.no) (List.replicate n none) []
  | 0 => ⟨rfl, rfl⟩
  | n + 1 => ⟨none, List.replicate n none, [], [], rfl, rfl, rfl, repEv_no n⟩
theorem repEv_start {K : PySem.W.Frag} {H : Hp} {E : Addr → Prop} {n : Nat} : ∀ {ds : List D} {vs : List V}, Reps K H E ds vs → RepEv K H E (ds.map S.val ++ List.replicate n S.no) (vs.map some ++ List.replicate n none) []
  | [], vs, h => by unfold Reps at h; subst h; exact repEv_no n
  | d :: ds, vs, h => by
    unfold Reps at h
    obtain ⟨x, r, rfl, h1, h2⟩ := h
    exact ⟨some x, r.map some ++ List.replicate n none, [], [], rfl, rfl, ⟨rfl, x, rfl, h1⟩, repEv_start h2⟩
theorem gr_of {H H' : Hp} {E E' : Addr → Prop} (f : Fr0 H E [] H' E') : Gr H E H' E' := ⟨fun a o h => f.keep a o h (by simp), f.sub, fun a h => by
  rcases f.new a h with q | q | q
  · exact .inl q
  · cases q
  · exact .inr q, f.dom⟩
theorem RepR.f {K : PySem.W.Frag} {H H' : Hp} {E' : Addr → Prop} {s : S} {v : V} (h : RepR K H [] H' E' s v) : RepF K H H' E' s v := by
  have z : ∀ {a : Addr}, (a ∈ ([] : List Addr) ∨ H a = none) → H a = none := fun q => by
    rcases q with q | q
    · cases q
    · exact q
  cases s with
  | no => exact h
  | val d => exact h
  | lst ds => obtain ⟨a, xs, e, e1, r⟩ := h; exact ⟨a, xs, e, z e1, r⟩
  | dK ks ds => obtain ⟨a, xs, e, e1, r⟩ := h; exact ⟨a, xs, e, z e1, r⟩
  | dT ks ds => obtain ⟨a, xs, e, e1, r⟩ := h; exact ⟨a, xs, e, z e1, r⟩
section
variable {P : Program} {w : World} {K : PySem.W.Frag} {mg : Str → Option Value} {base : Heap}
theorem fnD {x : Str} {st : Stmt} {f : Addr} {fd : FuncData} {N ps : List Str} {k n : Nat} {bd : Ev → Option Out} (F : Fun K x x st f fd) (S : FnScope N ps (defScope st)) (hn : ps.length = n)
    (hbody : ∀ (cdv : Value) (A : Around) (outer : List Env) (s : Shared) (H : Hp) (E : XK), Room k (A.deeper (envOfC x (defScope st) s.heap.objs.size f cdv)) → DSs (cxOf CX0 P w K mg base N x (defScope st) f cdv A outer s H E).nox (defBody st) bd) :
    FnOk P w K mg base CX0 (k + 1) f fd ps (spD K (runB n N.length bd)) := by
  have len : ∀ {ds : List D} {s : DL.S}, runB n N.length bd ds = some s → ds.length = n ∧ ∃ out, bd (ds.map DL.S.val ++ List.replicate (N.length - n) DL.S.no) = some out ∧ outS out = some s := fun {ds s} h => by
    unfold runB at h
    split at h
    · rename_i e
      exact ⟨e, Option.bind_eq_some_iff.mp h⟩
    · cases h
  refine F.ok S (fun vs H Q E h => ?_) (fun cdv A outer s H vs Q E hr h => ?_)
  · obtain ⟨E, ds, s, hd, r, e, _⟩ := h
    rw [r.length, (len e).1, hn]
  · obtain ⟨E1, ds, sv, hd, r, e, kq⟩ := h
    obtain ⟨e1, out, e2, e3⟩ := len e
    refine ⟨_, (hbody cdv A outer s H E hr).pss, _, E1, [], out, ⟨?_, List.nodup_nil, (fun a m => by cases m), hd⟩, e2, ?_⟩
    · show RepEv K H E1 _ (vs.map some ++ List.replicate (N.length - vs.length) none) []
      rw [r.length, e1]
      exact repEv_start r
    · cases out with
      | nx δ' => cases e3; exact fun σ' H' E' os' e' f' => kq _ H' E' (gr_of f'.toFr0) (by show Rep K H' E' _ _; unfold Rep; rfl)
      | rt s => cases e3; exact fun v H' E' f' r' => kq v H' E' (gr_of f') r'.f
      | bk δ' => cases e3
      | ct δ' => cases e3
theorem DCal.mk' {x : Str} {st : Stmt} {f : Addr} {fd : FuncData} {N ps : List Str} {k n : Nat} {bd : Ev → Option Out} (F : Fun K x x st f fd) (hm : mg x = some (.ref f)) (hb : Binds K fd ps []) (S : FnScope N ps (defScope st)) (hn : ps.length = n)
    (hbody : ∀ (cdv : Value) (A : Around) (outer : List Env) (s : Shared) (H : Hp) (E : XK), Room k (A.deeper (envOfC x (defScope st) s.heap.objs.size f cdv)) → DSs (cxOf CX0 P w K mg base N x (defScope st) f cdv A outer s H E).nox (defBody st) bd) :
    DCal P w K mg base (k + 1) x (runB n N.length bd) := ⟨f, fd, ps, fnD F S hn hbody, hm, F.kp, hb⟩
theorem DCal.none0 {x : Str} {st : Stmt} {f : Addr} {fd : FuncData} {ps : List Str} {k : Nat} (F : Fun K x x st f fd) (hm : mg x = some (.ref f)) (hb : Binds K fd ps []) : DCal P w K mg base k x fun _ => none := by
  have no : ∀ vs H Q E, ¬ spD K (fun _ => none) vs H Q E := fun vs H Q E h => by
    obtain ⟨_, _, _, _, _, h, _⟩ := h
    cases h
  exact ⟨f, fd, ps, ⟨fun vs H Q E h => absurd h (no vs H Q E), fun A outer s H args us vs Q E _ _ _ _ h => absurd h (no vs H Q E)⟩, hm, F.kp, hb⟩
end
def eCl (ev : List D → Option S) (g : Ev → Option (List D)) : Ev → Option S := fun δ => (g δ).bind ev
section
variable {X : Cx} {k j : Nat} {x : Str} {ev : List D → Option S} {p pos : Pos} {e : Expr} {es : List Expr} {g : Ev → Option (List D)}
theorem df_call (c : DCal X.prog X.w X.K X.mg X.base k x ev) (hr : Room j X.A) (ha : DA X (e :: es) g) (hk : k ≤ j := by omega) (hg : Gl X x := by rfl)
    (hdb : (x == ("__debug__" : Str)) = false := by decide) (he : starEach (e :: es) X.env = (false, eval e X.env) :: starEach es X.env := by rfl) (hpl : (backTo pos (starEach es X.env)).any (·.1) = false := by rfl) :
    DF X (.Call (.Name x p) (e :: es) [] pos) (eCl ev g) := by
  obtain ⟨f, fd, ps, F, hm, kp, b⟩ := c.ex
  exact ⟨peImp (pe_call F (hr.mono hk) hg hm kp b .nil pass0 ha.pa hdb he hpl) fun σ H Q ⟨δ, E, os, s, er, hf, kq⟩ => by
    obtain ⟨ds, h1, h2⟩ := Option.bind_eq_some_iff.mp hf
    refine ⟨δ, E, os, ds, er, h1, fun vs H' E' g1 r => ⟨E', ds, s, g1.dom, by rw [List.append_nil]; exact r, h2, fun v H2 E2 g2 r2 => kq v H2 E2 (g1.trans g2) ?_⟩⟩
    cases s with
    | no => exact r2
    | val d => exact r2
    | lst ds => obtain ⟨a, xs, e, e1, r⟩ := r2; exact ⟨a, xs, e, g1.free e1, r⟩
    | dK ks ds => obtain ⟨a, xs, e, e1, r⟩ := r2; exact ⟨a, xs, e, g1.free e1, r⟩
    | dT ks ds => obtain ⟨a, xs, e, e1, r⟩ := r2; exact ⟨a, xs, e, g1.free e1, r⟩⟩
theorem df_call0 (c : DCal X.prog X.w X.K X.mg X.base k x ev) (hr : Room j X.A) (hk : k ≤ j := by omega) (hg : Gl X x := by rfl)
    (hdb : (x == ("__debug__" : Str)) = false := by decide) : DF X (.Call (.Name x p) [] [] pos) (eCl ev eNil) := by
  obtain ⟨f, fd, ps, F, hm, kp, b⟩ := c.ex
  exact ⟨peImp (pe_call0 F (hr.mono hk) hg hm kp b .nil pass0 hdb) fun σ H Q ⟨δ, E, os, s, er, hf, kq⟩ =>
    ⟨E, [], s, er.dom, by unfold Reps; rfl, hf, fun v H2 E2 g2 r2 => kq v H2 E2 g2 r2⟩⟩
end
theorem roomU {k : Nat} {A : Around} (r : Room k A) : A.units + 65 < cLine := by have := r.un; omega
theorem roomU4 {k : Nat} {A : Around} (r : Room k A) : A.units + 64 < cLine := by have := r.un; omega
/-! ### the law's def -/
theorem walkD {l : PySem.W.OpenLaw} {n k : Nat} {q : Program} {loose : List Str} {XP : (Str → Option Value) → Heap → Prop} {YP : World → Heap → Prop} {d : DefRec} {K : Params → PySem.W.Frag} {ev : List D → Option S} (hn : l.most = some n) (hn2 : n ≤ sizeLine) (hdf : d.params.defaults = []) (hr : Room k callerA)
    (hY : ∀ (w : World) (h : Heap), YP w h → (K w.params).In h)
    (F : ∀ (w : World) (mg : Str → Option Value) (fa : Addr) (h : Heap), (K w.params).In h → h.Ns mainGlobals mg → mg d.name = some (.ref fa) →
      ∃ fd : FuncData, (∀ (s : Shared) (u : Value), BindsTo s fd ⟨[u], []⟩ [("script", u)]) ∧ ∀ base : Heap, (K w.params).In base → base.Ns mainGlobals mg → FnOk l.prog w (K w.params) mg base CX0 k fa fd ["script"] (spD (K w.params) ev))
    (hev : ∀ ns : List Int, ns.length ≤ n → ev [.scr ns] = some (.val (.bl true))) :
    PySem.W.WalkO q loose XP YP l.row.toRowW d [] (fun f vs => PySem.call f vs) :=
  L2.walk_of (n := n) (k := k) (x := "script") (CX := fun _ => CX0) (sp := fun w => spD (K w.params) ev) hn hn2 hdf hr hY F (fun w H a ns hl hO hS => by
    refine ⟨fun _ => False, [.scr ns], .val (.bl true), fun _ h => h.elim, ?_, hev ns hl, fun v H' E' g r => ?_⟩
    · unfold Reps
      refine ⟨.ref a, [], rfl, ?_, by unfold Reps; rfl⟩
      unfold Rep
      refine ⟨a, rfl, hS, fun H2 h2 => ?_⟩
      rcases hS with (q | ⟨o, q⟩) | q
      · rcases hO a with z | ⟨o, xs, z⟩ <;> rw [z] at q <;> cases q
      · exact .inl (.inr ⟨o, h2 a o _ q⟩)
      · exact .inr q
    · have r : Rep (K w.params) H' E' (.bl true) v := r
      unfold Rep at r
      exact r) fun _ _ _ _ _ z => z
end DL

/-! operations of which the kind is seen as they run -/
namespace DL
open PySem PySem.Spec PyProof.Rows L2 PySem.SeqAt
section
variable {X : Cx} {a b c e : Expr} {pos p : Pos}
def altF (g : D → D → Option D) (f : D → D → Option S) : D → D → Option D := fun x y => match g x y with
  | some d => some d
  | none => (f x y).bind S.d
def altD (g f : D → D → Option D) : D → D → Option D := fun x y => match g x y with
  | some d => some d
  | none => f x y
theorem OpD.alt {fn : Value → Value → Sem Value} {g : D → D → Option D} {f : D → D → Option S} (h : OpD X fn g) (h2 : OpF X fn f) : OpD X fn (altF g f) := by
  intro pins s σ H x y v u Q I rx ry q
  obtain ⟨E, d1, d2, d, hd, h3, h4, hg, k⟩ := q
  unfold altF at hg
  split at hg
  · rename_i d' hg'
    cases hg
    exact h pins s σ H x y v u Q I rx ry ⟨E, d1, d2, d, hd, h3, h4, hg', k⟩
  · obtain ⟨s', g1, g2⟩ := Option.bind_eq_some_iff.mp hg
    refine h2 pins s σ H x y v u Q I rx ry ⟨E, d1, d2, s', hd, h3, h4, g1, fun v H' E' g r => ?_⟩
    obtain ⟨E2, g3, r3⟩ := r.toD g g2
    exact k v H' E2 g3 r3
theorem OpD.alt2 {fn : Value → Value → Sem Value} {g f : D → D → Option D} (h : OpD X fn g) (h2 : OpD X fn f) : OpD X fn (altD g f) := by
  intro pins s σ H x y v u Q I rx ry q
  obtain ⟨E, d1, d2, d, hd, h3, h4, hg, k⟩ := q
  unfold altD at hg
  split at hg
  · rename_i d' hg'
    cases hg
    exact h pins s σ H x y v u Q I rx ry ⟨E, d1, d2, d, hd, h3, h4, hg', k⟩
  · exact h2 pins s σ H x y v u Q I rx ry ⟨E, d1, d2, d, hd, h3, h4, hg, k⟩
def dAddA : D → D → Option D := altF dAdd fCat
theorem od_addA : OpD X (binaryOp .Add) dAddA := OpD.alt od_add of_cat
/-- (..) * n -/
def dRepT : D → D → Option D
  | .tup xs, .int k => if xs ≠ [] ∧ 2 ≤ k ∧ k ≤ 1000 ∧ xs.length ≤ 1000 then some (.tup (List.replicate k.toNat xs).flatten) else none
  | _, _ => none
theorem od_repT : OpD X (binaryOp .Mult) dRepT := by
  intro pins s σ H x y v u Q I rx ry h
  obtain ⟨E, d1, d2, d, hd, h1, h2, hg, k⟩ := h
  unfold dRepT at hg
  split at hg
  · split at hg
    · cases hg
      rename_i ds kk hm
      obtain ⟨a, xs, e4, q1, r1⟩ := repBT h1
      subst e4
      rw [repBI h2] at ry
      refine op_repT pins s σ H _ _ v u Q I rx ry ⟨a, _, xs, rfl, rfl, q1, fun z => hm.1 (r1.isNil z), hm.2.1, hm.2.2.1, by rw [r1.length]; exact hm.2.2.2, fun p hp => ?_⟩
      have g := Gr.laid (E := E) (o := .tup (List.replicate kk.toNat xs).flatten) hd hp
      exact k _ _ E g (repTup upd_same ((r1.repl _).keep g.kp))
    · cases hg
  · cases hg
noncomputable def dMulA : D → D → Option D := altF (altD dMul dRepT) fRep
theorem od_mulA : OpD X (binaryOp .Mult) dMulA := OpD.alt (OpD.alt2 od_mul od_repT) of_rep
/-- a slice of what it is -/
def dSlA : D → Option Int → Option Int → Option D := fun d lo hi => match dSl d lo hi with
  | some r => some r
  | none => (fSl d lo hi).bind S.d
def eSlA (f : Ev → Option D) (lo hi : Ev → Option (Option Int)) : Ev → Option D := fun δ => (f δ).bind fun x => (lo δ).bind fun l => (hi δ).bind fun h => dSlA x l h
def rSlA (K : PySem.W.Frag) : V → Option Int → Option Int → Hp → VK → Prop := fun x lo hi H Q => ∃ E d1 d, (∀ a, E a → H a ≠ none) ∧ RepB K H E d1 x ∧ dSlA d1 lo hi = some d ∧ ∀ v H' E', Gr H E H' E' → Rep K H' E' d v → Q v H'
theorem sl_A : SlR X (rSlA X.K) := by
  intro pins s σ H x v vl vu lo hi sl Q I rx hs pl pu h
  obtain ⟨E, d1, d, hd, h1, hg, k⟩ := h
  unfold dSlA at hg
  split at hg
  · rename_i d' hg'
    cases hg
    exact sl_d pins s σ H x v vl vu lo hi sl Q I rx hs pl pu ⟨E, d1, d, hd, h1, hg', k⟩
  · obtain ⟨s', g1, g2⟩ := Option.bind_eq_some_iff.mp hg
    refine sl_f pins s σ H x v vl vu lo hi sl Q I rx hs pl pu ⟨E, d1, s', hd, h1, g1, fun v H' E' g r => ?_⟩
    obtain ⟨E2, g3, r3⟩ := r.toD g g2
    exact k v H' E2 g3 r3
theorem de_slA {p2 : Pos} {f} {lo hi : Option Expr} {fl fh} (h : DB X e f) (hl : DP X lo fl) (hh : DP X hi fh) : DE X (.Subscript e (.Slice lo hi none p2) pos) (eSlA f fl fh) := ⟨peImp (pe_slice sl_A h.pe hl.po hh.po) fun σ H Q ⟨δ, E, os, d, er, hf, k⟩ => by
  obtain ⟨x, h1, h2⟩ := Option.bind_eq_some_iff.mp hf
  obtain ⟨l, h2, h3⟩ := Option.bind_eq_some_iff.mp h2
  obtain ⟨u, h3, h4⟩ := Option.bind_eq_some_iff.mp h3
  refine ⟨δ, E, os, x, er, h1, fun v H1 E1 g1 r1 => ⟨δ, E1, os, l, er.grow g1, h2, fun H2 E2 g2 => ⟨δ, E2, os, u, (er.grow g1).grow g2, h3, fun H3 E3 g3 => ?_⟩⟩⟩
  exact ⟨E3, x, d, g3.dom, (r1.grow g2).grow g3, h4, fun v' H' E' g4 r4 => k v' H' E' (((g1.trans g2).trans g3).trans g4) r4⟩⟩
/-- either of two, both new -/
def eIfF (t : Ev → Option Bool) (f g : Ev → Option S) : Ev → Option S := fun δ => (t δ).bind fun c => if c = true then f δ else g δ
def vF (f : Ev → Option D) : Ev → Option S := fun δ => (f δ).map S.val
theorem df_if {t f g} (hc : DT X c t) (ha : DF X a f) (hb : DF X b g) : DF X (.IfExp c a b pos) (eIfF t f g) := ⟨peImp (pe_ifExp hc.pt ha.pe hb.pe) fun σ H Q ⟨δ, E, os, d, er, hf, k⟩ => by
  obtain ⟨x, h1, h2⟩ := Option.bind_eq_some_iff.mp hf
  refine ⟨δ, E, os, x, er, h1, fun H' E' g' => ?_⟩
  have up : ∀ (v : V) (H2 : Hp) (E2 : Addr → Prop), RepF X.K H' H2 E2 d v → RepF X.K H H2 E2 d v := fun v H2 E2 r => by
    cases d with
    | no => exact r
    | val d => exact r
    | lst ds => obtain ⟨a, xs, e, e1, r⟩ := r; exact ⟨a, xs, e, g'.free e1, r⟩
    | dK ks ds => obtain ⟨a, xs, e, e1, r⟩ := r; exact ⟨a, xs, e, g'.free e1, r⟩
    | dT ks ds => obtain ⟨a, xs, e, e1, r⟩ := r; exact ⟨a, xs, e, g'.free e1, r⟩
  cases x with
  | true =>
    simp only [if_true] at h2 ⊢
    exact ⟨δ, E', os, d, er.grow g', h2, fun v H2 E2 g2 r2 => k v H2 E2 (g'.trans g2) (up v H2 E2 r2)⟩
  | false =>
    simp only [Bool.false_eq_true, if_false] at h2 ⊢
    exact ⟨δ, E', os, d, er.grow g', h2, fun v H2 E2 g2 r2 => k v H2 E2 (g'.trans g2) (up v H2 E2 r2)⟩⟩
end
/-- what the statement leaves at name i is from then on read alone -/
def sFrz (i : Nat) (f : Ev → Option Out) : Ev → Option Out := fun δ => (f δ).map fun o => match o with
  | .nx δ' => .nx (lock i δ')
  | o => o
theorem ds_frz {X : Cx} {st : Stmt} (i : Nat) {f} (h : DS X st f) : DS X st (sFrz i f) := ⟨psImp h.ps fun D σ H ⟨δ, E, os, out, er, hf, k⟩ => by
  obtain ⟨o, h1, h2⟩ := Option.map_eq_some_iff.mp hf
  subst h2
  refine ⟨δ, E, os, o, er, h1, ?_⟩
  cases o with
  | nx δ' =>
    intro σ' H' E' os' e' f'
    obtain ⟨E2, os2, e2, f2⟩ := e'.lock i
    exact k σ' H' E2 os2 e2 (f'.trans f2)
  | rt s => exact k
  | bk δ' => exact k
  | ct δ' => exact k⟩
end DL

/-! the D-level functions reckoned out: one equation a combinator -/
namespace DL
open PySem L2
section
variable {δ : Ev} {f g h : Ev → Option D} {t u : Ev → Option Bool} {F G : Ev → Option S} {A B : Ev → Option (List D)} {i j k n : Nat} {d : D} {p q : Ev → Option Out}
@[simp] theorem sd_ap : sd F δ = (F δ).bind S.d := (rfl)
@[simp] theorem eC_ap : eC d δ = some d := (rfl)
@[simp] theorem eV_ap : eV i δ = match δ[i]? with
  | some (.val d) => some d
  | _ => none := (rfl)
@[simp] theorem eVB_ap : eVB i δ = match δ[i]? with
  | some s => s.d
  | _ => none := (rfl)
@[simp] theorem e1_ap {o : D → Option D} : e1 o f δ = (f δ).bind o := (rfl)
@[simp] theorem e2_ap {o : D → D → Option D} : e2 o f g δ = (f δ).bind fun x => (g δ).bind fun y => o x y := (rfl)
@[simp] theorem e2F_ap {o : D → D → Option S} : e2F o f g δ = (f δ).bind fun x => (g δ).bind fun y => o x y := (rfl)
@[simp] theorem tE_ap : tE f δ = (f δ).bind D.bool? := (rfl)
@[simp] theorem tAn_ap : tAn t u δ = (t δ).bind fun x => if x = true then u δ else some false := (rfl)
@[simp] theorem tOr_ap : tOr' t u δ = (t δ).bind fun x => if x = true then some true else u δ := (rfl)
@[simp] theorem tNo_ap : tNo t δ = (t δ).map (!·) := (rfl)
@[simp] theorem eAn_ap : eAn f g δ = (f δ).bind fun x => x.bool?.bind fun c => if c = true then g δ else some (.bl false) := (rfl)
@[simp] theorem eOr_ap : eOr f g δ = (f δ).bind fun x => x.bool?.bind fun c => if c = true then some (.bl true) else g δ := (rfl)
@[simp] theorem eNo_ap : eNo f δ = (f δ).bind fun x => x.bool?.map fun c => .bl (!c) := (rfl)
@[simp] theorem eIf_ap : eIf t f g δ = (t δ).bind fun c => if c = true then f δ else g δ := (rfl)
@[simp] theorem eIfF_ap : eIfF t F G δ = (t δ).bind fun c => if c = true then F δ else G δ := (rfl)
@[simp] theorem vF_ap : vF f δ = (f δ).map S.val := (rfl)
@[simp] theorem eNil_ap : eNil δ = some [] := (rfl)
@[simp] theorem eCons_ap : eCons f A δ = (f δ).bind fun x => (A δ).map fun r => x :: r := (rfl)
@[simp] theorem eTup_ap : eTup A δ = ((A δ).bind fits).map D.tup := (rfl)
@[simp] theorem eLst_ap : eLst A δ = ((A δ).bind fits).map S.lst := (rfl)
@[simp] theorem eCall_ap {o : List D → Option D} : eCall o A δ = (A δ).bind o := (rfl)
@[simp] theorem eCallF_ap {o : List D → Option S} : eCallF o A δ = (A δ).bind o := (rfl)
@[simp] theorem eCl_ap {o : List D → Option S} : eCl o A δ = (A δ).bind o := (rfl)
@[simp] theorem ePart_ap : ePart f δ = (f δ).bind fun x => match x with
  | .int i => some (some i)
  | _ => none := (rfl)
@[simp] theorem eNoPart_ap : eNoPart δ = some none := (rfl)
@[simp] theorem eSlA_ap {lo hi : Ev → Option (Option Int)} : eSlA f lo hi δ = (f δ).bind fun x => (lo δ).bind fun l => (hi δ).bind fun h => dSlA x l h := (rfl)
@[simp] theorem eSlF_ap {lo hi : Ev → Option (Option Int)} : eSlF f lo hi δ = (f δ).bind fun x => (lo δ).bind fun l => (hi δ).bind fun h => fSl x l h := (rfl)
@[simp] theorem eIsi_ap {T : String} : eIsi T f δ = (f δ).map fun d => .bl (isTy T d) := (rfl)
@[simp] theorem eCh_ap {o o' : D → D → Option D} : eCh o o' f g h δ = (f δ).bind fun x => (g δ).bind fun y => (o x y).bind fun z => match z with
  | .bl k => if k = true then (h δ).bind fun w => o' y w else some (.bl false)
  | _ => none := (rfl)
@[simp] theorem eIt_ap : eIt f δ = (f δ).bind items := (rfl)
noncomputable def rng1 : List D → Option (List D)
  | [.int j] => @ite _ (okR j = true) (Classical.propDecidable _) (some (rng 0 j.toNat)) none
  | _ => none
noncomputable def rng2 : List D → Option (List D)
  | [.int i, .int j] => @ite _ (okR i = true ∧ okR j = true) (Classical.propDecidable _) (some (rng i (j - i).toNat)) none
  | _ => none
@[simp] theorem eRng1_ap : eRng1 A δ = (A δ).bind rng1 := by
  unfold eRng1
  cases A δ with
  | none => rfl
  | some ds => rfl
@[simp] theorem eRng2_ap : eRng2 A δ = (A δ).bind rng2 := by
  unfold eRng2
  cases A δ with
  | none => rfl
  | some ds => rfl
@[simp] theorem gN_ap : gN i d δ = some (δ.set i (.val d)) := (rfl)
@[simp] theorem gsN_ap : gsN [] δ = some δ := (rfl)
@[simp] theorem gsC_ap {tt : D → Ev → Option Ev} {uu : List D → Ev → Option Ev} {r : List D} : gsC tt uu (d :: r) δ = (tt d δ).bind fun δ' => uu r δ' := (rfl)
@[simp] theorem gT_ap {uu : List D → Ev → Option Ev} {ds : List D} : gT n uu (.tup ds) δ = if ds.length = n then uu ds δ else none := (rfl)
@[simp] theorem gT_lst {uu : List D → Ev → Option Ev} {ds : List D} : gT n uu (.lst ds) δ = if ds.length = n then uu ds δ else none := (rfl)
@[simp] theorem cYes_ap : cYes δ = some true := (rfl)
@[simp] theorem wpE_nil : wpE δ [] = δ := (rfl)
@[simp] theorem wpE_cons {vs : List Nat} : wpE δ (i :: vs) = (wpE δ vs).set i .no := (rfl)
@[simp] theorem eLc_ap {vs : List Nat} {it : Ev → Option (List D)} {tt : D → Ev → Option Ev} : eLc vs it tt t f δ = (it δ).bind fun ds => ((cmpL (wpE δ vs) tt t f ds).bind fits).map S.lst := (rfl)
@[simp] theorem eLc2_ap {vs vs1 : List Nat} {it it1 : Ev → Option (List D)} {tt tt1 : D → Ev → Option Ev} : eLc2 vs vs1 it tt t it1 tt1 u f δ = (it δ).bind fun ds => ((cmpL2 (wpE δ vs) vs1 tt t it1 tt1 u f ds).bind fits).map S.lst := (rfl)
-- statements
@[simp] theorem sNil_ap : sNil δ = some (.nx δ) := (rfl)
@[simp] theorem sSeq_ap : sSeq p q δ = (p δ).bind fun o => match o with
  | .nx δ' => q δ'
  | o => some o := (rfl)
@[simp] theorem sBreak_ap : sBreak δ = some (.bk δ) := (rfl)
@[simp] theorem sCont_ap : sCont δ = some (.ct δ) := (rfl)
@[simp] theorem sSet_ap : sSet i f δ = (f δ).map fun d => .nx (δ.set i (.val d)) := (rfl)
@[simp] theorem sOwn_ap : sOwn i F δ = (F δ).map fun s => .nx (δ.set i s) := (rfl)
@[simp] theorem sLock_ap : sLock i p δ = p (lock i δ) := (rfl)
@[simp] theorem sRet_ap : sRet f δ = (f δ).map fun d => .rt (.val d) := (rfl)
@[simp] theorem sRetF_ap : sRetF F δ = (F δ).map .rt := (rfl)
@[simp] theorem sRetN_ap : sRetN δ = some (.rt (.val .non)) := (rfl)
@[simp] theorem sRetO_ap : sRetO i δ = match δ[i]? with
  | some (.lst ds) => some (.rt (.lst ds))
  | some (.dK ks ds) => some (.rt (.dK ks ds))
  | some (.dT ks ds) => some (.rt (.dT ks ds))
  | _ => none := (rfl)
@[simp] theorem sIf_ap : sIf t p q δ = (t δ).bind fun c => if c = true then p δ else q δ := (rfl)
@[simp] theorem sExpr_ap : sExpr f δ = (f δ).map fun _ => .nx δ := (rfl)
@[simp] theorem sAsg_ap {tt : D → Ev → Option Ev} : sAsg tt f δ = (f δ).bind fun d => (tt d δ).map .nx := (rfl)
def par2 (i j : Nat) (δ : Ev) : List D → Option Out
  | [a, b] => some (.nx ((δ.set i (.val a)).set j (.val b)))
  | _ => none
def par3 (i j l : Nat) (δ : Ev) : List D → Option Out
  | [a, b, c] => some (.nx (((δ.set i (.val a)).set j (.val b)).set l (.val c)))
  | _ => none
@[simp] theorem par2_ap {a b : D} : par2 i j δ [a, b] = some (.nx ((δ.set i (.val a)).set j (.val b))) := (rfl)
@[simp] theorem par3_ap {a b c : D} : par3 i j k δ [a, b, c] = some (.nx (((δ.set i (.val a)).set j (.val b)).set k (.val c))) := (rfl)
@[simp] theorem sPar_ap : sPar i j A δ = (A δ).bind (par2 i j δ) := by
  unfold sPar
  cases A δ with
  | none => rfl
  | some ds => rfl
@[simp] theorem sPar3_ap : sPar3 i j k A δ = (A δ).bind (par3 i j k δ) := by
  unfold sPar3
  cases A δ with
  | none => rfl
  | some ds => rfl
@[simp] theorem sFor_ap {it : Ev → Option (List D)} {tt : D → Ev → Option Ev} : sFor it tt p δ = (it δ).bind fun ds => forL tt p ds δ := (rfl)
@[simp] theorem sWhile_ap : sWhile n t p δ = whileL t p n δ := (rfl)
@[simp] theorem sApp_ap : sApp i f δ = match δ[i]? with
  | some (.lst ds) => (f δ).bind fun d => if ds.length < sizeLine then some (.nx (δ.set i (.lst (ds ++ [d])))) else none
  | _ => none := (rfl)
def setAt (i : Nat) (ds : List D) (d : D) (δ : Ev) : D → Option Out
  | .int j => (ixN ds.length j).map fun k => .nx (δ.set i (.lst (ds.set k d)))
  | _ => none
@[simp] theorem setAt_ap {ds : List D} {m : Int} : setAt i ds d δ (.int m) = (ixN ds.length m).map fun k => .nx (δ.set i (.lst (ds.set k d))) := (rfl)
@[simp] theorem sSetIx_ap : sSetIx i f g δ = (g δ).bind fun d => match δ[i]? with
  | some (.lst ds) => (f δ).bind (setAt i ds d δ)
  | _ => none := by
  unfold sSetIx
  congr 1
@[simp] theorem sAug_ap {o : D → D → Option D} : sAug i o f δ = (eV i δ).bind fun x => (f δ).bind fun y => (o x y).map fun z => .nx (δ.set i (.val z)) := (rfl)
theorem sAugIx_at {o : D → D → Option D} {ds : List D} {m : Int} {old y z : D} (h0 : δ[i]? = some (.lst ds)) (h1 : f δ = some (.int m)) (h2 : ixN ds.length m = some k) (h3 : ds[k]? = some old) (h4 : g δ = some y) (h5 : o old y = some z) : sAugIx i o f g δ = some (.nx (δ.set i (.lst (ds.set k z)))) := by
  unfold sAugIx
  rw [h0]
  show (f δ).bind _ = _
  rw [h1, Option.bind_some]
  show (ixN ds.length m).bind _ = _
  rw [h2, Option.bind_some, h3]
  show (g δ).bind _ = _
  rw [h4, Option.bind_some, h5]
  rfl
@[simp] theorem sFrz_ap : sFrz i p δ = (p δ).map fun o => match o with
  | .nx δ' => .nx (lock i δ')
  | o => o := (rfl)
@[simp] theorem lock_ap : lock i δ = match δ[i]? with
  | some s => match s.d with
    | some d => δ.set i (.val d)
    | none => δ
  | none => δ := (rfl)
-- values
@[simp] theorem d_no : S.d .no = none := (rfl)
@[simp] theorem d_val : S.d (.val d) = some d := (rfl)
@[simp] theorem d_lst {ds : List D} : S.d (.lst ds) = some (.lst ds) := (rfl)
@[simp] theorem outS_rt {s : S} : outS (.rt s) = some s := (rfl)
@[simp] theorem outS_nx : outS (.nx δ) = some (.val .non) := (rfl)
@[simp] theorem bool_bl {b : Bool} : D.bool? (.bl b) = some b := (rfl)
@[simp] theorem add_int {a b : Int} : dAddA (.int a) (.int b) = some (.int (a + b)) := (rfl)
@[simp] theorem add_tup {a b : List D} : dAddA (.tup a) (.tup b) = (fits (a ++ b)).map D.tup := by
  show altF dAdd fCat _ _ = _
  unfold altF dAdd
  simp only
  cases h : fits (a ++ b) with
  | none => rfl
  | some c => rfl
@[simp] theorem add_lst {a b : List D} : dAddA (.lst a) (.lst b) = (fits (a ++ b)).map D.lst := by
  show altF dAdd fCat _ _ = _
  unfold altF dAdd fCat
  simp only
  cases h : fits (a ++ b) with
  | none => rfl
  | some c => rfl
@[simp] theorem sub_int {a b : Int} : dSub (.int a) (.int b) = some (.int (a - b)) := (rfl)
@[simp] theorem addI_int {a b : Int} : dAddI (.int a) (.int b) = some (.int (a + b)) := (rfl)
@[simp] theorem mul_int {a b : Int} : dMulA (.int a) (.int b) = if mulOk a b = true then some (.int (a * b)) else none := by
  show altF (altD dMul dRepT) fRep _ _ = _
  unfold altF altD dMul
  simp only
  by_cases c : mulOk a b = true
  · simp [c]
  · simp [c, dRepT, fRep]
@[simp] theorem mulS_int {a b : Int} : dMul (.int a) (.int b) = if mulOk a b = true then some (.int (a * b)) else none := (rfl)
@[simp] theorem fdiv_int {a b : Int} : dFdiv (.int a) (.int b) = if divOk b = true then some (.int (a.fdiv b)) else none := (rfl)
@[simp] theorem mod_int {a b : Int} : dMod (.int a) (.int b) = if b ≠ 0 then some (.int (a.fmod b)) else none := (rfl)
@[simp] theorem pow_int {a b : Int} : dPow (.int a) (.int b) = if 0 ≤ b ∧ b ≤ 1000000 ∧ a.natAbs < 18446744073709551616 then some (.int (a ^ b.toNat)) else none := (rfl)
@[simp] theorem neg_int {a : Int} : dNeg (.int a) = some (.int (-a)) := (rfl)
@[simp] theorem lt_int {a b : Int} : dLt (.int a) (.int b) = some (.bl (decide (a < b))) := (rfl)
@[simp] theorem le_int {a b : Int} : dLe (.int a) (.int b) = some (.bl (decide (a ≤ b))) := (rfl)
@[simp] theorem gt_int {a b : Int} : dGt (.int a) (.int b) = some (.bl (decide (b < a))) := (rfl)
@[simp] theorem ge_int {a b : Int} : dGe (.int a) (.int b) = some (.bl (decide (b ≤ a))) := (rfl)
@[simp] theorem isN_non : dIsN .non .non = some (.bl true) := (rfl)
@[simp] theorem isN_int {a : Int} : dIsN (.int a) .non = some (.bl false) := (rfl)
@[simp] theorem isN_bl {a : Bool} : dIsN (.bl a) .non = some (.bl false) := (rfl)
@[simp] theorem isN_str {a : Str} : dIsN (.str a) .non = some (.bl false) := (rfl)
@[simp] theorem isN_tup {a : List D} : dIsN (.tup a) .non = some (.bl false) := (rfl)
@[simp] theorem isN_lst {a : List D} : dIsN (.lst a) .non = some (.bl false) := (rfl)
@[simp] theorem notN_non : dNotN .non .non = some (.bl false) := (rfl)
@[simp] theorem notN_int {a : Int} : dNotN (.int a) .non = some (.bl true) := (rfl)
@[simp] theorem notN_bl {a : Bool} : dNotN (.bl a) .non = some (.bl true) := (rfl)
@[simp] theorem notN_str {a : Str} : dNotN (.str a) .non = some (.bl true) := (rfl)
@[simp] theorem notN_tup {a : List D} : dNotN (.tup a) .non = some (.bl true) := (rfl)
@[simp] theorem notN_lst {a : List D} : dNotN (.lst a) .non = some (.bl true) := (rfl)
@[simp] theorem len_tup {ds : List D} : cLen [.tup ds] = some (.int ds.length) := (rfl)
@[simp] theorem len_lst {ds : List D} : cLen [.lst ds] = some (.int ds.length) := (rfl)
@[simp] theorem len_scr {ds : List Int} : cLen [.scr ds] = some (.int ds.length) := (rfl)
@[simp] theorem ix_tup {ds : List D} {m : Int} : dIx (.tup ds) (.int m) = atI ds m := (rfl)
@[simp] theorem ix_lst {ds : List D} {m : Int} : dIx (.lst ds) (.int m) = atI ds m := (rfl)
@[simp] theorem ix_scr {ds : List Int} {m : Int} : dIx (.scr ds) (.int m) = (atI ds m).map D.int := (rfl)
@[simp] theorem sl_tup {ds : List D} {lo hi : Option Int} : dSlA (.tup ds) lo hi = some (.tup (cut ds lo hi)) := (rfl)
@[simp] theorem sl_lst {ds : List D} {lo hi : Option Int} : dSlA (.lst ds) lo hi = some (.lst (cut ds lo hi)) := (rfl)
@[simp] theorem slF_lst {ds : List D} {lo hi : Option Int} : fSl (.lst ds) lo hi = some (.lst (cut ds lo hi)) := (rfl)
@[simp] theorem abs_int {a : Int} : cAbs [.int a] = some (.int (a.natAbs : Int)) := (rfl)
@[simp] theorem int_int {a : Int} : cInt [.int a] = some (.int a) := (rfl)
@[simp] theorem int_bl {a : Bool} : cInt [.bl a] = some (.int (if a then 1 else 0)) := (rfl)
@[simp] theorem tuple_lst {ds : List D} : cTuple [.lst ds] = some (.tup ds) := (rfl)
@[simp] theorem tuple_tup {ds : List D} : cTuple [.tup ds] = some (.tup ds) := (rfl)
@[simp] theorem list_lst {ds : List D} : cList [.lst ds] = some (.lst ds) := (rfl)
@[simp] theorem list_tup {ds : List D} : cList [.tup ds] = some (.lst ds) := (rfl)
@[simp] theorem min_int {a b : Int} : cMin [.int a, .int b] = some (.int (min a b)) := by
  show some (D.int (if b < a then b else a)) = _
  congr 2
  omega
@[simp] theorem max_int {a b : Int} : cMax [.int a, .int b] = some (.int (max a b)) := by
  show some (D.int (if b > a then b else a)) = _
  congr 2
  omega
@[simp] theorem all_lst {bs : List Bool} : cAll [.lst (bs.map D.bl)] = some (.bl (bs.all id)) := by
  show (allBl (bs.map D.bl)).map _ = _
  rw [allBl_map]
  rfl
@[simp] theorem any_lst {bs : List Bool} : cAny [.lst (bs.map D.bl)] = some (.bl (bs.any id)) := by
  show (allBl (bs.map D.bl)).map _ = _
  rw [allBl_map]
  rfl
@[simp] theorem sum_lst {ns : List Int} : cSum [.lst (ns.map D.int)] = some (.int ns.sum) := by
  show (allInt (ns.map D.int)).map _ = _
  rw [allInt_map]
  rfl
@[simp] theorem sum_tup {ns : List Int} : cSum [.tup (ns.map D.int)] = some (.int ns.sum) := by
  show (allInt (ns.map D.int)).map _ = _
  rw [allInt_map]
  rfl
@[simp] theorem items_tup {ds : List D} : items (.tup ds) = some ds := (rfl)
@[simp] theorem items_lst {ds : List D} : items (.lst ds) = some ds := (rfl)
end
theorem fits_of {xs : List D} (h : xs.length ≤ 16777216) : fits xs = some xs := by
  unfold fits
  rw [if_pos (by show xs.length ≤ 2 ^ 24; omega)]
theorem rng1_of {j : Int} (h : j < 4000000000) (h0 : -4000000000 < j) : rng1 [.int j] = some (rng 0 j.toNat) := by
  show @ite _ (okR j = true) (Classical.propDecidable _) _ _ = _
  rw [if_pos]
  unfold okR
  simp only [Bool.and_eq_true, decide_eq_true_eq]
  omega
theorem rng2_of {i j : Int} (h : j < 4000000000) (h0 : -4000000000 < j) (h1 : i < 4000000000) (h2 : -4000000000 < i) : rng2 [.int i, .int j] = some (rng i (j - i).toNat) := by
  show @ite _ (okR i = true ∧ okR j = true) (Classical.propDecidable _) _ _ = _
  rw [if_pos]
  unfold okR
  simp only [Bool.and_eq_true, decide_eq_true_eq]
  omega
theorem mulOk_r {a b : Int} (h : b.natAbs < 18446744073709551616) : mulOk a b = true := by
  unfold mulOk
  simp [h]
theorem mulOk_l {a b : Int} (h : a.natAbs < 18446744073709551616) : mulOk a b = true := by
  unfold mulOk
  simp [h]
theorem divOk_of {b : Int} (h : b ≠ 0) (h2 : b.natAbs < 1073741824) : divOk b = true := by
  unfold divOk
  simp [h, h2]
theorem divOk_big {b : Int} (h : b ≠ 0) (h2 : b.natAbs < 18446744073709551616) : divOk b = true := by
  unfold divOk
  have : b.natAbs.log2 < 64 := (Nat.log2_lt (by omega)).mpr h2
  have : b.natAbs.log2 < 9000 := by omega
  simp [h, this]
theorem atI_of {α : Type} {xs : List α} {i : Nat} {m : Int} (e : m = i) (h : i < xs.length) : atI xs m = some xs[i] := by
  subst e
  exact atI_nat (by simp [h])
/-! ### loops with an invariant -/
theorem forL_inv {t : D → Ev → Option Ev} {b : Ev → Option Out} (I : Nat → Ev → Prop) : ∀ {ds : List D} {δ : Ev} (k : Nat), I k δ → (∀ i d δ, ds[i]? = some d → I (k + i) δ → ∃ δ1, t d δ = some δ1 ∧ ∃ δ2, (b δ1 = some (.nx δ2) ∨ b δ1 = some (.ct δ2)) ∧ I (k + i + 1) δ2) →
    ∃ δ', forL t b ds δ = some (.nx δ') ∧ I (k + ds.length) δ' := by
  intro ds
  induction ds with
  | nil => exact fun k h _ => ⟨_, rfl, h⟩
  | cons d r ih =>
    intro δ k h hs
    obtain ⟨δ1, h1, δ2, h2, h3⟩ := hs 0 d δ rfl h
    obtain ⟨δ', h4, h5⟩ := ih (δ := δ2) (k + 1) h3 fun i d' δ'' e q => by
      have := hs (i + 1) d' δ'' (by simpa using e) (by rw [← Nat.add_assoc]; rw [Nat.add_right_comm]; exact q)
      obtain ⟨a, q1, c, q2, q3⟩ := this
      exact ⟨a, q1, c, q2, by rw [show k + 1 + i + 1 = k + (i + 1) + 1 by omega]; exact q3⟩
    refine ⟨δ', ?_, by rw [List.length_cons, show k + (r.length + 1) = k + 1 + r.length by omega]; exact h5⟩
    unfold forL
    rw [h1]
    show (b δ1).bind _ = _
    rcases h2 with h2 | h2 <;> rw [h2] <;> exact h4
def nxt : Out → Option Ev
  | .nx δ => some δ
  | .ct δ => some δ
  | _ => none
@[simp] theorem nxt_nx {δ : Ev} : nxt (.nx δ) = some δ := (rfl)
@[simp] theorem nxt_ct {δ : Ev} : nxt (.ct δ) = some δ := (rfl)
theorem ex_of {x : Option Ev} {v : Ev} {I : Ev → Prop} (h : x = some v) (hI : I v) : ∃ δ2, x = some δ2 ∧ I δ2 := ⟨v, h, hI⟩
/-- the loop that stands in the goal (generalize hF : forL _ _ _ _ = o) -/
theorem forL_at {t : D → Ev → Option Ev} {b : Ev → Option Out} {ds : List D} {δ : Ev} {o : Option Out} (hF : forL t b ds δ = o) (I : Nat → Ev → Prop) (h0 : I 0 δ)
    (hs : ∀ i d δ, ds[i]? = some d → I i δ → ∃ δ2, ((t d δ).bind b).bind nxt = some δ2 ∧ I (i + 1) δ2) : ∃ δ', o = some (.nx δ') ∧ I ds.length δ' := by
  subst hF
  have := forL_inv (t := t) (b := b) I (ds := ds) (δ := δ) 0 h0 fun i d δ hd hi => by
    rw [Nat.zero_add] at hi ⊢
    obtain ⟨δ2, h1, h2⟩ := hs i d δ hd hi
    obtain ⟨o, h3, h4⟩ := Option.bind_eq_some_iff.mp h1
    obtain ⟨δ1, h5, h6⟩ := Option.bind_eq_some_iff.mp h3
    refine ⟨δ1, h5, δ2, ?_, h2⟩
    cases o with
    | nx δ' => cases h4; exact .inl h6
    | ct δ' => cases h4; exact .inr h6
    | rt s => cases h4
    | bk δ' => cases h4
  simpa using this
/-- a loop that turn i ends with a return -/
theorem forL_rt {t : D → Ev → Option Ev} {b : Ev → Option Out} {ds : List D} {δ : Ev} {o : Option Out} (hF : forL t b ds δ = o) {i : Nat} {d : D} {s : S} (I : Nat → Ev → Prop) (h0 : I 0 δ) (hd : ds[i]? = some d)
    (hs : ∀ k d δ, k < i → ds[k]? = some d → I k δ → ∃ δ2, ((t d δ).bind b).bind nxt = some δ2 ∧ I (k + 1) δ2) (hr : ∀ δ, I i δ → (t d δ).bind b = some (.rt s)) : o = some (.rt s) := by
  subst hF
  induction i generalizing ds δ I with
  | zero =>
    cases ds with
    | nil => cases hd
    | cons x r =>
      cases hd
      obtain ⟨δ1, h5, h6⟩ := Option.bind_eq_some_iff.mp (hr δ h0)
      unfold forL
      rw [h5, Option.bind_some, h6]
      rfl
  | succ i ih =>
    cases ds with
    | nil => cases hd
    | cons x r =>
      obtain ⟨δ2, h1, h2⟩ := hs 0 x δ (by omega) rfl h0
      obtain ⟨o, h3, h4⟩ := Option.bind_eq_some_iff.mp h1
      obtain ⟨δ1, h5, h6⟩ := Option.bind_eq_some_iff.mp h3
      have := ih (ds := r) (δ := δ2) (fun k => I (k + 1)) h2 (by simpa using hd) (fun k d δ hk e q => hs (k + 1) d δ (by omega) (by simpa using e) q) hr
      unfold forL
      rw [h5, Option.bind_some, h6, Option.bind_some]
      cases o with
      | nx δ' => cases h4; exact this
      | ct δ' => cases h4; exact this
      | rt s => cases h4
      | bk δ' => cases h4
theorem rng_get {lo : Int} {n i : Nat} {d : D} (h : (rng lo n)[i]? = some d) : i < n ∧ d = .int (lo + i) := by
  unfold rng at h
  rw [List.getElem?_map] at h
  obtain ⟨j, h1, h2⟩ := Option.map_eq_some_iff.mp h
  by_cases q : i < n
  · rw [List.getElem?_range q] at h1
    cases h1
    exact ⟨q, h2.symm⟩
  · rw [List.getElem?_eq_none (by simp; omega)] at h1
    cases h1
theorem rng_len {lo : Int} {n : Nat} : (rng lo n).length = n := by unfold rng; simp
theorem rng_at {lo : Int} {n i : Nat} (h : i < n) : (rng lo n)[i]? = some (.int (lo + i)) := by
  unfold rng
  rw [List.getElem?_map, List.getElem?_range h]
  rfl
/-- a comprehension of which every turn gives a value -/
theorem cmpL_map {δ0 : Ev} {t : D → Ev → Option Ev} {f : Ev → Option D} {g : D → D} : ∀ {ds : List D}, (∀ d ∈ ds, ∃ δ1, t d δ0 = some δ1 ∧ f δ1 = some (g d)) → cmpL δ0 t cYes f ds = some (ds.map g)
  | [], _ => rfl
  | d :: r, h => by
    obtain ⟨δ1, h1, h2⟩ := h d (by simp)
    unfold cmpL
    rw [h1, Option.bind_some]
    simp [h2, cmpL_map fun d' m => h d' (List.mem_cons_of_mem _ m)]
/-- .. under a test -/
theorem cmpL_filter {δ0 : Ev} {t : D → Ev → Option Ev} {c : Ev → Option Bool} {f : Ev → Option D} {p : D → Bool} {g : D → D} : ∀ {ds : List D}, (∀ d ∈ ds, ∃ δ1, t d δ0 = some δ1 ∧ c δ1 = some (p d) ∧ (p d = true → f δ1 = some (g d))) → cmpL δ0 t c f ds = some ((ds.filter p).map g)
  | [], _ => rfl
  | d :: r, h => by
    obtain ⟨δ1, h1, h2, h3⟩ := h d (by simp)
    have ih := cmpL_filter (δ0 := δ0) (t := t) (c := c) (f := f) (p := p) (g := g) (ds := r) fun d' m => h d' (List.mem_cons_of_mem _ m)
    unfold cmpL
    rw [h1, Option.bind_some, h2]
    by_cases q : p d = true
    · simp [q, h3 q, ih]
    · simp [q, ih]
end DL

/-! the defs that every law has ahead -/
namespace DL.PR
open PySem L2 DL
noncomputable def bd__law_cell : Ev → Option Out :=
  (sSeq (sIf (tE (e2 dLt (eVB 1) (eCall cLen (eCons (eVB 0) eNil)))) (sRet (e2 dIx (eVB 0) (eVB 1))) sNil)
  (sRet (e2 dAddA (e2 dMulA (eC (.int 5)) (eVB 1)) (eC (.int 3)))))
noncomputable def ev__law_cell : List D → Option S := runB 2 2 bd__law_cell

noncomputable def bd__law_draws : Ev → Option Out :=
  (sSeq (sSet 2 (eCall cAbs (eCons (eCall cInt (eCons (eVB 0) eNil)) eNil)))
  (sSeq (sSet 3 (e2 dGe (eVB 2) (e2 dPow (eC (.int 10)) (eC (.int 18)))))
  (sSeq (sSet 4 (eV 2))
  (sSeq (sOwn 5 (eLst eNil))
  (sSeq (sFor (eRng1 (eCons (eV 1) eNil)) (gN 6) (sIf (tAn (tE (eV 3)) (tE (e2 dGt (eVB 2) (eC (.int 0))))) (sSeq (sApp 5 (e2 dMod (eCall cInt (eCons (eVB 2) eNil)) (eC (.int 5040))))
  (sSet 2 (e2 dFdiv (eVB 2) (eC (.int 5040))))) (sSeq (sSet 7 (e2 dMod (eCall cInt (eCons (e2 dAddA (e2 dAddA (e2 dMulA (eVB 4) (eC (.int 48271))) (e2 dMulA (e2 dAddA (eVB 6) (eC (.int 1))) (eC (.int 69621)))) (eC (.int 11))) eNil)) (eC (.int 2147483647))))
  (sSeq (sSet 7 (e2 dMod (eCall cInt (eCons (e2 dAddA (e2 dMulA (eVB 7) (eVB 7)) (e2 dMulA (eC (.int 40692)) (e2 dAddA (eVB 6) (eC (.int 3))))) eNil)) (eC (.int 2147483399))))
  (sApp 5 (e2 dMod (eCall cInt (eCons (e2 dFdiv (eVB 7) (eC (.int 64))) eNil)) (eC (.int 5040))))))))
  (sRetO 5))))))
noncomputable def ev__law_draws : List D → Option S := runB 2 8 bd__law_draws

noncomputable def bd__law_is_integer : Ev → Option Out :=
  (sRet (eAn (eIsi "int" (eVB 0)) (eNo (eIsi "bool" (eVB 0)))))
noncomputable def ev__law_is_integer : List D → Option S := runB 1 1 bd__law_is_integer

noncomputable def bd__law_is (self : List D → Option S) : Ev → Option Out :=
  (sSeq (sIf (tE (e2 dIsN (eVB 1) (eC .non))) (sRet (e2 dIsN (eVB 0) (eC .non))) sNil)
  (sSeq (sIf (tE (eIsi "bool" (eVB 1))) (sRet (eAn (eIsi "bool" (eVB 0)) (e2 dEq (eVB 0) (eVB 1)))) sNil)
  (sSeq (sIf (tE (eIsi "int" (eVB 1))) (sRet (eAn (sd (eCl ev__law_is_integer (eCons (eV 0) eNil))) (e2 dEq (eVB 0) (eVB 1)))) sNil)
  (sSeq (sIf (tE (eIsi "str" (eVB 1))) (sRet (eAn (eIsi "str" (eVB 0)) (e2 dEq (eVB 0) (eVB 1)))) sNil)
  (sSeq (sIf (tOr' (tNo (tE (eIsi "tuple" (eVB 0)))) (tE (e2 dNe (eCall cLen (eCons (eVB 0) eNil)) (eCall cLen (eCons (eVB 1) eNil))))) (sRet (eC (.bl false))) sNil)
  (sRet (eCall cAll (eCons (sd (eLc [2] (eRng1 (eCons (eCall cLen (eCons (eVB 1) eNil)) eNil)) (gN 2) cYes (sd (eCl self (eCons (e2 dIx (eVB 0) (eVB 2)) (eCons (e2 dIx (eVB 1) (eVB 2)) eNil)))))) eNil))))))))
noncomputable def ev__law_is : Nat → List D → Option S
  | 0 => fun _ => none
  | n + 1 => runB 2 3 (bd__law_is (ev__law_is n))

noncomputable def bd__law_is_integers : Ev → Option Out :=
  (sRet (eAn (eIsi "tuple" (eVB 0)) (eCall cAll (eCons (sd (eLc [1] (eIt (eVB 0)) (gN 1) cYes (sd (eCl ev__law_is_integer (eCons (eV 1) eNil))))) eNil))))
noncomputable def ev__law_is_integers : List D → Option S := runB 1 2 bd__law_is_integers

theorem cell_ok (ns : List Int) (k : Nat) : ∃ c, ev__law_cell [.scr ns, .int k] = some (.val (.int c)) := by
  simp only [ev__law_cell, runB, bd__law_cell]
  by_cases h : k < ns.length
  · refine ⟨ns[k], ?_⟩
    have e : atI ns (k : Int) = some ns[k] := atI_of rfl h
    simp [h, e]
  · refine ⟨5 * k + 3, ?_⟩
    simp [h, mulOk]
theorem fm_range {a b : Int} (h : 0 < b) : 0 ≤ a.fmod b ∧ a.fmod b < b := ⟨Int.fmod_nonneg_of_pos _ h, Int.fmod_lt_of_pos _ h⟩
theorem draws_ok (c : Int) (n : Nat) (hn : n < 1000000) : ∃ ns : List Int, ev__law_draws [.int c, .int n] = some (.lst (ns.map D.int)) ∧ ns.length = n ∧ ∀ x ∈ ns, 0 ≤ x ∧ x < 5040 := by
  simp only [ev__law_draws, runB, bd__law_draws]
  have e1 : rng1 [.int (n : Int)] = some (rng 0 n) := by rw [rng1_of (by omega) (by omega)]; simp
  have e2 : fits [] = some [] := fits_of (by simp)
  simp [e1, e2]
  generalize hF : forL _ _ _ _ = o
  obtain ⟨δ', rfl, h⟩ := forL_at hF (fun k δ => k ≤ n ∧ ∃ (r s : Int) (b : Bool) (x y : S) (ns : List Int), δ = [S.val (D.int c), S.val (D.int n), S.val (.int r), S.val (.bl b), S.val (.int s), .lst (ns.map D.int), x, y] ∧ ns.length = k ∧ ∀ x ∈ ns, 0 ≤ x ∧ x < 5040)
    ⟨Nat.zero_le _, _, _, _, _, _, [], rfl, rfl, by simp⟩ (fun i d δ hd ⟨hk, r, s, b, x, y, ns, e, hl, hr⟩ => by
      obtain ⟨hi, rfl⟩ := rng_get hd
      subst e
      have hz : ns.length < sizeLine := by show ns.length < 2 ^ 24; omega
      have o1 : mulOk s 48271 = true := mulOk_r (by decide)
      have o2 : mulOk ((i : Int) + 1) 69621 = true := mulOk_r (by decide)
      have hm : ∀ z : Int, 0 ≤ z.fmod 2147483647 ∧ z.fmod 2147483647 < 2147483647 := fun z => fm_range (by omega)
      have o3 : ∀ z : Int, mulOk (z.fmod 2147483647) (z.fmod 2147483647) = true := fun z => mulOk_r (by have := hm z; omega)
      have o4 : mulOk 40692 ((i : Int) + 3) = true := mulOk_l (by decide)
      have o5 : divOk 64 = true := by decide
      have o6 : divOk 5040 = true := by decide
      have hq : ∀ z : Int, 0 ≤ z.fmod 5040 ∧ z.fmod 5040 < 5040 := fun z => fm_range (by omega)
      have last : ∀ z : Int, ∃ ns' : List Int, ns.map D.int ++ [D.int (z.fmod 5040)] = ns'.map D.int ∧ ns'.length = i + 1 ∧ ∀ x ∈ ns', 0 ≤ x ∧ x < 5040 := fun z => ⟨ns ++ [z.fmod 5040], by simp, by simp [hl], fun x hx => by
        rcases List.mem_append.mp hx with q | q
        · exact hr x q
        · rw [List.mem_singleton.mp q]; exact hq z⟩
      cases b with
      | false => 
        simp [o1, o2, o3, o4, o5, hz]
        obtain ⟨ns', q1, q2⟩ := last _
        exact ⟨by omega, _, _, _, _, ns', ⟨rfl, rfl, q1, rfl, rfl⟩, q2⟩
      | true =>
        by_cases h0 : 0 < r
        · simp [h0, hz, o6]
          obtain ⟨ns', q1, q2⟩ := last _
          exact ⟨by omega, _, _, _, _, ns', ⟨rfl, rfl, q1, rfl, rfl⟩, q2⟩
        · simp [o1, o2, o3, o4, o5, hz, h0]
          obtain ⟨ns', q1, q2⟩ := last _
          exact ⟨by omega, _, _, _, _, ns', ⟨rfl, rfl, q1, rfl, rfl⟩, q2⟩)
  obtain ⟨_, r, s, b, x, y, ns, rfl, g3, g4⟩ := h
  exact ⟨ns, by simp, by rw [g3]; simp [rng_len], g4⟩

/-! _law_is: a value is its own due -/
mutual
def nice : D → Bool
  | .non => true
  | .bl _ => true
  | .int _ => true
  | .str _ => true
  | .tup ds => nices ds
  | _ => false
def nices : List D → Bool
  | [] => true
  | d :: ds => nice d && nices ds
end
theorem nices_at : ∀ {ds : List D} {i : Nat} {d : D}, nices ds = true → ds[i]? = some d → nice d = true
  | [], _, _, _, h => by simp at h
  | x :: ds, 0, d, h, e => by
    simp at e; subst e
    unfold nices at h
    exact (Bool.and_eq_true _ _ ▸ h).1
  | x :: ds, i + 1, d, h, e => by
    unfold nices at h
    exact nices_at (Bool.and_eq_true _ _ ▸ h).2 (by simpa using e)
mutual
theorem eq_refl : ∀ {d : D}, nice d = true → D.eq d d = true
  | .non, _ => rfl
  | .bl b, _ => by simp [D.eq]
  | .int i, _ => by simp [D.eq]
  | .str x, _ => by simp [D.eq]
  | .tup ds, h => by
    unfold nice at h
    unfold D.eq
    exact eqs_refl h
  | .lst _, h => by cases h
  | .scr _, h => by cases h
  | .dK _ _, h => by cases h
  | .dT _ _, h => by cases h
theorem eqs_refl : ∀ {ds : List D}, nices ds = true → eqs ds ds = true
  | [], _ => rfl
  | d :: ds, h => by
    unfold nices at h
    have h := Bool.and_eq_true _ _ ▸ h
    unfold eqs
    rw [eq_refl h.1, eqs_refl h.2]
    rfl
end
theorem rng_nat {n : Nat} (h : n < 4000000000) : rng1 [.int (n : Int)] = some (rng 0 n) := by rw [rng1_of (by omega) (by omega)]; simp
/-! no tuple within is longer than a million -/
mutual
def big : D → Bool
  | .tup ds => decide (1000000 < ds.length) || bigs ds
  | _ => false
def bigs : List D → Bool
  | [] => false
  | d :: ds => big d || bigs ds
end
theorem nices_dep : ∀ {ds : List D} {i : Nat} {d : D}, bigs ds = false → ds[i]? = some d → big d = false
  | [], _, _, _, h => by simp at h
  | x :: ds, 0, d, h, e => by
    simp at e; subst e
    unfold bigs at h
    exact (Bool.or_eq_false_iff.mp h).1
  | x :: ds, i + 1, d, h, e => by
    unfold bigs at h
    exact nices_dep (Bool.or_eq_false_iff.mp h).2 (by simpa using e)
theorem rng_mem {lo : Int} {n : Nat} {d : D} (h : d ∈ rng lo n) : ∃ i : Nat, i < n ∧ d = .int (lo + i) := by
  obtain ⟨i, hi⟩ := List.getElem?_of_mem h
  exact ⟨i, rng_get hi⟩
theorem isint_int (i : Int) : ev__law_is_integer [.int i] = some (.val (.bl true)) := by
  simp [ev__law_is_integer, runB, bd__law_is_integer, isTy, D.ty]
theorem all_true {n : Nat} {lo : Int} : cAll [.lst ((rng lo n).map fun _ => D.bl true)] = some (.bl true) := by
  have e : (rng lo n).map (fun _ => D.bl true) = (List.replicate n true).map D.bl := by
    rw [List.map_const', rng_len, List.map_replicate]
  rw [e, all_lst]
  simp
theorem is_ok : ∀ (n : Nat) {d : D}, nice d = true → d.dep < n → d.dep ≤ 64 → big d = false → ev__law_is n [d, d] = some (.val (.bl true))
  | 0, d, _, h, _, _ => by omega
  | n + 1, d, hn, h, h64, hb => by
    simp only [ev__law_is, runB, bd__law_is]
    cases d with
    | non => simp
    | bl b => simp [isTy, D.ty, dEq, h64, eq_refl hn]
    | int i => simp [isTy, D.ty, dEq, h64, eq_refl hn, isint_int]
    | str x => simp [isTy, D.ty, dEq, h64, eq_refl hn]
    | tup ds =>
      unfold big at hb
      obtain ⟨hb1, hb2⟩ := Bool.or_eq_false_iff.mp hb
      have hl : ds.length ≤ 1000000 := by simpa using hb1
      unfold nice at hn
      have e1 := rng_nat (n := ds.length) (by omega)
      have ef : ∀ f : D → D, fits ((rng 0 ds.length).map f) = some ((rng 0 ds.length).map f) := fun f => fits_of (by rw [List.length_map, rng_len]; omega)
      have e3 : D.eq (.int ds.length) (.int ds.length) = true := eq_refl rfl
      have e4 : cmpL [S.val (.tup ds), S.val (.tup ds), S.no] (gN 2) cYes (sd (eCl (ev__law_is n) (eCons (e2 dIx (eVB 0) (eVB 2)) (eCons (e2 dIx (eVB 1) (eVB 2)) eNil)))) (rng 0 ds.length) = some ((rng 0 ds.length).map fun _ => D.bl true) := by
        refine cmpL_map fun d hd => ?_
        obtain ⟨i, hi, rfl⟩ := rng_mem hd
        refine ⟨_, gN_ap, ?_⟩
        have a1 : atI ds (i : Int) = some ds[i] := atI_of rfl hi
        have g : ds[i]? = some ds[i] := by simp [hi]
        have dp := deps_get g
        have h0 : (D.tup ds).dep = deps ds + 1 := by rw [D.dep]
        have ih := is_ok n (nices_at hn g) (by omega) (by omega) (nices_dep hb2 g)
        simp [a1, ih]
      simp [isTy, D.ty, dNe, D.dep, e1, e3, e4, ef, all_true]
    | lst ds => cases hn
    | scr ns => cases hn
    | dK _ _ => cases hn
    | dT _ _ => cases hn
end DL.PR

namespace L40
open PySem PySem.Spec PyProof.Rows L2 DL DL.PR
abbrev top (i : Nat) : Stmt := PySem.Challenge.pw_placekeep_k40_whole_sources_or_bars.main.body.getD i (.Pass ⟨0, 0, 0, 0⟩)
noncomputable def bd_sent_to : Ev → Option Out :=
  (sSeq (sAsg (gT 6 (gsC (gN 2) (gsC (gN 3) (gsC (gN 4) (gsC (gN 5) (gsC (gN 6) (gsC (gN 7) gsN))))))) (eV 0))
  (sSeq (sAsg (gT 2 (gsC (gN 8) (gsC (gN 9) gsN))) (eV 1))
  (sRet (eTup (eCons (e2 dAddA (e2 dAddA (e2 dMulA (eVB 2) (eVB 8)) (e2 dMulA (eVB 3) (eVB 9))) (eVB 6)) (eCons (e2 dAddA (e2 dAddA (e2 dMulA (eVB 4) (eVB 8)) (e2 dMulA (eVB 5) (eVB 9))) (eVB 7)) eNil))))))
noncomputable def ev_sent_to : List D → Option S := runB 2 10 bd_sent_to

noncomputable def bd_plan_after : Ev → Option Out :=
  (sSeq (sAsg (gT 6 (gsC (gN 2) (gsC (gN 3) (gsC (gN 4) (gsC (gN 5) (gsC (gN 6) (gsC (gN 7) gsN))))))) (eV 0))
  (sSeq (sSet 8 (sd (eCl ev_sent_to (eCons (e2 dAddA (eSlA (eVB 1) eNoPart (ePart (eC (.int 4)))) (eTup (eCons (eC (.int 0)) (eCons (eC (.int 0)) eNil)))) (eCons (eTup (eCons (eV 2) (eCons (eV 4) eNil))) eNil)))))
  (sSeq (sSet 9 (sd (eCl ev_sent_to (eCons (e2 dAddA (eSlA (eVB 1) eNoPart (ePart (eC (.int 4)))) (eTup (eCons (eC (.int 0)) (eCons (eC (.int 0)) eNil)))) (eCons (eTup (eCons (eV 3) (eCons (eV 5) eNil))) eNil)))))
  (sSeq (sSet 10 (sd (eCl ev_sent_to (eCons (eV 1) (eCons (eTup (eCons (eV 6) (eCons (eV 7) eNil))) eNil)))))
  (sRet (eTup (eCons (e2 dIx (eVB 8) (eC (.int 0))) (eCons (e2 dIx (eVB 9) (eC (.int 0))) (eCons (e2 dIx (eVB 8) (eC (.int 1))) (eCons (e2 dIx (eVB 9) (eC (.int 1))) (eCons (e2 dIx (eVB 10) (eC (.int 0))) (eCons (e2 dIx (eVB 10) (eC (.int 1))) eNil))))))))))))
noncomputable def ev_plan_after : List D → Option S := runB 2 11 bd_plan_after

noncomputable def bd__law_sent : Ev → Option Out :=
  (sSeq (sAsg (gT 6 (gsC (gN 2) (gsC (gN 3) (gsC (gN 4) (gsC (gN 5) (gsC (gN 6) (gsC (gN 7) gsN))))))) (eV 0))
  (sRet (eTup (eCons (e2 dAddA (e2 dAddA (e2 dMulA (eVB 2) (e2 dIx (eVB 1) (eC (.int 0)))) (e2 dMulA (eVB 3) (e2 dIx (eVB 1) (eC (.int 1))))) (eVB 6)) (eCons (e2 dAddA (e2 dAddA (e2 dMulA (eVB 4) (e2 dIx (eVB 1) (eC (.int 0)))) (e2 dMulA (eVB 5) (e2 dIx (eVB 1) (eC (.int 1))))) (eVB 7)) eNil)))))
noncomputable def ev__law_sent : List D → Option S := runB 2 8 bd__law_sent

noncomputable def bd__law_after : Ev → Option Out :=
  (sSeq (sAsg (gT 2 (gsC (gN 2) (gsC (gN 3) gsN))) (sd (eCl ev__law_sent (eCons (eV 1) (eCons (sd (eCl ev__law_sent (eCons (eV 0) (eCons (eTup (eCons (eC (.int 0)) (eCons (eC (.int 0)) eNil))) eNil)))) eNil)))))
  (sSeq (sSet 4 (sd (eCl ev__law_sent (eCons (eV 1) (eCons (sd (eCl ev__law_sent (eCons (eV 0) (eCons (eTup (eCons (eC (.int 1)) (eCons (eC (.int 0)) eNil))) eNil)))) eNil)))))
  (sSeq (sSet 5 (sd (eCl ev__law_sent (eCons (eV 1) (eCons (sd (eCl ev__law_sent (eCons (eV 0) (eCons (eTup (eCons (eC (.int 0)) (eCons (eC (.int 1)) eNil))) eNil)))) eNil)))))
  (sRet (eTup (eCons (e2 dSub (e2 dIx (eVB 4) (eC (.int 0))) (eVB 2)) (eCons (e2 dSub (e2 dIx (eVB 5) (eC (.int 0))) (eVB 2)) (eCons (e2 dSub (e2 dIx (eVB 4) (eC (.int 1))) (eVB 3)) (eCons (e2 dSub (e2 dIx (eVB 5) (eC (.int 1))) (eVB 3)) (eCons (eV 2) (eCons (eV 3) eNil)))))))))))
noncomputable def ev__law_after : List D → Option S := runB 2 6 bd__law_after

noncomputable def bd__law_plan : Ev → Option Out :=
  (sSeq (sSet 1 (e2 dMod (eCall cInt (eCons (e2 dIx (eVB 0) (eC (.int 0))) eNil)) (eC (.int 8))))
  (sSeq (sSet 2 (e2 dIx (eTup (eCons (eC (.int 5)) (eCons (eC (.int 9)) (eCons (eC (.int 3)) (eCons (eC (.int 1999)) eNil))))) (e2 dMod (eCall cInt (eCons (e2 dIx (eVB 0) (eC (.int 1))) eNil)) (eC (.int 4)))))
  (sSeq (sAsg (gT 6 (gsC (gN 3) (gsC (gN 4) (gsC (gN 5) (gsC (gN 6) (gsC (gN 7) (gsC (gN 8) gsN))))))) (sd (eLc [9] (eIt (eSlA (eVB 0) (ePart (eC (.int 2))) (ePart (eC (.int 8))))) (gN 9) cYes (e2 dSub (e2 dMod (eCall cInt (eCons (eVB 9) eNil)) (eVB 2)) (e2 dFdiv (eVB 2) (eC (.int 2)))))))
  (sSeq (sIf (tE (e2 dEq (eVB 1) (eC (.int 0)))) (sRet (eTup (eCons (eV 3) (eCons (eV 4) (eCons (e2 dMulA (eC (.int 2)) (eVB 3)) (eCons (e2 dMulA (eC (.int 2)) (eVB 4)) (eCons (eV 7) (eCons (eV 8) eNil)))))))) sNil)
  (sSeq (sIf (tE (e2 dEq (eVB 1) (eC (.int 1)))) (sRet (eTup (eCons (e2 dMulA (eVB 3) (eVB 4)) (eCons (e2 dMulA (eVB 3) (eVB 5)) (eCons (e2 dMulA (eVB 4) (eVB 6)) (eCons (e2 dMulA (eVB 5) (eVB 6)) (eCons (eV 7) (eCons (eV 8) eNil)))))))) sNil)
  (sSeq (sIf (tE (e2 dEq (eVB 1) (eC (.int 2)))) (sRet (sd (eCl ev__law_after (eCons (sd (eCl ev__law_after (eCons (eTup (eCons (eC (.int 1)) (eCons (eV 3) (eCons (eC (.int 0)) (eCons (eC (.int 1)) (eCons (eV 7) (eCons (eV 8) eNil))))))) (eCons (eTup (eCons (eC (.int 1)) (eCons (eC (.int 0)) (eCons (eV 4) (eCons (eC (.int 1)) (eCons (eC (.int 0)) (eCons (eC (.int 0)) eNil))))))) eNil)))) (eCons (eTup (eCons (eC (.int 0)) (eCons (eC (.int 1)) (eCons (eC (.int 1)) (eCons (eC (.int 0)) (eCons (eV 5) (eCons (eV 6) eNil))))))) eNil))))) sNil)
  (sSeq (sIf (tE (e2 dEq (eVB 1) (eC (.int 3)))) (sRet (sd (eCl ev__law_after (eCons (eTup (eCons (eC (.int 0)) (eCons (e2 dSub (eC (.int 0)) (eC (.int 1))) (eCons (eC (.int 1)) (eCons (eC (.int 0)) (eCons (eV 7) (eCons (eV 8) eNil))))))) (eCons (sd (eCl ev__law_after (eCons (eTup (eCons (eC (.int 1)) (eCons (eV 5) (eCons (eC (.int 0)) (eCons (eC (.int 1)) (eCons (eC (.int 0)) (eCons (eC (.int 0)) eNil))))))) (eCons (eTup (eCons (eC (.int 1)) (eCons (eC (.int 0)) (eCons (eV 6) (eCons (eC (.int 1)) (eCons (eC (.int 0)) (eCons (eC (.int 0)) eNil))))))) eNil)))) eNil))))) sNil)
  (sSeq (sIf (tE (e2 dEq (eVB 1) (eC (.int 4)))) (sRet (eTup (eCons (e2 dMulA (eC (.int 2)) (eVB 3)) (eCons (e2 dMulA (eC (.int 2)) (eVB 4)) (eCons (e2 dMulA (eC (.int 2)) (eVB 5)) (eCons (e2 dMulA (eC (.int 2)) (eVB 6)) (eCons (eV 7) (eCons (eV 8) eNil)))))))) sNil)
  (sSeq (sIf (tE (e2 dEq (eVB 1) (eC (.int 5)))) (sRet (eTup (eCons (e2 dMulA (eVB 3) (eC (.int 99991))) (eCons (e2 dMulA (eVB 4) (eC (.int 99))) (eCons (eV 5) (eCons (e2 dMulA (eVB 6) (eC (.int 500))) (eCons (eV 7) (eCons (eV 8) eNil)))))))) sNil)
  (sSeq (sIf (tE (e2 dEq (eVB 1) (eC (.int 6)))) (sRet (eTup (eCons (e2 dIx (eTup (eCons (eV 3) (eCons (eC (.int 0)) eNil))) (e2 dMod (e2 dFdiv (eCall cInt (eCons (e2 dIx (eVB 0) (eC (.int 1))) eNil)) (eC (.int 4))) (eC (.int 2)))) (eCons (eC (.int 0)) (eCons (eC (.int 0)) (eCons (e2 dIx (eTup (eCons (eC (.int 0)) (eCons (eV 6) eNil))) (e2 dMod (e2 dFdiv (eCall cInt (eCons (e2 dIx (eVB 0) (eC (.int 1))) eNil)) (eC (.int 8))) (eC (.int 2)))) (eCons (eV 7) (eCons (eV 8) eNil)))))))) sNil)
  (sRet (eTup (eCons (eV 3) (eCons (eV 4) (eCons (eV 5) (eCons (eV 6) (eCons (eV 7) (eCons (eV 8) eNil))))))))))))))))))
noncomputable def ev__law_plan : List D → Option S := runB 1 10 bd__law_plan

noncomputable def bd__law_fits : Ev → Option Out :=
  (sRet (eCall cTuple (eCons (sd (eLc [1] (eIt (eVB 0)) (gN 1) cYes (eCall cMax (eCons (e2 dSub (eC (.int 9)) (e2 dPow (eC (.int 10)) (eC (.int 6)))) (eCons (eCall cMin (eCons (e2 dSub (e2 dPow (eC (.int 10)) (eC (.int 6))) (eC (.int 9))) (eCons (eVB 1) eNil))) eNil))))) eNil)))
noncomputable def ev__law_fits : List D → Option S := runB 1 2 bd__law_fits

noncomputable def bd_area_of : Ev → Option Out :=
  (sRet (e2 dSub (e2 dMulA (e2 dIx (eVB 0) (eC (.int 0))) (e2 dIx (eVB 0) (eC (.int 3)))) (e2 dMulA (e2 dIx (eVB 0) (eC (.int 1))) (e2 dIx (eVB 0) (eC (.int 2))))))
noncomputable def ev_area_of : List D → Option S := runB 1 1 bd_area_of

noncomputable def bd_solved : Ev → Option Out :=
  (sSeq (sAsg (gT 4 (gsC (gN 3) (gsC (gN 4) (gsC (gN 5) (gsC (gN 6) gsN))))) (eSlA (eVB 0) eNoPart (ePart (eC (.int 4)))))
  (sSeq (sSet 7 (sd (eCl ev_area_of (eCons (eV 0) eNil))))
  (sSeq (sSet 8 (e2 dSub (e2 dMulA (eVB 6) (eVB 1)) (e2 dMulA (eVB 4) (eVB 2))))
  (sSeq (sSet 9 (e2 dSub (e2 dMulA (eVB 3) (eVB 2)) (e2 dMulA (eVB 5) (eVB 1))))
  (sSeq (sIf (tE (e2 dNe (e2 dMod (eVB 8) (eVB 7)) (eC (.int 0)))) (sRet (eTup (eCons (eC .non) (eCons (eTup (eCons (eV 6) (eCons (e1 dNeg (eV 4)) (eCons (eCall cAbs (eCons (eVB 7) eNil)) eNil)))) eNil)))) sNil)
  (sSeq (sIf (tE (e2 dNe (e2 dMod (eVB 9) (eVB 7)) (eC (.int 0)))) (sRet (eTup (eCons (eC .non) (eCons (eTup (eCons (e1 dNeg (eV 5)) (eCons (eV 3) (eCons (eCall cAbs (eCons (eVB 7) eNil)) eNil)))) eNil)))) sNil)
  (sRet (eTup (eCons (eTup (eCons (e2 dFdiv (eVB 8) (eVB 7)) (eCons (e2 dFdiv (eVB 9) (eVB 7)) eNil))) (eCons (eC .non) eNil))))))))))
noncomputable def ev_solved : List D → Option S := runB 3 10 bd_solved

noncomputable def bd_bezout : Ev → Option Out :=
  (sSeq (sSet 2 (eTup (eCons (eV 0) (eCons (eC (.int 1)) (eCons (eC (.int 0)) eNil)))))
  (sSeq (sSet 3 (eTup (eCons (eV 1) (eCons (eC (.int 0)) (eCons (eC (.int 1)) eNil)))))
  (sSeq (sWhile 100000000 (tE (e2 dNe (e2 dIx (eVB 3) (eC (.int 0))) (eC (.int 0)))) (sSeq (sSet 4 (e2 dFdiv (e2 dIx (eVB 2) (eC (.int 0))) (e2 dIx (eVB 3) (eC (.int 0)))))
  (sSeq (sSet 5 (eCall cTuple (eCons (sd (eLc [6] (eRng1 (eCons (eC (.int 3)) eNil)) (gN 6) cYes (e2 dSub (e2 dIx (eVB 2) (eVB 6)) (e2 dMulA (eVB 4) (e2 dIx (eVB 3) (eVB 6)))))) eNil)))
  (sSeq (sSet 2 (eV 3))
  (sSet 3 (eV 5))))))
  (sSeq (sIf (tE (e2 dLt (e2 dIx (eVB 2) (eC (.int 0))) (eC (.int 0)))) (sSet 2 (eTup (eCons (e1 dNeg (e2 dIx (eVB 2) (eC (.int 0)))) (eCons (e1 dNeg (e2 dIx (eVB 2) (eC (.int 1)))) (eCons (e1 dNeg (e2 dIx (eVB 2) (eC (.int 2)))) eNil))))) sNil)
  (sRet (eV 2))))))
noncomputable def ev_bezout : List D → Option S := runB 2 7 bd_bezout

noncomputable def bd_normal_of : Ev → Option Out :=
  (sSeq (sAsg (gT 4 (gsC (gN 2) (gsC (gN 3) (gsC (gN 4) (gsC (gN 5) gsN))))) (eSlA (eVB 0) eNoPart (ePart (eC (.int 4)))))
  (sSeq (sIf (tE (e2 dNe (eTup (eCons (eV 2) (eCons (eV 4) eNil))) (eTup (eCons (eC (.int 0)) (eCons (eC (.int 0)) eNil))))) (sRet (eTup (eCons (eV 4) (eCons (e1 dNeg (eV 2)) eNil)))) sNil)
  (sSeq (sIf (tE (e2 dNe (eTup (eCons (eV 3) (eCons (eV 5) eNil))) (eTup (eCons (eC (.int 0)) (eCons (eC (.int 0)) eNil))))) (sRet (eTup (eCons (eV 5) (eCons (e1 dNeg (eV 3)) eNil)))) sNil)
  (sRet (eIf (tE (e2 dNe (eVB 1) (eC (.int 0)))) (eTup (eCons (eC (.int 1)) (eCons (eC (.int 0)) eNil))) (eTup (eCons (eC (.int 0)) (eCons (eC (.int 1)) eNil))))))))
noncomputable def ev_normal_of : List D → Option S := runB 2 6 bd_normal_of

noncomputable def bd_solved_flat : Ev → Option Out :=
  (sSeq (sAsg (gT 4 (gsC (gN 3) (gsC (gN 4) (gsC (gN 5) (gsC (gN 6) gsN))))) (eSlA (eVB 0) eNoPart (ePart (eC (.int 4)))))
  (sSeq (sAsg (gT 2 (gsC (gN 7) (gsC (gN 8) gsN))) (sd (eCl ev_normal_of (eCons (eV 0) (eCons (eV 1) eNil)))))
  (sSeq (sSet 9 (e2 dAddA (e2 dMulA (eVB 7) (eVB 1)) (e2 dMulA (eVB 8) (eVB 2))))
  (sSeq (sIf (tE (e2 dNe (eVB 9) (eC (.int 0)))) (sRet (eTup (eCons (eC .non) (eCons (eTup (eCons (eV 7) (eCons (eV 8) (eCons (e2 dAddA (eCall cAbs (eCons (eVB 9) eNil)) (eC (.int 1))) eNil)))) eNil)))) sNil)
  (sSeq (sIf (tE (e2 dEq (eTup (eCons (eV 3) (eCons (eV 4) (eCons (eV 5) (eCons (eV 6) eNil))))) (eTup (eCons (eC (.int 0)) (eCons (eC (.int 0)) (eCons (eC (.int 0)) (eCons (eC (.int 0)) eNil))))))) (sRet (eTup (eCons (eTup (eCons (eC (.int 0)) (eCons (eC (.int 0)) eNil))) (eCons (eC .non) eNil)))) sNil)
  (sSeq (sSet 10 (e2 dIx (sd (eCl ev_bezout (eCons (eV 7) (eCons (eV 8) eNil)))) (eC (.int 0))))
  (sSeq (sSet 11 (eTup (eCons (e2 dFdiv (e1 dNeg (eV 8)) (eVB 10)) (eCons (e2 dFdiv (eVB 7) (eVB 10)) eNil))))
  (sSeq (sSet 12 (eIf (tE (e2 dNe (e2 dIx (eVB 11) (eC (.int 0))) (eC (.int 0)))) (eC (.int 0)) (eC (.int 1))))
  (sSeq (sPar 13 14 (eCons (e2 dFdiv (e2 dIx (eVB 0) (e2 dMulA (eC (.int 2)) (eVB 12))) (e2 dIx (eVB 11) (eVB 12))) (eCons (e2 dFdiv (e2 dIx (eVB 0) (e2 dAddA (e2 dMulA (eC (.int 2)) (eVB 12)) (eC (.int 1)))) (e2 dIx (eVB 11) (eVB 12))) eNil)))
  (sSeq (sSet 15 (e2 dFdiv (e2 dIx (eTup (eCons (eV 1) (eCons (eV 2) eNil))) (eVB 12)) (e2 dIx (eVB 11) (eVB 12))))
  (sSeq (sAsg (gT 3 (gsC (gN 16) (gsC (gN 17) (gsC (gN 18) gsN)))) (sd (eCl ev_bezout (eCons (eV 13) (eCons (eV 14) eNil)))))
  (sSeq (sIf (tE (e2 dEq (e2 dMod (eVB 15) (eVB 16)) (eC (.int 0)))) (sSeq (sSet 19 (e2 dFdiv (eVB 15) (eVB 16)))
  (sRet (eTup (eCons (eTup (eCons (e2 dMulA (eVB 17) (eVB 19)) (eCons (e2 dMulA (eVB 18) (eVB 19)) eNil))) (eCons (eC .non) eNil))))) sNil)
  (sSeq (sAsg (gT 3 (gsC (gN 20) (gsC (gN 21) (gsC (gN 22) gsN)))) (sd (eCl ev_bezout (eCons (e2 dIx (eVB 11) (eC (.int 0))) (eCons (e2 dIx (eVB 11) (eC (.int 1))) eNil)))))
  (sRet (eTup (eCons (eC .non) (eCons (eTup (eCons (eV 21) (eCons (eV 22) (eCons (eV 16) eNil)))) eNil)))))))))))))))))
noncomputable def ev_solved_flat : List D → Option S := runB 3 23 bd_solved_flat

noncomputable def bd_source_and_bar : Ev → Option Out :=
  (sSeq (sPar 2 3 (eCons (e2 dSub (e2 dIx (eVB 1) (eC (.int 0))) (e2 dIx (eVB 0) (eC (.int 4)))) (eCons (e2 dSub (e2 dIx (eVB 1) (eC (.int 1))) (e2 dIx (eVB 0) (eC (.int 5)))) eNil)))
  (sSeq (sIf (tE (e2 dEq (sd (eCl ev_area_of (eCons (eV 0) eNil))) (eC (.int 0)))) (sRet (sd (eCl ev_solved_flat (eCons (eV 0) (eCons (eV 2) (eCons (eV 3) eNil)))))) sNil)
  (sRet (sd (eCl ev_solved (eCons (eV 0) (eCons (eV 2) (eCons (eV 3) eNil))))))))
noncomputable def ev_source_and_bar : List D → Option S := runB 2 4 bd_source_and_bar

noncomputable def bd_source_of : Ev → Option Out :=
  (sRet (e2 dIx (sd (eCl ev_source_and_bar (eCons (eV 0) (eCons (eV 1) eNil)))) (eC (.int 0))))
noncomputable def ev_source_of : List D → Option S := runB 2 2 bd_source_of

noncomputable def bd_undoing : Ev → Option Out :=
  (sSeq (sAsg (gT 6 (gsC (gN 1) (gsC (gN 2) (gsC (gN 3) (gsC (gN 4) (gsC (gN 5) (gsC (gN 6) gsN))))))) (eV 0))
  (sSeq (sSet 7 (sd (eCl ev_area_of (eCons (eV 0) eNil))))
  (sSeq (sIf (tE (e2 dNe (eCall cAbs (eCons (eVB 7) eNil)) (eC (.int 1)))) (sRet (eC .non)) sNil)
  (sSeq (sSet 8 (eTup (eCons (e2 dMulA (eVB 7) (eVB 4)) (eCons (e2 dMulA (e1 dNeg (eV 7)) (eVB 2)) (eCons (e2 dMulA (e1 dNeg (eV 7)) (eVB 3)) (eCons (e2 dMulA (eVB 7) (eVB 1)) (eCons (eC (.int 0)) (eCons (eC (.int 0)) eNil))))))))
  (sSeq (sAsg (gT 2 (gsC (gN 9) (gsC (gN 10) gsN))) (sd (eCl ev_sent_to (eCons (eV 8) (eCons (eTup (eCons (eV 5) (eCons (eV 6) eNil))) eNil)))))
  (sRet (e2 dAddA (eSlA (eVB 8) eNoPart (ePart (eC (.int 4)))) (eTup (eCons (e1 dNeg (eV 9)) (eCons (e1 dNeg (eV 10)) eNil))))))))))
noncomputable def ev_undoing : List D → Option S := runB 1 11 bd_undoing

noncomputable def bd_missed_point : Ev → Option Out :=
  (sSeq (sFor (eIt (sd (eLst (eCons (eTup (eCons (e2 dAddA (e2 dIx (eVB 0) (eC (.int 4))) (eC (.int 1))) (eCons (e2 dIx (eVB 0) (eC (.int 5))) eNil))) (eCons (eTup (eCons (e2 dIx (eVB 0) (eC (.int 4))) (eCons (e2 dAddA (e2 dIx (eVB 0) (eC (.int 5))) (eC (.int 1))) eNil))) eNil))))) (gN 1) (sIf (tE (e2 dIsN (sd (eCl ev_source_of (eCons (eV 0) (eCons (eV 1) eNil)))) (eC .non))) (sRet (eV 1)) sNil))
  (sRet (eC .non)))
noncomputable def ev_missed_point : List D → Option S := runB 1 2 bd_missed_point

noncomputable def bd_bar_of : Ev → Option Out :=
  (sRet (e2 dIx (sd (eCl ev_source_and_bar (eCons (eV 0) (eCons (eV 1) eNil)))) (eC (.int 1))))
noncomputable def ev_bar_of : List D → Option S := runB 2 2 bd_bar_of

noncomputable def bd__law_is_bar : Ev → Option Out :=
  (sSeq (sAsg (gT 6 (gsC (gN 3) (gsC (gN 4) (gsC (gN 5) (gsC (gN 6) (gsC (gN 7) (gsC (gN 8) gsN))))))) (eV 0))
  (sSeq (sAsg (gT 3 (gsC (gN 9) (gsC (gN 10) (gsC (gN 11) gsN)))) (eV 2))
  (sSeq (sIf (tOr' (tE (e2 dLt (eVB 11) (eC (.int 1)))) (tOr' (tE (e2 dGt (e2 dMod (eCall cInt (eCons (e2 dAddA (e2 dMulA (eVB 9) (eVB 3)) (e2 dMulA (eVB 10) (eVB 5))) eNil)) (eVB 11)) (eC (.int 0)))) (tE (e2 dGt (e2 dMod (eCall cInt (eCons (e2 dAddA (e2 dMulA (eVB 9) (eVB 4)) (e2 dMulA (eVB 10) (eVB 6))) eNil)) (eVB 11)) (eC (.int 0)))))) (sRet (eC (.bl false))) sNil)
  (sRet (e2 dGt (e2 dMod (eCall cInt (eCons (e2 dAddA (e2 dMulA (eVB 9) (e2 dSub (e2 dIx (eVB 1) (eC (.int 0))) (eVB 7))) (e2 dMulA (eVB 10) (e2 dSub (e2 dIx (eVB 1) (eC (.int 1))) (eVB 8)))) eNil)) (eVB 11)) (eC (.int 0)))))))
noncomputable def ev__law_is_bar : List D → Option S := runB 3 12 bd__law_is_bar

noncomputable def bd__law_judged : Ev → Option Out :=
  (sSeq (sSet 2 (sd (eCl ev_source_of (eCons (eV 0) (eCons (eV 1) eNil)))))
  (sSeq (sSet 3 (sd (eCl ev_bar_of (eCons (eV 0) (eCons (eV 1) eNil)))))
  (sSeq (sIf (tE (e2 dEq (e2 dIsN (eVB 2) (eC .non)) (e2 dIsN (eVB 3) (eC .non)))) (sRet (eC (.bl false))) sNil)
  (sSeq (sIf (tE (e2 dNotN (eVB 2) (eC .non))) (sRet (eAn (sd (eCl ev__law_is_integers (eCons (eV 2) eNil))) (eAn (e2 dEq (eCall cLen (eCons (eVB 2) eNil)) (eC (.int 2))) (e2 dEq (sd (eCl ev__law_sent (eCons (eV 0) (eCons (eV 2) eNil)))) (eVB 1))))) sNil)
  (sRet (eAn (sd (eCl ev__law_is_integers (eCons (eV 3) eNil))) (eAn (e2 dEq (eCall cLen (eCons (eVB 3) eNil)) (eC (.int 3))) (sd (eCl ev__law_is_bar (eCons (eV 0) (eCons (eV 1) (eCons (eV 3) eNil))))))))))))
noncomputable def ev__law_judged : List D → Option S := runB 2 4 bd__law_judged

noncomputable def bd_is_bar : Ev → Option Out :=
  (sSeq (sAsg (gT 6 (gsC (gN 3) (gsC (gN 4) (gsC (gN 5) (gsC (gN 6) (gsC (gN 7) (gsC (gN 8) gsN))))))) (eV 0))
  (sSeq (sAsg (gT 3 (gsC (gN 9) (gsC (gN 10) (gsC (gN 11) gsN)))) (eV 2))
  (sSeq (sIf (tOr' (tE (e2 dLt (eVB 11) (eC (.int 1)))) (tOr' (tE (e2 dNe (e2 dMod (e2 dAddA (e2 dMulA (eVB 9) (eVB 3)) (e2 dMulA (eVB 10) (eVB 5))) (eVB 11)) (eC (.int 0)))) (tE (e2 dNe (e2 dMod (e2 dAddA (e2 dMulA (eVB 9) (eVB 4)) (e2 dMulA (eVB 10) (eVB 6))) (eVB 11)) (eC (.int 0)))))) (sRet (eC (.bl false))) sNil)
  (sRet (e2 dNe (e2 dMod (e2 dAddA (e2 dMulA (eVB 9) (e2 dSub (e2 dIx (eVB 1) (eC (.int 0))) (eVB 7))) (e2 dMulA (eVB 10) (e2 dSub (e2 dIx (eVB 1) (eC (.int 1))) (eVB 8)))) (eVB 11)) (eC (.int 0)))))))
noncomputable def ev_is_bar : List D → Option S := runB 3 12 bd_is_bar

noncomputable def bd__law_asked : Ev → Option Out :=
  (sSeq (sSet 3 (sd (eCl ev_bar_of (eCons (eV 0) (eCons (eV 1) eNil)))))
  (sSeq (sAsg (gT 3 (gsC (gN 4) (gsC (gN 5) (gsC (gN 6) gsN)))) (eIf (tE (e2 dNotN (eVB 3) (eC .non))) (eV 3) (eTup (eCons (e2 dSub (e2 dMod (eCall cInt (eCons (e2 dIx (eVB 2) (eC (.int 0))) eNil)) (eC (.int 5))) (eC (.int 2))) (eCons (e2 dSub (e2 dMod (eCall cInt (eCons (e2 dIx (eVB 2) (eC (.int 1))) eNil)) (eC (.int 5))) (eC (.int 2))) (eCons (e2 dAddA (e2 dMod (eCall cInt (eCons (e2 dIx (eVB 2) (eC (.int 2))) eNil)) (eC (.int 9))) (eC (.int 1))) eNil))))))
  (sSeq (sSet 7 (e2 dSub (e2 dMod (eCall cInt (eCons (e2 dIx (eVB 2) (eC (.int 3))) eNil)) (eC (.int 5))) (eC (.int 2))))
  (sSeq (sOwn 8 (eLst (eCons (eTup (eCons (eV 4) (eCons (eV 5) (eCons (eV 6) eNil)))) (eCons (eTup (eCons (eV 4) (eCons (eV 5) (eCons (e2 dAddA (eVB 6) (eVB 7)) eNil)))) (eCons (eTup (eCons (e2 dAddA (eVB 4) (eVB 7)) (eCons (eV 5) (eCons (eV 6) eNil)))) (eCons (eTup (eCons (eV 4) (eCons (e2 dAddA (eVB 5) (eVB 7)) (eCons (eV 6) eNil)))) (eCons (eTup (eCons (eV 4) (eCons (eV 5) (eCons (e2 dSub (eC (.int 0)) (eVB 6)) eNil)))) (eCons (eTup (eCons (eV 4) (eCons (eV 5) (eCons (eC (.int 0)) eNil)))) (eCons (eTup (eCons (eV 4) (eCons (eV 5) (eCons (eC (.int 1)) eNil)))) eNil)))))))))
  (sSeq (sOwn 8 (e2F fCat (eVB 8) (sd (eLst (eCons (eTup (eCons (e2 dMulA (eC (.int 2)) (eVB 4)) (eCons (e2 dMulA (eC (.int 2)) (eVB 5)) (eCons (e2 dMulA (eC (.int 2)) (eVB 6)) eNil)))) (eCons (eTup (eCons (eV 4) (eCons (eV 5) (eCons (e2 dMulA (eC (.int 2)) (eVB 6)) eNil)))) (eCons (eTup (eCons (e2 dAddA (eVB 4) (eVB 6)) (eCons (e2 dSub (eVB 5) (e2 dMulA (eC (.int 3)) (eVB 6))) (eCons (eV 6) eNil)))) (eCons (eTup (eCons (eV 5) (eCons (eV 4) (eCons (eV 6) eNil)))) (eCons (eTup (eCons (eC (.int 0)) (eCons (eC (.int 0)) (eCons (eV 6) eNil)))) eNil)))))))))
  (sSeq (sApp 8 (eTup (eCons (e2 dPow (eC (.int 10)) (eC (.int 20))) (eCons (eC (.int 1)) (eCons (e2 dPow (eC (.int 10)) (eC (.int 20))) eNil)))))
  (sSeq (sOwn 8 (e2F fCat (eVB 8) (sd (eLst (eCons (eTup (eCons (e2 dIx (eVB 0) (eC (.int 3))) (eCons (e2 dSub (eC (.int 0)) (e2 dIx (eVB 0) (eC (.int 1)))) (eCons (e2 dAddA (eCall cAbs (eCons (eVB 7) eNil)) (eC (.int 2))) eNil)))) (eCons (eTup (eCons (e2 dSub (eC (.int 0)) (e2 dIx (eVB 0) (eC (.int 2)))) (eCons (e2 dIx (eVB 0) (eC (.int 0))) (eCons (eV 6) eNil)))) (eCons (eTup (eCons (eC (.int 1)) (eCons (eC (.int 0)) (eCons (eC (.int 2)) eNil)))) (eCons (eTup (eCons (eC (.int 0)) (eCons (eC (.int 1)) (eCons (eC (.int 3)) eNil)))) eNil))))))))
  (sRet (eCall cAll (eCons (sd (eLc [9] (eIt (eVB 8)) (gN 9) cYes (sd (eCl (ev__law_is 20) (eCons (sd (eCl ev_is_bar (eCons (eV 0) (eCons (eV 1) (eCons (eV 9) eNil))))) (eCons (sd (eCl ev__law_is_bar (eCons (eV 0) (eCons (eV 1) (eCons (eV 9) eNil))))) eNil)))))) eNil))))))))))
noncomputable def ev__law_asked : List D → Option S := runB 3 10 bd__law_asked

noncomputable def bd__law_right : Ev → Option Out :=
  (sSeq (sSet 3 (e2 dSub (e2 dMulA (e2 dIx (eVB 0) (eC (.int 0))) (e2 dIx (eVB 0) (eC (.int 3)))) (e2 dMulA (e2 dIx (eVB 0) (eC (.int 1))) (e2 dIx (eVB 0) (eC (.int 2))))))
  (sSeq (sFor (eIt (eV 1)) (gN 4) (sSeq (sIf (tNo (tE (sd (eCl (ev__law_is 20) (eCons (sd (eCl ev_sent_to (eCons (eV 0) (eCons (eV 4) eNil)))) (eCons (sd (eCl ev__law_sent (eCons (eV 0) (eCons (eV 4) eNil)))) eNil)))))) (sRet (eC (.bl false))) sNil)
  (sIf (tOr' (tNo (tE (sd (eCl ev__law_judged (eCons (eV 0) (eCons (eV 4) eNil)))))) (tNo (tE (sd (eCl ev__law_asked (eCons (eV 0) (eCons (eV 4) (eCons (eV 2) eNil)))))))) (sRet (eC (.bl false))) sNil)))
  (sSeq (sSet 5 (sd (eCl ev_undoing (eCons (eV 0) eNil))))
  (sSeq (sIf (tE (e2 dNe (e2 dNotN (eVB 5) (eC .non)) (e2 dIn (eVB 3) (eTup (eCons (eC (.int 1)) (eCons (e2 dSub (eC (.int 0)) (eC (.int 1))) eNil)))))) (sRet (eC (.bl false))) sNil)
  (sSeq (sIf (tE (e2 dNotN (eVB 5) (eC .non))) (sSeq (sIf (tOr' (tNo (tE (sd (eCl ev__law_is_integers (eCons (eV 5) eNil))))) (tE (e2 dNe (eCall cLen (eCons (eVB 5) eNil)) (eC (.int 6))))) (sRet (eC (.bl false))) sNil)
  (sIf (tOr' (tE (e2 dNe (sd (eCl ev__law_after (eCons (eV 0) (eCons (eV 5) eNil)))) (eTup (eCons (eC (.int 1)) (eCons (eC (.int 0)) (eCons (eC (.int 0)) (eCons (eC (.int 1)) (eCons (eC (.int 0)) (eCons (eC (.int 0)) eNil))))))))) (tE (e2 dNe (sd (eCl ev__law_after (eCons (eV 5) (eCons (eV 0) eNil)))) (eTup (eCons (eC (.int 1)) (eCons (eC (.int 0)) (eCons (eC (.int 0)) (eCons (eC (.int 1)) (eCons (eC (.int 0)) (eCons (eC (.int 0)) eNil)))))))))) (sRet (eC (.bl false))) sNil)) sNil)
  (sSeq (sSet 6 (eC .non))
  (sSeq (sFor (eIt (eTup (eCons (eTup (eCons (e2 dIx (eVB 0) (eC (.int 4))) (eCons (e2 dAddA (e2 dIx (eVB 0) (eC (.int 5))) (eC (.int 1))) eNil))) (eCons (eTup (eCons (e2 dAddA (e2 dIx (eVB 0) (eC (.int 4))) (eC (.int 1))) (eCons (e2 dIx (eVB 0) (eC (.int 5))) eNil))) eNil)))) (gN 4) (sSeq (sIf (tNo (tE (sd (eCl ev__law_judged (eCons (eV 0) (eCons (eV 4) eNil)))))) (sRet (eC (.bl false))) sNil)
  (sIf (tE (e2 dIsN (sd (eCl ev_source_of (eCons (eV 0) (eCons (eV 4) eNil)))) (eC .non))) (sSet 6 (eV 4)) sNil)))
  (sRet (eAn (sd (eCl (ev__law_is 20) (eCons (sd (eCl ev_missed_point (eCons (eV 0) eNil))) (eCons (eV 6) eNil)))) (e2 dEq (e2 dIsN (eVB 6) (eC .non)) (e2 dNotN (eVB 5) (eC .non))))))))))))
noncomputable def ev__law_right : List D → Option S := runB 3 7 bd__law_right

noncomputable def bd_law : Ev → Option Out :=
  (sSeq (sFor (eRng1 (eCons (eC (.int 4)) eNil)) (gN 1) (sSeq (sSet 2 (sd (eCl ev__law_draws (eCons (sd (eCl ev__law_cell (eCons (eV 0) (eCons (e2 dMulA (eC (.int 2)) (eVB 1)) eNil)))) (eCons (eC (.int 30)) eNil)))))
  (sSeq (sSet 3 (sd (eCl ev__law_draws (eCons (sd (eCl ev__law_cell (eCons (eV 0) (eCons (e2 dAddA (e2 dMulA (eC (.int 2)) (eVB 1)) (eC (.int 1))) eNil)))) (eCons (eC (.int 8)) eNil)))))
  (sSeq (sSet 4 (sd (eCl ev__law_fits (eCons (sd (eCl ev__law_plan (eCons (eV 2) eNil))) eNil))))
  (sSeq (sSet 5 (sd (eCl ev__law_fits (eCons (sd (eCl ev__law_plan (eCons (eV 3) eNil))) eNil))))
  (sSeq (sIf (tNo (tE (sd (eCl (ev__law_is 20) (eCons (sd (eCl ev_plan_after (eCons (eV 4) (eCons (eV 5) eNil)))) (eCons (sd (eCl ev__law_after (eCons (eV 4) (eCons (eV 5) eNil)))) eNil)))))) (sRet (eC (.bl false))) sNil)
  (sSeq (sIf (tNo (tE (sd (eCl (ev__law_is 20) (eCons (sd (eCl ev_plan_after (eCons (eV 5) (eCons (eV 4) eNil)))) (eCons (sd (eCl ev__law_after (eCons (eV 5) (eCons (eV 4) eNil)))) eNil)))))) (sRet (eC (.bl false))) sNil)
  (sSeq (sSet 6 (eTup (eCons (e2 dSub (e2 dMod (eCall cInt (eCons (e2 dIx (eVB 2) (eC (.int 8))) eNil)) (eC (.int 9))) (eC (.int 4))) (eCons (e2 dSub (e2 dMod (eCall cInt (eCons (e2 dIx (eVB 2) (eC (.int 9))) eNil)) (eC (.int 9))) (eC (.int 4))) eNil))))
  (sSeq (sSet 7 (sd (eCl ev__law_fits (eCons (sd (eCl ev__law_sent (eCons (eV 4) (eCons (eV 6) eNil)))) eNil))))
  (sSeq (sOwn 8 (eLst (eCons (eV 7) (eCons (eTup (eCons (e2 dIx (eVB 7) (eC (.int 0))) (eCons (e2 dSub (e2 dIx (eVB 7) (eC (.int 1))) (eC (.int 1))) eNil))) (eCons (eTup (eCons (e2 dSub (eCall cInt (eCons (e2 dIx (eVB 2) (eC (.int 10))) eNil)) (eC (.int 2520))) (eCons (e2 dSub (e2 dMod (eCall cInt (eCons (e2 dIx (eVB 2) (eC (.int 11))) eNil)) (eC (.int 7))) (eC (.int 3))) eNil))) (eCons (eTup (eCons (e2 dIx (eVB 4) (eC (.int 4))) (eCons (e2 dIx (eVB 4) (eC (.int 5))) eNil))) eNil))))))
  (sSeq (sApp 8 (eTup (eCons (eCall cMax (eCons (e2 dSub (eC (.int 0)) (e2 dPow (eC (.int 10)) (eC (.int 6)))) (eCons (e2 dSub (e2 dIx (eVB 7) (eC (.int 0))) (eC (.int 2))) eNil))) (eCons (e2 dIx (eVB 7) (eC (.int 1))) eNil))))
  (sLock 8 (sIf (tOr' (tNo (tE (sd (eCl ev__law_right (eCons (eV 4) (eCons (eV 8) (eCons (eSlA (eVB 2) (ePart (eC (.int 12))) eNoPart) eNil))))))) (tNo (tE (sd (eCl ev__law_right (eCons (eV 5) (eCons (eSlA (eVB 8) (ePart (eC (.int 2))) eNoPart) (eCons (eSlA (eVB 2) (ePart (eC (.int 16))) eNoPart) eNil)))))))) (sRet (eC (.bl false))) sNil)))))))))))))
  (sSeq (sIf (tNo (tE (sd (eCl ev__law_right (eCons (eTup (eCons (eC (.int 0)) (eCons (eC (.int 0)) (eCons (eC (.int 0)) (eCons (eC (.int 0)) (eCons (eC (.int 3)) (eCons (eC (.int 4)) eNil))))))) (eCons (sd (eLst (eCons (eTup (eCons (eC (.int 3)) (eCons (eC (.int 4)) eNil))) (eCons (eTup (eCons (eC (.int 3)) (eCons (eC (.int 5)) eNil))) (eCons (eTup (eCons (eC (.int 4)) (eCons (eC (.int 4)) eNil))) eNil))))) (eCons (eTup (eCons (eC (.int 3)) (eCons (eC (.int 1)) (eCons (eC (.int 4)) (eCons (eC (.int 1)) eNil))))) eNil))))))) (sRet (eC (.bl false))) sNil)
  (sRet (sd (eCl ev__law_right (eCons (eTup (eCons (eC (.int 4)) (eCons (eC (.int 6)) (eCons (eC (.int 6)) (eCons (eC (.int 9)) (eCons (eC (.int 0)) (eCons (eC (.int 0)) eNil))))))) (eCons (sd (eLst (eCons (eTup (eCons (eC (.int 2)) (eCons (eC (.int 3)) eNil))) (eCons (eTup (eCons (eC (.int 1)) (eCons (eC (.int 0)) eNil))) (eCons (eTup (eCons (eC (.int 0)) (eCons (eC (.int 0)) eNil))) (eCons (eTup (eCons (eC (.int 4)) (eCons (eC (.int 6)) eNil))) eNil)))))) (eCons (eTup (eCons (eC (.int 1)) (eCons (eC (.int 2)) (eCons (eC (.int 3)) (eCons (eC (.int 4)) eNil))))) eNil))))))))
noncomputable def ev_law : List D → Option S := runB 1 9 bd_law

theorem sc_sent_to : FnScope ["plan", "point", "a", "b", "c", "d", "e", "f", "x", "y"] ["plan", "point"] (defScope (top 1)) := ⟨rfl, rfl, rfl, by decide +kernel, rfl, by decide +kernel, by decide +kernel⟩
theorem bi_sent_to {K : PySem.W.Frag} {f : Addr} {fd : FuncData} (F : Fun K "sent_to" "sent_to" (top 1) f fd) : Binds K fd ["plan", "point"] [] := F.binds fun _ _ _ _ _ _ us hl => match us, hl with | [_, _], _ => rfl
theorem w_sent_to {P : Program} {w : World} {K : PySem.W.Frag} {mg : Str → Option Value} {base : Heap} {f : Addr} {fd : FuncData} (F : Fun K "sent_to" "sent_to" (top 1) f fd) (hm : mg "sent_to" = some (.ref f))   : DCal P w K mg base 1 "sent_to" ev_sent_to :=
  DCal.mk' (N := ["plan", "point", "a", "b", "c", "d", "e", "f", "x", "y"]) (ps := ["plan", "point"]) (n := 2) (bd := bd_sent_to) F hm (bi_sent_to F) sc_sent_to rfl (fun cdv A outer s H E hr =>
    have hu := roomU hr
    have hu4 := roomU4 hr
    have nd := sc_sent_to.nd
    (dss_cons (ds_asg (de_v 0) (dg_tup rfl (dgs_cons (dg_name 2 nd) (dgs_cons (dg_name 3 nd) (dgs_cons (dg_name 4 nd) (dgs_cons (dg_name 5 nd) (dgs_cons (dg_name 6 nd) (dgs_cons (dg_name 7 nd) dgs_nil))))))))
  (dss_cons (ds_asg (de_v 1) (dg_tup rfl (dgs_cons (dg_name 8 nd) (dgs_cons (dg_name 9 nd) dgs_nil))))
  (dss_one (ds_ret (de_tup (da_cons (de_op od_addA (DE.tb (de_op od_addA (DE.tb (de_op od_mulA (db_v 2) (db_v 8))) (DE.tb (de_op od_mulA (db_v 3) (db_v 9))))) (db_v 6)) (da_cons (de_op od_addA (DE.tb (de_op od_addA (DE.tb (de_op od_mulA (db_v 4) (db_v 8))) (DE.tb (de_op od_mulA (db_v 5) (db_v 9))))) (db_v 7)) da_nil))))))))

theorem sc_plan_after : FnScope ["first", "second", "a", "b", "c", "d", "e", "f", "left", "right", "shift"] ["first", "second"] (defScope (top 2)) := ⟨rfl, rfl, rfl, by decide +kernel, rfl, by decide +kernel, by decide +kernel⟩
theorem bi_plan_after {K : PySem.W.Frag} {f : Addr} {fd : FuncData} (F : Fun K "plan_after" "plan_after" (top 2) f fd) : Binds K fd ["first", "second"] [] := F.binds fun _ _ _ _ _ _ us hl => match us, hl with | [_, _], _ => rfl
theorem w_plan_after {P : Program} {w : World} {K : PySem.W.Frag} {mg : Str → Option Value} {base : Heap} {f : Addr} {fd : FuncData} (F : Fun K "plan_after" "plan_after" (top 2) f fd) (hm : mg "plan_after" = some (.ref f))  (c_sent_to : DCal P w K mg base 1 "sent_to" ev_sent_to) : DCal P w K mg base 2 "plan_after" ev_plan_after :=
  DCal.mk' (N := ["first", "second", "a", "b", "c", "d", "e", "f", "left", "right", "shift"]) (ps := ["first", "second"]) (n := 2) (bd := bd_plan_after) F hm (bi_plan_after F) sc_plan_after rfl (fun cdv A outer s H E hr =>
    have hu := roomU hr
    have hu4 := roomU4 hr
    have nd := sc_plan_after.nd
    (dss_cons (ds_asg (de_v 0) (dg_tup rfl (dgs_cons (dg_name 2 nd) (dgs_cons (dg_name 3 nd) (dgs_cons (dg_name 4 nd) (dgs_cons (dg_name 5 nd) (dgs_cons (dg_name 6 nd) (dgs_cons (dg_name 7 nd) dgs_nil))))))))
  (dss_cons (ds_set (i := 8) (DF.te (df_call c_sent_to hr (da_cons (de_op od_addA (DE.tb (de_slA (db_v 1) dp_none (dp_some de_int))) (DE.tb (de_tup (da_cons de_int (da_cons de_int da_nil))))) (da_cons (de_tup (da_cons (de_v 2) (da_cons (de_v 4) da_nil))) da_nil)))) nd)
  (dss_cons (ds_set (i := 9) (DF.te (df_call c_sent_to hr (da_cons (de_op od_addA (DE.tb (de_slA (db_v 1) dp_none (dp_some de_int))) (DE.tb (de_tup (da_cons de_int (da_cons de_int da_nil))))) (da_cons (de_tup (da_cons (de_v 3) (da_cons (de_v 5) da_nil))) da_nil)))) nd)
  (dss_cons (ds_set (i := 10) (DF.te (df_call c_sent_to hr (da_cons (de_v 1) (da_cons (de_tup (da_cons (de_v 6) (da_cons (de_v 7) da_nil))) da_nil)))) nd)
  (dss_one (ds_ret (de_tup (da_cons (de_ix ix_d (db_v 8) (DE.tb de_int)) (da_cons (de_ix ix_d (db_v 9) (DE.tb de_int)) (da_cons (de_ix ix_d (db_v 8) (DE.tb de_int)) (da_cons (de_ix ix_d (db_v 9) (DE.tb de_int)) (da_cons (de_ix ix_d (db_v 10) (DE.tb de_int)) (da_cons (de_ix ix_d (db_v 10) (DE.tb de_int)) da_nil))))))))))))))

theorem sc__law_cell : FnScope ["script", "k"] ["script", "k"] (defScope (top 15)) := ⟨rfl, rfl, rfl, by decide +kernel, rfl, by decide +kernel, by decide +kernel⟩
theorem bi__law_cell {K : PySem.W.Frag} {f : Addr} {fd : FuncData} (F : Fun K "_law_cell" "_law_cell" (top 15) f fd) : Binds K fd ["script", "k"] [] := F.binds fun _ _ _ _ _ _ us hl => match us, hl with | [_, _], _ => rfl
theorem w__law_cell {P : Program} {w : World} {K : PySem.W.Frag} {mg : Str → Option Value} {base : Heap} {f : Addr} {fd : FuncData} (F : Fun K "_law_cell" "_law_cell" (top 15) f fd) (hm : mg "_law_cell" = some (.ref f)) (b_len : mg "len" = none)  : DCal P w K mg base 1 "_law_cell" ev__law_cell :=
  DCal.mk' (N := ["script", "k"]) (ps := ["script", "k"]) (n := 2) (bd := bd__law_cell) F hm (bi__law_cell F) sc__law_cell rfl (fun cdv A outer s H E hr =>
    have hu := roomU hr
    have hu4 := roomU4 hr
    have nd := sc__law_cell.nd
    (dss_cons (ds_if (dt_cmp od_lt (db_v 1) (DE.tb (de_callB cd_len rfl b_len (by decide +kernel) (dab_cons (db_v 0) dab_nil)))) (dss_one (ds_ret (de_ix ix_d (db_v 0) (db_v 1)))) dss_nil)
  (dss_one (ds_ret (de_op od_addA (DE.tb (de_op od_mulA (DE.tb de_int) (db_v 1))) (DE.tb de_int))))))

theorem sc__law_draws : FnScope ["cell", "count", "rest", "digits", "seed", "draws", "k", "mixed"] ["cell", "count"] (defScope (top 16)) := ⟨rfl, rfl, rfl, by decide +kernel, rfl, by decide +kernel, by decide +kernel⟩
theorem bi__law_draws {K : PySem.W.Frag} {f : Addr} {fd : FuncData} (F : Fun K "_law_draws" "_law_draws" (top 16) f fd) : Binds K fd ["cell", "count"] [] := F.binds fun _ _ _ _ _ _ us hl => match us, hl with | [_, _], _ => rfl
theorem w__law_draws {P : Program} {w : World} {K : PySem.W.Frag} {mg : Str → Option Value} {base : Heap} {f : Addr} {fd : FuncData} (F : Fun K "_law_draws" "_law_draws" (top 16) f fd) (hm : mg "_law_draws" = some (.ref f)) (b_abs : mg "abs" = none) (b_int : mg "int" = none) (b_range : mg "range" = none)  : DCal P w K mg base 1 "_law_draws" ev__law_draws :=
  DCal.mk' (N := ["cell", "count", "rest", "digits", "seed", "draws", "k", "mixed"]) (ps := ["cell", "count"]) (n := 2) (bd := bd__law_draws) F hm (bi__law_draws F) sc__law_draws rfl (fun cdv A outer s H E hr =>
    have hu := roomU hr
    have hu4 := roomU4 hr
    have nd := sc__law_draws.nd
    (dss_cons (ds_set (i := 2) (de_callB cd_abs rfl b_abs (by decide +kernel) (dab_cons (DE.tb (de_callT cd_int rfl b_int (by decide +kernel) (dab_cons (db_v 0) dab_nil))) dab_nil)) nd)
  (dss_cons (ds_set (i := 3) (de_cmp od_ge (db_v 2) (DE.tb (de_op od_pow (DE.tb de_int) (DE.tb de_int)))) nd)
  (dss_cons (ds_set (i := 4) (de_v 2) nd)
  (dss_cons (ds_own (i := 5) (df_lst da_nil) nd)
  (dss_cons (ds_for (di_range1 rfl b_range (da_cons (de_v 1) da_nil)) (dg_name 6 nd) (dss_one (ds_if (DW.t (dw_and (dt_val (de_v 3)) (dw_and1 (dt_cmp od_gt (db_v 2) (DE.tb de_int))))) (dss_cons (ds_app 5 (de_op od_mod (DE.tb (de_callT cd_int rfl b_int (by decide +kernel) (dab_cons (db_v 2) dab_nil))) (DE.tb de_int)))
  (dss_one (ds_set (i := 2) (de_op od_fdiv (db_v 2) (DE.tb de_int)) nd))) (dss_cons (ds_set (i := 7) (de_op od_mod (DE.tb (de_callT cd_int rfl b_int (by decide +kernel) (dab_cons (DE.tb (de_op od_addA (DE.tb (de_op od_addA (DE.tb (de_op od_mulA (db_v 4) (DE.tb de_int))) (DE.tb (de_op od_mulA (DE.tb (de_op od_addA (db_v 6) (DE.tb de_int))) (DE.tb de_int))))) (DE.tb de_int))) dab_nil))) (DE.tb de_int)) nd)
  (dss_cons (ds_set (i := 7) (de_op od_mod (DE.tb (de_callT cd_int rfl b_int (by decide +kernel) (dab_cons (DE.tb (de_op od_addA (DE.tb (de_op od_mulA (db_v 7) (db_v 7))) (DE.tb (de_op od_mulA (DE.tb de_int) (DE.tb (de_op od_addA (db_v 6) (DE.tb de_int))))))) dab_nil))) (DE.tb de_int)) nd)
  (dss_one (ds_app 5 (de_op od_mod (DE.tb (de_callT cd_int rfl b_int (by decide +kernel) (dab_cons (DE.tb (de_op od_fdiv (db_v 7) (DE.tb de_int))) dab_nil))) (DE.tb de_int)))))))) rfl PassesOwn.never)
  (dss_one (ds_retO 5))))))))

theorem sc__law_is_integer : FnScope ["value"] ["value"] (defScope (top 17)) := ⟨rfl, rfl, rfl, by decide +kernel, rfl, by decide +kernel, by decide +kernel⟩
theorem bi__law_is_integer {K : PySem.W.Frag} {f : Addr} {fd : FuncData} (F : Fun K "_law_is_integer" "_law_is_integer" (top 17) f fd) : Binds K fd ["value"] [] := F.binds fun _ _ _ _ _ _ us hl => match us, hl with | [_], _ => rfl
theorem w__law_is_integer {P : Program} {w : World} {K : PySem.W.Frag} {mg : Str → Option Value} {base : Heap} {f : Addr} {fd : FuncData} (F : Fun K "_law_is_integer" "_law_is_integer" (top 17) f fd) (hm : mg "_law_is_integer" = some (.ref f)) (b_bool : mg "bool" = none) (b_int : mg "int" = none) (b_isinstance : mg "isinstance" = none)  : DCal P w K mg base 1 "_law_is_integer" ev__law_is_integer :=
  DCal.mk' (N := ["value"]) (ps := ["value"]) (n := 1) (bd := bd__law_is_integer) F hm (bi__law_is_integer F) sc__law_is_integer rfl (fun cdv A outer s H E hr =>
    have hu := roomU hr
    have hu4 := roomU4 hr
    have nd := sc__law_is_integer.nd
    (dss_one (ds_ret (de_and (de_isi (Ts := "int") (by decide) rfl b_isinstance rfl b_int (by decide +kernel) (ha := (db_v 0))) (de_one (de_not (de_isi (Ts := "bool") (by decide) rfl b_isinstance rfl b_bool (by decide +kernel) (ha := (db_v 0)))))))))

theorem sc__law_is : FnScope ["value", "due", "at"] ["value", "due"] (defScope (top 18)) := ⟨rfl, rfl, rfl, by decide +kernel, rfl, by decide +kernel, by decide +kernel⟩
theorem bi__law_is {K : PySem.W.Frag} {f : Addr} {fd : FuncData} (F : Fun K "_law_is" "_law_is" (top 18) f fd) : Binds K fd ["value", "due"] [] := F.binds fun _ _ _ _ _ _ us hl => match us, hl with | [_, _], _ => rfl
theorem w__law_is {P : Program} {w : World} {K : PySem.W.Frag} {mg : Str → Option Value} {base : Heap} {f : Addr} {fd : FuncData} (F : Fun K "_law_is" "_law_is" (top 18) f fd) (hm : mg "_law_is" = some (.ref f)) (b_all : mg "all" = none) (b_bool : mg "bool" = none) (b_int : mg "int" = none) (b_isinstance : mg "isinstance" = none) (b_len : mg "len" = none) (b_range : mg "range" = none) (b_str : mg "str" = none) (b_tuple : mg "tuple" = none) (c__law_is_integer : DCal P w K mg base 1 "_law_is_integer" ev__law_is_integer) : ∀ n : Nat, DCal P w K mg base (1 + n) "_law_is" (ev__law_is n)
  | 0 => DCal.none0 F hm (bi__law_is F)
  | n + 1 =>
    have c__law_is := w__law_is F hm b_all b_bool b_int b_isinstance b_len b_range b_str b_tuple c__law_is_integer n
    DCal.mk' (k := 1 + n) (N := ["value", "due", "at"]) (ps := ["value", "due"]) (n := 2) (bd := bd__law_is (ev__law_is n)) F hm (bi__law_is F) sc__law_is rfl (fun cdv A outer s H E hr =>
    have hu := roomU hr
    have hu4 := roomU4 hr
    have nd := sc__law_is.nd
    (dss_cons (ds_if (dt_cmp od_isN (db_v 1) (DE.tb de_non)) (dss_one (ds_ret (de_cmp od_isN (db_v 0) (DE.tb de_non)))) dss_nil)
  (dss_cons (ds_if (dt_val (de_isi (Ts := "bool") (by decide) rfl b_isinstance rfl b_bool (by decide +kernel) (ha := (db_v 1)))) (dss_one (ds_ret (de_and (de_isi (Ts := "bool") (by decide) rfl b_isinstance rfl b_bool (by decide +kernel) (ha := (db_v 0))) (de_one (de_cmp (od_eq hu4) (db_v 0) (db_v 1)))))) dss_nil)
  (dss_cons (ds_if (dt_val (de_isi (Ts := "int") (by decide) rfl b_isinstance rfl b_int (by decide +kernel) (ha := (db_v 1)))) (dss_one (ds_ret (de_and (DF.te (df_call c__law_is_integer hr (da_cons (de_v 0) da_nil))) (de_one (de_cmp (od_eq hu4) (db_v 0) (db_v 1)))))) dss_nil)
  (dss_cons (ds_if (dt_val (de_isi (Ts := "str") (by decide) rfl b_isinstance rfl b_str (by decide +kernel) (ha := (db_v 1)))) (dss_one (ds_ret (de_and (de_isi (Ts := "str") (by decide) rfl b_isinstance rfl b_str (by decide +kernel) (ha := (db_v 0))) (de_one (de_cmp (od_eq hu4) (db_v 0) (db_v 1)))))) dss_nil)
  (dss_cons (ds_if (DW.t (dw_or (dt_not (dt_val (de_isi (Ts := "tuple") (by decide) rfl b_isinstance rfl b_tuple (by decide +kernel) (ha := (db_v 0))))) (dw_or1 (dt_cmp (od_ne hu4) (DE.tb (de_callB cd_len rfl b_len (by decide +kernel) (dab_cons (db_v 0) dab_nil))) (DE.tb (de_callB cd_len rfl b_len (by decide +kernel) (dab_cons (db_v 1) dab_nil))))))) (dss_one (ds_ret de_bl)) dss_nil)
  (dss_one (ds_ret (de_callB (cd_all rfl) rfl b_all (by decide +kernel) (dab_cons (DE.tb (DF.te (df_lc rfl nd [("at", 2)] (DI.tb (di_range1 rfl b_range (da_cons (de_callB cd_len rfl b_len (by decide +kernel) (dab_cons (db_v 1) dab_nil)) da_nil))) (fun _ _ _ _ _ => (dg_name 2 nd)) (fun _ _ _ _ _ => dts_nil) (fun _ _ _ _ _ => (DF.te (df_call c__law_is hr (da_cons (de_ix ix_d (db_v 0) (db_v 2)) (da_cons (de_ix ix_d (db_v 1) (db_v 2)) da_nil))))) (blkOk_by (by rfl)) (by decide)))) dab_nil))))))))))

theorem sc__law_sent : FnScope ["plan", "point", "a", "b", "c", "d", "e", "f"] ["plan", "point"] (defScope (top 20)) := ⟨rfl, rfl, rfl, by decide +kernel, rfl, by decide +kernel, by decide +kernel⟩
theorem bi__law_sent {K : PySem.W.Frag} {f : Addr} {fd : FuncData} (F : Fun K "_law_sent" "_law_sent" (top 20) f fd) : Binds K fd ["plan", "point"] [] := F.binds fun _ _ _ _ _ _ us hl => match us, hl with | [_, _], _ => rfl
theorem w__law_sent {P : Program} {w : World} {K : PySem.W.Frag} {mg : Str → Option Value} {base : Heap} {f : Addr} {fd : FuncData} (F : Fun K "_law_sent" "_law_sent" (top 20) f fd) (hm : mg "_law_sent" = some (.ref f))   : DCal P w K mg base 1 "_law_sent" ev__law_sent :=
  DCal.mk' (N := ["plan", "point", "a", "b", "c", "d", "e", "f"]) (ps := ["plan", "point"]) (n := 2) (bd := bd__law_sent) F hm (bi__law_sent F) sc__law_sent rfl (fun cdv A outer s H E hr =>
    have hu := roomU hr
    have hu4 := roomU4 hr
    have nd := sc__law_sent.nd
    (dss_cons (ds_asg (de_v 0) (dg_tup rfl (dgs_cons (dg_name 2 nd) (dgs_cons (dg_name 3 nd) (dgs_cons (dg_name 4 nd) (dgs_cons (dg_name 5 nd) (dgs_cons (dg_name 6 nd) (dgs_cons (dg_name 7 nd) dgs_nil))))))))
  (dss_one (ds_ret (de_tup (da_cons (de_op od_addA (DE.tb (de_op od_addA (DE.tb (de_op od_mulA (db_v 2) (DE.tb (de_ix ix_d (db_v 1) (DE.tb de_int))))) (DE.tb (de_op od_mulA (db_v 3) (DE.tb (de_ix ix_d (db_v 1) (DE.tb de_int))))))) (db_v 6)) (da_cons (de_op od_addA (DE.tb (de_op od_addA (DE.tb (de_op od_mulA (db_v 4) (DE.tb (de_ix ix_d (db_v 1) (DE.tb de_int))))) (DE.tb (de_op od_mulA (db_v 5) (DE.tb (de_ix ix_d (db_v 1) (DE.tb de_int))))))) (db_v 7)) da_nil)))))))

theorem sc__law_after : FnScope ["first", "second", "e", "f", "one", "other"] ["first", "second"] (defScope (top 21)) := ⟨rfl, rfl, rfl, by decide +kernel, rfl, by decide +kernel, by decide +kernel⟩
theorem bi__law_after {K : PySem.W.Frag} {f : Addr} {fd : FuncData} (F : Fun K "_law_after" "_law_after" (top 21) f fd) : Binds K fd ["first", "second"] [] := F.binds fun _ _ _ _ _ _ us hl => match us, hl with | [_, _], _ => rfl
theorem w__law_after {P : Program} {w : World} {K : PySem.W.Frag} {mg : Str → Option Value} {base : Heap} {f : Addr} {fd : FuncData} (F : Fun K "_law_after" "_law_after" (top 21) f fd) (hm : mg "_law_after" = some (.ref f))  (c__law_sent : DCal P w K mg base 1 "_law_sent" ev__law_sent) : DCal P w K mg base 2 "_law_after" ev__law_after :=
  DCal.mk' (N := ["first", "second", "e", "f", "one", "other"]) (ps := ["first", "second"]) (n := 2) (bd := bd__law_after) F hm (bi__law_after F) sc__law_after rfl (fun cdv A outer s H E hr =>
    have hu := roomU hr
    have hu4 := roomU4 hr
    have nd := sc__law_after.nd
    (dss_cons (ds_asg (DF.te (df_call c__law_sent hr (da_cons (de_v 1) (da_cons (DF.te (df_call c__law_sent hr (da_cons (de_v 0) (da_cons (de_tup (da_cons de_int (da_cons de_int da_nil))) da_nil)))) da_nil)))) (dg_tup rfl (dgs_cons (dg_name 2 nd) (dgs_cons (dg_name 3 nd) dgs_nil))))
  (dss_cons (ds_set (i := 4) (DF.te (df_call c__law_sent hr (da_cons (de_v 1) (da_cons (DF.te (df_call c__law_sent hr (da_cons (de_v 0) (da_cons (de_tup (da_cons de_int (da_cons de_int da_nil))) da_nil)))) da_nil)))) nd)
  (dss_cons (ds_set (i := 5) (DF.te (df_call c__law_sent hr (da_cons (de_v 1) (da_cons (DF.te (df_call c__law_sent hr (da_cons (de_v 0) (da_cons (de_tup (da_cons de_int (da_cons de_int da_nil))) da_nil)))) da_nil)))) nd)
  (dss_one (ds_ret (de_tup (da_cons (de_op od_sub (DE.tb (de_ix ix_d (db_v 4) (DE.tb de_int))) (db_v 2)) (da_cons (de_op od_sub (DE.tb (de_ix ix_d (db_v 5) (DE.tb de_int))) (db_v 2)) (da_cons (de_op od_sub (DE.tb (de_ix ix_d (db_v 4) (DE.tb de_int))) (db_v 3)) (da_cons (de_op od_sub (DE.tb (de_ix ix_d (db_v 5) (DE.tb de_int))) (db_v 3)) (da_cons (de_v 2) (da_cons (de_v 3) da_nil)))))))))))))

theorem sc__law_plan : FnScope ["draws", "way", "wide", "a", "b", "c", "d", "e", "f", "draw"] ["draws"] (defScope (top 23)) := ⟨rfl, rfl, rfl, by decide +kernel, rfl, by decide +kernel, by decide +kernel⟩
theorem bi__law_plan {K : PySem.W.Frag} {f : Addr} {fd : FuncData} (F : Fun K "_law_plan" "_law_plan" (top 23) f fd) : Binds K fd ["draws"] [] := F.binds fun _ _ _ _ _ _ us hl => match us, hl with | [_], _ => rfl
theorem w__law_plan {P : Program} {w : World} {K : PySem.W.Frag} {mg : Str → Option Value} {base : Heap} {f : Addr} {fd : FuncData} (F : Fun K "_law_plan" "_law_plan" (top 23) f fd) (hm : mg "_law_plan" = some (.ref f)) (b_int : mg "int" = none) (c__law_after : DCal P w K mg base 2 "_law_after" ev__law_after) : DCal P w K mg base 3 "_law_plan" ev__law_plan :=
  DCal.mk' (N := ["draws", "way", "wide", "a", "b", "c", "d", "e", "f", "draw"]) (ps := ["draws"]) (n := 1) (bd := bd__law_plan) F hm (bi__law_plan F) sc__law_plan rfl (fun cdv A outer s H E hr =>
    have hu := roomU hr
    have hu4 := roomU4 hr
    have nd := sc__law_plan.nd
    (dss_cons (ds_set (i := 1) (de_op od_mod (DE.tb (de_callT cd_int rfl b_int (by decide +kernel) (dab_cons (DE.tb (de_ix ix_d (db_v 0) (DE.tb de_int))) dab_nil))) (DE.tb de_int)) nd)
  (dss_cons (ds_set (i := 2) (de_ix ix_d (DE.tb (de_tup (da_cons de_int (da_cons de_int (da_cons de_int (da_cons de_int da_nil)))))) (DE.tb (de_op od_mod (DE.tb (de_callT cd_int rfl b_int (by decide +kernel) (dab_cons (DE.tb (de_ix ix_d (db_v 0) (DE.tb de_int))) dab_nil))) (DE.tb de_int)))) nd)
  (dss_cons (ds_asg (DF.te (df_lc rfl nd [("draw", 9)] (dib_e (DE.tb (de_slA (db_v 0) (dp_some de_int) (dp_some de_int)))) (fun _ _ _ _ _ => (dg_name 9 nd)) (fun _ _ _ _ _ => dts_nil) (fun _ _ _ _ _ => (de_op od_sub (DE.tb (de_op od_mod (DE.tb (de_callT cd_int rfl b_int (by decide +kernel) (dab_cons (db_v 9) dab_nil))) (db_v 2))) (DE.tb (de_op od_fdiv (db_v 2) (DE.tb de_int))))) (blkOk_by (by rfl)) (by decide))) (dg_tup rfl (dgs_cons (dg_name 3 nd) (dgs_cons (dg_name 4 nd) (dgs_cons (dg_name 5 nd) (dgs_cons (dg_name 6 nd) (dgs_cons (dg_name 7 nd) (dgs_cons (dg_name 8 nd) dgs_nil))))))))
  (dss_cons (ds_if (dt_cmp (od_eq hu4) (db_v 1) (DE.tb de_int)) (dss_one (ds_ret (de_tup (da_cons (de_v 3) (da_cons (de_v 4) (da_cons (de_op od_mulA (DE.tb de_int) (db_v 3)) (da_cons (de_op od_mulA (DE.tb de_int) (db_v 4)) (da_cons (de_v 7) (da_cons (de_v 8) da_nil))))))))) dss_nil)
  (dss_cons (ds_if (dt_cmp (od_eq hu4) (db_v 1) (DE.tb de_int)) (dss_one (ds_ret (de_tup (da_cons (de_op od_mulA (db_v 3) (db_v 4)) (da_cons (de_op od_mulA (db_v 3) (db_v 5)) (da_cons (de_op od_mulA (db_v 4) (db_v 6)) (da_cons (de_op od_mulA (db_v 5) (db_v 6)) (da_cons (de_v 7) (da_cons (de_v 8) da_nil))))))))) dss_nil)
  (dss_cons (ds_if (dt_cmp (od_eq hu4) (db_v 1) (DE.tb de_int)) (dss_one (ds_ret (DF.te (df_call c__law_after hr (da_cons (DF.te (df_call c__law_after hr (da_cons (de_tup (da_cons de_int (da_cons (de_v 3) (da_cons de_int (da_cons de_int (da_cons (de_v 7) (da_cons (de_v 8) da_nil))))))) (da_cons (de_tup (da_cons de_int (da_cons de_int (da_cons (de_v 4) (da_cons de_int (da_cons de_int (da_cons de_int da_nil))))))) da_nil)))) (da_cons (de_tup (da_cons de_int (da_cons de_int (da_cons de_int (da_cons de_int (da_cons (de_v 5) (da_cons (de_v 6) da_nil))))))) da_nil)))))) dss_nil)
  (dss_cons (ds_if (dt_cmp (od_eq hu4) (db_v 1) (DE.tb de_int)) (dss_one (ds_ret (DF.te (df_call c__law_after hr (da_cons (de_tup (da_cons de_int (da_cons (de_op od_sub (DE.tb de_int) (DE.tb de_int)) (da_cons de_int (da_cons de_int (da_cons (de_v 7) (da_cons (de_v 8) da_nil))))))) (da_cons (DF.te (df_call c__law_after hr (da_cons (de_tup (da_cons de_int (da_cons (de_v 5) (da_cons de_int (da_cons de_int (da_cons de_int (da_cons de_int da_nil))))))) (da_cons (de_tup (da_cons de_int (da_cons de_int (da_cons (de_v 6) (da_cons de_int (da_cons de_int (da_cons de_int da_nil))))))) da_nil)))) da_nil)))))) dss_nil)
  (dss_cons (ds_if (dt_cmp (od_eq hu4) (db_v 1) (DE.tb de_int)) (dss_one (ds_ret (de_tup (da_cons (de_op od_mulA (DE.tb de_int) (db_v 3)) (da_cons (de_op od_mulA (DE.tb de_int) (db_v 4)) (da_cons (de_op od_mulA (DE.tb de_int) (db_v 5)) (da_cons (de_op od_mulA (DE.tb de_int) (db_v 6)) (da_cons (de_v 7) (da_cons (de_v 8) da_nil))))))))) dss_nil)
  (dss_cons (ds_if (dt_cmp (od_eq hu4) (db_v 1) (DE.tb de_int)) (dss_one (ds_ret (de_tup (da_cons (de_op od_mulA (db_v 3) (DE.tb de_int)) (da_cons (de_op od_mulA (db_v 4) (DE.tb de_int)) (da_cons (de_v 5) (da_cons (de_op od_mulA (db_v 6) (DE.tb de_int)) (da_cons (de_v 7) (da_cons (de_v 8) da_nil))))))))) dss_nil)
  (dss_cons (ds_if (dt_cmp (od_eq hu4) (db_v 1) (DE.tb de_int)) (dss_one (ds_ret (de_tup (da_cons (de_ix ix_d (DE.tb (de_tup (da_cons (de_v 3) (da_cons de_int da_nil)))) (DE.tb (de_op od_mod (DE.tb (de_op od_fdiv (DE.tb (de_callT cd_int rfl b_int (by decide +kernel) (dab_cons (DE.tb (de_ix ix_d (db_v 0) (DE.tb de_int))) dab_nil))) (DE.tb de_int))) (DE.tb de_int)))) (da_cons de_int (da_cons de_int (da_cons (de_ix ix_d (DE.tb (de_tup (da_cons de_int (da_cons (de_v 6) da_nil)))) (DE.tb (de_op od_mod (DE.tb (de_op od_fdiv (DE.tb (de_callT cd_int rfl b_int (by decide +kernel) (dab_cons (DE.tb (de_ix ix_d (db_v 0) (DE.tb de_int))) dab_nil))) (DE.tb de_int))) (DE.tb de_int)))) (da_cons (de_v 7) (da_cons (de_v 8) da_nil))))))))) dss_nil)
  (dss_one (ds_ret (de_tup (da_cons (de_v 3) (da_cons (de_v 4) (da_cons (de_v 5) (da_cons (de_v 6) (da_cons (de_v 7) (da_cons (de_v 8) da_nil))))))))))))))))))))

theorem sc__law_fits : FnScope ["plan", "number"] ["plan"] (defScope (top 24)) := ⟨rfl, rfl, rfl, by decide +kernel, rfl, by decide +kernel, by decide +kernel⟩
theorem bi__law_fits {K : PySem.W.Frag} {f : Addr} {fd : FuncData} (F : Fun K "_law_fits" "_law_fits" (top 24) f fd) : Binds K fd ["plan"] [] := F.binds fun _ _ _ _ _ _ us hl => match us, hl with | [_], _ => rfl
theorem w__law_fits {P : Program} {w : World} {K : PySem.W.Frag} {mg : Str → Option Value} {base : Heap} {f : Addr} {fd : FuncData} (F : Fun K "_law_fits" "_law_fits" (top 24) f fd) (hm : mg "_law_fits" = some (.ref f)) (b_max : mg "max" = none) (b_min : mg "min" = none) (b_tuple : mg "tuple" = none)  : DCal P w K mg base 1 "_law_fits" ev__law_fits :=
  DCal.mk' (N := ["plan", "number"]) (ps := ["plan"]) (n := 1) (bd := bd__law_fits) F hm (bi__law_fits F) sc__law_fits rfl (fun cdv A outer s H E hr =>
    have hu := roomU hr
    have hu4 := roomU4 hr
    have nd := sc__law_fits.nd
    (dss_one (ds_ret (de_callT cd_tuple rfl b_tuple (by decide +kernel) (dab_cons (DE.tb (DF.te (df_lc rfl nd [("number", 1)] (dib_e (db_v 0)) (fun _ _ _ _ _ => (dg_name 1 nd)) (fun _ _ _ _ _ => dts_nil) (fun _ _ _ _ _ => (de_callB (cd_max rfl) rfl b_max (by decide +kernel) (dab_cons (DE.tb (de_op od_sub (DE.tb de_int) (DE.tb (de_op od_pow (DE.tb de_int) (DE.tb de_int))))) (dab_cons (DE.tb (de_callB (cd_min rfl) rfl b_min (by decide +kernel) (dab_cons (DE.tb (de_op od_sub (DE.tb (de_op od_pow (DE.tb de_int) (DE.tb de_int))) (DE.tb de_int))) (dab_cons (db_v 1) dab_nil)))) dab_nil)))) (blkOk_by (by rfl)) (by decide)))) dab_nil)))))

theorem sc_area_of : FnScope ["plan"] ["plan"] (defScope (top 3)) := ⟨rfl, rfl, rfl, by decide +kernel, rfl, by decide +kernel, by decide +kernel⟩
theorem bi_area_of {K : PySem.W.Frag} {f : Addr} {fd : FuncData} (F : Fun K "area_of" "area_of" (top 3) f fd) : Binds K fd ["plan"] [] := F.binds fun _ _ _ _ _ _ us hl => match us, hl with | [_], _ => rfl
theorem w_area_of {P : Program} {w : World} {K : PySem.W.Frag} {mg : Str → Option Value} {base : Heap} {f : Addr} {fd : FuncData} (F : Fun K "area_of" "area_of" (top 3) f fd) (hm : mg "area_of" = some (.ref f))   : DCal P w K mg base 1 "area_of" ev_area_of :=
  DCal.mk' (N := ["plan"]) (ps := ["plan"]) (n := 1) (bd := bd_area_of) F hm (bi_area_of F) sc_area_of rfl (fun cdv A outer s H E hr =>
    have hu := roomU hr
    have hu4 := roomU4 hr
    have nd := sc_area_of.nd
    (dss_one (ds_ret (de_op od_sub (DE.tb (de_op od_mulA (DE.tb (de_ix ix_d (db_v 0) (DE.tb de_int))) (DE.tb (de_ix ix_d (db_v 0) (DE.tb de_int))))) (DE.tb (de_op od_mulA (DE.tb (de_ix ix_d (db_v 0) (DE.tb de_int))) (DE.tb (de_ix ix_d (db_v 0) (DE.tb de_int)))))))))

theorem sc_solved : FnScope ["plan", "across", "up", "a", "b", "c", "d", "area", "one", "other"] ["plan", "across", "up"] (defScope (top 5)) := ⟨rfl, rfl, rfl, by decide +kernel, rfl, by decide +kernel, by decide +kernel⟩
theorem bi_solved {K : PySem.W.Frag} {f : Addr} {fd : FuncData} (F : Fun K "solved" "solved" (top 5) f fd) : Binds K fd ["plan", "across", "up"] [] := F.binds fun _ _ _ _ _ _ us hl => match us, hl with | [_, _, _], _ => rfl
theorem w_solved {P : Program} {w : World} {K : PySem.W.Frag} {mg : Str → Option Value} {base : Heap} {f : Addr} {fd : FuncData} (F : Fun K "solved" "solved" (top 5) f fd) (hm : mg "solved" = some (.ref f)) (b_abs : mg "abs" = none) (c_area_of : DCal P w K mg base 1 "area_of" ev_area_of) : DCal P w K mg base 2 "solved" ev_solved :=
  DCal.mk' (N := ["plan", "across", "up", "a", "b", "c", "d", "area", "one", "other"]) (ps := ["plan", "across", "up"]) (n := 3) (bd := bd_solved) F hm (bi_solved F) sc_solved rfl (fun cdv A outer s H E hr =>
    have hu := roomU hr
    have hu4 := roomU4 hr
    have nd := sc_solved.nd
    (dss_cons (ds_asg (de_slA (db_v 0) dp_none (dp_some de_int)) (dg_tup rfl (dgs_cons (dg_name 3 nd) (dgs_cons (dg_name 4 nd) (dgs_cons (dg_name 5 nd) (dgs_cons (dg_name 6 nd) dgs_nil))))))
  (dss_cons (ds_set (i := 7) (DF.te (df_call c_area_of hr (da_cons (de_v 0) da_nil))) nd)
  (dss_cons (ds_set (i := 8) (de_op od_sub (DE.tb (de_op od_mulA (db_v 6) (db_v 1))) (DE.tb (de_op od_mulA (db_v 4) (db_v 2)))) nd)
  (dss_cons (ds_set (i := 9) (de_op od_sub (DE.tb (de_op od_mulA (db_v 3) (db_v 2))) (DE.tb (de_op od_mulA (db_v 5) (db_v 1)))) nd)
  (dss_cons (ds_if (dt_cmp (od_ne hu4) (DE.tb (de_op od_mod (db_v 8) (db_v 7))) (DE.tb de_int)) (dss_one (ds_ret (de_tup (da_cons de_non (da_cons (de_tup (da_cons (de_v 6) (da_cons (de_neg (de_v 4)) (da_cons (de_callB cd_abs rfl b_abs (by decide +kernel) (dab_cons (db_v 7) dab_nil)) da_nil)))) da_nil))))) dss_nil)
  (dss_cons (ds_if (dt_cmp (od_ne hu4) (DE.tb (de_op od_mod (db_v 9) (db_v 7))) (DE.tb de_int)) (dss_one (ds_ret (de_tup (da_cons de_non (da_cons (de_tup (da_cons (de_neg (de_v 5)) (da_cons (de_v 3) (da_cons (de_callB cd_abs rfl b_abs (by decide +kernel) (dab_cons (db_v 7) dab_nil)) da_nil)))) da_nil))))) dss_nil)
  (dss_one (ds_ret (de_tup (da_cons (de_tup (da_cons (de_op od_fdiv (db_v 8) (db_v 7)) (da_cons (de_op od_fdiv (db_v 9) (db_v 7)) da_nil))) (da_cons de_non da_nil))))))))))))

theorem sc_bezout : FnScope ["a", "b", "here", "there", "times", "rest", "at"] ["a", "b"] (defScope (top 4)) := ⟨rfl, rfl, rfl, by decide +kernel, rfl, by decide +kernel, by decide +kernel⟩
theorem bi_bezout {K : PySem.W.Frag} {f : Addr} {fd : FuncData} (F : Fun K "bezout" "bezout" (top 4) f fd) : Binds K fd ["a", "b"] [] := F.binds fun _ _ _ _ _ _ us hl => match us, hl with | [_, _], _ => rfl
theorem w_bezout {P : Program} {w : World} {K : PySem.W.Frag} {mg : Str → Option Value} {base : Heap} {f : Addr} {fd : FuncData} (F : Fun K "bezout" "bezout" (top 4) f fd) (hm : mg "bezout" = some (.ref f)) (b_range : mg "range" = none) (b_tuple : mg "tuple" = none)  : DCal P w K mg base 1 "bezout" ev_bezout :=
  DCal.mk' (N := ["a", "b", "here", "there", "times", "rest", "at"]) (ps := ["a", "b"]) (n := 2) (bd := bd_bezout) F hm (bi_bezout F) sc_bezout rfl (fun cdv A outer s H E hr =>
    have hu := roomU hr
    have hu4 := roomU4 hr
    have nd := sc_bezout.nd
    (dss_cons (ds_set (i := 2) (de_tup (da_cons (de_v 0) (da_cons de_int (da_cons de_int da_nil)))) nd)
  (dss_cons (ds_set (i := 3) (de_tup (da_cons (de_v 1) (da_cons de_int (da_cons de_int da_nil)))) nd)
  (dss_cons (ds_while 100000000 (dt_cmp (od_ne hu4) (DE.tb (de_ix ix_d (db_v 3) (DE.tb de_int))) (DE.tb de_int)) (dss_cons (ds_set (i := 4) (de_op od_fdiv (DE.tb (de_ix ix_d (db_v 2) (DE.tb de_int))) (DE.tb (de_ix ix_d (db_v 3) (DE.tb de_int)))) nd)
  (dss_cons (ds_set (i := 5) (de_callT cd_tuple rfl b_tuple (by decide +kernel) (dab_cons (DE.tb (DF.te (df_lc rfl nd [("at", 6)] (DI.tb (di_range1 rfl b_range (da_cons de_int da_nil))) (fun _ _ _ _ _ => (dg_name 6 nd)) (fun _ _ _ _ _ => dts_nil) (fun _ _ _ _ _ => (de_op od_sub (DE.tb (de_ix ix_d (db_v 2) (db_v 6))) (DE.tb (de_op od_mulA (db_v 4) (DE.tb (de_ix ix_d (db_v 3) (db_v 6))))))) (blkOk_by (by rfl)) (by decide)))) dab_nil)) nd)
  (dss_cons (ds_set (i := 2) (de_v 3) nd)
  (dss_one (ds_set (i := 3) (de_v 5) nd))))) PassesOwn.never)
  (dss_cons (ds_if (dt_cmp od_lt (DE.tb (de_ix ix_d (db_v 2) (DE.tb de_int))) (DE.tb de_int)) (dss_one (ds_set (i := 2) (de_tup (da_cons (de_neg (de_ix ix_d (db_v 2) (DE.tb de_int))) (da_cons (de_neg (de_ix ix_d (db_v 2) (DE.tb de_int))) (da_cons (de_neg (de_ix ix_d (db_v 2) (DE.tb de_int))) da_nil)))) nd)) dss_nil)
  (dss_one (ds_ret (de_v 2))))))))

theorem sc_normal_of : FnScope ["plan", "across", "a", "b", "c", "d"] ["plan", "across"] (defScope (top 6)) := ⟨rfl, rfl, rfl, by decide +kernel, rfl, by decide +kernel, by decide +kernel⟩
theorem bi_normal_of {K : PySem.W.Frag} {f : Addr} {fd : FuncData} (F : Fun K "normal_of" "normal_of" (top 6) f fd) : Binds K fd ["plan", "across"] [] := F.binds fun _ _ _ _ _ _ us hl => match us, hl with | [_, _], _ => rfl
theorem w_normal_of {P : Program} {w : World} {K : PySem.W.Frag} {mg : Str → Option Value} {base : Heap} {f : Addr} {fd : FuncData} (F : Fun K "normal_of" "normal_of" (top 6) f fd) (hm : mg "normal_of" = some (.ref f))   : DCal P w K mg base 1 "normal_of" ev_normal_of :=
  DCal.mk' (N := ["plan", "across", "a", "b", "c", "d"]) (ps := ["plan", "across"]) (n := 2) (bd := bd_normal_of) F hm (bi_normal_of F) sc_normal_of rfl (fun cdv A outer s H E hr =>
    have hu := roomU hr
    have hu4 := roomU4 hr
    have nd := sc_normal_of.nd
    (dss_cons (ds_asg (de_slA (db_v 0) dp_none (dp_some de_int)) (dg_tup rfl (dgs_cons (dg_name 2 nd) (dgs_cons (dg_name 3 nd) (dgs_cons (dg_name 4 nd) (dgs_cons (dg_name 5 nd) dgs_nil))))))
  (dss_cons (ds_if (dt_cmp (od_ne hu4) (DE.tb (de_tup (da_cons (de_v 2) (da_cons (de_v 4) da_nil)))) (DE.tb (de_tup (da_cons de_int (da_cons de_int da_nil))))) (dss_one (ds_ret (de_tup (da_cons (de_v 4) (da_cons (de_neg (de_v 2)) da_nil))))) dss_nil)
  (dss_cons (ds_if (dt_cmp (od_ne hu4) (DE.tb (de_tup (da_cons (de_v 3) (da_cons (de_v 5) da_nil)))) (DE.tb (de_tup (da_cons de_int (da_cons de_int da_nil))))) (dss_one (ds_ret (de_tup (da_cons (de_v 5) (da_cons (de_neg (de_v 3)) da_nil))))) dss_nil)
  (dss_one (ds_ret (de_if (dt_cmp (od_ne hu4) (db_v 1) (DE.tb de_int)) (de_tup (da_cons de_int (da_cons de_int da_nil))) (de_tup (da_cons de_int (da_cons de_int da_nil))))))))))

theorem sc_solved_flat : FnScope ["plan", "across", "up", "a", "b", "c", "d", "u", "v", "off", "divisor", "way", "axis", "first", "second", "steps", "common", "one", "other", "times", "_", "left", "right"] ["plan", "across", "up"] (defScope (top 7)) := ⟨rfl, rfl, rfl, by decide +kernel, rfl, by decide +kernel, by decide +kernel⟩
theorem bi_solved_flat {K : PySem.W.Frag} {f : Addr} {fd : FuncData} (F : Fun K "solved_flat" "solved_flat" (top 7) f fd) : Binds K fd ["plan", "across", "up"] [] := F.binds fun _ _ _ _ _ _ us hl => match us, hl with | [_, _, _], _ => rfl
theorem w_solved_flat {P : Program} {w : World} {K : PySem.W.Frag} {mg : Str → Option Value} {base : Heap} {f : Addr} {fd : FuncData} (F : Fun K "solved_flat" "solved_flat" (top 7) f fd) (hm : mg "solved_flat" = some (.ref f)) (b_abs : mg "abs" = none) (c_bezout : DCal P w K mg base 1 "bezout" ev_bezout) (c_normal_of : DCal P w K mg base 1 "normal_of" ev_normal_of) : DCal P w K mg base 2 "solved_flat" ev_solved_flat :=
  DCal.mk' (N := ["plan", "across", "up", "a", "b", "c", "d", "u", "v", "off", "divisor", "way", "axis", "first", "second", "steps", "common", "one", "other", "times", "_", "left", "right"]) (ps := ["plan", "across", "up"]) (n := 3) (bd := bd_solved_flat) F hm (bi_solved_flat F) sc_solved_flat rfl (fun cdv A outer s H E hr =>
    have hu := roomU hr
    have hu4 := roomU4 hr
    have nd := sc_solved_flat.nd
    (dss_cons (ds_asg (de_slA (db_v 0) dp_none (dp_some de_int)) (dg_tup rfl (dgs_cons (dg_name 3 nd) (dgs_cons (dg_name 4 nd) (dgs_cons (dg_name 5 nd) (dgs_cons (dg_name 6 nd) dgs_nil))))))
  (dss_cons (ds_asg (DF.te (df_call c_normal_of hr (da_cons (de_v 0) (da_cons (de_v 1) da_nil)))) (dg_tup rfl (dgs_cons (dg_name 7 nd) (dgs_cons (dg_name 8 nd) dgs_nil))))
  (dss_cons (ds_set (i := 9) (de_op od_addA (DE.tb (de_op od_mulA (db_v 7) (db_v 1))) (DE.tb (de_op od_mulA (db_v 8) (db_v 2)))) nd)
  (dss_cons (ds_if (dt_cmp (od_ne hu4) (db_v 9) (DE.tb de_int)) (dss_one (ds_ret (de_tup (da_cons de_non (da_cons (de_tup (da_cons (de_v 7) (da_cons (de_v 8) (da_cons (de_op od_addA (DE.tb (de_callB cd_abs rfl b_abs (by decide +kernel) (dab_cons (db_v 9) dab_nil))) (DE.tb de_int)) da_nil)))) da_nil))))) dss_nil)
  (dss_cons (ds_if (dt_cmp (od_eq hu4) (DE.tb (de_tup (da_cons (de_v 3) (da_cons (de_v 4) (da_cons (de_v 5) (da_cons (de_v 6) da_nil)))))) (DE.tb (de_tup (da_cons de_int (da_cons de_int (da_cons de_int (da_cons de_int da_nil))))))) (dss_one (ds_ret (de_tup (da_cons (de_tup (da_cons de_int (da_cons de_int da_nil))) (da_cons de_non da_nil))))) dss_nil)
  (dss_cons (ds_set (i := 10) (de_ix ix_d (DE.tb (DF.te (df_call c_bezout hr (da_cons (de_v 7) (da_cons (de_v 8) da_nil))))) (DE.tb de_int)) nd)
  (dss_cons (ds_set (i := 11) (de_tup (da_cons (de_op od_fdiv (DE.tb (de_neg (de_v 8))) (db_v 10)) (da_cons (de_op od_fdiv (db_v 7) (db_v 10)) da_nil))) nd)
  (dss_cons (ds_set (i := 12) (de_if (dt_cmp (od_ne hu4) (DE.tb (de_ix ix_d (db_v 11) (DE.tb de_int))) (DE.tb de_int)) de_int de_int) nd)
  (dss_cons (ds_par (i := 13) (j := 14) (da_cons (de_op od_fdiv (DE.tb (de_ix ix_d (db_v 0) (DE.tb (de_op od_mulA (DE.tb de_int) (db_v 12))))) (DE.tb (de_ix ix_d (db_v 11) (db_v 12)))) (da_cons (de_op od_fdiv (DE.tb (de_ix ix_d (db_v 0) (DE.tb (de_op od_addA (DE.tb (de_op od_mulA (DE.tb de_int) (db_v 12))) (DE.tb de_int))))) (DE.tb (de_ix ix_d (db_v 11) (db_v 12)))) da_nil)) rfl nd)
  (dss_cons (ds_set (i := 15) (de_op od_fdiv (DE.tb (de_ix ix_d (DE.tb (de_tup (da_cons (de_v 1) (da_cons (de_v 2) da_nil)))) (db_v 12))) (DE.tb (de_ix ix_d (db_v 11) (db_v 12)))) nd)
  (dss_cons (ds_asg (DF.te (df_call c_bezout hr (da_cons (de_v 13) (da_cons (de_v 14) da_nil)))) (dg_tup rfl (dgs_cons (dg_name 16 nd) (dgs_cons (dg_name 17 nd) (dgs_cons (dg_name 18 nd) dgs_nil)))))
  (dss_cons (ds_if (dt_cmp (od_eq hu4) (DE.tb (de_op od_mod (db_v 15) (db_v 16))) (DE.tb de_int)) (dss_cons (ds_set (i := 19) (de_op od_fdiv (db_v 15) (db_v 16)) nd)
  (dss_one (ds_ret (de_tup (da_cons (de_tup (da_cons (de_op od_mulA (db_v 17) (db_v 19)) (da_cons (de_op od_mulA (db_v 18) (db_v 19)) da_nil))) (da_cons de_non da_nil)))))) dss_nil)
  (dss_cons (ds_asg (DF.te (df_call c_bezout hr (da_cons (de_ix ix_d (db_v 11) (DE.tb de_int)) (da_cons (de_ix ix_d (db_v 11) (DE.tb de_int)) da_nil)))) (dg_tup rfl (dgs_cons (dg_name 20 nd) (dgs_cons (dg_name 21 nd) (dgs_cons (dg_name 22 nd) dgs_nil)))))
  (dss_one (ds_ret (de_tup (da_cons de_non (da_cons (de_tup (da_cons (de_v 21) (da_cons (de_v 22) (da_cons (de_v 16) da_nil)))) da_nil)))))))))))))))))))

theorem sc_source_and_bar : FnScope ["plan", "point", "across", "up"] ["plan", "point"] (defScope (top 8)) := ⟨rfl, rfl, rfl, by decide +kernel, rfl, by decide +kernel, by decide +kernel⟩
theorem bi_source_and_bar {K : PySem.W.Frag} {f : Addr} {fd : FuncData} (F : Fun K "source_and_bar" "source_and_bar" (top 8) f fd) : Binds K fd ["plan", "point"] [] := F.binds fun _ _ _ _ _ _ us hl => match us, hl with | [_, _], _ => rfl
theorem w_source_and_bar {P : Program} {w : World} {K : PySem.W.Frag} {mg : Str → Option Value} {base : Heap} {f : Addr} {fd : FuncData} (F : Fun K "source_and_bar" "source_and_bar" (top 8) f fd) (hm : mg "source_and_bar" = some (.ref f))  (c_area_of : DCal P w K mg base 1 "area_of" ev_area_of) (c_solved : DCal P w K mg base 2 "solved" ev_solved) (c_solved_flat : DCal P w K mg base 2 "solved_flat" ev_solved_flat) : DCal P w K mg base 3 "source_and_bar" ev_source_and_bar :=
  DCal.mk' (N := ["plan", "point", "across", "up"]) (ps := ["plan", "point"]) (n := 2) (bd := bd_source_and_bar) F hm (bi_source_and_bar F) sc_source_and_bar rfl (fun cdv A outer s H E hr =>
    have hu := roomU hr
    have hu4 := roomU4 hr
    have nd := sc_source_and_bar.nd
    (dss_cons (ds_par (i := 2) (j := 3) (da_cons (de_op od_sub (DE.tb (de_ix ix_d (db_v 1) (DE.tb de_int))) (DE.tb (de_ix ix_d (db_v 0) (DE.tb de_int)))) (da_cons (de_op od_sub (DE.tb (de_ix ix_d (db_v 1) (DE.tb de_int))) (DE.tb (de_ix ix_d (db_v 0) (DE.tb de_int)))) da_nil)) rfl nd)
  (dss_cons (ds_if (dt_cmp (od_eq hu4) (DE.tb (DF.te (df_call c_area_of hr (da_cons (de_v 0) da_nil)))) (DE.tb de_int)) (dss_one (ds_ret (DF.te (df_call c_solved_flat hr (da_cons (de_v 0) (da_cons (de_v 2) (da_cons (de_v 3) da_nil))))))) dss_nil)
  (dss_one (ds_ret (DF.te (df_call c_solved hr (da_cons (de_v 0) (da_cons (de_v 2) (da_cons (de_v 3) da_nil))))))))))

theorem sc_source_of : FnScope ["plan", "point"] ["plan", "point"] (defScope (top 9)) := ⟨rfl, rfl, rfl, by decide +kernel, rfl, by decide +kernel, by decide +kernel⟩
theorem bi_source_of {K : PySem.W.Frag} {f : Addr} {fd : FuncData} (F : Fun K "source_of" "source_of" (top 9) f fd) : Binds K fd ["plan", "point"] [] := F.binds fun _ _ _ _ _ _ us hl => match us, hl with | [_, _], _ => rfl
theorem w_source_of {P : Program} {w : World} {K : PySem.W.Frag} {mg : Str → Option Value} {base : Heap} {f : Addr} {fd : FuncData} (F : Fun K "source_of" "source_of" (top 9) f fd) (hm : mg "source_of" = some (.ref f))  (c_source_and_bar : DCal P w K mg base 3 "source_and_bar" ev_source_and_bar) : DCal P w K mg base 4 "source_of" ev_source_of :=
  DCal.mk' (N := ["plan", "point"]) (ps := ["plan", "point"]) (n := 2) (bd := bd_source_of) F hm (bi_source_of F) sc_source_of rfl (fun cdv A outer s H E hr =>
    have hu := roomU hr
    have hu4 := roomU4 hr
    have nd := sc_source_of.nd
    (dss_one (ds_ret (de_ix ix_d (DE.tb (DF.te (df_call c_source_and_bar hr (da_cons (de_v 0) (da_cons (de_v 1) da_nil))))) (DE.tb de_int)))))

theorem sc_undoing : FnScope ["plan", "a", "b", "c", "d", "e", "f", "area", "back", "x", "y"] ["plan"] (defScope (top 12)) := ⟨rfl, rfl, rfl, by decide +kernel, rfl, by decide +kernel, by decide +kernel⟩
theorem bi_undoing {K : PySem.W.Frag} {f : Addr} {fd : FuncData} (F : Fun K "undoing" "undoing" (top 12) f fd) : Binds K fd ["plan"] [] := F.binds fun _ _ _ _ _ _ us hl => match us, hl with | [_], _ => rfl
theorem w_undoing {P : Program} {w : World} {K : PySem.W.Frag} {mg : Str → Option Value} {base : Heap} {f : Addr} {fd : FuncData} (F : Fun K "undoing" "undoing" (top 12) f fd) (hm : mg "undoing" = some (.ref f)) (b_abs : mg "abs" = none) (c_area_of : DCal P w K mg base 1 "area_of" ev_area_of) (c_sent_to : DCal P w K mg base 1 "sent_to" ev_sent_to) : DCal P w K mg base 2 "undoing" ev_undoing :=
  DCal.mk' (N := ["plan", "a", "b", "c", "d", "e", "f", "area", "back", "x", "y"]) (ps := ["plan"]) (n := 1) (bd := bd_undoing) F hm (bi_undoing F) sc_undoing rfl (fun cdv A outer s H E hr =>
    have hu := roomU hr
    have hu4 := roomU4 hr
    have nd := sc_undoing.nd
    (dss_cons (ds_asg (de_v 0) (dg_tup rfl (dgs_cons (dg_name 1 nd) (dgs_cons (dg_name 2 nd) (dgs_cons (dg_name 3 nd) (dgs_cons (dg_name 4 nd) (dgs_cons (dg_name 5 nd) (dgs_cons (dg_name 6 nd) dgs_nil))))))))
  (dss_cons (ds_set (i := 7) (DF.te (df_call c_area_of hr (da_cons (de_v 0) da_nil))) nd)
  (dss_cons (ds_if (dt_cmp (od_ne hu4) (DE.tb (de_callB cd_abs rfl b_abs (by decide +kernel) (dab_cons (db_v 7) dab_nil))) (DE.tb de_int)) (dss_one (ds_ret de_non)) dss_nil)
  (dss_cons (ds_set (i := 8) (de_tup (da_cons (de_op od_mulA (db_v 7) (db_v 4)) (da_cons (de_op od_mulA (DE.tb (de_neg (de_v 7))) (db_v 2)) (da_cons (de_op od_mulA (DE.tb (de_neg (de_v 7))) (db_v 3)) (da_cons (de_op od_mulA (db_v 7) (db_v 1)) (da_cons de_int (da_cons de_int da_nil))))))) nd)
  (dss_cons (ds_asg (DF.te (df_call c_sent_to hr (da_cons (de_v 8) (da_cons (de_tup (da_cons (de_v 5) (da_cons (de_v 6) da_nil))) da_nil)))) (dg_tup rfl (dgs_cons (dg_name 9 nd) (dgs_cons (dg_name 10 nd) dgs_nil))))
  (dss_one (ds_ret (de_op od_addA (DE.tb (de_slA (db_v 8) dp_none (dp_some de_int))) (DE.tb (de_tup (da_cons (de_neg (de_v 9)) (da_cons (de_neg (de_v 10)) da_nil)))))))))))))

theorem sc_missed_point : FnScope ["plan", "point"] ["plan"] (defScope (top 13)) := ⟨rfl, rfl, rfl, by decide +kernel, rfl, by decide +kernel, by decide +kernel⟩
theorem bi_missed_point {K : PySem.W.Frag} {f : Addr} {fd : FuncData} (F : Fun K "missed_point" "missed_point" (top 13) f fd) : Binds K fd ["plan"] [] := F.binds fun _ _ _ _ _ _ us hl => match us, hl with | [_], _ => rfl
theorem w_missed_point {P : Program} {w : World} {K : PySem.W.Frag} {mg : Str → Option Value} {base : Heap} {f : Addr} {fd : FuncData} (F : Fun K "missed_point" "missed_point" (top 13) f fd) (hm : mg "missed_point" = some (.ref f))  (c_source_of : DCal P w K mg base 4 "source_of" ev_source_of) : DCal P w K mg base 5 "missed_point" ev_missed_point :=
  DCal.mk' (N := ["plan", "point"]) (ps := ["plan"]) (n := 1) (bd := bd_missed_point) F hm (bi_missed_point F) sc_missed_point rfl (fun cdv A outer s H E hr =>
    have hu := roomU hr
    have hu4 := roomU4 hr
    have nd := sc_missed_point.nd
    (dss_cons (ds_for (di_e (DF.te (df_lst (da_cons (de_tup (da_cons (de_op od_addA (DE.tb (de_ix ix_d (db_v 0) (DE.tb de_int))) (DE.tb de_int)) (da_cons (de_ix ix_d (db_v 0) (DE.tb de_int)) da_nil))) (da_cons (de_tup (da_cons (de_ix ix_d (db_v 0) (DE.tb de_int)) (da_cons (de_op od_addA (DE.tb (de_ix ix_d (db_v 0) (DE.tb de_int))) (DE.tb de_int)) da_nil))) da_nil))))) (dg_name 1 nd) (dss_one (ds_if (dt_cmp od_isN (DE.tb (DF.te (df_call c_source_of hr (da_cons (de_v 0) (da_cons (de_v 1) da_nil))))) (DE.tb de_non)) (dss_one (ds_ret (de_v 1))) dss_nil)) rfl PassesOwn.never)
  (dss_one (ds_ret de_non))))

theorem sc__law_is_integers : FnScope ["value", "number"] ["value"] (defScope (top 19)) := ⟨rfl, rfl, rfl, by decide +kernel, rfl, by decide +kernel, by decide +kernel⟩
theorem bi__law_is_integers {K : PySem.W.Frag} {f : Addr} {fd : FuncData} (F : Fun K "_law_is_integers" "_law_is_integers" (top 19) f fd) : Binds K fd ["value"] [] := F.binds fun _ _ _ _ _ _ us hl => match us, hl with | [_], _ => rfl
theorem w__law_is_integers {P : Program} {w : World} {K : PySem.W.Frag} {mg : Str → Option Value} {base : Heap} {f : Addr} {fd : FuncData} (F : Fun K "_law_is_integers" "_law_is_integers" (top 19) f fd) (hm : mg "_law_is_integers" = some (.ref f)) (b_all : mg "all" = none) (b_isinstance : mg "isinstance" = none) (b_tuple : mg "tuple" = none) (c__law_is_integer : DCal P w K mg base 1 "_law_is_integer" ev__law_is_integer) : DCal P w K mg base 2 "_law_is_integers" ev__law_is_integers :=
  DCal.mk' (N := ["value", "number"]) (ps := ["value"]) (n := 1) (bd := bd__law_is_integers) F hm (bi__law_is_integers F) sc__law_is_integers rfl (fun cdv A outer s H E hr =>
    have hu := roomU hr
    have hu4 := roomU4 hr
    have nd := sc__law_is_integers.nd
    (dss_one (ds_ret (de_and (de_isi (Ts := "tuple") (by decide) rfl b_isinstance rfl b_tuple (by decide +kernel) (ha := (db_v 0))) (de_one (de_callB (cd_all rfl) rfl b_all (by decide +kernel) (dab_cons (DE.tb (DF.te (df_lc rfl nd [("number", 1)] (dib_e (db_v 0)) (fun _ _ _ _ _ => (dg_name 1 nd)) (fun _ _ _ _ _ => dts_nil) (fun _ _ _ _ _ => (DF.te (df_call c__law_is_integer hr (da_cons (de_v 1) da_nil)))) (blkOk_by (by rfl)) (by decide)))) dab_nil)))))))

theorem sc_bar_of : FnScope ["plan", "point"] ["plan", "point"] (defScope (top 10)) := ⟨rfl, rfl, rfl, by decide +kernel, rfl, by decide +kernel, by decide +kernel⟩
theorem bi_bar_of {K : PySem.W.Frag} {f : Addr} {fd : FuncData} (F : Fun K "bar_of" "bar_of" (top 10) f fd) : Binds K fd ["plan", "point"] [] := F.binds fun _ _ _ _ _ _ us hl => match us, hl with | [_, _], _ => rfl
theorem w_bar_of {P : Program} {w : World} {K : PySem.W.Frag} {mg : Str → Option Value} {base : Heap} {f : Addr} {fd : FuncData} (F : Fun K "bar_of" "bar_of" (top 10) f fd) (hm : mg "bar_of" = some (.ref f))  (c_source_and_bar : DCal P w K mg base 3 "source_and_bar" ev_source_and_bar) : DCal P w K mg base 4 "bar_of" ev_bar_of :=
  DCal.mk' (N := ["plan", "point"]) (ps := ["plan", "point"]) (n := 2) (bd := bd_bar_of) F hm (bi_bar_of F) sc_bar_of rfl (fun cdv A outer s H E hr =>
    have hu := roomU hr
    have hu4 := roomU4 hr
    have nd := sc_bar_of.nd
    (dss_one (ds_ret (de_ix ix_d (DE.tb (DF.te (df_call c_source_and_bar hr (da_cons (de_v 0) (da_cons (de_v 1) da_nil))))) (DE.tb de_int)))))

theorem sc__law_is_bar : FnScope ["plan", "point", "triple", "a", "b", "c", "d", "e", "f", "u", "v", "m"] ["plan", "point", "triple"] (defScope (top 22)) := ⟨rfl, rfl, rfl, by decide +kernel, rfl, by decide +kernel, by decide +kernel⟩
theorem bi__law_is_bar {K : PySem.W.Frag} {f : Addr} {fd : FuncData} (F : Fun K "_law_is_bar" "_law_is_bar" (top 22) f fd) : Binds K fd ["plan", "point", "triple"] [] := F.binds fun _ _ _ _ _ _ us hl => match us, hl with | [_, _, _], _ => rfl
theorem w__law_is_bar {P : Program} {w : World} {K : PySem.W.Frag} {mg : Str → Option Value} {base : Heap} {f : Addr} {fd : FuncData} (F : Fun K "_law_is_bar" "_law_is_bar" (top 22) f fd) (hm : mg "_law_is_bar" = some (.ref f)) (b_int : mg "int" = none)  : DCal P w K mg base 1 "_law_is_bar" ev__law_is_bar :=
  DCal.mk' (N := ["plan", "point", "triple", "a", "b", "c", "d", "e", "f", "u", "v", "m"]) (ps := ["plan", "point", "triple"]) (n := 3) (bd := bd__law_is_bar) F hm (bi__law_is_bar F) sc__law_is_bar rfl (fun cdv A outer s H E hr =>
    have hu := roomU hr
    have hu4 := roomU4 hr
    have nd := sc__law_is_bar.nd
    (dss_cons (ds_asg (de_v 0) (dg_tup rfl (dgs_cons (dg_name 3 nd) (dgs_cons (dg_name 4 nd) (dgs_cons (dg_name 5 nd) (dgs_cons (dg_name 6 nd) (dgs_cons (dg_name 7 nd) (dgs_cons (dg_name 8 nd) dgs_nil))))))))
  (dss_cons (ds_asg (de_v 2) (dg_tup rfl (dgs_cons (dg_name 9 nd) (dgs_cons (dg_name 10 nd) (dgs_cons (dg_name 11 nd) dgs_nil)))))
  (dss_cons (ds_if (DW.t (dw_or (dt_cmp od_lt (db_v 11) (DE.tb de_int)) (dw_or (dt_cmp od_gt (DE.tb (de_op od_mod (DE.tb (de_callT cd_int rfl b_int (by decide +kernel) (dab_cons (DE.tb (de_op od_addA (DE.tb (de_op od_mulA (db_v 9) (db_v 3))) (DE.tb (de_op od_mulA (db_v 10) (db_v 5))))) dab_nil))) (db_v 11))) (DE.tb de_int)) (dw_or1 (dt_cmp od_gt (DE.tb (de_op od_mod (DE.tb (de_callT cd_int rfl b_int (by decide +kernel) (dab_cons (DE.tb (de_op od_addA (DE.tb (de_op od_mulA (db_v 9) (db_v 4))) (DE.tb (de_op od_mulA (db_v 10) (db_v 6))))) dab_nil))) (db_v 11))) (DE.tb de_int)))))) (dss_one (ds_ret de_bl)) dss_nil)
  (dss_one (ds_ret (de_cmp od_gt (DE.tb (de_op od_mod (DE.tb (de_callT cd_int rfl b_int (by decide +kernel) (dab_cons (DE.tb (de_op od_addA (DE.tb (de_op od_mulA (db_v 9) (DE.tb (de_op od_sub (DE.tb (de_ix ix_d (db_v 1) (DE.tb de_int))) (db_v 7))))) (DE.tb (de_op od_mulA (db_v 10) (DE.tb (de_op od_sub (DE.tb (de_ix ix_d (db_v 1) (DE.tb de_int))) (db_v 8))))))) dab_nil))) (db_v 11))) (DE.tb de_int))))))))

theorem sc__law_judged : FnScope ["plan", "point", "source", "found"] ["plan", "point"] (defScope (top 25)) := ⟨rfl, rfl, rfl, by decide +kernel, rfl, by decide +kernel, by decide +kernel⟩
theorem bi__law_judged {K : PySem.W.Frag} {f : Addr} {fd : FuncData} (F : Fun K "_law_judged" "_law_judged" (top 25) f fd) : Binds K fd ["plan", "point"] [] := F.binds fun _ _ _ _ _ _ us hl => match us, hl with | [_, _], _ => rfl
theorem w__law_judged {P : Program} {w : World} {K : PySem.W.Frag} {mg : Str → Option Value} {base : Heap} {f : Addr} {fd : FuncData} (F : Fun K "_law_judged" "_law_judged" (top 25) f fd) (hm : mg "_law_judged" = some (.ref f)) (b_len : mg "len" = none) (c__law_is_bar : DCal P w K mg base 1 "_law_is_bar" ev__law_is_bar) (c__law_is_integers : DCal P w K mg base 2 "_law_is_integers" ev__law_is_integers) (c__law_sent : DCal P w K mg base 1 "_law_sent" ev__law_sent) (c_bar_of : DCal P w K mg base 4 "bar_of" ev_bar_of) (c_source_of : DCal P w K mg base 4 "source_of" ev_source_of) : DCal P w K mg base 5 "_law_judged" ev__law_judged :=
  DCal.mk' (N := ["plan", "point", "source", "found"]) (ps := ["plan", "point"]) (n := 2) (bd := bd__law_judged) F hm (bi__law_judged F) sc__law_judged rfl (fun cdv A outer s H E hr =>
    have hu := roomU hr
    have hu4 := roomU4 hr
    have nd := sc__law_judged.nd
    (dss_cons (ds_set (i := 2) (DF.te (df_call c_source_of hr (da_cons (de_v 0) (da_cons (de_v 1) da_nil)))) nd)
  (dss_cons (ds_set (i := 3) (DF.te (df_call c_bar_of hr (da_cons (de_v 0) (da_cons (de_v 1) da_nil)))) nd)
  (dss_cons (ds_if (dt_cmp (od_eq hu4) (DE.tb (de_cmp od_isN (db_v 2) (DE.tb de_non))) (DE.tb (de_cmp od_isN (db_v 3) (DE.tb de_non)))) (dss_one (ds_ret de_bl)) dss_nil)
  (dss_cons (ds_if (dt_cmp od_notN (db_v 2) (DE.tb de_non)) (dss_one (ds_ret (de_and (DF.te (df_call c__law_is_integers hr (da_cons (de_v 2) da_nil))) (de_and (de_cmp (od_eq hu4) (DE.tb (de_callB cd_len rfl b_len (by decide +kernel) (dab_cons (db_v 2) dab_nil))) (DE.tb de_int)) (de_one (de_cmp (od_eq hu4) (DE.tb (DF.te (df_call c__law_sent hr (da_cons (de_v 0) (da_cons (de_v 2) da_nil))))) (db_v 1))))))) dss_nil)
  (dss_one (ds_ret (de_and (DF.te (df_call c__law_is_integers hr (da_cons (de_v 3) da_nil))) (de_and (de_cmp (od_eq hu4) (DE.tb (de_callB cd_len rfl b_len (by decide +kernel) (dab_cons (db_v 3) dab_nil))) (DE.tb de_int)) (de_one (DF.te (df_call c__law_is_bar hr (da_cons (de_v 0) (da_cons (de_v 1) (da_cons (de_v 3) da_nil)))))))))))))))

theorem sc_is_bar : FnScope ["plan", "point", "triple", "a", "b", "c", "d", "e", "f", "u", "v", "m"] ["plan", "point", "triple"] (defScope (top 11)) := ⟨rfl, rfl, rfl, by decide +kernel, rfl, by decide +kernel, by decide +kernel⟩
theorem bi_is_bar {K : PySem.W.Frag} {f : Addr} {fd : FuncData} (F : Fun K "is_bar" "is_bar" (top 11) f fd) : Binds K fd ["plan", "point", "triple"] [] := F.binds fun _ _ _ _ _ _ us hl => match us, hl with | [_, _, _], _ => rfl
theorem w_is_bar {P : Program} {w : World} {K : PySem.W.Frag} {mg : Str → Option Value} {base : Heap} {f : Addr} {fd : FuncData} (F : Fun K "is_bar" "is_bar" (top 11) f fd) (hm : mg "is_bar" = some (.ref f))   : DCal P w K mg base 1 "is_bar" ev_is_bar :=
  DCal.mk' (N := ["plan", "point", "triple", "a", "b", "c", "d", "e", "f", "u", "v", "m"]) (ps := ["plan", "point", "triple"]) (n := 3) (bd := bd_is_bar) F hm (bi_is_bar F) sc_is_bar rfl (fun cdv A outer s H E hr =>
    have hu := roomU hr
    have hu4 := roomU4 hr
    have nd := sc_is_bar.nd
    (dss_cons (ds_asg (de_v 0) (dg_tup rfl (dgs_cons (dg_name 3 nd) (dgs_cons (dg_name 4 nd) (dgs_cons (dg_name 5 nd) (dgs_cons (dg_name 6 nd) (dgs_cons (dg_name 7 nd) (dgs_cons (dg_name 8 nd) dgs_nil))))))))
  (dss_cons (ds_asg (de_v 2) (dg_tup rfl (dgs_cons (dg_name 9 nd) (dgs_cons (dg_name 10 nd) (dgs_cons (dg_name 11 nd) dgs_nil)))))
  (dss_cons (ds_if (DW.t (dw_or (dt_cmp od_lt (db_v 11) (DE.tb de_int)) (dw_or (dt_cmp (od_ne hu4) (DE.tb (de_op od_mod (DE.tb (de_op od_addA (DE.tb (de_op od_mulA (db_v 9) (db_v 3))) (DE.tb (de_op od_mulA (db_v 10) (db_v 5))))) (db_v 11))) (DE.tb de_int)) (dw_or1 (dt_cmp (od_ne hu4) (DE.tb (de_op od_mod (DE.tb (de_op od_addA (DE.tb (de_op od_mulA (db_v 9) (db_v 4))) (DE.tb (de_op od_mulA (db_v 10) (db_v 6))))) (db_v 11))) (DE.tb de_int)))))) (dss_one (ds_ret de_bl)) dss_nil)
  (dss_one (ds_ret (de_cmp (od_ne hu4) (DE.tb (de_op od_mod (DE.tb (de_op od_addA (DE.tb (de_op od_mulA (db_v 9) (DE.tb (de_op od_sub (DE.tb (de_ix ix_d (db_v 1) (DE.tb de_int))) (db_v 7))))) (DE.tb (de_op od_mulA (db_v 10) (DE.tb (de_op od_sub (DE.tb (de_ix ix_d (db_v 1) (DE.tb de_int))) (db_v 8))))))) (db_v 11))) (DE.tb de_int))))))))

theorem sc__law_asked : FnScope ["plan", "point", "draws", "found", "u", "v", "m", "step", "rows", "row"] ["plan", "point", "draws"] (defScope (top 26)) := ⟨rfl, rfl, rfl, by decide +kernel, rfl, by decide +kernel, by decide +kernel⟩
theorem bi__law_asked {K : PySem.W.Frag} {f : Addr} {fd : FuncData} (F : Fun K "_law_asked" "_law_asked" (top 26) f fd) : Binds K fd ["plan", "point", "draws"] [] := F.binds fun _ _ _ _ _ _ us hl => match us, hl with | [_, _, _], _ => rfl
theorem w__law_asked {P : Program} {w : World} {K : PySem.W.Frag} {mg : Str → Option Value} {base : Heap} {f : Addr} {fd : FuncData} (F : Fun K "_law_asked" "_law_asked" (top 26) f fd) (hm : mg "_law_asked" = some (.ref f)) (b_abs : mg "abs" = none) (b_all : mg "all" = none) (b_int : mg "int" = none) (c__law_is : DCal P w K mg base 21 "_law_is" (ev__law_is 20)) (c__law_is_bar : DCal P w K mg base 1 "_law_is_bar" ev__law_is_bar) (c_bar_of : DCal P w K mg base 4 "bar_of" ev_bar_of) (c_is_bar : DCal P w K mg base 1 "is_bar" ev_is_bar) : DCal P w K mg base 22 "_law_asked" ev__law_asked :=
  DCal.mk' (N := ["plan", "point", "draws", "found", "u", "v", "m", "step", "rows", "row"]) (ps := ["plan", "point", "draws"]) (n := 3) (bd := bd__law_asked) F hm (bi__law_asked F) sc__law_asked rfl (fun cdv A outer s H E hr =>
    have hu := roomU hr
    have hu4 := roomU4 hr
    have nd := sc__law_asked.nd
    (dss_cons (ds_set (i := 3) (DF.te (df_call c_bar_of hr (da_cons (de_v 0) (da_cons (de_v 1) da_nil)))) nd)
  (dss_cons (ds_asg (de_if (dt_cmp od_notN (db_v 3) (DE.tb de_non)) (de_v 3) (de_tup (da_cons (de_op od_sub (DE.tb (de_op od_mod (DE.tb (de_callT cd_int rfl b_int (by decide +kernel) (dab_cons (DE.tb (de_ix ix_d (db_v 2) (DE.tb de_int))) dab_nil))) (DE.tb de_int))) (DE.tb de_int)) (da_cons (de_op od_sub (DE.tb (de_op od_mod (DE.tb (de_callT cd_int rfl b_int (by decide +kernel) (dab_cons (DE.tb (de_ix ix_d (db_v 2) (DE.tb de_int))) dab_nil))) (DE.tb de_int))) (DE.tb de_int)) (da_cons (de_op od_addA (DE.tb (de_op od_mod (DE.tb (de_callT cd_int rfl b_int (by decide +kernel) (dab_cons (DE.tb (de_ix ix_d (db_v 2) (DE.tb de_int))) dab_nil))) (DE.tb de_int))) (DE.tb de_int)) da_nil))))) (dg_tup rfl (dgs_cons (dg_name 4 nd) (dgs_cons (dg_name 5 nd) (dgs_cons (dg_name 6 nd) dgs_nil)))))
  (dss_cons (ds_set (i := 7) (de_op od_sub (DE.tb (de_op od_mod (DE.tb (de_callT cd_int rfl b_int (by decide +kernel) (dab_cons (DE.tb (de_ix ix_d (db_v 2) (DE.tb de_int))) dab_nil))) (DE.tb de_int))) (DE.tb de_int)) nd)
  (dss_cons (ds_own (i := 8) (df_lst (da_cons (de_tup (da_cons (de_v 4) (da_cons (de_v 5) (da_cons (de_v 6) da_nil)))) (da_cons (de_tup (da_cons (de_v 4) (da_cons (de_v 5) (da_cons (de_op od_addA (db_v 6) (db_v 7)) da_nil)))) (da_cons (de_tup (da_cons (de_op od_addA (db_v 4) (db_v 7)) (da_cons (de_v 5) (da_cons (de_v 6) da_nil)))) (da_cons (de_tup (da_cons (de_v 4) (da_cons (de_op od_addA (db_v 5) (db_v 7)) (da_cons (de_v 6) da_nil)))) (da_cons (de_tup (da_cons (de_v 4) (da_cons (de_v 5) (da_cons (de_op od_sub (DE.tb de_int) (db_v 6)) da_nil)))) (da_cons (de_tup (da_cons (de_v 4) (da_cons (de_v 5) (da_cons de_int da_nil)))) (da_cons (de_tup (da_cons (de_v 4) (da_cons (de_v 5) (da_cons de_int da_nil)))) da_nil)))))))) nd)
  (dss_cons (ds_own (i := 8) (df_op of_cat (db_v 8) (DE.tb (DF.te (df_lst (da_cons (de_tup (da_cons (de_op od_mulA (DE.tb de_int) (db_v 4)) (da_cons (de_op od_mulA (DE.tb de_int) (db_v 5)) (da_cons (de_op od_mulA (DE.tb de_int) (db_v 6)) da_nil)))) (da_cons (de_tup (da_cons (de_v 4) (da_cons (de_v 5) (da_cons (de_op od_mulA (DE.tb de_int) (db_v 6)) da_nil)))) (da_cons (de_tup (da_cons (de_op od_addA (db_v 4) (db_v 6)) (da_cons (de_op od_sub (db_v 5) (DE.tb (de_op od_mulA (DE.tb de_int) (db_v 6)))) (da_cons (de_v 6) da_nil)))) (da_cons (de_tup (da_cons (de_v 5) (da_cons (de_v 4) (da_cons (de_v 6) da_nil)))) (da_cons (de_tup (da_cons de_int (da_cons de_int (da_cons (de_v 6) da_nil)))) da_nil))))))))) nd)
  (dss_cons (ds_app 8 (de_tup (da_cons (de_op od_pow (DE.tb de_int) (DE.tb de_int)) (da_cons de_int (da_cons (de_op od_pow (DE.tb de_int) (DE.tb de_int)) da_nil)))))
  (dss_cons (ds_own (i := 8) (df_op of_cat (db_v 8) (DE.tb (DF.te (df_lst (da_cons (de_tup (da_cons (de_ix ix_d (db_v 0) (DE.tb de_int)) (da_cons (de_op od_sub (DE.tb de_int) (DE.tb (de_ix ix_d (db_v 0) (DE.tb de_int)))) (da_cons (de_op od_addA (DE.tb (de_callB cd_abs rfl b_abs (by decide +kernel) (dab_cons (db_v 7) dab_nil))) (DE.tb de_int)) da_nil)))) (da_cons (de_tup (da_cons (de_op od_sub (DE.tb de_int) (DE.tb (de_ix ix_d (db_v 0) (DE.tb de_int)))) (da_cons (de_ix ix_d (db_v 0) (DE.tb de_int)) (da_cons (de_v 6) da_nil)))) (da_cons (de_tup (da_cons de_int (da_cons de_int (da_cons de_int da_nil)))) (da_cons (de_tup (da_cons de_int (da_cons de_int (da_cons de_int da_nil)))) da_nil)))))))) nd)
  (dss_one (ds_ret (de_callB (cd_all rfl) rfl b_all (by decide +kernel) (dab_cons (DE.tb (DF.te (df_lc rfl nd [("row", 9)] (dib_e (db_v 8)) (fun _ _ _ _ _ => (dg_name 9 nd)) (fun _ _ _ _ _ => dts_nil) (fun _ _ _ _ _ => (DF.te (df_call c__law_is hr (da_cons (DF.te (df_call c_is_bar hr (da_cons (de_v 0) (da_cons (de_v 1) (da_cons (de_v 9) da_nil))))) (da_cons (DF.te (df_call c__law_is_bar hr (da_cons (de_v 0) (da_cons (de_v 1) (da_cons (de_v 9) da_nil))))) da_nil))))) (blkOk_by (by rfl)) (by decide)))) dab_nil))))))))))))

theorem sc__law_right : FnScope ["plan", "points", "draws", "area", "point", "back", "due"] ["plan", "points", "draws"] (defScope (top 27)) := ⟨rfl, rfl, rfl, by decide +kernel, rfl, by decide +kernel, by decide +kernel⟩
theorem bi__law_right {K : PySem.W.Frag} {f : Addr} {fd : FuncData} (F : Fun K "_law_right" "_law_right" (top 27) f fd) : Binds K fd ["plan", "points", "draws"] [] := F.binds fun _ _ _ _ _ _ us hl => match us, hl with | [_, _, _], _ => rfl
theorem w__law_right {P : Program} {w : World} {K : PySem.W.Frag} {mg : Str → Option Value} {base : Heap} {f : Addr} {fd : FuncData} (F : Fun K "_law_right" "_law_right" (top 27) f fd) (hm : mg "_law_right" = some (.ref f)) (b_len : mg "len" = none) (c__law_after : DCal P w K mg base 2 "_law_after" ev__law_after) (c__law_asked : DCal P w K mg base 22 "_law_asked" ev__law_asked) (c__law_is : DCal P w K mg base 21 "_law_is" (ev__law_is 20)) (c__law_is_integers : DCal P w K mg base 2 "_law_is_integers" ev__law_is_integers) (c__law_judged : DCal P w K mg base 5 "_law_judged" ev__law_judged) (c__law_sent : DCal P w K mg base 1 "_law_sent" ev__law_sent) (c_missed_point : DCal P w K mg base 5 "missed_point" ev_missed_point) (c_sent_to : DCal P w K mg base 1 "sent_to" ev_sent_to) (c_source_of : DCal P w K mg base 4 "source_of" ev_source_of) (c_undoing : DCal P w K mg base 2 "undoing" ev_undoing) : DCal P w K mg base 23 "_law_right" ev__law_right :=
  DCal.mk' (N := ["plan", "points", "draws", "area", "point", "back", "due"]) (ps := ["plan", "points", "draws"]) (n := 3) (bd := bd__law_right) F hm (bi__law_right F) sc__law_right rfl (fun cdv A outer s H E hr =>
    have hu := roomU hr
    have hu4 := roomU4 hr
    have nd := sc__law_right.nd
    (dss_cons (ds_set (i := 3) (de_op od_sub (DE.tb (de_op od_mulA (DE.tb (de_ix ix_d (db_v 0) (DE.tb de_int))) (DE.tb (de_ix ix_d (db_v 0) (DE.tb de_int))))) (DE.tb (de_op od_mulA (DE.tb (de_ix ix_d (db_v 0) (DE.tb de_int))) (DE.tb (de_ix ix_d (db_v 0) (DE.tb de_int)))))) nd)
  (dss_cons (ds_for (di_e (de_v 1)) (dg_name 4 nd) (dss_cons (ds_if (dt_not (dt_val (DF.te (df_call c__law_is hr (da_cons (DF.te (df_call c_sent_to hr (da_cons (de_v 0) (da_cons (de_v 4) da_nil)))) (da_cons (DF.te (df_call c__law_sent hr (da_cons (de_v 0) (da_cons (de_v 4) da_nil)))) da_nil)))))) (dss_one (ds_ret de_bl)) dss_nil)
  (dss_one (ds_if (DW.t (dw_or (dt_not (dt_val (DF.te (df_call c__law_judged hr (da_cons (de_v 0) (da_cons (de_v 4) da_nil)))))) (dw_or1 (dt_not (dt_val (DF.te (df_call c__law_asked hr (da_cons (de_v 0) (da_cons (de_v 4) (da_cons (de_v 2) da_nil)))))))))) (dss_one (ds_ret de_bl)) dss_nil))) rfl PassesOwn.never)
  (dss_cons (ds_set (i := 5) (DF.te (df_call c_undoing hr (da_cons (de_v 0) da_nil))) nd)
  (dss_cons (ds_if (dt_cmp (od_ne hu4) (DE.tb (de_cmp od_notN (db_v 5) (DE.tb de_non))) (DE.tb (de_cmp (od_in hu) (db_v 3) (DE.tb (de_tup (da_cons de_int (da_cons (de_op od_sub (DE.tb de_int) (DE.tb de_int)) da_nil))))))) (dss_one (ds_ret de_bl)) dss_nil)
  (dss_cons (ds_if (dt_cmp od_notN (db_v 5) (DE.tb de_non)) (dss_cons (ds_if (DW.t (dw_or (dt_not (dt_val (DF.te (df_call c__law_is_integers hr (da_cons (de_v 5) da_nil))))) (dw_or1 (dt_cmp (od_ne hu4) (DE.tb (de_callB cd_len rfl b_len (by decide +kernel) (dab_cons (db_v 5) dab_nil))) (DE.tb de_int))))) (dss_one (ds_ret de_bl)) dss_nil)
  (dss_one (ds_if (DW.t (dw_or (dt_cmp (od_ne hu4) (DE.tb (DF.te (df_call c__law_after hr (da_cons (de_v 0) (da_cons (de_v 5) da_nil))))) (DE.tb (de_tup (da_cons de_int (da_cons de_int (da_cons de_int (da_cons de_int (da_cons de_int (da_cons de_int da_nil))))))))) (dw_or1 (dt_cmp (od_ne hu4) (DE.tb (DF.te (df_call c__law_after hr (da_cons (de_v 5) (da_cons (de_v 0) da_nil))))) (DE.tb (de_tup (da_cons de_int (da_cons de_int (da_cons de_int (da_cons de_int (da_cons de_int (da_cons de_int da_nil)))))))))))) (dss_one (ds_ret de_bl)) dss_nil))) dss_nil)
  (dss_cons (ds_set (i := 6) de_non nd)
  (dss_cons (ds_for (di_e (de_tup (da_cons (de_tup (da_cons (de_ix ix_d (db_v 0) (DE.tb de_int)) (da_cons (de_op od_addA (DE.tb (de_ix ix_d (db_v 0) (DE.tb de_int))) (DE.tb de_int)) da_nil))) (da_cons (de_tup (da_cons (de_op od_addA (DE.tb (de_ix ix_d (db_v 0) (DE.tb de_int))) (DE.tb de_int)) (da_cons (de_ix ix_d (db_v 0) (DE.tb de_int)) da_nil))) da_nil)))) (dg_name 4 nd) (dss_cons (ds_if (dt_not (dt_val (DF.te (df_call c__law_judged hr (da_cons (de_v 0) (da_cons (de_v 4) da_nil)))))) (dss_one (ds_ret de_bl)) dss_nil)
  (dss_one (ds_if (dt_cmp od_isN (DE.tb (DF.te (df_call c_source_of hr (da_cons (de_v 0) (da_cons (de_v 4) da_nil))))) (DE.tb de_non)) (dss_one (ds_set (i := 6) (de_v 4) nd)) dss_nil))) rfl PassesOwn.never)
  (dss_one (ds_ret (de_and (DF.te (df_call c__law_is hr (da_cons (DF.te (df_call c_missed_point hr (da_cons (de_v 0) da_nil))) (da_cons (de_v 6) da_nil)))) (de_one (de_cmp (od_eq hu4) (DE.tb (de_cmp od_isN (db_v 6) (DE.tb de_non))) (DE.tb (de_cmp od_notN (db_v 5) (DE.tb de_non))))))))))))))))

theorem sc_law : FnScope ["script", "k", "draws", "part", "plan", "other", "seed", "image", "points"] ["script"] (defScope (top 28)) := ⟨rfl, rfl, rfl, by decide +kernel, rfl, by decide +kernel, by decide +kernel⟩
theorem bi_law {K : PySem.W.Frag} {f : Addr} {fd : FuncData} (F : Fun K "law" "law" (top 28) f fd) : Binds K fd ["script"] [] := F.binds fun _ _ _ _ _ _ us hl => match us, hl with | [_], _ => rfl
theorem wl_law {P : Program} {w : World} {K : PySem.W.Frag} {mg : Str → Option Value} {base : Heap} {f : Addr} {fd : FuncData} (F : Fun K "law" "law" (top 28) f fd) (hm : mg "law" = some (.ref f)) (b_int : mg "int" = none) (b_max : mg "max" = none) (b_range : mg "range" = none) (c__law_after : DCal P w K mg base 2 "_law_after" ev__law_after) (c__law_cell : DCal P w K mg base 1 "_law_cell" ev__law_cell) (c__law_draws : DCal P w K mg base 1 "_law_draws" ev__law_draws) (c__law_fits : DCal P w K mg base 1 "_law_fits" ev__law_fits) (c__law_is : DCal P w K mg base 21 "_law_is" (ev__law_is 20)) (c__law_plan : DCal P w K mg base 3 "_law_plan" ev__law_plan) (c__law_right : DCal P w K mg base 23 "_law_right" ev__law_right) (c__law_sent : DCal P w K mg base 1 "_law_sent" ev__law_sent) (c_plan_after : DCal P w K mg base 2 "plan_after" ev_plan_after) : FnOk P w K mg base CX0 24 f fd ["script"] (spD K ev_law) :=
  fnD (N := ["script", "k", "draws", "part", "plan", "other", "seed", "image", "points"]) (ps := ["script"]) (n := 1) (bd := bd_law) F sc_law rfl (fun cdv A outer s H E hr =>
    have hu := roomU hr
    have hu4 := roomU4 hr
    have nd := sc_law.nd
    (dss_cons (ds_for (di_range1 rfl b_range (da_cons de_int da_nil)) (dg_name 1 nd) (dss_cons (ds_set (i := 2) (DF.te (df_call c__law_draws hr (da_cons (DF.te (df_call c__law_cell hr (da_cons (de_v 0) (da_cons (de_op od_mulA (DE.tb de_int) (db_v 1)) da_nil)))) (da_cons de_int da_nil)))) nd)
  (dss_cons (ds_set (i := 3) (DF.te (df_call c__law_draws hr (da_cons (DF.te (df_call c__law_cell hr (da_cons (de_v 0) (da_cons (de_op od_addA (DE.tb (de_op od_mulA (DE.tb de_int) (db_v 1))) (DE.tb de_int)) da_nil)))) (da_cons de_int da_nil)))) nd)
  (dss_cons (ds_set (i := 4) (DF.te (df_call c__law_fits hr (da_cons (DF.te (df_call c__law_plan hr (da_cons (de_v 2) da_nil))) da_nil))) nd)
  (dss_cons (ds_set (i := 5) (DF.te (df_call c__law_fits hr (da_cons (DF.te (df_call c__law_plan hr (da_cons (de_v 3) da_nil))) da_nil))) nd)
  (dss_cons (ds_if (dt_not (dt_val (DF.te (df_call c__law_is hr (da_cons (DF.te (df_call c_plan_after hr (da_cons (de_v 4) (da_cons (de_v 5) da_nil)))) (da_cons (DF.te (df_call c__law_after hr (da_cons (de_v 4) (da_cons (de_v 5) da_nil)))) da_nil)))))) (dss_one (ds_ret de_bl)) dss_nil)
  (dss_cons (ds_if (dt_not (dt_val (DF.te (df_call c__law_is hr (da_cons (DF.te (df_call c_plan_after hr (da_cons (de_v 5) (da_cons (de_v 4) da_nil)))) (da_cons (DF.te (df_call c__law_after hr (da_cons (de_v 5) (da_cons (de_v 4) da_nil)))) da_nil)))))) (dss_one (ds_ret de_bl)) dss_nil)
  (dss_cons (ds_set (i := 6) (de_tup (da_cons (de_op od_sub (DE.tb (de_op od_mod (DE.tb (de_callT cd_int rfl b_int (by decide +kernel) (dab_cons (DE.tb (de_ix ix_d (db_v 2) (DE.tb de_int))) dab_nil))) (DE.tb de_int))) (DE.tb de_int)) (da_cons (de_op od_sub (DE.tb (de_op od_mod (DE.tb (de_callT cd_int rfl b_int (by decide +kernel) (dab_cons (DE.tb (de_ix ix_d (db_v 2) (DE.tb de_int))) dab_nil))) (DE.tb de_int))) (DE.tb de_int)) da_nil))) nd)
  (dss_cons (ds_set (i := 7) (DF.te (df_call c__law_fits hr (da_cons (DF.te (df_call c__law_sent hr (da_cons (de_v 4) (da_cons (de_v 6) da_nil)))) da_nil))) nd)
  (dss_cons (ds_own (i := 8) (df_lst (da_cons (de_v 7) (da_cons (de_tup (da_cons (de_ix ix_d (db_v 7) (DE.tb de_int)) (da_cons (de_op od_sub (DE.tb (de_ix ix_d (db_v 7) (DE.tb de_int))) (DE.tb de_int)) da_nil))) (da_cons (de_tup (da_cons (de_op od_sub (DE.tb (de_callT cd_int rfl b_int (by decide +kernel) (dab_cons (DE.tb (de_ix ix_d (db_v 2) (DE.tb de_int))) dab_nil))) (DE.tb de_int)) (da_cons (de_op od_sub (DE.tb (de_op od_mod (DE.tb (de_callT cd_int rfl b_int (by decide +kernel) (dab_cons (DE.tb (de_ix ix_d (db_v 2) (DE.tb de_int))) dab_nil))) (DE.tb de_int))) (DE.tb de_int)) da_nil))) (da_cons (de_tup (da_cons (de_ix ix_d (db_v 4) (DE.tb de_int)) (da_cons (de_ix ix_d (db_v 4) (DE.tb de_int)) da_nil))) da_nil))))) nd)
  (dss_cons (ds_app 8 (de_tup (da_cons (de_callB (cd_max rfl) rfl b_max (by decide +kernel) (dab_cons (DE.tb (de_op od_sub (DE.tb de_int) (DE.tb (de_op od_pow (DE.tb de_int) (DE.tb de_int))))) (dab_cons (DE.tb (de_op od_sub (DE.tb (de_ix ix_d (db_v 7) (DE.tb de_int))) (DE.tb de_int))) dab_nil))) (da_cons (de_ix ix_d (db_v 7) (DE.tb de_int)) da_nil))))
  (dss_one (ds_lock 8 (ds_if (DW.t (dw_or (dt_not (dt_val (DF.te (df_call c__law_right hr (da_cons (de_v 4) (da_cons (de_v 8) (da_cons (de_slA (db_v 2) (dp_some de_int) dp_none) da_nil))))))) (dw_or1 (dt_not (dt_val (DF.te (df_call c__law_right hr (da_cons (de_v 5) (da_cons (de_slA (db_v 8) (dp_some de_int) dp_none) (da_cons (de_slA (db_v 2) (dp_some de_int) dp_none) da_nil)))))))))) (dss_one (ds_ret de_bl)) dss_nil))))))))))))) rfl PassesOwn.never)
  (dss_cons (ds_if (dt_not (dt_val (DF.te (df_call c__law_right hr (da_cons (de_tup (da_cons de_int (da_cons de_int (da_cons de_int (da_cons de_int (da_cons de_int (da_cons de_int da_nil))))))) (da_cons (DF.te (df_lst (da_cons (de_tup (da_cons de_int (da_cons de_int da_nil))) (da_cons (de_tup (da_cons de_int (da_cons de_int da_nil))) (da_cons (de_tup (da_cons de_int (da_cons de_int da_nil))) da_nil))))) (da_cons (de_tup (da_cons de_int (da_cons de_int (da_cons de_int (da_cons de_int da_nil))))) da_nil))))))) (dss_one (ds_ret de_bl)) dss_nil)
  (dss_one (ds_ret (DF.te (df_call c__law_right hr (da_cons (de_tup (da_cons de_int (da_cons de_int (da_cons de_int (da_cons de_int (da_cons de_int (da_cons de_int da_nil))))))) (da_cons (DF.te (df_lst (da_cons (de_tup (da_cons de_int (da_cons de_int da_nil))) (da_cons (de_tup (da_cons de_int (da_cons de_int da_nil))) (da_cons (de_tup (da_cons de_int (da_cons de_int da_nil))) (da_cons (de_tup (da_cons de_int (da_cons de_int da_nil))) da_nil)))))) (da_cons (de_tup (da_cons de_int (da_cons de_int (da_cons de_int (da_cons de_int da_nil))))) da_nil))))))))))

theorem all_mk {l : PySem.W.OpenLaw} {w : World} {K : PySem.W.Frag} {h : Heap} {mg : Str → Option Value} {fa : Addr} (X : K.In h) (G : h.Ns mainGlobals mg) (hfa : mg "law" = some (.ref fa))
    {f0 : Addr} {od0 an0 : Option Addr} {sl0 : Array (Option Value)} {oc0 kV0 dc0 pm0 cd0 ct0 : Value}
    (a0 : PySem.W.nsIn K mainGlobals "sent_to" = some (some (.ref f0))) (l0 : K.lookup f0 = some ⟨oc0, od0, .func (PySem.W.fnOf "sent_to" "sent_to" (defArgs (top 1)) (defBody (top 1)) (defScope (top 1)) .none kV0 dc0 pm0 an0 cd0 ct0), sl0⟩) (c0 : PySem.W.codeIn K cd0 "sent_to" = true) (k0 : PySem.W.keepIn K (.ref f0) = true)
    {f1 : Addr} {od1 an1 : Option Addr} {sl1 : Array (Option Value)} {oc1 kV1 dc1 pm1 cd1 ct1 : Value}
    (a1 : PySem.W.nsIn K mainGlobals "plan_after" = some (some (.ref f1))) (l1 : K.lookup f1 = some ⟨oc1, od1, .func (PySem.W.fnOf "plan_after" "plan_after" (defArgs (top 2)) (defBody (top 2)) (defScope (top 2)) .none kV1 dc1 pm1 an1 cd1 ct1), sl1⟩) (c1 : PySem.W.codeIn K cd1 "plan_after" = true) (k1 : PySem.W.keepIn K (.ref f1) = true)
    {f2 : Addr} {od2 an2 : Option Addr} {sl2 : Array (Option Value)} {oc2 kV2 dc2 pm2 cd2 ct2 : Value}
    (a2 : PySem.W.nsIn K mainGlobals "_law_cell" = some (some (.ref f2))) (l2 : K.lookup f2 = some ⟨oc2, od2, .func (PySem.W.fnOf "_law_cell" "_law_cell" (defArgs (top 15)) (defBody (top 15)) (defScope (top 15)) .none kV2 dc2 pm2 an2 cd2 ct2), sl2⟩) (c2 : PySem.W.codeIn K cd2 "_law_cell" = true) (k2 : PySem.W.keepIn K (.ref f2) = true)
    {f3 : Addr} {od3 an3 : Option Addr} {sl3 : Array (Option Value)} {oc3 kV3 dc3 pm3 cd3 ct3 : Value}
    (a3 : PySem.W.nsIn K mainGlobals "_law_draws" = some (some (.ref f3))) (l3 : K.lookup f3 = some ⟨oc3, od3, .func (PySem.W.fnOf "_law_draws" "_law_draws" (defArgs (top 16)) (defBody (top 16)) (defScope (top 16)) .none kV3 dc3 pm3 an3 cd3 ct3), sl3⟩) (c3 : PySem.W.codeIn K cd3 "_law_draws" = true) (k3 : PySem.W.keepIn K (.ref f3) = true)
    {f4 : Addr} {od4 an4 : Option Addr} {sl4 : Array (Option Value)} {oc4 kV4 dc4 pm4 cd4 ct4 : Value}
    (a4 : PySem.W.nsIn K mainGlobals "_law_is_integer" = some (some (.ref f4))) (l4 : K.lookup f4 = some ⟨oc4, od4, .func (PySem.W.fnOf "_law_is_integer" "_law_is_integer" (defArgs (top 17)) (defBody (top 17)) (defScope (top 17)) .none kV4 dc4 pm4 an4 cd4 ct4), sl4⟩) (c4 : PySem.W.codeIn K cd4 "_law_is_integer" = true) (k4 : PySem.W.keepIn K (.ref f4) = true)
    {f5 : Addr} {od5 an5 : Option Addr} {sl5 : Array (Option Value)} {oc5 kV5 dc5 pm5 cd5 ct5 : Value}
    (a5 : PySem.W.nsIn K mainGlobals "_law_is" = some (some (.ref f5))) (l5 : K.lookup f5 = some ⟨oc5, od5, .func (PySem.W.fnOf "_law_is" "_law_is" (defArgs (top 18)) (defBody (top 18)) (defScope (top 18)) .none kV5 dc5 pm5 an5 cd5 ct5), sl5⟩) (c5 : PySem.W.codeIn K cd5 "_law_is" = true) (k5 : PySem.W.keepIn K (.ref f5) = true)
    {f6 : Addr} {od6 an6 : Option Addr} {sl6 : Array (Option Value)} {oc6 kV6 dc6 pm6 cd6 ct6 : Value}
    (a6 : PySem.W.nsIn K mainGlobals "_law_sent" = some (some (.ref f6))) (l6 : K.lookup f6 = some ⟨oc6, od6, .func (PySem.W.fnOf "_law_sent" "_law_sent" (defArgs (top 20)) (defBody (top 20)) (defScope (top 20)) .none kV6 dc6 pm6 an6 cd6 ct6), sl6⟩) (c6 : PySem.W.codeIn K cd6 "_law_sent" = true) (k6 : PySem.W.keepIn K (.ref f6) = true)
    {f7 : Addr} {od7 an7 : Option Addr} {sl7 : Array (Option Value)} {oc7 kV7 dc7 pm7 cd7 ct7 : Value}
    (a7 : PySem.W.nsIn K mainGlobals "_law_after" = some (some (.ref f7))) (l7 : K.lookup f7 = some ⟨oc7, od7, .func (PySem.W.fnOf "_law_after" "_law_after" (defArgs (top 21)) (defBody (top 21)) (defScope (top 21)) .none kV7 dc7 pm7 an7 cd7 ct7), sl7⟩) (c7 : PySem.W.codeIn K cd7 "_law_after" = true) (k7 : PySem.W.keepIn K (.ref f7) = true)
    {f8 : Addr} {od8 an8 : Option Addr} {sl8 : Array (Option Value)} {oc8 kV8 dc8 pm8 cd8 ct8 : Value}
    (a8 : PySem.W.nsIn K mainGlobals "_law_plan" = some (some (.ref f8))) (l8 : K.lookup f8 = some ⟨oc8, od8, .func (PySem.W.fnOf "_law_plan" "_law_plan" (defArgs (top 23)) (defBody (top 23)) (defScope (top 23)) .none kV8 dc8 pm8 an8 cd8 ct8), sl8⟩) (c8 : PySem.W.codeIn K cd8 "_law_plan" = true) (k8 : PySem.W.keepIn K (.ref f8) = true)
    {f9 : Addr} {od9 an9 : Option Addr} {sl9 : Array (Option Value)} {oc9 kV9 dc9 pm9 cd9 ct9 : Value}
    (a9 : PySem.W.nsIn K mainGlobals "_law_fits" = some (some (.ref f9))) (l9 : K.lookup f9 = some ⟨oc9, od9, .func (PySem.W.fnOf "_law_fits" "_law_fits" (defArgs (top 24)) (defBody (top 24)) (defScope (top 24)) .none kV9 dc9 pm9 an9 cd9 ct9), sl9⟩) (c9 : PySem.W.codeIn K cd9 "_law_fits" = true) (k9 : PySem.W.keepIn K (.ref f9) = true)
    {f10 : Addr} {od10 an10 : Option Addr} {sl10 : Array (Option Value)} {oc10 kV10 dc10 pm10 cd10 ct10 : Value}
    (a10 : PySem.W.nsIn K mainGlobals "area_of" = some (some (.ref f10))) (l10 : K.lookup f10 = some ⟨oc10, od10, .func (PySem.W.fnOf "area_of" "area_of" (defArgs (top 3)) (defBody (top 3)) (defScope (top 3)) .none kV10 dc10 pm10 an10 cd10 ct10), sl10⟩) (c10 : PySem.W.codeIn K cd10 "area_of" = true) (k10 : PySem.W.keepIn K (.ref f10) = true)
    {f11 : Addr} {od11 an11 : Option Addr} {sl11 : Array (Option Value)} {oc11 kV11 dc11 pm11 cd11 ct11 : Value}
    (a11 : PySem.W.nsIn K mainGlobals "solved" = some (some (.ref f11))) (l11 : K.lookup f11 = some ⟨oc11, od11, .func (PySem.W.fnOf "solved" "solved" (defArgs (top 5)) (defBody (top 5)) (defScope (top 5)) .none kV11 dc11 pm11 an11 cd11 ct11), sl11⟩) (c11 : PySem.W.codeIn K cd11 "solved" = true) (k11 : PySem.W.keepIn K (.ref f11) = true)
    {f12 : Addr} {od12 an12 : Option Addr} {sl12 : Array (Option Value)} {oc12 kV12 dc12 pm12 cd12 ct12 : Value}
    (a12 : PySem.W.nsIn K mainGlobals "bezout" = some (some (.ref f12))) (l12 : K.lookup f12 = some ⟨oc12, od12, .func (PySem.W.fnOf "bezout" "bezout" (defArgs (top 4)) (defBody (top 4)) (defScope (top 4)) .none kV12 dc12 pm12 an12 cd12 ct12), sl12⟩) (c12 : PySem.W.codeIn K cd12 "bezout" = true) (k12 : PySem.W.keepIn K (.ref f12) = true)
    {f13 : Addr} {od13 an13 : Option Addr} {sl13 : Array (Option Value)} {oc13 kV13 dc13 pm13 cd13 ct13 : Value}
    (a13 : PySem.W.nsIn K mainGlobals "normal_of" = some (some (.ref f13))) (l13 : K.lookup f13 = some ⟨oc13, od13, .func (PySem.W.fnOf "normal_of" "normal_of" (defArgs (top 6)) (defBody (top 6)) (defScope (top 6)) .none kV13 dc13 pm13 an13 cd13 ct13), sl13⟩) (c13 : PySem.W.codeIn K cd13 "normal_of" = true) (k13 : PySem.W.keepIn K (.ref f13) = true)
    {f14 : Addr} {od14 an14 : Option Addr} {sl14 : Array (Option Value)} {oc14 kV14 dc14 pm14 cd14 ct14 : Value}
    (a14 : PySem.W.nsIn K mainGlobals "solved_flat" = some (some (.ref f14))) (l14 : K.lookup f14 = some ⟨oc14, od14, .func (PySem.W.fnOf "solved_flat" "solved_flat" (defArgs (top 7)) (defBody (top 7)) (defScope (top 7)) .none kV14 dc14 pm14 an14 cd14 ct14), sl14⟩) (c14 : PySem.W.codeIn K cd14 "solved_flat" = true) (k14 : PySem.W.keepIn K (.ref f14) = true)
    {f15 : Addr} {od15 an15 : Option Addr} {sl15 : Array (Option Value)} {oc15 kV15 dc15 pm15 cd15 ct15 : Value}
    (a15 : PySem.W.nsIn K mainGlobals "source_and_bar" = some (some (.ref f15))) (l15 : K.lookup f15 = some ⟨oc15, od15, .func (PySem.W.fnOf "source_and_bar" "source_and_bar" (defArgs (top 8)) (defBody (top 8)) (defScope (top 8)) .none kV15 dc15 pm15 an15 cd15 ct15), sl15⟩) (c15 : PySem.W.codeIn K cd15 "source_and_bar" = true) (k15 : PySem.W.keepIn K (.ref f15) = true)
    {f16 : Addr} {od16 an16 : Option Addr} {sl16 : Array (Option Value)} {oc16 kV16 dc16 pm16 cd16 ct16 : Value}
    (a16 : PySem.W.nsIn K mainGlobals "source_of" = some (some (.ref f16))) (l16 : K.lookup f16 = some ⟨oc16, od16, .func (PySem.W.fnOf "source_of" "source_of" (defArgs (top 9)) (defBody (top 9)) (defScope (top 9)) .none kV16 dc16 pm16 an16 cd16 ct16), sl16⟩) (c16 : PySem.W.codeIn K cd16 "source_of" = true) (k16 : PySem.W.keepIn K (.ref f16) = true)
    {f17 : Addr} {od17 an17 : Option Addr} {sl17 : Array (Option Value)} {oc17 kV17 dc17 pm17 cd17 ct17 : Value}
    (a17 : PySem.W.nsIn K mainGlobals "undoing" = some (some (.ref f17))) (l17 : K.lookup f17 = some ⟨oc17, od17, .func (PySem.W.fnOf "undoing" "undoing" (defArgs (top 12)) (defBody (top 12)) (defScope (top 12)) .none kV17 dc17 pm17 an17 cd17 ct17), sl17⟩) (c17 : PySem.W.codeIn K cd17 "undoing" = true) (k17 : PySem.W.keepIn K (.ref f17) = true)
    {f18 : Addr} {od18 an18 : Option Addr} {sl18 : Array (Option Value)} {oc18 kV18 dc18 pm18 cd18 ct18 : Value}
    (a18 : PySem.W.nsIn K mainGlobals "missed_point" = some (some (.ref f18))) (l18 : K.lookup f18 = some ⟨oc18, od18, .func (PySem.W.fnOf "missed_point" "missed_point" (defArgs (top 13)) (defBody (top 13)) (defScope (top 13)) .none kV18 dc18 pm18 an18 cd18 ct18), sl18⟩) (c18 : PySem.W.codeIn K cd18 "missed_point" = true) (k18 : PySem.W.keepIn K (.ref f18) = true)
    {f19 : Addr} {od19 an19 : Option Addr} {sl19 : Array (Option Value)} {oc19 kV19 dc19 pm19 cd19 ct19 : Value}
    (a19 : PySem.W.nsIn K mainGlobals "_law_is_integers" = some (some (.ref f19))) (l19 : K.lookup f19 = some ⟨oc19, od19, .func (PySem.W.fnOf "_law_is_integers" "_law_is_integers" (defArgs (top 19)) (defBody (top 19)) (defScope (top 19)) .none kV19 dc19 pm19 an19 cd19 ct19), sl19⟩) (c19 : PySem.W.codeIn K cd19 "_law_is_integers" = true) (k19 : PySem.W.keepIn K (.ref f19) = true)
    {f20 : Addr} {od20 an20 : Option Addr} {sl20 : Array (Option Value)} {oc20 kV20 dc20 pm20 cd20 ct20 : Value}
    (a20 : PySem.W.nsIn K mainGlobals "bar_of" = some (some (.ref f20))) (l20 : K.lookup f20 = some ⟨oc20, od20, .func (PySem.W.fnOf "bar_of" "bar_of" (defArgs (top 10)) (defBody (top 10)) (defScope (top 10)) .none kV20 dc20 pm20 an20 cd20 ct20), sl20⟩) (c20 : PySem.W.codeIn K cd20 "bar_of" = true) (k20 : PySem.W.keepIn K (.ref f20) = true)
    {f21 : Addr} {od21 an21 : Option Addr} {sl21 : Array (Option Value)} {oc21 kV21 dc21 pm21 cd21 ct21 : Value}
    (a21 : PySem.W.nsIn K mainGlobals "_law_is_bar" = some (some (.ref f21))) (l21 : K.lookup f21 = some ⟨oc21, od21, .func (PySem.W.fnOf "_law_is_bar" "_law_is_bar" (defArgs (top 22)) (defBody (top 22)) (defScope (top 22)) .none kV21 dc21 pm21 an21 cd21 ct21), sl21⟩) (c21 : PySem.W.codeIn K cd21 "_law_is_bar" = true) (k21 : PySem.W.keepIn K (.ref f21) = true)
    {f22 : Addr} {od22 an22 : Option Addr} {sl22 : Array (Option Value)} {oc22 kV22 dc22 pm22 cd22 ct22 : Value}
    (a22 : PySem.W.nsIn K mainGlobals "_law_judged" = some (some (.ref f22))) (l22 : K.lookup f22 = some ⟨oc22, od22, .func (PySem.W.fnOf "_law_judged" "_law_judged" (defArgs (top 25)) (defBody (top 25)) (defScope (top 25)) .none kV22 dc22 pm22 an22 cd22 ct22), sl22⟩) (c22 : PySem.W.codeIn K cd22 "_law_judged" = true) (k22 : PySem.W.keepIn K (.ref f22) = true)
    {f23 : Addr} {od23 an23 : Option Addr} {sl23 : Array (Option Value)} {oc23 kV23 dc23 pm23 cd23 ct23 : Value}
    (a23 : PySem.W.nsIn K mainGlobals "is_bar" = some (some (.ref f23))) (l23 : K.lookup f23 = some ⟨oc23, od23, .func (PySem.W.fnOf "is_bar" "is_bar" (defArgs (top 11)) (defBody (top 11)) (defScope (top 11)) .none kV23 dc23 pm23 an23 cd23 ct23), sl23⟩) (c23 : PySem.W.codeIn K cd23 "is_bar" = true) (k23 : PySem.W.keepIn K (.ref f23) = true)
    {f24 : Addr} {od24 an24 : Option Addr} {sl24 : Array (Option Value)} {oc24 kV24 dc24 pm24 cd24 ct24 : Value}
    (a24 : PySem.W.nsIn K mainGlobals "_law_asked" = some (some (.ref f24))) (l24 : K.lookup f24 = some ⟨oc24, od24, .func (PySem.W.fnOf "_law_asked" "_law_asked" (defArgs (top 26)) (defBody (top 26)) (defScope (top 26)) .none kV24 dc24 pm24 an24 cd24 ct24), sl24⟩) (c24 : PySem.W.codeIn K cd24 "_law_asked" = true) (k24 : PySem.W.keepIn K (.ref f24) = true)
    {f25 : Addr} {od25 an25 : Option Addr} {sl25 : Array (Option Value)} {oc25 kV25 dc25 pm25 cd25 ct25 : Value}
    (a25 : PySem.W.nsIn K mainGlobals "_law_right" = some (some (.ref f25))) (l25 : K.lookup f25 = some ⟨oc25, od25, .func (PySem.W.fnOf "_law_right" "_law_right" (defArgs (top 27)) (defBody (top 27)) (defScope (top 27)) .none kV25 dc25 pm25 an25 cd25 ct25), sl25⟩) (c25 : PySem.W.codeIn K cd25 "_law_right" = true) (k25 : PySem.W.keepIn K (.ref f25) = true)
    {f26 : Addr} {od26 an26 : Option Addr} {sl26 : Array (Option Value)} {oc26 kV26 dc26 pm26 cd26 ct26 : Value}
    (a26 : PySem.W.nsIn K mainGlobals "law" = some (some (.ref f26))) (l26 : K.lookup f26 = some ⟨oc26, od26, .func (PySem.W.fnOf "law" "law" (defArgs (top 28)) (defBody (top 28)) (defScope (top 28)) .none kV26 dc26 pm26 an26 cd26 ct26), sl26⟩) (c26 : PySem.W.codeIn K cd26 "law" = true) (k26 : PySem.W.keepIn K (.ref f26) = true)
    (z_abs : PySem.W.nsIn K mainGlobals "abs" = some none)
    (z_all : PySem.W.nsIn K mainGlobals "all" = some none)
    (z_bool : PySem.W.nsIn K mainGlobals "bool" = some none)
    (z_int : PySem.W.nsIn K mainGlobals "int" = some none)
    (z_isinstance : PySem.W.nsIn K mainGlobals "isinstance" = some none)
    (z_len : PySem.W.nsIn K mainGlobals "len" = some none)
    (z_max : PySem.W.nsIn K mainGlobals "max" = some none)
    (z_min : PySem.W.nsIn K mainGlobals "min" = some none)
    (z_range : PySem.W.nsIn K mainGlobals "range" = some none)
    (z_str : PySem.W.nsIn K mainGlobals "str" = some none)
    (z_tuple : PySem.W.nsIn K mainGlobals "tuple" = some none)
    : ∃ fd : FuncData, (∀ (s : Shared) (v : Value), BindsTo s fd ⟨[v], []⟩ [("script", v)]) ∧ ∀ base : Heap, K.In base → base.Ns mainGlobals mg → FnOk l.prog w K mg base CX0 24 fa fd ["script"] (spD K ev_law) := by
  have e := hfa.symm.trans (PySem.W.mg_of X G a26)
  cases e
  have F0 := fun_mk (st := top 1) l0 c0 k0
  have m0 := PySem.W.mg_of X G a0
  have F1 := fun_mk (st := top 2) l1 c1 k1
  have m1 := PySem.W.mg_of X G a1
  have F2 := fun_mk (st := top 15) l2 c2 k2
  have m2 := PySem.W.mg_of X G a2
  have F3 := fun_mk (st := top 16) l3 c3 k3
  have m3 := PySem.W.mg_of X G a3
  have F4 := fun_mk (st := top 17) l4 c4 k4
  have m4 := PySem.W.mg_of X G a4
  have F5 := fun_mk (st := top 18) l5 c5 k5
  have m5 := PySem.W.mg_of X G a5
  have F6 := fun_mk (st := top 20) l6 c6 k6
  have m6 := PySem.W.mg_of X G a6
  have F7 := fun_mk (st := top 21) l7 c7 k7
  have m7 := PySem.W.mg_of X G a7
  have F8 := fun_mk (st := top 23) l8 c8 k8
  have m8 := PySem.W.mg_of X G a8
  have F9 := fun_mk (st := top 24) l9 c9 k9
  have m9 := PySem.W.mg_of X G a9
  have F10 := fun_mk (st := top 3) l10 c10 k10
  have m10 := PySem.W.mg_of X G a10
  have F11 := fun_mk (st := top 5) l11 c11 k11
  have m11 := PySem.W.mg_of X G a11
  have F12 := fun_mk (st := top 4) l12 c12 k12
  have m12 := PySem.W.mg_of X G a12
  have F13 := fun_mk (st := top 6) l13 c13 k13
  have m13 := PySem.W.mg_of X G a13
  have F14 := fun_mk (st := top 7) l14 c14 k14
  have m14 := PySem.W.mg_of X G a14
  have F15 := fun_mk (st := top 8) l15 c15 k15
  have m15 := PySem.W.mg_of X G a15
  have F16 := fun_mk (st := top 9) l16 c16 k16
  have m16 := PySem.W.mg_of X G a16
  have F17 := fun_mk (st := top 12) l17 c17 k17
  have m17 := PySem.W.mg_of X G a17
  have F18 := fun_mk (st := top 13) l18 c18 k18
  have m18 := PySem.W.mg_of X G a18
  have F19 := fun_mk (st := top 19) l19 c19 k19
  have m19 := PySem.W.mg_of X G a19
  have F20 := fun_mk (st := top 10) l20 c20 k20
  have m20 := PySem.W.mg_of X G a20
  have F21 := fun_mk (st := top 22) l21 c21 k21
  have m21 := PySem.W.mg_of X G a21
  have F22 := fun_mk (st := top 25) l22 c22 k22
  have m22 := PySem.W.mg_of X G a22
  have F23 := fun_mk (st := top 11) l23 c23 k23
  have m23 := PySem.W.mg_of X G a23
  have F24 := fun_mk (st := top 26) l24 c24 k24
  have m24 := PySem.W.mg_of X G a24
  have F25 := fun_mk (st := top 27) l25 c25 k25
  have m25 := PySem.W.mg_of X G a25
  have F26 := fun_mk (st := top 28) l26 c26 k26
  have m26 := PySem.W.mg_of X G a26
  have b_abs := PySem.W.mg_none_of X G z_abs
  have b_all := PySem.W.mg_none_of X G z_all
  have b_bool := PySem.W.mg_none_of X G z_bool
  have b_int := PySem.W.mg_none_of X G z_int
  have b_isinstance := PySem.W.mg_none_of X G z_isinstance
  have b_len := PySem.W.mg_none_of X G z_len
  have b_max := PySem.W.mg_none_of X G z_max
  have b_min := PySem.W.mg_none_of X G z_min
  have b_range := PySem.W.mg_none_of X G z_range
  have b_str := PySem.W.mg_none_of X G z_str
  have b_tuple := PySem.W.mg_none_of X G z_tuple
  refine ⟨PySem.W.fnOf "law" "law" (defArgs (top 28)) (defBody (top 28)) (defScope (top 28)) .none kV26 dc26 pm26 an26 cd26 ct26, fun s v => .of_eq rfl, fun base _ _ => ?_⟩
  have c_sent_to := w_sent_to (P := l.prog) (w := w) (base := base) F0 m0 
  have c_plan_after := w_plan_after (P := l.prog) (w := w) (base := base) F1 m1 c_sent_to
  have c__law_cell := w__law_cell (P := l.prog) (w := w) (base := base) F2 m2 b_len
  have c__law_draws := w__law_draws (P := l.prog) (w := w) (base := base) F3 m3 b_abs b_int b_range
  have c__law_is_integer := w__law_is_integer (P := l.prog) (w := w) (base := base) F4 m4 b_bool b_int b_isinstance
  have c__law_is := w__law_is (P := l.prog) (w := w) (base := base) F5 m5 b_all b_bool b_int b_isinstance b_len b_range b_str b_tuple c__law_is_integer 20
  have c__law_sent := w__law_sent (P := l.prog) (w := w) (base := base) F6 m6 
  have c__law_after := w__law_after (P := l.prog) (w := w) (base := base) F7 m7 c__law_sent
  have c__law_plan := w__law_plan (P := l.prog) (w := w) (base := base) F8 m8 b_int c__law_after
  have c__law_fits := w__law_fits (P := l.prog) (w := w) (base := base) F9 m9 b_max b_min b_tuple
  have c_area_of := w_area_of (P := l.prog) (w := w) (base := base) F10 m10 
  have c_solved := w_solved (P := l.prog) (w := w) (base := base) F11 m11 b_abs c_area_of
  have c_bezout := w_bezout (P := l.prog) (w := w) (base := base) F12 m12 b_range b_tuple
  have c_normal_of := w_normal_of (P := l.prog) (w := w) (base := base) F13 m13 
  have c_solved_flat := w_solved_flat (P := l.prog) (w := w) (base := base) F14 m14 b_abs c_bezout c_normal_of
  have c_source_and_bar := w_source_and_bar (P := l.prog) (w := w) (base := base) F15 m15 c_area_of c_solved c_solved_flat
  have c_source_of := w_source_of (P := l.prog) (w := w) (base := base) F16 m16 c_source_and_bar
  have c_undoing := w_undoing (P := l.prog) (w := w) (base := base) F17 m17 b_abs c_area_of c_sent_to
  have c_missed_point := w_missed_point (P := l.prog) (w := w) (base := base) F18 m18 c_source_of
  have c__law_is_integers := w__law_is_integers (P := l.prog) (w := w) (base := base) F19 m19 b_all b_isinstance b_tuple c__law_is_integer
  have c_bar_of := w_bar_of (P := l.prog) (w := w) (base := base) F20 m20 c_source_and_bar
  have c__law_is_bar := w__law_is_bar (P := l.prog) (w := w) (base := base) F21 m21 b_int
  have c__law_judged := w__law_judged (P := l.prog) (w := w) (base := base) F22 m22 b_len c__law_is_bar c__law_is_integers c__law_sent c_bar_of c_source_of
  have c_is_bar := w_is_bar (P := l.prog) (w := w) (base := base) F23 m23 
  have c__law_asked := w__law_asked (P := l.prog) (w := w) (base := base) F24 m24 b_abs b_all b_int c__law_is c__law_is_bar c_bar_of c_is_bar
  have c__law_right := w__law_right (P := l.prog) (w := w) (base := base) F25 m25 b_len c__law_after c__law_asked c__law_is c__law_is_integers c__law_judged c__law_sent c_missed_point c_sent_to c_source_of c_undoing
  exact wl_law F26 m26 b_int b_max b_range c__law_after c__law_cell c__law_draws c__law_fits c__law_is c__law_plan c__law_right c__law_sent c_plan_after

end L40

namespace L40
open PySem L2 DL DL.PR
theorem eq_int {a b : Int} : dEq (.int a) (.int b) = some (.bl (a == b)) := by
  unfold dEq
  rw [if_pos (by simp [D.dep])]
  rfl
theorem ne_int {a b : Int} : dNe (.int a) (.int b) = some (.bl (!(a == b))) := by
  unfold dNe
  rw [if_pos (by simp [D.dep])]
  rfl
def P6 (a b c d e f : Int) : D := .tup [.int a, .int b, .int c, .int d, .int e, .int f]
def pt (x y : Int) : D := .tup [.int x, .int y]
def P3 (x y z : Int) : D := .tup [.int x, .int y, .int z]
/-- small enough to be a factor -/
def Sm (a : Int) : Prop := a.natAbs < 18446744073709551616
theorem Sm.l {a b : Int} (h : Sm a) : mulOk a b = true := mulOk_l h
theorem Sm.r {a b : Int} (h : Sm b) : mulOk a b = true := mulOk_r h
theorem f2 (a b : D) : fits [a, b] = some [a, b] := fits_of (by simp)
theorem f3 (a b c : D) : fits [a, b, c] = some [a, b, c] := fits_of (by simp)
theorem f4 (a b c d : D) : fits [a, b, c, d] = some [a, b, c, d] := fits_of (by simp)
theorem f6 (a b c d e f : D) : fits [a, b, c, d, e, f] = some [a, b, c, d, e, f] := fits_of (by simp)
theorem at2_0 (a b : D) : atI [a, b] 0 = some a := rfl
theorem at2_1 (a b : D) : atI [a, b] 1 = some b := rfl
theorem at3_0 (a b c : D) : atI [a, b, c] 0 = some a := rfl
theorem at6_0 (a b c d e f : D) : atI [a, b, c, d, e, f] 0 = some a := rfl
theorem at6_1 (a b c d e f : D) : atI [a, b, c, d, e, f] 1 = some b := rfl
theorem at6_2 (a b c d e f : D) : atI [a, b, c, d, e, f] 2 = some c := rfl
theorem at6_3 (a b c d e f : D) : atI [a, b, c, d, e, f] 3 = some d := rfl
theorem at6_4 (a b c d e f : D) : atI [a, b, c, d, e, f] 4 = some e := rfl
theorem at6_5 (a b c d e f : D) : atI [a, b, c, d, e, f] 5 = some f := rfl
theorem cut4 (a b c d e f : D) : cut [a, b, c, d, e, f] none (some 4) = [a, b, c, d] := rfl
section
variable {a b c d e f x y : Int}
/-- sent: either the plan's or the point's numbers are small -/
def SmP (a b c d : Int) : Prop := Sm a ∧ Sm b ∧ Sm c ∧ Sm d
theorem lsent (h : (SmP a b c d) ∨ (Sm x ∧ Sm y)) : ev__law_sent [P6 a b c d e f, pt x y] = some (.val (pt (a * x + b * y + e) (c * x + d * y + f))) := by
  simp only [ev__law_sent, runB, bd__law_sent, P6, pt]
  have o1 : mulOk a x = true := by rcases h with h | h; exact h.1.l; exact h.1.r
  have o2 : mulOk b y = true := by rcases h with h | h; exact h.2.1.l; exact h.2.r
  have o3 : mulOk c x = true := by rcases h with h | h; exact h.2.2.1.l; exact h.1.r
  have o4 : mulOk d y = true := by rcases h with h | h; exact h.2.2.2.l; exact h.2.r
  simp [at2_0, at2_1, o1, o2, o3, o4, f2]
theorem sent (h : (SmP a b c d) ∨ (Sm x ∧ Sm y)) : ev_sent_to [P6 a b c d e f, pt x y] = some (.val (pt (a * x + b * y + e) (c * x + d * y + f))) := by
  simp only [ev_sent_to, runB, bd_sent_to, P6, pt]
  have o1 : mulOk a x = true := by rcases h with h | h; exact h.1.l; exact h.1.r
  have o2 : mulOk b y = true := by rcases h with h | h; exact h.2.1.l; exact h.2.r
  have o3 : mulOk c x = true := by rcases h with h | h; exact h.2.2.1.l; exact h.1.r
  have o4 : mulOk d y = true := by rcases h with h | h; exact h.2.2.2.l; exact h.2.r
  simp [o1, o2, o3, o4, f2]
theorem sm01 : Sm 0 ∧ Sm 1 := by unfold Sm; decide
variable {a1 b1 c1 d1 e1 g1 : Int}
/-- the first, then the second -/
def comp (a b c d e f a1 b1 c1 d1 e1 g1 : Int) : D := P6 (a1 * a + b1 * c) (a1 * b + b1 * d) (c1 * a + d1 * c) (c1 * b + d1 * d) (a1 * e + b1 * f + e1) (c1 * e + d1 * f + g1)
theorem lafter (h : SmP a1 b1 c1 d1) : ev__law_after [P6 a b c d e f, P6 a1 b1 c1 d1 e1 g1] = some (.val (comp a b c d e f a1 b1 c1 d1 e1 g1)) := by
  simp only [ev__law_after, runB, bd__law_after]
  have s0 := lsent (a := a) (b := b) (c := c) (d := d) (e := e) (f := f) (x := 0) (y := 0) (.inr ⟨sm01.1, sm01.1⟩)
  have s1 := lsent (a := a) (b := b) (c := c) (d := d) (e := e) (f := f) (x := 1) (y := 0) (.inr ⟨sm01.2, sm01.1⟩)
  have s2 := lsent (a := a) (b := b) (c := c) (d := d) (e := e) (f := f) (x := 0) (y := 1) (.inr ⟨sm01.1, sm01.2⟩)
  have t := fun X Y => lsent (a := a1) (b := b1) (c := c1) (d := d1) (e := e1) (f := g1) (x := X) (y := Y) (.inl h)
  unfold pt at s0 s1 s2 t
  simp only [Int.mul_zero, Int.zero_add, Int.mul_one, Int.add_zero] at s0 s1 s2
  simp [s0, s1, s2, t, f2, f6, at2_0, at2_1]
  unfold comp P6
  congr 1
  simp only [List.cons.injEq, D.int.injEq, and_true]
  refine ⟨?_, ?_, ?_, ?_⟩ <;> grind
theorem after (h : SmP a1 b1 c1 d1) : ev_plan_after [P6 a b c d e f, P6 a1 b1 c1 d1 e1 g1] = some (.val (comp a b c d e f a1 b1 c1 d1 e1 g1)) := by
  simp only [ev_plan_after, runB, bd_plan_after]
  have t := fun e f X Y => sent (a := a1) (b := b1) (c := c1) (d := d1) (e := e) (f := f) (x := X) (y := Y) (.inl h)
  unfold pt P6 at t
  unfold P6
  simp [t, f2, f6, at2_0, at2_1, cut4]
  unfold comp P6
  simp
theorem area_ok (h : Sm a ∧ Sm b) : ev_area_of [P6 a b c d e f] = some (.val (.int (a * d - b * c))) := by
  simp only [ev_area_of, runB, bd_area_of, P6]
  simp [at6_0, at6_1, at6_2, at6_3, h.1.l, h.2.l]
end
end L40
namespace L40
open PySem L2 DL DL.PR
theorem whileL_step {t : Ev → Option Bool} {b : Ev → Option Out} {n : Nat} {δ δ' : Ev} (h : t δ = some true) (h2 : b δ = some (.nx δ')) : whileL t b (n + 1) δ = whileL t b n δ' := by
  show (t δ).bind _ = _
  rw [h, Option.bind_some, if_pos rfl, h2, Option.bind_some]
theorem whileL_end {t : Ev → Option Bool} {b : Ev → Option Out} {n : Nat} {δ : Ev} (h : t δ = some false) : whileL t b (n + 1) δ = some (.nx δ) := by
  show (t δ).bind _ = _
  rw [h, Option.bind_some, if_neg (by simp)]
theorem fmod_lt {a b : Int} (h : b ≠ 0) : (a.fmod b).natAbs < b.natAbs := by
  rcases Int.lt_or_gt_of_ne h with q | q
  · have := Int.fmod_nonneg_of_pos (-a) (b := -b) (by omega)
    have := Int.fmod_lt_of_pos (-a) (b := -b) (by omega)
    rw [Int.neg_fmod_neg] at *
    omega
  · have := Int.fmod_nonneg_of_pos a q
    have := Int.fmod_lt_of_pos a q
    omega
theorem fdiv_le {a b : Int} : (a.fdiv b).natAbs ≤ a.natAbs := Int.natAbs_fdiv_le_natAbs a b
/-- what bezout keeps: (x, s, t) with x = s p + t q -/
def Lin (p q : Int) (x s t : Int) : Prop := x = s * p + t * q
noncomputable def tb : Ev → Option Bool := tE (e2 dNe (e2 dIx (eVB 3) (eC (.int 0))) (eC (.int 0)))
noncomputable def bb : Ev → Option Out := (sSeq (sSet 4 (e2 dFdiv (e2 dIx (eVB 2) (eC (.int 0))) (e2 dIx (eVB 3) (eC (.int 0)))))
  (sSeq (sSet 5 (eCall cTuple (eCons (sd (eLc [6] (eRng1 (eCons (eC (.int 3)) eNil)) (gN 6) cYes (e2 dSub (e2 dIx (eVB 2) (eVB 6)) (e2 dMulA (eVB 4) (e2 dIx (eVB 3) (eVB 6)))))) eNil)))
  (sSeq (sSet 2 (eV 3))
  (sSet 3 (eV 5)))))

theorem at3_1 (a b c : D) : atI [a, b, c] 1 = some b := rfl
theorem at3_2 (a b c : D) : atI [a, b, c] 2 = some c := rfl
theorem rng3 : rng1 [.int 3] = some [.int 0, .int 1, .int 2] := by rw [rng1_of (by omega) (by omega)]; rfl
theorem bb_ok {p q h s t h' s' t' : Int} {s4 s5 : S} (h0 : h' ≠ 0) (hs : Sm h) (hs' : Sm h') : bb [S.val (.int p), .val (.int q), .val (P3 h s t), .val (P3 h' s' t'), s4, s5, .no] =
    some (.nx [S.val (.int p), .val (.int q), .val (P3 h' s' t'), .val (P3 (h - h.fdiv h' * h') (s - h.fdiv h' * s') (t - h.fdiv h' * t')), .val (.int (h.fdiv h')), .val (P3 (h - h.fdiv h' * h') (s - h.fdiv h' * s') (t - h.fdiv h' * t')), .no]) := by
  have o : ∀ z : Int, mulOk (h.fdiv h') z = true := fun z => mulOk_l (Nat.lt_of_le_of_lt fdiv_le hs)
  have dv := divOk_big h0 hs'
  unfold bb P3
  simp [at3_0, dv, rng3, cmpL, at3_1, at3_2, o, f3]
theorem bz_while {p q : Int} : ∀ (n : Nat) (h s t h' s' t' : Int) (s4 s5 : S), Lin p q h s t → Lin p q h' s' t' → Sm h → Sm h' → h'.natAbs < n →
    ∃ g x y x' y' u4 u5, whileL tb bb n [S.val (.int p), .val (.int q), .val (P3 h s t), .val (P3 h' s' t'), s4, s5, .no] = some (.nx [S.val (.int p), .val (.int q), .val (P3 g x y), .val (P3 0 x' y'), u4, u5, .no]) ∧ Lin p q g x y ∧ g ∣ h ∧ g ∣ h' ∧ Sm g
  | 0, _, _, _, _, _, _, _, _, _, _, _, _, hn => by omega
  | n + 1, h, s, t, h', s', t', s4, s5, l, l', hs, hs', hn => by
    have test : tb [S.val (.int p), .val (.int q), .val (P3 h s t), .val (P3 h' s' t'), s4, s5, .no] = some (!(h' == 0)) := by
      unfold tb P3
      simp [at3_0, ne_int]
    by_cases e : h' = 0
    · subst e
      refine ⟨h, s, t, s', t', s4, s5, ?_, l, Int.dvd_refl _, Int.dvd_zero _, hs⟩
      rw [whileL_end (by rw [test]; rfl)]
    · have rest : h - h.fdiv h' * h' = h.fmod h' := by rw [Int.fmod_def, Int.mul_comm]
      have lt := fmod_lt (a := h) e
      obtain ⟨g, x, y, x', y', u4, u5, w, lg, d1, d2, sg⟩ := bz_while n h' s' t' (h - h.fdiv h' * h') (s - h.fdiv h' * s') (t - h.fdiv h' * t') (.val (.int (h.fdiv h'))) (.val (P3 (h - h.fdiv h' * h') (s - h.fdiv h' * s') (t - h.fdiv h' * t'))) l' (by unfold Lin at *; rw [l, l']; grind) hs' (by rw [rest]; unfold Sm at *; omega) (by rw [rest]; omega)
      refine ⟨g, x, y, x', y', u4, u5, ?_, lg, ?_, d1, sg⟩
      · rw [whileL_step (by rw [test]; simp [e]) (bb_ok e hs hs')]
        exact w
      · have := Int.dvd_add d2 (Int.dvd_trans d1 (Int.dvd_mul_left (h.fdiv h') h'))
        rwa [show h - h.fdiv h' * h' + h.fdiv h' * h' = h by omega] at this
theorem bezout_ok {p q : Int} (hp : p.natAbs ≤ 10000000) (hq : q.natAbs ≤ 10000000) : ∃ g x y, ev_bezout [.int p, .int q] = some (.val (P3 g x y)) ∧ g = x * p + y * q ∧ g ∣ p ∧ g ∣ q ∧ 0 ≤ g ∧ Sm g := by
  simp only [ev_bezout, runB, bd_bezout]
  obtain ⟨g, x, y, x', y', u4, u5, w, l, d1, d2, sg⟩ := bz_while (p := p) (q := q) 100000000 p 1 0 q 0 1 .no .no (by unfold Lin; omega) (by unfold Lin; omega) (by unfold Sm; omega) (by unfold Sm; omega) (by omega)
  unfold tb bb P3 at w
  by_cases n : g < 0
  · refine ⟨-g, -x, -y, ?_, by unfold Lin at l; rw [l]; grind, Int.neg_dvd.mpr d1, Int.neg_dvd.mpr d2, by omega, by unfold Sm at *; omega⟩
    simp [f3, w, at3_0, at3_1, at3_2, n]
    rfl
  · refine ⟨g, x, y, ?_, l, d1, d2, by omega, sg⟩
    simp [f3, w, at3_0, n]
    rfl
end L40
namespace L40
open PySem L2 DL DL.PR
def Good (a b c d X Y : Int) (s t : D) : Prop := (∃ x y, s = pt x y ∧ t = .non ∧ a * x + b * y = X ∧ c * x + d * y = Y) ∨
  (∃ u v m, s = .non ∧ t = P3 u v m ∧ 1 ≤ m ∧ m ∣ u * a + v * c ∧ m ∣ u * b + v * d ∧ ¬ m ∣ u * X + v * Y)
theorem bnd {a b : Int} {A B : Nat} (h : a.natAbs ≤ A) (h2 : b.natAbs ≤ B) : (a * b).natAbs ≤ A * B := by
  rw [Int.natAbs_mul]
  exact Nat.mul_le_mul h h2
theorem sm_of {a : Int} (h : a.natAbs ≤ 10000000) : Sm a := by unfold Sm; omega
theorem mod_ne {a b : Int} (h : b ≠ 0) : (!(a.fmod b == 0)) = !decide (b ∣ a) := by
  congr 1
  rw [Bool.eq_iff_iff, beq_iff_eq, decide_eq_true_eq]
  exact Int.dvd_iff_fmod_eq_zero.symm
structure Bd (a b c d X Y : Int) : Prop where
  a : a.natAbs ≤ 1000001
  b : b.natAbs ≤ 1000001
  c : c.natAbs ≤ 1000001
  d : d.natAbs ≤ 1000001
  x : X.natAbs ≤ 10000000
  y : Y.natAbs ≤ 10000000
theorem abs_dvd {g z : Int} : ((g.natAbs : Int) ∣ z) ↔ g ∣ z := Int.natAbs_dvd
section
variable {a b c d e f X Y : Int} (B : Bd a b c d X Y)
include B
theorem area_b : (a * d - b * c).natAbs ≤ 3000000000000 := by
  have h1 := bnd B.a B.d
  have h2 := bnd B.b B.c
  omega
theorem solved_ok (h0 : a * d - b * c ≠ 0) : ∃ s t, ev_solved [P6 a b c d e f, .int X, .int Y] = some (.val (.tup [s, t])) ∧ Good a b c d X Y s t := by
  have ar := area_ok (a := a) (b := b) (c := c) (d := d) (e := e) (f := f) ⟨sm_of (by have := B.a; omega), sm_of (by have := B.b; omega)⟩
  have ab := area_b B
  simp only [ev_solved, runB, bd_solved]
  have o1 : mulOk d X = true := mulOk_r (by have := B.x; omega)
  have o2 : mulOk b Y = true := mulOk_r (by have := B.y; omega)
  have o3 : mulOk a Y = true := mulOk_r (by have := B.y; omega)
  have o4 : mulOk c X = true := mulOk_r (by have := B.x; omega)
  have dv : divOk (a * d - b * c) = true := divOk_big h0 (by omega)
  have mp : 1 ≤ ((a * d - b * c).natAbs : Int) := by omega
  have e7 : P6 a b c d e f = .tup [.int a, .int b, .int c, .int d, .int e, .int f] := rfl
  rw [e7] at ar ⊢
  by_cases q1 : (a * d - b * c) ∣ (d * X - b * Y)
  · by_cases q2 : (a * d - b * c) ∣ (a * Y - c * X)
    · refine ⟨pt ((d * X - b * Y).fdiv (a * d - b * c)) ((a * Y - c * X).fdiv (a * d - b * c)), .non, ?_, .inl ⟨_, _, rfl, rfl, ?_, ?_⟩⟩
      · simp [cut4, ar, o1, o2, o3, o4, h0, ne_int, mod_ne h0, q1, q2, dv, f2, pt]
      · have e1 := Int.mul_fdiv_cancel' q1
        have e2 := Int.mul_fdiv_cancel' q2
        refine Int.eq_of_mul_eq_mul_left h0 ?_
        rw [Int.mul_add, Int.mul_left_comm, e1, Int.mul_left_comm _ b, e2]
        grind
      · have e1 := Int.mul_fdiv_cancel' q1
        have e2 := Int.mul_fdiv_cancel' q2
        refine Int.eq_of_mul_eq_mul_left h0 ?_
        rw [Int.mul_add, Int.mul_left_comm, e1, Int.mul_left_comm _ d, e2]
        grind
    · refine ⟨.non, P3 (-c) a ((a * d - b * c).natAbs), ?_, .inr ⟨_, _, _, rfl, rfl, mp, ?_, ?_, ?_⟩⟩
      · simp [cut4, ar, o1, o2, o3, o4, h0, ne_int, mod_ne h0, q1, q2, dv, f2, f3, P3]
      · rw [abs_dvd, show -c * a + a * c = 0 by grind]; exact Int.dvd_zero _
      · rw [abs_dvd, show -c * b + a * d = a * d - b * c by grind]; exact Int.dvd_refl _
      · rw [abs_dvd, show -c * X + a * Y = a * Y - c * X by grind]; exact q2
  · refine ⟨.non, P3 d (-b) ((a * d - b * c).natAbs), ?_, .inr ⟨_, _, _, rfl, rfl, mp, ?_, ?_, ?_⟩⟩
    · simp [cut4, ar, o1, o2, o3, o4, h0, ne_int, mod_ne h0, q1, dv, f2, f3, P3]
    · rw [abs_dvd, show d * a + -b * c = a * d - b * c by grind]; exact Int.dvd_refl _
    · rw [abs_dvd, show d * b + -b * d = 0 by grind]; exact Int.dvd_zero _
    · rw [abs_dvd, show d * X + -b * Y = d * X - b * Y by grind]; exact q1
end
end L40
namespace L40
open PySem L2 DL DL.PR
theorem ne_pair {a b x y : Int} : dNe (.tup [.int a, .int b]) (.tup [.int x, .int y]) = some (.bl (!(a == x && b == y))) := by
  unfold dNe
  rw [if_pos (by simp [D.dep, deps])]
  simp [D.eq, eqs]
theorem eq_four {a b c d : Int} : dEq (.tup [.int a, .int b, .int c, .int d]) (.tup [.int 0, .int 0, .int 0, .int 0]) = some (.bl (a == 0 && (b == 0 && (c == 0 && d == 0)))) := by
  unfold dEq
  rw [if_pos (by simp [D.dep, deps])]
  simp [D.eq, eqs]
section
variable {a b c d e f X Y : Int} (B : Bd a b c d X Y)
include B
theorem normal_ok (h0 : a * d - b * c = 0) : ∃ u v, ev_normal_of [P6 a b c d e f, .int X] = some (.val (pt u v)) ∧ u * a + v * c = 0 ∧ u * b + v * d = 0 ∧ ¬ (u = 0 ∧ v = 0) ∧ u.natAbs ≤ 1000001 ∧ v.natAbs ≤ 1000001 ∧ (a = 0 → b = 0 → c = 0 → d = 0 → u * X + v * Y = 0 → X = 0 ∧ Y = 0) := by
  simp only [ev_normal_of, runB, bd_normal_of]
  have hb := B.b
  have hc := B.c
  have hd := B.d
  have ha := B.a
  by_cases q1 : a = 0 ∧ c = 0
  · obtain ⟨rfl, rfl⟩ := q1
    by_cases q2 : b = 0 ∧ d = 0
    · obtain ⟨rfl, rfl⟩ := q2
      by_cases q3 : X = 0
      · subst q3
        refine ⟨0, 1, ?_, by omega, by omega, by omega, by omega, by omega, fun _ _ _ _ h => ⟨rfl, by omega⟩⟩
        simp [P6, cut4, f2, ne_pair, ne_int, pt]
      · refine ⟨1, 0, ?_, by omega, by omega, by omega, by omega, by omega, fun _ _ _ _ h => absurd (by omega) q3⟩
        simp [P6, cut4, f2, ne_pair, ne_int, pt, q3]
    · refine ⟨d, -b, ?_, by omega, by grind, by omega, by omega, by omega, fun _ z _ z2 _ => absurd ⟨z, z2⟩ q2⟩
      have q3 : (b == 0 && d == 0) = false := by
        rw [Bool.and_eq_false_iff]
        by_cases z : b = 0
        · right; simp; intro w; exact q2 ⟨z, w⟩
        · left; simp [z]
      simp [P6, cut4, f2, ne_pair, pt, q3]
  · refine ⟨c, -a, ?_, by grind, by grind, by omega, by omega, by omega, fun z _ z2 _ _ => absurd ⟨z, z2⟩ q1⟩
    have q3 : (a == 0 && c == 0) = false := by
      rw [Bool.and_eq_false_iff]
      by_cases z : a = 0
      · right; simp; intro w; exact q1 ⟨z, w⟩
      · left; simp [z]
    simp [P6, cut4, f2, ne_pair, pt, q3]
theorem flat_ok (h0 : a * d - b * c = 0) : ∃ s t, ev_solved_flat [P6 a b c d e f, .int X, .int Y] = some (.val (.tup [s, t])) ∧ Good a b c d X Y s t := by
  obtain ⟨u, v, nm, n1, n2, n3, n4, n5, n6⟩ := normal_ok (e := e) (f := f) B h0
  simp only [ev_solved_flat, runB, bd_solved_flat]
  have o1 : mulOk u X = true := mulOk_r (by have := B.x; omega)
  have o2 : mulOk v Y = true := mulOk_r (by have := B.y; omega)
  have e7 : P6 a b c d e f = .tup [.int a, .int b, .int c, .int d, .int e, .int f] := rfl
  rw [e7] at nm ⊢
  unfold pt at nm
  by_cases q1 : u * X + v * Y = 0
  · have q1' : (u * X + v * Y == 0) = true := by simp [q1]
    by_cases q2 : a = 0 ∧ b = 0 ∧ c = 0 ∧ d = 0
    · obtain ⟨rfl, rfl, rfl, rfl⟩ := q2
      obtain ⟨rfl, rfl⟩ := n6 rfl rfl rfl rfl q1
      refine ⟨pt 0 0, .non, ?_, .inl ⟨0, 0, rfl, rfl, by omega, by omega⟩⟩
      simp [cut4, nm, o1, o2, ne_int, f4, f2, eq_four, pt]
    · have q2' : (a == 0 && (b == 0 && (c == 0 && d == 0))) = false := by
        rw [Bool.eq_false_iff]
        intro z
        simp only [Bool.and_eq_true, beq_iff_eq] at z
        exact q2 z
      obtain ⟨g, s, t, bz, g1, g2, g3, g4, g5⟩ := bezout_ok (p := u) (q := v) (by omega) (by omega)
      have gn : g ≠ 0 := fun z => by
        subst z
        exact n3 ⟨Int.zero_dvd.mp g2, Int.zero_dvd.mp g3⟩
      obtain ⟨w0, hw0⟩ : ∃ w0, w0 = (-v).fdiv g := ⟨_, rfl⟩
      obtain ⟨w1, hw1⟩ : ∃ w1, w1 = u.fdiv g := ⟨_, rfl⟩
      have k0 : g * w0 = -v := by rw [hw0]; exact Int.mul_fdiv_cancel' (Int.dvd_neg.mpr g3)
      have k1 : g * w1 = u := by rw [hw1]; exact Int.mul_fdiv_cancel' g2
      have m0 : w0.natAbs ≤ 1000001 := by rw [hw0]; have := fdiv_le (a := -v) (b := g); omega
      have m1 : w1.natAbs ≤ 1000001 := by rw [hw1]; have := fdiv_le (a := u) (b := g); omega
      have unit : s * w1 - t * w0 = 1 := by
        refine Int.eq_of_mul_eq_mul_left gn ?_
        have : g * (s * w1 - t * w0) = s * (g * w1) - t * (g * w0) := by grind
        rw [this, k0, k1, Int.mul_one]
        grind
      have r1 : w1 * a = w0 * c := by
        refine Int.eq_of_mul_eq_mul_left gn ?_
        rw [← Int.mul_assoc, ← Int.mul_assoc, k0, k1]
        grind
      have r2 : w1 * b = w0 * d := by
        refine Int.eq_of_mul_eq_mul_left gn ?_
        rw [← Int.mul_assoc, ← Int.mul_assoc, k0, k1]
        grind
      have r3 : w1 * X = w0 * Y := by
        refine Int.eq_of_mul_eq_mul_left gn ?_
        rw [← Int.mul_assoc, ← Int.mul_assoc, k0, k1]
        grind
      obtain ⟨F, hF⟩ : ∃ F, F = s * c - t * a := ⟨_, rfl⟩
      obtain ⟨G, hG⟩ : ∃ G, G = s * d - t * b := ⟨_, rfl⟩
      obtain ⟨T, hT⟩ : ∃ T, T = s * Y - t * X := ⟨_, rfl⟩
      have Fa : a = w0 * F := by rw [hF]; grind
      have Fc : c = w1 * F := by rw [hF]; grind
      have Gb : b = w0 * G := by rw [hG]; grind
      have Gd : d = w1 * G := by rw [hG]; grind
      have TX : X = w0 * T := by rw [hT]; grind
      have TY : Y = w1 * T := by rw [hT]; grind
      have can : ∀ {x y z : Int}, y ≠ 0 → x = y * z → x.fdiv y = z := fun {x y z} h e => by rw [e, Int.mul_comm, Int.mul_fdiv_cancel _ h]
      have dg : divOk g = true := divOk_big gn g5
      obtain ⟨ax, hax, wn, dw, vF, vG, vT, ix0, ix1, ixX⟩ : ∃ ax : Int, (∀ δ : Ev, δ[11]? = some (.val (pt w0 w1)) → eIf (tE (e2 dNe (e2 dIx (eVB 11) (eC (.int 0))) (eC (.int 0)))) (eC (.int 0)) (eC (.int 1)) δ = some (.int ax)) ∧ atI [D.int w0, .int w1] ax = some (.int (if ax = 0 then w0 else w1)) ∧ divOk (if ax = 0 then w0 else w1) = true ∧ (if ax = 0 then a else c).fdiv (if ax = 0 then w0 else w1) = F ∧ (if ax = 0 then b else d).fdiv (if ax = 0 then w0 else w1) = G ∧ (if ax = 0 then X else Y).fdiv (if ax = 0 then w0 else w1) = T ∧
          atI [D.int a, .int b, .int c, .int d, .int e, .int f] (2 * ax) = some (.int (if ax = 0 then a else c)) ∧ atI [D.int a, .int b, .int c, .int d, .int e, .int f] (2 * ax + 1) = some (.int (if ax = 0 then b else d)) ∧ atI [D.int X, .int Y] ax = some (.int (if ax = 0 then X else Y)) := by
        by_cases z : w0 = 0
        · have z1 : w1 ≠ 0 := fun z1 => by rw [z, z1] at unit; omega
          refine ⟨1, fun δ h => ?_, rfl, ?_, ?_, ?_, ?_, rfl, rfl, rfl⟩
          · simp [h, pt, at2_0, ne_int, z]
          · exact divOk_big z1 (by show w1.natAbs < _; omega)
          · exact can z1 Fc
          · exact can z1 Gd
          · exact can z1 TY
        · refine ⟨0, fun δ h => ?_, rfl, ?_, ?_, ?_, ?_, rfl, rfl, rfl⟩
          · simp [h, pt, at2_0, ne_int, z]
          · exact divOk_big z (by show w0.natAbs < _; omega)
          · exact can z Fa
          · exact can z Gb
          · exact can z TX
      have bF : F.natAbs ≤ 1000001 := by
        rw [← vF]
        refine Nat.le_trans fdiv_le ?_
        split
        · exact B.a
        · exact B.c
      have bG : G.natAbs ≤ 1000001 := by
        rw [← vG]
        refine Nat.le_trans fdiv_le ?_
        split
        · exact B.b
        · exact B.d
      have bT : T.natAbs ≤ 10000000 := by
        rw [← vT]
        refine Nat.le_trans fdiv_le ?_
        split
        · exact B.x
        · exact B.y
      obtain ⟨k, one, oth, bz2, k1', k2, k3, k4, k5⟩ := bezout_ok (p := F) (q := G) (by omega) (by omega)
      have kn : k ≠ 0 := fun z => by
        subst z
        have f0 := Int.zero_dvd.mp k2
        have g0 := Int.zero_dvd.mp k3
        rw [f0] at Fa Fc
        rw [g0] at Gb Gd
        exact q2 ⟨by rw [Fa, Int.mul_zero], by rw [Gb, Int.mul_zero], by rw [Fc, Int.mul_zero], by rw [Gd, Int.mul_zero]⟩
      have dk : divOk k = true := divOk_big kn k5
      have o2' : mulOk 2 ax = true := mulOk_l (by decide)
      have bz' : ev_bezout [.int u, .int v] = some (.val (.tup [.int g, .int s, .int t])) := bz
      have bz2' : ev_bezout [.int F, .int G] = some (.val (.tup [.int k, .int one, .int oth])) := bz2
      have o5 : ∀ z : Int, mulOk z (T.fdiv k) = true := fun z => mulOk_r (Nat.lt_of_le_of_lt fdiv_le (by omega))
      by_cases q3 : k ∣ T
      · have q3' : (T.fmod k == 0) = true := by rw [beq_iff_eq]; exact Int.fmod_eq_zero_of_dvd q3
        have e1 := Int.mul_fdiv_cancel' q3
        refine ⟨pt (one * T.fdiv k) (oth * T.fdiv k), .non, ?_, .inl ⟨_, _, rfl, rfl, ?_, ?_⟩⟩
        · simp [-eIf_ap, cut4, nm, o1, o2, ne_int, q1', f4, f2, eq_four, q2', bz', at3_0, dg, ← hw0, ← hw1]
          rw [hax _ rfl]
          simp [o2', ix0, ix1, ixX, wn, dw, vF, vG, vT, f2, bz2', kn, eq_int, q3', dk, o5, pt]
        · rw [Fa, Gb, TX]
          have : w0 * F * (one * T.fdiv k) + w0 * G * (oth * T.fdiv k) = w0 * ((one * F + oth * G) * T.fdiv k) := by grind
          rw [this, ← k1', e1]
        · rw [Fc, Gd, TY]
          have : w1 * F * (one * T.fdiv k) + w1 * G * (oth * T.fdiv k) = w1 * ((one * F + oth * G) * T.fdiv k) := by grind
          rw [this, ← k1', e1]
      · have q3' : (T.fmod k == 0) = false := by
          rw [beq_eq_false_iff_ne]
          intro z
          exact q3 (Int.dvd_of_fmod_eq_zero z)
        obtain ⟨gg, le, ri, bz3, l1, l2, l3, l4, l5⟩ := bezout_ok (p := w0) (q := w1) (by omega) (by omega)
        have bz3' : ev_bezout [.int w0, .int w1] = some (.val (.tup [.int gg, .int le, .int ri])) := bz3
        have gg1 : gg = 1 := by
          have : gg ∣ 1 := by
            rw [← unit]
            exact Int.dvd_sub (Int.dvd_trans l3 (Int.dvd_mul_left _ _)) (Int.dvd_trans l2 (Int.dvd_mul_left _ _))
          have := Int.le_of_dvd (by omega) this
          have : gg ≠ 0 := fun z => by subst z; have := Int.zero_dvd.mp ‹(0 : Int) ∣ 1›; omega
          omega
        subst gg1
        refine ⟨.non, P3 le ri k, ?_, .inr ⟨_, _, _, rfl, rfl, by omega, ?_, ?_, ?_⟩⟩
        · simp [-eIf_ap, cut4, nm, o1, o2, ne_int, q1', f4, f2, eq_four, q2', bz', at3_0, dg, ← hw0, ← hw1]
          rw [hax _ rfl]
          simp [o2', ix0, ix1, ixX, wn, dw, vF, vG, vT, f2, bz2', kn, eq_int, q3', dk, o5, at2_0, at2_1, bz3', f3, P3]
        · rw [Fa, Fc, show le * (w0 * F) + ri * (w1 * F) = (le * w0 + ri * w1) * F by grind, ← l1, Int.one_mul]; exact k2
        · rw [Gb, Gd, show le * (w0 * G) + ri * (w1 * G) = (le * w0 + ri * w1) * G by grind, ← l1, Int.one_mul]; exact k3
        · rw [TX, TY, show le * (w0 * T) + ri * (w1 * T) = (le * w0 + ri * w1) * T by grind, ← l1, Int.one_mul]; exact q3
  · have q1' : (u * X + v * Y == 0) = false := by simp [q1]
    have m : (((u * X + v * Y).natAbs : Int) + 1) ∣ u * X + v * Y → False := fun z => by
      have := Int.natAbs_dvd_natAbs.mpr z
      have := Nat.le_of_dvd (by omega) this
      omega
    refine ⟨.non, P3 u v ((u * X + v * Y).natAbs + 1), ?_, .inr ⟨_, _, _, rfl, rfl, by omega, by rw [n1]; exact Int.dvd_zero _, by rw [n2]; exact Int.dvd_zero _, m⟩⟩
    simp [cut4, nm, o1, o2, ne_int, q1', f3, f2, P3]
end
end L40
namespace L40
open PySem L2 DL DL.PR
/-- a plan and a point as they are asked -/
structure In (a b c d e f x y : Int) : Prop where
  bd : Bd a b c d (x - e) (y - f)
  e : e.natAbs ≤ 1000001
  f : f.natAbs ≤ 1000001
section
variable {a b c d e f x y : Int} (I : In a b c d e f x y)
include I
theorem sab : ∃ s t, ev_source_and_bar [P6 a b c d e f, pt x y] = some (.val (.tup [s, t])) ∧ Good a b c d (x - e) (y - f) s t := by
  have ar := area_ok (a := a) (b := b) (c := c) (d := d) (e := e) (f := f) ⟨sm_of (by have := I.bd.a; omega), sm_of (by have := I.bd.b; omega)⟩
  have e7 : P6 a b c d e f = .tup [.int a, .int b, .int c, .int d, .int e, .int f] := rfl
  have e8 : pt x y = .tup [.int x, .int y] := rfl
  simp only [ev_source_and_bar, runB, bd_source_and_bar]
  by_cases q : a * d - b * c = 0
  · obtain ⟨s, t, h, g⟩ := flat_ok (e := e) (f := f) I.bd q
    refine ⟨s, t, ?_, g⟩
    rw [e7] at ar h ⊢
    rw [e8]
    simp [at2_0, at2_1, at6_4, at6_5, ar, eq_int, q, h]
  · obtain ⟨s, t, h, g⟩ := solved_ok (e := e) (f := f) I.bd q
    refine ⟨s, t, ?_, g⟩
    rw [e7] at ar h ⊢
    rw [e8]
    simp [at2_0, at2_1, at6_4, at6_5, ar, eq_int, q, h]
theorem src_bar : ∃ s t, ev_source_of [P6 a b c d e f, pt x y] = some (.val s) ∧ ev_bar_of [P6 a b c d e f, pt x y] = some (.val t) ∧ Good a b c d (x - e) (y - f) s t := by
  obtain ⟨s, t, h, g⟩ := sab I
  refine ⟨s, t, ?_, ?_, g⟩
  · simp only [ev_source_of, runB, bd_source_of]
    simp [h, at2_0]
  · simp only [ev_bar_of, runB, bd_bar_of]
    simp [h, at2_1]
end
/-- is it a bar -/
def isB (a b c d X Y u v m : Int) : Bool := decide (1 ≤ m) && (decide (m ∣ u * a + v * c) && (decide (m ∣ u * b + v * d) && !decide (m ∣ u * X + v * Y)))
theorem gt_mod {z m : Int} (h : 1 ≤ m) : decide (0 < z.fmod m) = !decide (m ∣ z) := by
  have := Int.fmod_nonneg_of_pos z (b := m) (by omega)
  have e := Int.dvd_iff_fmod_eq_zero (a := m) (b := z)
  by_cases q : m ∣ z
  · have := e.mp q
    simp [q, this]
  · have : z.fmod m ≠ 0 := fun w => q (e.mpr w)
    simp [q]
    omega
section
variable {a b c d e f x y u v m : Int} (B : Bd a b c d (x - e) (y - f))
include B
theorem lbar_ok : ev__law_is_bar [P6 a b c d e f, pt x y, P3 u v m] = some (.val (.bl (isB a b c d (x - e) (y - f) u v m))) := by
  have o1 : mulOk u a = true := mulOk_r (by have := B.a; omega)
  have o2 : mulOk v c = true := mulOk_r (by have := B.c; omega)
  have o3 : mulOk u b = true := mulOk_r (by have := B.b; omega)
  have o4 : mulOk v d = true := mulOk_r (by have := B.d; omega)
  have o5 : mulOk u (x - e) = true := mulOk_r (by have := B.x; omega)
  have o6 : mulOk v (y - f) = true := mulOk_r (by have := B.y; omega)
  simp only [ev__law_is_bar, runB, bd__law_is_bar, P6, pt, P3]
  unfold isB
  by_cases q : 1 ≤ m
  · have q' : ¬ m < 1 := by omega
    have n : m ≠ 0 := by omega
    by_cases q1 : m ∣ u * a + v * c
    · by_cases q2 : m ∣ u * b + v * d
      · simp [q, q', n, o1, o2, o3, o4, o5, o6, at2_0, at2_1, gt_mod q, q1, q2]
      · simp [q, q', n, o1, o2, o3, o4, o5, o6, at2_0, at2_1, gt_mod q, q1, q2]
    · simp [q, q', n, o1, o2, o3, o4, o5, o6, at2_0, at2_1, gt_mod q, q1]
  · have q' : m < 1 := by omega
    simp [q, q']
theorem bar_ok : ev_is_bar [P6 a b c d e f, pt x y, P3 u v m] = some (.val (.bl (isB a b c d (x - e) (y - f) u v m))) := by
  have o1 : mulOk u a = true := mulOk_r (by have := B.a; omega)
  have o2 : mulOk v c = true := mulOk_r (by have := B.c; omega)
  have o3 : mulOk u b = true := mulOk_r (by have := B.b; omega)
  have o4 : mulOk v d = true := mulOk_r (by have := B.d; omega)
  have o5 : mulOk u (x - e) = true := mulOk_r (by have := B.x; omega)
  have o6 : mulOk v (y - f) = true := mulOk_r (by have := B.y; omega)
  simp only [ev_is_bar, runB, bd_is_bar, P6, pt, P3]
  unfold isB
  by_cases q : 1 ≤ m
  · have q' : ¬ m < 1 := by omega
    have n : m ≠ 0 := by omega
    by_cases q1 : m ∣ u * a + v * c
    · by_cases q2 : m ∣ u * b + v * d
      · simp [q, q', n, o1, o2, o3, o4, o5, o6, at2_0, at2_1, ne_int, mod_ne n, q1, q2]
      · simp [q, q', n, o1, o2, o3, o4, o5, o6, at2_0, at2_1, ne_int, mod_ne n, q1, q2]
    · simp [q, q', n, o1, o2, o3, o4, o5, o6, at2_0, at2_1, ne_int, mod_ne n, q1]
  · have q' : m < 1 := by omega
    simp [q, q']
end
theorem ints_nice : ∀ {xs : List Int}, nices (xs.map D.int) = true ∧ deps (xs.map D.int) = 0 ∧ bigs (xs.map D.int) = false
  | [] => ⟨rfl, rfl, rfl⟩
  | x :: xs => by
    obtain ⟨a, b, c⟩ := ints_nice (xs := xs)
    rw [List.map_cons]
    refine ⟨?_, ?_, ?_⟩
    · unfold nices; rw [a]; rfl
    · unfold deps; rw [b]; rfl
    · unfold bigs; rw [c]; rfl
theorem is_tup {xs : List Int} (h : xs.length ≤ 1000000) : ev__law_is 20 [.tup (xs.map D.int), .tup (xs.map D.int)] = some (.val (.bl true)) := by
  obtain ⟨a, b, c⟩ := ints_nice (xs := xs)
  have d : (D.tup (xs.map D.int)).dep = 1 := by rw [D.dep, b]
  refine is_ok 20 ?_ (by rw [d]; omega) (by rw [d]; omega) ?_
  · unfold nice; exact a
  · unfold big
    rw [c]
    simp [h]
theorem is_pt (x y : Int) : ev__law_is 20 [pt x y, pt x y] = some (.val (.bl true)) := is_tup (xs := [x, y]) (by simp)
theorem is_bl (b : Bool) : ev__law_is 20 [.bl b, .bl b] = some (.val (.bl true)) := is_ok 20 rfl (by simp [D.dep]) (by simp [D.dep]) rfl
theorem is_non : ev__law_is 20 [.non, .non] = some (.val (.bl true)) := is_ok 20 rfl (by simp [D.dep]) (by simp [D.dep]) rfl
theorem is_6 (a b c d e f : Int) : ev__law_is 20 [P6 a b c d e f, P6 a b c d e f] = some (.val (.bl true)) := is_tup (xs := [a, b, c, d, e, f]) (by simp)
theorem isints {xs : List Int} (h : xs.length ≤ 1000) : ev__law_is_integers [.tup (xs.map D.int)] = some (.val (.bl true)) := by
  simp only [ev__law_is_integers, runB, bd__law_is_integers]
  have c : cmpL [S.val (.tup (xs.map D.int)), .no] (gN 1) cYes (sd (eCl ev__law_is_integer (eCons (eV 1) eNil))) (xs.map D.int) = some ((xs.map fun _ => true).map D.bl) := by
    rw [cmpL_map (g := fun _ => .bl true)]
    · simp
    · intro d hd
      obtain ⟨x, _, rfl⟩ := List.mem_map.mp hd
      exact ⟨_, gN_ap, by simp [isint_int]⟩
  have ff : fits ((xs.map fun _ => true).map D.bl) = some ((xs.map fun _ => true).map D.bl) := fits_of (by simp; omega)
  have ty : isTy "tuple" (.tup (xs.map D.int)) = true := by simp [isTy, D.ty]
  obtain ⟨bs, hbs⟩ : ∃ bs : List Bool, bs = xs.map fun _ => true := ⟨_, rfl⟩
  rw [← hbs] at c ff
  have al : bs.all id = true := by rw [hbs]; simp
  simp [ty, c, ff]
  intro hx
  rw [hbs] at hx
  simp at hx
theorem i2 (x y : Int) : ev__law_is_integers [pt x y] = some (.val (.bl true)) := isints (xs := [x, y]) (by simp)
theorem i3 (x y z : Int) : ev__law_is_integers [P3 x y z] = some (.val (.bl true)) := isints (xs := [x, y, z]) (by simp)
theorem i6 (a b c d e f : Int) : ev__law_is_integers [P6 a b c d e f] = some (.val (.bl true)) := isints (xs := [a, b, c, d, e, f]) (by simp)
theorem eq_pt {x y z w : Int} : dEq (pt x y) (pt z w) = some (.bl (x == z && y == w)) := by
  unfold dEq pt
  rw [if_pos (by simp [D.dep, deps])]
  simp [D.eq, eqs]
theorem eq_bl {a b : Bool} : dEq (.bl a) (.bl b) = some (.bl (a == b)) := by
  unfold dEq
  rw [if_pos (by simp [D.dep])]
  rfl
theorem ne_bl {a b : Bool} : dNe (.bl a) (.bl b) = some (.bl (!(a == b))) := by
  unfold dNe
  rw [if_pos (by simp [D.dep])]
  rfl
section
variable {a b c d e f x y : Int} (I : In a b c d e f x y)
include I
theorem judged_ok : ev__law_judged [P6 a b c d e f, pt x y] = some (.val (.bl true)) := by
  obtain ⟨s, t, h1, h2, g⟩ := src_bar I
  simp only [ev__law_judged, runB, bd__law_judged]
  rcases g with ⟨X, Y, rfl, rfl, g1, g2⟩ | ⟨u, v, m, rfl, rfl, g1, g2, g3, g4⟩
  · have ls := lsent (a := a) (b := b) (c := c) (d := d) (e := e) (f := f) (x := X) (y := Y) (.inl ⟨sm_of (by have := I.bd.a; omega), sm_of (by have := I.bd.b; omega), sm_of (by have := I.bd.c; omega), sm_of (by have := I.bd.d; omega)⟩)
    rw [show a * X + b * Y + e = x by omega, show c * X + d * Y + f = y by omega] at ls
    have n1 : dIsN (pt X Y) .non = some (.bl false) := rfl
    have n2 : dNotN (pt X Y) .non = some (.bl true) := rfl
    have l : cLen [pt X Y] = some (.int 2) := rfl
    simp [h1, h2, n1, n2, eq_bl, i2, l, eq_int, ls, eq_pt]
  · have n1 : dIsN (P3 u v m) .non = some (.bl false) := rfl
    have l : cLen [P3 u v m] = some (.int 3) := rfl
    have lb := lbar_ok (u := u) (v := v) (m := m) I.bd
    have ib : isB a b c d (x - e) (y - f) u v m = true := by unfold isB; simp [g1, g2, g3, g4]
    rw [ib] at lb
    simp [h1, h2, n1, eq_bl, i3, l, eq_int, lb]
end
end L40
namespace L40
open PySem L2 DL DL.PR
def Four (draws : D) : Prop := ∀ k : Nat, k < 4 → ∃ r, dIx draws (.int k) = some (.int r)
def sp (k : Nat) : D := .int k
theorem fl {xs : List D} (h : xs.length ≤ 100) : fits xs = some xs := fits_of (by omega)
theorem all_rep {n : Nat} : cAll [.lst (List.replicate n (D.bl true))] = some (.bl true) := by
  rw [← List.map_replicate (f := D.bl), all_lst]
  simp
section
variable {a b c d e f x y : Int} (I : In a b c d e f x y)
include I
theorem asked_ok {draws : D} (h4 : Four draws) : ev__law_asked [P6 a b c d e f, pt x y, draws] = some (.val (.bl true)) := by
  obtain ⟨s, t, h1, h2, g⟩ := src_bar I
  obtain ⟨q0, hq0⟩ := h4 0 (by omega)
  obtain ⟨q1, hq1⟩ := h4 1 (by omega)
  obtain ⟨q2, hq2⟩ := h4 2 (by omega)
  obtain ⟨q3, hq3⟩ := h4 3 (by omega)
  have hq0 : dIx draws (.int 0) = some (.int q0) := hq0
  have hq1 : dIx draws (.int 1) = some (.int q1) := hq1
  have hq2 : dIx draws (.int 2) = some (.int q2) := hq2
  have hq3 : dIx draws (.int 3) = some (.int q3) := hq3
  simp only [ev__law_asked, runB, bd__law_asked]
  obtain ⟨u, v, m, ht⟩ : ∃ u v m, eIf (tE (e2 dNotN (eVB 3) (eC .non))) (eV 3) (eTup (eCons (e2 dSub (e2 dMod (eCall cInt (eCons (e2 dIx (eVB 2) (eC (.int 0))) eNil)) (eC (.int 5))) (eC (.int 2))) (eCons (e2 dSub (e2 dMod (eCall cInt (eCons (e2 dIx (eVB 2) (eC (.int 1))) eNil)) (eC (.int 5))) (eC (.int 2))) (eCons (e2 dAddA (e2 dMod (eCall cInt (eCons (e2 dIx (eVB 2) (eC (.int 2))) eNil)) (eC (.int 9))) (eC (.int 1))) eNil)))) [S.val (P6 a b c d e f), .val (pt x y), .val draws, .val t, .no, .no, .no, .no, .no, .no] = some (.tup [.int u, .int v, .int m]) := by
    rcases g with ⟨X, Y, rfl, rfl, g1, g2⟩ | ⟨u, v, m, rfl, rfl, g1, g2, g3, g4⟩
    · exact ⟨_, _, _, by simp [hq0, hq1, hq2, f3]; exact ⟨rfl, rfl, rfl⟩⟩
    · have n1 : dNotN (P3 u v m) .non = some (.bl true) := rfl
      exact ⟨u, v, m, by simp [n1]; rfl⟩
  have o2 : ∀ z : Int, mulOk 2 z = true := fun z => mulOk_l (by decide)
  have o3 : ∀ z : Int, mulOk 3 z = true := fun z => mulOk_l (by decide)
  have cat : ∀ xs ys : List D, xs.length ≤ 50 → ys.length ≤ 50 → fCat (.lst xs) (.lst ys) = some (.lst (xs ++ ys)) := fun xs ys hx hy => by
    show (fits (xs ++ ys)).map S.lst = _
    rw [fl (by rw [List.length_append]; omega)]
    rfl
  have hz : 12 < sizeLine := by show 12 < 2 ^ 24; omega
  have x0 : dIx (P6 a b c d e f) (.int 0) = some (.int a) := rfl
  have x1 : dIx (P6 a b c d e f) (.int 1) = some (.int b) := rfl
  have x2 : dIx (P6 a b c d e f) (.int 2) = some (.int c) := rfl
  have x3 : dIx (P6 a b c d e f) (.int 3) = some (.int d) := rfl
  simp [-eIf_ap, h2]
  rw [ht]
  have key : ∀ (δ : Ev) (ds : List D), δ[0]? = some (S.val (P6 a b c d e f)) → δ[1]? = some (S.val (pt x y)) → 9 < δ.length → ds.length ≤ 100 → (∀ d ∈ ds, ∃ u v m, d = .tup [.int u, .int v, .int m]) → cmpL δ (gN 9) cYes (sd (eCl (ev__law_is 20) (eCons (sd (eCl ev_is_bar (eCons (eV 0) (eCons (eV 1) (eCons (eV 9) eNil))))) (eCons (sd (eCl ev__law_is_bar (eCons (eV 0) (eCons (eV 1) (eCons (eV 9) eNil))))) eNil)))) ds = some (List.replicate ds.length (.bl true)) := fun δ ds d0 d1 dl _ hm => by
    rw [← List.map_const']
    refine cmpL_map (g := fun _ => .bl true) fun dd hd => ?_
    obtain ⟨u, v, m, rfl⟩ := hm dd hd
    refine ⟨_, gN_ap, ?_⟩
    have e0 : (δ.set 9 (.val (.tup [.int u, .int v, .int m])))[0]? = some (S.val (P6 a b c d e f)) := by rw [List.getElem?_set_ne (by omega)]; exact d0
    have e1 : (δ.set 9 (.val (.tup [.int u, .int v, .int m])))[1]? = some (S.val (pt x y)) := by rw [List.getElem?_set_ne (by omega)]; exact d1
    have e9 : (δ.set 9 (.val (.tup [.int u, .int v, .int m])))[9]? = some (S.val (.tup [.int u, .int v, .int m])) := by rw [List.getElem?_set_self dl]
    have lb := lbar_ok (u := u) (v := v) (m := m) I.bd
    have b' := bar_ok (u := u) (v := v) (m := m) I.bd
    unfold P3 at lb b'
    simp only [sd_ap, eCl_ap, eCons_ap, eV_ap, eNil_ap, e0, e1, e9, Option.bind_some, Option.map_some, lb, b', d_val, is_bl]
  simp [hq3, fl, o2, o3, cat, hz, x0, x1, x2, x3]
  rw [key _ _ rfl rfl (by simp) (by simp) (by
    intro dd hd
    simp only [List.mem_cons, List.not_mem_nil, or_false] at hd
    rcases hd with h | h | h | h | h | h | h | h | h | h | h | h | h | h | h | h | h <;> exact ⟨_, _, _, h⟩)]
  simp only [List.length_cons, List.length_nil, Option.bind_some, Function.comp, fl, List.length_replicate, Nat.reduceAdd, Nat.reduceLeDiff, Option.map_some, d_lst, all_rep, outS_rt]
end
/-! ### undoing, the missed point -/
section
variable {a b c d e f : Int}
structure Pl (a b c d e f : Int) : Prop where
  a : a.natAbs ≤ 1000000
  b : b.natAbs ≤ 1000000
  c : c.natAbs ≤ 1000000
  d : d.natAbs ≤ 1000000
  e : e.natAbs ≤ 1000000
  f : f.natAbs ≤ 1000000
theorem Pl.inp (p : Pl a b c d e f) {x y : Int} (hx : x.natAbs ≤ 2000000) (hy : y.natAbs ≤ 2000000) : In a b c d e f x y :=
  ⟨⟨by have := p.a; omega, by have := p.b; omega, by have := p.c; omega, by have := p.d; omega, by have := p.e; omega, by have := p.f; omega⟩, by have := p.e; omega, by have := p.f; omega⟩
theorem Pl.sm (p : Pl a b c d e f) : SmP a b c d := ⟨sm_of (by have := p.a; omega), sm_of (by have := p.b; omega), sm_of (by have := p.c; omega), sm_of (by have := p.d; omega)⟩
theorem undo_ok (p : Pl a b c d e f) : (∃ a1 b1 c1 d1 e1 g1, ev_undoing [P6 a b c d e f] = some (.val (P6 a1 b1 c1 d1 e1 g1)) ∧ (a * d - b * c).natAbs = 1 ∧ SmP a1 b1 c1 d1 ∧ comp a b c d e f a1 b1 c1 d1 e1 g1 = P6 1 0 0 1 0 0 ∧ comp a1 b1 c1 d1 e1 g1 a b c d e f = P6 1 0 0 1 0 0) ∨
    (ev_undoing [P6 a b c d e f] = some (.val .non) ∧ (a * d - b * c).natAbs ≠ 1) := by
  have ar := area_ok (a := a) (b := b) (c := c) (d := d) (e := e) (f := f) ⟨p.sm.1, p.sm.2.1⟩
  obtain ⟨A, hA⟩ : ∃ A, A = a * d - b * c := ⟨_, rfl⟩
  simp only [ev_undoing, runB, bd_undoing]
  have e7 : P6 a b c d e f = .tup [.int a, .int b, .int c, .int d, .int e, .int f] := rfl
  rw [← hA] at ar ⊢
  by_cases q : A.natAbs = 1
  · left
    have hd := p.d
    have hc := p.c
    have hb := p.b
    have ha := p.a
    have sq : A * A = 1 := by
      rcases Int.natAbs_eq A with h | h <;> rw [h, q] <;> rfl
    have bA : ∀ z : Int, z.natAbs ≤ 1000000 → (A * z).natAbs ≤ 1000000 ∧ (-A * z).natAbs ≤ 1000000 := fun z hz => by
      rw [Int.natAbs_mul, Int.natAbs_mul, Int.natAbs_neg, q]; omega
    have sp : SmP (A * d) (-A * b) (-A * c) (A * a) := ⟨sm_of (by have := (bA d hd).1; omega), sm_of (by have := (bA b hb).2; omega), sm_of (by have := (bA c hc).2; omega), sm_of (by have := (bA a ha).1; omega)⟩
    have st := sent (a := A * d) (b := -A * b) (c := -A * c) (d := A * a) (e := 0) (f := 0) (x := e) (y := f) (.inl sp)
    have oA : ∀ z : Int, mulOk A z = true := fun z => mulOk_l (by omega)
    have oA' : ∀ z : Int, mulOk (-A) z = true := fun z => mulOk_l (by omega)
    refine ⟨A * d, -A * b, -A * c, A * a, -(A * d * e + -A * b * f + 0), -(-A * c * e + A * a * f + 0), ?_, q, sp, ?_, ?_⟩
    · unfold P6 pt at st
      rw [e7] at ar ⊢
      have qq : (((A.natAbs : Nat) : Int) == 1) = true := by rw [q]; rfl
      have ct : ∀ x y z w : D, cut [x, y, z, w, .int 0, .int 0] none (some 4) = [x, y, z, w] := fun _ _ _ _ => rfl
      simp [ar, ne_int, qq, oA, oA', fl, st, ct, P6]
    · unfold comp
      congr 1 <;> rw [hA] at * <;> grind
    · unfold comp
      congr 1 <;> rw [hA] at * <;> grind
  · right
    refine ⟨?_, q⟩
    rw [e7] at ar ⊢
    have qq : (((A.natAbs : Nat) : Int) == 1) = false := by rw [beq_eq_false_iff_ne]; omega
    simp [ar, ne_int, qq]
end
end L40
namespace L40
open PySem L2 DL DL.PR
theorem in_one {A : Int} : dIn (.int A) (.tup [.int 1, .int (-1)]) = some (.bl (decide (A.natAbs = 1))) := by
  show (if (D.int A).dep ≤ 64 ∧ deps [.int 1, .int (-1)] ≤ 64 then some (D.bl ([D.int 1, .int (-1)].any fun z => z.eq (.int A))) else none) = _
  rw [if_pos (by simp [D.dep, deps])]
  congr 2
  simp only [List.any_cons, List.any_nil, D.eq, Bool.or_false]
  rw [Bool.eq_iff_iff, Bool.or_eq_true, beq_iff_eq, beq_iff_eq, decide_eq_true_eq]
  omega
theorem ne_6 {a b c d e f : Int} : dNe (P6 a b c d e f) (.tup [.int 1, .int 0, .int 0, .int 1, .int 0, .int 0]) = some (.bl (!(a == 1 && (b == 0 && (c == 0 && (d == 1 && (e == 0 && f == 0))))))) := by
  unfold dNe P6
  rw [if_pos (by simp [D.dep, deps])]
  simp [D.eq, eqs]
def msd (s1 s2 p1 p2 : D) : D := match s1 with
  | .non => p1
  | _ => match s2 with
    | .non => p2
    | _ => .non
theorem isN_pt {x y : Int} : dIsN (pt x y) .non = some (.bl false) := rfl
theorem notN_pt {x y : Int} : dNotN (pt x y) .non = some (.bl true) := rfl
theorem notN_6 {a b c d e f : Int} : dNotN (P6 a b c d e f) .non = some (.bl true) := rfl
section
variable {a b c d e f : Int} (p : Pl a b c d e f)
include p
theorem units : ∃ s1 s2, ev_source_of [P6 a b c d e f, pt (e + 1) f] = some (.val s1) ∧ ev_source_of [P6 a b c d e f, pt e (f + 1)] = some (.val s2) ∧
    ((s1 = .non ∨ ∃ x y, s1 = pt x y) ∧ (s2 = .non ∨ ∃ x y, s2 = pt x y)) ∧ ((s1 ≠ .non ∧ s2 ≠ .non) ↔ (a * d - b * c).natAbs = 1) := by
  obtain ⟨s1, t1, h1, _, g1⟩ := src_bar (p.inp (x := e + 1) (y := f) (by have := p.e; omega) (by have := p.f; omega))
  obtain ⟨s2, t2, h2, _, g2⟩ := src_bar (p.inp (x := e) (y := f + 1) (by have := p.e; omega) (by have := p.f; omega))
  rw [show e + 1 - e = 1 by omega, show f - f = 0 by omega] at g1
  rw [show e - e = 0 by omega, show f + 1 - f = 1 by omega] at g2
  refine ⟨s1, s2, h1, h2, ⟨?_, ?_⟩, ?_, ?_⟩
  · rcases g1 with ⟨x, y, e1, _⟩ | ⟨_, _, _, e1, _⟩
    · exact .inr ⟨x, y, e1⟩
    · exact .inl e1
  · rcases g2 with ⟨x, y, e1, _⟩ | ⟨_, _, _, e1, _⟩
    · exact .inr ⟨x, y, e1⟩
    · exact .inl e1
  · rintro ⟨n1, n2⟩
    rcases g1 with ⟨x1, y1, _, _, a1, a2⟩ | ⟨_, _, _, e1, _⟩
    · rcases g2 with ⟨x2, y2, _, _, b1, b2⟩ | ⟨_, _, _, e1, _⟩
      · have : (a * d - b * c) * (x1 * y2 - x2 * y1) = 1 := by grind
        have := Int.natAbs_dvd_natAbs.mpr (show (a * d - b * c) ∣ 1 from ⟨_, this.symm⟩)
        exact Nat.dvd_one.mp this
      · exact absurd e1 n2
    · exact absurd e1 n1
  · intro q
    have un : ∀ m : Int, m ∣ a * d - b * c → m ∣ 1 := fun m h => by
      have := Int.natAbs_dvd_natAbs.mpr h
      rw [q] at this
      exact Int.natAbs_dvd_natAbs.mp this
    have key : ∀ X Y s t, Good a b c d X Y s t → s ≠ .non := fun X Y s t g z => by
      rcases g with ⟨x, y, e1, _⟩ | ⟨u, v, m, _, _, m1, m2, m3, m4⟩
      · rw [z] at e1; cases e1
      · -- m divides u * area and v * area, hence u and v
        have d1 : m ∣ u * (a * d - b * c) := by
          rw [show u * (a * d - b * c) = (u * a + v * c) * d - (u * b + v * d) * c by grind]
          exact Int.dvd_sub (Int.dvd_trans m2 (Int.dvd_mul_right _ _)) (Int.dvd_trans m3 (Int.dvd_mul_right _ _))
        have d2 : m ∣ v * (a * d - b * c) := by
          rw [show v * (a * d - b * c) = (u * b + v * d) * a - (u * a + v * c) * b by grind]
          exact Int.dvd_sub (Int.dvd_trans m3 (Int.dvd_mul_right _ _)) (Int.dvd_trans m2 (Int.dvd_mul_right _ _))
        have s1 : ∀ z : Int, m ∣ z * (a * d - b * c) → m ∣ z := fun z h => by
          have := Int.natAbs_dvd_natAbs.mpr h
          rw [Int.natAbs_mul, q, Nat.mul_one] at this
          exact Int.natAbs_dvd_natAbs.mp this
        exact m4 (Int.dvd_add (Int.dvd_trans (s1 u d1) (Int.dvd_mul_right _ _)) (Int.dvd_trans (s1 v d2) (Int.dvd_mul_right _ _)))
    exact ⟨key _ _ _ _ g1, key _ _ _ _ g2⟩
theorem right_ok {ps : List (Int × Int)} (hps : ∀ q ∈ ps, q.1.natAbs ≤ 2000000 ∧ q.2.natAbs ≤ 2000000) {draws : D} (h4 : Four draws) : ev__law_right [P6 a b c d e f, .lst (ps.map fun q => pt q.1 q.2), draws] = some (.val (.bl true)) := by
  obtain ⟨s1, s2, h1, h2, ⟨k1, k2⟩, iff⟩ := units p
  have ms : ev_missed_point [P6 a b c d e f] = some (.val (msd s1 s2 (pt (e + 1) f) (pt e (f + 1)))) := by
    simp only [ev_missed_point, runB, bd_missed_point]
    unfold P6 pt at *
    rcases k1 with rfl | ⟨x, y, rfl⟩
    · simp [at6_4, at6_5, f2, forL, h1, msd]
    · rcases k2 with rfl | ⟨x2, y2, rfl⟩
      · simp [at6_4, at6_5, f2, forL, h1, h2, msd]
      · simp [at6_4, at6_5, f2, forL, h1, h2, msd]
  simp only [ev__law_right, runB, bd__law_right]
  have o1 : mulOk a d = true := p.sm.1.l
  have o2 : mulOk b c = true := p.sm.2.1.l
  have x0 : dIx (P6 a b c d e f) (.int 0) = some (.int a) := rfl
  have x1 : dIx (P6 a b c d e f) (.int 1) = some (.int b) := rfl
  have x2 : dIx (P6 a b c d e f) (.int 2) = some (.int c) := rfl
  have x3 : dIx (P6 a b c d e f) (.int 3) = some (.int d) := rfl
  have x4 : dIx (P6 a b c d e f) (.int 4) = some (.int e) := rfl
  have x5 : dIx (P6 a b c d e f) (.int 5) = some (.int f) := rfl
  simp [x0, x1, x2, x3, o1, o2]
  generalize hF : forL _ _ _ _ = o
  obtain ⟨δ', rfl, s4, rfl⟩ := forL_at hF (fun k δ => ∃ s4, δ = [S.val (P6 a b c d e f), .val (.lst (ps.map fun q => pt q.1 q.2)), .val draws, .val (.int (a * d - b * c)), s4, .no, .no]) ⟨_, rfl⟩ (fun k dd δ hd ⟨s4, e⟩ => by
    obtain ⟨q, hq, rfl⟩ := List.mem_map.mp (List.mem_of_getElem? hd)
    obtain ⟨g1, g2⟩ := hps q hq
    have I := p.inp g1 g2
    subst e
    have l1 := lsent (a := a) (b := b) (c := c) (d := d) (e := e) (f := f) (x := q.1) (y := q.2) (.inl p.sm)
    have l2 := sent (a := a) (b := b) (c := c) (d := d) (e := e) (f := f) (x := q.1) (y := q.2) (.inl p.sm)
    simp [l1, l2, is_pt, judged_ok I, asked_ok I h4])
  have I1 := p.inp (x := e + 1) (y := f) (by have := p.e; omega) (by have := p.f; omega)
  have I2 := p.inp (x := e) (y := f + 1) (by have := p.e; omega) (by have := p.f; omega)
  have J1 := judged_ok I1
  have J2 := judged_ok I2
  have l6 : ∀ a b c d e f, cLen [P6 a b c d e f] = some (.int 6) := fun _ _ _ _ _ _ => rfl
  have ispt := fun x y => is_pt x y
  unfold pt at J1 J2 h1 h2 ms ispt
  rcases undo_ok p with ⟨a1, b1, c1, d1, e1, g1, u1, u2, u3, u4, u5⟩ | ⟨u1, u2⟩
  · have la := lafter (a := a) (b := b) (c := c) (d := d) (e := e) (f := f) (e1 := e1) (g1 := g1) u3
    have lb := lafter (a := a1) (b := b1) (c := c1) (d := d1) (e := e1) (f := g1) (e1 := e) (g1 := f) p.sm
    rw [u4] at la
    rw [u5] at lb
    obtain ⟨n1, n2⟩ := iff.mpr u2
    rcases k1 with rfl | ⟨x, y, rfl⟩
    · exact absurd rfl n1
    rcases k2 with rfl | ⟨x2, y2, rfl⟩
    · exact absurd rfl n2
    have ms2 : ev_missed_point [P6 a b c d e f] = some (.val .non) := by rw [ms]; rfl
    simp [u1, notN_6, in_one, u2, ne_bl, i6, l6, ne_int, la, lb, f6, ne_6, x4, x5, f2, forL, J1, J2, h1, h2, isN_pt, ms2, is_non, eq_bl]
  · have nb : ¬ (s1 ≠ .non ∧ s2 ≠ .non) := fun z => u2 (iff.mp z)
    rcases k1 with rfl | ⟨x, y, rfl⟩
    · have ms2 : ev_missed_point [P6 a b c d e f] = some (.val (.tup [.int (e + 1), .int f])) := by rw [ms]; rfl
      rcases k2 with rfl | ⟨x2, y2, rfl⟩
      · simp [u1, in_one, u2, ne_bl, x4, x5, f2, forL, J1, J2, h1, h2, isN_pt, ms2, ispt, eq_bl]
      · simp [u1, in_one, u2, ne_bl, x4, x5, f2, forL, J1, J2, h1, h2, isN_pt, ms2, ispt, eq_bl]
    · rcases k2 with rfl | ⟨x2, y2, rfl⟩
      · have ms2 : ev_missed_point [P6 a b c d e f] = some (.val (.tup [.int e, .int (f + 1)])) := by rw [ms]; rfl
        simp [u1, in_one, u2, ne_bl, x4, x5, f2, forL, J1, J2, h1, h2, isN_pt, ms2, ispt, eq_bl]
      · exact absurd ⟨by simp [pt], by simp [pt]⟩ nb
end
end L40
namespace L40
open PySem L2 DL DL.PR
def cl (z : Int) : Int := max (-999991) (min 999991 z)
theorem cl_b (z : Int) : (cl z).natAbs ≤ 999991 := by unfold cl; omega
theorem fits_ok {xs : List Int} (h : xs.length ≤ 1000) : ev__law_fits [.tup (xs.map D.int)] = some (.val (.tup ((xs.map cl).map D.int))) := by
  simp only [ev__law_fits, runB, bd__law_fits]
  have c : cmpL [S.val (.tup (xs.map D.int)), .no] (gN 1) cYes (eCall cMax (eCons (e2 dSub (eC (.int 9)) (e2 dPow (eC (.int 10)) (eC (.int 6)))) (eCons (eCall cMin (eCons (e2 dSub (e2 dPow (eC (.int 10)) (eC (.int 6))) (eC (.int 9))) (eCons (eVB 1) eNil))) eNil))) (xs.map D.int) = some ((xs.map cl).map D.int) := by
    have : ∀ ys : List Int, cmpL [S.val (.tup (xs.map D.int)), .no] (gN 1) cYes (eCall cMax (eCons (e2 dSub (eC (.int 9)) (e2 dPow (eC (.int 10)) (eC (.int 6)))) (eCons (eCall cMin (eCons (e2 dSub (e2 dPow (eC (.int 10)) (eC (.int 6))) (eC (.int 9))) (eCons (eVB 1) eNil))) eNil))) (ys.map D.int) = some ((ys.map cl).map D.int) := fun ys => by
      induction ys with
      | nil => rfl
      | cons y ys ih =>
        rw [List.map_cons, List.map_cons, List.map_cons, cmpL, ih]
        simp [cl]
    exact this xs
  obtain ⟨zs, hz⟩ : ∃ zs : List Int, zs = xs.map cl := ⟨_, rfl⟩
  have f : fits (zs.map D.int) = some (zs.map D.int) := fits_of (by rw [hz]; simp; omega)
  rw [← hz] at c ⊢
  simp [c, f]
theorem fits6 (a b c d e f : Int) : ev__law_fits [P6 a b c d e f] = some (.val (P6 (cl a) (cl b) (cl c) (cl d) (cl e) (cl f))) := fits_ok (xs := [a, b, c, d, e, f]) (by simp)
theorem fits2 (a b : Int) : ev__law_fits [pt a b] = some (.val (pt (cl a) (cl b))) := fits_ok (xs := [a, b]) (by simp)
theorem pl_cl (a b c d e f : Int) : Pl (cl a) (cl b) (cl c) (cl d) (cl e) (cl f) :=
  ⟨by have := cl_b a; omega, by have := cl_b b; omega, by have := cl_b c; omega, by have := cl_b d; omega, by have := cl_b e; omega, by have := cl_b f; omega⟩
theorem cell_at (ns : List Int) (k : Int) (h : 0 ≤ k) : ∃ c, ev__law_cell [.scr ns, .int k] = some (.val (.int c)) := by
  have := cell_ok ns k.toNat
  rw [show ((k.toNat : Nat) : Int) = k by omega] at this
  exact this
theorem draws_at (c : Int) (n : Int) (h0 : 0 ≤ n) (h : n < 1000000) : ∃ ns : List Int, ev__law_draws [.int c, .int n] = some (.lst (ns.map D.int)) ∧ ns.length = n.toNat ∧ ∀ x ∈ ns, 0 ≤ x ∧ x < 5040 := by
  have := draws_ok c n.toNat (by omega)
  rw [show ((n.toNat : Nat) : Int) = n by omega] at this
  exact this
theorem ints_at {rs : List Int} (h : ∀ x ∈ rs, 0 ≤ x ∧ x < 5040) {m : Int} (h0 : 0 ≤ m) (h1 : m < rs.length) : ∃ x, atI (rs.map D.int) m = some (.int x) ∧ 0 ≤ x ∧ x < 5040 := by
  have hl : m.toNat < rs.length := by omega
  refine ⟨rs[m.toNat], ?_, h _ (List.getElem_mem hl)⟩
  rw [atI_of (i := m.toNat) (by omega) (by simpa using hl)]
  simp
theorem cut_map {α β : Type} {f : α → β} {xs : List α} {lo hi : Option Int} : cut (xs.map f) lo hi = (cut xs lo hi).map f := by
  unfold cut
  rw [List.length_map, List.map_take, List.map_drop]
theorem cut_nat {α : Type} {xs : List α} {a b : Nat} (h2 : b ≤ xs.length) (h : a ≤ b) : cut xs (some (a : Int)) (some (b : Int)) = (xs.drop a).take (b - a) := by
  unfold cut
  rw [HT.sIx_nat, HT.sIx_nat, Nat.min_eq_left h2, Nat.min_eq_left (by omega)]
theorem six {α : Type} {xs : List α} (h : xs.length = 6) : ∃ a b c d e f, xs = [a, b, c, d, e, f] := by
  match xs, h with
  | [a, b, c, d, e, f], _ => exact ⟨a, b, c, d, e, f, rfl⟩
def IsP (d : D) : Prop := ∃ a b c e f g, d = P6 a b c e f g
theorem plan_ok {rs : List Int} (hl : 8 ≤ rs.length) (hr : ∀ x ∈ rs, 0 ≤ x ∧ x < 5040) : ∃ d, ev__law_plan [.lst (rs.map D.int)] = some (.val d) ∧ IsP d := by
  simp only [ev__law_plan, runB, bd__law_plan]
  obtain ⟨x0, h0, _, _⟩ := ints_at hr (m := 0) (by omega) (by omega)
  obtain ⟨x1, h1, p1, _⟩ := ints_at hr (m := 1) (by omega) (by omega)
  obtain ⟨w, hw, hw2, hw3⟩ : ∃ w : Int, atI [D.int 5, .int 9, .int 3, .int 1999] (x1.fmod 4) = some (.int w) ∧ 1 ≤ w ∧ w ≤ 1999 := by
    have := fm_range (a := x1) (b := 4) (by omega)
    obtain ⟨m, hm⟩ : ∃ m, x1.fmod 4 = m := ⟨_, rfl⟩
    rw [hm] at this ⊢
    have : m = 0 ∨ m = 1 ∨ m = 2 ∨ m = 3 := by omega
    rcases this with rfl | rfl | rfl | rfl <;> exact ⟨_, rfl, by omega, by omega⟩
  obtain ⟨y0, y1, y2, y3, y4, y5, hy⟩ := six (xs := cut rs (some 2) (some 8)) (by
    have := cut_nat (xs := rs) (a := 2) (b := 8) hl (by omega)
    rw [show ((2 : Nat) : Int) = 2 from rfl, show ((8 : Nat) : Int) = 8 from rfl] at this
    rw [this, List.length_take, List.length_drop]
    omega)
  have w0 : w ≠ 0 := by omega
  have d2 : divOk 2 = true := by decide
  obtain ⟨z, hz⟩ : ∃ z : Int → Int, z = fun y => y.fmod w - w.fdiv 2 := ⟨_, rfl⟩
  have zb : ∀ y, (z y).natAbs ≤ 4000 := fun y => by
    rw [hz]
    have := fm_range (a := y) (b := w) (by omega)
    have := fdiv_le (a := w) (b := 2)
    show (y.fmod w - w.fdiv 2).natAbs ≤ 4000
    omega
  obtain ⟨k, hk⟩ : ∃ k, x0.fmod 8 = k := ⟨_, rfl⟩
  have kr := fm_range (a := x0) (b := 8) (by omega)
  rw [hk] at kr
  have cc : ∀ δ : Ev, δ[2]? = some (.val (.int w)) → 9 < δ.length → cmpL δ (gN 9) cYes (e2 dSub (e2 dMod (eCall cInt (eCons (eVB 9) eNil)) (eVB 2)) (e2 dFdiv (eVB 2) (eC (.int 2)))) [.int y0, .int y1, .int y2, .int y3, .int y4, .int y5] = some [.int (z y0), .int (z y1), .int (z y2), .int (z y3), .int (z y4), .int (z y5)] := fun δ hd hl => by
    have e9 : ∀ y, (δ.set 9 (.val (.int y)))[9]? = some (S.val (.int y)) := fun y => by rw [List.getElem?_set_self hl]
    have e2' : ∀ y, (δ.set 9 (.val (.int y)))[2]? = some (S.val (.int w)) := fun y => by rw [List.getElem?_set_ne (by omega)]; exact hd
    simp only [cmpL, gN_ap, Option.bind_some, cYes_ap, if_true, e2_ap, eCall_ap, eCons_ap, eVB_ap, eC_ap, eNil_ap, e9, e2', d_val, Option.map_some, int_int, mod_int, w0, ne_eq, not_false_eq_true, fdiv_int, d2, sub_int, hz]
  have sz : ∀ y, Sm (z y) := fun y => sm_of (by have := zb y; omega)
  have s01 := sm01
  simp [h0, h1, hw, f4, hy, cut_map, hk, fl]
  rw [cc _ rfl (by simp)]
  have hk8 : k = 0 ∨ k = 1 ∨ k = 2 ∨ k = 3 ∨ k = 4 ∨ k = 5 ∨ k = 6 ∨ k = 7 := by omega
  have o2 : ∀ q : Int, mulOk 2 q = true := fun q => mulOk_l (by decide)
  have oz : ∀ y q, mulOk (z y) q = true := fun y q => (sz y).l
  rcases hk8 with rfl | rfl | rfl | rfl | rfl | rfl | rfl | rfl
  · simp [fl, eq_int, o2]; exact ⟨_, _, _, _, _, _, rfl⟩
  · simp [fl, eq_int, oz]; exact ⟨_, _, _, _, _, _, rfl⟩
  · have i := lafter (a := 1) (b := z y0) (c := 0) (d := 1) (e := z y4) (f := z y5) (a1 := 1) (b1 := 0) (c1 := z y1) (d1 := 1) (e1 := 0) (g1 := 0) ⟨sm01.2, sm01.1, sz y1, sm01.2⟩
    unfold comp at i
    obtain ⟨A, B, C, E, F, G, i2⟩ : ∃ A B C E F G, ev__law_after [P6 1 (z y0) 0 1 (z y4) (z y5), P6 1 0 (z y1) 1 0 0] = some (.val (P6 A B C E F G)) := ⟨_, _, _, _, _, _, i⟩
    have o := lafter (a := A) (b := B) (c := C) (d := E) (e := F) (f := G) (a1 := 0) (b1 := 1) (c1 := 1) (d1 := 0) (e1 := z y2) (g1 := z y3) ⟨sm01.1, sm01.2, sm01.2, sm01.1⟩
    unfold comp at o
    obtain ⟨A', B', C', E', F', G', o2'⟩ : ∃ A' B' C' E' F' G', ev__law_after [P6 A B C E F G, P6 0 1 1 0 (z y2) (z y3)] = some (.val (P6 A' B' C' E' F' G')) := ⟨_, _, _, _, _, _, o⟩
    unfold P6 at i2 o2'
    simp [fl, eq_int, i2, o2']
    exact ⟨_, _, _, _, _, _, rfl⟩
  · have i := lafter (a := 1) (b := z y2) (c := 0) (d := 1) (e := 0) (f := 0) (a1 := 1) (b1 := 0) (c1 := z y3) (d1 := 1) (e1 := 0) (g1 := 0) ⟨sm01.2, sm01.1, sz y3, sm01.2⟩
    unfold comp at i
    have b3 := bnd (zb y3) (zb y2)
    have t2 := zb y2
    have t3 := zb y3
    obtain ⟨A, B, C, E, F, G, i2, sA, sB, sC, sE⟩ : ∃ A B C E F G, ev__law_after [P6 1 (z y2) 0 1 0 0, P6 1 0 (z y3) 1 0 0] = some (.val (P6 A B C E F G)) ∧ Sm A ∧ Sm B ∧ Sm C ∧ Sm E :=
      ⟨_, _, _, _, _, _, i, by unfold Sm; omega, by unfold Sm; omega, by unfold Sm; omega, by unfold Sm; omega⟩
    have o := lafter (a := 0) (b := -1) (c := 1) (d := 0) (e := z y4) (f := z y5) (a1 := A) (b1 := B) (c1 := C) (d1 := E) (e1 := F) (g1 := G) ⟨sA, sB, sC, sE⟩
    unfold comp at o
    obtain ⟨A', B', C', E', F', G', o2'⟩ : ∃ A' B' C' E' F' G', ev__law_after [P6 0 (-1) 1 0 (z y4) (z y5), P6 A B C E F G] = some (.val (P6 A' B' C' E' F' G')) := ⟨_, _, _, _, _, _, o⟩
    unfold P6 at i2 o2'
    simp [fl, eq_int, i2, o2']
    exact ⟨_, _, _, _, _, _, rfl⟩
  · simp [fl, eq_int, o2]; exact ⟨_, _, _, _, _, _, rfl⟩
  · simp [fl, eq_int, oz]; exact ⟨_, _, _, _, _, _, rfl⟩
  · have pick : ∀ (u v q : Int), ∃ r, atI [D.int u, .int v] (q.fmod 2) = some (.int r) := fun u v q => by
      have := fm_range (a := q) (b := 2) (by omega)
      obtain ⟨m, hm⟩ : ∃ m, q.fmod 2 = m := ⟨_, rfl⟩
      rw [hm] at this ⊢
      have : m = 0 ∨ m = 1 := by omega
      rcases this with rfl | rfl <;> exact ⟨_, rfl⟩
    obtain ⟨r1, hr1⟩ := pick (z y0) 0 (x1.fdiv 4)
    obtain ⟨r2, hr2⟩ := pick 0 (z y3) (x1.fdiv 8)
    have d4 : divOk 4 = true := by decide
    have d8 : divOk 8 = true := by decide
    simp [fl, eq_int, h1, d4, d8, hr1, hr2]
    exact ⟨_, _, _, _, _, _, rfl⟩
  · simp [fl, eq_int]; exact ⟨_, _, _, _, _, _, rfl⟩
end L40
namespace L40
open PySem L2 DL DL.PR
theorem four_of {zs : List Int} (h : 4 ≤ zs.length) : Four (.lst (zs.map D.int)) := fun k hk => ⟨zs[k], by
  show atI (zs.map D.int) (k : Int) = _
  rw [atI_of rfl (by simp; omega)]
  simp⟩
theorem cut_from {α : Type} {xs : List α} {a : Nat} (h : a ≤ xs.length) : (cut xs (some (a : Int)) none).length = xs.length - a := by
  unfold cut
  rw [HT.sIx_nat, HT.sIx_none, Nat.min_eq_left h, List.length_take, List.length_drop]
  omega
theorem is_comp (a b c d e f a1 b1 c1 d1 e1 g1 : Int) : ev__law_is 20 [comp a b c d e f a1 b1 c1 d1 e1 g1, comp a b c d e f a1 b1 c1 d1 e1 g1] = some (.val (.bl true)) := is_6 _ _ _ _ _ _
theorem law_ok (ns : List Int) (h : ns.length ≤ 63) : ev_law [.scr ns] = some (.val (.bl true)) := by
  simp only [ev_law, runB, bd_law]
  have r4 : rng1 [.int 4] = some (rng 0 4) := by rw [rng1_of (by omega) (by omega)]; rfl
  simp [r4]
  generalize hF : forL _ _ _ _ = o
  obtain ⟨δ', rfl, s1, s2, s3, s4, s5, s6, s7, s8, rfl⟩ := forL_at hF (fun k δ => ∃ s1 s2 s3 s4 s5 s6 s7 s8, δ = [S.val (.scr ns), s1, s2, s3, s4, s5, s6, s7, s8]) ⟨_, _, _, _, _, _, _, _, rfl⟩ (fun i d δ hd ⟨s1, s2, s3, s4, s5, s6, s7, s8, e⟩ => by
    obtain ⟨hi, rfl⟩ := rng_get hd
    subst e
    obtain ⟨c1, hc1⟩ := cell_at ns (2 * (i : Int)) (by omega)
    obtain ⟨c2, hc2⟩ := cell_at ns (2 * (i : Int) + 1) (by omega)
    obtain ⟨r1, hr1, l1, b1⟩ := draws_at c1 30 (by omega) (by omega)
    obtain ⟨r2, hr2, l2, b2⟩ := draws_at c2 8 (by omega) (by omega)
    have l1 : r1.length = 30 := l1
    have l2 : r2.length = 8 := l2
    obtain ⟨_, hp1, a0, b0, c0, d0, e0, f0, rfl⟩ := plan_ok (rs := r1) (by omega) b1
    obtain ⟨_, hp2, a2, b2', c2', d2, e2', f2', rfl⟩ := plan_ok (rs := r2) (by omega) b2
    obtain ⟨A, B, C, E, F, G, hA, p⟩ : ∃ A B C E F G, ev__law_fits [P6 a0 b0 c0 d0 e0 f0] = some (.val (P6 A B C E F G)) ∧ Pl A B C E F G := ⟨_, _, _, _, _, _, fits6 _ _ _ _ _ _, pl_cl _ _ _ _ _ _⟩
    obtain ⟨A', B', C', E', F', G', hA', p'⟩ : ∃ A B C E F G, ev__law_fits [P6 a2 b2' c2' d2 e2' f2'] = some (.val (P6 A B C E F G)) ∧ Pl A B C E F G := ⟨_, _, _, _, _, _, fits6 _ _ _ _ _ _, pl_cl _ _ _ _ _ _⟩
    obtain ⟨x8, h8, _, _⟩ := ints_at b1 (m := 8) (by omega) (by omega)
    obtain ⟨x9, h9, _, _⟩ := ints_at b1 (m := 9) (by omega) (by omega)
    obtain ⟨x10, h10, u10, v10⟩ := ints_at b1 (m := 10) (by omega) (by omega)
    obtain ⟨x11, h11, _, _⟩ := ints_at b1 (m := 11) (by omega) (by omega)
    have fm := fm_range (a := x11) (b := 7) (by omega)
    have o1 : mulOk 2 (i : Int) = true := mulOk_l (by decide)
    have af1 := after (a := A) (b := B) (c := C) (d := E) (e := F) (f := G) (e1 := F') (g1 := G') p'.sm
    have af2 := lafter (a := A) (b := B) (c := C) (d := E) (e := F) (f := G) (e1 := F') (g1 := G') p'.sm
    have af3 := after (a := A') (b := B') (c := C') (d := E') (e := F') (f := G') (e1 := F) (g1 := G) p.sm
    have af4 := lafter (a := A') (b := B') (c := C') (d := E') (e := F') (f := G') (e1 := F) (g1 := G) p.sm
    have ls := lsent (a := A) (b := B) (c := C) (d := E) (e := F) (f := G) (x := x8.fmod 9 - 4) (y := x9.fmod 9 - 4) (.inl p.sm)
    obtain ⟨I0, I1, hI, bI0, bI1⟩ : ∃ I0 I1, ev__law_fits [pt (A * (x8.fmod 9 - 4) + B * (x9.fmod 9 - 4) + F) (C * (x8.fmod 9 - 4) + E * (x9.fmod 9 - 4) + G)] = some (.val (pt I0 I1)) ∧ I0.natAbs ≤ 1000000 ∧ I1.natAbs ≤ 1000000 := ⟨_, _, fits2 _ _, by have := cl_b (A * (x8.fmod 9 - 4) + B * (x9.fmod 9 - 4) + F); omega, by have := cl_b (C * (x8.fmod 9 - 4) + E * (x9.fmod 9 - 4) + G); omega⟩
    have bF := p.e
    have bG := p.f
    have q12 : Four (.lst ((cut r1 (some 12) none).map D.int)) := four_of (by
      have := cut_from (xs := r1) (a := 12) (by omega)
      rw [show ((12 : Nat) : Int) = 12 from rfl] at this
      omega)
    have q16 : Four (.lst ((cut r1 (some 16) none).map D.int)) := four_of (by
      have := cut_from (xs := r1) (a := 16) (by omega)
      rw [show ((16 : Nat) : Int) = 16 from rfl] at this
      omega)
    have R1 : ev__law_right [P6 A B C E F G, .lst [pt I0 I1, pt I0 (I1 - 1), pt (x10 - 2520) (x11.fmod 7 - 3), pt F G, pt (max (-1000000) (I0 - 2)) I1], .lst ((cut r1 (some 12) none).map D.int)] = some (.val (.bl true)) :=
      right_ok p (ps := [(I0, I1), (I0, I1 - 1), (x10 - 2520, x11.fmod 7 - 3), (F, G), (max (-1000000) (I0 - 2), I1)]) (by
        intro q hq
        simp only [List.mem_cons, List.not_mem_nil, or_false] at hq
        rcases hq with rfl | rfl | rfl | rfl | rfl <;> refine ⟨?_, ?_⟩ <;> show Int.natAbs _ ≤ _ <;> omega) q12
    have R2 : ev__law_right [P6 A' B' C' E' F' G', .lst [pt (x10 - 2520) (x11.fmod 7 - 3), pt F G, pt (max (-1000000) (I0 - 2)) I1], .lst ((cut r1 (some 16) none).map D.int)] = some (.val (.bl true)) :=
      right_ok p' (ps := [(x10 - 2520, x11.fmod 7 - 3), (F, G), (max (-1000000) (I0 - 2), I1)]) (by
        intro q hq
        simp only [List.mem_cons, List.not_mem_nil, or_false] at hq
        rcases hq with rfl | rfl | rfl <;> refine ⟨?_, ?_⟩ <;> show Int.natAbs _ ≤ _ <;> omega) q16
    have ct : ∀ a b c d e : D, cut [a, b, c, d, e] (some 2) none = [c, d, e] := fun _ _ _ _ _ => rfl
    have y0 : dIx (pt I0 I1) (.int 0) = some (.int I0) := rfl
    have y1 : dIx (pt I0 I1) (.int 1) = some (.int I1) := rfl
    have y4 : dIx (P6 A B C E F G) (.int 4) = some (.int F) := rfl
    have y5 : dIx (P6 A B C E F G) (.int 5) = some (.int G) := rfl
    have hz : 4 < sizeLine := by show 4 < 2 ^ 24; omega
    have ptu : ∀ x y, D.tup [.int x, .int y] = pt x y := fun _ _ => rfl
    simp [hc1, hc2, hr1, hr2, hp1, hp2, hA, hA', o1, af1, af2, af3, af4, is_comp, h8, h9, h10, h11, fl, ptu, ls, hI, y0, y1, y4, y5, hz, R1, R2, ct, cut_map])
  have ptu : ∀ x y, D.tup [.int x, .int y] = pt x y := fun _ _ => rfl
  have p6u : ∀ a b c d e f, D.tup [.int a, .int b, .int c, .int d, .int e, .int f] = P6 a b c d e f := fun _ _ _ _ _ _ => rfl
  have fd : ∀ a b c d : Int, Four (.tup [.int a, .int b, .int c, .int d]) := fun a b c d k hk => by
    have : k = 0 ∨ k = 1 ∨ k = 2 ∨ k = 3 := by omega
    rcases this with rfl | rfl | rfl | rfl
    · exact ⟨a, rfl⟩
    · exact ⟨b, rfl⟩
    · exact ⟨c, rfl⟩
    · exact ⟨d, rfl⟩
  have Z1 : ev__law_right [P6 0 0 0 0 3 4, .lst [pt 3 4, pt 3 5, pt 4 4], .tup [.int 3, .int 1, .int 4, .int 1]] = some (.val (.bl true)) :=
    right_ok ⟨by decide, by decide, by decide, by decide, by decide, by decide⟩ (ps := [(3, 4), (3, 5), (4, 4)]) (by decide) (fd _ _ _ _)
  have Z2 : ev__law_right [P6 4 6 6 9 0 0, .lst [pt 2 3, pt 1 0, pt 0 0, pt 4 6], .tup [.int 1, .int 2, .int 3, .int 4]] = some (.val (.bl true)) :=
    right_ok ⟨by decide, by decide, by decide, by decide, by decide, by decide⟩ (ps := [(2, 3), (1, 0), (0, 0), (4, 6)]) (by decide) (fd _ _ _ _)
  simp [fl, ptu, p6u, Z1, Z2]
end L40

open PySem PySem.W PyProof.Rows
set_option maxRecDepth 100000 in
set_option maxHeartbeats 0 in
theorem PySem.Challenge.cw_placekeep_k40_whole_sources_or_bars_holds : PySem.Challenge.rw_placekeep_k40_whole_sources_or_bars.Holds := by
  w_on; o_law; k_head; (case hw => w_witness2)
  k_fill
  refine DL.walkD (l := PySem.Challenge.rw_placekeep_k40_whole_sources_or_bars) (n := 63) (k := 24) (ev := L40.ev_law) rfl (by decide) rfl ⟨rfl, by decide, by decide⟩ (fun w h Y => PySem.W.kIn_of Y) ?F L40.law_ok
  case F =>
    intro w mg fa h KX G hmg
    refine' L40.all_mk KX G hmg ?a0 ?l0 ?c0 ?k0 ?a1 ?l1 ?c1 ?k1 ?a2 ?l2 ?c2 ?k2 ?a3 ?l3 ?c3 ?k3 ?a4 ?l4 ?c4 ?k4 ?a5 ?l5 ?c5 ?k5 ?a6 ?l6 ?c6 ?k6 ?a7 ?l7 ?c7 ?k7 ?a8 ?l8 ?c8 ?k8 ?a9 ?l9 ?c9 ?k9 ?a10 ?l10 ?c10 ?k10 ?a11 ?l11 ?c11 ?k11 ?a12 ?l12 ?c12 ?k12 ?a13 ?l13 ?c13 ?k13 ?a14 ?l14 ?c14 ?k14 ?a15 ?l15 ?c15 ?k15 ?a16 ?l16 ?c16 ?k16 ?a17 ?l17 ?c17 ?k17 ?a18 ?l18 ?c18 ?k18 ?a19 ?l19 ?c19 ?k19 ?a20 ?l20 ?c20 ?k20 ?a21 ?l21 ?c21 ?k21 ?a22 ?l22 ?c22 ?k22 ?a23 ?l23 ?c23 ?k23 ?a24 ?l24 ?c24 ?k24 ?a25 ?l25 ?c25 ?k25 ?a26 ?l26 ?c26 ?k26 ?z_abs ?z_all ?z_bool ?z_int ?z_isinstance ?z_len ?z_max ?z_min ?z_range ?z_str ?z_tuple
    (case a0 => k_is)
    (case l0 => k_is)
    (case c0 => k_is)
    (case k0 => k_is)
    (case a1 => k_is)
    (case l1 => k_is)
    (case c1 => k_is)
    (case k1 => k_is)
    (case a2 => k_is)
    (case l2 => k_is)
    (case c2 => k_is)
    (case k2 => k_is)
    (case a3 => k_is)
    (case l3 => k_is)
    (case c3 => k_is)
    (case k3 => k_is)
    (case a4 => k_is)
    (case l4 => k_is)
    (case c4 => k_is)
    (case k4 => k_is)
    (case a5 => k_is)
    (case l5 => k_is)
    (case c5 => k_is)
    (case k5 => k_is)
    (case a6 => k_is)
    (case l6 => k_is)
    (case c6 => k_is)
    (case k6 => k_is)
    (case a7 => k_is)
    (case l7 => k_is)
    (case c7 => k_is)
    (case k7 => k_is)
    (case a8 => k_is)
    (case l8 => k_is)
    (case c8 => k_is)
    (case k8 => k_is)
    (case a9 => k_is)
    (case l9 => k_is)
    (case c9 => k_is)
    (case k9 => k_is)
    (case a10 => k_is)
    (case l10 => k_is)
    (case c10 => k_is)
    (case k10 => k_is)
    (case a11 => k_is)
    (case l11 => k_is)
    (case c11 => k_is)
    (case k11 => k_is)
    (case a12 => k_is)
    (case l12 => k_is)
    (case c12 => k_is)
    (case k12 => k_is)
    (case a13 => k_is)
    (case l13 => k_is)
    (case c13 => k_is)
    (case k13 => k_is)
    (case a14 => k_is)
    (case l14 => k_is)
    (case c14 => k_is)
    (case k14 => k_is)
    (case a15 => k_is)
    (case l15 => k_is)
    (case c15 => k_is)
    (case k15 => k_is)
    (case a16 => k_is)
    (case l16 => k_is)
    (case c16 => k_is)
    (case k16 => k_is)
    (case a17 => k_is)
    (case l17 => k_is)
    (case c17 => k_is)
    (case k17 => k_is)
    (case a18 => k_is)
    (case l18 => k_is)
    (case c18 => k_is)
    (case k18 => k_is)
    (case a19 => k_is)
    (case l19 => k_is)
    (case c19 => k_is)
    (case k19 => k_is)
    (case a20 => k_is)
    (case l20 => k_is)
    (case c20 => k_is)
    (case k20 => k_is)
    (case a21 => k_is)
    (case l21 => k_is)
    (case c21 => k_is)
    (case k21 => k_is)
    (case a22 => k_is)
    (case l22 => k_is)
    (case c22 => k_is)
    (case k22 => k_is)
    (case a23 => k_is)
    (case l23 => k_is)
    (case c23 => k_is)
    (case k23 => k_is)
    (case a24 => k_is)
    (case l24 => k_is)
    (case c24 => k_is)
    (case k24 => k_is)
    (case a25 => k_is)
    (case l25 => k_is)
    (case c25 => k_is)
    (case k25 => k_is)
    (case a26 => k_is)
    (case l26 => k_is)
    (case c26 => k_is)
    (case k26 => k_is)
    (case z_abs => k_is)
    (case z_all => k_is)
    (case z_bool => k_is)
    (case z_int => k_is)
    (case z_isinstance => k_is)
    (case z_len => k_is)
    (case z_max => k_is)
    (case z_min => k_is)
    (case z_range => k_is)
    (case z_str => k_is)
    (case z_tuple => k_is)
#print axioms PySem.Challenge.cw_placekeep_k40_whole_sources_or_bars_holds

