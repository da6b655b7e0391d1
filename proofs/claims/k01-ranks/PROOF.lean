import PyProof.Rows.All
import Wide.All
import OpenK.AllK
import Wide.FinOn
import HandS.ForMost
import HandS.Walk
import HandS.Wide
import HandS.Flow
import HandS.IsInst
import HandS.TupAny
import HandS.TupMul
import HandS.Style
import HandS.Rev
import HandS.Conv
import HandS.Codes
import HandS.Deep
import HandS.TupLe
import HandS.StrMore
import HandS.WordsDict
import HandS.SortInts
import HandS.TupLen
import PyProof.Rows.StrMeet
import PyProof.ListStr
import PyProof.StrLawsIn
import PySem.Challenge.RW_lettercourt_k01_ranks_of_words
import HandS.Text
set_option Elab.async false
set_option linter.all false
set_option maxRecDepth 100000
set_option maxHeartbeats 4000000
/-! The mirror layer: plain values, environments, what a piece of code computes. -/
namespace MC
open PySem PySem.Spec L2

/-- a plain value -/
inductive PV where
  | non | bl (b : Bool) | int (i : Int) | str (x : Str) | tup (xs : List PV) | lst (xs : List PV)
  | dic (ks vs : List PV)
  | sq (l : Bool) (xs : List PV)

/-- readable there as here; a dict may have been locked -/
def Lk : HO → Prop
  | .dK _ => True
  | .dT _ => True
  | _ => False
def Bel (H H' : Hp) : Prop := ∀ a o, H a = some o → H' a = some o ∨ (Lk o ∧ ∃ ob, H' a = some (.frz ob o))
theorem Bel.rfl' {H : Hp} : Bel H H := fun _ _ h => .inl h
theorem Bel.trans {H H1 H2 : Hp} (a : Bel H H1) (b : Bel H1 H2) : Bel H H2 := fun c o h => by
  rcases a c o h with h1 | ⟨l, ob, h1⟩
  · exact b c o h1
  · rcases b c _ h1 with h2 | ⟨l2, _⟩
    · exact .inr ⟨l, ob, h2⟩
    · exact l2.elim
theorem Bel.some_ {H H' : Hp} (s : Bel H H') {a : Addr} (h : H a ≠ none) : H' a ≠ none := by
  cases q : H a with
  | none => exact absurd q h
  | some o => rcases s a o q with z | ⟨_, ob, z⟩ <;> rw [z] <;> simp
theorem Bel.rd {H H' : Hp} (s : Bel H H') {a : Addr} {u : HO} (h : Rd H a u) : Rd H' a u := by
  rcases h with h | ⟨o, h⟩
  · rcases s a _ h with z | ⟨_, ob, z⟩
    · exact .inl z
    · exact .inr ⟨ob, z⟩
  · rcases s a _ h with z | ⟨l, ob, z⟩
    · exact .inr ⟨o, z⟩
    · exact l.elim
theorem Bel.sqT {K : PySem.W.Frag} {H H' : Hp} (s : Bel H H') {a : Addr} {xs : List V} (h : SqT K H a xs) : SqT K H' a xs := by
  rcases h with h | h
  · exact .inl (s.rd h)
  · exact .inr h
theorem Bel.sqL {K : PySem.W.Frag} {H H' : Hp} (s : Bel H H') {a : Addr} {xs : List V} (h : SqL K H a xs) : SqL K H' a xs := by
  rcases h with h | h
  · exact .inl (s.rd h)
  · exact .inr h
theorem Bel.lst {H H' : Hp} (s : Bel H H') {a : Addr} {xs : List V} (h : H a = some (.lst xs)) : H' a = some (.lst xs) := by
  rcases s a _ h with z | ⟨l, _⟩
  · exact z
  · exact l.elim
theorem Bel.tup {H H' : Hp} (s : Bel H H') {a : Addr} {xs : List V} (h : H a = some (.tup xs)) : H' a = some (.tup xs) := by
  rcases s a _ h with z | ⟨l, _⟩
  · exact z
  · exact l.elim
theorem Bel.upd {H : Hp} {p : Addr} {o : HO} (h : H p = none) : Bel H (upd H p o) := fun a u e => .inl (by rw [upd_ne (ne_of_none e h)]; exact e)

/-- a key as a plain value -/
def kP : Key → PV
  | .inl i => .int i
  | .inr x => .str x

mutual
/-- v stands in H for the plain value -/
def Rep (K : PySem.W.Frag) (H : Hp) (v : V) : PV → Prop
  | .non => v = .non
  | .bl b => v = .bl b
  | .int i => v = .int i
  | .str x => v = .str x
  | .tup xs => ∃ a vs, v = .ref a ∧ H a = some (.tup vs) ∧ Reps K H vs xs
  | .lst xs => ∃ a vs, v = .ref a ∧ H a = some (.lst vs) ∧ Reps K H vs xs
  | .sq l xs => ∃ a vs, v = .ref a ∧ (if l = true then SqL K H a vs else SqT K H a vs) ∧ Reps K H vs xs
  | .dic ks xs => ∃ (a : Addr) (vs : List V), v = .ref a ∧ Reps K H vs xs ∧
      ((∃ kk : List Key, Rd H a (.dK (kk.zip vs)) ∧ kk.length = vs.length ∧ ks = kk.map kP) ∨
       (∃ kk : List (List Key), kk ≠ [] ∧ Rd H a (.dT (kk.zip vs)) ∧ kk.length = vs.length ∧ ks = kk.map fun l => .tup (l.map kP)))
def Reps (K : PySem.W.Frag) (H : Hp) (vs : List V) : List PV → Prop
  | [] => vs = []
  | x :: xs => ∃ v r, vs = v :: r ∧ Rep K H v x ∧ Reps K H r xs
end

section
variable {K : PySem.W.Frag} {H H' Hf Hf' : Hp}
mutual
theorem Rep.sub (s : Bel H H') : ∀ {x : PV} {v : V}, Rep K H v x → Rep K H' v x
  | .non, _, h => h
  | .bl _, _, h => h
  | .int _, _, h => h
  | .str _, _, h => h
  | .tup xs, v, h => by
    unfold Rep at h ⊢
    obtain ⟨a, vs, e, h1, h2⟩ := h
    exact ⟨a, vs, e, s.tup h1, Reps.sub s h2⟩
  | .lst xs, v, h => by
    unfold Rep at h ⊢
    obtain ⟨a, vs, e, h1, h2⟩ := h
    exact ⟨a, vs, e, s.lst h1, Reps.sub s h2⟩
  | .sq l xs, v, h => by
    unfold Rep at h ⊢
    obtain ⟨a, vs, e, h1, h2⟩ := h
    refine ⟨a, vs, e, ?_, Reps.sub s h2⟩
    cases l with
    | true => exact s.sqL h1
    | false => exact s.sqT h1
  | .dic ks xs, v, h => by
    unfold Rep at h ⊢
    obtain ⟨a, vs, e, h2, h3⟩ := h
    refine ⟨a, vs, e, Reps.sub s h2, ?_⟩
    rcases h3 with ⟨kk, r, l, e⟩ | ⟨kk, n, r, l, e⟩
    · exact .inl ⟨kk, s.rd r, l, e⟩
    · exact .inr ⟨kk, n, s.rd r, l, e⟩
theorem Reps.sub (s : Bel H H') : ∀ {xs : List PV} {vs : List V}, Reps K H vs xs → Reps K H' vs xs
  | [], _, h => h
  | x :: xs, vs, h => by
    unfold Reps at h ⊢
    obtain ⟨v, r, e, h1, h2⟩ := h
    exact ⟨v, r, e, Rep.sub s h1, Reps.sub s h2⟩
end
theorem Reps.nil : Reps K H [] [] := by unfold Reps; rfl
theorem Reps.cons {v : V} {vs : List V} {x : PV} {xs : List PV} (h : Rep K H v x) (t : Reps K H vs xs) : Reps K H (v :: vs) (x :: xs) := by
  unfold Reps; exact ⟨v, vs, rfl, h, t⟩
theorem Reps.nil_inv {vs : List V} (h : Reps K H vs []) : vs = [] := by unfold Reps at h; exact h
theorem Reps.cons_inv {vs : List V} {x : PV} {xs : List PV} (h : Reps K H vs (x :: xs)) : ∃ v r, vs = v :: r ∧ Rep K H v x ∧ Reps K H r xs := by
  unfold Reps at h; exact h
theorem Reps.length : ∀ {xs : List PV} {vs : List V}, Reps K H vs xs → vs.length = xs.length
  | [], vs, h => by rw [h.nil_inv]; rfl
  | x :: xs, vs, h => by
    obtain ⟨v, r, rfl, _, h2⟩ := h.cons_inv
    simp [Reps.length h2]
theorem Reps.append : ∀ {xs ys : List PV} {vs ws : List V}, Reps K H vs xs → Reps K H ws ys → Reps K H (vs ++ ws) (xs ++ ys)
  | [], _, _, _, h, g => by rw [h.nil_inv]; exact g
  | x :: xs, _, _, _, h, g => by
    obtain ⟨v, r, rfl, h1, h2⟩ := h.cons_inv
    exact .cons h1 (Reps.append h2 g)
theorem Reps.get : ∀ {xs : List PV} {vs : List V} {i : Nat} {x : PV}, Reps K H vs xs → xs[i]? = some x → ∃ v, vs[i]? = some v ∧ Rep K H v x
  | [], _, _, _, _, e => by simp at e
  | y :: ys, _, 0, x, h, e => by
    obtain ⟨v, r, rfl, h1, h2⟩ := h.cons_inv
    simp at e; subst e
    exact ⟨v, rfl, h1⟩
  | y :: ys, _, i + 1, x, h, e => by
    obtain ⟨v, r, rfl, h1, h2⟩ := h.cons_inv
    obtain ⟨w, e1, e2⟩ := Reps.get (i := i) h2 (by simpa using e)
    exact ⟨w, by simpa using e1, e2⟩
theorem Reps.get' : ∀ {xs : List PV} {vs : List V} {i : Nat} {v : V}, Reps K H vs xs → vs[i]? = some v → ∃ x, xs[i]? = some x ∧ Rep K H v x := fun {xs vs i v} h e => by
  have hl := h.length
  have hi : i < xs.length := by rw [← hl]; exact (List.getElem?_eq_some_iff.mp e).1
  obtain ⟨w, e1, e2⟩ := h.get (i := i) (x := xs[i]) (by simp [hi])
  rw [e] at e1; cases e1
  exact ⟨xs[i], by simp [hi], e2⟩
theorem Reps.set : ∀ {xs : List PV} {vs : List V} {v : V} {x : PV} (i : Nat), Reps K H vs xs → Rep K H v x → Reps K H (vs.set i v) (xs.set i x)
  | [], _, _, _, _, h, _ => by rw [h.nil_inv]; exact .nil
  | y :: ys, _, v, x, 0, h, g => by
    obtain ⟨w, r, rfl, h1, h2⟩ := h.cons_inv
    exact .cons g h2
  | y :: ys, _, v, x, i + 1, h, g => by
    obtain ⟨w, r, rfl, h1, h2⟩ := h.cons_inv
    exact .cons h1 (Reps.set i h2 g)
theorem Reps.eraseIdx : ∀ {xs : List PV} {vs : List V} (i : Nat), Reps K H vs xs → Reps K H (vs.eraseIdx i) (xs.eraseIdx i)
  | [], _, _, h => by rw [h.nil_inv]; exact .nil
  | y :: ys, _, 0, h => by
    obtain ⟨w, r, rfl, h1, h2⟩ := h.cons_inv
    exact h2
  | y :: ys, _, i + 1, h => by
    obtain ⟨w, r, rfl, h1, h2⟩ := h.cons_inv
    exact .cons h1 (Reps.eraseIdx i h2)
theorem Reps.take : ∀ {xs : List PV} {vs : List V} (n : Nat), Reps K H vs xs → Reps K H (vs.take n) (xs.take n)
  | _, _, 0, _ => by simp; exact .nil
  | [], _, _ + 1, h => by rw [h.nil_inv]; exact .nil
  | x :: xs, _, n + 1, h => by
    obtain ⟨w, r, rfl, h1, h2⟩ := h.cons_inv
    exact .cons h1 (Reps.take n h2)
theorem Reps.drop : ∀ {xs : List PV} {vs : List V} (n : Nat), Reps K H vs xs → Reps K H (vs.drop n) (xs.drop n)
  | _, _, 0, h => by simpa using h
  | [], _, _ + 1, h => by rw [h.nil_inv]; exact .nil
  | x :: xs, _, n + 1, h => by
    obtain ⟨w, r, rfl, h1, h2⟩ := h.cons_inv
    exact Reps.drop n h2
theorem Reps.reverse : ∀ {xs : List PV} {vs : List V}, Reps K H vs xs → Reps K H vs.reverse xs.reverse
  | [], _, h => by rw [h.nil_inv]; exact .nil
  | x :: xs, _, h => by
    obtain ⟨w, r, rfl, h1, h2⟩ := h.cons_inv
    simp only [List.reverse_cons]
    exact (Reps.reverse h2).append (.cons h1 .nil)
theorem Reps.rep {xs : List PV} {vs : List V} (h : Reps K H vs xs) : ∀ n : Nat, Reps K H (List.replicate n vs).flatten (List.replicate n xs).flatten
  | 0 => .nil
  | n + 1 => by simp only [List.replicate_succ, List.flatten_cons]; exact h.append (Reps.rep h n)
theorem Reps.ints : ∀ (ns : List Int), Reps K H (ns.map V.int) (ns.map PV.int)
  | [] => .nil
  | n :: ns => .cons (by unfold Rep; rfl) (Reps.ints ns)
end

/-- a flat value holds no object -/
def PV.flat : PV → Bool
  | .non => true
  | .bl _ => true
  | .int _ => true
  | .str _ => true
  | _ => false
theorem Rep.flat {K : PySem.W.Frag} {H H' : Hp} {x : PV} {v : V} (f : x.flat = true) (h : Rep K H v x) : Rep K H' v x := by
  cases x with
  | non => exact h
  | bl _ => exact h
  | int _ => exact h
  | str _ => exact h
  | tup _ => cases f
  | lst _ => cases f
  | dic _ _ => cases f
  | sq _ _ => cases f

/-- an object that is readable in H, its parts standing in Hf -/
def Cell (K : PySem.W.Frag) (Hf : Hp) (o : HO) : PV → Prop
  | .lst xs => ∃ vs, o = .lst vs ∧ Reps K Hf vs xs
  | .dic ks xs => ∃ vs, Reps K Hf vs xs ∧
      ((∃ kk : List Key, o = .dK (kk.zip vs) ∧ kk.length = vs.length ∧ ks = kk.map kP) ∨
       (∃ kk : List (List Key), kk ≠ [] ∧ o = .dT (kk.zip vs) ∧ kk.length = vs.length ∧ ks = kk.map fun l => .tup (l.map kP)))
  | _ => False
theorem Cell.sub {K : PySem.W.Frag} {H H' : Hp} {o : HO} {x : PV} (s : Bel H H') (h : Cell K H o x) : Cell K H' o x := by
  cases x with
  | lst xs => obtain ⟨vs, e, r⟩ := h; exact ⟨vs, e, r.sub s⟩
  | dic ks xs => obtain ⟨vs, r, e⟩ := h; exact ⟨vs, r.sub s, e⟩
  | _ => exact h
theorem Cell.mut {K : PySem.W.Frag} {H : Hp} {o : HO} {x : PV} (h : Cell K H o x) : Mut (some o) := by
  cases x with
  | lst xs => obtain ⟨vs, e, r⟩ := h; subst e; trivial
  | dic ks xs =>
    obtain ⟨vs, r, ⟨kk, e, _⟩ | ⟨kk, _, e, _⟩⟩ := h
    · subst e; trivial
    · subst e; trivial
  | _ => exact h.elim
/-- once its own object is known to Hf too, the cell is a plain value there -/
theorem Cell.rep {K : PySem.W.Frag} {H : Hp} {o : HO} {x : PV} {p : Addr} (h : Cell K H o x) (e : H p = some o) : Rep K H (.ref p) x := by
  cases x with
  | lst xs => obtain ⟨vs, e', r⟩ := h; subst e'; unfold Rep; exact ⟨p, vs, rfl, e, r⟩
  | dic ks xs =>
    obtain ⟨vs, r, ⟨kk, e', h1, h2⟩ | ⟨kk, n, e', h1, h2⟩⟩ := h
    · subst e'; unfold Rep; exact ⟨p, vs, rfl, r, .inl ⟨kk, .inl e, h1, h2⟩⟩
    · subst e'; unfold Rep; exact ⟨p, vs, rfl, r, .inr ⟨kk, n, .inl e, h1, h2⟩⟩
  | _ => exact h.elim

/-! ### the environment: for each slot whether its object is its own, and its value -/
abbrev Env := List (Option (Bool × PV))
def Own (ρ : Env) (σ : St) (b : Addr) : Prop := ∃ (i : Nat) (v : PV), ρ[i]? = some (some (true, v)) ∧ σ[i]? = some (some (.ref b))
structure R (K : PySem.W.Frag) (ρ : Env) (Hf : Hp) (σ : St) (H : Hp) : Prop where
  sub : Bel Hf H
  vars : ∀ (i : Nat) (o : Bool) (v : PV), ρ[i]? = some (some (o, v)) → ∃ v', σ[i]? = some (some v') ∧ (o = false → Rep K Hf v' v) ∧
    (o = true → ∃ p ob, v' = .ref p ∧ Hf p = none ∧ H p = some ob ∧ Cell K Hf ob v)
  dist : ∀ (i j : Nat) (v w : PV) (b : Addr), ρ[i]? = some (some (true, v)) → ρ[j]? = some (some (true, w)) → σ[i]? = some (some (.ref b)) → σ[j]? = some (some (.ref b)) → i = j
/-- from one state to a later one -/
structure Step (ρ : Env) (Hf : Hp) (σ : St) (H : Hp) (ρ' : Env) (Hf' : Hp) (σ' : St) (H' : Hp) : Prop where
  sub : Bel Hf Hf'
  keep : ∀ b o, H b = some o → ¬ Own ρ σ b → H' b = some o
  new : ∀ b, Hf' b ≠ none → Hf b ≠ none ∨ Own ρ σ b ∨ H b = none
  own : ∀ b, Own ρ' σ' b → Own ρ σ b ∨ H b = none
  there : ∀ b, H b ≠ none → H' b ≠ none
section
variable {K : PySem.W.Frag} {ρ ρ1 ρ2 : Env} {Hf Hf1 Hf2 : Hp} {σ σ1 σ2 : St} {H H1 H2 : Hp}
theorem Step.rfl' : Step ρ Hf σ H ρ Hf σ H := ⟨.rfl', fun _ _ h _ => h, fun _ h => .inl h, fun _ h => .inl h, fun _ h => h⟩
theorem Step.trans (a : Step ρ Hf σ H ρ1 Hf1 σ1 H1) (b : Step ρ1 Hf1 σ1 H1 ρ2 Hf2 σ2 H2) : Step ρ Hf σ H ρ2 Hf2 σ2 H2 where
  sub := a.sub.trans b.sub
  keep := fun c o h n => b.keep c o (a.keep c o h n) fun w => by
    rcases a.own c w with z | z
    · exact n z
    · rw [h] at z; cases z
  new := fun c h => by
    have up : H1 c = none → H c = none := fun z => Classical.byContradiction fun n => a.there c n z
    rcases b.new c h with z | z | z
    · exact a.new c z
    · rcases a.own c z with z | z
      · exact .inr (.inl z)
      · exact .inr (.inr z)
    · exact .inr (.inr (up z))
  own := fun c h => by
    rcases b.own c h with z | z
    · exact a.own c z
    · exact .inr (Classical.byContradiction fun n => a.there c n z)
  there := fun c h => b.there c (a.there c h)
end
end MC
set_option Elab.async false
set_option linter.all false
set_option maxRecDepth 100000
set_option maxHeartbeats 4000000
namespace MC
open PySem PySem.Spec L2

/-! ### what a piece computes -/
abbrev M (α : Type) := Env → Option (α × Env)
def ret {α : Type} (a : α) : M α := fun ρ => some (a, ρ)
def bad {α : Type} : M α := fun _ => none
def andThen {α β : Type} (f : M α) (g : α → M β) : M β := fun ρ => match f ρ with
  | some (a, ρ1) => g a ρ1
  | none => none
instance : Monad M where
  pure := ret
  bind := andThen
def lift {α : Type} (o : Option α) : M α := fun ρ => match o with
  | some a => some (a, ρ)
  | none => none
theorem bind_eq {α β : Type} (f : M α) (g : α → M β) (ρ : Env) : (f >>= g) ρ = match f ρ with
  | some (a, ρ1) => g a ρ1
  | none => none := rfl
theorem pure_eq {α : Type} (a : α) (ρ : Env) : (pure a : M α) ρ = some (a, ρ) := rfl
theorem lift_eq {α : Type} (o : Option α) (ρ : Env) : lift o ρ = o.map fun a => (a, ρ) := by cases o <;> rfl
def wp {α : Type} (f : M α) (ρ : Env) (P : α → Env → Prop) : Prop := match f ρ with
  | some (a, ρ1) => P a ρ1
  | none => False
theorem wp_mono {α : Type} {f : M α} {ρ : Env} {P P' : α → Env → Prop} (h : wp f ρ P) (k : ∀ a ρ1, P a ρ1 → P' a ρ1) : wp f ρ P' := by
  unfold wp at h ⊢
  cases e : f ρ with
  | none => rw [e] at h; exact h
  | some r => rw [e] at h; exact k _ _ h
theorem wp_bind {α β : Type} {f : M α} {g : α → M β} {ρ : Env} {P : β → Env → Prop} : wp (f >>= g) ρ P ↔ wp f ρ fun a ρ1 => wp (g a) ρ1 P := by
  unfold wp
  rw [bind_eq]
  cases e : f ρ with
  | none => exact Iff.rfl
  | some r => exact Iff.rfl
theorem wp_pure {α : Type} {a : α} {ρ : Env} {P : α → Env → Prop} : wp (pure a : M α) ρ P ↔ P a ρ := Iff.rfl
theorem wp_lift {α : Type} {o : Option α} {ρ : Env} {P : α → Env → Prop} : wp (lift o) ρ P ↔ ∃ a, o = some a ∧ P a ρ := by
  unfold wp lift
  cases o with
  | none => simp
  | some a => simp
theorem wp_some {α : Type} {f : M α} {ρ ρ1 : Env} {a : α} {P : α → Env → Prop} (e : f ρ = some (a, ρ1)) (h : P a ρ1) : wp f ρ P := by
  unfold wp; rw [e]; exact h
theorem wp_iff {α : Type} {f : M α} {ρ : Env} {P : α → Env → Prop} : wp f ρ P ↔ ∃ a ρ1, f ρ = some (a, ρ1) ∧ P a ρ1 := by
  unfold wp
  cases e : f ρ with
  | none => simp
  | some r =>
    obtain ⟨a, ρ1⟩ := r
    exact ⟨fun h => ⟨a, ρ1, rfl, h⟩, fun ⟨_, _, q, h⟩ => by cases q; exact h⟩

/-- a value that may be an object of its own -/
abbrev OV := Bool × PV
abbrev Sl := L2.St

section
variable {K : PySem.W.Frag} {ρ ρ' : Env} {Hf Hf' : Hp} {σ σ' : Sl} {H H' : Hp}
theorem Own.slot (r : R K ρ Hf σ H) {b : Addr} (o : Own ρ σ b) : Hf b = none ∧ ∃ ob, H b = some ob ∧ Mut (some ob) := by
  obtain ⟨i, v, e, s⟩ := o
  obtain ⟨v', s', _, h⟩ := r.vars i true v e
  obtain ⟨p, ob, rfl, h1, h2, h3⟩ := h rfl
  rw [s] at s'; cases s'
  exact ⟨h1, ob, h2, h3.mut⟩
theorem R.frozen (r : R K ρ Hf σ H) {b : Addr} (h : Hf b ≠ none) : ¬ Own ρ σ b := fun o => h (o.slot r).1
/-- the heap grows -/
theorem R.grow (r : R K ρ Hf σ H) (s : Bel Hf Hf') (s' : Bel Hf' H') (k : ∀ b o, Own ρ σ b → H b = some o → H' b = some o) (n : ∀ b, Own ρ σ b → Hf' b = none) : R K ρ Hf' σ H' where
  sub := s'
  vars := fun i o v e => by
    obtain ⟨v', e1, h1, h2⟩ := r.vars i o v e
    refine ⟨v', e1, fun z => (h1 z).sub s, fun z => ?_⟩
    obtain ⟨p, ob, rfl, a, b, c⟩ := h2 z
    subst z
    exact ⟨p, ob, rfl, n p ⟨i, v, e, e1⟩, k p ob ⟨i, v, e, e1⟩ b, c.sub s⟩
  dist := r.dist
/-- a slot is forgotten, or several -/
theorem R.less {ρ2 : Env} {σ2 : Sl} (r : R K ρ Hf σ H) (h : ∀ (i : Nat) x, ρ2[i]? = some (some x) → ρ[i]? = some (some x) ∧ σ2[i]? = σ[i]?) : R K ρ2 Hf σ2 H where
  sub := r.sub
  vars := fun i o v e => by
    obtain ⟨e1, e2⟩ := h i _ e
    rw [e2]
    exact r.vars i o v e1
  dist := fun i j v w b h1 h2 h3 h4 => by
    obtain ⟨a1, a2⟩ := h i _ h1
    obtain ⟨b1, b2⟩ := h j _ h2
    exact r.dist i j v w b a1 b1 (a2 ▸ h3) (b2 ▸ h4)
theorem getSet {α : Type} {l : List α} {i j : Nat} {x y : α} (h : (l.set i x)[j]? = some y) : (i = j ∧ y = x ∧ i < l.length) ∨ (i ≠ j ∧ l[j]? = some y) := by
  by_cases e : i = j
  · subst e
    by_cases hl : i < l.length
    · rw [List.getElem?_set_self hl] at h; cases h; exact .inl ⟨rfl, rfl, hl⟩
    · rw [List.getElem?_eq_none (by simpa using hl)] at h; cases h
  · rw [List.getElem?_set_ne e] at h
    exact .inr ⟨e, h⟩
/-- a plain value is stored -/
theorem R.setF (r : R K ρ Hf σ H) {i : Nat} {v' : V} {v : PV} (hi : i < σ.length) (h : Rep K Hf v' v) : R K (ρ.set i (some (false, v))) Hf (σ.set i (some v')) H where
  sub := r.sub
  vars := fun j o w e => by
    rcases getSet e with ⟨rfl, e2, _⟩ | ⟨ne, e2⟩
    · cases e2
      exact ⟨v', List.getElem?_set_self hi, fun _ => h, fun z => nomatch z⟩
    · rw [List.getElem?_set_ne ne]
      exact r.vars j o w e2
  dist := fun j k u w b h1 h2 h3 h4 => by
    rcases getSet h1 with ⟨rfl, e2, _⟩ | ⟨ne, e2⟩
    · cases e2
    · rcases getSet h2 with ⟨rfl, e3, _⟩ | ⟨ne2, e3⟩
      · cases e3
      · rw [List.getElem?_set_ne ne] at h3
        rw [List.getElem?_set_ne ne2] at h4
        exact r.dist j k u w b e2 e3 h3 h4
/-- an object of its own is stored -/
theorem R.setO (r : R K ρ Hf σ H) {i : Nat} {p : Addr} {ob : HO} {v : PV} (hi : i < σ.length) (h1 : Hf p = none) (h2 : H p = some ob) (h3 : Cell K Hf ob v) (h4 : ¬ Own ρ σ p) : R K (ρ.set i (some (true, v))) Hf (σ.set i (some (.ref p))) H where
  sub := r.sub
  vars := fun j o w e => by
    rcases getSet e with ⟨rfl, e2, _⟩ | ⟨ne, e2⟩
    · cases e2
      exact ⟨.ref p, List.getElem?_set_self hi, fun z => Bool.noConfusion z, fun _ => ⟨p, ob, rfl, h1, h2, h3⟩⟩
    · rw [List.getElem?_set_ne ne]
      exact r.vars j o w e2
  dist := fun j k u w b a1 a2 a3 a4 => by
    rcases getSet a1 with ⟨rfl, e2, _⟩ | ⟨ne, e2⟩
    · rw [List.getElem?_set_self hi] at a3
      cases a3
      rcases getSet a2 with ⟨rfl, e3, _⟩ | ⟨ne2, e3⟩
      · rfl
      · rw [List.getElem?_set_ne ne2] at a4
        exact absurd ⟨k, w, e3, a4⟩ h4
    · rcases getSet a2 with ⟨rfl, e3, _⟩ | ⟨ne2, e3⟩
      · rw [List.getElem?_set_self hi] at a4
        cases a4
        rw [List.getElem?_set_ne ne] at a3
        exact absurd ⟨j, u, e2, a3⟩ h4
      · rw [List.getElem?_set_ne ne] at a3
        rw [List.getElem?_set_ne ne2] at a4
        exact r.dist j k u w b e2 e3 a3 a4
/-- an own object's new content -/
theorem R.write (r : R K ρ Hf σ H) {i : Nat} {p : Addr} {ob : HO} {v w : PV} (e : ρ[i]? = some (some (true, v))) (s : σ[i]? = some (some (.ref p))) (h : Cell K Hf ob w) : R K (ρ.set i (some (true, w))) Hf σ (upd H p ob) where
  sub := fun a o q => by
    have n : a ≠ p := fun z => by
      have := (Own.slot r ⟨i, v, e, s⟩).1
      rw [z, this] at q; cases q
    rw [upd_ne n]
    exact r.sub a o q
  vars := fun j o u q => by
    have hN := (Own.slot r ⟨i, v, e, s⟩).1
    rcases getSet q with ⟨rfl, e2, _⟩ | ⟨ne, e2⟩
    · cases e2
      exact ⟨.ref p, s, fun z => Bool.noConfusion z, fun _ => ⟨p, ob, rfl, hN, upd_same, h⟩⟩
    · obtain ⟨v', s', h1, h2⟩ := r.vars j o u e2
      refine ⟨v', s', h1, fun z => ?_⟩
      obtain ⟨p', ob', rfl, a, b, c⟩ := h2 z
      subst z
      have n : p' ≠ p := fun z => ne (r.dist i j v u p e e2 s (z ▸ s'))
      exact ⟨p', ob', rfl, a, by rw [upd_ne n]; exact b, c⟩
  dist := fun j k u w' b a1 a2 a3 a4 => by
    rcases getSet a1 with ⟨rfl, e2, _⟩ | ⟨ne, e2⟩
    · rcases getSet a2 with ⟨rfl, e3, _⟩ | ⟨ne2, e3⟩
      · rfl
      · exact r.dist _ _ _ _ b e e3 a3 a4
    · rcases getSet a2 with ⟨rfl, e3, _⟩ | ⟨ne2, e3⟩
      · exact r.dist _ _ _ _ b e2 e a3 a4
      · exact r.dist _ _ _ _ b e2 e3 a3 a4
/-- an own object becomes a plain value -/
def frz1 (ρ : Env) (i : Nat) (v : PV) : Env := ρ.set i (some (false, v))
theorem R.freeze (r : R K ρ Hf σ H) {i : Nat} {p : Addr} {ob : HO} {v : PV} (e : ρ[i]? = some (some (true, v))) (s : σ[i]? = some (some (.ref p))) (h : H p = some ob) : R K (frz1 ρ i v) (upd Hf p ob) σ H := by
  have hN := (Own.slot r ⟨i, v, e, s⟩).1
  obtain ⟨v', s', _, hc⟩ := r.vars i true v e
  obtain ⟨p', ob', rfl, _, a2, a3⟩ := hc rfl
  rw [s] at s'; cases s'
  rw [h] at a2; cases a2
  have sb : Bel Hf (upd Hf p ob) := Bel.upd hN
  refine ⟨fun a o q => ?_, fun j o w q => ?_, fun j k u w b a1 a2 a3 a4 => ?_⟩
  · by_cases n : a = p
    · subst n; rw [upd_same] at q; cases q; exact .inl h
    · rw [upd_ne n] at q; exact r.sub a o q
  · rcases getSet q with ⟨rfl, e2, _⟩ | ⟨ne, e2⟩
    · cases e2
      exact ⟨.ref p, s, fun _ => (a3.sub sb).rep upd_same, fun z => nomatch z⟩
    · obtain ⟨v', s', h1, h2⟩ := r.vars j o w e2
      refine ⟨v', s', fun z => (h1 z).sub sb, fun z => ?_⟩
      obtain ⟨p', ob', rfl, a, b, c⟩ := h2 z
      subst z
      have n : p' ≠ p := fun z => ne (r.dist i j v w p e e2 s (z ▸ s'))
      exact ⟨p', ob', rfl, by rw [upd_ne n]; exact a, b, c.sub sb⟩
  · rcases getSet a1 with ⟨rfl, e2, _⟩ | ⟨ne, e2⟩
    · cases e2
    · rcases getSet a2 with ⟨rfl, e3, _⟩ | ⟨ne2, e3⟩
      · cases e3
      · exact r.dist _ _ _ _ b e2 e3 a3 a4
theorem Own.frz {i : Nat} {v : PV} {b : Addr} (o : Own (frz1 ρ i v) σ b) : Own ρ σ b := by
  obtain ⟨j, w, e, s⟩ := o
  rcases getSet e with ⟨rfl, e2, _⟩ | ⟨ne, e2⟩
  · cases e2
  · exact ⟨j, w, e2, s⟩
theorem Step.freeze (r : R K ρ Hf σ H) {i : Nat} {p : Addr} {ob : HO} {v : PV} (e : ρ[i]? = some (some (true, v))) (s : σ[i]? = some (some (.ref p))) : Step ρ Hf σ H (frz1 ρ i v) (upd Hf p ob) σ H where
  sub := Bel.upd (Own.slot r ⟨i, v, e, s⟩).1
  keep := fun _ _ h _ => h
  new := fun b h => by
    by_cases n : b = p
    · subst n; exact .inr (.inl ⟨i, v, e, s⟩)
    · rw [upd_ne n] at h; exact .inl h
  own := fun b o => .inl o.frz
  there := fun _ h => h
/-- a temporary object becomes a plain value -/
theorem R.commit (r : R K ρ Hf σ H) {p : Addr} {ob : HO} (h1 : Hf p = none) (h2 : H p = some ob) (h4 : ¬ Own ρ σ p) : R K ρ (upd Hf p ob) σ H :=
  r.grow (.upd h1) (fun a o q => by
    by_cases n : a = p
    · subst n; rw [upd_same] at q; cases q; exact .inl h2
    · rw [upd_ne n] at q; exact r.sub a o q) (fun _ _ _ h => h) fun b o => by
      have n : b ≠ p := fun z => h4 (z ▸ o)
      rw [upd_ne n]; exact (o.slot r).1
end

/-! ### readings -/
/-- the value's place: plain, or an object of its own -/
def RO (K : PySem.W.Frag) (ρ : Env) (Hf : Hp) (σ : Sl) (H : Hp) (v' : V) : OV → Prop
  | (false, v) => Rep K Hf v' v
  | (true, v) => ∃ p ob, v' = .ref p ∧ Hf p = none ∧ H p = some ob ∧ Cell K Hf ob v ∧ ¬ Own ρ σ p
/-- it is new since H0 -/
def NewO (H0 : Hp) (v' : V) (x : OV) : Prop := x.1 = true → ∀ p, v' = .ref p → H0 p = none
/-- an operand: readable in H, its parts standing in Hf -/
def Opd (K : PySem.W.Frag) (Hf H : Hp) (v' : V) : PV → Prop
  | .lst xs => ∃ a vs, v' = .ref a ∧ H a = some (.lst vs) ∧ Reps K Hf vs xs
  | .dic ks xs => ∃ (a : Addr) (vs : List V), v' = .ref a ∧ Reps K Hf vs xs ∧
      ((∃ kk : List Key, Rd H a (.dK (kk.zip vs)) ∧ kk.length = vs.length ∧ ks = kk.map kP) ∨
       (∃ kk : List (List Key), kk ≠ [] ∧ Rd H a (.dT (kk.zip vs)) ∧ kk.length = vs.length ∧ ks = kk.map fun l => .tup (l.map kP)))
  | x => Rep K Hf v' x
theorem Rep.opd {K : PySem.W.Frag} {Hf H : Hp} {v' : V} {x : PV} (s : Bel Hf H) (h : Rep K Hf v' x) : Opd K Hf H v' x := by
  cases x with
  | lst xs =>
    unfold Rep at h
    obtain ⟨a, vs, e, h1, h2⟩ := h
    exact ⟨a, vs, e, s.lst h1, h2⟩
  | dic ks xs =>
    unfold Rep at h
    obtain ⟨a, vs, e, h2, h3⟩ := h
    refine ⟨a, vs, e, h2, ?_⟩
    rcases h3 with ⟨kk, r, l, e⟩ | ⟨kk, n, r, l, e⟩
    · exact .inl ⟨kk, s.rd r, l, e⟩
    · exact .inr ⟨kk, n, s.rd r, l, e⟩
  | _ => exact h
theorem Cell.opd {K : PySem.W.Frag} {Hf H : Hp} {p : Addr} {ob : HO} {x : PV} (h : H p = some ob) (c : Cell K Hf ob x) : Opd K Hf H (.ref p) x := by
  cases x with
  | lst xs => obtain ⟨vs, e, r⟩ := c; subst e; exact ⟨p, vs, rfl, h, r⟩
  | dic ks xs =>
    obtain ⟨vs, r, ⟨kk, e, h1, h2⟩ | ⟨kk, n, e, h1, h2⟩⟩ := c
    · subst e; exact ⟨p, vs, rfl, r, .inl ⟨kk, .inl h, h1, h2⟩⟩
    · subst e; exact ⟨p, vs, rfl, r, .inr ⟨kk, n, .inl h, h1, h2⟩⟩
  | _ => exact c.elim
theorem Opd.flat {K : PySem.W.Frag} {Hf H : Hp} {v' : V} {x : PV} (f : x.flat = true) (h : Opd K Hf H v' x) : Rep K Hf v' x := by
  cases x <;> first | exact h | cases f

section
variable (K : PySem.W.Frag)
def tE (f : M OV) : TE := fun σ H Q => ∃ ρ Hf, R K ρ Hf σ H ∧ wp f ρ fun x ρ' => ∀ v' Hf' H', R K ρ' Hf' σ H' → Step ρ Hf σ H ρ' Hf' σ H' → RO K ρ' Hf' σ H' v' x → NewO H v' x → Q v' H'
/-- the value as a plain one -/
def tF (f : M PV) : TE := fun σ H Q => ∃ ρ Hf, R K ρ Hf σ H ∧ wp f ρ fun x ρ' => ∀ v' Hf' H', R K ρ' Hf' σ H' → Step ρ Hf σ H ρ' Hf' σ H' → Rep K Hf' v' x → Q v' H'
/-- the value as an operand -/
def tO (f : M PV) : TE := fun σ H Q => ∃ ρ Hf, R K ρ Hf σ H ∧ wp f ρ fun x ρ' => ∀ v' Hf' H', R K ρ' Hf' σ H' → Step ρ Hf σ H ρ' Hf' σ H' → Opd K Hf' H' v' x → Q v' H'
def tT (f : M Bool) : TT := fun σ H Q => ∃ ρ Hf, R K ρ Hf σ H ∧ wp f ρ fun x ρ' => ∀ Hf' H', R K ρ' Hf' σ H' → Step ρ Hf σ H ρ' Hf' σ H' → Q x H'
/-- a list of plain values -/
def tL (f : M (List PV)) : TA := fun σ H Q => ∃ ρ Hf, R K ρ Hf σ H ∧ wp f ρ fun xs ρ' => ∀ vs' Hf' H', R K ρ' Hf' σ H' → Step ρ Hf σ H ρ' Hf' σ H' → Reps K Hf' vs' xs → Q vs' H'
/-- the operand alone, as an argument list -/
def tL1 (f : M PV) : TA := fun σ H Q => ∃ ρ Hf, R K ρ Hf σ H ∧ wp f ρ fun x ρ' => ∀ v' Hf' H', R K ρ' Hf' σ H' → Step ρ Hf σ H ρ' Hf' σ H' → Opd K Hf' H' v' x → Q [v'] H'
end
/-- it is new since then, or was an own object then -/
def NewR (ρ0 : Env) (σ0 : Sl) (H0 : Hp) (v' : V) (x : OV) : Prop := x.1 = true → ∀ p, v' = .ref p → Own ρ0 σ0 p ∨ H0 p = none
theorem NewO.r {ρ0 : Env} {σ0 : Sl} {H0 : Hp} {v' : V} {x : OV} (h : NewO H0 v' x) : NewR ρ0 σ0 H0 v' x := fun z p e => .inr (h z p e)
theorem Step.newR {ρ ρ1 : Env} {Hf Hf1 : Hp} {σ σ1 : Sl} {H H1 : Hp} {v' : V} {x : OV} (s : Step ρ Hf σ H ρ1 Hf1 σ1 H1) (h : NewR ρ1 σ1 H1 v' x) : NewR ρ σ H v' x := fun z p e => by
  rcases h z p e with w | w
  · exact s.own p w
  · exact .inr (Classical.byContradiction fun n => s.there p n w)
/-- what code comes to -/
inductive Fl where
  | nx | bk | ct | rt (x : OV)
/-- a statement; ios: slots whose object is the caller's -/
def tS (K : PySem.W.Frag) (ios : List Nat) (f : M Fl) : TS := fun D σ H => ∃ ρ Hf, R K ρ Hf σ H ∧ wp f ρ fun x ρ' => ∀ Hf' σ' H', R K ρ' Hf' σ' H' → Step ρ Hf σ H ρ' Hf' σ' H' → σ'.length = σ.length → (∀ i ∈ ios, σ'[i]? = σ[i]?) →
  match x with
  | .nx => D.nx σ' H'
  | .bk => D.bk σ' H'
  | .ct => D.ct σ' H'
  | .rt y => ∀ v', RO K ρ' Hf' σ' H' v' y → NewR ρ σ H v' y → D.rt v' H'

structure WE (X : Cx) (e : Expr) (f : M OV) : Prop where
  pe : PE X e (tE X.K f)
structure WF (X : Cx) (e : Expr) (f : M PV) : Prop where
  pe : PE X e (tF X.K f)
structure WO (X : Cx) (e : Expr) (f : M PV) : Prop where
  pe : PE X e (tO X.K f)
structure WT (X : Cx) (e : Expr) (f : M Bool) : Prop where
  pt : PT X e (tT X.K f)
structure WL (X : Cx) (es : List Expr) (f : M (List PV)) : Prop where
  pa : PA X es (tL X.K f)
structure WS (ios : List Nat) (X : Cx) (s : Stmt) (f : M Fl) : Prop where
  ps : PS X s (tS X.K ios f)
structure WSs (ios : List Nat) (X : Cx) (s : List Stmt) (f : M Fl) : Prop where
  ps : PSs X s (tS X.K ios f)

section
variable {X : Cx} {e : Expr} {t t' : TE} {c c' : TT}
theorem peWeak (h : PE X e t) (k : ∀ σ H Q, t' σ H Q → t σ H Q) : PE X e t' := ⟨fun pins s σ H Q I q => h.run pins s σ H Q I (k σ H Q q)⟩
theorem ptWeak (h : PT X e c) (k : ∀ σ H Q, c' σ H Q → c σ H Q) : PT X e c' := ⟨fun pins s σ H Q I q => h.run pins s σ H Q I (k σ H Q q)⟩
theorem paWeak {es : List Expr} {t t' : TA} (h : PA X es t) (k : ∀ σ H Q, t' σ H Q → t σ H Q) : PA X es t' := ⟨fun pos pins s σ H Q I q => h.run pos pins s σ H Q I (k σ H Q q)⟩
theorem psWeak {st : Stmt} {t t' : TS} (h : PS X st t) (k : ∀ D σ H, t' D σ H → t D σ H) : PS X st t' := ⟨fun pins s σ H D I q => h.run pins s σ H D I (k D σ H q)⟩
theorem pssWeak {st : List Stmt} {t t' : TS} (h : PSs X st t) (k : ∀ D σ H, t' D σ H → t D σ H) : PSs X st t' := ⟨fun pins s σ H D I q => h.run pins s σ H D I (k D σ H q)⟩

/-- the object's flag dropped -/
def asF (f : M OV) : M PV := f >>= fun x => pure x.2
theorem WE.wf {f : M OV} (h : WE X e f) : WF X e (asF f) := ⟨peWeak h.pe fun σ H Q ⟨ρ, Hf, r, w⟩ => by
  unfold asF at w
  rw [wp_bind] at w
  refine ⟨ρ, Hf, r, wp_mono w fun x ρ' k v' Hf' H' r' s ro nw => ?_⟩
  have k := wp_pure.mp k
  obtain ⟨o, v⟩ := x
  cases o with
  | false => exact k v' Hf' H' r' s ro
  | true =>
    obtain ⟨p, ob, rfl, h1, h2, h3, h4⟩ := ro
    have sb : Bel Hf' (upd Hf' p ob) := Bel.upd h1
    refine k (.ref p) (upd Hf' p ob) H' (r'.commit h1 h2 h4) ⟨s.sub.trans sb, s.keep, fun b hb => ?_, s.own, s.there⟩ ((h3.sub sb).rep upd_same)
    by_cases n : b = p
    · subst n; exact .inr (.inr (nw rfl b rfl))
    · rw [upd_ne n] at hb; exact s.new b hb⟩
theorem WE.wo {f : M OV} (h : WE X e f) : WO X e (asF f) := ⟨peWeak h.pe fun σ H Q ⟨ρ, Hf, r, w⟩ => by
  unfold asF at w
  rw [wp_bind] at w
  refine ⟨ρ, Hf, r, wp_mono w fun x ρ' k v' Hf' H' r' s ro nw => ?_⟩
  have k := wp_pure.mp k
  obtain ⟨o, v⟩ := x
  cases o with
  | false => exact k v' Hf' H' r' s (Rep.opd r'.sub ro)
  | true =>
    obtain ⟨p, ob, rfl, h1, h2, h3, h4⟩ := ro
    exact k (.ref p) Hf' H' r' s (h3.opd h2)⟩
theorem WF.we {f : M PV} (h : WF X e f) : WE X e (f >>= fun v => pure (false, v)) := ⟨peWeak h.pe fun σ H Q ⟨ρ, Hf, r, w⟩ => by
  rw [wp_bind] at w
  refine ⟨ρ, Hf, r, wp_mono w fun x ρ' k v' Hf' H' r' s ro => ?_⟩
  exact wp_pure.mp k v' Hf' H' r' s ro fun z => nomatch z⟩
/-- a slot's value as it stands -/
def look (i : Nat) : M PV := fun ρ => match ρ[i]? with
  | some (some (_, v)) => some (v, ρ)
  | _ => none
/-- a slot's value, its object no longer its own -/
def take (i : Nat) : M PV := fun ρ => match ρ[i]? with
  | some (some (false, v)) => some (v, ρ)
  | some (some (true, v)) => some (v, frz1 ρ i v)
  | _ => none
theorem look_inv {i : Nat} {ρ : Env} {P : PV → Env → Prop} (h : wp (look i) ρ P) : ∃ o v, ρ[i]? = some (some (o, v)) ∧ P v ρ := by
  unfold wp look at h
  cases e : ρ[i]? with
  | none => rw [e] at h; exact h.elim
  | some x =>
    cases x with
    | none => rw [e] at h; exact h.elim
    | some y => rw [e] at h; exact ⟨y.1, y.2, rfl, h⟩
theorem wo_var (i : Nat) {x : Str} {pos : Pos} (hN : X.N[i]? = some x := by rfl) (hv : Vis X.env.scope x := by first | exact Or.inl rfl | exact Or.inr (Or.inl rfl) | exact Or.inr (Or.inr rfl)) (hd : (x == ("__debug__" : Str)) = false := by decide)
    (hcd : (x == ("__classdict__" : Str)) = false := by decide) : WO X (.Name x pos) (look i) := ⟨peWeak (pe_var hN hv hd hcd) fun σ H Q ⟨ρ, Hf, r, w⟩ => by
  obtain ⟨o, v, e, k⟩ := look_inv w
  obtain ⟨v', s, h1, h2⟩ := r.vars i o v e
  refine ⟨v', s, k v' Hf H r .rfl' ?_⟩
  cases o with
  | false => exact Rep.opd r.sub (h1 rfl)
  | true =>
    obtain ⟨p, ob, rfl, a1, a2, a3⟩ := h2 rfl
    exact a3.opd a2⟩
theorem wf_var (i : Nat) {x : Str} {pos : Pos} (hN : X.N[i]? = some x := by rfl) (hv : Vis X.env.scope x := by first | exact Or.inl rfl | exact Or.inr (Or.inl rfl) | exact Or.inr (Or.inr rfl)) (hd : (x == ("__debug__" : Str)) = false := by decide)
    (hcd : (x == ("__classdict__" : Str)) = false := by decide) : WF X (.Name x pos) (take i) := ⟨peWeak (pe_var hN hv hd hcd) fun σ H Q ⟨ρ, Hf, r, w⟩ => by
  unfold wp take at w
  cases e : ρ[i]? with
  | none => rw [e] at w; exact w.elim
  | some y =>
    cases y with
    | none => rw [e] at w; exact w.elim
    | some z =>
      obtain ⟨o, v⟩ := z
      rw [e] at w
      obtain ⟨v', s, h1, h2⟩ := r.vars i o v e
      cases o with
      | false => exact ⟨v', s, w v' Hf H r .rfl' (h1 rfl)⟩
      | true =>
        obtain ⟨p, ob, rfl, a1, a2, a3⟩ := h2 rfl
        have r2 := r.freeze e s a2
        refine ⟨.ref p, s, w _ _ H r2 (.freeze r e s) ((a3.sub (Bel.upd a1)).rep upd_same)⟩⟩
/-- constants -/
theorem wf_flat {v : V} {x : PV} (h : PE X e (tC v)) (hr : ∀ (K : PySem.W.Frag) (H : Hp), Rep K H v x) : WF X e (pure x) := ⟨peWeak h fun σ H Q ⟨ρ, Hf, r, w⟩ => wp_pure.mp w v Hf H r .rfl' (hr _ _)⟩
theorem wf_int {i j pos} : WF X (.Constant (.int i) j pos) (pure (.int i)) := wf_flat pe_int fun _ _ => by unfold Rep; rfl
theorem wf_bl {b j pos} : WF X (.Constant (.bool b) j pos) (pure (.bl b)) := wf_flat pe_bl fun _ _ => by unfold Rep; rfl
theorem wf_str {x j pos} : WF X (.Constant (.str x) j pos) (pure (.str x)) := wf_flat pe_str fun _ _ => by unfold Rep; rfl
theorem wf_non {j pos} : WF X (.Constant .none j pos) (pure .non) := wf_flat pe_non fun _ _ => by unfold Rep; rfl
theorem WF.wo {f : M PV} (h : WF X e f) : WO X e f := ⟨peWeak h.pe fun σ H Q ⟨ρ, Hf, r, w⟩ => ⟨ρ, Hf, r, wp_mono w fun x ρ' k v' Hf' H' r' s ro => k v' Hf' H' r' s (Rep.opd r'.sub ro)⟩⟩
end
end MC
set_option Elab.async false
set_option linter.all false
set_option maxRecDepth 100000
set_option maxHeartbeats 4000000
namespace MC
open PySem PySem.Spec L2

/-! ### operations on values -/
/-- what an operation leaves: the heap as it was, or one new object -/
def Res1 (K : PySem.W.Frag) (Hf H : Hp) (v' : V) (H' : Hp) (r : OV) : Prop :=
  (H' = H ∧ r.1 = false ∧ Rep K Hf v' r.2) ∨
  (∃ p ob, v' = .ref p ∧ H p = none ∧ H' = upd H p ob ∧ (r.1 = true → Cell K Hf ob r.2) ∧ (r.1 = false → ∀ H1, H1 p = some ob → Bel Hf H1 → Rep K H1 (.ref p) r.2))
section
variable {K : PySem.W.Frag} {ρ : Env} {Hf : Hp} {σ : Sl} {H H' : Hp} {v' : V}
theorem Res1.same {x : PV} (h : Rep K Hf v' x) : Res1 K Hf H v' H (false, x) := .inl ⟨rfl, rfl, h⟩
theorem Res1.lst {p : Addr} {vs : List V} {xs : List PV} (n : H p = none) (h : Reps K Hf vs xs) : Res1 K Hf H (.ref p) (upd H p (.lst vs)) (true, .lst xs) :=
  .inr ⟨p, _, rfl, n, rfl, fun _ => ⟨vs, rfl, h⟩, fun z => nomatch z⟩
theorem Res1.tup {p : Addr} {vs : List V} {xs : List PV} (n : H p = none) (h : Reps K Hf vs xs) : Res1 K Hf H (.ref p) (upd H p (.tup vs)) (false, .tup xs) :=
  .inr ⟨p, _, rfl, n, rfl, fun z => Bool.noConfusion z, fun _ H1 e s => by unfold Rep; exact ⟨p, vs, rfl, e, h.sub s⟩⟩
theorem Res1.use {x : OV} (r : R K ρ Hf σ H) (h : Res1 K Hf H v' H' x) : ∃ Hf', R K ρ Hf' σ H' ∧ Step ρ Hf σ H ρ Hf' σ H' ∧ RO K ρ Hf' σ H' v' x ∧ NewO H v' x := by
  rcases h with ⟨rfl, e, h⟩ | ⟨p, ob, rfl, n, rfl, h1, h2⟩
  · obtain ⟨o, v⟩ := x
    cases o with
    | false => exact ⟨Hf, r, .rfl', h, fun z => nomatch z⟩
    | true => cases e
  · have hf : Hf p = none := Classical.byContradiction fun z => (r.sub.some_ z) n
    have no : ¬ Own ρ σ p := fun o => by obtain ⟨_, ob', e, _⟩ := o.slot r; rw [n] at e; cases e
    have gr : R K ρ Hf σ (upd H p ob) := r.grow .rfl' (r.sub.trans (.upd n)) (fun b o w e => by rw [upd_ne (ne_of_none e n)]; exact e) fun b o => (o.slot r).1
    have th : ∀ b, H b ≠ none → upd H p ob b ≠ none := fun b hb => by
      have : b ≠ p := fun z => hb (z ▸ n)
      rw [upd_ne this]; exact hb
    obtain ⟨o, v⟩ := x
    cases o with
    | true =>
      exact ⟨Hf, gr, ⟨.rfl', fun b o e _ => by rw [upd_ne (ne_of_none e n)]; exact e, fun b z => .inl z, fun b z => .inl z, th⟩, ⟨p, ob, rfl, hf, upd_same, h1 rfl, no⟩, fun _ q e => by cases e; exact n⟩
    | false =>
      refine ⟨upd Hf p ob, gr.commit hf upd_same no, ⟨.upd hf, fun b o e _ => by rw [upd_ne (ne_of_none e n)]; exact e, fun b z => ?_, fun b z => .inl z, th⟩, h2 rfl _ upd_same (.upd hf), fun z => nomatch z⟩
      by_cases e : b = p
      · subst e; exact .inr (.inr n)
      · rw [upd_ne e] at z; exact .inl z
end
/-- a two-place operation by its rule on plain values -/
def rP (K : PySem.W.Frag) (g : PV → PV → Option OV) : R2 := fun x' y' H Q => ∃ Hf x y r, Bel Hf H ∧ Opd K Hf H x' x ∧ Opd K Hf H y' y ∧ g x y = some r ∧ ∀ v' H', Res1 K Hf H v' H' r → Q v' H'
def OpP (X : Cx) (f : Value → Value → Sem Value) (g : PV → PV → Option OV) : Prop := OpR X f (rP X.K g)
def r1P (K : PySem.W.Frag) (g : PV → Option OV) : V → Hp → VK → Prop := fun x' H Q => ∃ Hf x r, Bel Hf H ∧ Opd K Hf H x' x ∧ g x = some r ∧ ∀ v' H', Res1 K Hf H v' H' r → Q v' H'
def UnP (X : Cx) (f : Value → Sem Value) (g : PV → Option OV) : Prop := UnR X f (r1P X.K g)
/-- a call by its rule on one operand -/
def CallP (X : Cx) (f : Value) (g : PV → Option OV) : Prop := CallR X f fun xs H Q => ∃ x', xs = [x'] ∧ r1P X.K g x' H Q

/-- two operands; two, the first a name that is looked at behind the second -/
def bin2 (fa fb : M PV) (g : PV → PV → Option OV) : M OV := fa >>= fun x => fb >>= fun y => lift (g x y)
def bin2v (i : Nat) (fb : M PV) (g : PV → PV → Option OV) : M OV := look i >>= fun _ => fb >>= fun y => look i >>= fun x => lift (g x y)
def un1 (fa : M PV) (g : PV → Option OV) : M OV := fa >>= fun x => lift (g x)
/-- .. whose answer is a bool, as a test -/
def isB : PV → Option Bool
  | .bl b => some b
  | _ => none
def asT (f : M OV) : M Bool := f >>= fun x => lift (isB x.2)
theorem isB_inv {x : PV} {b : Bool} (h : isB x = some b) : x = .bl b := by cases x <;> first | (cases h; rfl) | cases h
section
variable {X : Cx} {a b c : Expr} {pos : Pos} {fa fb fc : M PV} {g g' : PV → PV → Option OV} {g1 : PV → Option OV} {op : Operator} {cp cp' : CmpOp}
theorem newTo {H0 H1 : Hp} {v' : V} {x : OV} (t : ∀ b, H0 b ≠ none → H1 b ≠ none) (h : NewO H1 v' x) : NewO H0 v' x := fun z p e => Classical.byContradiction fun n => t _ n (h z p e)
theorem read2 {K : PySem.W.Frag} {σ : Sl} {H : Hp} {Q : VK} (h : tE K (bin2 fa fb g) σ H Q) : tOp (rP K g) (tF K fa) (tO K fb) σ H Q := by
  obtain ⟨ρ, Hf, r, w⟩ := h
  unfold bin2 at w
  rw [wp_bind] at w
  refine ⟨ρ, Hf, r, wp_mono w fun x ρ1 w v1 Hf1 H1 r1 s1 p1 => ?_⟩
  rw [wp_bind] at w
  refine ⟨ρ1, Hf1, r1, wp_mono w fun y ρ2 w v2 Hf2 H2 r2 s2 p2 => ?_⟩
  rw [wp_lift] at w
  obtain ⟨z, e, k⟩ := w
  refine ⟨Hf2, x, y, z, r2.sub, Rep.opd r2.sub (p1.sub s2.sub), p2, e, fun v' H' res => ?_⟩
  obtain ⟨Hf3, r3, s3, ro, nw⟩ := res.use r2
  exact k v' Hf3 H' r3 ((s1.trans s2).trans s3) ro (newTo (fun b n => s2.there _ (s1.there _ n)) nw)
theorem R.opd {K : PySem.W.Frag} {ρ : Env} {Hf : Hp} {σ : Sl} {H : Hp} (r : R K ρ Hf σ H) {i : Nat} {o : Bool} {v : PV} (e : ρ[i]? = some (some (o, v))) : ∃ v', σ[i]? = some (some v') ∧ Opd K Hf H v' v := by
  obtain ⟨v', s, h1, h2⟩ := r.vars i o v e
  refine ⟨v', s, ?_⟩
  cases o with
  | false => exact Rep.opd r.sub (h1 rfl)
  | true =>
    obtain ⟨p, ob, rfl, a1, a2, a3⟩ := h2 rfl
    exact a3.opd a2
/-- the first operand a name: its object is looked at behind the second's evaluation -/
theorem read2v {K : PySem.W.Frag} {i : Nat} {σ : Sl} {H : Hp} {Q : VK} (h : tE K (bin2v i fb g) σ H Q) : tOp (rP K g) (tVar i) (tO K fb) σ H Q := by
  obtain ⟨ρ, Hf, r, w⟩ := h
  unfold bin2v at w
  rw [wp_bind] at w
  obtain ⟨o, v, e, w⟩ := look_inv w
  obtain ⟨v', s, _⟩ := r.opd e
  refine ⟨v', s, ρ, Hf, r, ?_⟩
  rw [wp_bind] at w
  refine wp_mono w fun y ρ2 w v2 Hf2 H2 r2 s2 p2 => ?_
  rw [wp_bind] at w
  obtain ⟨o2, v2', e2, w⟩ := look_inv w
  obtain ⟨v3, s3, p3⟩ := r2.opd e2
  rw [s] at s3; cases s3
  rw [wp_lift] at w
  obtain ⟨z, e, k⟩ := w
  refine ⟨Hf2, v2', y, z, r2.sub, p3, p2, e, fun v' H' res => ?_⟩
  obtain ⟨Hf3, r3, s3, ro, nw⟩ := res.use r2
  exact k v' Hf3 H' r3 (s2.trans s3) ro (newTo s2.there nw)
theorem read1 {K : PySem.W.Frag} {σ : Sl} {H : Hp} {Q : VK} (h : tE K (un1 fa g1) σ H Q) : tO K fa σ H fun x' H' => r1P K g1 x' H' Q := by
  obtain ⟨ρ, Hf, r, w⟩ := h
  unfold un1 at w
  rw [wp_bind] at w
  refine ⟨ρ, Hf, r, wp_mono w fun x ρ1 w v1 Hf1 H1 r1 s1 p1 => ?_⟩
  rw [wp_lift] at w
  obtain ⟨z, e, k⟩ := w
  refine ⟨Hf1, x, z, r1.sub, p1, e, fun v' H' res => ?_⟩
  obtain ⟨Hf3, r3, s3, ro, nw⟩ := res.use r1
  exact k v' Hf3 H' r3 (s1.trans s3) ro (newTo s1.there nw)
theorem asT_read {K : PySem.W.Frag} {f : M OV} {σ : Sl} {H : Hp} {Q : Bool → Hp → Prop} (h : tT K (asT f) σ H Q) : tE K f σ H fun v H' => ∃ k, v = .bl k ∧ Q k H' := by
  obtain ⟨ρ, Hf, r, w⟩ := h
  unfold asT at w
  rw [wp_bind] at w
  refine ⟨ρ, Hf, r, wp_mono w fun x ρ1 w v1 Hf1 H1 r1 s1 p1 nw => ?_⟩
  rw [wp_lift] at w
  obtain ⟨k, e, q⟩ := w
  have e := isB_inv e
  obtain ⟨o, v⟩ := x
  cases e
  cases o with
  | false => exact ⟨k, by unfold RO Rep at p1; exact p1, q Hf1 H1 r1 s1⟩
  | true =>
    obtain ⟨p, ob, _, _, _, c, _⟩ := p1
    exact c.elim

theorem we_bin (ho : OpP X (binaryOp op) g) (ha : WF X a fa) (hb : WO X b fb) : WE X (.BinOp a op b pos) (bin2 fa fb g) := ⟨peWeak (pe_op ho ha.pe hb.pe) fun _ _ _ h => read2 h⟩
theorem we_binv (ho : OpP X (binaryOp op) g) {i : Nat} (ha : PE X a (tVar i)) (hb : WO X b fb) : WE X (.BinOp a op b pos) (bin2v i fb g) := ⟨peWeak (pe_op ho ha hb.pe) fun _ _ _ h => read2v h⟩
theorem we_un {uo : UnaryOp} (ho : UnP X (unaryOp uo) g1) (ha : WO X a fa) : WE X (.UnaryOp uo a pos) (un1 fa g1) := ⟨peWeak (pe_un ho ha.pe) fun _ _ _ h => read1 h⟩
theorem we_cmp (ho : OpP X (compareOp cp) g) (ha : WF X a fa) (hb : WO X b fb) (hm : behindInMarks cp b = false := by first | exact nomark _ | rfl) : WE X (.Compare a [cp] [b] pos) (bin2 fa fb g) := ⟨peWeak (pe_cmpR ho ha.pe hb.pe hm) fun _ _ _ h => read2 h⟩
theorem we_cmpv (ho : OpP X (compareOp cp) g) {i : Nat} (ha : PE X a (tVar i)) (hb : WO X b fb) (hm : behindInMarks cp b = false := by first | exact nomark _ | rfl) : WE X (.Compare a [cp] [b] pos) (bin2v i fb g) := ⟨peWeak (pe_cmpR ho ha hb.pe hm) fun _ _ _ h => read2v h⟩
theorem wt_cmp (ho : OpP X (compareOp cp) g) (ha : WF X a fa) (hb : WO X b fb) (hm : behindInMarks cp b = false := by first | exact nomark _ | rfl) : WT X (.Compare a [cp] [b] pos) (asT (bin2 fa fb g)) := ⟨ptWeak (pt_cmpR ho ha.pe hb.pe hm) fun _ _ _ h => read2 (asT_read h)⟩
theorem wt_cmpv (ho : OpP X (compareOp cp) g) {i : Nat} (ha : PE X a (tVar i)) (hb : WO X b fb) (hm : behindInMarks cp b = false := by first | exact nomark _ | rfl) : WT X (.Compare a [cp] [b] pos) (asT (bin2v i fb g)) := ⟨ptWeak (pt_cmpR ho ha hb.pe hm) fun _ _ _ h => read2v (asT_read h)⟩
/-- a op1 b op2 c, b plain -/
def chain (fa fb fc : M PV) (g g' : PV → PV → Option OV) : M OV := fa >>= fun x => fb >>= fun y => lift ((g x y).bind fun z => isB z.2) >>= fun k => if k = true then fc >>= fun z => lift (g' y z) else pure (false, .bl false)
theorem readChain {K : PySem.W.Frag} {σ : Sl} {H : Hp} {Q : VK} (h : tE K (chain fa fb fc g g') σ H Q) : tChain (rP K g) (rP K g') (tF K fa) (tF K fb) (tO K fc) σ H Q := by
  obtain ⟨ρ, Hf, r, w⟩ := h
  unfold chain at w
  rw [wp_bind] at w
  refine ⟨ρ, Hf, r, wp_mono w fun x ρ1 w v1 Hf1 H1 r1 s1 p1 => ?_⟩
  rw [wp_bind] at w
  refine ⟨ρ1, Hf1, r1, wp_mono w fun y ρ2 w v2 Hf2 H2 r2 s2 p2 => ?_⟩
  rw [wp_bind, wp_lift] at w
  obtain ⟨k, e, w⟩ := w
  obtain ⟨z, e1, e2⟩ := Option.bind_eq_some_iff.mp e
  have e2 := isB_inv e2
  have s12 := s1.trans s2
  refine ⟨Hf2, x, y, z, r2.sub, Rep.opd r2.sub (p1.sub s2.sub), Rep.opd r2.sub p2, e1, fun v' H' res => ?_⟩
  obtain ⟨Hf3, r3, s3, ro, nw⟩ := res.use r2
  obtain ⟨o, zv⟩ := z
  cases e2
  have ev : v' = .bl k := by
    cases o with
    | false => unfold RO Rep at ro; exact ro
    | true => obtain ⟨p, ob, _, _, _, c, _⟩ := ro; exact c.elim
  have s13 := s12.trans s3
  refine ⟨k, ev, ?_⟩
  cases k with
  | false =>
    rw [if_neg Bool.false_ne_true] at w ⊢
    exact wp_pure.mp w (.bl false) Hf3 H' r3 s13 (by unfold RO Rep; rfl) fun z => nomatch z
  | true =>
    rw [if_pos rfl] at w ⊢
    rw [wp_bind] at w
    refine ⟨ρ2, Hf3, r3, wp_mono w fun u ρ4 w v4 Hf4 H4 r4 s4 p4 => ?_⟩
    rw [wp_lift] at w
    obtain ⟨t, e, q⟩ := w
    refine ⟨Hf4, y, u, t, r4.sub, Rep.opd r4.sub (p2.sub (s3.sub.trans s4.sub)), p4, e, fun v5 H5 res => ?_⟩
    obtain ⟨Hf5, r5, s5, ro, nw⟩ := res.use r4
    have s14 := s13.trans s4
    exact q v5 Hf5 H5 r5 (s14.trans s5) ro (newTo s14.there nw)
theorem we_chain (ho : OpP X (compareOp cp) g) (ho' : OpP X (compareOp cp') g') (ha : WF X a fa) (hb : WF X b fb) (hc : WO X c fc) (hm : lastMarks [cp, cp'] [b, c] = false := by with_unfolding_all rfl) : WE X (.Compare a [cp, cp'] [b, c] pos) (chain fa fb fc g g') :=
  ⟨peWeak (pe_chain ho ho' ha.pe hb.pe hc.pe hm) fun _ _ _ h => readChain h⟩
theorem wt_chain (ho : OpP X (compareOp cp) g) (ho' : OpP X (compareOp cp') g') (ha : WF X a fa) (hb : WF X b fb) (hc : WO X c fc) (hm : lastMarks [cp, cp'] [b, c] = false := by with_unfolding_all rfl) : WT X (.Compare a [cp, cp'] [b, c] pos) (asT (chain fa fb fc g g')) :=
  ⟨ptWeak (pt_chain ho ho' ha.pe hb.pe hc.pe hm) fun _ _ _ h => readChain (asT_read h)⟩
end
end MC
set_option Elab.async false
set_option linter.all false
set_option maxRecDepth 100000
set_option maxHeartbeats 4000000
namespace MC
open PySem PySem.Spec L2
open PyProof.Rows (b2i)

/-! ### the single operations -/
def fl (x : PV) : Option OV := some (false, x)
def when (c : Bool) (x : Option OV) : Option OV := if c = true then x else none
theorem when_some {c : Bool} {x : Option OV} {r : OV} (h : when c x = some r) : c = true ∧ x = some r := by
  unfold when at h
  by_cases e : c = true
  · rw [if_pos e] at h; exact ⟨e, h⟩
  · rw [if_neg e] at h; cases h
def fits (n : Nat) : Bool := decide (n ≤ sizeLine)

def addP : PV → PV → Option OV
  | .int i, .int j => fl (.int (i + j))
  | .int i, .bl b => fl (.int (i + b2i b))
  | .str a, .str b => when (fits (a.length + b.length)) (fl (.str (a ++ b)))
  | .lst a, .lst b => when (fits (a.length + b.length)) (some (true, .lst (a ++ b)))
  | .tup a, .tup b => when (fits (a.length + b.length)) (fl (.tup (a ++ b)))
  | _, _ => none
def subP : PV → PV → Option OV
  | .int i, .int j => fl (.int (i - j))
  | _, _ => none
def mulOk (i j : Int) : Bool := decide (-(2 ^ 64) < i ∧ i < 2 ^ 64) || decide (-(2 ^ 64) < j ∧ j < 2 ^ 64) || decide (i.natAbs.log2 + j.natAbs.log2 < 1000000)
def strTimes (x : Str) (n : Int) : Str := ⟨((List.replicate n.toNat x.cps.toList).flatten).toArray⟩
def mulP : PV → PV → Option OV
  | .int i, .int j => when (mulOk i j) (fl (.int (i * j)))
  | .lst a, .int k => when (decide (-(2 ^ 63) ≤ k ∧ k < 2 ^ 63) && fits (a.length * k.toNat)) (some (true, .lst (List.replicate k.toNat a).flatten))
  | .tup a, .int k => when (!a.isEmpty && decide (2 ≤ k ∧ k ≤ 1000 ∧ a.length ≤ 1000)) (fl (.tup (List.replicate k.toNat a).flatten))
  | .str a, .int k => when (decide (-(2 ^ 30) ≤ k ∧ k < 2 ^ 30) && fits (a.length * k.toNat)) (fl (.str (strTimes a k)))
  | _, _ => none
def divOk (j : Int) : Bool := decide (j ≠ 0 ∧ j.natAbs < 1073741824) || decide (0 < j ∧ j.natAbs.log2 < 9000)
def fdivP : PV → PV → Option OV
  | .int i, .int j => when (divOk j) (fl (.int (i.fdiv j)))
  | _, _ => none
def modP : PV → PV → Option OV
  | .int i, .int j => when (decide (j ≠ 0)) (fl (.int (i.fmod j)))
  | _, _ => none
def powOk (i j : Int) : Bool := decide (0 ≤ j ∧ j ≤ 1000000 ∧ i.natAbs < 2 ^ 64)
def powP : PV → PV → Option OV
  | .int i, .int j => when (powOk i j) (fl (.int (i ^ j.toNat)))
  | _, _ => none
def shlP : PV → PV → Option OV
  | .int i, .int j => when (powOk i j) (fl (.int (i * 2 ^ j.toNat)))
  | _, _ => none
def shrP : PV → PV → Option OV
  | .int i, .int j => when (decide (0 ≤ j)) (fl (.int (i / 2 ^ j.toNat)))
  | _, _ => none
def bandP : PV → PV → Option OV
  | .int i, .int j => fl (.int (Builtin.bitAnd i j))
  | _, _ => none
def borP : PV → PV → Option OV
  | .int i, .int j => fl (.int (Builtin.bitOr i j))
  | _, _ => none
def bxorP : PV → PV → Option OV
  | .int i, .int j => fl (.int (Builtin.bitXor i j))
  | _, _ => none
def negP : PV → Option OV
  | .int i => fl (.int (-i))
  | _ => none

section
variable {X : Cx}
theorem opd_int {K : PySem.W.Frag} {Hf H : Hp} {v : V} {i : Int} (h : Opd K Hf H v (.int i)) : v = .int i := by unfold Opd Rep at h; exact h
theorem opd_str {K : PySem.W.Frag} {Hf H : Hp} {v : V} {i : Str} (h : Opd K Hf H v (.str i)) : v = .str i := by unfold Opd Rep at h; exact h
theorem opd_bl {K : PySem.W.Frag} {Hf H : Hp} {v : V} {i : Bool} (h : Opd K Hf H v (.bl i)) : v = .bl i := by unfold Opd Rep at h; exact h
theorem opd_non {K : PySem.W.Frag} {Hf H : Hp} {v : V} (h : Opd K Hf H v .non) : v = .non := by unfold Opd Rep at h; exact h
theorem opd_lst {K : PySem.W.Frag} {Hf H : Hp} {v : V} {xs : List PV} (h : Opd K Hf H v (.lst xs)) : ∃ a vs, v = .ref a ∧ H a = some (.lst vs) ∧ Reps K Hf vs xs := h
theorem opd_tup {K : PySem.W.Frag} {Hf H : Hp} {v : V} {xs : List PV} (s : Bel Hf H) (h : Opd K Hf H v (.tup xs)) : ∃ a vs, v = .ref a ∧ H a = some (.tup vs) ∧ Hf a = some (.tup vs) ∧ Reps K Hf vs xs := by
  have h : Rep K Hf v (.tup xs) := h
  unfold Rep at h
  obtain ⟨a, vs, e, h1, h2⟩ := h
  exact ⟨a, vs, e, s.tup h1, h1, h2⟩
theorem rep_int {K : PySem.W.Frag} {H : Hp} {i : Int} : Rep K H (.int i) (.int i) := by unfold Rep; rfl
theorem rep_str {K : PySem.W.Frag} {H : Hp} {i : Str} : Rep K H (.str i) (.str i) := by unfold Rep; rfl
theorem rep_bl {K : PySem.W.Frag} {H : Hp} {i : Bool} : Rep K H (.bl i) (.bl i) := by unfold Rep; rfl
theorem rep_non {K : PySem.W.Frag} {H : Hp} : Rep K H .non .non := by unfold Rep; rfl

/-- an operation on ints, from its rule -/
theorem intOp {f : Value → Value → Sem Value} {g : PV → PV → Option OV} {C : Int → Int → Prop} {k : Int → Int → V} {k' : Int → Int → PV} (ho : OpR X f (rI C k))
    (hg : ∀ x y r, g x y = some r → ∃ i j, x = .int i ∧ y = .int j ∧ C i j ∧ r = (false, k' i j)) (hk : ∀ (K : PySem.W.Frag) (H : Hp) i j, Rep K H (k i j) (k' i j)) : OpP X f g := by
  intro pins s σ H x' y' v u Q I rx ry ⟨Hf, x, y, r, sb, ox, oy, e, q⟩
  obtain ⟨i, j, rfl, rfl, c, rfl⟩ := hg x y r e
  exact ho pins s σ H x' y' v u Q I rx ry ⟨i, j, opd_int ox, opd_int oy, c, q _ _ (.same (hk _ _ i j))⟩
theorem intOp0 {f : Value → Value → Sem Value} {g : PV → PV → Option OV} {k : Int → Int → V} {k' : Int → Int → PV} (ho : OpR X f (rI0 k))
    (hg : ∀ x y r, g x y = some r → ∃ i j, x = .int i ∧ y = .int j ∧ r = (false, k' i j)) (hk : ∀ (K : PySem.W.Frag) (H : Hp) i j, Rep K H (k i j) (k' i j)) : OpP X f g := by
  intro pins s σ H x' y' v u Q I rx ry ⟨Hf, x, y, r, sb, ox, oy, e, q⟩
  obtain ⟨i, j, rfl, rfl, rfl⟩ := hg x y r e
  exact ho pins s σ H x' y' v u Q I rx ry ⟨i, j, opd_int ox, opd_int oy, q _ _ (.same (hk _ _ i j))⟩
/-- two rules by cases -/
theorem OpP.or {f : Value → Value → Sem Value} {g1 g2 g : PV → PV → Option OV} (h1 : OpP X f g1) (h2 : OpP X f g2) (h : ∀ x y r, g x y = some r → g1 x y = some r ∨ g2 x y = some r) : OpP X f g := by
  intro pins s σ H x' y' v u Q I rx ry ⟨Hf, x, y, r, sb, ox, oy, e, q⟩
  rcases h x y r e with e | e
  · exact h1 pins s σ H x' y' v u Q I rx ry ⟨Hf, x, y, r, sb, ox, oy, e, q⟩
  · exact h2 pins s σ H x' y' v u Q I rx ry ⟨Hf, x, y, r, sb, ox, oy, e, q⟩

theorem addAll {f : Value → Value → Sem Value} (h1 : OpR X f (rI0 fun i j => .int (i + j))) (h2 : OpR X f (fun x y H Q => ∃ i k, x = .int i ∧ y = .bl k ∧ Q (.int (i + b2i k)) H))
    (h3 : OpR X f (fun x y H Q => ∃ i j, x = .str i ∧ y = .str j ∧ i.length + j.length ≤ sizeLine ∧ Q (.str (i ++ j)) H)) (h4 : OpR X f rCat) (h5 : OpR X f (rCatA X.K)) : OpP X f addP := by
  intro pins s σ H x' y' v u Q I rx ry ⟨Hf, x, y, r, sb, ox, oy, e, q⟩
  unfold addP at e
  split at e
  · cases e; exact h1 pins s σ H x' y' v u Q I rx ry ⟨_, _, opd_int ox, opd_int oy, q _ _ (.same rep_int)⟩
  · cases e; exact h2 pins s σ H x' y' v u Q I rx ry ⟨_, _, opd_int ox, opd_bl oy, q _ _ (.same rep_int)⟩
  · obtain ⟨c, e⟩ := when_some e
    cases e
    exact h3 pins s σ H x' y' v u Q I rx ry ⟨_, _, opd_str ox, opd_str oy, of_decide_eq_true c, q _ _ (.same rep_str)⟩
  · obtain ⟨c, e⟩ := when_some e
    cases e
    obtain ⟨a, vs, ea, ha, ra⟩ := opd_lst ox
    obtain ⟨b, ws, eb, hb, rb⟩ := opd_lst oy
    have hl : vs.length + ws.length ≤ sizeLine := by rw [ra.length, rb.length]; exact of_decide_eq_true c
    exact h4 pins s σ H x' y' v u Q I rx ry ⟨a, b, vs, ws, ea, eb, ha, hb, hl, fun p np => q _ _ (.lst np (ra.append rb))⟩
  · obtain ⟨c, e⟩ := when_some e
    cases e
    obtain ⟨a, vs, ea, ha, ha', ra⟩ := opd_tup sb ox
    obtain ⟨b, ws, eb, hb, hb', rb⟩ := opd_tup sb oy
    have hl : vs.length + ws.length ≤ sizeLine := by rw [ra.length, rb.length]; exact of_decide_eq_true c
    refine h5 pins s σ H x' y' v u Q I rx ry ⟨a, b, vs, ws, ea, eb, SqT.of ha, SqT.of hb, hl, fun z => ?_, fun _ z => ?_, fun _ _ p np => q _ _ (.tup np (ra.append rb))⟩
    · subst z
      refine q _ _ (.same ?_)
      unfold Rep
      exact ⟨b, ws, rfl, hb', by simpa using ra.append rb⟩
    · subst z
      refine q _ _ (.same ?_)
      unfold Rep
      exact ⟨a, vs, rfl, ha', by simpa using ra.append rb⟩
  · cases e
theorem p_add : OpP X (binaryOp .Add) addP := addAll op_add op_add_ib op_add_str op_cat op_catA
theorem p_sub : OpP X (binaryOp .Sub) subP := intOp0 (k' := fun i j => .int (i - j)) op_sub (fun x y r e => by unfold subP at e; split at e <;> first | (cases e; exact ⟨_, _, rfl, rfl, rfl⟩) | cases e) fun _ _ _ _ => rep_int
theorem p_fdiv : OpP X (binaryOp .FloorDiv) fdivP := by
  intro pins s σ H x' y' v u Q I rx ry ⟨Hf, x, y, r, sb, ox, oy, e, q⟩
  unfold fdivP at e
  split at e
  · obtain ⟨c, e⟩ := when_some e
    cases e
    rename_i i j
    rcases Bool.or_eq_true_iff.mp c with c | c
    · have c := of_decide_eq_true c
      exact op_fdivN pins s σ H x' y' v u Q I rx ry ⟨_, _, opd_int ox, opd_int oy, c, q _ _ (.same rep_int)⟩
    · have c := of_decide_eq_true c
      refine op_fdivW pins s σ H x' y' v u Q I rx ry ⟨_, _, opd_int ox, opd_int oy, c, q _ _ (.same ?_)⟩
      rw [Int.fdiv_eq_ediv_of_nonneg i (Int.le_of_lt c.1)]; exact rep_int
  · cases e
theorem p_mod : OpP X (binaryOp .Mod) modP := intOp (k' := fun i j => .int (i.fmod j)) op_modN (fun x y r e => by
  unfold modP at e
  split at e
  · obtain ⟨c, e⟩ := when_some e
    have c := of_decide_eq_true c
    cases e; exact ⟨_, _, rfl, rfl, c, rfl⟩
  · cases e) fun _ _ _ _ => rep_int
theorem p_pow : OpP X (binaryOp .Pow) powP := intOp (k' := fun i j => .int (i ^ j.toNat)) op_pow (fun x y r e => by
  unfold powP at e
  split at e
  · obtain ⟨c, e⟩ := when_some e
    have c := of_decide_eq_true c
    cases e; exact ⟨_, _, rfl, rfl, c, rfl⟩
  · cases e) fun _ _ _ _ => rep_int
theorem p_shl : OpP X (binaryOp .LShift) shlP := intOp (k' := fun i j => .int (i * 2 ^ j.toNat)) op_shl (fun x y r e => by
  unfold shlP at e
  split at e
  · obtain ⟨c, e⟩ := when_some e
    have c := of_decide_eq_true c
    cases e; exact ⟨_, _, rfl, rfl, c, rfl⟩
  · cases e) fun _ _ _ _ => rep_int
theorem p_shr : OpP X (binaryOp .RShift) shrP := intOp (k' := fun i j => .int (i / 2 ^ j.toNat)) op_shr (fun x y r e => by
  unfold shrP at e
  split at e
  · obtain ⟨c, e⟩ := when_some e
    have c := of_decide_eq_true c
    cases e; exact ⟨_, _, rfl, rfl, c, rfl⟩
  · cases e) fun _ _ _ _ => rep_int
theorem p_band : OpP X (binaryOp .BitAnd) bandP := intOp0 (k' := fun i j => .int (Builtin.bitAnd i j)) op_and (fun x y r e => by unfold bandP at e; split at e <;> first | (cases e; exact ⟨_, _, rfl, rfl, rfl⟩) | cases e) fun _ _ _ _ => rep_int
theorem p_bor : OpP X (binaryOp .BitOr) borP := intOp0 (k' := fun i j => .int (Builtin.bitOr i j)) op_or (fun x y r e => by unfold borP at e; split at e <;> first | (cases e; exact ⟨_, _, rfl, rfl, rfl⟩) | cases e) fun _ _ _ _ => rep_int
theorem p_bxor : OpP X (binaryOp .BitXor) bxorP := intOp0 (k' := fun i j => .int (Builtin.bitXor i j)) op_xor (fun x y r e => by unfold bxorP at e; split at e <;> first | (cases e; exact ⟨_, _, rfl, rfl, rfl⟩) | cases e) fun _ _ _ _ => rep_int
theorem p_neg : UnP X (unaryOp .USub) negP := by
  intro pins s σ H x' v Q I rx ⟨Hf, x, r, sb, ox, e, q⟩
  unfold negP at e
  split at e
  · cases e; exact un_neg pins s σ H x' v Q I rx ⟨_, opd_int ox, q _ _ (.same rep_int)⟩
  · cases e
theorem str_times (x : Str) (n : Int) : Txt.mul x n = strTimes x n := by
  unfold Txt.mul strTimes
  have fo : ∀ (k : Nat) (acc : Array Nat), (List.replicate k x.cps).foldl (· ++ ·) acc = acc ++ ((List.replicate k x.cps.toList).flatten).toArray := by
    intro k
    induction k with
    | zero => intro acc; simp
    | succ k ih => intro acc; rw [List.replicate_succ, List.foldl_cons, ih]; apply Array.toList_inj.mp; simp [List.replicate_succ]
  split
  · rename_i h
    have : n.toNat = 0 := by omega
    rw [this]; rfl
  · rename_i h
    split
    · rename_i h2
      rcases Bool.or_eq_true_iff.mp h2 with h2 | h2
      · have h2 : n = 1 := by simpa using h2
        subst h2
        apply Str.ext'
        simp
      · have h2 : x.length = 0 := by simpa using h2
        have e : x.cps.toList = [] := by
          have : x.cps.size = 0 := h2
          simpa using this
        rw [e]
        apply Str.ext'
        have : x.cps = #[] := by
          have := congrArg List.toArray e
          simpa using this
        rw [this]; simp
    · rw [fo]; simp
theorem p_mul : OpP X (binaryOp .Mult) mulP := by
  intro pins s σ H x' y' v u Q I rx ry ⟨Hf, x, y, r, sb, ox, oy, e, q⟩
  unfold mulP at e
  split at e
  · obtain ⟨c, e⟩ := when_some e
    cases e
    rcases Bool.or_eq_true_iff.mp c with c | c
    · refine op_mul pins s σ H x' y' v u Q I rx ry ⟨_, _, opd_int ox, opd_int oy, ?_, q _ _ (.same rep_int)⟩
      rcases Bool.or_eq_true_iff.mp c with c | c
      · exact .inl (of_decide_eq_true c)
      · exact .inr (of_decide_eq_true c)
    · have c := of_decide_eq_true c
      exact op_mulW pins s σ H x' y' v u Q I rx ry ⟨_, _, opd_int ox, opd_int oy, c, q _ _ (.same rep_int)⟩
  · obtain ⟨c, e⟩ := when_some e
    cases e
    obtain ⟨c1, c2⟩ := Bool.and_eq_true_iff.mp c
    obtain ⟨a, vs, ea, ha, ra⟩ := opd_lst ox
    have c1 := of_decide_eq_true c1
    exact op_rep pins s σ H x' y' v u Q I rx ry ⟨a, _, vs, ea, opd_int oy, ha, c1.1, c1.2, by rw [ra.length]; exact of_decide_eq_true c2, fun p np => q _ _ (.lst np (ra.rep _))⟩
  · rename_i xs k
    obtain ⟨c, e⟩ := when_some e
    cases e
    obtain ⟨c1, c2⟩ := Bool.and_eq_true_iff.mp c
    have c2 := of_decide_eq_true c2
    obtain ⟨a, vs, ea, ha, ha', ra⟩ := opd_tup sb ox
    have hl := ra.length
    refine op_repT pins s σ H x' y' v u Q I rx ry ⟨a, _, vs, ea, opd_int oy, SqT.of ha, fun z => ?_, c2.1, c2.2.1, by omega, fun p np => q _ _ (.tup np (ra.rep _))⟩
    subst z
    cases xs with
    | nil => cases c1
    | cons _ _ => cases hl
  · rename_i a k
    obtain ⟨c, e⟩ := when_some e
    cases e
    obtain ⟨c1, c2⟩ := Bool.and_eq_true_iff.mp c
    have c1 := of_decide_eq_true c1
    have c2 := of_decide_eq_true c2
    have ex := opd_str ox
    have ey := opd_int oy
    subst ex; subst ey
    obtain ⟨t, rfl⟩ := rx
    obtain ⟨t', rfl⟩ := ry
    have hs : sizeLine = 16777216 := sizeLine_eq
    refine SB.mul ⟨?_, fun h1 h2 h3 => ?_, fun h1 h2 => ?_⟩ fun t'' k' => ?_
    · rw [Bool.or_eq_false_iff]; exact ⟨decide_eq_false (by omega), decide_eq_false (by omega)⟩
    · have hk : 0 < k := by omega
      have h4 : (a.length : Int) * k ≤ sizeLine := by
        have : (a.length : Int) * k = ((a.length * k.toNat : Nat) : Int) := by rw [Int.natCast_mul, Int.toNat_of_nonneg (Int.le_of_lt hk)]
        rw [this]; exact_mod_cast c2
      have h5 : ((2 ^ 63 - 1) / k) * k ≥ (2 ^ 63 - 1) - (k - 1) := by
        have := Int.emod_lt_of_pos (2 ^ 63 - 1) hk
        have h6 := Int.mul_ediv_add_emod (2 ^ 63 - 1) k
        rw [Int.mul_comm]; omega
      have h7 : (((2 ^ 63 - 1) / k) + 1) * k ≤ (a.length : Int) * k := Int.mul_le_mul_of_nonneg_right (by omega) (Int.le_of_lt hk)
      rw [Int.add_mul] at h7
      omega
    · unfold Builtin.Str.tooLong
      simpa using c2
    · refine ⟨.str (strTimes a k), H, I.tok _, ⟨t'', by rw [str_times]⟩, q _ _ (.same rep_str)⟩
  · cases e
end
end MC
set_option Elab.async false
set_option linter.all false
set_option maxRecDepth 100000
set_option maxHeartbeats 4000000
namespace MC
open PySem PySem.Spec L2
open PyProof.Rows (b2i)

/-! ### comparing -/
mutual
def toD : PV → PyData
  | .non => .none
  | .bl b => .bool b
  | .int i => .int i
  | .str x => .str x
  | .tup xs => .tuple (toDs xs)
  | .lst xs => .list (toDs xs)
  | .dic _ _ => .dict []
  | .sq true xs => .list (toDs xs)
  | .sq false xs => .tuple (toDs xs)
def toDs : List PV → List PyData
  | [] => []
  | x :: xs => toD x :: toDs xs
end
section
variable {K : PySem.W.Frag} {H Hf : Hp}
mutual
theorem Rep.dp : ∀ {x : PV} {v : V}, Rep K H v x → (toD x).canLay0 = true → Dp K H v (toD x)
  | .non, _, h, _ => by unfold Rep at h; subst h; exact .non
  | .bl b, _, h, _ => by unfold Rep at h; subst h; exact .bl b
  | .int b, _, h, _ => by unfold Rep at h; subst h; exact .int b
  | .str b, _, h, _ => by unfold Rep at h; subst h; exact .str b
  | .tup xs, _, h, c => by
    unfold Rep at h
    obtain ⟨a, vs, e, h1, h2⟩ := h
    subst e
    exact .tup (SqT.of h1) (Reps.dp h2 (by simpa [toD, PyData.canLay0] using c))
  | .lst xs, _, h, c => by
    unfold Rep at h
    obtain ⟨a, vs, e, h1, h2⟩ := h
    subst e
    exact .lst (SqL.of h1) (Reps.dp h2 (by simpa [toD, PyData.canLay0] using c))
  | .dic _ _, _, _, c => by simp [toD, PyData.canLay0] at c
  | .sq true xs, _, h, c => by
    unfold Rep at h
    obtain ⟨a, vs, e, h1, h2⟩ := h
    subst e
    exact .lst h1 (Reps.dp h2 (by simpa [toD, PyData.canLay0] using c))
  | .sq false xs, _, h, c => by
    unfold Rep at h
    obtain ⟨a, vs, e, h1, h2⟩ := h
    subst e
    exact .tup h1 (Reps.dp h2 (by simpa [toD, PyData.canLay0] using c))
theorem Reps.dp : ∀ {xs : List PV} {vs : List V}, Reps K H vs xs → PyData.canLayAll0 (toDs xs) = true → DpAll K H vs (toDs xs)
  | [], _, h, _ => by rw [h.nil_inv]; exact .nil
  | x :: xs, _, h, c => by
    obtain ⟨v, r, e, h1, h2⟩ := h.cons_inv
    subst e
    have c : ((toD x).canLay0 && PyData.canLayAll0 (toDs xs)) = true := c
    obtain ⟨c1, c2⟩ := Bool.and_eq_true_iff.mp c
    exact .cons (Rep.dp h1 c1) (Reps.dp h2 c2)
end
theorem Opd.dp {x : PV} {v : V} (s : Bel Hf H) (h : Opd K Hf H v x) (c : (toD x).canLay0 = true) : Dp K H v (toD x) := by
  cases x with
  | lst xs =>
    obtain ⟨a, vs, e, h1, h2⟩ := h
    subst e
    exact .lst (SqL.of h1) (Reps.dp (h2.sub s) (by simpa [toD, PyData.canLay0] using c))
  | dic _ _ => simp [toD, PyData.canLay0] at c
  | _ => exact Rep.dp (Rep.sub s h) c
end
def eqPV (x y : PV) : Bool := PyData.eqv (toD x) (toD y)
def shapedP (x : PV) : Bool := SeqAt.shaped (toD x)
def eqP (x y : PV) : Option OV := when (shapedP x && shapedP y) (fl (.bl (eqPV x y)))
def neP (x y : PV) : Option OV := when (shapedP x && shapedP y) (fl (.bl (!eqPV x y)))
def intsOf : List PV → Option (List Int)
  | [] => some []
  | .int i :: r => (intsOf r).map (i :: ·)
  | _ :: _ => none
theorem intsOf_some : ∀ {xs : List PV} {ns : List Int}, intsOf xs = some ns → xs = ns.map PV.int
  | [], _, h => by cases h; rfl
  | .int i :: r, ns, h => by
    obtain ⟨ms, e, rfl⟩ := Option.map_eq_some_iff.mp h
    rw [intsOf_some e]; rfl
  | .non :: _, _, h => nomatch h
  | .bl _ :: _, _, h => nomatch h
  | .str _ :: _, _, h => nomatch h
  | .tup _ :: _, _, h => nomatch h
  | .lst _ :: _, _, h => nomatch h
  | .dic _ _ :: _, _, h => nomatch h
  | .sq _ _ :: _, _, h => nomatch h
def ltP : PV → PV → Option OV
  | .int i, .int j => fl (.bl (decide (i < j)))
  | .str a, .str b => fl (.bl (decide (a.cps.toList < b.cps.toList)))
  | .tup xs, .tup ys => (intsOf xs).bind fun ns => (intsOf ys).bind fun ms => fl (.bl (HT.lexLt ns ms))
  | _, _ => none
def leP : PV → PV → Option OV
  | .int i, .int j => fl (.bl (decide (i ≤ j)))
  | .str a, .str b => fl (.bl (!decide (b.cps.toList < a.cps.toList)))
  | _, _ => none
def gtP : PV → PV → Option OV
  | .int i, .int j => fl (.bl (decide (j < i)))
  | .str a, .str b => fl (.bl (decide (b.cps.toList < a.cps.toList)))
  | _, _ => none
def geP : PV → PV → Option OV
  | .int i, .int j => fl (.bl (decide (j ≤ i)))
  | .str a, .str b => fl (.bl (!decide (a.cps.toList < b.cps.toList)))
  | _, _ => none
def PV.isNon : PV → Bool
  | .non => true
  | _ => false
/-- is: with None, of two bools -/
def isPV : PV → PV → Option Bool
  | .non, .non => some true
  | _, .non => some false
  | .bl a, .bl b => some (decide (a = b))
  | _, _ => none
def isP (x y : PV) : Option OV := (isPV x y).map fun b => (false, .bl b)
def isNotP (x y : PV) : Option OV := (isPV x y).map fun b => (false, .bl (!b))

/-! keys -/
def keyOf1 : PV → Option Key
  | .int i => some (.inl i)
  | .str x => some (.inr x)
  | _ => none
def keysOf : List PV → Option (List Key)
  | [] => some []
  | x :: r => (keyOf1 x).bind fun k => (keysOf r).map (k :: ·)
def keyOf : PV → Option (Key ⊕ List Key)
  | .tup xs => (keysOf xs).map .inr
  | x => (keyOf1 x).map .inl
def keyEq (x y : PV) : Bool := match keyOf x, keyOf y with
  | some a, some b => decide (a = b)
  | _, _ => false
theorem keyOf1_kP (k : Key) : keyOf1 (kP k) = some k := by cases k <;> rfl
theorem keysOf_kP : ∀ l : List Key, keysOf (l.map kP) = some l
  | [] => rfl
  | k :: l => by simp [keysOf, keyOf1_kP, keysOf_kP l]
theorem keyOf_kP (k : Key) : keyOf (kP k) = some (.inl k) := by cases k <;> rfl
theorem keyOf_tup (l : List Key) : keyOf (.tup (l.map kP)) = some (.inr l) := by simp [keyOf, keysOf_kP]
theorem keyOf1_some {x : PV} {k : Key} (h : keyOf1 x = some k) : x = kP k := by
  cases x with
  | int i => cases h; rfl
  | str i => cases h; rfl
  | _ => cases h
theorem keysOf_some : ∀ {xs : List PV} {l : List Key}, keysOf xs = some l → xs = l.map kP
  | [], _, h => by cases h; rfl
  | x :: r, l, h => by
    obtain ⟨k, e, h⟩ := Option.bind_eq_some_iff.mp h
    obtain ⟨m, e2, rfl⟩ := Option.map_eq_some_iff.mp h
    rw [keyOf1_some e, keysOf_some e2]; rfl
theorem keyEq_kP (a b : Key) : keyEq (kP a) (kP b) = decide (a = b) := by
  unfold keyEq; rw [keyOf_kP, keyOf_kP]; simp
theorem keyEq_tup (a b : List Key) : keyEq (.tup (a.map kP)) (.tup (b.map kP)) = decide (a = b) := by
  unfold keyEq; rw [keyOf_tup, keyOf_tup]; simp
/-- the place of a key -/
def dFind (ks : List PV) (k : PV) : Option Nat := ks.findIdx? fun x => keyEq x k
def dGet (ks vs : List PV) (k : PV) : Option PV := (dFind ks k).bind fun i => vs[i]?
theorem valV_find {κ : Type} [DecidableEq κ] (k : κ) : ∀ (kk : List κ) (ws : List V), kk.length = ws.length → valV (kk.zip ws) k = (kk.findIdx? fun x => decide (x = k)).bind fun i => ws[i]?
  | [], _, _ => by simp [valV]
  | _ :: _, [], h => by simp at h
  | a :: kk, w :: ws, h => by
    have ih := valV_find k kk ws (by simpa using h)
    rw [List.zip_cons_cons, List.findIdx?_cons]
    by_cases e : a = k
    · rw [valV_pos (p := (a, w)) e]; simp [e]
    · rw [valV_neg (p := (a, w)) e, ih]
      simp only [e, decide_false, Bool.false_eq_true, if_false]
      cases (kk.findIdx? fun x => decide (x = k)) <;> simp
theorem findIdx_map {α β : Type} (f : α → β) (p : β → Bool) (q : α → Bool) (h : ∀ a, p (f a) = q a) : ∀ l : List α, (l.map f).findIdx? p = l.findIdx? q
  | [] => rfl
  | a :: l => by rw [List.map_cons, List.findIdx?_cons, List.findIdx?_cons, h a, findIdx_map f p q h l]
section
variable {K : PySem.W.Frag} {H Hf : Hp}
theorem Reps.keys : ∀ {l : List Key} {vs : List V}, Reps K H vs (l.map kP) → vs = l.map kV
  | [], _, h => h.nil_inv
  | k :: l, _, h => by
    obtain ⟨v, r, rfl, h1, h2⟩ := h.cons_inv
    rw [Reps.keys h2]
    cases k with
    | inl i => unfold kP Rep at h1; subst h1; rfl
    | inr i => unfold kP Rep at h1; subst h1; rfl
theorem Opd.key1 {v : V} {k : Key} (h : Opd K Hf H v (kP k)) : v = kV k := by
  cases k with
  | inl i => exact opd_int h
  | inr i => exact opd_str h
/-- the key's kind is the dict's -/
def kindOk : List PV → PV → Bool
  | [], k => (keyOf k).isSome
  | x :: _, k => match keyOf x, keyOf k with
    | some (.inl _), some (.inl _) => true
    | some (.inr _), some (.inr _) => true
    | _, _ => false
theorem kP_of {k : PV} {key : Key} (h : keyOf k = some (.inl key)) : k = kP key := by
  cases k with
  | int i => cases h; rfl
  | str i => cases h; rfl
  | tup xs => obtain ⟨l, _, e⟩ := Option.map_eq_some_iff.mp h; cases e
  | _ => cases h
theorem tup_of {k : PV} {l : List Key} (h : keyOf k = some (.inr l)) : k = .tup (l.map kP) := by
  cases k with
  | tup xs => obtain ⟨m, e2, e⟩ := Option.map_eq_some_iff.mp h; cases e; rw [keysOf_some e2]
  | _ => cases h
/-- a new dict asked for a tuple -/
def NoKeys (H : Hp) (a : Addr) (k' : V) : Prop := Rd H a (.dK []) ∧ ∃ b l, k' = .ref b ∧ H b = some (.tup (List.map kV l))
/-- what the dict holds at a key, as the layer says it -/
theorem dget_of (s : Bel Hf H) {d' k' : V} {ks vs : List PV} {k : PV} (hd : Opd K Hf H d' (.dic ks vs)) (hk : Opd K Hf H k' k) (hko : kindOk ks k = true) :
    ∃ a, d' = .ref a ∧ ((∃ r, DGet H a k' r ∧ (∀ w, r = some w → ∃ x, dGet ks vs k = some x ∧ Rep K Hf w x) ∧ (r = none → dGet ks vs k = none)) ∨ (NoKeys H a k' ∧ dGet ks vs k = none)) := by
  obtain ⟨a, ws, rfl, rw', h⟩ := hd
  refine ⟨a, rfl, ?_⟩
  have fin : ∀ (o : Option Nat), dFind ks k = o → (∀ w, (o.bind fun i => ws[i]?) = some w → ∃ x, dGet ks vs k = some x ∧ Rep K Hf w x) ∧ ((o.bind fun i => ws[i]?) = none → dGet ks vs k = none) := fun o e => by
    unfold dGet
    rw [e]
    refine ⟨fun w hw => ?_, fun hw => ?_⟩
    · obtain ⟨i, rfl, e2⟩ := Option.bind_eq_some_iff.mp hw
      obtain ⟨x, e3, hx⟩ := rw'.get' e2
      exact ⟨x, by simpa using e3, hx⟩
    · cases o with
      | none => rfl
      | some i =>
        have hw : ws[i]? = none := hw
        have : vs[i]? = none := by
          rw [List.getElem?_eq_none_iff] at hw ⊢
          rw [← rw'.length]; exact hw
        exact this
  rcases h with ⟨kk, hR, hl, rfl⟩ | ⟨kk, n, hR, hl, rfl⟩
  · cases ek : keyOf k with
    | none => cases kk <;> simp [kindOk, ek, keyOf_kP] at hko
    | some q =>
      cases q with
      | inl key =>
        have e := kP_of ek
        subst e
        have ek := hk.key1
        subst ek
        refine .inl ⟨_, .inl ⟨_, key, hR, rfl, rfl⟩, ?_⟩
        rw [valV_find key kk ws hl]
        exact fin _ (findIdx_map kP _ _ (fun x => keyEq_kP x key) kk)
      | inr l =>
        cases kk with
        | cons x _ => simp [kindOk, ek, keyOf_kP] at hko
        | nil =>
          have e := tup_of ek
          subst e
          obtain ⟨b, us, rfl, hb, hb', rb⟩ := opd_tup s hk
          have := rb.keys
          subst this
          exact .inr ⟨⟨hR, b, l, rfl, hb⟩, rfl⟩
  · cases kk with
    | nil => exact absurd rfl n
    | cons y kk =>
      cases ek : keyOf k with
      | none => simp [kindOk, ek, keyOf_tup] at hko
      | some q =>
        cases q with
        | inl key => simp [kindOk, ek, keyOf_tup] at hko
        | inr l =>
          have e := tup_of ek
          subst e
          obtain ⟨b, us, rfl, hb, hb', rb⟩ := opd_tup s hk
          have := rb.keys
          subst this
          refine .inl ⟨_, .inr ⟨_, l, b, hR, rfl, hb, rfl⟩, ?_⟩
          rw [valV_find l (y :: kk) ws hl]
          exact fin _ (findIdx_map (fun l : List Key => PV.tup (l.map kP)) (fun x => keyEq x (.tup (l.map kP))) (fun x => decide (x = l)) (fun x => keyEq_tup x l) (y :: kk))
end
section
variable {X : Cx} {pins : List (Addr × Obj)} {σ : Sl} {H : Hp} {s : Shared} {a b : Addr}
theorem empty_dict (I : L2.Inv X pins σ H s) (h : Rd H a (.dK [])) : (a == sysModules) = false ∧ s.heap.DictOfH (tupleKind (mixKind X.prog X.w)) a [] := by
  obtain ⟨_, hd, vs, rel, ⟨o, es, ep, h1, h2, h3, h4, h5, h6⟩⟩ := dk_rd I.hok h
  cases rel
  refine ⟨hd, o, es, ep, h1, h2, h3, ?_, fun x hx => (nomatch hx), List.nodup_nil⟩
  generalize es.toList = l at h5
  cases h5
  rfl
end

def inDict (ks vs : List PV) (k : PV) : Option OV := when (kindOk ks k) (fl (.bl (dGet ks vs k).isSome))
/-- == of flat values -/
def eqFlat : PV → PV → Bool
  | .non, .non => true
  | .bl a, .bl b => a == b
  | .bl a, .int b => (if a then 1 else 0) == b
  | .int a, .bl b => a == (if b then 1 else 0)
  | .int a, .int b => a == b
  | .str a, .str b => a == b
  | _, _ => false
def inFlat (x : PV) (xs : List PV) : Option Bool := if x.flat && xs.all PV.flat then some (xs.any fun y => eqFlat y x) else none
def inSeq (x : PV) (xs : List PV) : Option Bool := if shapedP x && shapedP (.lst xs) then some (xs.any fun y => eqPV y x) else none
/-- x in y -/
def inPV : PV → PV → Option Bool
  | x, .dic ks vs => if kindOk ks x then some (dGet ks vs x).isSome else none
  | .str ⟨⟨[c]⟩⟩, .str z => some (decide (c ∈ z.cps.toList))
  | .str a, .str z => some (!(Builtin.Str.occurrences z a 0 z.length 1).isEmpty)
  | x, .lst xs => inSeq x xs
  | x, .tup xs => inFlat x xs
  | x, .sq _ xs => inFlat x xs
  | _, _ => none
def inP (x y : PV) : Option OV := (inPV x y).map fun b => (false, .bl b)
def notInP (x y : PV) : Option OV := (inPV x y).map fun b => (false, .bl (!b))

section
variable {X : Cx} {K : PySem.W.Frag} {H Hf : Hp}
theorem eqFlat_of {x y : PV} {v w : V} (fx : x.flat = true) (fy : y.flat = true) (hx : Rep K H v x) (hy : Rep K H w y) : flatV v = true ∧ flatV w = true ∧ eqV v w = eqFlat x y := by
  cases x <;> first | (cases fx; done) | (cases y <;> first | (cases fy; done) | (unfold Rep at hx hy; subst hx; subst hy; exact ⟨rfl, rfl, rfl⟩))
theorem inFlat_of {x : PV} {v : V} (fx : x.flat = true) (hx : Rep K H v x) : ∀ {xs : List PV} {vs : List V}, Reps K H vs xs → xs.all PV.flat = true → vs.all flatV = true ∧ inV v vs = xs.any fun y => eqFlat y x
  | [], _, h, _ => by rw [h.nil_inv]; exact ⟨rfl, rfl⟩
  | y :: ys, _, h, f => by
    obtain ⟨w, r, rfl, h1, h2⟩ := h.cons_inv
    rw [List.all_cons, Bool.and_eq_true] at f
    obtain ⟨e1, e2⟩ := inFlat_of fx hx h2 f.2
    obtain ⟨f1, f2, f3⟩ := eqFlat_of f.1 fx h1 hx
    unfold inV at e2 ⊢
    rw [List.all_cons, f1, e1, List.any_cons, List.any_cons, e2, f3]
    exact ⟨rfl, rfl⟩
theorem any_toDs (x : PV) : ∀ xs : List PV, ((toDs xs).any fun z => PyData.eqv z (toD x)) = xs.any fun y => eqPV y x
  | [] => rfl
  | y :: ys => by
    have e : toDs (y :: ys) = toD y :: toDs ys := rfl
    rw [e, List.any_cons, List.any_cons, any_toDs x ys]; rfl
theorem shaped_can {x : PV} (h : shapedP x = true) : (toD x).canLay0 = true := SeqAt.canLay_of_shaped h
theorem p_eq (hu : X.A.units + 64 < cLine) : OpP X (compareOp .Eq) eqP := by
  intro pins s σ H x' y' v u Q I rx ry ⟨Hf, x, y, r, sb, ox, oy, e, q⟩
  obtain ⟨c, e⟩ := when_some e
  cases e
  obtain ⟨c1, c2⟩ := Bool.and_eq_true_iff.mp c
  exact op_eqD hu pins s σ H x' y' v u Q I rx ry ⟨_, _, ox.dp sb (shaped_can c1), oy.dp sb (shaped_can c2), c1, c2, q _ _ (.same rep_bl)⟩
theorem p_ne (hu : X.A.units + 64 < cLine) : OpP X (compareOp .NotEq) neP := by
  intro pins s σ H x' y' v u Q I rx ry ⟨Hf, x, y, r, sb, ox, oy, e, q⟩
  obtain ⟨c, e⟩ := when_some e
  cases e
  obtain ⟨c1, c2⟩ := Bool.and_eq_true_iff.mp c
  exact op_neD hu pins s σ H x' y' v u Q I rx ry ⟨_, _, ox.dp sb (shaped_can c1), oy.dp sb (shaped_can c2), c1, c2, q _ _ (.same rep_bl)⟩
theorem reps_ints {ns : List Int} : ∀ {vs : List V}, Reps K H vs (ns.map PV.int) → vs = ns.map V.int := by
  induction ns with
  | nil => intro vs h; exact h.nil_inv
  | cons n ns ih =>
    intro vs h
    obtain ⟨v, r, rfl, h1, h2⟩ := h.cons_inv
    rw [ih h2]
    unfold Rep at h1
    subst h1; rfl
theorem p_lt (hu : X.A.units < cLine) : OpP X (compareOp .Lt) ltP := by
  intro pins s σ H x' y' v u Q I rx ry ⟨Hf, x, y, r, sb, ox, oy, e, q⟩
  unfold ltP at e
  split at e
  · cases e; exact op_lt pins s σ H x' y' v u Q I rx ry ⟨_, _, opd_int ox, opd_int oy, q _ _ (.same rep_bl)⟩
  · cases e; exact op_lt_str pins s σ H x' y' v u Q I rx ry ⟨_, _, opd_str ox, opd_str oy, q _ _ (.same rep_bl)⟩
  · obtain ⟨ns, e1, e⟩ := Option.bind_eq_some_iff.mp e
    obtain ⟨ms, e2, e⟩ := Option.bind_eq_some_iff.mp e
    cases e
    rw [intsOf_some e1] at ox
    rw [intsOf_some e2] at oy
    obtain ⟨a, vs, rfl, ha, _, ra⟩ := opd_tup sb ox
    obtain ⟨b, ws, rfl, hb, _, rb⟩ := opd_tup sb oy
    rw [reps_ints ra] at ha
    rw [reps_ints rb] at hb
    exact op_ltT hu pins s σ H _ _ v u Q I rx ry ⟨a, b, ns, ms, rfl, rfl, SqT.of ha, SqT.of hb, q _ _ (.same rep_bl)⟩
  · cases e
theorem p_le : OpP X (compareOp .LtE) leP := by
  intro pins s σ H x' y' v u Q I rx ry ⟨Hf, x, y, r, sb, ox, oy, e, q⟩
  unfold leP at e
  split at e
  · cases e; exact op_le pins s σ H x' y' v u Q I rx ry ⟨_, _, opd_int ox, opd_int oy, q _ _ (.same rep_bl)⟩
  · cases e; exact op_le_str pins s σ H x' y' v u Q I rx ry ⟨_, _, opd_str ox, opd_str oy, q _ _ (.same rep_bl)⟩
  · cases e
theorem p_gt : OpP X (compareOp .Gt) gtP := by
  intro pins s σ H x' y' v u Q I rx ry ⟨Hf, x, y, r, sb, ox, oy, e, q⟩
  unfold gtP at e
  split at e
  · cases e; exact op_gt pins s σ H x' y' v u Q I rx ry ⟨_, _, opd_int ox, opd_int oy, q _ _ (.same rep_bl)⟩
  · cases e; exact op_gt_str pins s σ H x' y' v u Q I rx ry ⟨_, _, opd_str ox, opd_str oy, q _ _ (.same rep_bl)⟩
  · cases e
theorem p_ge : OpP X (compareOp .GtE) geP := by
  intro pins s σ H x' y' v u Q I rx ry ⟨Hf, x, y, r, sb, ox, oy, e, q⟩
  unfold geP at e
  split at e
  · cases e; exact op_ge pins s σ H x' y' v u Q I rx ry ⟨_, _, opd_int ox, opd_int oy, q _ _ (.same rep_bl)⟩
  · cases e; exact op_ge_str pins s σ H x' y' v u Q I rx ry ⟨_, _, opd_str ox, opd_str oy, q _ _ (.same rep_bl)⟩
  · cases e
theorem Opd.non_iff {v : V} {x : PV} (h : Opd K Hf H v x) : decide (v = .non) = x.isNon := by
  cases x with
  | non => rw [opd_non h]; rfl
  | bl b => rw [opd_bl h]; rfl
  | int b => rw [opd_int h]; rfl
  | str b => rw [opd_str h]; rfl
  | tup xs =>
    have h : Rep K Hf v (.tup xs) := h
    unfold Rep at h
    obtain ⟨a, vs, rfl, _⟩ := h; rfl
  | lst xs => obtain ⟨a, vs, rfl, _⟩ := h; rfl
  | dic ks xs => obtain ⟨a, vs, rfl, _⟩ := h; rfl
  | sq l xs =>
    have h : Rep K Hf v (.sq l xs) := h
    unfold Rep at h
    obtain ⟨a, vs, rfl, _⟩ := h; rfl
theorem isPV_inv {x y : PV} {b : Bool} (h : isPV x y = some b) : (y = .non ∧ b = x.isNon) ∨ ∃ a c, x = .bl a ∧ y = .bl c ∧ b = decide (a = c) := by
  cases y with
  | non => cases x <;> (cases h; exact .inl ⟨rfl, rfl⟩)
  | bl c => cases x <;> first | (cases h; exact .inr ⟨_, _, rfl, rfl, rfl⟩) | cases h
  | _ => cases x <;> cases h
theorem p_is : OpP X (compareOp .Is) isP := by
  intro pins s σ H x' y' v u Q I rx ry ⟨Hf, x, y, r, sb, ox, oy, e, q⟩
  obtain ⟨b, e1, rfl⟩ := Option.map_eq_some_iff.mp e
  rcases isPV_inv e1 with ⟨rfl, rfl⟩ | ⟨a, c, rfl, rfl, rfl⟩
  · exact op_isN pins s σ H x' y' v u Q I rx ry ⟨opd_non oy, by rw [ox.non_iff]; exact q _ _ (.same rep_bl)⟩
  · exact op_isBl pins s σ H x' y' v u Q I rx ry ⟨a, c, opd_bl ox, opd_bl oy, q _ _ (.same rep_bl)⟩
theorem p_isnot : OpP X (compareOp .IsNot) isNotP := by
  intro pins s σ H x' y' v u Q I rx ry ⟨Hf, x, y, r, sb, ox, oy, e, q⟩
  obtain ⟨b, e1, rfl⟩ := Option.map_eq_some_iff.mp e
  rcases isPV_inv e1 with ⟨rfl, rfl⟩ | ⟨a, c, rfl, rfl, rfl⟩
  · exact op_notN pins s σ H x' y' v u Q I rx ry ⟨opd_non oy, by rw [ox.non_iff]; exact q _ _ (.same rep_bl)⟩
  · exact op_notBl pins s σ H x' y' v u Q I rx ry ⟨a, c, opd_bl ox, opd_bl oy, q _ _ (.same rep_bl)⟩
end
end MC
set_option Elab.async false
set_option linter.all false
set_option maxRecDepth 100000
set_option maxHeartbeats 4000000
namespace MC
open PySem PySem.Spec L2
open PyProof.Rows (b2i)

section
variable {X : Cx} {K : PySem.W.Frag} {H Hf : Hp}
theorem rep_sq {v : V} {l : Bool} {xs : List PV} (s : Bel Hf H) (h : Rep K Hf v (.sq l xs)) : ∃ a vs, v = .ref a ∧ (if l = true then SqL K H a vs else SqT K H a vs) ∧ Reps K Hf vs xs := by
  unfold Rep at h
  obtain ⟨a, vs, e, h1, h2⟩ := h
  refine ⟨a, vs, e, ?_, h2⟩
  cases l with
  | true => exact s.sqL h1
  | false => exact s.sqT h1
theorem sq_or {l : Bool} {a : Addr} {vs : List V} (h : if l = true then SqL K H a vs else SqT K H a vs) : SqL K H a vs ∨ SqT K H a vs := by
  cases l with
  | true => exact .inl h
  | false => exact .inr h
theorem in_all {neg : Bool} {f : Value → Value → Sem Value} {g : PV → PV → Option OV} (hg : ∀ x y r, g x y = some r → ∃ b, inPV x y = some b ∧ r = (false, .bl (if neg then !b else b)))
    (hd : ∀ {pins : List (Addr × Obj)} {σ : Sl} {H : Hp} {s : Shared} {a : Addr} {y : V} {u : Value} {o : Option V} {Q : Value → Shared → Prop}, L2.Inv X pins σ H s → DGet H a y o → RelV y u → (∀ s', L2.Inv X pins σ H s' → Q (.bool (if neg then !o.isSome else o.isSome)) s') → wpAny (model X.prog X.w) X.A (f u (.ref a)) Q X.xe s)
    (hn : ∀ {pins : List (Addr × Obj)} {σ : Sl} {H : Hp} {s : Shared} {a b : Addr} {l : List Key} {Q : Value → Shared → Prop}, L2.Inv X pins σ H s → Rd H a (.dK []) → H b = some (.tup (l.map kV)) → (∀ s', L2.Inv X pins σ H s' → Q (.bool neg) s') → wpAny (model X.prog X.w) X.A (f (.ref b) (.ref a)) Q X.xe s)
    (h1 : OpR X f (fun x y H Q => ∃ (c : Nat) (z : Str), x = .str ⟨#[c]⟩ ∧ y = .str z ∧ Q (.bl (if neg then !decide (c ∈ z.cps.toList) else decide (c ∈ z.cps.toList))) H))
    (h2 : OpR X f (fun x y H Q => ∃ i j, x = .str i ∧ y = .str j ∧ Q (.bl (if neg then !(!(Builtin.Str.occurrences j i 0 j.length 1).isEmpty) else (!(Builtin.Str.occurrences j i 0 j.length 1).isEmpty))) H))
    (h3 : OpR X f (fun x y H Q => ∃ d ds, Dp X.K H x d ∧ Dp X.K H y (.list ds) ∧ SeqAt.shaped d = true ∧ SeqAt.shaped (.list ds) = true ∧ Q (.bl (if neg then !(ds.any fun z => PyData.eqv z d) else ds.any fun z => PyData.eqv z d)) H))
    (h4 : OpR X f (rIn X.K neg)) : OpP X f g := by
  intro pins s σ H x' y' v u Q I rx ry ⟨Hf, x, y, r, sb, ox, oy, e, q⟩
  obtain ⟨b, e2, er⟩ := hg x y r e
  subst er
  clear e
  have e := e2
  clear e2
  unfold inPV at e
  split at e
  · split at e
    · rename_i ks vs hk
      cases e
      obtain ⟨a, rfl, h⟩ := dget_of sb oy ox hk
      cases (show u = Value.ref a from ry)
      rcases h with ⟨r, hg, k1, k2⟩ | ⟨⟨hR, b, l, rfl, hb⟩, hz⟩
      · have es : r.isSome = (dGet ks vs x).isSome := by
          cases r with
          | none => rw [k2 rfl]; rfl
          | some w => obtain ⟨z, e, _⟩ := k1 w rfl; rw [e]; rfl
        exact hd I hg rx fun s' I' => ⟨.bl _, H, I', rfl, by rw [es]; exact q _ _ (.same rep_bl)⟩
      · cases (show v = Value.ref b from rx)
        refine hn I hR hb fun s' I' => ⟨.bl neg, H, I', rfl, ?_⟩
        have := q (.bl neg) H
        rw [hz] at this
        refine this (.same ?_)
        cases neg <;> exact rep_bl
    · cases e
  · cases e; exact h1 pins s σ H x' y' v u Q I rx ry ⟨_, _, opd_str ox, opd_str oy, q _ _ (.same rep_bl)⟩
  · cases e; exact h2 pins s σ H x' y' v u Q I rx ry ⟨_, _, opd_str ox, opd_str oy, q _ _ (.same rep_bl)⟩
  · rename_i xs
    unfold inSeq at e
    split at e
    · rename_i c
      cases e
      obtain ⟨c1, c2⟩ := Bool.and_eq_true_iff.mp c
      refine h3 pins s σ H x' y' v u Q I rx ry ⟨_, toDs xs, ox.dp sb (shaped_can c1), oy.dp sb (shaped_can c2), c1, c2, ?_⟩
      rw [any_toDs]
      exact q _ _ (.same rep_bl)
    · cases e
  · rename_i xs
    unfold inFlat at e
    split at e
    · rename_i c
      cases e
      obtain ⟨c1, c2⟩ := Bool.and_eq_true_iff.mp c
      obtain ⟨a, vs, rfl, ha, _, ra⟩ := opd_tup sb oy
      obtain ⟨f1, f2⟩ := inFlat_of c1 (ox.flat c1) ra c2
      refine h4 pins s σ H x' _ v u Q I rx ry ⟨a, vs, rfl, .inr (SqT.of ha), ?_, f1, ?_⟩
      · have := ox.flat c1
        exact (eqFlat_of c1 c1 this this).1
      · rw [f2]; exact q _ _ (.same rep_bl)
    · cases e
  · rename_i l xs
    unfold inFlat at e
    split at e
    · rename_i c
      cases e
      obtain ⟨c1, c2⟩ := Bool.and_eq_true_iff.mp c
      obtain ⟨a, vs, rfl, ha, ra⟩ := rep_sq sb oy
      obtain ⟨f1, f2⟩ := inFlat_of c1 (ox.flat c1) ra c2
      refine h4 pins s σ H x' _ v u Q I rx ry ⟨a, vs, rfl, sq_or ha, ?_, f1, ?_⟩
      · have := ox.flat c1
        exact (eqFlat_of c1 c1 this this).1
      · rw [f2]; exact q _ _ (.same rep_bl)
    · cases e
  · cases e
theorem p_in (hu : X.A.units + 65 < cLine) : OpP X (compareOp .In) inP := in_all (neg := false) (fun x y r e => by
    obtain ⟨b, e1, rfl⟩ := Option.map_eq_some_iff.mp e
    exact ⟨b, e1, rfl⟩) (fun I g ry h => d_in (by omega) I g ry h)
  (fun I hR hb h => by
    obtain ⟨lo, dd⟩ := empty_dict I hR
    exact wpAny_in_heap (xs := []) (tupleKind_room_in1 (by omega)) (key_of I.hok hb) lo dd (h _ (I.tok _)))
  op_in_sign op_in_str (op_inD hu) op_in_seq
theorem p_notin (hu : X.A.units + 65 < cLine) : OpP X (compareOp .NotIn) notInP := in_all (neg := true) (fun x y r e => by
    obtain ⟨b, e1, rfl⟩ := Option.map_eq_some_iff.mp e
    exact ⟨b, e1, rfl⟩) (fun I g ry h => d_notIn (by omega) I g ry h)
  (fun I hR hb h => by
    obtain ⟨lo, dd⟩ := empty_dict I hR
    exact PyProof.Rows.wpAny_notIn_heap (xs := []) (tupleKind_room_in1 (by omega)) (key_of I.hok hb) lo dd (h _ (I.tok _)))
  op_notIn_sign op_notin_str (op_notInD hu) op_notIn_seq
end

/-! ### truth -/
def truP : PV → Option Bool
  | .non => some false
  | .bl b => some b
  | .int i => some (i != 0)
  | .str x => if fits x.length then some ((x.length : Int) != 0) else none
  | .tup xs => some !xs.isEmpty
  | .lst xs => some !xs.isEmpty
  | .sq _ xs => some !xs.isEmpty
  | .dic _ _ => none
def truM (f : M PV) : M Bool := f >>= fun x => lift (truP x)
section
variable {X : Cx} {K : PySem.W.Frag} {H Hf : Hp} {a : Expr} {fa : M PV}
theorem reps_empty {xs : List PV} {vs : List V} (h : Reps K H vs xs) : vs.isEmpty = xs.isEmpty := by
  have := h.length
  cases vs <;> cases xs <;> first | rfl | cases this
theorem tru_of {x : PV} {v : V} {k : Bool} (s : Bel Hf H) (o : Opd K Hf H v x) (h : truP x = some k) : TruV K v H k := by
  cases x with
  | non => cases h; rw [opd_non o]; rfl
  | bl b => cases h; rw [opd_bl o]; rfl
  | int b => cases h; rw [opd_int o]; rfl
  | str b =>
    have h : (if fits b.length = true then some ((b.length : Int) != 0) else none) = some k := h
    split at h
    · rename_i c; cases h; rw [opd_str o]; exact ⟨of_decide_eq_true c, rfl⟩
    · cases h
  | tup xs =>
    cases h
    obtain ⟨a, vs, rfl, ha, _, ra⟩ := opd_tup s o
    exact .inr (.inl ⟨vs, SqT.of ha, by rw [reps_empty ra]⟩)
  | lst xs =>
    cases h
    obtain ⟨a, vs, rfl, ha, ra⟩ := opd_lst o
    exact .inl ⟨vs, SqL.of ha, by rw [reps_empty ra]⟩
  | sq l xs =>
    cases h
    obtain ⟨a, vs, rfl, ha, ra⟩ := rep_sq s o
    rcases sq_or ha with ha | ha
    · exact .inl ⟨vs, ha, by rw [reps_empty ra]⟩
    · exact .inr (.inl ⟨vs, ha, by rw [reps_empty ra]⟩)
  | dic _ _ => cases h
/-- an expression of any kind as a test -/
theorem wt_truth (ha : WO X a fa) (he : ∀ whole, isTrue a X.env whole = (do let v ← whole; standAt a.pos; holding [v] (truthy v)) := by intro _; rfl) : WT X a (truM fa) := ⟨ptWeak (pt_truth ha.pe he) fun σ H Q ⟨ρ, Hf, r, w⟩ => by
  unfold truM at w
  rw [wp_bind] at w
  refine ⟨ρ, Hf, r, wp_mono w fun x ρ1 w v1 Hf1 H1 r1 s1 p1 => ?_⟩
  rw [wp_lift] at w
  obtain ⟨k, e, q⟩ := w
  exact ⟨k, tru_of r1.sub p1 e, q Hf1 H1 r1 s1⟩⟩
end

/-! ### not, and, or -/
section
variable {X : Cx} {a b : Expr} {rest : List Expr} {pos : Pos} {fa fb : M Bool} {ga gb : M OV} {ha' : M PV}
def notM (f : M Bool) : M Bool := f >>= fun b => pure !b
def andM (f g : M Bool) : M Bool := f >>= fun b => if b = true then g else pure false
def orM (f g : M Bool) : M Bool := f >>= fun b => if b = true then pure true else g
theorem wt_not (h : WT X a fa) : WT X (.UnaryOp .Not a pos) (notM fa) := ⟨ptWeak (pt_not h.pt) fun σ H Q ⟨ρ, Hf, r, w⟩ => by
  unfold notM at w
  rw [wp_bind] at w
  exact ⟨ρ, Hf, r, wp_mono w fun x ρ1 w Hf1 H1 r1 s1 => wp_pure.mp w Hf1 H1 r1 s1⟩⟩
/-- a chain of and, or: its 'whole' does not matter -/
structure WW (X : Cx) (e : Expr) (f : M Bool) : Prop where
  pw : PW X e (tT X.K f)
theorem WW.wt {e : Expr} (h : WW X e fa) : WT X e fa := ⟨h.pw.pt⟩
theorem ww_and1 (h : WT X a fa) : WW X (.BoolOp .And [a] pos) fa := ⟨pw_and1 h.pt⟩
theorem ww_or1 (h : WT X a fa) : WW X (.BoolOp .Or [a] pos) fa := ⟨pw_or1 h.pt⟩
theorem pwWeak {e : Expr} {t t' : TT} (h : PW X e t) (k : ∀ σ H Q, t' σ H Q → t σ H Q) : PW X e t' := ⟨fun wh pins s σ H Q I q => h.run wh pins s σ H Q I (k σ H Q q)⟩
theorem ww_and (h1 : WT X a fa) (h2 : WW X (.BoolOp .And (b :: rest) pos) fb) : WW X (.BoolOp .And (a :: b :: rest) pos) (andM fa fb) := ⟨pwWeak (pw_and h1.pt h2.pw) fun σ H Q ⟨ρ, Hf, r, w⟩ => by
  unfold andM at w
  rw [wp_bind] at w
  refine ⟨ρ, Hf, r, wp_mono w fun x ρ1 w Hf1 H1 r1 s1 => ?_⟩
  cases x with
  | true =>
    rw [if_pos rfl] at w ⊢
    exact ⟨ρ1, Hf1, r1, wp_mono w fun y ρ2 k Hf2 H2 r2 s2 => k Hf2 H2 r2 (s1.trans s2)⟩
  | false =>
    rw [if_neg Bool.false_ne_true] at w ⊢
    exact wp_pure.mp w Hf1 H1 r1 s1⟩
theorem ww_or (h1 : WT X a fa) (h2 : WW X (.BoolOp .Or (b :: rest) pos) fb) : WW X (.BoolOp .Or (a :: b :: rest) pos) (orM fa fb) := ⟨pwWeak (pw_or h1.pt h2.pw) fun σ H Q ⟨ρ, Hf, r, w⟩ => by
  unfold orM at w
  rw [wp_bind] at w
  refine ⟨ρ, Hf, r, wp_mono w fun x ρ1 w Hf1 H1 r1 s1 => ?_⟩
  cases x with
  | false =>
    rw [if_neg Bool.false_ne_true] at w ⊢
    exact ⟨ρ1, Hf1, r1, wp_mono w fun y ρ2 k Hf2 H2 r2 s2 => k Hf2 H2 r2 (s1.trans s2)⟩
  | true =>
    rw [if_pos rfl] at w ⊢
    exact wp_pure.mp w Hf1 H1 r1 s1⟩
/-- as values, by truth -/
def notV (f : M PV) : M OV := f >>= fun x => lift ((truP x).map fun b => (false, PV.bl !b))
def andV (f : M PV) (g : M OV) : M OV := f >>= fun x => lift (truP x) >>= fun b => if b = true then g else pure (false, x)
def orV (f : M PV) (g : M OV) : M OV := f >>= fun x => lift (truP x) >>= fun b => if b = true then pure (false, x) else g
theorem we_not (h : WO X a ha') : WE X (.UnaryOp .Not a pos) (notV ha') := ⟨peWeak (pe_notT h.pe) fun σ H Q ⟨ρ, Hf, r, w⟩ => by
  unfold notV at w
  rw [wp_bind] at w
  refine ⟨ρ, Hf, r, wp_mono w fun x ρ1 w v1 Hf1 H1 r1 s1 p1 => ?_⟩
  rw [wp_lift] at w
  obtain ⟨k, e, q⟩ := w
  obtain ⟨b, e2, rfl⟩ := Option.map_eq_some_iff.mp e
  exact ⟨b, tru_of r1.sub p1 e2, q (.bl !b) Hf1 H1 r1 s1 (show Rep X.K Hf1 (.bl !b) (.bl !b) from rep_bl) fun z => nomatch z⟩⟩
theorem we_one {op : BoolOp} (h : WE X a ga) : WE X (.BoolOp op [a] pos) ga := ⟨pe_one h.pe⟩
theorem we_and (h1 : WF X a ha') (h2 : WE X (.BoolOp .And (b :: rest) pos) gb) : WE X (.BoolOp .And (a :: b :: rest) pos) (andV ha' gb) := ⟨peWeak (pe_andT h1.pe h2.pe) fun σ H Q ⟨ρ, Hf, r, w⟩ => by
  unfold andV at w
  rw [wp_bind] at w
  refine ⟨ρ, Hf, r, wp_mono w fun x ρ1 w v1 Hf1 H1 r1 s1 p1 => ?_⟩
  rw [wp_bind, wp_lift] at w
  obtain ⟨k, e, w⟩ := w
  refine ⟨k, tru_of r1.sub (Rep.opd r1.sub p1) e, ?_⟩
  cases k with
  | true =>
    rw [if_pos rfl] at w ⊢
    exact ⟨ρ1, Hf1, r1, wp_mono w fun y ρ2 k v2 Hf2 H2 r2 s2 p2 n2 => k v2 Hf2 H2 r2 (s1.trans s2) p2 (newTo s1.there n2)⟩
  | false =>
    rw [if_neg Bool.false_ne_true] at w ⊢
    exact wp_pure.mp w v1 Hf1 H1 r1 s1 p1 fun z => nomatch z⟩
theorem we_or (h1 : WF X a ha') (h2 : WE X (.BoolOp .Or (b :: rest) pos) gb) : WE X (.BoolOp .Or (a :: b :: rest) pos) (orV ha' gb) := ⟨peWeak (pe_orT h1.pe h2.pe) fun σ H Q ⟨ρ, Hf, r, w⟩ => by
  unfold orV at w
  rw [wp_bind] at w
  refine ⟨ρ, Hf, r, wp_mono w fun x ρ1 w v1 Hf1 H1 r1 s1 p1 => ?_⟩
  rw [wp_bind, wp_lift] at w
  obtain ⟨k, e, w⟩ := w
  refine ⟨k, tru_of r1.sub (Rep.opd r1.sub p1) e, ?_⟩
  cases k with
  | false =>
    rw [if_neg Bool.false_ne_true] at w ⊢
    exact ⟨ρ1, Hf1, r1, wp_mono w fun y ρ2 k v2 Hf2 H2 r2 s2 p2 n2 => k v2 Hf2 H2 r2 (s1.trans s2) p2 (newTo s1.there n2)⟩
  | true =>
    rw [if_pos rfl] at w ⊢
    exact wp_pure.mp w v1 Hf1 H1 r1 s1 p1 fun z => nomatch z⟩
/-- a if t else b -/
def ifM {α : Type} (t : M Bool) (f g : M α) : M α := t >>= fun b => if b = true then f else g
theorem we_if {c : Expr} {gc : M Bool} (hc : WT X c gc) (h1 : WE X a ga) (h2 : WE X b gb) : WE X (.IfExp c a b pos) (ifM gc ga gb) := ⟨peWeak (pe_ifExp hc.pt h1.pe h2.pe) fun σ H Q ⟨ρ, Hf, r, w⟩ => by
  unfold ifM at w
  rw [wp_bind] at w
  refine ⟨ρ, Hf, r, wp_mono w fun x ρ1 w Hf1 H1 r1 s1 => ?_⟩
  cases x with
  | false =>
    rw [if_neg Bool.false_ne_true] at w ⊢
    exact ⟨ρ1, Hf1, r1, wp_mono w fun y ρ2 k v2 Hf2 H2 r2 s2 p2 n2 => k v2 Hf2 H2 r2 (s1.trans s2) p2 (newTo s1.there n2)⟩
  | true =>
    rw [if_pos rfl] at w ⊢
    exact ⟨ρ1, Hf1, r1, wp_mono w fun y ρ2 k v2 Hf2 H2 r2 s2 p2 n2 => k v2 Hf2 H2 r2 (s1.trans s2) p2 (newTo s1.there n2)⟩⟩
end

/-! ### argument lists, displays -/
section
variable {X : Cx} {e : Expr} {es : List Expr} {pos : Pos} {f : M PV} {g : M (List PV)}
def consM (f : M PV) (g : M (List PV)) : M (List PV) := f >>= fun x => g >>= fun xs => pure (x :: xs)
theorem wl_nil : WL X [] (pure []) := ⟨paWeak pa_nil fun σ H Q ⟨ρ, Hf, r, w⟩ => wp_pure.mp w [] Hf H r .rfl' .nil⟩
theorem wl_cons (h : WF X e f) (t : WL X es g) (hs : starEach (e :: es) X.env = (false, eval e X.env) :: starEach es X.env := by rfl) : WL X (e :: es) (consM f g) := ⟨paWeak (pa_cons h.pe t.pa hs) fun σ H Q ⟨ρ, Hf, r, w⟩ => by
  unfold consM at w
  rw [wp_bind] at w
  refine ⟨ρ, Hf, r, wp_mono w fun x ρ1 w v1 Hf1 H1 r1 s1 p1 => ?_⟩
  rw [wp_bind] at w
  refine ⟨ρ1, Hf1, r1, wp_mono w fun xs ρ2 w vs2 Hf2 H2 r2 s2 p2 => ?_⟩
  exact wp_pure.mp w (v1 :: vs2) Hf2 H2 r2 (s1.trans s2) (.cons (p1.sub s2.sub) p2)⟩
def tupM (g : M (List PV)) : M OV := g >>= fun xs => lift (when (fits xs.length) (fl (.tup xs)))
def lstM (g : M (List PV)) : M OV := g >>= fun xs => lift (when (fits xs.length) (some (true, .lst xs)))
theorem we_tup {x1} (h : WL X es g) : WE X (.Tuple es x1 pos) (tupM g) := ⟨peWeak (pe_tup h.pa) fun σ H Q ⟨ρ, Hf, r, w⟩ => by
  unfold tupM at w
  rw [wp_bind] at w
  refine ⟨ρ, Hf, r, wp_mono w fun xs ρ1 w vs Hf1 H1 r1 s1 p1 => ?_⟩
  rw [wp_lift] at w
  obtain ⟨z, e, k⟩ := w
  obtain ⟨c, e⟩ := when_some e
  cases e
  refine ⟨by rw [p1.length]; exact of_decide_eq_true c, fun p np => ?_⟩
  obtain ⟨Hf3, r3, s3, ro, nw⟩ := (Res1.tup np p1).use r1
  exact k (.ref p) Hf3 _ r3 (s1.trans s3) ro (newTo s1.there nw)⟩
theorem we_lst (h : WL X es g) : WE X (.List es pos) (lstM g) := ⟨peWeak (pe_lst h.pa) fun σ H Q ⟨ρ, Hf, r, w⟩ => by
  unfold lstM at w
  rw [wp_bind] at w
  refine ⟨ρ, Hf, r, wp_mono w fun xs ρ1 w vs Hf1 H1 r1 s1 p1 => ?_⟩
  rw [wp_lift] at w
  obtain ⟨z, e, k⟩ := w
  obtain ⟨c, e⟩ := when_some e
  cases e
  refine ⟨by rw [p1.length]; exact of_decide_eq_true c, fun p np => ?_⟩
  obtain ⟨Hf3, r3, s3, ro, nw⟩ := (Res1.lst np p1).use r1
  exact k (.ref p) Hf3 _ r3 (s1.trans s3) ro (newTo s1.there nw)⟩
/-- {} -/
theorem we_dnew : WE X (.Dict [] [] pos) (pure (true, .dic [] [])) := ⟨peWeak pe_dnewK fun σ H Q ⟨ρ, Hf, r, w⟩ => by
  intro p np
  have res : Res1 X.K Hf H (.ref p) (upd H p (.dK [])) (true, .dic [] []) := .inr ⟨p, _, rfl, np, rfl, fun _ => ⟨[], .nil, .inl ⟨[], rfl, rfl, rfl⟩⟩, fun z => nomatch z⟩
  obtain ⟨Hf3, r3, s3, ro, nw⟩ := res.use r
  exact wp_pure.mp w (.ref p) Hf3 _ r3 s3 ro nw⟩
end
end MC
set_option Elab.async false
set_option linter.all false
set_option maxRecDepth 100000
set_option maxHeartbeats 4000000
namespace MC
open PySem PySem.Spec L2
open PyProof.Rows (b2i sortedS risingS ltCps_eq)

/-! ### builtins of one operand -/
def lenP : PV → Option OV
  | .str x => when (fits x.length) (fl (.int x.length))
  | .tup xs => fl (.int xs.length)
  | .lst xs => fl (.int xs.length)
  | .sq _ xs => fl (.int xs.length)
  | .dic ks _ => fl (.int ks.length)
  | _ => none
def sign (c : Nat) : PV := .str ⟨#[c]⟩
def listP : PV → Option OV
  | .str x => when (fits x.length) (some (true, .lst (x.cps.toList.map sign)))
  | .tup xs => some (true, .lst xs)
  | .lst xs => some (true, .lst xs)
  | .sq _ xs => some (true, .lst xs)
  | _ => none
def tupleP : PV → Option OV
  | .tup xs => fl (.tup xs)
  | .lst xs => fl (.tup xs)
  | _ => none
def sumP : PV → Option OV
  | .lst xs => (intsOf xs).bind fun ns => fl (.int ns.sum)
  | _ => none
def blsOf : List PV → Option (List Bool)
  | [] => some []
  | .bl b :: r => (blsOf r).map (b :: ·)
  | _ :: _ => none
def strsOf : List PV → Option (List Str)
  | [] => some []
  | .str b :: r => (strsOf r).map (b :: ·)
  | _ :: _ => none
def allP : PV → Option OV
  | .lst xs => (blsOf xs).bind fun bs => fl (.bl (bs.all id))
  | _ => none
def anyP : PV → Option OV
  | .lst xs => (blsOf xs).bind fun bs => fl (.bl (bs.any id))
  | _ => none
def maxI : List Int → Option Int
  | [] => none
  | a :: r => some (r.foldl max a)
def minI : List Int → Option Int
  | [] => none
  | a :: r => some (r.foldl min a)
def maxP : PV → Option OV
  | .lst xs => (intsOf xs).bind fun ns => (maxI ns).bind fun m => fl (.int m)
  | _ => none
def minP : PV → Option OV
  | .lst xs => (intsOf xs).bind fun ns => (minI ns).bind fun m => fl (.int m)
  | _ => none
def absP : PV → Option OV
  | .int i => fl (.int (if i < 0 then -i else i))
  | _ => none
def intP : PV → Option OV
  | .int i => fl (.int i)
  | .bl b => fl (.int (if b then 1 else 0))
  | _ => none
def strLe (a b : Str) : Bool := !decide (b.cps.toList < a.cps.toList)
def sortInts (ns : List Int) : List Int := ns.mergeSort fun a b => decide (a ≤ b)
def sortStrs (ns : List Str) : List Str := ns.mergeSort strLe
def sortedP : PV → Option OV
  | .lst xs => match intsOf xs with
    | some ns => some (true, .lst ((sortInts ns).map .int))
    | none => match strsOf xs with
      | some ss => when (decide (ss.length < 64)) (some (true, .lst ((sortStrs ss).map .str)))
      | none => none
  | _ => none

section
variable {X : Cx} {K : PySem.W.Frag} {H Hf : Hp}
theorem blsOf_some : ∀ {xs : List PV} {ns : List Bool}, blsOf xs = some ns → xs = ns.map PV.bl
  | [], _, h => by cases h; rfl
  | .bl i :: r, ns, h => by
    obtain ⟨ms, e, rfl⟩ := Option.map_eq_some_iff.mp h
    rw [blsOf_some e]; rfl
  | .non :: _, _, h => nomatch h
  | .int _ :: _, _, h => nomatch h
  | .str _ :: _, _, h => nomatch h
  | .tup _ :: _, _, h => nomatch h
  | .lst _ :: _, _, h => nomatch h
  | .dic _ _ :: _, _, h => nomatch h
  | .sq _ _ :: _, _, h => nomatch h
theorem strsOf_some : ∀ {xs : List PV} {ns : List Str}, strsOf xs = some ns → xs = ns.map PV.str
  | [], _, h => by cases h; rfl
  | .str i :: r, ns, h => by
    obtain ⟨ms, e, rfl⟩ := Option.map_eq_some_iff.mp h
    rw [strsOf_some e]; rfl
  | .non :: _, _, h => nomatch h
  | .int _ :: _, _, h => nomatch h
  | .bl _ :: _, _, h => nomatch h
  | .tup _ :: _, _, h => nomatch h
  | .lst _ :: _, _, h => nomatch h
  | .dic _ _ :: _, _, h => nomatch h
  | .sq _ _ :: _, _, h => nomatch h
theorem reps_flat {α : Type} {f : α → PV} {g : α → V} (hf : ∀ a (v : V), Rep K H v (f a) → v = g a) : ∀ {ns : List α} {vs : List V}, Reps K H vs (ns.map f) → vs = ns.map g
  | [], _, h => h.nil_inv
  | n :: ns, _, h => by
    obtain ⟨v, r, rfl, h1, h2⟩ := h.cons_inv
    rw [reps_flat hf h2, hf n v h1]; rfl
theorem reps_bls {ns : List Bool} {vs : List V} (h : Reps K H vs (ns.map PV.bl)) : vs = ns.map V.bl := reps_flat (fun a v h => by unfold Rep at h; exact h) h
theorem reps_strs {ns : List Str} {vs : List V} (h : Reps K H vs (ns.map PV.str)) : vs = ns.map V.str := reps_flat (fun a v h => by unfold Rep at h; exact h) h
theorem reps_of {α : Type} {f : α → PV} {g : α → V} (hf : ∀ a, Rep K H (g a) (f a)) : ∀ (ns : List α), Reps K H (ns.map g) (ns.map f)
  | [] => .nil
  | n :: ns => .cons (hf n) (reps_of hf ns)
theorem callP {f : Value} {g : PV → Option OV} (h : ∀ (pins : List (Addr × Obj)) (s : Shared) (σ : Sl) (H : Hp) (x' : V) (us : List Value) (Q : VK) (Hf : Hp) (x : PV) (r : OV), L2.Inv X pins σ H s → Vals [x'] us → Bel Hf H → Opd X.K Hf H x' x → g x = some r →
    (∀ v' H', Res1 X.K Hf H v' H' r → Q v' H') → wpAny (model X.prog X.w) X.A (call f us) (EP X pins σ Q) X.xe s) : CallP X f g := by
  intro pins s σ H xs us Q I r ⟨x', e, Hf, x, z, sb, ox, eg, q⟩
  subst e
  exact h pins s σ H x' us Q Hf x z I r sb ox eg q
theorem p_len : CallP X (.builtin "len") lenP := callP fun pins s σ H x' us Q Hf x r I rs sb ox e q => by
  unfold lenP at e
  split at e
  · obtain ⟨c, e⟩ := when_some e
    cases e
    exact call_len pins s σ H [x'] us Q I rs ⟨x', _, rfl, by rw [opd_str ox]; exact ⟨of_decide_eq_true c, rfl⟩, q _ _ (.same rep_int)⟩
  · cases e
    obtain ⟨a, vs, rfl, ha, _, ra⟩ := opd_tup sb ox
    exact call_len pins s σ H _ us Q I rs ⟨_, _, rfl, .inr ⟨vs, SqT.of ha, rfl⟩, by rw [ra.length]; exact q _ _ (.same rep_int)⟩
  · cases e
    obtain ⟨a, vs, rfl, ha, ra⟩ := opd_lst ox
    exact call_len pins s σ H _ us Q I rs ⟨_, _, rfl, .inl ⟨vs, SqL.of ha, rfl⟩, by rw [ra.length]; exact q _ _ (.same rep_int)⟩
  · cases e
    obtain ⟨a, vs, rfl, ha, ra⟩ := rep_sq sb ox
    refine call_len pins s σ H _ us Q I rs ⟨_, vs.length, rfl, ?_, by rw [ra.length]; exact q _ _ (.same rep_int)⟩
    rcases sq_or ha with ha | ha
    · exact .inl ⟨vs, ha, rfl⟩
    · exact .inr ⟨vs, ha, rfl⟩
  · cases e
    obtain ⟨a, vs, rfl, ra, h⟩ := ox
    obtain ⟨u, rfl, ru⟩ := vals1 rs
    cases (show u = Value.ref a from ru)
    rcases h with ⟨kk, hR, hl, rfl⟩ | ⟨kk, n, hR, hl, rfl⟩
    · refine d_len I hR fun t s' I' => ⟨.int (kk.zip vs).length, H, I', ⟨t, rfl⟩, ?_⟩
      have : (kk.zip vs).length = (kk.map kP).length := by rw [List.length_zip, List.length_map, hl, Nat.min_self]
      rw [this]; exact q _ _ (.same rep_int)
    · obtain ⟨z, hd, ys, rel, dd⟩ := dt_rd I.hok hR
      have hl2 : (kk.zip vs).length = ys.length := Paired.length rel
      have : (kk.zip vs).length = (kk.map fun l => PV.tup (l.map kP)).length := by rw [List.length_zip, List.length_map, hl, Nat.min_self]
      refine call_len_dictH hd dd (by rw [← hl2]; rw [sizeLine_eq] at z; omega) ?_
      refine ⟨.int (kk.zip vs).length, H, I.tok _, ⟨_, by rw [hl2]⟩, ?_⟩
      rw [this]; exact q _ _ (.same rep_int)
  · cases e
theorem p_list (hc : X.calm = true) : CallP X (.type "list") listP := callP fun pins s σ H x' us Q Hf x r I rs sb ox e q => by
  unfold listP at e
  split at e
  · obtain ⟨c, e⟩ := when_some e
    cases e
    rename_i z
    obtain ⟨u, rfl, ru⟩ := vals1 rs
    rw [opd_str ox] at ru
    obtain ⟨t, rfl⟩ := ru
    have c : z.length ≤ sizeLine := of_decide_eq_true c
    refine call_list_str (I.ok.hd hc) z t (hn := c) fun h' tk acc' c' hk hS hacc => ?_
    have hp : H s.heap.objs.size = none := I.hok.fresh (Nat.le_refl _)
    have hv : Vals (z.cps.toList.map fun c => V.str ⟨#[c]⟩) acc'.toList := vals_of_at (by simp [hacc.1]) fun j x u h1 h2 => by
      obtain ⟨c, t', e1, rfl⟩ := hacc.2 j u (by simpa using h2)
      rw [List.getElem?_map] at h1
      have e2 : z.cps.toList[j]? = some c := by simpa using e1
      rw [e2] at h1
      cases h1
      exact ⟨t', rfl⟩
    refine ⟨.ref s.heap.objs.size, _, I.laid (t' := tk) (o := .lst (z.cps.toList.map fun c => V.str ⟨#[c]⟩)) hk (Nat.le_refl _) ?_, rfl, q _ _ (.lst hp (reps_of (fun _ => rep_str) _))⟩
    exact ⟨by rw [List.length_map, Array.length_toList]; exact c, acc'.toList, c', hv, by simpa using hS⟩
  · cases e
    obtain ⟨a, vs, rfl, ha, _, ra⟩ := opd_tup sb ox
    exact call_list_of pins s σ H _ us Q I rs ⟨a, vs, rfl, .inr (SqT.of ha), fun l hl => q _ _ (.lst hl ra)⟩
  · cases e
    obtain ⟨a, vs, rfl, ha, ra⟩ := opd_lst ox
    exact call_list_of pins s σ H _ us Q I rs ⟨a, vs, rfl, .inl (SqL.of ha), fun l hl => q _ _ (.lst hl ra)⟩
  · cases e
    obtain ⟨a, vs, rfl, ha, ra⟩ := rep_sq sb ox
    exact call_list_of pins s σ H _ us Q I rs ⟨a, vs, rfl, sq_or ha, fun l hl => q _ _ (.lst hl ra)⟩
  · cases e
theorem p_tuple : CallP X (.type "tuple") tupleP := callP fun pins s σ H x' us Q Hf x r I rs sb ox e q => by
  unfold tupleP at e
  split at e
  · cases e
    obtain ⟨a, vs, rfl, ha, ha', ra⟩ := opd_tup sb ox
    exact call_tuple_of pins s σ H _ us Q I rs ⟨a, vs, rfl, .inr ⟨SqT.of ha, q _ _ (.same (by unfold Rep; exact ⟨a, vs, rfl, ha', ra⟩))⟩⟩
  · cases e
    obtain ⟨a, vs, rfl, ha, ra⟩ := opd_lst ox
    exact call_tuple_of pins s σ H _ us Q I rs ⟨a, vs, rfl, .inl ⟨SqL.of ha, fun l hl => q _ _ (.tup hl ra)⟩⟩
  · cases e
theorem p_sum (hc : X.calm = true) : CallP X (.builtin "sum") sumP := callP fun pins s σ H x' us Q Hf x r I rs sb ox e q => by
  unfold sumP at e
  split at e
  · obtain ⟨ns, e1, e⟩ := Option.bind_eq_some_iff.mp e
    cases e
    rw [intsOf_some e1] at ox
    obtain ⟨a, vs, rfl, ha, ra⟩ := opd_lst ox
    rw [reps_ints ra] at ha
    exact cr_sum hc pins s σ H _ us Q I rs ⟨a, ns, rfl, SqL.of ha, q _ _ (.same rep_int)⟩
  · cases e
theorem p_all (hc : X.calm = true) : CallP X (.builtin "all") allP := callP fun pins s σ H x' us Q Hf x r I rs sb ox e q => by
  unfold allP at e
  split at e
  · obtain ⟨ns, e1, e⟩ := Option.bind_eq_some_iff.mp e
    cases e
    rw [blsOf_some e1] at ox
    obtain ⟨a, vs, rfl, ha, ra⟩ := opd_lst ox
    rw [reps_bls ra] at ha
    exact cr_all hc pins s σ H _ us Q I rs ⟨a, ns, rfl, SqL.of ha, q _ _ (.same rep_bl)⟩
  · cases e
theorem p_any (hc : X.calm = true) : CallP X (.builtin "any") anyP := callP fun pins s σ H x' us Q Hf x r I rs sb ox e q => by
  unfold anyP at e
  split at e
  · obtain ⟨ns, e1, e⟩ := Option.bind_eq_some_iff.mp e
    cases e
    rw [blsOf_some e1] at ox
    obtain ⟨a, vs, rfl, ha, ra⟩ := opd_lst ox
    rw [reps_bls ra] at ha
    exact cr_any hc pins s σ H _ us Q I rs ⟨a, ns, rfl, SqL.of ha, q _ _ (.same rep_bl)⟩
  · cases e
theorem foldl_max : ∀ (r : List Int) (a : Int), (r.foldl max a ∈ a :: r) ∧ ∀ y ∈ a :: r, y ≤ r.foldl max a
  | [], a => ⟨by simp, fun y h => by simp at h; simp [h]⟩
  | b :: r, a => by
    obtain ⟨h1, h2⟩ := foldl_max r (max a b)
    rw [List.foldl_cons]
    refine ⟨?_, fun y hy => ?_⟩
    · rcases List.mem_cons.mp h1 with e | h1
      · rw [e]
        by_cases h : a ≤ b
        · rw [Int.max_eq_right h]; simp
        · rw [Int.max_eq_left (by omega)]; simp
      · exact List.mem_cons_of_mem _ (List.mem_cons_of_mem _ h1)
    · have h3 := h2 (max a b) List.mem_cons_self
      rcases List.mem_cons.mp hy with e | hy
      · subst e; omega
      · rcases List.mem_cons.mp hy with e | hy
        · subst e; omega
        · exact h2 y (List.mem_cons_of_mem _ hy)
theorem foldl_min : ∀ (r : List Int) (a : Int), (r.foldl min a ∈ a :: r) ∧ ∀ y ∈ a :: r, r.foldl min a ≤ y
  | [], a => ⟨by simp, fun y h => by simp at h; simp [h]⟩
  | b :: r, a => by
    obtain ⟨h1, h2⟩ := foldl_min r (min a b)
    rw [List.foldl_cons]
    refine ⟨?_, fun y hy => ?_⟩
    · rcases List.mem_cons.mp h1 with e | h1
      · rw [e]
        by_cases h : a ≤ b
        · rw [Int.min_eq_left h]; simp
        · rw [Int.min_eq_right (by omega)]; simp
      · exact List.mem_cons_of_mem _ (List.mem_cons_of_mem _ h1)
    · have h3 := h2 (min a b) List.mem_cons_self
      rcases List.mem_cons.mp hy with e | hy
      · subst e; omega
      · rcases List.mem_cons.mp hy with e | hy
        · subst e; omega
        · exact h2 y (List.mem_cons_of_mem _ hy)
theorem maxI_is {ns : List Int} {k : Int} (h : maxI ns = some k) : 0 < ns.length ∧ ∀ m, m ∈ ns → (∀ y, y ∈ ns → y ≤ m) → m = k := by
  cases ns with
  | nil => cases h
  | cons a r =>
    cases h
    obtain ⟨h1, h2⟩ := foldl_max r a
    exact ⟨by simp, fun m hm hy => Int.le_antisymm (h2 m hm) (hy _ h1)⟩
theorem minI_is {ns : List Int} {k : Int} (h : minI ns = some k) : 0 < ns.length ∧ ∀ m, m ∈ ns → (∀ y, y ∈ ns → m ≤ y) → m = k := by
  cases ns with
  | nil => cases h
  | cons a r =>
    cases h
    obtain ⟨h1, h2⟩ := foldl_min r a
    exact ⟨by simp, fun m hm hy => Int.le_antisymm (hy _ h1) (h2 m hm)⟩
theorem p_max (hc : X.calm = true) : CallP X (.builtin "max") maxP := callP fun pins s σ H x' us Q Hf x r I rs sb ox e q => by
  unfold maxP at e
  split at e
  · obtain ⟨ns, e1, e⟩ := Option.bind_eq_some_iff.mp e
    obtain ⟨k, e2, e⟩ := Option.bind_eq_some_iff.mp e
    cases e
    rw [intsOf_some e1] at ox
    obtain ⟨a, vs, rfl, ha, ra⟩ := opd_lst ox
    rw [reps_ints ra] at ha
    obtain ⟨h1, h2⟩ := maxI_is e2
    exact cr_max hc pins s σ H _ us Q I rs ⟨a, ns, rfl, SqL.of ha, h1, fun m hm hy => by rw [h2 m hm hy]; exact q _ _ (.same rep_int)⟩
  · cases e
theorem p_min (hc : X.calm = true) : CallP X (.builtin "min") minP := callP fun pins s σ H x' us Q Hf x r I rs sb ox e q => by
  unfold minP at e
  split at e
  · obtain ⟨ns, e1, e⟩ := Option.bind_eq_some_iff.mp e
    obtain ⟨k, e2, e⟩ := Option.bind_eq_some_iff.mp e
    cases e
    rw [intsOf_some e1] at ox
    obtain ⟨a, vs, rfl, ha, ra⟩ := opd_lst ox
    rw [reps_ints ra] at ha
    obtain ⟨h1, h2⟩ := minI_is e2
    exact cr_min hc pins s σ H _ us Q I rs ⟨a, ns, rfl, SqL.of ha, h1, fun m hm hy => by rw [h2 m hm hy]; exact q _ _ (.same rep_int)⟩
  · cases e
theorem p_abs : CallP X (.builtin "abs") absP := callP fun pins s σ H x' us Q Hf x r I rs sb ox e q => by
  unfold absP at e
  split at e
  · cases e; exact call_abs pins s σ H _ us Q I rs ⟨_, by rw [opd_int ox], q _ _ (.same rep_int)⟩
  · cases e
theorem p_int : CallP X (.type "int") intP := callP fun pins s σ H x' us Q Hf x r I rs sb ox e q => by
  unfold intP at e
  split at e
  · cases e; exact call_int1 pins s σ H _ us Q I rs (.inl ⟨_, by rw [opd_int ox], q _ _ (.same rep_int)⟩)
  · cases e; exact call_int1 pins s σ H _ us Q I rs (.inr ⟨_, by rw [opd_bl ox], q _ _ (.same rep_int)⟩)
  · cases e
theorem sortInts_is {ns ns' : List Int} (hp : ns'.Perm ns) (hs : ns'.Pairwise (· ≤ ·)) : ns' = sortInts ns := by
  refine List.Perm.eq_of_pairwise (le := fun a b : Int => a ≤ b) (fun a b _ _ h1 h2 => Int.le_antisymm h1 h2) hs ?_ (hp.trans (List.mergeSort_perm _ _).symm)
  have := List.pairwise_mergeSort (le := fun a b : Int => decide (a ≤ b)) (fun a b c h1 h2 => by simp only [decide_eq_true_eq] at *; omega) (fun a b => by simp only [Bool.or_eq_true, decide_eq_true_eq]; omega) ns
  exact this.imp fun h => of_decide_eq_true h
theorem strLe_iff (a b : Str) : strLe a b = true ↔ a.cps.toList ≤ b.cps.toList := by
  unfold strLe
  simp only [Bool.not_eq_true', decide_eq_false_iff_not]
  exact List.not_lt
theorem strLe_trans (a b c : Str) (h1 : strLe a b = true) (h2 : strLe b c = true) : strLe a c = true := by
  rw [strLe_iff] at *
  exact List.le_trans h1 h2
theorem strLe_total (a b : Str) : (strLe a b || strLe b a) = true := by
  rw [Bool.or_eq_true, strLe_iff, strLe_iff]
  exact List.le_total _ _
theorem strLe_antisymm {a b : Str} (h1 : strLe a b = true) (h2 : strLe b a = true) : a = b := by
  rw [strLe_iff] at *
  exact Str.ext' (Array.toList_inj.mp (List.le_antisymm h1 h2))
theorem risingS_pair : ∀ {ys : List Str} {x : Str}, risingS x ys = true → (x :: ys).Pairwise fun a b => strLe a b = true
  | [], x, _ => by simp
  | y :: ys, x, h => by
    have h : (!ltCps y.cps.toList x.cps.toList && risingS y ys) = true := h
    obtain ⟨h1, h2⟩ := Bool.and_eq_true_iff.mp h
    have ih := risingS_pair h2
    have xy : strLe x y = true := by unfold strLe; rw [ltCps_eq] at h1; exact h1
    refine List.pairwise_cons.mpr ⟨fun z hz => ?_, ih⟩
    rcases List.mem_cons.mp hz with e | hz
    · subst e; exact xy
    · exact strLe_trans _ _ _ xy ((List.pairwise_cons.mp ih).1 z hz)
theorem sortedS_pair : ∀ {ys : List Str}, sortedS ys = true → ys.Pairwise fun a b => strLe a b = true
  | [], _ => by simp
  | y :: ys, h => risingS_pair h
theorem sortStrs_is {ns ns' : List Str} (hp : ns'.Perm ns) (hs : sortedS ns' = true) : ns' = sortStrs ns := by
  refine List.Perm.eq_of_pairwise (le := fun a b => strLe a b = true) (fun a b _ _ h1 h2 => strLe_antisymm h1 h2) (sortedS_pair hs) ?_ (hp.trans (List.mergeSort_perm _ _).symm)
  exact List.pairwise_mergeSort strLe_trans strLe_total ns
theorem p_sorted : CallP X (.builtin "sorted") sortedP := callP fun pins s σ H x' us Q Hf x r I rs sb ox e q => by
  unfold sortedP at e
  split at e
  · split at e
    · rename_i ns e1
      cases e
      rw [intsOf_some e1] at ox
      obtain ⟨a, vs, rfl, ha, ra⟩ := opd_lst ox
      rw [reps_ints ra] at ha
      exact cr_sortedI pins s σ H _ us Q I rs ⟨a, ns, rfl, SqL.of ha, fun ns' p hp hs hn => by rw [sortInts_is hp hs]; exact q _ _ (.lst hn (reps_of (fun _ => rep_int) _))⟩
    · split at e
      · rename_i ss e1
        obtain ⟨c, e⟩ := when_some e
        cases e
        rw [strsOf_some e1] at ox
        obtain ⟨a, vs, rfl, ha, ra⟩ := opd_lst ox
        rw [reps_strs ra] at ha
        exact cr_sortedS pins s σ H _ us Q I rs ⟨a, ss, rfl, SqL.of ha, of_decide_eq_true c, fun ns' p hp hs hn => by rw [sortStrs_is hp hs]; exact q _ _ (.lst hn (reps_of (fun _ => rep_str) _))⟩
      · cases e
  · cases e
end
end MC
set_option Elab.async false
set_option linter.all false
set_option maxRecDepth 100000
set_option maxHeartbeats 4000000
namespace MC
open PySem PySem.Spec L2
open PyProof.Rows (b2i)

/-! ### a call of a builtin with one operand -/
section
variable {X : Cx} {e a b : Expr} {es : List Expr} {fa fb : M PV} {g : PV → Option OV} {id T : String} {x : Str} {p pos : Pos}
theorem readL1 {K : PySem.W.Frag} {σ : Sl} {H : Hp} {Q : VK} (h : tE K (un1 fa g) σ H Q) : tCB (fun xs H Q => ∃ x', xs = [x'] ∧ r1P K g x' H Q) (tCons (tO K fa) tNil) σ H Q := by
  obtain ⟨ρ, Hf, r, w⟩ := read1 h
  exact ⟨ρ, Hf, r, wp_mono w fun x ρ1 k v1 Hf1 H1 r1 s1 p1 => ⟨v1, rfl, k v1 Hf1 H1 r1 s1 p1⟩⟩
theorem we_call1 (hc : CallP X (.builtin id) g) (hg : Gl X x) (hm : X.mg x = none) (hv : bootBuiltins x = some (.builtin id)) (ha : WO X a fa) (hn : x ≠ "__name__" := by decide) (hdb : (x == ("__debug__" : Str)) = false := by decide)
    (hs : starEach (a :: []) X.env = (false, eval a X.env) :: starEach [] X.env := by rfl) (hpl : (backTo pos (starEach [] X.env)).any (·.1) = false := by rfl) : WE X (.Call (.Name x p) [a] [] pos) (un1 fa g) :=
  ⟨peWeak (pe_callB hc hg hm hv (pa_cons ha.pe pa_nil hs) hn hdb hs hpl) fun _ _ _ h => readL1 h⟩
theorem we_callT (hc : CallP X (.type T) g) (hg : Gl X x) (hm : X.mg x = none) (hv : bootBuiltins x = some (.type T)) (ha : WO X a fa) (hn : x ≠ "__name__" := by decide) (hdb : (x == ("__debug__" : Str)) = false := by decide)
    (hs : starEach (a :: []) X.env = (false, eval a X.env) :: starEach [] X.env := by rfl) (hpl : (backTo pos (starEach [] X.env)).any (·.1) = false := by rfl) : WE X (.Call (.Name x p) [a] [] pos) (un1 fa g) :=
  ⟨peWeak (pe_callTy hc hg hm hv (pa_cons ha.pe pa_nil hs) hn hdb hs hpl) fun _ _ _ h => readL1 h⟩

/-- a call of a builtin with several plain arguments -/
def CallL (X : Cx) (f : Value) (g : List PV → Option OV) : Prop :=
  CallR X f fun vs H Q => ∃ Hf xs r, Bel Hf H ∧ Reps X.K Hf vs xs ∧ g xs = some r ∧ ∀ v' H', Res1 X.K Hf H v' H' r → Q v' H'
def unL (fs : M (List PV)) (g : List PV → Option OV) : M OV := fs >>= fun xs => lift (g xs)
theorem readLL {K : PySem.W.Frag} {fs : M (List PV)} {g : List PV → Option OV} {σ : Sl} {H : Hp} {Q : VK} (h : tE K (unL fs g) σ H Q) :
    tCB (fun vs H Q => ∃ Hf xs r, Bel Hf H ∧ Reps K Hf vs xs ∧ g xs = some r ∧ ∀ v' H', Res1 K Hf H v' H' r → Q v' H') (tL K fs) σ H Q := by
  obtain ⟨ρ, Hf, r, w⟩ := h
  unfold unL at w
  rw [wp_bind] at w
  refine ⟨ρ, Hf, r, wp_mono w fun xs ρ1 w vs Hf1 H1 r1 s1 p1 => ?_⟩
  rw [wp_lift] at w
  obtain ⟨z, e, k⟩ := w
  refine ⟨Hf1, xs, z, r1.sub, p1, e, fun v' H' res => ?_⟩
  obtain ⟨Hf3, r3, s3, ro, nw⟩ := res.use r1
  exact k v' Hf3 H' r3 (s1.trans s3) ro (newTo s1.there nw)
theorem we_callL {fs : M (List PV)} {g : List PV → Option OV} (hc : CallL X (.builtin id) g) (hg : Gl X x) (hm : X.mg x = none) (hv : bootBuiltins x = some (.builtin id)) (ha : WL X (e :: es) fs) (hn : x ≠ "__name__" := by decide) (hdb : (x == ("__debug__" : Str)) = false := by decide)
    (hs : starEach (e :: es) X.env = (false, eval e X.env) :: starEach es X.env := by rfl) (hpl : (backTo pos (starEach es X.env)).any (·.1) = false := by rfl) : WE X (.Call (.Name x p) (e :: es) [] pos) (unL fs g) :=
  ⟨peWeak (pe_callB hc hg hm hv ha.pa hn hdb hs hpl) fun _ _ _ h => readLL h⟩
def max2P : List PV → Option OV
  | [.int i, .int j] => fl (.int (if j > i then j else i))
  | _ => none
def min2P : List PV → Option OV
  | [.int i, .int j] => fl (.int (if j < i then j else i))
  | _ => none
theorem reps2i {K : PySem.W.Frag} {H : Hp} {vs : List V} {i j : Int} (h : Reps K H vs [.int i, .int j]) : vs = [.int i, .int j] := reps_ints (ns := [i, j]) h
theorem p_max2 (hc : X.calm = true) : CallL X (.builtin "max") max2P := fun pins s σ H vs us Q I rs ⟨Hf, xs, r, sb, rp, e, q⟩ => by
  unfold max2P at e
  split at e
  · cases e; exact call_max2 hc pins s σ H vs us Q I rs ⟨_, _, reps2i rp, q _ _ (.same rep_int)⟩
  · cases e
theorem p_min2 (hc : X.calm = true) : CallL X (.builtin "min") min2P := fun pins s σ H vs us Q I rs ⟨Hf, xs, r, sb, rp, e, q⟩ => by
  unfold min2P at e
  split at e
  · cases e; exact call_min2 hc pins s σ H vs us Q I rs ⟨_, _, reps2i rp, q _ _ (.same rep_int)⟩
  · cases e

/-! ### isinstance of a built-in class -/
def tyName : PV → String
  | .non => "NoneType"
  | .bl _ => "bool"
  | .int _ => "int"
  | .str _ => "str"
  | .tup _ => "tuple"
  | .lst _ => "list"
  | .dic _ _ => "dict"
  | .sq true _ => "list"
  | .sq false _ => "tuple"
def isiP (T : String) (x : PV) : Option OV := (kitB (tyName x) T).map fun b => (false, .bl b)
theorem sq_ty {K : PySem.W.Frag} {H : Hp} {a : Addr} {vs : List V} {l : Bool} (h : if l = true then SqL K H a vs else SqT K H a vs) : TyX K H (.ref a) (.type (if l = true then "list" else "tuple")) := by
  cases l with
  | true =>
    rcases h with (h | ⟨o, h⟩) | ⟨o, its, n, hk, hc, _⟩
    · exact .base (.lst h)
    · exact .base (.frz h)
    · exact .kList hk hc
  | false =>
    rcases h with (h | ⟨o, h⟩) | ⟨o, its, n, hk, hc, _⟩
    · exact .base (.tup h)
    · exact .fTuple h
    · exact .kTuple hk hc
theorem isi_ty {K : PySem.W.Frag} {H Hf : Hp} {x : PV} {v : V} (s : Bel Hf H) (o : Opd K Hf H v x) (hd : tyName x ≠ "dict") : TyX K H v (.type (tyName x)) := by
  cases x with
  | non => rw [opd_non o]; exact .base .non
  | bl b => rw [opd_bl o]; exact .base (.bl b)
  | int b => rw [opd_int o]; exact .base (.int b)
  | str b => rw [opd_str o]; exact .base (.str b)
  | tup xs =>
    obtain ⟨a, vs, rfl, ha, _⟩ := opd_tup s o
    exact .base (.tup ha)
  | lst xs =>
    obtain ⟨a, vs, rfl, ha, _⟩ := opd_lst o
    exact .base (.lst ha)
  | dic _ _ => exact absurd rfl hd
  | sq l xs =>
    obtain ⟨a, vs, rfl, ha, _⟩ := rep_sq s o
    have := sq_ty ha
    cases l <;> exact this
theorem we_isi {q1 : Pos} {t : Str} (hg : Gl X "isinstance") (hm : X.mg "isinstance" = none) (hgt : Gl X t) (hmt : X.mg t = none) (hvt : bootBuiltins t = some (.type T)) (ha : WO X a fa)
    (hn : t ≠ "__name__" := by decide) (hdb : (t == ("__debug__" : Str)) = false := by decide)
    (hs : starEach (a :: [.Name t q1]) X.env = (false, eval a X.env) :: starEach [.Name t q1] X.env := by rfl) (hs2 : starEach (.Name t q1 :: []) X.env = (false, eval (.Name t q1) X.env) :: starEach [] X.env := by rfl)
    (hpl : (backTo pos (starEach [.Name t q1] X.env)).any (·.1) = false := by rfl) (hb : bootBuiltins "isinstance" = some (.builtin "isinstance") := by decide +kernel) :
    WE X (.Call (.Name "isinstance" p) [a, .Name t q1] [] pos) (un1 fa fun x => if tyName x = "dict" then none else isiP T x) := by
  have pt : PE X (.Name t q1) (tC (.ty T)) := pe_bltn hgt hmt hvt rfl hn hdb
  refine ⟨peWeak (pe_callB call_isi hg hm hb (pa_cons ha.pe (pa_cons pt pa_nil hs2) hs) (by decide) (by decide) hs hpl) fun σ H Q h => ?_⟩
  obtain ⟨ρ, Hf, r, w⟩ := read1 h
  refine ⟨ρ, Hf, r, wp_mono w fun x ρ1 k v1 Hf1 H1 r1 s1 p1 => ?_⟩
  obtain ⟨Hf2, x2, z, sb, o, e, q⟩ := k v1 Hf1 H1 r1 s1 p1
  have e2 : (if tyName x2 = "dict" then none else isiP T x2) = some z := e
  split at e2
  · cases e2
  · rename_i hd
    obtain ⟨b, e3, rfl⟩ := Option.map_eq_some_iff.mp e2
    exact ⟨v1, .ty T, _, .type T, b, rfl, .ty T, isi_ty sb o hd, kit_ty e3, q _ _ (.same rep_bl)⟩
end

/-! ### subscripts -/
def ixSeq (xs : List PV) (i : Int) : Option OV := (atI xs i).map fun x => (false, x)
def ixP : PV → PV → Option OV
  | .lst xs, .int i => ixSeq xs i
  | .tup xs, .int i => ixSeq xs i
  | .sq _ xs, .int i => ixSeq xs i
  | .str z, .int i => if fits z.length then (atI z.cps.toList i).map fun c => (false, sign c) else none
  | .dic ks vs, k => if kindOk ks k then (dGet ks vs k).map fun x => (false, x) else none
  | _, _ => none
section
variable {X : Cx} {K : PySem.W.Frag} {H Hf : Hp} {a b : Expr} {fa fb : M PV} {pos : Pos}
theorem reps_at {xs : List PV} {vs : List V} {i : Int} {x : PV} (h : Reps K H vs xs) (e : atI xs i = some x) : ∃ v, atI vs i = some v ∧ Rep K H v x := by
  unfold atI at e ⊢
  rw [← h.length] at e
  obtain ⟨j, e1, e2⟩ := Option.bind_eq_some_iff.mp e
  obtain ⟨v, e3, hv⟩ := h.get e2
  exact ⟨v, by rw [e1]; exact e3, hv⟩
def IxP (X : Cx) (g : PV → PV → Option OV) : Prop := IxR X (rP X.K g)
theorem p_ix (hu : X.A.units + 1 < cLine) : IxP X ixP := by
  intro value slice pins s σ H x' y' v u Q I rx ry ⟨Hf, x, y, r, sb, ox, oy, e, q⟩ hs
  unfold ixP at e
  split at e
  · obtain ⟨z, e1, rfl⟩ := Option.map_eq_some_iff.mp e
    obtain ⟨a, vs, rfl, ha, ra⟩ := opd_lst ox
    obtain ⟨w, e2, hw⟩ := reps_at ra e1
    exact ix_list value slice pins s σ H _ y' v u Q I rx ry ⟨a, vs, _, w, rfl, opd_int oy, SqL.of ha, e2, q _ _ (.same hw)⟩ hs
  · obtain ⟨z, e1, rfl⟩ := Option.map_eq_some_iff.mp e
    obtain ⟨a, vs, rfl, ha, _, ra⟩ := opd_tup sb ox
    obtain ⟨w, e2, hw⟩ := reps_at ra e1
    exact ix_tup value slice pins s σ H _ y' v u Q I rx ry ⟨a, vs, _, w, rfl, opd_int oy, SqT.of ha, e2, q _ _ (.same hw)⟩ hs
  · obtain ⟨z, e1, rfl⟩ := Option.map_eq_some_iff.mp e
    obtain ⟨a, vs, rfl, ha, ra⟩ := rep_sq sb ox
    obtain ⟨w, e2, hw⟩ := reps_at ra e1
    rcases sq_or ha with ha | ha
    · exact ix_list value slice pins s σ H _ y' v u Q I rx ry ⟨a, vs, _, w, rfl, opd_int oy, ha, e2, q _ _ (.same hw)⟩ hs
    · exact ix_tup value slice pins s σ H _ y' v u Q I rx ry ⟨a, vs, _, w, rfl, opd_int oy, ha, e2, q _ _ (.same hw)⟩ hs
  · split at e
    · rename_i c
      obtain ⟨z, e1, rfl⟩ := Option.map_eq_some_iff.mp e
      exact ix_str value slice pins s σ H x' y' v u Q I rx ry ⟨_, _, z, opd_str ox, opd_int oy, of_decide_eq_true c, e1, q _ _ (.same rep_str)⟩ hs
    · cases e
  · split at e
    · rename_i hk
      obtain ⟨z, e1, rfl⟩ := Option.map_eq_some_iff.mp e
      obtain ⟨a, rfl, h⟩ := dget_of sb ox oy hk
      cases (show v = Value.ref a from rx)
      rcases h with ⟨o, hg, k1, k2⟩ | ⟨_, hz⟩
      · cases o with
        | none => rw [k2 rfl] at e1; cases e1
        | some w =>
          obtain ⟨z2, e2, hw⟩ := k1 w rfl
          rw [e1] at e2; cases e2
          exact PyProof.Rows.tail_any (dict_typeIs I hg) PySem.F.slot_dict_getitem.lookup (d_getItem hu I hg ry fun w' s' I' rw' => ⟨w, H, I', rw', q _ _ (.same hw)⟩) hs
      · rw [hz] at e1; cases e1
    · cases e
  · cases e
theorem we_ix {g : PV → PV → Option OV} (h : IxP X g) (ha : WF X a fa) (hb : WO X b fb) (hs : PlainIx b := by intro _ _; rfl) : WE X (.Subscript a b pos) (bin2 fa fb g) := ⟨peWeak (pe_ix h ha.pe hb.pe hs) fun _ _ _ q => read2 q⟩
theorem we_ixv {g : PV → PV → Option OV} (h : IxP X g) {i : Nat} (ha : PE X a (tVar i)) (hb : WO X b fb) (hs : PlainIx b := by intro _ _; rfl) : WE X (.Subscript a b pos) (bin2v i fb g) := ⟨peWeak (pe_ix h ha hb.pe hs) fun _ _ _ q => read2v q⟩

/-! slices -/
def cutP (xs : List PV) (lo hi : Option Int) : List PV := (xs.drop (HT.sIx xs.length 0 lo)).take (HT.sIx xs.length xs.length hi - HT.sIx xs.length 0 lo)
def slP : PV → Option Int → Option Int → Option OV
  | .lst xs, lo, hi => some (true, .lst (cutP xs lo hi))
  | .sq true xs, lo, hi => some (true, .lst (cutP xs lo hi))
  | .tup xs, lo, hi => fl (.tup (cutP xs lo hi))
  | .str z, lo, hi => if fits z.length then fl (.str (cutS z lo hi)) else none
  | _, _, _ => none
def rSlP (K : PySem.W.Frag) (g : PV → Option Int → Option Int → Option OV) : V → Option Int → Option Int → Hp → VK → Prop := fun x' lo hi H Q => ∃ Hf x r, Bel Hf H ∧ Opd K Hf H x' x ∧ g x lo hi = some r ∧ ∀ v' H', Res1 K Hf H v' H' r → Q v' H'
def SlP (X : Cx) (g : PV → Option Int → Option Int → Option OV) : Prop := SlR X (rSlP X.K g)
theorem reps_cut {xs : List PV} {vs : List V} (h : Reps K H vs xs) (lo hi : Option Int) : Reps K H (cutV vs lo hi) (cutP xs lo hi) := by
  unfold cutV cutP
  rw [h.length]
  exact (h.drop _).take _
theorem p_sl : SlP X slP := by
  intro pins s σ H x' v vl vu lo hi sl Q I rx hs pl pu ⟨Hf, x, r, sb, ox, e, q⟩
  unfold slP at e
  split at e
  · cases e
    obtain ⟨a, vs, rfl, ha, ra⟩ := opd_lst ox
    exact sl_list pins s σ H _ v vl vu lo hi sl Q I rx hs pl pu ⟨a, vs, rfl, SqL.of ha, fun p np => q _ _ (.lst np (reps_cut ra lo hi))⟩
  · cases e
    obtain ⟨a, vs, rfl, ha, ra⟩ := rep_sq sb ox
    exact sl_list pins s σ H _ v vl vu lo hi sl Q I rx hs pl pu ⟨a, vs, rfl, ha, fun p np => q _ _ (.lst np (reps_cut ra lo hi))⟩
  · cases e
    rename_i xs
    obtain ⟨a, vs, rfl, ha, ha', ra⟩ := opd_tup sb ox
    refine sl_tupA pins s σ H _ v vl vu lo hi sl Q I rx hs pl pu ⟨a, vs, rfl, SqT.of ha, fun hw => ?_, fun _ p np => q _ _ (.tup np (reps_cut ra lo hi))⟩
    refine q _ _ (.same ?_)
    have : cutP xs lo hi = xs := by
      unfold cutP
      rw [ra.length] at hw
      rw [hw.1, hw.2]; simp
    rw [this]
    unfold Rep
    exact ⟨a, vs, rfl, ha', ra⟩
  · split at e
    · rename_i c
      cases e
      exact sl_str pins s σ H x' v vl vu lo hi sl Q I rx hs pl pu ⟨_, opd_str ox, of_decide_eq_true c, q _ _ (.same rep_str)⟩
    · cases e
  · cases e
/-- a slice's part -/
structure WP (X : Cx) (e : Option Expr) (f : M (Option Int)) : Prop where
  po : PO X e fun σ H Q => ∃ ρ Hf, R X.K ρ Hf σ H ∧ wp f ρ fun x ρ' => ∀ Hf' H', R X.K ρ' Hf' σ H' → Step ρ Hf σ H ρ' Hf' σ H' → Q x H'
def asInt (f : M PV) : M (Option Int) := f >>= fun x => match x with
  | .int i => pure (some i)
  | _ => bad
theorem wp_none : WP X none (pure none) := ⟨⟨fun pins s σ H Q I ⟨ρ, Hf, r, w⟩ => po_none.run pins s σ H Q I (wp_pure.mp w Hf H r .rfl')⟩⟩
theorem wp_part {e : Expr} {f : M PV} (h : WO X e f) : WP X (some e) (asInt f) := ⟨⟨fun pins s σ H Q I ⟨ρ, Hf, r, w⟩ => (po_some h.pe).run pins s σ H Q I (by
  unfold asInt at w
  rw [wp_bind] at w
  refine ⟨ρ, Hf, r, wp_mono w fun x ρ1 w v1 Hf1 H1 r1 s1 p1 => ?_⟩
  cases x with
  | int i => exact ⟨i, opd_int p1, wp_pure.mp w Hf1 H1 r1 s1⟩
  | _ => exact w.elim)⟩⟩
def slM (f : M PV) (lo hi : M (Option Int)) (g : PV → Option Int → Option Int → Option OV) : M OV := f >>= fun x => lo >>= fun l => hi >>= fun u => lift (g x l u)
def slMv (i : Nat) (lo hi : M (Option Int)) (g : PV → Option Int → Option Int → Option OV) : M OV := look i >>= fun _ => lo >>= fun l => hi >>= fun u => look i >>= fun x => lift (g x l u)
theorem we_sl {g : PV → Option Int → Option Int → Option OV} {lo hi : Option Expr} {fl fh : M (Option Int)} {p2 : Pos} (h : SlP X g) (ha : WF X a fa) (hl : WP X lo fl) (hh : WP X hi fh) : WE X (.Subscript a (.Slice lo hi none p2) pos) (slM fa fl fh g) := ⟨peWeak (pe_slice h ha.pe hl.po hh.po) fun σ H Q ⟨ρ, Hf, r, w⟩ => by
  unfold slM at w
  rw [wp_bind] at w
  refine ⟨ρ, Hf, r, wp_mono w fun x ρ1 w v1 Hf1 H1 r1 s1 p1 => ?_⟩
  rw [wp_bind] at w
  refine ⟨ρ1, Hf1, r1, wp_mono w fun l ρ2 w Hf2 H2 r2 s2 => ?_⟩
  rw [wp_bind] at w
  refine ⟨ρ2, Hf2, r2, wp_mono w fun u ρ3 w Hf3 H3 r3 s3 => ?_⟩
  rw [wp_lift] at w
  obtain ⟨z, e, k⟩ := w
  refine ⟨Hf3, x, z, r3.sub, Rep.opd r3.sub (p1.sub (s2.sub.trans s3.sub)), e, fun v' H' res => ?_⟩
  obtain ⟨Hf4, r4, s4, ro, nw⟩ := res.use r3
  have s13 := (s1.trans s2).trans s3
  exact k v' Hf4 H' r4 (s13.trans s4) ro (newTo s13.there nw)⟩
theorem we_slv {g : PV → Option Int → Option Int → Option OV} {lo hi : Option Expr} {fl fh : M (Option Int)} {p2 : Pos} {i : Nat} (h : SlP X g) (ha : PE X a (tVar i)) (hl : WP X lo fl) (hh : WP X hi fh) : WE X (.Subscript a (.Slice lo hi none p2) pos) (slMv i fl fh g) := ⟨peWeak (pe_slice h ha hl.po hh.po) fun σ H Q ⟨ρ, Hf, r, w⟩ => by
  unfold slMv at w
  rw [wp_bind] at w
  obtain ⟨o, v, e, w⟩ := look_inv w
  obtain ⟨v', s, _⟩ := r.opd e
  refine ⟨v', s, ρ, Hf, r, ?_⟩
  rw [wp_bind] at w
  refine wp_mono w fun l ρ2 w Hf2 H2 r2 s2 => ?_
  rw [wp_bind] at w
  refine ⟨ρ2, Hf2, r2, wp_mono w fun u ρ3 w Hf3 H3 r3 s3 => ?_⟩
  rw [wp_bind] at w
  obtain ⟨o2, v2', e2, w⟩ := look_inv w
  obtain ⟨v3, s3', p3⟩ := r3.opd e2
  rw [s] at s3'; cases s3'
  rw [wp_lift] at w
  obtain ⟨z, e, k⟩ := w
  refine ⟨Hf3, v2', z, r3.sub, p3, e, fun v' H' res => ?_⟩
  obtain ⟨Hf4, r4, s4, ro, nw⟩ := res.use r3
  exact k v' Hf4 H' r4 ((s2.trans s3).trans s4) ro (newTo (s2.trans s3).there nw)⟩
end
end MC
set_option Elab.async false
set_option linter.all false
set_option maxRecDepth 100000
set_option maxHeartbeats 4000000
namespace MC
open PySem PySem.Spec L2
open PyProof.Rows (b2i)

/-! ### methods of a text -/
def strM (fo : M PV) (fs : M (List PV)) (g : Str → List PV → Option OV) : M OV := fo >>= fun x => match x with
  | .str a => fs >>= fun xs => lift (g a xs)
  | _ => bad
def MtP (X : Cx) (id : String) (g : Str → List PV → Option OV) : Prop :=
  MtR X id fun x' vs H Q => ∃ Hf a xs r, x' = .str a ∧ Bel Hf H ∧ Reps X.K Hf vs xs ∧ g a xs = some r ∧ ∀ v' H', Res1 X.K Hf H v' H' r → Q v' H'
section
variable {X : Cx} {o e : Expr} {es : List Expr} {fo : M PV} {fs : M (List PV)} {g : Str → List PV → Option OV} {id : String} {name : Str} {apos pos : Pos}
theorem readMt {t : TA} {K : PySem.W.Frag} (h : ∀ {σ : Sl} {H : Hp} {Q : List V → Hp → Prop}, tL K fs σ H Q → t σ H Q) {σ : Sl} {H : Hp} {Q : VK} (hq : tE K (strM fo fs g) σ H Q) :
    tO K fo σ H fun x H1 => tyV K "str" x H1 ∧ t σ H1 fun vs H2 => ∃ Hf a xs r, x = .str a ∧ Bel Hf H2 ∧ Reps K Hf vs xs ∧ g a xs = some r ∧ ∀ v' H', Res1 K Hf H2 v' H' r → Q v' H' := by
  obtain ⟨ρ, Hf, r, w⟩ := hq
  unfold strM at w
  rw [wp_bind] at w
  refine ⟨ρ, Hf, r, wp_mono w fun x ρ1 w v1 Hf1 H1 r1 s1 p1 => ?_⟩
  cases x with
  | str a =>
    have e1 := opd_str p1
    subst e1
    refine ⟨rfl, h ?_⟩
    rw [wp_bind] at w
    refine ⟨ρ1, Hf1, r1, wp_mono w fun xs ρ2 w vs Hf2 H2 r2 s2 p2 => ?_⟩
    rw [wp_lift] at w
    obtain ⟨z, e, k⟩ := w
    refine ⟨Hf2, a, xs, z, rfl, r2.sub, p2, e, fun v' H' res => ?_⟩
    obtain ⟨Hf3, r3, s3, ro, nw⟩ := res.use r2
    have s12 := s1.trans s2
    exact k v' Hf3 H' r3 (s12.trans s3) ro (newTo s12.there nw)
  | _ => exact w.elim
theorem we_str0 (slot : PySem.Slot "str" name id) (hty : typeOf (.builtin id) = pure (.type "method_descriptor")) (hm : MtP X id g) (ho : WO X o fo)
    (hbase : attributeBase o name X.env (eval o X.env) = eval o X.env := by rfl) (hline : (apos.endLine == pos.line) = true := by rfl) : WE X (.Call (.Attribute o name apos) [] [] pos) (strM fo (pure []) g) :=
  ⟨peWeak (pe_bm0 PySem.F.plainAttrs_str slot hty hm ho.pe hbase hline) fun _ _ _ h => readMt (t := fun σ H Q => Q [] H) (fun ⟨ρ, Hf, r, w⟩ => wp_pure.mp w [] Hf _ r .rfl' .nil) h⟩
theorem we_str (slot : PySem.Slot "str" name id) (hty : typeOf (.builtin id) = pure (.type "method_descriptor")) (hm : MtP X id g) (ho : WO X o fo) (ha : WL X (e :: es) fs)
    (hbase : attributeBase o name X.env (eval o X.env) = eval o X.env := by rfl)
    (hfew : ((backTo pos (starEach (e :: es) X.env)).all (fun x => !x.1) && (backToKw pos (keywordEach [] X.env)).all (fun x => x.1.isSome)
      && decide ((e :: es).length + ([] : List Keyword).length + (if ([] : List Keyword).isEmpty then 0 else 1) < 30)) = true := by rfl)
    (hline : (apos.endLine == pos.line) = true := by rfl) (hs : starEach (e :: es) X.env = (false, eval e X.env) :: starEach es X.env := by rfl) (hplain : (backTo pos (starEach es X.env)).any (·.1) = false := by rfl) :
    WE X (.Call (.Attribute o name apos) (e :: es) [] pos) (strM fo fs g) :=
  ⟨peWeak (pe_bm PySem.F.plainAttrs_str slot hty hm ho.pe ha.pa hbase hfew hline hs hplain) fun _ _ _ h => readMt (fun h => h) h⟩

theorem reps1 {K : PySem.W.Frag} {H : Hp} {vs : List V} {x : PV} (h : Reps K H vs [x]) : ∃ v, vs = [v] ∧ Rep K H v x := by
  obtain ⟨v, r, rfl, h1, h2⟩ := h.cons_inv
  rw [h2.nil_inv]; exact ⟨v, rfl, h1⟩
theorem reps1s {K : PySem.W.Frag} {H : Hp} {vs : List V} {x : Str} (h : Reps K H vs [.str x]) : vs = [.str x] := reps_strs (ns := [x]) h
def upperP (a : Str) : List PV → Option OV
  | [] => when (decide (a.length ≤ 5592405)) (fl (.str (Txt.upper a)))
  | _ => none
theorem p_upper : MtP X "str.upper" upperP := fun pins s σ H x' vs v us Q I rx rs ⟨Hf, a, xs, r, ex, sb, rp, e, q⟩ => by
  unfold upperP at e
  split at e
  · obtain ⟨c, e⟩ := when_some e
    cases e
    exact mt_upper pins s σ H x' vs v us Q I rx rs ⟨a, ex, rp.nil_inv, of_decide_eq_true c, q _ _ (.same rep_str)⟩
  · cases e
def lowerP (a : Str) : List PV → Option OV
  | [] => when (decide (a.length ≤ 5592405)) (fl (.str (Txt.lower a)))
  | _ => none
theorem p_lower : MtP X "str.lower" lowerP := fun pins s σ H x' vs v us Q I rx rs ⟨Hf, a, xs, r, ex, sb, rp, e, q⟩ => by
  unfold lowerP at e
  split at e
  · obtain ⟨c, e⟩ := when_some e
    cases e
    exact mt_lower pins s σ H x' vs v us Q I rx rs ⟨a, ex, rp.nil_inv, of_decide_eq_true c, q _ _ (.same rep_str)⟩
  · cases e
def joinFits (a : Str) (ys : List Str) : Bool := decide ((ys.map (·.length)).sum + ys.length * a.length ≤ 16777216)
def joinP (a : Str) : List PV → Option OV
  | [.lst xs] => (strsOf xs).bind fun ys => when (joinFits a ys) (fl (.str (Txt.join a ys)))
  | [.tup xs] => (strsOf xs).bind fun ys => when (joinFits a ys) (fl (.str (Txt.join a ys)))
  | _ => none
theorem p_join : MtP X "str.join" joinP := fun pins s σ H x' vs v us Q I rx rs ⟨Hf, a, xs, r, ex, sb, rp, e, q⟩ => by
  unfold joinP at e
  split at e
  · obtain ⟨ys, e1, e⟩ := Option.bind_eq_some_iff.mp e
    obtain ⟨c, e⟩ := when_some e
    cases e
    obtain ⟨w, rfl, hw⟩ := reps1 rp
    rw [strsOf_some e1] at hw
    obtain ⟨p, ws, rfl, hp, rw'⟩ := opd_lst (Rep.opd sb hw)
    rw [reps_strs rw'] at hp
    exact mt_join pins s σ H x' _ v us Q I rx rs ⟨a, p, ys, ex, rfl, .inl (SqL.of hp), of_decide_eq_true c, q _ _ (.same rep_str)⟩
  · obtain ⟨ys, e1, e⟩ := Option.bind_eq_some_iff.mp e
    obtain ⟨c, e⟩ := when_some e
    cases e
    obtain ⟨w, rfl, hw⟩ := reps1 rp
    rw [strsOf_some e1] at hw
    obtain ⟨p, ws, rfl, hp, _, rw'⟩ := opd_tup sb (Rep.opd sb hw)
    rw [reps_strs rw'] at hp
    exact mt_join pins s σ H x' _ v us Q I rx rs ⟨a, p, ys, ex, rfl, .inr (SqT.of hp), of_decide_eq_true c, q _ _ (.same rep_str)⟩
  · cases e
/-- the first place of a sign -/
theorem occ_first (s sub : Str) (hi : Nat) : ∀ (l : List Nat) (free : Nat), (∀ i ∈ l, free ≤ i) →
    (forIn l ((#[] : Array Nat), free) (StrLaws.occBody s sub hi 1)).run.fst = (match l.find? fun i => decide (i + sub.length ≤ hi) && Builtin.Str.subAt s sub i with
      | some i => #[i]
      | none => #[])
  | [], free, _ => by simp
  | a :: l, free, hf => by
    rw [List.forIn_cons, List.find?_cons]
    unfold StrLaws.occBody
    have ha : free ≤ a := hf a (List.mem_cons_self ..)
    by_cases hc : a + sub.length ≤ hi ∧ Builtin.Str.subAt s sub a = true
    · rw [if_pos ⟨⟨⟨by simp, ha⟩, hc.1⟩, hc.2⟩]
      have e : (decide (a + sub.length ≤ hi) && Builtin.Str.subAt s sub a) = true := by simp [hc.1, hc.2]
      rw [e]
      have full : ∀ (l : List Nat) (st : Array Nat × Nat), st.fst.size = 1 → (forIn l st (StrLaws.occBody s sub hi 1)).run.fst = st.fst := by
        intro l
        induction l with
        | nil => intro st _; rfl
        | cons b l ih =>
          intro st hst
          rw [List.forIn_cons]
          unfold StrLaws.occBody
          rw [if_neg (by omega)]
          exact ih _ hst
      exact full l _ (by simp)
    · have c2 : ¬ (((((#[] : Array Nat), free).fst.size < 1 ∧ ((#[] : Array Nat), free).snd ≤ a) ∧ a + sub.length ≤ hi) ∧ Builtin.Str.subAt s sub a = true) := fun h => hc ⟨h.1.2, h.2⟩
      rw [if_neg c2]
      have e : (decide (a + sub.length ≤ hi) && Builtin.Str.subAt s sub a) = false := by
        rw [Bool.and_eq_false_iff]
        by_cases h1 : a + sub.length ≤ hi
        · exact .inr (by
            cases h2 : Builtin.Str.subAt s sub a with
            | false => rfl
            | true => exact absurd ⟨h1, h2⟩ hc)
        · exact .inl (decide_eq_false h1)
      rw [e]
      exact occ_first s sub hi l free fun i hi' => hf i (List.mem_cons_of_mem _ hi')
theorem find_range (p : Nat → Bool) : ∀ (n a : Nat) (k : Nat), p k = true → a ≤ k → k < a + n → (∀ j, a ≤ j → j < k → p j = false) → (List.range' a n).find? p = some k
  | 0, a, k, _, h1, h2, _ => by omega
  | n + 1, a, k, hp, h1, h2, hn => by
    rw [List.range'_succ, List.find?_cons]
    by_cases e : a = k
    · subst e; rw [hp]
    · rw [hn a (Nat.le_refl _) (by omega)]
      exact find_range p n (a + 1) k hp (by omega) (by omega) fun j hj hk => hn j (by omega) hk
theorem occ_sign (z : Str) (c k : Nat) (h : z.cps.toList.findIdx? (fun x => decide (x = c)) = some k) : Builtin.Str.occurrences z ⟨#[c]⟩ 0 z.length 1 = [k] := by
  rw [StrLaws.occ_eq, occ_first _ _ _ _ _ (fun _ _ => Nat.zero_le _)]
  rw [List.findIdx?_eq_some_iff_getElem] at h
  obtain ⟨hk, h1, h2⟩ := h
  have h1 := of_decide_eq_true h1
  have hz : z.cps.toList.length = z.length := by simp [Str.length]
  rw [find_range _ _ _ k]
  · have := (StrLaws.subAt_one z c k).mpr (by rw [← h1]; simp [hk])
    rw [this.2]; simp [this.1]
  · exact Nat.zero_le _
  · rw [hz] at hk; omega
  · intro j _ hj
    have h2 := h2 j hj
    have h2 : z.cps.toList[j] ≠ c := fun e => by
      rw [decide_eq_true e] at h2
      exact absurd rfl h2
    cases q : (decide (j + (⟨#[c]⟩ : Str).length ≤ z.length) && Builtin.Str.subAt z ⟨#[c]⟩ j) with
    | false => rfl
    | true =>
      obtain ⟨a, b⟩ := Bool.and_eq_true_iff.mp q
      have := (StrLaws.subAt_one z c j).mp ⟨of_decide_eq_true a, b⟩
      have hj2 : j < z.cps.toList.length := by omega
      rw [List.getElem?_eq_getElem hj2] at this
      exact absurd (Option.some.inj this) h2
def indexP (z : Str) : List PV → Option OV
  | [.str ⟨⟨[c]⟩⟩] => (z.cps.toList.findIdx? fun x => decide (x = c)).map fun k => (false, .int (k : Nat))
  | _ => none
theorem p_index : MtP X "str.index" indexP := fun pins s σ H x' vs v us Q I rx rs ⟨Hf, a, xs, r, ex, sb, rp, e, q⟩ => by
  unfold indexP at e
  split at e
  · obtain ⟨k, e1, rfl⟩ := Option.map_eq_some_iff.mp e
    rename_i c
    have e2 := reps1s rp
    subst e2
    subst ex
    obtain ⟨t, rfl⟩ := rx
    obtain ⟨u, rfl, ru⟩ := vals1 rs
    obtain ⟨t', rfl⟩ := ru
    exact PySem.SC.index (occ_sign a c k e1) ⟨.int (k : Nat), H, I.tok _, ⟨_, rfl⟩, q _ _ (.same rep_int)⟩
  · cases e
end

/-! ### an own object changed -/
/-- the slot's own object, checked ahead -/
def owns (i : Nat) : M Unit := fun ρ => match ρ[i]? with
  | some (some (true, .lst _)) => some ((), ρ)
  | _ => none
def change {α : Type} (i : Nat) (g : PV → Option (α × PV)) : M α := fun ρ => match ρ[i]? with
  | some (some (true, x)) => (g x).map fun r => (r.1, ρ.set i (some (true, r.2)))
  | _ => none
theorem change_inv {α : Type} {i : Nat} {g : PV → Option (α × PV)} {ρ : Env} {P : α → Env → Prop} (h : wp (change i g) ρ P) : ∃ x a y, ρ[i]? = some (some (true, x)) ∧ g x = some (a, y) ∧ P a (ρ.set i (some (true, y))) := by
  unfold wp change at h
  cases e : ρ[i]? with
  | none => rw [e] at h; exact h.elim
  | some z =>
    cases z with
    | none => rw [e] at h; exact h.elim
    | some z =>
      obtain ⟨o, x⟩ := z
      cases o with
      | false => rw [e] at h; exact h.elim
      | true =>
        rw [e] at h
        cases e2 : g x with
        | none => simp only [e2] at h; exact h.elim
        | some r =>
          simp only [e2] at h
          exact ⟨x, r.1, r.2, rfl, e2, h⟩
theorem owns_inv {i : Nat} {ρ : Env} {P : Unit → Env → Prop} (h : wp (owns i) ρ P) : ∃ xs, ρ[i]? = some (some (true, .lst xs)) ∧ P () ρ := by
  unfold wp owns at h
  cases e : ρ[i]? with
  | none => rw [e] at h; exact h.elim
  | some z =>
    cases z with
    | none => rw [e] at h; exact h.elim
    | some z =>
      obtain ⟨o, x⟩ := z
      cases o with
      | false => rw [e] at h; exact h.elim
      | true =>
        cases x with
        | lst xs => rw [e] at h; exact ⟨xs, rfl, h⟩
        | _ => rw [e] at h; exact h.elim
section
variable {K : PySem.W.Frag} {ρ : Env} {Hf : Hp} {σ : Sl} {H : Hp}
/-- the step of a change -/
theorem Step.write (r : R K ρ Hf σ H) {i : Nat} {p : Addr} {ob : HO} {v w : PV} (e : ρ[i]? = some (some (true, v))) (s : σ[i]? = some (some (.ref p))) : Step ρ Hf σ H (ρ.set i (some (true, w))) Hf σ (upd H p ob) where
  sub := .rfl'
  keep := fun b o h n => by
    have : b ≠ p := fun z => n (z ▸ ⟨i, v, e, s⟩)
    rw [upd_ne this]; exact h
  new := fun b h => .inl h
  own := fun b ⟨j, x, h1, h2⟩ => by
    rcases getSet h1 with ⟨rfl, e2, _⟩ | ⟨ne, e2⟩
    · rw [s] at h2; cases h2
      exact .inl ⟨i, v, e, s⟩
    · exact .inl ⟨j, x, e2, h2⟩
  there := fun b h => by
    by_cases e : b = p
    · subst e; rw [upd_same]; simp
    · rw [upd_ne e]; exact h
theorem R.own (r : R K ρ Hf σ H) {i : Nat} {v : PV} (e : ρ[i]? = some (some (true, v))) : ∃ p ob, σ[i]? = some (some (.ref p)) ∧ Hf p = none ∧ H p = some ob ∧ Cell K Hf ob v := by
  obtain ⟨v', s, _, h⟩ := r.vars i true v e
  obtain ⟨p, ob, rfl, a, b, c⟩ := h rfl
  exact ⟨p, ob, s, a, b, c⟩
end
/-- a method of a list that changes it: the items, the arguments; the answer, the items behind -/
abbrev GMut := List PV → List PV → Option (PV × List PV)
def MutP (X : Cx) (id : String) (g : GMut) : Prop :=
  MtM X id fun x' vs H Q => ∃ Hf l us ys xs res ys', x' = .ref l ∧ Bel Hf H ∧ H l = some (.lst us) ∧ Reps X.K Hf us ys ∧ Reps X.K Hf vs xs ∧ g ys xs = some (res, ys') ∧ ∀ v' us', Rep X.K Hf v' res → Reps X.K Hf us' ys' → Q v' (upd H l (.lst us'))
def onL (g : GMut) (xs : List PV) : PV → Option (PV × PV)
  | .lst ys => (g ys xs).map fun r => (r.1, .lst r.2)
  | _ => none
def mutM (i : Nat) (fs : M (List PV)) (g : GMut) : M OV := owns i >>= fun _ => fs >>= fun xs => change i (onL g xs) >>= fun v => pure (false, v)
section
variable {X : Cx} {o e : Expr} {es : List Expr} {fs : M (List PV)} {g : GMut} {id : String} {name : Str} {apos pos : Pos} {i : Nat}
theorem readMut {t : TA} {K : PySem.W.Frag} (h : ∀ {σ : Sl} {H : Hp} {Q : List V → Hp → Prop}, tL K fs σ H Q → t σ H Q) {σ : Sl} {H : Hp} {Q : VK} (hq : tE K (mutM i fs g) σ H Q) :
    tVar i σ H fun x H1 => tyV K "list" x H1 ∧ t σ H1 fun vs H2 => ∃ Hf l us ys xs res ys', x = .ref l ∧ Bel Hf H2 ∧ H2 l = some (.lst us) ∧ Reps K Hf us ys ∧ Reps K Hf vs xs ∧ g ys xs = some (res, ys') ∧ ∀ v' us', Rep K Hf v' res → Reps K Hf us' ys' → Q v' (upd H2 l (.lst us')) := by
  obtain ⟨ρ, Hf, r, w⟩ := hq
  unfold mutM at w
  rw [wp_bind] at w
  obtain ⟨xs0, e0, w⟩ := owns_inv w
  obtain ⟨p, ob, s, _, hp, c⟩ := r.own e0
  obtain ⟨vs0, eo, _⟩ := c
  subst eo
  refine ⟨.ref p, s, .inl ⟨rfl, vs0, SqL.of hp⟩, h ?_⟩
  rw [wp_bind] at w
  refine ⟨ρ, Hf, r, wp_mono w fun xs ρ2 w vs Hf2 H2 r2 s2 p2 => ?_⟩
  rw [wp_bind] at w
  obtain ⟨x, a, y, e1, e2, w⟩ := change_inv w
  obtain ⟨p', ob', s', _, hp', c'⟩ := r2.own e1
  rw [s] at s'; cases s'
  unfold onL at e2
  split at e2
  · obtain ⟨rr, e3, e4⟩ := Option.map_eq_some_iff.mp e2
    cases e4
    obtain ⟨us, eo, rus⟩ := c'
    subst eo
    refine ⟨Hf2, p, us, _, xs, rr.1, rr.2, rfl, r2.sub, hp', rus, p2, e3, fun v' us' hv hus => ?_⟩
    have c2 : Cell K Hf2 (.lst us') (.lst rr.2) := ⟨us', rfl, hus⟩
    exact wp_pure.mp w v' Hf2 _ (r2.write e1 s c2) (s2.trans (.write r2 e1 s)) hv fun z => nomatch z
  · cases e2
theorem we_mut0 (slot : PySem.Slot "list" name id) (hty : typeOf (.builtin id) = pure (.type "method_descriptor")) (hm : MutP X id g) (ho : PE X o (tVar i))
    (hbase : attributeBase o name X.env (eval o X.env) = eval o X.env := by rfl) (hline : (apos.endLine == pos.line) = true := by rfl) : WE X (.Call (.Attribute o name apos) [] [] pos) (mutM i (pure []) g) :=
  ⟨peWeak (pe_bm0 PySem.F.plainAttrs_list slot hty hm ho hbase hline) fun _ _ _ h => readMut (t := fun σ H Q => Q [] H) (fun ⟨ρ, Hf, r, w⟩ => wp_pure.mp w [] Hf _ r .rfl' .nil) h⟩
theorem we_mut (slot : PySem.Slot "list" name id) (hty : typeOf (.builtin id) = pure (.type "method_descriptor")) (hm : MutP X id g) (ho : PE X o (tVar i)) (ha : WL X (e :: es) fs)
    (hbase : attributeBase o name X.env (eval o X.env) = eval o X.env := by rfl)
    (hfew : ((backTo pos (starEach (e :: es) X.env)).all (fun x => !x.1) && (backToKw pos (keywordEach [] X.env)).all (fun x => x.1.isSome)
      && decide ((e :: es).length + ([] : List Keyword).length + (if ([] : List Keyword).isEmpty then 0 else 1) < 30)) = true := by rfl)
    (hline : (apos.endLine == pos.line) = true := by rfl) (hs : starEach (e :: es) X.env = (false, eval e X.env) :: starEach es X.env := by rfl) (hplain : (backTo pos (starEach es X.env)).any (·.1) = false := by rfl) :
    WE X (.Call (.Attribute o name apos) (e :: es) [] pos) (mutM i fs g) :=
  ⟨peWeak (pe_bm PySem.F.plainAttrs_list slot hty hm ho ha.pa hbase hfew hline hs hplain) fun _ _ _ h => readMut (fun h => h) h⟩
def appendP : GMut := fun ys xs => match xs with
  | [x] => if decide (ys.length < sizeLine) = true then some (.non, ys ++ [x]) else none
  | _ => none
theorem p_append : MutP X "list.append" appendP := fun pins s σ H x' vs v us Q I rx rs ⟨Hf, l, ws, ys, xs, res, ys', ex, sb, hl, rw', rx', e, q⟩ => by
  unfold appendP at e
  split at e
  · split at e
    · rename_i c
      cases e
      obtain ⟨z, rfl, hz⟩ := reps1 rx'
      have c := of_decide_eq_true c
      exact mt_append pins s σ H x' _ v us Q I rx rs ⟨l, ws, z, ex, rfl, hl, by rw [rw'.length]; exact c, q _ _ rep_non (rw'.append (.cons hz .nil))⟩
    · cases e
  · cases e
def extendP : GMut := fun ys xs => match xs with
  | [.lst zs] => if decide (ys.length + zs.length ≤ sizeLine) = true then some (.non, ys ++ zs) else none
  | _ => none
theorem p_extend : MutP X "list.extend" extendP := fun pins s σ H x' vs v us Q I rx rs ⟨Hf, l, ws, ys, xs, res, ys', ex, sb, hl, rw', rx', e, q⟩ => by
  unfold extendP at e
  split at e
  · split at e
    · rename_i c
      cases e
      obtain ⟨z, rfl, hz⟩ := reps1 rx'
      have c := of_decide_eq_true c
      obtain ⟨b, zs', rfl, hb, rz⟩ := opd_lst (Rep.opd sb hz)
      exact mt_extend pins s σ H x' _ v us Q I rx rs ⟨l, b, ws, zs', ex, rfl, hl, hb, by rw [rw'.length, rz.length]; exact c, q _ _ rep_non (rw'.append rz)⟩
    · cases e
  · cases e
def popP : GMut := fun ys xs => match xs with
  | [] => (ys[ys.length - 1]?).map fun y => (y, ys.dropLast)
  | [.int k] => if decide (-(2 ^ 63) ≤ k ∧ k < 2 ^ 63) = true then (ixN ys.length k).bind fun j => (ys[j]?).map fun y => (y, ys.eraseIdx j) else none
  | _ => none
theorem reps_dropLast {K : PySem.W.Frag} {H : Hp} {vs : List V} {xs : List PV} (h : Reps K H vs xs) : Reps K H vs.dropLast xs.dropLast := by
  rw [List.dropLast_eq_take, List.dropLast_eq_take, h.length]
  exact h.take _
theorem p_pop : MutP X "list.pop" popP := fun pins s σ H x' vs v us Q I rx rs ⟨Hf, l, ws, ys, xs, res, ys', ex, sb, hl, rw', rx', e, q⟩ => by
  unfold popP at e
  split at e
  · obtain ⟨y, e1, e2⟩ := Option.map_eq_some_iff.mp e
    cases e2
    rw [← rw'.length] at e1
    obtain ⟨z, e3, hz⟩ := rw'.get e1
    exact mt_pop pins s σ H x' _ v us Q I rx rs ⟨l, ws, z, ex, rx'.nil_inv, hl, e3, q _ _ hz (reps_dropLast rw')⟩
  · split at e
    · rename_i k c
      obtain ⟨j, e1, e⟩ := Option.bind_eq_some_iff.mp e
      obtain ⟨y, e2, e3⟩ := Option.map_eq_some_iff.mp e
      cases e3
      have c := of_decide_eq_true c
      obtain ⟨z, e3, hz⟩ := rw'.get e2
      rw [← rw'.length] at e1
      exact mt_popAt pins s σ H x' _ v us Q I rx rs ⟨l, ws, k, j, z, ex, reps_ints (ns := [k]) rx', hl, c.1, c.2, (ixN_seq e1).1, e3, q _ _ hz (rw'.eraseIdx j)⟩
    · cases e
  · cases e
end
end MC
set_option Elab.async false
set_option linter.all false
set_option maxRecDepth 100000
set_option maxHeartbeats 4000000
namespace MC
open PySem PySem.Spec L2
open PyProof.Rows (b2i)

/-! ### what is walked -/
/-- the iterator yields the items, whatever is made meanwhile -/
def ItOk (K : PySem.W.Frag) (Hf : Hp) (J : It) (xs : List PV) : Prop := ∃ (G : Hp → Prop) (Y : Nat → Hp → V → Hp → Prop), Walk J xs.length G Y ∧ (∀ H2, Bel Hf H2 → G H2) ∧
  ∀ (i : Nat) (x : PV) (H2 H3 : Hp) (v : V) (Hf2 : Hp), xs[i]? = some x → Bel Hf Hf2 → Bel Hf2 H2 → Y i H2 v H3 → Res1 K Hf2 H2 v H3 (false, x)
def tI (K : PySem.W.Frag) (f : M (List PV)) : TI := fun σ H Rr => ∃ ρ Hf, R K ρ Hf σ H ∧ wp f ρ fun xs ρ' => ∀ J Hf' H', ItOk K Hf' J xs → R K ρ' Hf' σ H' → Step ρ Hf σ H ρ' Hf' σ H' → Rr J H'
structure WI (X : Cx) (tg iter : Expr) (f : M (List PV)) : Prop where
  pi : PI X tg iter (tI X.K f)
def itemsOf : PV → Option (List PV)
  | .lst xs => some xs
  | .tup xs => some xs
  | .sq _ xs => some xs
  | .str z => some (z.cps.toList.map sign)
  | _ => none
def itemsM (f : M PV) : M (List PV) := f >>= fun x => lift (itemsOf x)
section
variable {X : Cx} {tg e a b : Expr} {f fa fb : M PV} {K : PySem.W.Frag} {Hf : Hp}
theorem itOk_list {a : Addr} {vs : List V} {xs : List PV} (h : ∀ H2, Bel Hf H2 → SqL K H2 a vs) (r : Reps K Hf vs xs) : ItOk K Hf (Itl K a) xs := by
  refine ⟨_, YAt vs, ?_, h, ?_⟩
  · rw [← r.length]; exact walk_list
  · rintro i x H2 H3 v Hf2 ex s1 s2 ⟨rfl, ev⟩
    obtain ⟨x', e2, hx⟩ := r.get' ev
    rw [ex] at e2; cases e2
    exact .same (hx.sub s1)
theorem itOk_tup {a : Addr} {vs : List V} {xs : List PV} (h : ∀ H2, Bel Hf H2 → SqT K H2 a vs) (r : Reps K Hf vs xs) : ItOk K Hf (Itt K a) xs := by
  refine ⟨_, YAt vs, ?_, h, ?_⟩
  · rw [← r.length]; exact walk_tup
  · rintro i x H2 H3 v Hf2 ex s1 s2 ⟨rfl, ev⟩
    obtain ⟨x', e2, hx⟩ := r.get' ev
    rw [ex] at e2; cases e2
    exact .same (hx.sub s1)
theorem wi_any (h : WF X e f) : WI X tg e (itemsM f) := ⟨⟨fun pins s σ H Rr I ⟨ρ, Hf, r, w⟩ => by
  unfold itemsM at w
  rw [wp_bind] at w
  obtain ⟨x, ρ1, e1, w⟩ := wp_iff.mp w
  rw [wp_lift] at w
  obtain ⟨xs, e2, k⟩ := w
  cases x with
  | lst ys =>
    cases e2
    refine (pi_list h.pe).run pins s σ H Rr I ⟨ρ, Hf, r, wp_some e1 fun v Hf' H' r' s' rep => ?_⟩
    unfold Rep at rep
    obtain ⟨a, vs, rfl, ha, ra⟩ := rep
    exact ⟨a, rfl, ⟨vs, SqL.of (r'.sub.lst ha)⟩, k _ _ _ (itOk_list (fun H2 b => SqL.of (b.lst ha)) ra) r' s'⟩
  | tup ys =>
    cases e2
    refine (pi_tup h.pe).run pins s σ H Rr I ⟨ρ, Hf, r, wp_some e1 fun v Hf' H' r' s' rep => ?_⟩
    unfold Rep at rep
    obtain ⟨a, vs, rfl, ha, ra⟩ := rep
    exact ⟨a, rfl, ⟨vs, SqT.of (r'.sub.tup ha)⟩, k _ _ _ (itOk_tup (fun H2 b => SqT.of (b.tup ha)) ra) r' s'⟩
  | sq l ys =>
    cases e2
    cases l with
    | true =>
      refine (pi_list h.pe).run pins s σ H Rr I ⟨ρ, Hf, r, wp_some e1 fun v Hf' H' r' s' rep => ?_⟩
      unfold Rep at rep
      obtain ⟨a, vs, rfl, ha, ra⟩ := rep
      exact ⟨a, rfl, ⟨vs, r'.sub.sqL ha⟩, k _ _ _ (itOk_list (fun H2 b => b.sqL ha) ra) r' s'⟩
    | false =>
      refine (pi_tup h.pe).run pins s σ H Rr I ⟨ρ, Hf, r, wp_some e1 fun v Hf' H' r' s' rep => ?_⟩
      unfold Rep at rep
      obtain ⟨a, vs, rfl, ha, ra⟩ := rep
      exact ⟨a, rfl, ⟨vs, r'.sub.sqT ha⟩, k _ _ _ (itOk_tup (fun H2 b => b.sqT ha) ra) r' s'⟩
  | str z =>
    cases e2
    refine (pi_str h.pe).run pins s σ H Rr I ⟨ρ, Hf, r, wp_some e1 fun v Hf' H' r' s' rep => ?_⟩
    unfold Rep at rep
    refine ⟨z, rep, k _ _ _ ⟨fun _ => True, (fun i H v H' => H' = H ∧ ∃ c, z.cps[i]? = some c ∧ v = .str ⟨#[c]⟩), ?_, fun _ _ => trivial, ?_⟩ r' s'⟩
    · have : (z.cps.toList.map sign).length = z.cps.size := by simp
      rw [this]; exact walk_str
    · rintro i x H2 H3 v Hf2 ex _ _ ⟨rfl, c, ec, rfl⟩
      have : x = sign c := by
        rw [List.getElem?_map] at ex
        have e3 : z.cps.toList[i]? = some c := by simpa using ec
        rw [e3] at ex
        exact (Option.some.inj ex).symm
      rw [this]
      exact .same rep_str
  | _ => cases e2⟩⟩
/-- range -/
def rangeL (lo hi : Int) : List PV := (List.range (hi - lo).toNat).map fun i => .int (lo + (i : Nat))
def inRange (i : Int) : Bool := decide (-(2 ^ 62) ≤ i ∧ i < 2 ^ 62)
def range1M (fa : M PV) : M (List PV) := fa >>= fun x => match x with
  | .int n => if inRange n = true then pure (rangeL 0 n) else bad
  | _ => bad
def range2M (fa fb : M PV) : M (List PV) := fa >>= fun x => fb >>= fun y => match x, y with
  | .int n, .int m => if (inRange n && inRange m) = true then pure (rangeL n m) else bad
  | _, _ => bad
theorem itOk_range {lo hi : Int} : ItOk K Hf (Itr lo (hi - lo).toNat) (rangeL lo hi) := by
  refine ⟨fun _ => True, YFn fun i => .int (lo + i), ?_, fun _ _ => trivial, ?_⟩
  · have : (rangeL lo hi).length = (hi - lo).toNat := by simp [rangeL]
    rw [this]; exact walk_range
  · rintro i x H2 H3 v Hf2 ex _ _ ⟨rfl, rfl⟩
    have : x = .int (lo + (i : Nat)) := by
      unfold rangeL at ex
      rw [List.getElem?_map] at ex
      obtain ⟨j, e1, e2⟩ := Option.map_eq_some_iff.mp ex
      obtain ⟨_, e1⟩ := List.getElem?_eq_some_iff.mp e1
      rw [List.getElem_range] at e1
      rw [← e2, ← e1]
    rw [this]
    exact .same rep_int
theorem wi_range1 {p pos : Pos} (hg : Gl X "range") (hm : X.mg "range" = none) (ha : WO X a fa) (hs : starEach [a] X.env = [(false, eval a X.env)] := by rfl) : WI X tg (.Call (.Name "range" p) [a] [] pos) (range1M fa) := ⟨⟨fun pins s σ H Rr I ⟨ρ, Hf, r, w⟩ => by
  refine (pi_range1 hg hm (pa_cons ha.pe pa_nil (by rw [hs]; rfl)) hs).run pins s σ H Rr I ?_
  unfold range1M at w
  rw [wp_bind] at w
  refine ⟨ρ, Hf, r, wp_mono w fun x ρ1 w v Hf' H' r' s' o => ?_⟩
  cases x with
  | int n =>
    rw [opd_int o]
    simp only at w
    split at w
    · rename_i c
      have c := of_decide_eq_true c
      refine ⟨n, rfl, c.1, c.2, ?_⟩
      have := itOk_range (K := X.K) (Hf := Hf') (lo := 0) (hi := n)
      rw [Int.sub_zero] at this
      exact wp_pure.mp w _ _ _ this r' s'
    · exact w.elim
  | _ => exact w.elim⟩⟩
theorem wi_range2 {p pos : Pos} (hg : Gl X "range") (hm : X.mg "range" = none) (ha : WF X a fa) (hb : WO X b fb) (hs : starEach [a, b] X.env = [(false, eval a X.env), (false, eval b X.env)] := by rfl) (hs2 : starEach [b] X.env = [(false, eval b X.env)] := by rfl) :
    WI X tg (.Call (.Name "range" p) [a, b] [] pos) (range2M fa fb) := ⟨⟨fun pins s σ H Rr I ⟨ρ, Hf, r, w⟩ => by
  refine (pi_range2 hg hm (pa_cons ha.pe (pa_cons hb.pe pa_nil (by rw [hs2]; rfl)) (by rw [hs, hs2])) hs hs2).run pins s σ H Rr I ?_
  unfold range2M at w
  rw [wp_bind] at w
  refine ⟨ρ, Hf, r, wp_mono w fun x ρ1 w v Hf1 H1 r1 s1 o => ?_⟩
  rw [wp_bind] at w
  refine ⟨ρ1, Hf1, r1, wp_mono w fun y ρ2 w v2 Hf' H' r' s' o2 => ?_⟩
  cases x with
  | int n =>
    cases y with
    | int m =>
     simp only at w
     split at w
     · rename_i c
       obtain ⟨c1, c2⟩ := Bool.and_eq_true_iff.mp c
       have c1 := of_decide_eq_true c1
       have c2 := of_decide_eq_true c2
       have e1 : v = .int n := by unfold Rep at o; exact o
       have e2 := opd_int o2
       subst e1; subst e2
       exact ⟨n, m, rfl, ⟨c1.1, c1.2, c2.1, c2.2⟩, wp_pure.mp w _ _ _ itOk_range r' (s1.trans s')⟩
     · exact w.elim
    | _ => exact w.elim
  | _ => exact w.elim⟩⟩
/-- reversed(xs) -/
def revM (f : M PV) : M (List PV) := f >>= fun x => match x with
  | .lst xs => pure xs.reverse
  | .tup xs => pure xs.reverse
  | _ => bad
theorem rev_get {xs : List PV} {i : Nat} {x : PV} (e : xs.reverse[i]? = some x) : xs[xs.length - 1 - i]? = some x := by
  obtain ⟨h, e⟩ := List.getElem?_eq_some_iff.mp e
  rw [List.length_reverse] at h
  rw [List.getElem_reverse] at e
  rw [← e]
  simp
theorem wi_rev {p pos : Pos} (hg : Gl X "reversed") (hm : X.mg "reversed" = none) (ha : WF X a fa) (hs : starEach [a] X.env = (false, eval a X.env) :: starEach [] X.env := by rfl) : WI X tg (.Call (.Name "reversed" p) [a] [] pos) (revM fa) := ⟨⟨fun pins s σ H Rr I ⟨ρ, Hf, r, w⟩ => by
  refine (RT.pi_revA hg hm ha.pe hs).run pins s σ H Rr I ?_
  unfold revM at w
  rw [wp_bind] at w
  refine ⟨ρ, Hf, r, wp_mono w fun x ρ1 w v Hf' H' r' s' o => ?_⟩
  cases x with
  | lst xs =>
    unfold Rep at o
    obtain ⟨a, vs, rfl, ha, ra⟩ := o
    refine ⟨a, vs, rfl, .inl ⟨SqL.of (r'.sub.lst ha), wp_pure.mp w _ _ _ ⟨fun H => SqL X.K H a vs, (fun i H x H' => H' = H ∧ vs[vs.length - 1 - i]? = some x), ?_, fun H2 b => SqL.of (b.lst ha), ?_⟩ r' s'⟩⟩
    · rw [List.length_reverse, ← ra.length]; exact walk_rev
    · rintro i x H2 H3 v Hf2 ex s1 s2 ⟨rfl, ev⟩
      obtain ⟨x', e2, hx⟩ := ra.get' ev
      rw [ra.length, rev_get ex] at e2
      cases e2
      exact .same (hx.sub s1)
  | tup xs =>
    unfold Rep at o
    obtain ⟨a, vs, rfl, ha, ra⟩ := o
    refine ⟨a, vs, rfl, .inr ⟨SqT.of (r'.sub.tup ha), wp_pure.mp w _ _ _ ⟨fun H => SqT X.K H a vs, (fun i H x H' => H' = H ∧ vs[vs.length - 1 - i]? = some x), ?_, fun H2 b => SqT.of (b.tup ha), ?_⟩ r' s'⟩⟩
    · rw [List.length_reverse, ← ra.length]
      exact ⟨fun i _ hi q => ⟨hi, vs, vs[vs.length - 1 - i]'(by omega), q, by simp [show vs.length - 1 - i < vs.length by omega]⟩, fun _ _ => Nat.le_refl _, fun _ _ _ _ _ q y => ⟨y.1, y.2 vs q⟩⟩
    · rintro i x H2 H3 v Hf2 ex s1 s2 ⟨rfl, ev⟩
      obtain ⟨x', e2, hx⟩ := ra.get' ev
      rw [ra.length, rev_get ex] at e2
      cases e2
      exact .same (hx.sub s1)
  | _ => exact w.elim⟩⟩
end

/-! ### targets -/
/-- a target that binds the slots ts -/
def tG (K : PySem.W.Frag) (ts : List Nat) (h : PV → M Unit) : TG := fun v σ H Q => ∃ ρ Hf x, R K ρ Hf σ H ∧ Rep K Hf v x ∧ wp (h x) ρ fun _ ρ' => ∀ σ', R K ρ' Hf σ' H → Step ρ Hf σ H ρ' Hf σ' H → σ'.length = σ.length → (∀ j, j ∉ ts → σ'[j]? = σ[j]?) → Q σ' H
def tGs (K : PySem.W.Frag) (ts : List Nat) (h : List PV → M Unit) : TGs := fun vs σ H Q => ∃ ρ Hf xs, R K ρ Hf σ H ∧ Reps K Hf vs xs ∧ wp (h xs) ρ fun _ ρ' => ∀ σ', R K ρ' Hf σ' H → Step ρ Hf σ H ρ' Hf σ' H → σ'.length = σ.length → (∀ j, j ∉ ts → σ'[j]? = σ[j]?) → Q σ' H
structure WG (X : Cx) (ts : List Nat) (tg : Expr) (h : PV → M Unit) : Prop where
  pg : PG X tg (tG X.K ts h)
structure WGs (X : Cx) (ts : List Nat) (tg : List Expr) (h : List PV → M Unit) : Prop where
  pg : PGs X tg (tGs X.K ts h)
def put (i : Nat) (o : Bool) (x : PV) : M Unit := fun ρ => some ((), ρ.set i (some (o, x)))
def putsN : M Unit := pure ()
def putTup (h : List PV → M Unit) : PV → M Unit := fun x => match x with
  | .tup xs => h xs
  | _ => bad
def putNil : List PV → M Unit := fun xs => match xs with
  | [] => pure ()
  | _ => bad
def putCons (h : PV → M Unit) (t : List PV → M Unit) : List PV → M Unit := fun xs => match xs with
  | x :: r => h x >>= fun _ => t r
  | _ => bad
theorem Step.put {ρ : Env} {Hf : Hp} {σ : Sl} {H : Hp} {i : Nat} {v' : V} {x : PV} : Step ρ Hf σ H (ρ.set i (some (false, x))) Hf (σ.set i (some v')) H where
  sub := .rfl'
  keep := fun _ _ h _ => h
  new := fun _ h => .inl h
  own := fun b ⟨j, y, h1, h2⟩ => by
    rcases getSet h1 with ⟨rfl, e2, _⟩ | ⟨ne, e2⟩
    · cases e2
    · rw [List.getElem?_set_ne ne] at h2
      exact .inl ⟨j, y, e2, h2⟩
  there := fun _ h => h
section
variable {X : Cx} {tg e : Expr} {es : List Expr} {ts us : List Nat} {h : PV → M Unit} {t : List PV → M Unit} {pos : Pos}
theorem pgWeak {g g' : TG} (p : PG X tg g) (k : ∀ v σ H Q, σ.length = X.N.length → g' v σ H Q → g v σ H Q) : PG X tg g' := ⟨fun pins s σ H v u Q I r q => p.run pins s σ H v u Q I r (k v σ H Q I.len q)⟩
theorem pgsWeak {g g' : TGs} (p : PGs X es g) (k : ∀ v σ H Q, g' v σ H Q → g v σ H Q) : PGs X es g' := ⟨fun pins s σ H v u Q I r q => p.run pins s σ H v u Q I r (k v σ H Q q)⟩
theorem wg_name (i : Nat) {x : Str} (hN : X.N.Nodup) (hi : X.N[i]? = some x := by rfl) (hx : Loc X.env.scope x := by first | exact Or.inl rfl | exact Or.inr rfl) (hf : X.fn x = true ∨ X.env.scope.names.lookup x = some .local := by first | exact .inl rfl | exact .inr rfl | assumption) : WG X [i] (.Name x pos) (put i false) :=
  ⟨pgWeak (pg_name hN hi hx hf) fun v σ H Q hl ⟨ρ, Hf, x, r, rep, w⟩ => by
    have hlen : i < σ.length := by rw [hl]; exact (List.getElem?_eq_some_iff.mp hi).1
    have w : ∀ σ', R X.K (ρ.set i (some (false, x))) Hf σ' H → Step ρ Hf σ H (ρ.set i (some (false, x))) Hf σ' H → σ'.length = σ.length → (∀ j, j ∉ [i] → σ'[j]? = σ[j]?) → Q σ' H := w
    refine w _ (r.setF hlen rep) .put (by simp) fun j hj => ?_
    rw [List.getElem?_set_ne]
    intro e; subst e; exact hj (by simp)⟩
theorem wgs_nil : WGs X [] [] putNil := ⟨pgsWeak pgs_nil fun vs σ H Q ⟨ρ, Hf, xs, r, rep, w⟩ => by
  cases xs with
  | nil => exact ⟨rep.nil_inv, wp_pure.mp w σ r .rfl' rfl fun _ _ => rfl⟩
  | cons _ _ => exact w.elim⟩
theorem wgs_cons (h1 : WG X ts e h) (h2 : WGs X us es t) (hs : (assignEach (e :: es) X.env).map (·.2) = assign e X.env :: (assignEach es X.env).map (·.2) := by rfl) : WGs X (ts ++ us) (e :: es) (putCons h t) := ⟨pgsWeak (pgs_cons h1.pg h2.pg hs) fun vs σ H Q ⟨ρ, Hf, xs, r, rep, w⟩ => by
  cases xs with
  | nil => exact w.elim
  | cons x xs =>
    obtain ⟨v, vr, rfl, p1, p2⟩ := rep.cons_inv
    refine ⟨v, vr, rfl, ρ, Hf, x, r, p1, ?_⟩
    have w : wp (h x >>= fun _ => t xs) ρ _ := w
    rw [wp_bind] at w
    refine wp_mono w fun _ ρ1 w σ1 r1 s1 l1 k1 => ?_
    refine ⟨ρ1, Hf, xs, r1, p2, wp_mono w fun _ ρ2 w σ2 r2 s2 l2 k2 => ?_⟩
    exact w σ2 r2 (s1.trans s2) (l2.trans l1) fun j hj => (k2 j (fun z => hj (List.mem_append_right _ z))).trans (k1 j fun z => hj (List.mem_append_left _ z))⟩
theorem wg_tup {k n : Nat} (hc : X.calm = true) (hw : WGs X ts es t) (hn : (assignEach es X.env).length = n := by rfl) (hst : (assignEach es X.env).findIdx? (·.1) = none := by rfl)
    (hlen : ∀ xs ρ r, t xs ρ = some r → xs.length = n) : WG X ts (.Tuple es k pos) (putTup t) := ⟨pgWeak (pg_tup hc hw.pg hn hst) fun v σ H Q _ ⟨ρ, Hf, x, r, rep, w⟩ => by
  cases x with
  | tup xs =>
    unfold Rep at rep
    obtain ⟨a, vs, rfl, ha, ra⟩ := rep
    have w : wp (t xs) ρ _ := w
    refine ⟨a, vs, rfl, SqT.of (r.sub.tup ha), ?_, ρ, Hf, xs, r, ra, w⟩
    obtain ⟨u, ρ1, e, _⟩ := wp_iff.mp w
    rw [ra.length]
    exact hlen xs ρ _ e
  | _ => exact w.elim⟩
theorem putNil_len {xs : List PV} {ρ : Env} {r : Unit × Env} (h : putNil xs ρ = some r) : xs.length = 0 := by
  cases xs with
  | nil => rfl
  | cons _ _ => cases h
theorem putCons_len {n : Nat} (ht : ∀ xs ρ r, t xs ρ = some r → xs.length = n) {xs : List PV} {ρ : Env} {r : Unit × Env} (q : putCons h t xs ρ = some r) : xs.length = n + 1 := by
  cases xs with
  | nil => cases q
  | cons x xs =>
    have q : (h x >>= fun _ => t xs) ρ = some r := q
    rw [bind_eq] at q
    cases e : h x ρ with
    | none => rw [e] at q; cases q
    | some z => rw [e] at q; rw [List.length_cons, ht _ _ _ q]
end
end MC
set_option Elab.async false
set_option linter.all false
set_option maxRecDepth 100000
set_option maxHeartbeats 4000000
namespace MC
open PySem PySem.Spec L2
open PyProof.Rows (b2i)

/-! ### comprehensions -/
def clear : List Nat → Env → Env
  | [], ρ => ρ
  | v :: vs, ρ => (clear vs ρ).set v none
def plainAt (ρ : Env) (i : Nat) : Option (Bool × PV) := match ρ[i]? with
  | some (some (false, x)) => some (false, x)
  | _ => none
def restore (ρ0 : Env) : List Nat → Env → Env
  | [], ρ => ρ
  | v :: vs, ρ => (restore ρ0 vs ρ).set v (plainAt ρ0 v)
def clr (vs : List Nat) : M Unit := fun ρ => some ((), clear vs ρ)
def lcLoop (vs : List Nat) (h : PV → M Unit) (ft : M Bool) (fe : M PV) : List PV → M (List PV)
  | [] => pure []
  | x :: xs => h x >>= fun _ => ft >>= fun b => if b = true then fe >>= fun y => clr vs >>= fun _ => lcLoop vs h ft fe xs >>= fun ys => pure (y :: ys) else clr vs >>= fun _ => lcLoop vs h ft fe xs
def within {α : Type} (vs : List Nat) (f : M α) : M α := fun ρ => match f (clear vs ρ) with
  | some (a, ρ2) => some (a, restore ρ vs ρ2)
  | none => none
def lcM (fi : M (List PV)) (vs : List Nat) (h : PV → M Unit) (ft : M Bool) (fe : M PV) : M OV := fi >>= fun xs => within vs (lcLoop vs h ft fe xs) >>= fun ys => lift (when (fits ys.length) (some (true, .lst ys)))
section
variable {ρ ρ' ρ0 : Env} {σ σ' : Sl}
theorem clear_some : ∀ {vs : List Nat} {i : Nat} {x : Bool × PV}, (clear vs ρ)[i]? = some (some x) → ρ[i]? = some (some x) ∧ i ∉ vs
  | [], _, _, h => ⟨h, by simp⟩
  | v :: vs, i, x, h => by
    unfold clear at h
    rcases getSet h with ⟨_, e, _⟩ | ⟨ne, e⟩
    · cases e
    · obtain ⟨h1, h2⟩ := clear_some e
      exact ⟨h1, by simp only [List.mem_cons, not_or]; exact ⟨fun z => ne z.symm, h2⟩⟩
theorem restore_some : ∀ {vs : List Nat} {i : Nat} {x : Bool × PV}, (restore ρ0 vs ρ)[i]? = some (some x) → (i ∈ vs ∧ x.1 = false ∧ ρ0[i]? = some (some x)) ∨ (i ∉ vs ∧ ρ[i]? = some (some x))
  | [], _, _, h => .inr ⟨by simp, h⟩
  | v :: vs, i, x, h => by
    unfold restore at h
    rcases getSet h with ⟨e1, e2, _⟩ | ⟨ne, e⟩
    · subst e1
      unfold plainAt at e2
      split at e2
      · rename_i y hy
        have e2 := Option.some.inj e2
        subst e2
        exact .inl ⟨by simp, rfl, hy⟩
      · cases e2
    · rcases restore_some e with ⟨a, b⟩ | ⟨a, b⟩
      · exact .inl ⟨List.mem_cons_of_mem _ a, b⟩
      · exact .inr ⟨by simp only [List.mem_cons, not_or]; exact ⟨fun z => ne z.symm, a⟩, b⟩
theorem wipe_get : ∀ {vs : List Nat} (i : Nat), (wipe σ vs)[i]? = if i ∈ vs ∧ i < σ.length then some none else σ[i]?
  | [], i => by simp [wipe]
  | v :: vs, i => by
    unfold wipe
    by_cases e : v = i
    · subst e
      by_cases hl : v < σ.length
      · rw [List.getElem?_set_self (by rw [wipe_length]; exact hl), if_pos ⟨by simp, hl⟩]
      · rw [List.getElem?_eq_none (by rw [List.length_set, wipe_length]; omega), if_neg (fun h => hl h.2), List.getElem?_eq_none (by omega)]
    · rw [List.getElem?_set_ne e, wipe_get i]
      have : (i ∈ v :: vs) ↔ i ∈ vs := by
        rw [List.mem_cons]
        exact ⟨fun h => h.elim (fun z => absurd z.symm e) id, .inr⟩
      simp only [this]
theorem wipe_same {vs : List Nat} (hl : σ'.length = σ.length) (h : ∀ j, j ∉ vs → σ'[j]? = (wipe σ vs)[j]?) : wipe σ' vs = wipe σ vs := by
  apply List.ext_getElem?
  intro j
  rw [wipe_get, wipe_get, hl]
  by_cases hj : j ∈ vs
  · by_cases h2 : j < σ.length
    · rw [if_pos ⟨hj, h2⟩, if_pos ⟨hj, h2⟩]
    · rw [if_neg (fun z => h2 z.2), if_neg (fun z => h2 z.2), List.getElem?_eq_none (by omega), List.getElem?_eq_none (by omega)]
  · rw [if_neg (fun z => hj z.1), if_neg (fun z => hj z.1), h j hj, wipe_get, if_neg (fun z => hj z.1)]
end
section
variable {K : PySem.W.Frag} {ρ ρ0 ρ1 ρ2 : Env} {Hf Hf0 Hf1 Hf2 : Hp} {σ σ0 σ1 σ2 : Sl} {H H0 H1 H2 : Hp} {vs : List Nat}
/-- an object at the side changes -/
theorem R.side (r : R K ρ Hf σ H) {D : Addr} {o : HO} (n : Hf D = none) (no : ¬ Own ρ σ D) : R K ρ Hf σ (upd H D o) where
  sub := fun a u e => by
    have : a ≠ D := fun z => by rw [z, n] at e; cases e
    rw [upd_ne this]; exact r.sub a u e
  vars := fun i b v e => by
    obtain ⟨v', s, h1, h2⟩ := r.vars i b v e
    refine ⟨v', s, h1, fun z => ?_⟩
    obtain ⟨p, ob, rfl, a1, a2, a3⟩ := h2 z
    subst z
    have : p ≠ D := fun z => no (z ▸ ⟨i, v, e, s⟩)
    exact ⟨p, ob, rfl, a1, by rw [upd_ne this]; exact a2, a3⟩
  dist := r.dist
theorem Step.side (s : Step ρ0 Hf0 σ0 H0 ρ Hf σ H) {D : Addr} {o : HO} (n : H0 D = none) : Step ρ0 Hf0 σ0 H0 ρ Hf σ (upd H D o) where
  sub := s.sub
  keep := fun b u e no => by
    rw [upd_ne (ne_of_none e n)]; exact s.keep b u e no
  new := s.new
  own := s.own
  there := fun b hb => by
    have : b ≠ D := fun z => hb (z ▸ n)
    rw [upd_ne this]; exact s.there b hb
theorem Own.clear {b : Addr} (h : ∀ j, j ∉ vs → σ1[j]? = σ[j]?) (o : Own (clear vs ρ) σ1 b) : Own ρ σ b := by
  obtain ⟨i, v, e, s⟩ := o
  obtain ⟨e1, e2⟩ := clear_some e
  exact ⟨i, v, e1, by rw [← h i e2]; exact s⟩
theorem R.clear (r : R K ρ Hf σ H) (h : ∀ j, j ∉ vs → σ1[j]? = σ[j]?) : R K (clear vs ρ) Hf σ1 H := r.less fun i x e => by
  obtain ⟨e1, e2⟩ := clear_some e
  exact ⟨e1, h i e2⟩
theorem Step.clear (h : ∀ j, j ∉ vs → σ1[j]? = σ[j]?) : Step ρ Hf σ H (clear vs ρ) Hf σ1 H := ⟨.rfl', fun _ _ e _ => e, fun _ e => .inl e, fun _ o => .inl (Own.clear h o), fun _ e => e⟩
theorem wipe_off : ∀ j, j ∉ vs → (wipe σ vs)[j]? = σ[j]? := fun j hj => by rw [wipe_get, if_neg (fun z => hj z.1)]
theorem R.restore (r0 : R K ρ0 Hf0 σ H0) (r : R K ρ Hf (wipe σ vs) H) (s : Bel Hf0 Hf) : R K (restore ρ0 vs ρ) Hf σ H where
  sub := r.sub
  vars := fun i o v e => by
    rcases restore_some e with ⟨_, eo, e1⟩ | ⟨hj, e1⟩
    · cases eo
      obtain ⟨v', s', h1, _⟩ := r0.vars i false v e1
      exact ⟨v', s', fun _ => (h1 rfl).sub s, fun z => nomatch z⟩
    · obtain ⟨v', s', h⟩ := r.vars i o v e1
      exact ⟨v', by rw [← wipe_off (σ := σ) i hj]; exact s', h⟩
  dist := fun i j v w b h1 h2 h3 h4 => by
    rcases restore_some h1 with ⟨_, eo, _⟩ | ⟨hi, e1⟩
    · cases eo
    · rcases restore_some h2 with ⟨_, eo, _⟩ | ⟨hj, e2⟩
      · cases eo
      · exact r.dist i j v w b e1 e2 (by rw [wipe_off i hi]; exact h3) (by rw [wipe_off j hj]; exact h4)
theorem Own.restore {b : Addr} (o : Own (restore ρ0 vs ρ) σ b) : Own ρ (wipe σ vs) b := by
  obtain ⟨i, v, e, s⟩ := o
  rcases restore_some e with ⟨_, eo, _⟩ | ⟨hi, e1⟩
  · cases eo
  · exact ⟨i, v, e1, by rw [wipe_off i hi]; exact s⟩
theorem Step.restore (s : Step (MC.clear vs ρ0) Hf0 (wipe σ vs) H0 ρ Hf (wipe σ vs) H) : Step ρ0 Hf0 σ H0 (restore ρ0 vs ρ) Hf σ H where
  sub := s.sub
  keep := fun b o e n => s.keep b o e fun w => n (Own.clear (fun j hj => wipe_off j hj) w)
  new := fun b e => (s.new b e).imp id (Or.imp (fun w => Own.clear (fun j hj => wipe_off j hj) w) id)
  own := fun b o => (s.own b o.restore).imp (fun w => Own.clear (fun j hj => wipe_off j hj) w) id
  there := s.there
end
/-- the tests of a clause -/
structure WTs (X : Cx) (ifs : List Expr) (f : M Bool) : Prop where
  pt : PTs X ifs (tT X.K f)
section
variable {X : Cx} {e : Expr} {f : M Bool}
theorem wts_nil : WTs X [] (pure true) := ⟨⟨fun pins s σ H Q I ⟨ρ, Hf, r, w⟩ => pts_nil.run pins s σ H Q I (wp_pure.mp w Hf H r .rfl')⟩⟩
theorem wts_one (h : WT X e f) : WTs X [e] f := ⟨pts_one h.pt⟩
end
section
variable {K : PySem.W.Frag} {fi fi1 : M (List PV)} {vs ts vs1 ts1 : List Nat} {h h1 : PV → M Unit} {ft ft1 : M Bool} {fe : M PV} {σ : Sl} {H : Hp} {Q : VK}
/-- between two turns: the new list at D holds acc, the rest gives ys -/
structure LcInv (K : PySem.W.Frag) (ρ1 : Env) (Hf1 : Hp) (H1 : Hp) (σw : Sl) (D : Addr) (acc : List PV) (ρ : Env) (Hf : Hp) (H : Hp) : Prop where
  r : R K ρ Hf σw H
  s : Step ρ1 Hf1 σw H1 ρ Hf σw H
  at_ : ∃ us, H D = some (.lst us) ∧ Reps K Hf us acc
  no : Hf D = none
  un : ¬ Own ρ σw D
/-- what is true of D stays so through a step -/
theorem lc_keep {ρ ρ' : Env} {Hf Hf' : Hp} {σ σ' : Sl} {H H' : Hp} {D : Addr} {us : List V} (s : Step ρ Hf σ H ρ' Hf' σ' H') (a : H D = some (.lst us)) (n : Hf D = none) (u : ¬ Own ρ σ D) : H' D = some (.lst us) ∧ Hf' D = none ∧ ¬ Own ρ' σ' D := by
  refine ⟨s.keep D _ a u, Classical.byContradiction fun z => ?_, fun z => ?_⟩
  · rcases s.new D z with w | w | w
    · exact w n
    · exact u w
    · rw [a] at w; cases w
  · rcases s.own D z with w | w
    · exact u w
    · rw [a] at w; cases w
theorem readLc (hts : ∀ j ∈ ts, j ∈ vs) (hq : tE K (lcM fi vs h ft fe) σ H Q) : tLc (tI K fi) (tG K ts h) (tT K ft) (tF K fe) vs σ H Q := by
  obtain ⟨ρ0, Hf0, r0, w⟩ := hq
  unfold lcM at w
  rw [wp_bind] at w
  refine ⟨ρ0, Hf0, r0, wp_mono w fun xs ρ1 w J Hf1 H1 it r1 s1 D hD => ?_⟩
  rw [wp_bind] at w
  obtain ⟨ys, ρr, ew, w⟩ := wp_iff.mp w
  rw [wp_lift] at w
  obtain ⟨z, ez, k⟩ := w
  obtain ⟨c, ez⟩ := when_some ez
  cases ez
  have c := of_decide_eq_true c
  unfold within at ew
  cases el : lcLoop vs h ft fe xs (clear vs ρ1) with
  | none => rw [el] at ew; cases ew
  | some q =>
  obtain ⟨ys', ρ2⟩ := q
  rw [el] at ew
  cases ew
  obtain ⟨G, Y, W, hG, hY⟩ := it
  have hD1 : Hf1 D = none := Classical.byContradiction fun z => (r1.sub.some_ z) hD
  have un1 : ¬ Own (clear vs ρ1) (wipe σ vs) D := fun o => by
    obtain ⟨_, ob, e, _⟩ := (Own.clear (fun j hj => wipe_off j hj) o).slot r1
    rw [hD] at e; cases e
  have rc : R K (clear vs ρ1) Hf1 (wipe σ vs) H1 := r1.clear fun j hj => wipe_off j hj
  refine lc_it W (fun i H => ∃ ρ Hf acc zs, LcInv K (clear vs ρ1) Hf1 H1 (wipe σ vs) D acc ρ Hf H ∧ lcLoop vs h ft fe (xs.drop i) ρ = some (zs, ρ2) ∧ acc ++ zs = ys) ?_ ?_ ?_ ?_
  · exact ⟨clear vs ρ1, Hf1, [], ys, ⟨rc.side hD1 un1, Step.rfl'.side hD, ⟨[], upd_same, .nil⟩, hD1, un1⟩, by simpa using el, rfl⟩
  · rintro i H2 _ ⟨ρ, Hf, acc, zs, L, _⟩
    exact hG H2 (L.s.sub.trans L.r.sub)
  · rintro i v H2 H3 hi ⟨ρ, Hf, acc, zs, L, el2, ea⟩ y
    have ex : xs[i]? = some xs[i] := by simp [hi]
    rw [List.drop_eq_getElem_cons hi] at el2
    obtain ⟨us, hus, rus⟩ := L.at_
    have res := hY i xs[i] H2 H3 v Hf ex L.s.sub L.r.sub y
    obtain ⟨Hf3, r3, s3, ro, _⟩ := res.use L.r
    obtain ⟨k1, k2, k3⟩ := lc_keep s3 hus L.no L.un
    have w2 : wp (lcLoop vs h ft fe (xs[i] :: xs.drop (i + 1))) ρ fun zs' ρ' => zs' = zs ∧ ρ' = ρ2 := wp_some el2 ⟨rfl, rfl⟩
    unfold lcLoop at w2
    rw [wp_bind] at w2
    refine ⟨ρ, Hf3, xs[i], r3, ro, wp_mono w2 fun _ ρ4 w2 σ4 r4 s4 l4 o4 => ?_⟩
    have off : ∀ j, j ∉ vs → σ4[j]? = (wipe σ vs)[j]? := fun j hj => o4 j fun z => hj (hts j z)
    refine ⟨wipe_same (l4.trans (wipe_length _ _)) off, ?_⟩
    obtain ⟨m1, m2, m3⟩ := lc_keep s4 k1 k2 k3
    rw [wp_bind] at w2
    refine ⟨ρ4, Hf3, r4, wp_mono w2 fun b ρ5 w2 Hf5 H5 r5 s5 => ?_⟩
    obtain ⟨n1, n2, n3⟩ := lc_keep s5 m1 m2 m3
    have s15 := ((L.s.trans s3).trans s4).trans s5
    have off' : ∀ j, j ∉ vs → (wipe σ vs)[j]? = σ4[j]? := fun j hj => (off j hj).symm
    cases b with
    | true =>
      rw [if_pos rfl] at w2 ⊢
      rw [wp_bind] at w2
      refine ⟨ρ5, Hf5, r5, wp_mono w2 fun yv ρ6 w2 v6 Hf6 H6 r6 s6 p6 => ?_⟩
      obtain ⟨q1, q2, q3⟩ := lc_keep s6 n1 n2 n3
      rw [wp_bind] at w2
      have w2 : wp (lcLoop vs h ft fe (xs.drop (i + 1)) >>= fun ys => pure (yv :: ys)) (clear vs ρ6) _ := w2
      rw [wp_bind] at w2
      obtain ⟨zs2, ρ7, e7, w2⟩ := wp_iff.mp w2
      obtain ⟨ez2, er⟩ := wp_pure.mp w2
      subst ez2; subst er
      have lens : acc.length + (zs2.length + 1) ≤ sizeLine := by
        have := congrArg List.length ea
        simp only [List.length_append, List.length_cons] at this
        omega
      refine ⟨us, q1, by rw [rus.length]; omega, clear vs ρ6, Hf6, acc ++ [yv], zs2, ⟨?_, ?_, ⟨us ++ [v6], upd_same, ?_⟩, q2, ?_⟩, e7, by rw [List.append_assoc]; exact ea⟩
      · exact (r6.clear off').side q2 fun o => q3 (Own.clear off' o)
      · exact ((s15.trans s6).trans (.clear off')).side hD
      · exact (rus.sub ((s3.sub.trans s5.sub).trans s6.sub)).append (.cons p6 .nil)
      · exact fun o => q3 (Own.clear off' o)
    | false =>
      rw [if_neg Bool.false_ne_true] at w2 ⊢
      rw [wp_bind] at w2
      have w2 : wp (lcLoop vs h ft fe (xs.drop (i + 1))) (clear vs ρ5) _ := w2
      obtain ⟨zs2, ρ7, e7, ez2, er⟩ := wp_iff.mp w2
      subst ez2; subst er
      exact ⟨clear vs ρ5, Hf5, acc, zs2, ⟨r5.clear off', s15.trans (.clear off'), ⟨us, n1, rus.sub (s3.sub.trans s5.sub)⟩, n2, fun o => n3 (Own.clear off' o)⟩, e7, ea⟩
  · rintro H2 ⟨ρ, Hf, acc, zs, L, el2, ea⟩
    rw [List.drop_length] at el2
    have el2 : some (([] : List PV), ρ) = some (zs, ρ2) := el2
    cases el2
    rw [List.append_nil] at ea
    subst ea
    obtain ⟨us, hus, rus⟩ := L.at_
    refine k (.ref D) Hf H2 (R.restore r1 L.r L.s.sub) (s1.trans (Step.restore L.s)) ⟨D, _, rfl, L.no, hus, ⟨us, rfl, rus⟩, fun o => L.un o.restore⟩ fun _ p e => ?_
    cases e
    exact Classical.byContradiction fun n => s1.there D n hD
/-- two clauses -/
def lc2Loop (vs vs1 : List Nat) (h : PV → M Unit) (ft : M Bool) (fi1 : M (List PV)) (h1 : PV → M Unit) (ft1 : M Bool) (fe : M PV) : List PV → M (List PV)
  | [] => pure []
  | x :: xs => h x >>= fun _ => ft >>= fun b => if b = true then fi1 >>= fun xs1 => clr vs1 >>= fun _ => lcLoop vs1 h1 ft1 fe xs1 >>= fun ys => clr vs >>= fun _ => lc2Loop vs vs1 h ft fi1 h1 ft1 fe xs >>= fun zs => pure (ys ++ zs) else clr vs >>= fun _ => lc2Loop vs vs1 h ft fi1 h1 ft1 fe xs
def lc2M (fi : M (List PV)) (vs vs1 : List Nat) (h : PV → M Unit) (ft : M Bool) (fi1 : M (List PV)) (h1 : PV → M Unit) (ft1 : M Bool) (fe : M PV) : M OV := fi >>= fun xs => within vs (lc2Loop vs vs1 h ft fi1 h1 ft1 fe xs) >>= fun ys => lift (when (fits ys.length) (some (true, .lst ys)))
/-- a walk inside a comprehension, from any heap -/
theorem lc_in {J : It} {n : Nat} {G : Hp → Prop} {Y : Nat → Hp → V → Hp → Prop} (w : Walk J n G Y) {g : TG} {tt : TT} {te : TE} {vs : List Nat} {σ : Sl} {H1 : Hp} {D : Addr} {Qd : Hp → Prop} (Pv : Nat → Hp → Prop) (h0 : Pv 0 H1) (hG : ∀ i H, i ≤ n → Pv i H → G H)
    (hs : ∀ i x H H', i < n → Pv i H → Y i H x H' → g x (wipe σ vs) H' fun σ2 H2 => wipe σ2 vs = wipe σ vs ∧ tt σ2 H2 fun b H3 =>
      if b = true then te σ2 H3 fun y H4 => ∃ acc, H4 D = some (.lst acc) ∧ acc.length < sizeLine ∧ Pv (i + 1) (upd H4 D (.lst (acc ++ [y]))) else Pv (i + 1) H3) (hd : ∀ H, Pv n H → Qd H) :
    ∃ W : Nat → Nat → Hp → Prop, (∃ m, W 0 m H1) ∧ ∀ i m H, W i m H →
      (J.stop i H ∧ Qd H) ∨ (J.go i H ∧ ∃ Nx : Hp → Prop, (∀ H', Nx H' → ∃ m', m' < m ∧ W (i + 1) m' H') ∧ ∀ x H', J.yld i H x H' → g x (wipe σ vs) H' fun σ2 H2 => wipe σ2 vs = wipe σ vs ∧ tt σ2 H2 fun b H3 =>
        if b = true then te σ2 H3 fun y H4 => ∃ acc, H4 D = some (.lst acc) ∧ acc.length < sizeLine ∧ Nx (upd H4 D (.lst (acc ++ [y]))) else Nx H3) := by
  refine ⟨fun i m H => m = n - i ∧ i ≤ n ∧ Pv i H, ⟨n, by simp, Nat.zero_le _, h0⟩, fun i m H ⟨em, hi, p⟩ => ?_⟩
  subst em
  by_cases hlt : i < n
  · exact .inr ⟨w.goes i H hlt (hG i H hi p), Pv (i + 1), fun H' p' => ⟨n - (i + 1), by omega, rfl, hlt, p'⟩, fun x H' y => hs i x H H' hlt p (w.yields i H x H' hlt (hG i H hi p) y)⟩
  · have e : i = n := by omega
    subst e
    exact .inl ⟨w.stops H (hG i H hi p), hd H p⟩
/-- one turn's rest: test and element -/
theorem lc_turn {σw : Sl} {D : Addr} {ρ1 ρ2 : Env} {Hf1 H1 : Hp} {xs : List PV} {ys acc zs : List PV} {ρ : Env} {Hf : Hp} {H2 H3 : Hp} {v : V} {x : PV} {σ0 : Sl} (hD : H1 D = none) (hts : ∀ j ∈ ts, j ∈ vs) (hσ : σw = wipe σ0 vs)
    (L : LcInv K ρ1 Hf1 H1 σw D acc ρ Hf H2) (res : Res1 K Hf H2 v H3 (false, x)) (el2 : lcLoop vs h ft fe (x :: xs) ρ = some (zs, ρ2)) (ea : acc ++ zs = ys) (c : ys.length ≤ sizeLine) {Nx : Hp → Prop}
    (hN : ∀ ρ' Hf' acc' zs' H', LcInv K ρ1 Hf1 H1 σw D acc' ρ' Hf' H' → lcLoop vs h ft fe xs ρ' = some (zs', ρ2) → acc' ++ zs' = ys → Nx H') :
    tG K ts h v σw H3 fun σ2 H2 => wipe σ2 vs = wipe σ0 vs ∧ tT K ft σ2 H2 fun b H3 => if b = true then tF K fe σ2 H3 fun y H4 => ∃ acc, H4 D = some (.lst acc) ∧ acc.length < sizeLine ∧ Nx (upd H4 D (.lst (acc ++ [y]))) else Nx H3 := by
  subst hσ
  obtain ⟨us, hus, rus⟩ := L.at_
  obtain ⟨Hf3, r3, s3, ro, _⟩ := res.use L.r
  obtain ⟨k1, k2, k3⟩ := lc_keep s3 hus L.no L.un
  have w2 : wp (lcLoop vs h ft fe (x :: xs)) ρ fun zs' ρ' => zs' = zs ∧ ρ' = ρ2 := wp_some el2 ⟨rfl, rfl⟩
  unfold lcLoop at w2
  rw [wp_bind] at w2
  refine ⟨ρ, Hf3, x, r3, ro, wp_mono w2 fun _ ρ4 w2 σ4 r4 s4 l4 o4 => ?_⟩
  have off : ∀ j, j ∉ vs → σ4[j]? = (wipe σ0 vs)[j]? := fun j hj => o4 j fun z => hj (hts j z)
  refine ⟨wipe_same (l4.trans (wipe_length _ _)) off, ?_⟩
  obtain ⟨m1, m2, m3⟩ := lc_keep s4 k1 k2 k3
  rw [wp_bind] at w2
  refine ⟨ρ4, Hf3, r4, wp_mono w2 fun b ρ5 w2 Hf5 H5 r5 s5 => ?_⟩
  obtain ⟨n1, n2, n3⟩ := lc_keep s5 m1 m2 m3
  have s15 := ((L.s.trans s3).trans s4).trans s5
  have off' : ∀ j, j ∉ vs → (wipe σ0 vs)[j]? = σ4[j]? := fun j hj => (off j hj).symm
  cases b with
  | true =>
    rw [if_pos rfl] at w2 ⊢
    rw [wp_bind] at w2
    refine ⟨ρ5, Hf5, r5, wp_mono w2 fun yv ρ6 w2 v6 Hf6 H6 r6 s6 p6 => ?_⟩
    obtain ⟨q1, q2, q3⟩ := lc_keep s6 n1 n2 n3
    rw [wp_bind] at w2
    have w2 : wp (lcLoop vs h ft fe xs >>= fun ys => pure (yv :: ys)) (clear vs ρ6) _ := w2
    rw [wp_bind] at w2
    obtain ⟨zs2, ρ7, e7, w2⟩ := wp_iff.mp w2
    obtain ⟨ez2, er⟩ := wp_pure.mp w2
    subst ez2; subst er
    have lens : acc.length + (zs2.length + 1) ≤ sizeLine := by
      have := congrArg List.length ea
      simp only [List.length_append, List.length_cons] at this
      omega
    refine ⟨us, q1, by rw [rus.length]; omega, hN (clear vs ρ6) Hf6 (acc ++ [yv]) zs2 _ ⟨?_, ?_, ⟨us ++ [v6], upd_same, ?_⟩, q2, ?_⟩ e7 (by rw [List.append_assoc]; exact ea)⟩
    · exact (r6.clear off').side q2 fun o => q3 (Own.clear off' o)
    · exact ((s15.trans s6).trans (.clear off')).side hD
    · exact (rus.sub ((s3.sub.trans s5.sub).trans s6.sub)).append (.cons p6 .nil)
    · exact fun o => q3 (Own.clear off' o)
  | false =>
    rw [if_neg Bool.false_ne_true] at w2 ⊢
    rw [wp_bind] at w2
    have w2 : wp (lcLoop vs h ft fe xs) (clear vs ρ5) _ := w2
    obtain ⟨zs2, ρ7, e7, ez2, er⟩ := wp_iff.mp w2
    subst ez2; subst er
    exact hN (clear vs ρ5) Hf5 acc zs2 _ ⟨r5.clear off', s15.trans (.clear off'), ⟨us, n1, rus.sub (s3.sub.trans s5.sub)⟩, n2, fun o => n3 (Own.clear off' o)⟩ e7 ea
theorem readLc2 (hts : ∀ j ∈ ts, j ∈ vs) (hts1 : ∀ j ∈ ts1, j ∈ vs1) (hv1 : ∀ j ∈ vs1, j ∈ vs) (hq : tE K (lc2M fi vs vs1 h ft fi1 h1 ft1 fe) σ H Q) : tLc2 (tI K fi) (tG K ts h) (tT K ft) (tI K fi1) (tG K ts1 h1) (tT K ft1) (tF K fe) vs vs1 σ H Q := by
  obtain ⟨ρ0, Hf0, r0, w⟩ := hq
  unfold lc2M at w
  rw [wp_bind] at w
  refine ⟨ρ0, Hf0, r0, wp_mono w fun xs ρ1 w J Hf1 H1 it r1 s1 D hD => ?_⟩
  rw [wp_bind] at w
  obtain ⟨ys, ρr, ew, w⟩ := wp_iff.mp w
  rw [wp_lift] at w
  obtain ⟨z, ez, k⟩ := w
  obtain ⟨c, ez⟩ := when_some ez
  cases ez
  have c : ys.length ≤ sizeLine := of_decide_eq_true c
  unfold within at ew
  cases el : lc2Loop vs vs1 h ft fi1 h1 ft1 fe xs (clear vs ρ1) with
  | none => rw [el] at ew; cases ew
  | some q =>
  obtain ⟨ys', ρ2⟩ := q
  rw [el] at ew
  cases ew
  obtain ⟨G, Y, W, hG, hY⟩ := it
  have hD1 : Hf1 D = none := Classical.byContradiction fun z => (r1.sub.some_ z) hD
  have un1 : ¬ Own (clear vs ρ1) (wipe σ vs) D := fun o => by
    obtain ⟨_, ob, e, _⟩ := (Own.clear (fun j hj => wipe_off j hj) o).slot r1
    rw [hD] at e; cases e
  have rc : R K (clear vs ρ1) Hf1 (wipe σ vs) H1 := r1.clear fun j hj => wipe_off j hj
  let Pv : Nat → Hp → Prop := fun i H => ∃ ρ Hf acc zs, LcInv K (clear vs ρ1) Hf1 H1 (wipe σ vs) D acc ρ Hf H ∧ lc2Loop vs vs1 h ft fi1 h1 ft1 fe (xs.drop i) ρ = some (zs, ρ2) ∧ acc ++ zs = ys
  refine ⟨fun i m H => m = xs.length - i ∧ i ≤ xs.length ∧ Pv i H, ⟨xs.length, by simp, Nat.zero_le _, ?_⟩, fun i m H2 ⟨em, hi, p⟩ => ?_⟩
  · exact ⟨clear vs ρ1, Hf1, [], ys, ⟨rc.side hD1 un1, Step.rfl'.side hD, ⟨[], upd_same, .nil⟩, hD1, un1⟩, by simpa using el, rfl⟩
  subst em
  have hGp : G H2 := by
    obtain ⟨ρ, Hf, acc, zs, L, _⟩ := p
    exact hG H2 (L.s.sub.trans L.r.sub)
  by_cases hlt : i < xs.length
  · refine .inr ⟨W.goes i H2 hlt hGp, Pv (i + 1), fun H' p' => ⟨xs.length - (i + 1), by omega, rfl, hlt, p'⟩, fun v H3 yl => ?_⟩
    have y := W.yields i H2 v H3 hlt hGp yl
    obtain ⟨ρ, Hf, acc, zs, L, el2, ea⟩ := p
    have ex : xs[i]? = some xs[i] := by simp [hlt]
    rw [List.drop_eq_getElem_cons hlt] at el2
    obtain ⟨us, hus, rus⟩ := L.at_
    have res := hY i xs[i] H2 H3 v Hf ex L.s.sub L.r.sub y
    obtain ⟨Hf3, r3, s3, ro, _⟩ := res.use L.r
    obtain ⟨k1, k2, k3⟩ := lc_keep s3 hus L.no L.un
    have w2 : wp (lc2Loop vs vs1 h ft fi1 h1 ft1 fe (xs[i] :: xs.drop (i + 1))) ρ fun zs' ρ' => zs' = zs ∧ ρ' = ρ2 := wp_some el2 ⟨rfl, rfl⟩
    unfold lc2Loop at w2
    rw [wp_bind] at w2
    refine ⟨ρ, Hf3, xs[i], r3, ro, wp_mono w2 fun _ ρ4 w2 σ4 r4 s4 l4 o4 => ?_⟩
    have off : ∀ j, j ∉ vs → σ4[j]? = (wipe σ vs)[j]? := fun j hj => o4 j fun z => hj (hts j z)
    refine ⟨wipe_same (l4.trans (wipe_length _ _)) off, ?_⟩
    obtain ⟨m1, m2, m3⟩ := lc_keep s4 k1 k2 k3
    rw [wp_bind] at w2
    refine ⟨ρ4, Hf3, r4, wp_mono w2 fun b ρ5 w2 Hf5 H5 r5 s5 => ?_⟩
    obtain ⟨n1, n2, n3⟩ := lc_keep s5 m1 m2 m3
    have s15 := ((L.s.trans s3).trans s4).trans s5
    have off' : ∀ j, j ∉ vs → (wipe σ vs)[j]? = σ4[j]? := fun j hj => (off j hj).symm
    cases b with
    | false =>
      rw [if_neg Bool.false_ne_true] at w2 ⊢
      rw [wp_bind] at w2
      have w2 : wp (lc2Loop vs vs1 h ft fi1 h1 ft1 fe (xs.drop (i + 1))) (clear vs ρ5) _ := w2
      obtain ⟨zs2, ρ7, e7, ez2, er⟩ := wp_iff.mp w2
      subst ez2; subst er
      exact ⟨clear vs ρ5, Hf5, acc, zs2, ⟨r5.clear off', s15.trans (.clear off'), ⟨us, n1, rus.sub (s3.sub.trans s5.sub)⟩, n2, fun o => n3 (Own.clear off' o)⟩, e7, ea⟩
    | true =>
      rw [if_pos rfl] at w2 ⊢
      rw [wp_bind] at w2
      refine ⟨ρ5, Hf5, r5, wp_mono w2 fun xs1 ρ6 w2 J1 Hf6 H6 it1 r6 s6 => ?_⟩
      obtain ⟨q1, q2, q3⟩ := lc_keep s6 n1 n2 n3
      rw [wp_bind] at w2
      have w2 : wp (lcLoop vs1 h1 ft1 fe xs1 >>= fun ys => clr vs >>= fun _ => lc2Loop vs vs1 h ft fi1 h1 ft1 fe (xs.drop (i + 1)) >>= fun zs => pure (ys ++ zs)) (clear vs1 ρ6) _ := w2
      rw [wp_bind] at w2
      obtain ⟨ws, ρ7, e7, w2⟩ := wp_iff.mp w2
      rw [wp_bind] at w2
      have w2 : wp (lc2Loop vs vs1 h ft fi1 h1 ft1 fe (xs.drop (i + 1)) >>= fun zs => pure (ws ++ zs)) (clear vs ρ7) _ := w2
      rw [wp_bind] at w2
      obtain ⟨zs2, ρ8, e8, w2⟩ := wp_iff.mp w2
      obtain ⟨ez2, er⟩ := wp_pure.mp w2
      subst ez2; subst er
      obtain ⟨G1, Y1, W1, hG1, hY1⟩ := it1
      have un6 : ¬ Own (clear vs1 ρ6) (wipe σ4 vs1) D := fun o => q3 (Own.clear (fun j hj => wipe_off j hj) o)
      have r7 : R K (clear vs1 ρ6) Hf6 (wipe σ4 vs1) H6 := r6.clear fun j hj => wipe_off j hj
      have s17 := (s15.trans s6).trans (Step.clear (vs := vs1) (σ1 := wipe σ4 vs1) fun j hj => wipe_off j hj)
      -- inner steps are told from the outer start's heap with D's absence
      have wl : (acc ++ ws).length ≤ sizeLine := by
        have := congrArg List.length ea
        simp only [List.length_append] at this ⊢
        omega
      have L6 : LcInv K (clear vs1 ρ6) Hf6 H1 (wipe σ4 vs1) D acc (clear vs1 ρ6) Hf6 H6 → True := fun _ => trivial
      refine lc_in W1 (fun j H => ∃ ρ' Hf' acc' zs', (R K ρ' Hf' (wipe σ4 vs1) H ∧ Step (clear vs ρ1) Hf1 (wipe σ vs) H1 ρ' Hf' (wipe σ4 vs1) H ∧ Bel Hf6 Hf' ∧ (∃ us, H D = some (.lst us) ∧ Reps K Hf' us acc') ∧ Hf' D = none ∧ ¬ Own ρ' (wipe σ4 vs1) D) ∧ lcLoop vs1 h1 ft1 fe (xs1.drop j) ρ' = some (zs', ρ7) ∧ acc' ++ zs' = acc ++ ws) ?_ ?_ ?_ ?_
      · exact ⟨clear vs1 ρ6, Hf6, acc, ws, ⟨r7, s17, .rfl', ⟨us, q1, rus.sub ((s3.sub.trans s5.sub).trans s6.sub)⟩, q2, un6⟩, by simpa using e7, rfl⟩
      · rintro j H8 _ ⟨ρ', Hf', acc', zs', ⟨a1, a2, a3, _⟩, _⟩
        exact hG1 H8 (a3.trans a1.sub)
      · rintro j v1 H8 H9 hj ⟨ρ', Hf', acc', zs', ⟨a1, a2, a3, ⟨us', a4, a5⟩, a6, a7⟩, el3, ea3⟩ y1
        have ex1 : xs1[j]? = some xs1[j] := by simp [hj]
        rw [List.drop_eq_getElem_cons hj] at el3
        have res1 := hY1 j xs1[j] H8 H9 v1 Hf' ex1 a3 a1.sub y1
        have n8 : H8 D ≠ none := by rw [a4]; simp
        -- told from here: the heap without D
        let Hx : Hp := fun b => if b = D then none else H8 b
        have hx : Hx D = none := by simp [Hx]
        have stp : Step ρ' Hf' (wipe σ4 vs1) Hx ρ' Hf' (wipe σ4 vs1) H8 := by
          refine ⟨.rfl', fun b o e _ => ?_, fun b e => .inl e, fun b o => .inl o, fun b e => ?_⟩
          · by_cases eb : b = D
            · subst eb; rw [hx] at e; cases e
            · simpa [Hx, eb] using e
          · by_cases eb : b = D
            · subst eb; exact absurd hx e
            · simpa [Hx, eb] using e
        refine lc_turn (ρ1 := ρ') (Hf1 := Hf') (H1 := Hx) (zs := zs') hx hts1 rfl ⟨a1, stp, ⟨us', a4, a5⟩, a6, a7⟩ res1 el3 ea3 wl fun ρ9 Hf9 acc9 zs9 H10 L9 e9 ea9 => ?_
        refine ⟨ρ9, Hf9, acc9, zs9, ⟨L9.r, ?_, a3.trans L9.s.sub, L9.at_, L9.no, L9.un⟩, e9, ea9⟩
        -- the whole step: from H1, where D is not
        refine ⟨a2.sub.trans L9.s.sub, fun b o e n => ?_, fun b e => ?_, fun b o => ?_, fun b e => ?_⟩
        · have bD : b ≠ D := ne_of_none e hD
          have e8 := a2.keep b o e n
          refine L9.s.keep b o (by simpa [Hx, bD] using e8) fun ow => ?_
          rcases a2.own b ow with z | z
          · exact n z
          · rw [e] at z; cases z
        · rcases L9.s.new b e with z | z | z
          · exact a2.new b z
          · rcases a2.own b z with z | z
            · exact .inr (.inl z)
            · exact .inr (.inr z)
          · by_cases bD : b = D
            · subst bD; exact .inr (.inr hD)
            · have z : H8 b = none := by simpa [Hx, bD] using z
              exact .inr (.inr (Classical.byContradiction fun n => a2.there b n z))
        · rcases L9.s.own b o with z | z
          · exact a2.own b z
          · by_cases bD : b = D
            · subst bD; exact .inr hD
            · have z : H8 b = none := by simpa [Hx, bD] using z
              exact .inr (Classical.byContradiction fun n => a2.there b n z)
        · have bD : b ≠ D := fun z => e (z ▸ hD)
          have := a2.there b e
          exact L9.s.there b (by simpa [Hx, bD] using this)
      · rintro H8 ⟨ρ', Hf', acc', zs', ⟨a1, a2, a3, ⟨us', a4, a5⟩, a6, a7⟩, el3, ea3⟩
        rw [List.drop_length] at el3
        have el3 : some (([] : List PV), ρ') = some (zs', ρ7) := el3
        cases el3
        rw [List.append_nil] at ea3
        subst ea3
        have off8 : ∀ j, j ∉ vs → (wipe σ vs)[j]? = (wipe σ4 vs1)[j]? := fun j hj => by
          rw [wipe_off (σ := σ4) (vs := vs1) j fun z => hj (hv1 j z)]; exact off' j hj
        exact ⟨clear vs ρ7, Hf', acc ++ ws, zs2, ⟨a1.clear off8, a2.trans (.clear off8), ⟨us', a4, a5⟩, a6, fun o => a7 (Own.clear off8 o)⟩, e8, by rw [List.append_assoc]; exact ea⟩
  · have e : i = xs.length := by omega
    subst e
    obtain ⟨ρ, Hf, acc, zs, L, el2, ea⟩ := p
    rw [List.drop_length] at el2
    have el2 : some (([] : List PV), ρ) = some (zs, ρ2) := el2
    cases el2
    rw [List.append_nil] at ea
    subst ea
    obtain ⟨us, hus, rus⟩ := L.at_
    refine .inl ⟨W.stops H2 hGp, k (.ref D) Hf H2 (R.restore r1 L.r L.s.sub) (s1.trans (Step.restore L.s)) ⟨D, _, rfl, L.no, hus, ⟨us, rfl, rus⟩, fun o => L.un o.restore⟩ fun _ p e => ?_⟩
    cases e
    exact Classical.byContradiction fun n => s1.there D n hD
end
section
variable {X : Cx} {elt tg iter tg1 iter1 : Expr} {ifs ifs1 : List Expr} {scope : Scope} {own : List (Str × Nat)} {vs1 ts ts1 : List Nat} {pos spos : Pos} {fi fi1 : M (List PV)} {h h1 : PV → M Unit} {ft ft1 : M Bool} {fe : M PV}
abbrev blkOf (X : Cx) (scope : Scope) (s : Shared) (H : Hp) (C : Addr) (cl : List (Str × Addr)) (fp : List Addr) : Cx := X.blk s H scope (compEnvC scope cl C X.env) fp
theorem we_lc (hc : X.calm = true) (hN : X.N.Nodup) (hi : WI X tg iter fi) (ok : BlkOk X.N X.env.scope scope own) (hts : ∀ j ∈ ts, j ∈ own.map (·.2))
    (hg : ∀ s H C cl fp, WG (blkOf X scope s H C cl fp) ts tg h) (ht : ∀ s H C cl fp, WTs (blkOf X scope s H C cl fp) ifs ft) (he : ∀ s H C cl fp, WF (blkOf X scope s H C cl fp) elt fe) (hs : ∀ x, foldedSetIterable iter X.env x = pure x := by intro _; rfl) :
    WE X (.ListComp elt [⟨tg, iter, ifs, 0⟩] scope pos) (lcM fi (own.map (·.2)) h ft fe) :=
  ⟨peWeak (pe_lc hc hN hi.pi ok (fun s H C cl fp => (hg s H C cl fp).pg) (fun s H C cl fp => (ht s H C cl fp).pt) (fun s H C cl fp => (he s H C cl fp).pe) hs) fun _ _ _ q => readLc hts q⟩
theorem we_lc2 (hc : X.calm = true) (hN : X.N.Nodup) (hi : WI X tg iter fi) (ok : BlkOk X.N X.env.scope scope own) (hv : ∀ i ∈ vs1, i ∈ own.map (·.2)) (hts : ∀ j ∈ ts, j ∈ own.map (·.2)) (hts1 : ∀ j ∈ ts1, j ∈ vs1)
    (hg : ∀ s H C cl fp, WG (blkOf X scope s H C cl fp) ts tg h) (ht : ∀ s H C cl fp, WTs (blkOf X scope s H C cl fp) ifs ft) (hi1 : ∀ s H C cl fp, WI (blkOf X scope s H C cl fp) tg1 iter1 fi1)
    (hg1 : ∀ s H C cl fp, WG (blkOf X scope s H C cl fp) ts1 tg1 h1) (ht1 : ∀ s H C cl fp, WTs (blkOf X scope s H C cl fp) ifs1 ft1) (he : ∀ s H C cl fp, WF (blkOf X scope s H C cl fp) elt fe)
    (hs : ∀ x, foldedSetIterable iter X.env x = pure x := by intro _; rfl) (hs1 : ∀ env x, foldedSetIterable iter1 env x = pure x := by intro _ _; rfl) :
    WE X (.ListComp elt [⟨tg, iter, ifs, 0⟩, ⟨tg1, iter1, ifs1, 0⟩] scope pos) (lc2M fi (own.map (·.2)) vs1 h ft fi1 h1 ft1 fe) :=
  ⟨peWeak (pe_lc2 hc hN hi.pi ok hv (fun s H C cl fp => (hg s H C cl fp).pg) (fun s H C cl fp => (ht s H C cl fp).pt) (fun s H C cl fp => (hi1 s H C cl fp).pi) (fun s H C cl fp => (hg1 s H C cl fp).pg) (fun s H C cl fp => (ht1 s H C cl fp).pt) (fun s H C cl fp => (he s H C cl fp).pe) hs hs1)
    fun _ _ _ q => readLc2 hts hts1 hv q⟩
end
end MC
set_option Elab.async false
set_option linter.all false
set_option maxRecDepth 100000
set_option maxHeartbeats 4000000
namespace MC
open PySem PySem.Spec L2
open PyProof.Rows (b2i)

/-! ### statements -/
section
variable {X : Cx} {ios ts : List Nat} {e a b : Expr} {fe : M OV} {fv fk : M PV} {pos : Pos} {st : Stmt} {rest body body2 : List Stmt} {f g : M Fl} {fi : M (List PV)} {h : PV → M Unit} {fc : M Bool}
/-- the wish behind a statement -/
def SQ (K : PySem.W.Frag) (ios : List Nat) (D : Ends) (ρ : Env) (Hf : Hp) (σ : Sl) (H : Hp) (x : Fl) (ρ' : Env) : Prop := ∀ Hf' σ' H', R K ρ' Hf' σ' H' → Step ρ Hf σ H ρ' Hf' σ' H' → σ'.length = σ.length → (∀ i ∈ ios, σ'[i]? = σ[i]?) →
  match x with
  | .nx => D.nx σ' H'
  | .bk => D.bk σ' H'
  | .ct => D.ct σ' H'
  | .rt y => ∀ v', RO K ρ' Hf' σ' H' v' y → NewR ρ σ H v' y → D.rt v' H'
theorem tS_eq {K : PySem.W.Frag} {D : Ends} {σ : Sl} {H : Hp} : tS K ios f D σ H ↔ ∃ ρ Hf, R K ρ Hf σ H ∧ wp f ρ (SQ K ios D ρ Hf σ H) := Iff.rfl
/-- behind a first step -/
theorem SQ.after {K : PySem.W.Frag} {D : Ends} {ρ ρ1 : Env} {Hf Hf1 : Hp} {σ σ1 : Sl} {H H1 : Hp} (s : Step ρ Hf σ H ρ1 Hf1 σ1 H1) (l : σ1.length = σ.length) (o : ∀ i ∈ ios, σ1[i]? = σ[i]?) {x : Fl} {ρ' : Env} (q : SQ K ios D ρ Hf σ H x ρ') : SQ K ios D ρ1 Hf1 σ1 H1 x ρ' :=
  fun Hf' σ' H' r' s' l' o' => by
    have := q Hf' σ' H' r' (s.trans s') (l'.trans l) fun i hi => (o' i hi).trans (o i hi)
    cases x with
    | rt y => exact fun v' ro nw => this v' ro (s.newR nw)
    | _ => exact this
theorem wss_nil : WSs ios X [] (pure .nx) := ⟨pssWeak pss_nil fun D σ H ⟨ρ, Hf, r, w⟩ => wp_pure.mp w Hf σ H r .rfl' rfl fun _ _ => rfl⟩
def seqM (f g : M Fl) : M Fl := f >>= fun r => match r with
  | .nx => g
  | r => pure r
theorem wss_cons (h1 : WS ios X st f) (h2 : WSs ios X rest g) : WSs ios X (st :: rest) (seqM f g) := ⟨pssWeak (pss_cons h1.ps h2.ps) fun D σ H ⟨ρ, Hf, r, w⟩ => by
  unfold seqM at w
  rw [wp_bind] at w
  refine ⟨ρ, Hf, r, wp_mono w fun x ρ1 w Hf1 σ1 H1 r1 s1 l1 o1 => ?_⟩
  cases x with
  | nx => exact ⟨ρ1, Hf1, r1, wp_mono w fun y ρ2 q => SQ.after s1 l1 o1 q⟩
  | bk => exact wp_pure.mp w Hf1 σ1 H1 r1 s1 l1 o1
  | ct => exact wp_pure.mp w Hf1 σ1 H1 r1 s1 l1 o1
  | rt y => exact wp_pure.mp w Hf1 σ1 H1 r1 s1 l1 o1⟩
theorem wss_one (h1 : WS ios X st f) : WSs ios X [st] f := ⟨pssWeak (pss_one h1.ps) fun _ _ _ h => h⟩
theorem ws_pass : WS ios X (.Pass pos) (pure .nx) := ⟨psWeak ps_pass fun D σ H ⟨ρ, Hf, r, w⟩ => wp_pure.mp w Hf σ H r .rfl' rfl fun _ _ => rfl⟩
theorem ws_break : WS ios X (.Break pos) (pure .bk) := ⟨psWeak ps_break fun D σ H ⟨ρ, Hf, r, w⟩ => wp_pure.mp w Hf σ H r .rfl' rfl fun _ _ => rfl⟩
theorem ws_cont : WS ios X (.Continue pos) (pure .ct) := ⟨psWeak ps_continue fun D σ H ⟨ρ, Hf, r, w⟩ => wp_pure.mp w Hf σ H r .rfl' rfl fun _ _ => rfl⟩
/-- code that is not come to -/
theorem ws_never : WS ios X st bad := ⟨psWeak ps_never fun D σ H ⟨ρ, Hf, r, w⟩ => w.elim⟩
def dropM (f : M OV) : M Fl := f >>= fun _ => pure .nx
theorem ws_expr (he : WE X e fe) (hs : swapsWith e none pos.line X.env = pure false := by rfl) : WS ios X (.Expr e pos) (dropM fe) := ⟨psWeak (ps_expr he.wf.pe hs) fun D σ H ⟨ρ, Hf, r, w⟩ => by
  unfold dropM at w
  rw [wp_bind] at w
  refine ⟨ρ, Hf, r, ?_⟩
  unfold asF
  rw [wp_bind]
  exact wp_mono w fun x ρ1 w => wp_pure.mpr fun v' Hf1 H1 r1 s1 _ => wp_pure.mp w Hf1 σ H1 r1 s1 rfl fun _ _ => rfl⟩
theorem ws_doc {x j pos'} : WS ios X (.Expr (.Constant (.str x) j pos) pos') (pure .nx) := ⟨psWeak ps_doc fun D σ H ⟨ρ, Hf, r, w⟩ => wp_pure.mp w Hf σ H r .rfl' rfl fun _ _ => rfl⟩
def retM (f : M OV) : M Fl := f >>= fun x => pure (.rt x)
theorem ws_ret (he : WE X e fe) : WS ios X (.Return (some e) pos) (retM fe) := ⟨psWeak (ps_ret he.pe) fun D σ H ⟨ρ, Hf, r, w⟩ => by
  unfold retM at w
  rw [wp_bind] at w
  exact ⟨ρ, Hf, r, wp_mono w fun x ρ1 w v' Hf1 H1 r1 s1 ro nw => wp_pure.mp w Hf1 σ H1 r1 s1 rfl (fun _ _ => rfl) v' ro nw.r⟩⟩
theorem ws_retN : WS ios X (.Return none pos) (pure (.rt (false, .non))) := ⟨psWeak ps_retN fun D σ H ⟨ρ, Hf, r, w⟩ => by
  exact wp_pure.mp w Hf σ H r .rfl' rfl (fun _ _ => rfl) .non (show Rep X.K Hf .non .non from rep_non) fun z => nomatch z⟩
/-- return of a name: its object goes out -/
def giveM (i : Nat) : M Fl := fun ρ => match ρ[i]? with
  | some (some (o, v)) => some (.rt (o, v), ρ.set i none)
  | _ => none
theorem ws_retv (i : Nat) (ha : PE X a (tVar i)) : WS ios X (.Return (some a) pos) (giveM i) := ⟨psWeak (ps_ret ha) fun D σ H ⟨ρ, Hf, r, w⟩ => by
  unfold wp giveM at w
  cases e : ρ[i]? with
  | none => rw [e] at w; exact w.elim
  | some z =>
    cases z with
    | none => rw [e] at w; exact w.elim
    | some z =>
      obtain ⟨o, v⟩ := z
      rw [e] at w
      obtain ⟨v', s, h1, h2⟩ := r.vars i o v e
      refine ⟨v', s, ?_⟩
      have gets : ∀ (j : Nat) x, (ρ.set i none)[j]? = some (some x) → ρ[j]? = some (some x) ∧ j ≠ i := fun j x hj => by
        rcases getSet hj with ⟨_, e2, _⟩ | ⟨ne, e2⟩
        · cases e2
        · exact ⟨e2, fun z => ne z.symm⟩
      have r2 : R X.K (ρ.set i none) Hf σ H := r.less fun j x hj => ⟨(gets j x hj).1, rfl⟩
      have s2 : Step ρ Hf σ H (ρ.set i none) Hf σ H := ⟨.rfl', fun _ _ e _ => e, fun _ e => .inl e, fun b ⟨j, y, a1, a2⟩ => .inl ⟨j, y, (gets j _ a1).1, a2⟩, fun _ e => e⟩
      refine w Hf σ H r2 s2 rfl (fun _ _ => rfl) v' ?_ ?_
      · cases o with
        | false => exact h1 rfl
        | true =>
          obtain ⟨p, ob, rfl, a1, a2, a3⟩ := h2 rfl
          refine ⟨p, ob, rfl, a1, a2, a3, fun ⟨j, y, b1, b2⟩ => ?_⟩
          obtain ⟨b3, ne⟩ := gets j _ b1
          exact ne (r.dist j i y v p b3 e b2 s)
      · intro z p ep
        subst ep
        cases o with
        | false => cases z
        | true => exact .inl ⟨i, v, e, s⟩⟩
/-- name = value -/
def setM (i : Nat) (f : M OV) : M Fl := f >>= fun x => put i x.1 x.2 >>= fun _ => pure .nx
theorem readSet {te : TE} {D : Ends} {i : Nat} (hi : i < X.N.length) (hio : i ∉ ios) {σ : Sl} {H : Hp} (hl : σ.length = X.N.length) (ht : ∀ {Q : VK}, tE X.K fe σ H Q → te σ H Q) (hq : tS X.K ios (setM i fe) D σ H) : tAsg te (gName i) D σ H := by
  obtain ⟨ρ, Hf, r, w⟩ := hq
  refine ht ⟨ρ, Hf, r, ?_⟩
  unfold setM at w
  rw [wp_bind] at w
  refine wp_mono w fun x ρ1 w v' Hf1 H1 r1 s1 ro nw => ?_
  have hlen : i < σ.length := by rw [hl]; exact hi
  have w : SQ X.K ios D ρ Hf σ H .nx (ρ1.set i (some (x.1, x.2))) := w
  have fin : ∀ ob, R X.K (ρ1.set i (some (x.1, x.2))) Hf1 (σ.set i (some v')) H1 → (∀ b, Own (ρ1.set i (some (x.1, x.2))) (σ.set i (some v')) b → Own ρ1 σ b ∨ H b = none) → ob → D.nx (σ.set i (some v')) H1 := fun _ r2 ow _ => by
    refine w Hf1 _ H1 r2 ⟨s1.sub, s1.keep, s1.new, fun b o => ?_, s1.there⟩ (by simp) fun j hj => ?_
    · rcases ow b o with z | z
      · exact s1.own b z
      · exact .inr z
    · rw [List.getElem?_set_ne]
      intro e; subst e; exact hio hj
  obtain ⟨o, v⟩ := x
  cases o with
  | false =>
    refine fin True (r1.setF hlen ro) (fun b ⟨j, y, h1, h2⟩ => ?_) trivial
    rcases getSet h1 with ⟨rfl, e2, _⟩ | ⟨ne, e2⟩
    · cases e2
    · rw [List.getElem?_set_ne ne] at h2; exact .inl ⟨j, y, e2, h2⟩
  | true =>
    obtain ⟨p, ob, rfl, a1, a2, a3, a4⟩ := ro
    refine fin True (r1.setO hlen a1 a2 a3 a4) (fun b ⟨j, y, h1, h2⟩ => ?_) trivial
    rcases getSet h1 with ⟨rfl, e2, _⟩ | ⟨ne, e2⟩
    · rw [List.getElem?_set_self hlen] at h2; cases h2
      exact .inr (nw rfl p rfl)
    · rw [List.getElem?_set_ne ne] at h2; exact .inl ⟨j, y, e2, h2⟩
theorem psWeakL {t t' : TS} (h : PS X st t) (k : ∀ D σ H, σ.length = X.N.length → t' D σ H → t D σ H) : PS X st t' := ⟨fun pins s σ H D I q => h.run pins s σ H D I (k D σ H I.len q)⟩
theorem ws_set (i : Nat) {x : Str} {pos' : Pos} (hio : i ∉ ios) (hN : X.N.Nodup) (he : WE X e fe) (hi : X.N[i]? = some x := by rfl) (hx : Loc X.env.scope x := by first | exact Or.inl rfl | exact Or.inr rfl) (hs : swapsWith e (some (.Name x pos')) pos.line X.env = pure false := by rfl)
    (hf : X.fn x = true ∨ X.env.scope.names.lookup x = some .local := by first | exact .inl rfl | exact .inr rfl | assumption) : WS ios X (.Assign [.Name x pos'] e pos) (setM i fe) :=
  ⟨psWeakL (ps_set hN hi hx he.pe hs hf) fun D σ H hl hq => readSet (List.getElem?_eq_some_iff.mp hi).1 hio hl (fun h => h) hq⟩
section
variable {elt tg iter tg1 iter1 : Expr} {ifs ifs1 : List Expr} {scope : Scope} {own : List (Str × Nat)} {vs1 ts1 : List Nat} {spos : Pos} {fi1 : M (List PV)} {h1 : PV → M Unit} {ft ft1 : M Bool} {fe1 : M PV}
theorem ws_setLc (i : Nat) {y : Str} {py : Pos} (hio : i ∉ ios) (hc : X.calm = true) (hN : X.N.Nodup) (hi : WI X tg iter fi) (ok : BlkOk X.N X.env.scope scope own) (hts : ∀ j ∈ ts, j ∈ own.map (·.2))
    (hg : ∀ s H C cl fp, WG (blkOf X scope s H C cl fp) ts tg h) (ht : ∀ s H C cl fp, WTs (blkOf X scope s H C cl fp) ifs ft) (he : ∀ s H C cl fp, WF (blkOf X scope s H C cl fp) elt fe1)
    (hy : X.N[i]? = some y := by rfl) (hyl : X.env.scope.names.lookup y = some .local := by rfl) (hsw : swapsWith (.ListComp elt [⟨tg, iter, ifs, 0⟩] scope pos) (some (.Name y py)) spos.line X.env = pure true := by exact sw_true rfl rfl rfl (by decide +kernel)) (hs : ∀ x, foldedSetIterable iter X.env x = pure x := by intro _; rfl) :
    WS ios X (.Assign [.Name y py] (.ListComp elt [⟨tg, iter, ifs, 0⟩] scope pos) spos) (setM i (lcM fi (own.map (·.2)) h ft fe1)) :=
  ⟨psWeakL (ps_setLc hc hN hy hyl hsw hi.pi ok (fun s H C cl fp => (hg s H C cl fp).pg) (fun s H C cl fp => (ht s H C cl fp).pt) (fun s H C cl fp => (he s H C cl fp).pe) hs) fun D σ H hl hq => readSet (List.getElem?_eq_some_iff.mp hy).1 hio hl (fun q => readLc hts q) hq⟩
theorem ws_setLc2 (i : Nat) {y : Str} {py : Pos} (hio : i ∉ ios) (hc : X.calm = true) (hN : X.N.Nodup) (hi : WI X tg iter fi) (ok : BlkOk X.N X.env.scope scope own) (hv : ∀ i ∈ vs1, i ∈ own.map (·.2)) (hts : ∀ j ∈ ts, j ∈ own.map (·.2)) (hts1 : ∀ j ∈ ts1, j ∈ vs1)
    (hg : ∀ s H C cl fp, WG (blkOf X scope s H C cl fp) ts tg h) (ht : ∀ s H C cl fp, WTs (blkOf X scope s H C cl fp) ifs ft) (hi1 : ∀ s H C cl fp, WI (blkOf X scope s H C cl fp) tg1 iter1 fi1)
    (hg1 : ∀ s H C cl fp, WG (blkOf X scope s H C cl fp) ts1 tg1 h1) (ht1 : ∀ s H C cl fp, WTs (blkOf X scope s H C cl fp) ifs1 ft1) (he : ∀ s H C cl fp, WF (blkOf X scope s H C cl fp) elt fe1)
    (hy : X.N[i]? = some y := by rfl) (hyl : X.env.scope.names.lookup y = some .local := by rfl) (hsw : swapsWith (.ListComp elt [⟨tg, iter, ifs, 0⟩, ⟨tg1, iter1, ifs1, 0⟩] scope pos) (some (.Name y py)) spos.line X.env = pure true := by exact sw_true rfl rfl rfl (by decide +kernel))
    (hs : ∀ x, foldedSetIterable iter X.env x = pure x := by intro _; rfl) (hs1 : ∀ env x, foldedSetIterable iter1 env x = pure x := by intro _ _; rfl) :
    WS ios X (.Assign [.Name y py] (.ListComp elt [⟨tg, iter, ifs, 0⟩, ⟨tg1, iter1, ifs1, 0⟩] scope pos) spos) (setM i (lc2M fi (own.map (·.2)) vs1 h ft fi1 h1 ft1 fe1)) :=
  ⟨psWeakL (ps_setLc2 hc hN hy hyl hsw hi.pi ok hv (fun s H C cl fp => (hg s H C cl fp).pg) (fun s H C cl fp => (ht s H C cl fp).pt) (fun s H C cl fp => (hi1 s H C cl fp).pi) (fun s H C cl fp => (hg1 s H C cl fp).pg) (fun s H C cl fp => (ht1 s H C cl fp).pt) (fun s H C cl fp => (he s H C cl fp).pe) hs hs1)
    fun D σ H hl hq => readSet (List.getElem?_eq_some_iff.mp hy).1 hio hl (fun q => readLc2 hts hts1 hv q) hq⟩
end
/-- a target = value -/
def asgM (f : M PV) (h : PV → M Unit) : M Fl := f >>= fun x => h x >>= fun _ => pure .nx
theorem ws_asg {tg : Expr} (hio : ∀ i ∈ ios, i ∉ ts) (he : WF X e fv) (hg : WG X ts tg h) (hs : swapsWithSole [tg] e pos.line X.env = pure false := by rfl) (hw : swappedStores [tg] e X.env = pure none := by rfl)
    (h1 : (assignEach [tg] X.env).map (·.2) = [assign tg X.env] := by rfl) : WS ios X (.Assign [tg] e pos) (asgM fv h) := ⟨psWeak (ps_asg he.pe hg.pg hs hw h1) fun D σ H ⟨ρ, Hf, r, w⟩ => by
  unfold asgM at w
  rw [wp_bind] at w
  refine ⟨ρ, Hf, r, wp_mono w fun x ρ1 w v' Hf1 H1 r1 s1 p1 => ?_⟩
  rw [wp_bind] at w
  exact ⟨ρ1, Hf1, x, r1, p1, wp_mono w fun _ ρ2 w σ2 r2 s2 l2 o2 => wp_pure.mp w Hf1 σ2 H1 r2 (s1.trans s2) l2 fun i hi => o2 i (hio i hi)⟩⟩
/-- a, b = x, y, stored from the right -/
def parM (i j : Nat) (fs : M (List PV)) : M Fl := fs >>= fun xs => match xs with
  | [x, y] => put i false x >>= fun _ => put j false y >>= fun _ => pure .nx
  | _ => bad
theorem ws_par (i j : Nat) {x y : Str} {px py pt : Pos} {kt k2 pt2} {fs : M (List PV)} (hio : i ∉ ios ∧ j ∉ ios) (hc : X.calm = true) (hN : X.N.Nodup) (ha : WL X [a, b] fs) (hi : X.N[i]? = some x := by rfl) (hj : X.N[j]? = some y := by rfl) (hij : i ≠ j := by decide)
    (hx : X.env.scope.names.lookup x = some .local := by rfl) (hy : X.env.scope.names.lookup y = some .local := by rfl)
    (hw : swappedStores [.Tuple [.Name x px, .Name y py] kt pt] (.Tuple [a, b] k2 pt2) X.env = pure (some [x, y]) := by rfl)
    (hs : swapsWithSole [.Tuple [.Name x px, .Name y py] kt pt] (.Tuple [a, b] k2 pt2) pos.line X.env = pure false := by rfl) :
    WS ios X (.Assign [.Tuple [.Name x px, .Name y py] kt pt] (.Tuple [a, b] k2 pt2) pos) (parM i j fs) := ⟨psWeakL (ps_par hc hN hi hj hij hx hy ha.pa hw hs) fun D σ H hl ⟨ρ, Hf, r, w⟩ => by
  unfold parM at w
  rw [wp_bind] at w
  refine ⟨ρ, Hf, r, wp_mono w fun xs ρ1 w vs Hf1 H1 r1 s1 p1 => ?_⟩
  split at w
  · rename_i u v
    obtain ⟨u', vr, rfl, q1, q2⟩ := p1.cons_inv
    obtain ⟨v', rfl, q3⟩ := reps1 q2
    have hi' : i < σ.length := by rw [hl]; exact (List.getElem?_eq_some_iff.mp hi).1
    have hj' : j < (σ.set i (some u')).length := by rw [List.length_set, hl]; exact (List.getElem?_eq_some_iff.mp hj).1
    have w : SQ X.K ios D ρ Hf σ H .nx ((ρ1.set i (some (false, u))).set j (some (false, v))) := w
    refine ⟨u', v', rfl, w Hf1 _ H1 ((r1.setF hi' q1).setF hj' q3) ((s1.trans .put).trans .put) (by simp) fun m hm => ?_⟩
    rw [List.getElem?_set_ne (by rintro rfl; exact hio.2 hm), List.getElem?_set_ne (by rintro rfl; exact hio.1 hm)]
  · exact w.elim⟩
/-- if -/
theorem ws_if {c : Expr} (hc : WT X c fc) (h1 : WSs ios X body f) (h2 : WSs ios X body2 g) : WS ios X (.If c body body2 pos) (ifM fc f g) := ⟨psWeak (ps_if hc.pt h1.ps h2.ps) fun D σ H ⟨ρ, Hf, r, w⟩ => by
  unfold ifM at w
  rw [wp_bind] at w
  refine ⟨ρ, Hf, r, wp_mono w fun b ρ1 w Hf1 H1 r1 s1 => ?_⟩
  cases b with
  | true =>
    rw [if_pos rfl] at w ⊢
    exact ⟨ρ1, Hf1, r1, wp_mono w fun y ρ2 q => SQ.after s1 rfl (fun _ _ => rfl) q⟩
  | false =>
    rw [if_neg Bool.false_ne_true] at w ⊢
    exact ⟨ρ1, Hf1, r1, wp_mono w fun y ρ2 q => SQ.after s1 rfl (fun _ _ => rfl) q⟩⟩
/-- for -/
def forM (h : PV → M Unit) (f : M Fl) : List PV → M Fl
  | [] => pure .nx
  | x :: xs => h x >>= fun _ => f >>= fun r => match r with
    | .nx => forM h f xs
    | .ct => forM h f xs
    | .bk => pure .nx
    | .rt y => pure (.rt y)
theorem ws_for {tg iter : Expr} (hp : PassesOwn (model X.prog X.w) X.A X.env X.xe) (hc : X.calm = true) (hio : ∀ i ∈ ios, i ∉ ts) (hi : WI X tg iter fi) (hg : WG X ts tg h) (hb : WSs ios X body f)
    (hs : ∀ x, foldedSetIterable iter X.env x = pure x := by intro _; rfl) : WS ios X (.For tg iter body [] pos) (fi >>= forM h f) := ⟨psWeak (ps_for hp hc hi.pi hg.pg hb.ps hs) fun D σ H ⟨ρ, Hf, r, w⟩ => by
  rw [wp_bind] at w
  refine ⟨ρ, Hf, r, wp_mono w fun xs ρ1 w J Hf1 H1 ⟨G, Y, W, hG, hY⟩ r1 s1 => ?_⟩
  refine for_it W (fun i σ2 H2 => ∃ ρ2 Hf2, R X.K ρ2 Hf2 σ2 H2 ∧ Step ρ Hf σ H ρ2 Hf2 σ2 H2 ∧ Bel Hf1 Hf2 ∧ σ2.length = σ.length ∧ (∀ i ∈ ios, σ2[i]? = σ[i]?) ∧ wp (forM h f (xs.drop i)) ρ2 (SQ X.K ios D ρ Hf σ H)) ?_ ?_ ?_ ?_
  · exact ⟨ρ1, Hf1, r1, s1, .rfl', rfl, fun _ _ => rfl, by rw [List.drop_zero]; exact w⟩
  · rintro i σ2 H2 _ ⟨ρ2, Hf2, r2, s2, b2, _⟩
    exact hG H2 (b2.trans r2.sub)
  · rintro i v σ2 H2 H3 hi ⟨ρ2, Hf2, r2, s2, b2, l2, o2, w2⟩ y
    have ex : xs[i]? = some xs[i] := by simp [hi]
    rw [List.drop_eq_getElem_cons hi] at w2
    have res := hY i xs[i] H2 H3 v Hf2 ex b2 r2.sub y
    obtain ⟨Hf3, r3, s3, ro, _⟩ := res.use r2
    unfold forM at w2
    rw [wp_bind] at w2
    refine ⟨ρ2, Hf3, xs[i], r3, ro, wp_mono w2 fun _ ρ4 w2 σ4 r4 s4 l4 o4 => ?_⟩
    rw [wp_bind] at w2
    refine ⟨ρ4, Hf3, r4, wp_mono w2 fun x ρ5 w2 Hf5 σ5 H5 r5 s5 l5 o5 => ?_⟩
    have s35 := ((s2.trans s3).trans s4).trans s5
    have l35 := l5.trans (l4.trans l2)
    have o35 : ∀ i ∈ ios, σ5[i]? = σ[i]? := fun j hj => ((o5 j hj).trans (o4 j (hio j hj))).trans (o2 j hj)
    cases x with
    | nx => exact ⟨ρ5, Hf5, r5, s35, (b2.trans s3.sub).trans s5.sub, l35, o35, w2⟩
    | ct => exact ⟨ρ5, Hf5, r5, s35, (b2.trans s3.sub).trans s5.sub, l35, o35, w2⟩
    | bk => exact wp_pure.mp w2 Hf5 σ5 H5 r5 s35 l35 o35
    | rt z => exact fun v' ro nw => wp_pure.mp w2 Hf5 σ5 H5 r5 s35 l35 o35 v' ro (((s2.trans s3).trans s4).newR nw)
  · rintro σ2 H2 ⟨ρ2, Hf2, r2, s2, b2, l2, o2, w2⟩
    rw [List.drop_length] at w2
    exact wp_pure.mp w2 Hf2 σ2 H2 r2 s2 l2 o2⟩
/-- while -/
def whileN (c : M Bool) (f : M Fl) : Nat → M Fl
  | 0 => bad
  | n + 1 => c >>= fun b => if b = true then f >>= fun r => match r with
      | .nx => whileN c f n
      | .ct => whileN c f n
      | .bk => pure .nx
      | .rt y => pure (.rt y)
    else pure .nx
open Classical in
noncomputable def whileM (c : M Bool) (f : M Fl) : M Fl := fun ρ => if h : ∃ n r, whileN c f n ρ = some r then h.choose_spec.choose else none
theorem whileN_mono {c : M Bool} {f : M Fl} : ∀ {n : Nat} {ρ : Env} {r : Fl × Env}, whileN c f n ρ = some r → ∀ k, whileN c f (n + k) ρ = some r
  | 0, _, _, h, _ => by cases h
  | n + 1, ρ, r, h, k => by
    rw [Nat.succ_add]
    unfold whileN at h ⊢
    rw [bind_eq] at h ⊢
    cases e : c ρ with
    | none => rw [e] at h; cases h
    | some z =>
      obtain ⟨b, ρ1⟩ := z
      rw [e] at h
      cases b with
      | false => exact h
      | true =>
        simp only [if_true] at h ⊢
        rw [bind_eq] at h ⊢
        cases e2 : f ρ1 with
        | none => rw [e2] at h; cases h
        | some z =>
          obtain ⟨x, ρ2⟩ := z
          rw [e2] at h
          cases x with
          | nx => exact whileN_mono h k
          | ct => exact whileN_mono h k
          | bk => exact h
          | rt y => exact h
theorem whileM_of {c : M Bool} {f : M Fl} {n : Nat} {ρ : Env} {r : Fl × Env} (h : whileN c f n ρ = some r) : whileM c f ρ = some r := by
  have hx : ∃ n r, whileN c f n ρ = some r := ⟨n, r, h⟩
  unfold whileM
  rw [dif_pos hx]
  have h2 := hx.choose_spec.choose_spec
  have h3 := whileN_mono h hx.choose
  have h4 := whileN_mono h2 n
  rw [Nat.add_comm] at h4
  rw [h3] at h4
  exact h4.symm
theorem whileM_inv {c : M Bool} {f : M Fl} {ρ : Env} {r : Fl × Env} (h : whileM c f ρ = some r) : ∃ n, whileN c f n ρ = some r := by
  unfold whileM at h
  split at h
  · rename_i hx
    have h2 := hx.choose_spec.choose_spec
    have e : hx.choose_spec.choose = r := by
      have := h
      exact Option.some.inj (by simpa using this)
    exact ⟨hx.choose, by rw [← e]; exact h2⟩
  · cases h
theorem ws_while {c : Expr} (hp : PassesOwn (model X.prog X.w) X.A X.env X.xe) (hc : WT X c fc) (hb : WSs ios X body f) : WS ios X (.While c body [] pos) (whileM fc f) := ⟨psWeak (ps_while hp hc.pt hb.ps) fun D σ H ⟨ρ, Hf, r, w⟩ => by
  obtain ⟨x, ρe, e, w⟩ := wp_iff.mp w
  obtain ⟨n, e⟩ := whileM_inv e
  refine ⟨fun m σ2 H2 => ∃ ρ2 Hf2, R X.K ρ2 Hf2 σ2 H2 ∧ Step ρ Hf σ H ρ2 Hf2 σ2 H2 ∧ σ2.length = σ.length ∧ (∀ i ∈ ios, σ2[i]? = σ[i]?) ∧ wp (whileN fc f m) ρ2 (SQ X.K ios D ρ Hf σ H), ⟨n, ρ, Hf, r, .rfl', rfl, fun _ _ => rfl, wp_some e w⟩, ?_⟩
  rintro m σ2 H2 ⟨ρ2, Hf2, r2, s2, l2, o2, w2⟩
  cases m with
  | zero => exact w2.elim
  | succ m =>
    unfold whileN at w2
    rw [wp_bind] at w2
    refine ⟨ρ2, Hf2, r2, wp_mono w2 fun b ρ3 w2 Hf3 H3 r3 s3 => ?_⟩
    have s23 := s2.trans s3
    dsimp only
    cases b with
    | false =>
      rw [if_neg Bool.false_ne_true] at w2 ⊢
      exact wp_pure.mp w2 Hf3 σ2 H3 r3 s23 l2 o2
    | true =>
      rw [if_pos rfl] at w2 ⊢
      rw [wp_bind] at w2
      refine ⟨fun σ4 H4 => ∃ ρ4 Hf4, R X.K ρ4 Hf4 σ4 H4 ∧ Step ρ Hf σ H ρ4 Hf4 σ4 H4 ∧ σ4.length = σ.length ∧ (∀ i ∈ ios, σ4[i]? = σ[i]?) ∧ wp (whileN fc f m) ρ4 (SQ X.K ios D ρ Hf σ H), fun σ4 H4 q => ⟨m, Nat.lt_succ_self m, q⟩, ρ3, Hf3, r3, wp_mono w2 fun y ρ5 w2 Hf5 σ5 H5 r5 s5 l5 o5 => ?_⟩
      have s25 := s23.trans s5
      have o25 : ∀ i ∈ ios, σ5[i]? = σ[i]? := fun i hi => (o5 i hi).trans (o2 i hi)
      cases y with
      | nx => exact ⟨ρ5, Hf5, r5, s25, l5.trans l2, o25, w2⟩
      | ct => exact ⟨ρ5, Hf5, r5, s25, l5.trans l2, o25, w2⟩
      | bk => exact wp_pure.mp w2 Hf5 σ5 H5 r5 s25 (l5.trans l2) o25
      | rt z => exact fun v' ro nw => wp_pure.mp w2 Hf5 σ5 H5 r5 s25 (l5.trans l2) o25 v' ro (s23.newR nw)⟩
/-- name op= e -/
def IpP (X : Cx) (op : Operator) (g : PV → PV → Option OV) : Prop := PIp X op fun x' y' H Q => ∃ Hf x y r, Bel Hf H ∧ Opd X.K Hf H x' x ∧ Opd X.K Hf H y' y ∧ g x y = some r ∧ ∀ v' H', Res1 X.K Hf H v' H' r → Q v' H'
def augM (i : Nat) (fb : M PV) (g : PV → PV → Option OV) : M Fl := setM i (bin2v i fb g)
theorem ws_aug (i : Nat) {x : Str} {op : Operator} {g : PV → PV → Option OV} {pos' : Pos} (hio : i ∉ ios) (hN : X.N.Nodup) (ho : IpP X op g) (he : WO X e fv) (hi : X.N[i]? = some x := by rfl) (hx : Loc X.env.scope x := by first | exact Or.inl rfl | exact Or.inr rfl)
    (hf : X.fn x = true ∨ X.env.scope.names.lookup x = some .local := by first | exact .inl rfl | exact .inr rfl | assumption) : WS ios X (.AugAssign (.Name x pos') op e pos) (augM i fv g) :=
  ⟨psWeakL (ps_aug hN hi hx he.pe ho hf) fun D σ H hl hq => by
    have slot : ∃ v', σ[i]? = some (some v') := by
      obtain ⟨ρ, Hf, r, w⟩ := hq
      unfold augM setM bin2v at w
      rw [wp_bind, wp_bind] at w
      obtain ⟨o, v, e, _⟩ := look_inv w
      obtain ⟨v', s, _⟩ := r.opd e
      exact ⟨v', s⟩
    obtain ⟨v', s⟩ := slot
    have := readSet (te := fun σ H Q => ∃ v, σ[i]? = some (some v) ∧ tO X.K fv σ H fun y H1 => ∃ Hf x y2 r, Bel Hf H1 ∧ Opd X.K Hf H1 v x ∧ Opd X.K Hf H1 y y2 ∧ g x y2 = some r ∧ ∀ v' H', Res1 X.K Hf H1 v' H' r → Q v' H') (List.getElem?_eq_some_iff.mp hi).1 hio hl (fun q => read2v q) hq
    exact this⟩
theorem ip_of {op : Operator} {g : PV → PV → Option OV} (h : OpP X (inplaceOp op) g) : IpP X op g := fun pins s σ H x' y' v u Q I rx ry q => h pins s σ H x' y' v u Q I rx ry q
/-- for +=: no lists -/
def iaddP : PV → PV → Option OV
  | .int i, .int j => fl (.int (i + j))
  | .str a, .str b => when (fits (a.length + b.length)) (fl (.str (a ++ b)))
  | _, _ => none
theorem p_iadd : IpP X .Add iaddP := ip_of (fun pins s σ H x' y' v u Q I rx ry ⟨Hf, x, y, r, sb, ox, oy, e, q⟩ => by
  unfold iaddP at e
  split at e
  · cases e; exact iop_add pins s σ H x' y' v u Q I rx ry ⟨_, _, opd_int ox, opd_int oy, q _ _ (.same rep_int)⟩
  · obtain ⟨c, e⟩ := when_some e
    cases e
    exact iop_add_str pins s σ H x' y' v u Q I rx ry ⟨_, _, opd_str ox, opd_str oy, of_decide_eq_true c, q _ _ (.same rep_str)⟩
  · cases e)
theorem p_isub : IpP X .Sub subP := ip_of (intOp0 (k' := fun i j => .int (i - j)) iop_sub (fun x y r e => by unfold subP at e; split at e <;> first | (cases e; exact ⟨_, _, rfl, rfl, rfl⟩) | cases e) fun _ _ _ _ => rep_int)
end
/-! ### o[i] = v, o[i] op= v, an own object o -/
def dputK (ks : List PV) (k : PV) : List PV := match dFind ks k with
  | some _ => ks
  | none => ks ++ [k]
def dputV (ks vs : List PV) (k v : PV) : List PV := match dFind ks k with
  | some _ => (ks.zip vs).map fun p => if keyEq p.1 k then v else p.2
  | none => vs ++ [v]
/-- x[k] = v -/
def setV (x k v : PV) : Option PV := match x, k with
  | .lst xs, .int i => (ixN xs.length i).map fun j => .lst (xs.set j v)
  | .dic ks vs, k => if kindOk ks k && decide (ks.length < sizeLine) then some (.dic (dputK ks k) (dputV ks vs k v)) else none
  | _, _ => none
def rSetV (K : PySem.W.Frag) : V → V → V → Hp → (Hp → Prop) → Prop := fun o' k' v' H Q => ∃ Hf p ob x k v y, o' = .ref p ∧ H p = some ob ∧ Hf p = none ∧ Bel Hf H ∧ Cell K Hf ob x ∧ Opd K Hf H k' k ∧ Rep K Hf v' v ∧ setV x k v = some y ∧ ∀ ob', Cell K Hf ob' y → Q (upd H p ob')
section
variable {X : Cx}
theorem any_find {κ : Type} [DecidableEq κ] (k : κ) (kk : List κ) (ws : List V) (hl : kk.length = ws.length) : ((kk.zip ws).any fun kv => decide (kv.1 = k)) = (kk.findIdx? fun x => decide (x = k)).isSome := by
  rw [valV_any, valV_find k kk ws hl]
  cases e : kk.findIdx? fun x => decide (x = k) with
  | none => rfl
  | some i =>
    obtain ⟨h, _⟩ := List.findIdx?_eq_some_iff_getElem.mp e
    have : i < ws.length := by omega
    simp [this]
/-- what a store makes of the pairs -/
theorem put_zip {κ : Type} [DecidableEq κ] {K : PySem.W.Frag} {Hf : Hp} (f : κ → PV) (hf : ∀ a b, keyEq (f a) (f b) = decide (a = b)) (k : κ) {v' : V} {v : PV} (hv : Rep K Hf v' v) :
    ∀ (kk : List κ) (ws : List V) (vs : List PV), kk.length = ws.length → Reps K Hf ws vs → ∃ (kk' : List κ) (ws' : List V), putK (kk.zip ws) k v' = kk'.zip ws' ∧ kk'.length = ws'.length ∧ dputK (kk.map f) (f k) = kk'.map f ∧ Reps K Hf ws' (dputV (kk.map f) vs (f k) v) := by
  intro kk ws vs hl rv
  have ef : dFind (kk.map f) (f k) = kk.findIdx? fun x => decide (x = k) := findIdx_map f _ _ (fun x => hf x k) kk
  unfold putK dputK dputV
  rw [any_find k kk ws hl, ef]
  cases e : kk.findIdx? fun x => decide (x = k) with
  | none =>
    refine ⟨kk ++ [k], ws ++ [v'], ?_, by simp [hl], by simp, rv.append (.cons hv .nil)⟩
    simp [List.zip_append hl]
  | some i =>
    simp only [Option.isSome_some, if_true]
    refine ⟨kk, (kk.zip ws).map fun p => if p.1 = k then v' else p.2, ?_, by simp [hl], rfl, ?_⟩
    · clear e ef rv
      induction kk generalizing ws with
      | nil => rfl
      | cons a kk ih =>
        cases ws with
        | nil => cases hl
        | cons w ws =>
          rw [List.zip_cons_cons, List.map_cons, List.map_cons, List.zip_cons_cons, ih ws (by simpa using hl)]
          by_cases ea : a = k <;> simp [ea]
    · clear e ef
      induction kk generalizing ws vs with
      | nil => exact .nil
      | cons a kk ih =>
        cases ws with
        | nil => cases hl
        | cons w ws =>
          cases vs with
          | nil => have := rv.length; cases this
          | cons x vs =>
            obtain ⟨w0, r, ew, h1, h2⟩ := rv.cons_inv
            cases ew
            rw [List.zip_cons_cons, List.map_cons, List.map_cons, List.zip_cons_cons, List.map_cons]
            refine .cons ?_ (ih ws vs (by simpa using hl) h2)
            simp only [hf]
            by_cases ea : a = k
            · simp only [ea, decide_true, if_true]; exact hv
            · simp only [ea, decide_false, Bool.false_eq_true, if_false]; exact h1
theorem L2inv_retype {pins : List (Addr × Obj)} {s : Shared} {σ : Sl} {H : Hp} {a : Addr} (I : L2.Inv X pins σ H s) (h : H a = some (.dK [])) : L2.Inv X pins σ (upd H a (.dT [])) s := by
  obtain ⟨z, hd, vs, rel, ⟨o, es, ep, h1, h2, h3, h4, h5, h6⟩⟩ := dk_of I.hok h
  cases rel
  have e : es.toList = [] := by
    generalize es.toList = l at h5
    cases h5; rfl
  have J := d_write (t' := s.toks) (h' := s.heap) (ob := .dT []) I (by rw [h]; trivial) ⟨rfl, fun _ _ => rfl⟩ ⟨o, h1⟩ ⟨Nat.zero_le _, hd, [], .nil, o, es, ep, h1, h2, h3, e, List.nodup_nil⟩
  exact J
theorem set_all (hu : X.A.units + 1 < cLine) : PSet X (rSetV X.K) := by
  intro pins s σ H o' k' v' ov iv u Q I ro rk rv ⟨Hf, p, ob, x, k, v, y, eo, hp, hfp, sb, cx, ok, rep, e, q⟩
  subst eo
  cases x with
  | lst xs =>
   cases k with
   | int i =>
    have e : ((ixN xs.length i).map fun j => PV.lst (xs.set j v)) = some y := e
    obtain ⟨j, e1, rfl⟩ := Option.map_eq_some_iff.mp e
    obtain ⟨ws, rfl, rw'⟩ := cx
    rw [← rw'.length] at e1
    exact set_list pins s σ H _ k' v' ov iv u Q I ro rk rv ⟨p, ws, i, j, rfl, opd_int ok, hp, e1, q _ ⟨ws.set j v', rfl, rw'.set j rep⟩⟩
   | _ => cases e
  | dic ks vs =>
    have e : (if (kindOk ks k && decide (ks.length < sizeLine)) = true then some (PV.dic (dputK ks k) (dputV ks vs k v)) else none) = some y := e
    split at e
    · rename_i c
      obtain ⟨c1, c2⟩ := Bool.and_eq_true_iff.mp c
      have c2 := of_decide_eq_true c2
      cases e
      obtain ⟨ws, rw', h⟩ := cx
      cases (show ov = Value.ref p from ro)
      rcases h with ⟨kk, rfl, hl, rfl⟩ | ⟨kk, n, rfl, hl, rfl⟩
      · cases ek : keyOf k with
        | none => cases kk <;> simp [kindOk, ek, keyOf_kP] at c1
        | some qq =>
          cases qq with
          | inl key =>
            have e := kP_of ek
            subst e
            have ek := ok.key1
            subst ek
            obtain ⟨kk', ws', e1, e2, e3, e4⟩ := put_zip kP keyEq_kP key rep kk ws vs hl rw'
            have hz : (kk.zip ws).length < sizeLine := by rw [List.length_zip, hl, Nat.min_self]; rw [List.length_map] at c2; omega
            refine d_setItem hu I (DPut.k (k := key) (v := v') hp hz) rk rv fun s' I' => ⟨_, I', ?_⟩
            rw [e1]
            exact q _ ⟨ws', e4, .inl ⟨kk', rfl, e2, e3⟩⟩
          | inr l =>
            cases kk with
            | cons x _ => simp [kindOk, ek, keyOf_kP] at c1
            | nil =>
              have e := tup_of ek
              subst e
              cases ws with
              | cons _ _ => cases hl
              | nil =>
              cases vs with
              | cons _ _ => have := rw'.length; cases this
              | nil =>
              obtain ⟨b, us, rfl, hb, hb', rb⟩ := opd_tup sb ok
              have := rb.keys
              subst this
              have I2 := L2inv_retype I hp
              have bp : b ≠ p := fun z => by rw [z, hp] at hb; cases hb
              refine d_setItem hu I2 (DPut.t (kvs := []) (k := l) (v := v') upd_same (by rw [upd_ne bp]; exact hb) (by rw [sizeLine_eq]; decide)) rk rv fun s' I' => ⟨_, I', ?_⟩
              rw [upd_upd]
              refine q _ ⟨[v'], .cons rep .nil, .inr ⟨[l], by simp, rfl, rfl, rfl⟩⟩
      · cases kk with
        | nil => exact absurd rfl n
        | cons y0 kk =>
          cases ek : keyOf k with
          | none => simp [kindOk, ek, keyOf_tup] at c1
          | some qq =>
            cases qq with
            | inl key => simp [kindOk, ek, keyOf_tup] at c1
            | inr l =>
              have e := tup_of ek
              subst e
              obtain ⟨b, us, rfl, hb, hb', rb⟩ := opd_tup sb ok
              have := rb.keys
              subst this
              obtain ⟨kk', ws', e1, e2, e3, e4⟩ := put_zip (fun l : List Key => PV.tup (l.map kP)) keyEq_tup l rep (y0 :: kk) ws vs hl rw'
              have hz : ((y0 :: kk).zip ws).length < sizeLine := by rw [List.length_zip, hl, Nat.min_self]; rw [List.length_map] at c2; omega
              refine d_setItem hu I (DPut.t (k := l) (v := v') hp hb hz) rk rv fun s' I' => ⟨_, I', ?_⟩
              rw [e1]
              refine q _ ⟨ws', e4, .inr ⟨kk', ?_, rfl, e2, e3⟩⟩
              intro z
              subst z
              have := congrArg List.length e3
              unfold dputK at this
              split at this <;> simp at this
    · cases e
  | _ => exact cx.elim
end
end MC
set_option Elab.async false
set_option linter.all false
set_option maxRecDepth 100000
set_option maxHeartbeats 4000000
namespace MC
open PySem PySem.Spec L2
open PyProof.Rows (b2i)

/-! ### stores into an own object -/
def ownsAny (i : Nat) : M Unit := fun ρ => match ρ[i]? with
  | some (some (true, _)) => some ((), ρ)
  | _ => none
theorem ownsAny_inv {i : Nat} {ρ : Env} {P : Unit → Env → Prop} (h : wp (ownsAny i) ρ P) : ∃ x, ρ[i]? = some (some (true, x)) ∧ P () ρ := by
  unfold wp ownsAny at h
  cases e : ρ[i]? with
  | none => rw [e] at h; exact h.elim
  | some z =>
    cases z with
    | none => rw [e] at h; exact h.elim
    | some z =>
      obtain ⟨o, x⟩ := z
      cases o with
      | false => rw [e] at h; exact h.elim
      | true => rw [e] at h; exact ⟨x, rfl, h⟩
def store (i : Nat) (k v : PV) : M Unit := change i fun x => (setV x k v).map fun y => ((), y)
def setIxM (i : Nat) (fv fk : M PV) : M Fl := fv >>= fun v => ownsAny i >>= fun _ => fk >>= fun k => store i k v >>= fun _ => pure .nx
def getV : PV → PV → Option PV
  | .lst xs, .int i => atI xs i
  | .dic ks vs, k => if kindOk ks k then dGet ks vs k else none
  | _, _ => none
def augIxM (i : Nat) (fk fe : M PV) (g : PV → PV → Option OV) : M Fl := ownsAny i >>= fun _ => fk >>= fun k => look i >>= fun x => lift (getV x k) >>= fun old => fe >>= fun v => lift ((g old v).bind fun z => if z.1 = false ∧ z.2.flat = true then some z.2 else none) >>= fun new => store i k new >>= fun _ => pure .nx
section
variable {X : Cx} {ios : List Nat} {o k e : Expr} {fv fk fe : M PV} {pos tpos : Pos} {i : Nat}
theorem store_q {K : PySem.W.Frag} {D : Ends} {ρ ρ2 : Env} {Hf Hf2 : Hp} {σ : Sl} {H H2 : Hp} {kv vv : PV} {o' k' v' : V} (s2 : Step ρ Hf σ H ρ2 Hf2 σ H2) (r2 : R K ρ2 Hf2 σ H2) (so : σ[i]? = some (some o')) (hk : Opd K Hf2 H2 k' kv) (hv : Rep K Hf2 v' vv)
    (w : wp (store i kv vv >>= fun _ => (pure .nx : M Fl)) ρ2 (SQ K ios D ρ Hf σ H)) : rSetV K o' k' v' H2 fun H3 => D.nx σ H3 := by
  unfold store at w
  rw [wp_bind] at w
  obtain ⟨x, a, y, e1, e2, w⟩ := change_inv w
  obtain ⟨y', e3, e4⟩ := Option.map_eq_some_iff.mp e2
  cases e4
  obtain ⟨p, ob, s', hn, hp, c⟩ := r2.own e1
  rw [so] at s'; cases s'
  refine ⟨Hf2, p, ob, x, kv, vv, y, rfl, hp, hn, r2.sub, c, hk, hv, e3, fun ob' c' => ?_⟩
  exact wp_pure.mp w Hf2 σ _ (r2.write e1 so c') (s2.trans (.write r2 e1 so)) rfl fun _ _ => rfl
theorem ws_setIx (hu : X.A.units + 1 < cLine) (ho : PE X o (tVar i)) (hk : WO X k fk) (he : WF X e fv) (hs : swapsWithSole [.Subscript o k tpos] e pos.line X.env = pure false := by rfl) (hw : swappedStores [.Subscript o k tpos] e X.env = pure none := by rfl)
    (h1 : (assignEach [.Subscript o k tpos] X.env).map (·.2) = [assign (.Subscript o k tpos) X.env] := by rfl)
    (ha : ∀ v, assign (.Subscript o k tpos) X.env v = (do
      let ov ← holding [v] (eval o X.env)
      let iv ← holding [v, ov] (eval k X.env)
      standAt tpos
      holding [v, ov, iv] (setItem ov iv v)
      release [v, ov, iv] []) := by intro _; rfl) : WS ios X (.Assign [.Subscript o k tpos] e pos) (setIxM i fv fk) := ⟨psWeak (ps_asg he.pe (pg_sub ho hk.pe (set_all hu) ha) hs hw h1) fun D σ H ⟨ρ, Hf, r, w⟩ => by
  unfold setIxM at w
  rw [wp_bind] at w
  refine ⟨ρ, Hf, r, wp_mono w fun v ρ1 w v' Hf1 H1 r1 s1 p1 => ?_⟩
  rw [wp_bind] at w
  obtain ⟨x0, e0, w⟩ := ownsAny_inv w
  obtain ⟨p, ob, so, _, _, _⟩ := r1.own e0
  refine ⟨.ref p, so, ?_⟩
  rw [wp_bind] at w
  refine ⟨ρ1, Hf1, r1, wp_mono w fun kv ρ2 w k' Hf2 H2 r2 s2 p2 => ?_⟩
  exact store_q (s1.trans s2) r2 so p2 (p1.sub s2.sub) w⟩
theorem get_all (hu : X.A.units + 1 < cLine) : PGet X fun o' k' H Q => ∃ Hf x k y, Bel Hf H ∧ Opd X.K Hf H o' x ∧ Opd X.K Hf H k' k ∧ getV x k = some y ∧ ∀ v', Rep X.K Hf v' y → Q v' H := by
  intro pins s σ H o' k' ov iv Q I ro rk ⟨Hf, x, k, y, sb, ox, ok, e, q⟩
  cases x with
  | lst xs =>
    cases k with
    | int j =>
      have e : atI xs j = some y := e
      obtain ⟨a, vs, rfl, ha, ra⟩ := opd_lst ox
      rw [opd_int ok] at rk
      obtain ⟨t, rfl⟩ := rk
      cases (show ov = Value.ref a from ro)
      obtain ⟨z, ez, hz⟩ := reps_at ra e
      obtain ⟨its, r, pl, hl⟩ := I.list (SqL.of ha)
      obtain ⟨m, h1, h2, h3, h4, h5⟩ := atI_get ez
      obtain ⟨w, ew, rw'⟩ := r.get h2
      have hlen := r.length
      have hn := line63
      have fin : EP X pins σ Q w s := ⟨z, H, I, rw', q z hz⟩
      by_cases h0 : 0 ≤ j
      · have hj : j.toNat = m := by
          rw [seqIndex_of h0 h5] at h1
          exact Option.some.inj h1
        exact wpAny_getItem_list pl.isList h0 (by omega) (by rw [hj]; simpa using ew) fin
      · have hj : (j + (its.toArray.size : Int)).toNat = m := by
          rw [seqIndex_neg (by omega) h4] at h1
          rw [List.size_toArray, ← hlen]
          exact Option.some.inj h1
        exact wpAny_getItem_list_neg pl.isList (by omega) (by rw [List.size_toArray] <;> omega) (by omega) (by rw [hj]; simpa using ew) fin
    | _ => cases e
  | dic ks vs =>
    have e : (if kindOk ks k = true then dGet ks vs k else none) = some y := e
    split at e
    · rename_i hk
      obtain ⟨a, rfl, h⟩ := dget_of sb ox ok hk
      cases (show ov = Value.ref a from ro)
      rcases h with ⟨o, hg, k1, k2⟩ | ⟨_, hz⟩
      · cases o with
        | none => rw [k2 rfl] at e; cases e
        | some w =>
          obtain ⟨z2, e2, hw⟩ := k1 w rfl
          rw [e] at e2; cases e2
          exact d_getItem hu I hg rk fun w' s' I' rw' => ⟨w, H, I', rw', q w hw⟩
      · rw [hz] at e; cases e
    · cases e
  | _ => cases k <;> cases e
theorem ws_augIx {op : Operator} {g : PV → PV → Option OV} (hu : X.A.units + 1 < cLine) (hop : IpP X op g) (ho : PE X o (tVar i)) (hk : WF X k fk) (he : WF X e fe)
    (ha : ∀ ov iv new, augStore k ov iv new = (do holding [new, ov, iv] (setItem ov iv new); release [new, ov, iv] []; pure .next) := by intros; rfl) : WS ios X (.AugAssign (.Subscript o k tpos) op e pos) (augIxM i fk fe g) :=
  ⟨psWeak (ps_augS ho hk.pe (get_all hu) he.pe hop (set_all hu) ha) fun D σ H ⟨ρ, Hf, r, w⟩ => by
  unfold augIxM at w
  rw [wp_bind] at w
  obtain ⟨x0, e0, w⟩ := ownsAny_inv w
  obtain ⟨p, ob, so, _, _, _⟩ := r.own e0
  refine ⟨.ref p, so, ?_⟩
  rw [wp_bind] at w
  refine ⟨ρ, Hf, r, wp_mono w fun kv ρ2 w k' Hf2 H2 r2 s2 p2 => ?_⟩
  rw [wp_bind] at w
  obtain ⟨o1, x1, e1, w⟩ := look_inv w
  obtain ⟨v1, so1, ox⟩ := r2.opd e1
  rw [so] at so1; cases so1
  rw [wp_bind, wp_lift] at w
  obtain ⟨old, eo, w⟩ := w
  refine ⟨Hf2, x1, kv, old, r2.sub, ox, Rep.opd r2.sub p2, eo, fun v' hv' => ?_⟩
  rw [wp_bind] at w
  refine ⟨ρ2, Hf2, r2, wp_mono w fun z ρ3 w z' Hf3 H3 r3 s3 p3 => ?_⟩
  rw [wp_bind, wp_lift] at w
  obtain ⟨new, en, w⟩ := w
  obtain ⟨zz, eg, ez⟩ := Option.bind_eq_some_iff.mp en
  refine ⟨Hf3, old, z, zz, r3.sub, Rep.opd r3.sub (hv'.sub s3.sub), Rep.opd r3.sub p3, eg, fun w' H4 res => ?_⟩
  split at ez
  · rename_i c
    cases ez
    obtain ⟨Hf4, r4, s4, ro, _⟩ := res.use r3
    obtain ⟨oo, vv⟩ := zz
    obtain ⟨c1, c2⟩ := c
    cases c1
    exact store_q ((s2.trans s3).trans s4) r4 so (Rep.opd r4.sub (p2.sub (s3.sub.trans s4.sub))) ro w
  · cases ez⟩
end

/-! ### defs -/
/-- the arguments as the first slots -/
def argE (ios : List Nat) : Nat → List PV → Env
  | _, [] => []
  | k, x :: r => some (decide (k ∈ ios), x) :: argE ios (k + 1) r
theorem argE_get {ios : List Nat} : ∀ {k : Nat} {xs : List PV} {i : Nat}, (argE ios k xs)[i]? = xs[i]?.map fun x => some (decide (k + i ∈ ios), x)
  | _, [], _ => by simp [argE]
  | k, x :: r, 0 => by simp [argE]
  | k, x :: r, i + 1 => by
    unfold argE
    rw [List.getElem?_cons_succ, argE_get, List.getElem?_cons_succ]
    have : k + 1 + i = k + (i + 1) := by omega
    rw [this]
def outs (ρ : Env) : List Nat → Option (List PV)
  | [] => some []
  | i :: is => match ρ[i]? with
    | some (some (true, x)) => (outs ρ is).map (x :: ·)
    | _ => none
/-- behind a call -/
structure Done (K : PySem.W.Frag) (ios : List Nat) (vs : List V) (zs : List PV) (Hf H Hf' H' : Hp) : Prop where
  sub : Bel Hf Hf'
  sub' : Bel Hf' H'
  keep : ∀ b o, H b = some o → (∀ i ∈ ios, vs[i]? ≠ some (.ref b)) → H' b = some o
  new : ∀ b, Hf' b ≠ none → Hf b ≠ none ∨ H b = none
  there : ∀ b, H b ≠ none → H' b ≠ none
  io : ∀ (j i : Nat) (z : PV), ios[j]? = some i → zs[j]? = some z → ∃ p ob, vs[i]? = some (.ref p) ∧ H' p = some ob ∧ Cell K Hf' ob z
/-- the value's place behind a call -/
def RV (K : PySem.W.Frag) (Hf H : Hp) (v' : V) : OV → Prop
  | (false, v) => Rep K Hf v' v
  | (true, v) => ∃ p ob, v' = .ref p ∧ Hf p = none ∧ H p = some ob ∧ Cell K Hf ob v
abbrev Fn := List PV → Option (OV × List PV)
def spOf (K : PySem.W.Frag) (n : Nat) (ios : List Nat) (F : Fn) : Sp := fun vs H Q _ => vs.length = n ∧ ∃ Hf xs, xs.length = n ∧ R K (argE ios 0 xs) Hf (vs.map some) H ∧ ∃ y zs, F xs = some (y, zs) ∧
  ∀ v' Hf' H', Done K ios vs zs Hf H Hf' H' → RV K Hf' H' v' y → NewO H v' y → Q v' H'
/-- what a body makes of its arguments; N slots -/
def runF (N : Nat) (ios : List Nat) (f : M Fl) : Fn := fun xs => match f (argE ios 0 xs ++ List.replicate (N - xs.length) none) with
  | some (.rt y, ρ) => (outs ρ ios).map fun zs => (y, zs)
  | some (.nx, ρ) => (outs ρ ios).map fun zs => ((false, .non), zs)
  | _ => none
theorem outs_get {ρ : Env} : ∀ {ios : List Nat} {zs : List PV}, outs ρ ios = some zs → zs.length = ios.length ∧ ∀ (j i : Nat) (z : PV), ios[j]? = some i → zs[j]? = some z → ρ[i]? = some (some (true, z))
  | [], zs, h => by cases h; exact ⟨rfl, fun j i z e => by simp at e⟩
  | i :: is, zs, h => by
    unfold outs at h
    split at h
    · rename_i x e
      obtain ⟨r, e2, rfl⟩ := Option.map_eq_some_iff.mp h
      obtain ⟨h1, h2⟩ := outs_get e2
      refine ⟨by simp [h1], fun j i' z a b => ?_⟩
      cases j with
      | zero => simp at a b; subst a; subst b; exact e
      | succ j => exact h2 j i' z (by simpa using a) (by simpa using b)
    · cases h
section
variable {P : Program} {w : World} {K : PySem.W.Frag} {mg : Str → Option Value} {base : Heap}
theorem fn_ok {x qual : Str} {st : Stmt} {f : Addr} {fd : FuncData} {N ps : List Str} {k : Nat} {ios : List Nat} {fb : M Fl} (F : Fun K x qual st f fd) (S : FnScope N ps (defScope st)) (hio : ∀ i ∈ ios, i < ps.length)
    (hbody : ∀ (cdv : Value) (A : Around) (outer : List PySem.Env) (s : Shared) (H : Hp) (E : XK), Room k (A.deeper (PyProof.Rows.envOfC qual (defScope st) s.heap.objs.size f cdv)) →
      WSs ios (cxOf CX0 P w K mg base N qual (defScope st) f cdv A outer s H E).nox (defBody st) fb) : FnOk P w K mg base CX0 (k + 1) f fd ps (spOf K ps.length ios (runF N.length ios fb)) := by
  refine F.ok S (fun vs H Q E h => h.1) fun cdv A outer s H vs Q E hr h => ?_
  refine ⟨_, (hbody cdv A outer s H E hr).ps, ?_⟩
  obtain ⟨hl, Hf, xs, hxl, r, y, zs, e, q⟩ := h
  have hpl : ps.length ≤ N.length := by have := congrArg List.length S.pre; rw [List.length_take] at this; omega
  have lenA : (argE ios 0 xs).length = xs.length := by
    have : ∀ (k : Nat) (xs : List PV), (argE ios k xs).length = xs.length := by
      intro k xs
      induction xs generalizing k with
      | nil => rfl
      | cons x xs ih => simp [argE, ih]
    exact this 0 xs
  -- the entry's state
  have ent : ∀ (i : Nat) z, (argE ios 0 xs ++ List.replicate (N.length - xs.length) none)[i]? = some (some z) → (argE ios 0 xs)[i]? = some (some z) ∧ (start N vs)[i]? = (vs.map some)[i]? := fun i z hz => by
    have hi : i < (argE ios 0 xs).length := by
      by_cases hi : i < (argE ios 0 xs).length
      · exact hi
      · rw [List.getElem?_append_right (by omega), List.getElem?_replicate] at hz
        split at hz <;> cases hz
    rw [List.getElem?_append_left hi] at hz
    refine ⟨hz, ?_⟩
    unfold L2.start
    rw [List.getElem?_append_left (by rw [List.length_map]; omega)]
  have r0 : R K (argE ios 0 xs ++ List.replicate (N.length - xs.length) none) Hf (start N vs) H := r.less ent
  have ow : ∀ b, Own (argE ios 0 xs ++ List.replicate (N.length - xs.length) none) (start N vs) b → ∃ i ∈ ios, vs[i]? = some (.ref b) := fun b ⟨i, v, h1, h2⟩ => by
    obtain ⟨e1, e2⟩ := ent i _ h1
    rw [argE_get] at e1
    obtain ⟨z, _, e3⟩ := Option.map_eq_some_iff.mp e1
    have e3 := Option.some.inj e3
    have : decide (0 + i ∈ ios) = true := congrArg Prod.fst e3
    have := of_decide_eq_true this
    rw [Nat.zero_add] at this
    refine ⟨i, this, ?_⟩
    rw [e2, List.getElem?_map] at h2
    obtain ⟨u, e4, e5⟩ := Option.map_eq_some_iff.mp h2
    rw [e4, Option.some.inj e5]
  refine ⟨_, Hf, r0, ?_⟩
  unfold runF at e
  -- what every end needs
  have fin : ∀ (y : OV) (zs : List PV) (ρ' : Env), outs ρ' ios = some zs → (∀ v' Hf' H', Done K ios vs zs Hf H Hf' H' → RV K Hf' H' v' y → NewO H v' y → Q v' H') → ∀ Hf' σ' H' v', R K ρ' Hf' σ' H' → Step (argE ios 0 xs ++ List.replicate (N.length - xs.length) none) Hf (start N vs) H ρ' Hf' σ' H' → (∀ i ∈ ios, σ'[i]? = (start N vs)[i]?) →
      RO K ρ' Hf' σ' H' v' y → NewR (argE ios 0 xs ++ List.replicate (N.length - xs.length) none) (start N vs) H v' y → Q v' H' := fun y zs ρ' eo q Hf' σ' H' v' r' s' o' ro nw => by
    obtain ⟨lz, hz⟩ := outs_get eo
    have own' : ∀ i ∈ ios, ∀ b, vs[i]? = some (.ref b) → Own ρ' σ' b := fun i hi b hb => by
      obtain ⟨j, hj⟩ := List.getElem?_of_mem hi
      have jl : j < zs.length := by rw [lz]; exact (List.getElem?_eq_some_iff.mp hj).1
      refine ⟨i, zs[j], hz j i zs[j] hj (by simp [jl]), ?_⟩
      rw [o' i hi]
      unfold L2.start
      have il : i < vs.length := (List.getElem?_eq_some_iff.mp hb).1
      rw [List.getElem?_append_left (by rw [List.length_map]; exact il), List.getElem?_map, hb]
      rfl
    refine q v' Hf' H' ⟨s'.sub, r'.sub, fun b o hb hn => s'.keep b o hb fun w => ?_, fun b hb => ?_, s'.there, fun j i z hj hzj => ?_⟩ ?_ fun hy p ep => ?_
    · obtain ⟨i, hi, e⟩ := ow b w
      exact hn i hi e
    · rcases s'.new b hb with w | w | w
      · exact .inl w
      · obtain ⟨i, hi, e⟩ := ow b w
        exact absurd ((own' i hi b e).slot r').1 hb
      · exact .inr w
    · obtain ⟨p, ob, so, a1, a2, a3⟩ := r'.own (hz j i z hj hzj)
      have hi : i ∈ ios := List.mem_of_getElem? hj
      rw [o' i hi] at so
      refine ⟨p, ob, ?_, a2, a3⟩
      unfold L2.start at so
      have il : i < vs.length := by rw [hl]; exact hio i hi
      rw [List.getElem?_append_left (by rw [List.length_map]; exact il), List.getElem?_map] at so
      obtain ⟨u, e4, e5⟩ := Option.map_eq_some_iff.mp so
      rw [e4, Option.some.inj e5]
    · obtain ⟨oo, v⟩ := y
      cases oo with
      | false => exact ro
      | true => obtain ⟨p, ob, a, b, c, d, _⟩ := ro; exact ⟨p, ob, a, b, c, d⟩
    · rcases nw hy p ep with w | w
      · obtain ⟨i, hi, e⟩ := ow p w
        obtain ⟨oo, v⟩ := y
        cases hy
        obtain ⟨p', ob, e2, _, _, _, no⟩ := ro
        rw [ep] at e2; cases e2
        exact absurd (own' i hi p e) no
      · exact w
  split at e
  · rename_i y' ρ' ef
    obtain ⟨zs', eo, e2⟩ := Option.map_eq_some_iff.mp e
    cases e2
    exact wp_some ef fun Hf' σ' H' r' s' _ o' v' ro nw => fin y zs ρ' eo q Hf' σ' H' v' r' s' o' ro nw
  · rename_i ρ' ef
    obtain ⟨zs', eo, e2⟩ := Option.map_eq_some_iff.mp e
    cases e2
    exact wp_some ef fun Hf' σ' H' r' s' _ o' => fin (false, .non) zs ρ' eo q Hf' σ' H' .non r' s' o' (show Rep K Hf' .non .non from rep_non) fun z => nomatch z
  · cases e
end
end MC
set_option Elab.async false
set_option linter.all false
set_option maxRecDepth 100000
set_option maxHeartbeats 4000000
namespace MC
open PySem PySem.Spec L2
open PyProof.Rows (b2i)

/-! ### a def called -/
inductive Arg where
  | val (v : PV) | slot (i : Nat)
def ArgsRep (K : PySem.W.Frag) (Hf : Hp) (σ : Sl) : List V → List Arg → Prop
  | vs, [] => vs = []
  | vs, .val x :: r => ∃ v vr, vs = v :: vr ∧ Rep K Hf v x ∧ ArgsRep K Hf σ vr r
  | vs, .slot i :: r => ∃ v vr, vs = v :: vr ∧ σ[i]? = some (some v) ∧ ArgsRep K Hf σ vr r
theorem ArgsRep.sub {K : PySem.W.Frag} {Hf Hf' : Hp} {σ : Sl} (s : Bel Hf Hf') : ∀ {as : List Arg} {vs : List V}, ArgsRep K Hf σ vs as → ArgsRep K Hf' σ vs as
  | [], _, h => h
  | .val x :: r, _, ⟨v, vr, e, h1, h2⟩ => ⟨v, vr, e, h1.sub s, ArgsRep.sub s h2⟩
  | .slot i :: r, _, ⟨v, vr, e, h1, h2⟩ => ⟨v, vr, e, h1, ArgsRep.sub s h2⟩
def tAs (K : PySem.W.Frag) (f : M (List Arg)) : TA := fun σ H Q => ∃ ρ Hf, R K ρ Hf σ H ∧ wp f ρ fun as ρ' => ∀ vs Hf' H', R K ρ' Hf' σ H' → Step ρ Hf σ H ρ' Hf' σ H' → ArgsRep K Hf' σ vs as → Q vs H'
structure WAs (X : Cx) (es : List Expr) (f : M (List Arg)) : Prop where
  pa : PA X es (tAs X.K f)
section
variable {X : Cx} {e : Expr} {es : List Expr} {f : M PV} {g : M (List Arg)} {i : Nat}
theorem was_nil : WAs X [] (pure []) := ⟨paWeak pa_nil fun σ H Q ⟨ρ, Hf, r, w⟩ => wp_pure.mp w [] Hf H r .rfl' rfl⟩
def valM (f : M PV) (g : M (List Arg)) : M (List Arg) := f >>= fun x => g >>= fun as => pure (.val x :: as)
def slotM (i : Nat) (g : M (List Arg)) : M (List Arg) := look i >>= fun _ => g >>= fun as => pure (.slot i :: as)
theorem was_val (h : WF X e f) (t : WAs X es g) (hs : starEach (e :: es) X.env = (false, eval e X.env) :: starEach es X.env := by rfl) : WAs X (e :: es) (valM f g) := ⟨paWeak (pa_cons h.pe t.pa hs) fun σ H Q ⟨ρ, Hf, r, w⟩ => by
  unfold valM at w
  rw [wp_bind] at w
  refine ⟨ρ, Hf, r, wp_mono w fun x ρ1 w v1 Hf1 H1 r1 s1 p1 => ?_⟩
  rw [wp_bind] at w
  refine ⟨ρ1, Hf1, r1, wp_mono w fun xs ρ2 w vs2 Hf2 H2 r2 s2 p2 => ?_⟩
  exact wp_pure.mp w (v1 :: vs2) Hf2 H2 r2 (s1.trans s2) ⟨v1, vs2, rfl, p1.sub s2.sub, p2⟩⟩
theorem was_slot (h : PE X e (tVar i)) (t : WAs X es g) (hs : starEach (e :: es) X.env = (false, eval e X.env) :: starEach es X.env := by rfl) : WAs X (e :: es) (slotM i g) := ⟨paWeak (pa_cons h t.pa hs) fun σ H Q ⟨ρ, Hf, r, w⟩ => by
  unfold slotM at w
  rw [wp_bind] at w
  obtain ⟨o, v, e, w⟩ := look_inv w
  obtain ⟨v', s, _⟩ := r.opd e
  refine ⟨v', s, ?_⟩
  rw [wp_bind] at w
  refine ⟨ρ, Hf, r, wp_mono w fun xs ρ2 w vs2 Hf2 H2 r2 s2 p2 => ?_⟩
  exact wp_pure.mp w (v' :: vs2) Hf2 H2 r2 s2 ⟨v', vs2, rfl, s, p2⟩⟩
end
/-- the slots handed in where the callee does not own -/
def argSlots (ios : List Nat) : Nat → List Arg → List Nat
  | _, [] => []
  | k, .val _ :: r => argSlots ios (k + 1) r
  | k, .slot i :: r => if k ∈ ios then argSlots ios (k + 1) r else i :: argSlots ios (k + 1) r
def frzS : List Nat → Env → Env
  | [], ρ => ρ
  | i :: is, ρ => frzS is (match ρ[i]? with
    | some (some (true, v)) => frz1 ρ i v
    | _ => ρ)
def resolve (ios : List Nat) (ρ : Env) : Nat → List Arg → Option (List PV)
  | _, [] => some []
  | k, .val v :: r => if k ∈ ios then none else (resolve ios ρ (k + 1) r).map (v :: ·)
  | k, .slot i :: r => match ρ[i]? with
    | some (some (o, v)) => if o = decide (k ∈ ios) then (resolve ios ρ (k + 1) r).map (v :: ·) else none
    | _ => none
def ioSlots (as : List Arg) : List Nat → Option (List Nat)
  | [] => some []
  | k :: ks => match as[k]? with
    | some (.slot i) => (ioSlots as ks).map (i :: ·)
    | _ => none
def setIo : List Nat → List PV → Env → Env
  | i :: is, z :: zs, ρ => setIo is zs (ρ.set i (some (true, z)))
  | _, _, ρ => ρ
def callM (ios : List Nat) (F : Fn) (fas : M (List Arg)) : M OV := fas >>= fun as => fun ρ =>
  let ρf := frzS (argSlots ios 0 as) ρ
  match resolve ios ρf 0 as, ioSlots as ios with
  | some xs, some is => if is.Nodup then match F xs with
      | some (y, zs) => if ios.isEmpty && !y.1 && y.2.flat then some (y, ρ) else some (y, setIo is zs ρf)
      | none => none
    else none
  | _, _ => none
section
variable {K : PySem.W.Frag} {ρ ρ' : Env} {Hf Hf' : Hp} {σ σ' : Sl} {H H' : Hp}
theorem frzS_ok : ∀ (is : List Nat) {ρ : Env} {Hf : Hp}, R K ρ Hf σ H → ∃ Hf', R K (frzS is ρ) Hf' σ H ∧ Step ρ Hf σ H (frzS is ρ) Hf' σ H
  | [], ρ, Hf, r => ⟨Hf, r, .rfl'⟩
  | i :: is, ρ, Hf, r => by
    unfold frzS
    split
    · rename_i v e
      obtain ⟨p, ob, so, a1, a2, a3⟩ := r.own e
      have r2 := r.freeze e so a2
      obtain ⟨Hf', r3, s3⟩ := frzS_ok is r2
      exact ⟨Hf', r3, (Step.freeze r e so).trans s3⟩
    · exact frzS_ok is r
theorem frzS_len : ∀ (is : List Nat) (ρ : Env), (frzS is ρ).length = ρ.length
  | [], _ => rfl
  | i :: is, ρ => by
    unfold frzS
    rw [frzS_len is]
    split
    · unfold frz1; rw [List.length_set]
    · rfl
theorem resolve_len {ios : List Nat} {ρ : Env} : ∀ {k : Nat} {as : List Arg} {xs : List PV}, resolve ios ρ k as = some xs → xs.length = as.length
  | _, [], _, h => by cases h; rfl
  | k, .val v :: r, xs, h => by
    unfold resolve at h
    split at h
    · cases h
    · obtain ⟨ys, e, rfl⟩ := Option.map_eq_some_iff.mp h
      simp [resolve_len e]
  | k, .slot i :: r, xs, h => by
    unfold resolve at h
    split at h
    · split at h
      · obtain ⟨ys, e, rfl⟩ := Option.map_eq_some_iff.mp h
        simp [resolve_len e]
      · cases h
    · cases h
theorem ArgsRep.len : ∀ {as : List Arg} {vs : List V}, ArgsRep K Hf σ vs as → vs.length = as.length
  | [], _, h => by rw [show _ = [] from h]; rfl
  | .val x :: r, _, ⟨v, vr, e, h1, h2⟩ => by rw [e]; simp [ArgsRep.len h2]
  | .slot i :: r, _, ⟨v, vr, e, h1, h2⟩ => by rw [e]; simp [ArgsRep.len h2]
/-- each argument as the callee sees it -/
theorem resolve_at {ios : List Nat} (r : R K ρ Hf σ H) : ∀ {k : Nat} {as : List Arg} {xs : List PV} {vs : List V}, resolve ios ρ k as = some xs → ArgsRep K Hf σ vs as → ∀ (j : Nat) (x : PV), xs[j]? = some x →
    ∃ v, vs[j]? = some v ∧ (k + j ∉ ios → Rep K Hf v x) ∧ (k + j ∈ ios → ∃ i, as[j]? = some (.slot i) ∧ ρ[i]? = some (some (true, x)) ∧ σ[i]? = some (some v))
  | _, [], _, _, h, _, j, x, e => by cases h; simp at e
  | k, .val y :: rr, xs, vs, h, ⟨v, vr, ev, h1, h2⟩, j, x, e => by
    unfold resolve at h
    split at h
    · cases h
    · rename_i hk
      obtain ⟨ys, e2, rfl⟩ := Option.map_eq_some_iff.mp h
      subst ev
      cases j with
      | zero => simp at e; subst e; exact ⟨v, rfl, fun _ => h1, fun z => absurd z hk⟩
      | succ j =>
        obtain ⟨u, a, b, c⟩ := resolve_at r e2 h2 j x (by simpa using e)
        have : k + 1 + j = k + (j + 1) := by omega
        rw [this] at b c
        exact ⟨u, by simpa using a, b, fun z => let ⟨i, q⟩ := c z; ⟨i, by simpa using q.1, q.2⟩⟩
  | k, .slot i :: rr, xs, vs, h, ⟨v, vr, ev, h1, h2⟩, j, x, e => by
    unfold resolve at h
    split at h
    · rename_i o y ey
      split at h
      · rename_i ho
        obtain ⟨ys, e2, rfl⟩ := Option.map_eq_some_iff.mp h
        subst ev
        cases j with
        | zero =>
          simp at e; subst e
          refine ⟨v, rfl, fun z => ?_, fun z => ?_⟩
          · rw [Nat.add_zero] at z
            rw [decide_eq_false z] at ho
            subst ho
            obtain ⟨v', s, a, _⟩ := r.vars i false y ey
            rw [h1] at s; cases s
            exact a rfl
          · rw [Nat.add_zero] at z
            rw [decide_eq_true z] at ho
            subst ho
            exact ⟨i, rfl, ey, h1⟩
        | succ j =>
          obtain ⟨u, a, b, c⟩ := resolve_at r e2 h2 j x (by simpa using e)
          have : k + 1 + j = k + (j + 1) := by omega
          rw [this] at b c
          exact ⟨u, by simpa using a, b, fun z => let ⟨i, q⟩ := c z; ⟨i, by simpa using q.1, q.2⟩⟩
      · cases h
    · cases h
theorem ioSlots_at {as : List Arg} : ∀ {ks : List Nat} {is : List Nat}, ioSlots as ks = some is → is.length = ks.length ∧ ∀ (j k i : Nat), ks[j]? = some k → is[j]? = some i → as[k]? = some (.slot i)
  | [], is, h => by cases h; exact ⟨rfl, fun j k i e => by simp at e⟩
  | k0 :: ks, is, h => by
    unfold ioSlots at h
    split at h
    · rename_i i0 e0
      obtain ⟨r, e, rfl⟩ := Option.map_eq_some_iff.mp h
      obtain ⟨h1, h2⟩ := ioSlots_at e
      refine ⟨by simp [h1], fun j k i a b => ?_⟩
      cases j with
      | zero => simp at a b; subst a; subst b; exact e0
      | succ j => exact h2 j k i (by simpa using a) (by simpa using b)
    · cases h
theorem setIo_get : ∀ {is : List Nat} {zs : List PV} {ρ : Env} {i : Nat} {x : Bool × PV}, zs.length = is.length → is.Nodup → (setIo is zs ρ)[i]? = some (some x) → (∃ (j : Nat) (z : PV), is[j]? = some i ∧ zs[j]? = some z ∧ x = (true, z)) ∨ (i ∉ is ∧ ρ[i]? = some (some x))
  | [], zs, ρ, i, x, _, _, h => by
    have : setIo [] zs ρ = ρ := by unfold setIo; rfl
    rw [this] at h
    exact .inr ⟨by simp, h⟩
  | i0 :: is, [], _, _, _, hl, _, _ => by cases hl
  | i0 :: is, z0 :: zs, ρ, i, x, hl, nd, h => by
    unfold setIo at h
    obtain ⟨n1, n2⟩ := List.nodup_cons.mp nd
    rcases setIo_get (by simpa using hl) n2 h with ⟨j, z, a, b, c⟩ | ⟨a, b⟩
    · exact .inl ⟨j + 1, z, by simpa using a, by simpa using b, c⟩
    · rcases getSet b with ⟨rfl, e, _⟩ | ⟨ne, e⟩
      · cases e
        exact .inl ⟨0, z0, rfl, rfl, rfl⟩
      · exact .inr ⟨by simp only [List.mem_cons, not_or]; exact ⟨fun z => ne z.symm, a⟩, e⟩
end
section
variable {X : Cx} {x : Str} {p pos : Pos} {e : Expr} {es : List Expr} {fas : M (List Arg)} {ios : List Nat} {F : Fn} {k n : Nat} {f : Addr} {fd : FuncData} {ps : List Str}
theorem outs_len {F : Fn} {N : Nat} {fb : M Fl} {xs zs : List PV} {y : OV} (h : runF N ios fb xs = some (y, zs)) : zs.length = ios.length := by
  unfold runF at h
  split at h
  · obtain ⟨zs', e, e2⟩ := Option.map_eq_some_iff.mp h
    cases e2; exact (outs_get e).1
  · obtain ⟨zs', e, e2⟩ := Option.map_eq_some_iff.mp h
    cases e2; exact (outs_get e).1
  · cases h
theorem readCall {K : PySem.W.Frag} {σ : Sl} {H : Hp} {Q : VK} (hn : ∀ xs y zs, F xs = some (y, zs) → zs.length = ios.length ∧ xs.length = n) (hio : ∀ i ∈ ios, i < n) (h : tE K (callM ios F fas) σ H Q) : tCall (spOf K n ios F) [] E0 (tAs K fas) σ H Q := by
  obtain ⟨ρ, Hf, r, w⟩ := h
  unfold callM at w
  rw [wp_bind] at w
  refine ⟨ρ, Hf, r, wp_mono w fun as ρ1 w vs Hf1 H1 r1 s1 ar => ?_⟩
  unfold wp at w
  dsimp only at w
  cases e1 : resolve ios (frzS (argSlots ios 0 as) ρ1) 0 as with
  | none => rw [e1] at w; exact w.elim
  | some xs =>
  cases e2 : ioSlots as ios with
  | none => rw [e1, e2] at w; exact w.elim
  | some is =>
  rw [e1, e2] at w
  dsimp only at w
  by_cases nd : is.Nodup
  · rw [if_pos nd] at w
    cases e3 : F xs with
    | none => rw [e3] at w; exact w.elim
    | some yz =>
    obtain ⟨y, zs⟩ := yz
    rw [e3] at w
    dsimp only at w
    obtain ⟨zl, xl⟩ := hn xs y zs e3
    obtain ⟨Hf2, r2, s2⟩ := frzS_ok (argSlots ios 0 as) r1
    have ar2 := ar.sub s2.sub
    have hl : vs.length = n := by rw [ar.len, ← resolve_len e1]; exact xl
    obtain ⟨il, iat⟩ := ioSlots_at e2
    have at_ := resolve_at r2 e1 ar2
    -- the callee's entry
    have rc : R K (argE ios 0 xs) Hf2 (vs.map some) H1 := by
      have base : ∀ (j : Nat) (o : Bool) (x : PV), (argE ios 0 xs)[j]? = some (some (o, x)) → xs[j]? = some x ∧ o = decide (j ∈ ios) := fun j o x hj => by
        rw [argE_get] at hj
        obtain ⟨z, e, e'⟩ := Option.map_eq_some_iff.mp hj
        rw [Nat.zero_add] at e'
        have e' := Option.some.inj e'
        cases e'
        exact ⟨e, rfl⟩
      refine ⟨r2.sub, fun j o x hj => ?_, fun j j' x x' b h1 h2 h3 h4 => ?_⟩
      · obtain ⟨ex, eo⟩ := base j o x hj
        obtain ⟨v, ev, c1, c2⟩ := at_ j x ex
        rw [Nat.zero_add] at c1 c2
        refine ⟨v, by rw [List.getElem?_map, ev]; rfl, fun z => ?_, fun z => ?_⟩
        · rw [z] at eo; exact c1 (of_decide_eq_false eo.symm)
        · rw [z] at eo
          obtain ⟨i, _, e5, e6⟩ := c2 (of_decide_eq_true eo.symm)
          obtain ⟨p, ob, so, a1, a2, a3⟩ := r2.own e5
          rw [e6] at so
          cases so
          exact ⟨p, ob, rfl, a1, a2, a3⟩
      · obtain ⟨ex, eo⟩ := base j true x h1
        obtain ⟨ex', eo'⟩ := base j' true x' h2
        have mj := of_decide_eq_true eo.symm
        have mj' := of_decide_eq_true eo'.symm
        obtain ⟨v, ev, _, c2⟩ := at_ j x ex
        obtain ⟨v', ev', _, c2'⟩ := at_ j' x' ex'
        rw [Nat.zero_add] at c2 c2'
        obtain ⟨i, q1, q2, q3⟩ := c2 mj
        obtain ⟨i', q1', q2', q3'⟩ := c2' mj'
        rw [List.getElem?_map, ev] at h3
        rw [List.getElem?_map, ev'] at h4
        have h3 := Option.some.inj (Option.some.inj h3)
        have h4 := Option.some.inj (Option.some.inj h4)
        have ii := r2.dist i i' x x' b q2 q2' (h3 ▸ q3) (h4 ▸ q3')
        -- one slot is handed in once
        obtain ⟨a, ha⟩ := List.getElem?_of_mem mj
        obtain ⟨a', ha'⟩ := List.getElem?_of_mem mj'
        have la : a < is.length := by rw [il]; exact (List.getElem?_eq_some_iff.mp ha).1
        have la' : a' < is.length := by rw [il]; exact (List.getElem?_eq_some_iff.mp ha').1
        have w1 := iat a j is[a] ha (by simp [la])
        have w2 := iat a' j' is[a'] ha' (by simp [la'])
        rw [q1] at w1
        rw [q1'] at w2
        injection w1 with w1; injection w1 with w1
        injection w2 with w2; injection w2 with w2
        have : is[a] = is[a'] := by rw [← w1, ← w2]; exact ii
        have aa := (List.getElem_inj nd).mp this
        subst aa
        rw [ha] at ha'
        exact Option.some.inj ha'
    refine ⟨by rw [List.append_nil]; exact hl, Hf2, xs, xl, by rw [List.append_nil]; exact rc, y, zs, e3, fun v' Hf3 H3 dn rv nw => ?_⟩
    rw [List.append_nil] at dn
    have s12 := s1.trans s2
    -- cells the callee owns are the caller's own slots
    have io_own : ∀ b : Addr, (∃ i : Nat, i ∈ ios ∧ vs[i]? = some (V.ref b)) → ∃ (j i : Nat), is[j]? = some i ∧ ∃ x : PV, (frzS (argSlots ios 0 as) ρ1)[i]? = some (some (true, x)) ∧ σ[i]? = some (some (.ref b)) := fun b ⟨m, hm, hb⟩ => by
      obtain ⟨a, ha⟩ := List.getElem?_of_mem hm
      have la : a < is.length := by rw [il]; exact (List.getElem?_eq_some_iff.mp ha).1
      have ml : m < xs.length := by rw [xl]; exact hio m hm
      obtain ⟨v, ev, _, c2⟩ := at_ m xs[m] (by simp [ml])
      rw [Nat.zero_add] at c2
      obtain ⟨i, q1, q2, q3⟩ := c2 hm
      have w1 := iat a m is[a] ha (by simp [la])
      rw [q1] at w1
      injection w1 with w1; injection w1 with w1
      rw [hb] at ev
      cases ev
      exact ⟨a, i, by rw [w1]; simp [la], _, q2, q3⟩
    by_cases bor : (ios.isEmpty && !y.1 && y.2.flat) = true
    · rw [if_pos bor] at w
      obtain ⟨b1, b3⟩ := Bool.and_eq_true_iff.mp bor
      obtain ⟨b1, b2⟩ := Bool.and_eq_true_iff.mp b1
      have ei : ios = [] := by simpa using b1
      subst ei
      have kp : ∀ b o, H1 b = some o → H3 b = some o := fun b o hb => dn.keep b o hb fun i hi => by simp at hi
      have r4 : R K ρ1 Hf1 σ H3 := r1.grow .rfl' (fun a o q => by
        rcases r1.sub a o q with z | ⟨l, ob, z⟩
        · exact .inl (kp a _ z)
        · exact .inr ⟨l, ob, kp a _ z⟩) (fun b o _ h => kp b o h) fun b o => (o.slot r1).1
      have s4 : Step ρ1 Hf1 σ H1 ρ1 Hf1 σ H3 := ⟨.rfl', fun b o h _ => kp b o h, fun b h => .inl h, fun b h => .inl h, fun b h => by
        cases q : H1 b with
        | none => exact absurd q h
        | some o => rw [kp b o q]; simp⟩
      obtain ⟨o, v⟩ := y
      have eo : o = false := by simpa using b2
      subst eo
      exact w v' Hf1 H3 r4 (s1.trans s4) (Rep.flat b3 (show Rep K Hf3 v' v from rv)) fun z => nomatch z
    · rw [if_neg bor] at w
      have ownNo : ∀ b, Own (frzS (argSlots ios 0 as) ρ1) σ b → Hf3 b = none := fun b o => Classical.byContradiction fun z => by
        obtain ⟨hn, ob, hb, _⟩ := o.slot r2
        rcases dn.new b z with q | q
        · exact q hn
        · rw [hb] at q; cases q
      have r5 : R K (setIo is zs (frzS (argSlots ios 0 as) ρ1)) Hf3 σ H3 := by
        refine ⟨dn.sub', fun i o x hi => ?_, fun i j x x' b h1 h2 h3 h4 => ?_⟩
        · rcases setIo_get (by rw [zl, il]) nd hi with ⟨j, z, a, b, c⟩ | ⟨a, b⟩
          · cases c
            have jl : j < ios.length := by rw [← il]; exact (List.getElem?_eq_some_iff.mp a).1
            obtain ⟨p, ob, e4, e5, e6⟩ := dn.io j ios[j] x (by simp [jl]) b
            have ml : ios[j] < xs.length := by rw [xl]; exact hio _ (List.getElem_mem jl)
            obtain ⟨v, ev, _, c2⟩ := at_ ios[j] xs[ios[j]] (by simp [ml])
            rw [Nat.zero_add] at c2
            obtain ⟨i', q1, q2, q3⟩ := c2 (List.getElem_mem jl)
            have w1 := iat j ios[j] i (by simp [jl]) a
            rw [q1] at w1
            injection w1 with w1; injection w1 with w1
            subst w1
            rw [e4] at ev; cases ev
            exact ⟨.ref p, q3, fun z => Bool.noConfusion z, fun _ => ⟨p, ob, rfl, ownNo p ⟨i', _, q2, q3⟩, e5, e6⟩⟩
          · obtain ⟨v', so, c1, c2⟩ := r2.vars i o x b
            refine ⟨v', so, fun z => (c1 z).sub dn.sub, fun z => ?_⟩
            obtain ⟨p, ob, rfl, d1, d2, d3⟩ := c2 z
            subst z
            have ow : Own (frzS (argSlots ios 0 as) ρ1) σ p := ⟨i, x, b, so⟩
            refine ⟨p, ob, rfl, ownNo p ow, dn.keep p ob d2 fun m hm hb => ?_, d3.sub dn.sub⟩
            obtain ⟨j, i', ej, x2, e4, e5⟩ := io_own p ⟨m, hm, hb⟩
            have := r2.dist i i' x x2 p b e4 so e5
            subst this
            exact a (List.mem_of_getElem? ej)
        · have inFz : ∀ (i : Nat) x, (setIo is zs (frzS (argSlots ios 0 as) ρ1))[i]? = some (some (true, x)) → ∃ x', (frzS (argSlots ios 0 as) ρ1)[i]? = some (some (true, x')) := fun i x hi => by
            rcases setIo_get (by rw [zl, il]) nd hi with ⟨j, z, a, b, c⟩ | ⟨a, b⟩
            · have jl : j < ios.length := by rw [← il]; exact (List.getElem?_eq_some_iff.mp a).1
              have ml : ios[j] < xs.length := by rw [xl]; exact hio _ (List.getElem_mem jl)
              obtain ⟨v, ev, _, c2⟩ := at_ ios[j] xs[ios[j]] (by simp [ml])
              rw [Nat.zero_add] at c2
              obtain ⟨i', q1, q2, q3⟩ := c2 (List.getElem_mem jl)
              have w1 := iat j ios[j] i (by simp [jl]) a
              rw [q1] at w1
              injection w1 with w1; injection w1 with w1
              subst w1
              exact ⟨_, q2⟩
            · exact ⟨x, b⟩
          obtain ⟨y1, k1⟩ := inFz i x h1
          obtain ⟨y2, k2⟩ := inFz j x' h2
          exact r2.dist i j y1 y2 b k1 k2 h3 h4
      have ownTo : ∀ b, Own (setIo is zs (frzS (argSlots ios 0 as) ρ1)) σ b → Own (frzS (argSlots ios 0 as) ρ1) σ b := fun b ⟨i, x, h1, h2⟩ => by
        rcases setIo_get (by rw [zl, il]) nd h1 with ⟨j, z, a, b', c⟩ | ⟨a, b'⟩
        · have jl : j < ios.length := by rw [← il]; exact (List.getElem?_eq_some_iff.mp a).1
          have ml : ios[j] < xs.length := by rw [xl]; exact hio _ (List.getElem_mem jl)
          obtain ⟨v, ev, _, c2⟩ := at_ ios[j] xs[ios[j]] (by simp [ml])
          rw [Nat.zero_add] at c2
          obtain ⟨i', q1, q2, q3⟩ := c2 (List.getElem_mem jl)
          have w1 := iat j ios[j] i (by simp [jl]) a
          rw [q1] at w1
          injection w1 with w1; injection w1 with w1
          subst w1
          exact ⟨i', _, q2, h2⟩
        · exact ⟨i, x, b', h2⟩
      have s5 : Step (frzS (argSlots ios 0 as) ρ1) Hf2 σ H1 (setIo is zs (frzS (argSlots ios 0 as) ρ1)) Hf3 σ H3 := by
        refine ⟨dn.sub, fun b o hb no => dn.keep b o hb fun m hm hmb => ?_, fun b hb => ?_, fun b o => .inl (ownTo b o), dn.there⟩
        · obtain ⟨j, i', ej, x2, e4, e5⟩ := io_own b ⟨m, hm, hmb⟩
          exact no ⟨i', x2, e4, e5⟩
        · rcases dn.new b hb with q | q
          · exact .inl q
          · exact .inr (.inr q)
      refine w v' Hf3 H3 r5 (s12.trans s5) ?_ (newTo s12.there nw)
      obtain ⟨o, v⟩ := y
      cases o with
      | false => exact rv
      | true =>
        obtain ⟨p, ob, rfl, a1, a2, a3⟩ := rv
        refine ⟨p, ob, rfl, a1, a2, a3, fun o => ?_⟩
        obtain ⟨_, ob', hb, _⟩ := (ownTo p o).slot r2
        rw [nw rfl p rfl] at hb
        cases hb
  · rw [if_neg nd] at w; exact w.elim
theorem we_call (G : FnOk X.prog X.w X.K X.mg X.base CX0 k f fd ps (spOf X.K n ios F)) (hF : ∀ xs y zs, F xs = some (y, zs) → zs.length = ios.length ∧ xs.length = n) (hio : ∀ i ∈ ios, i < n) (hr : Room k X.A) (hg : Gl X x) (hmg : X.mg x = some (.ref f))
    (hk : PySem.W.keepIn X.K (.ref f) = true) (hb : Binds X.K fd ps []) (ha : WAs X (e :: es) fas) (hdb : (x == ("__debug__" : Str)) = false := by decide) (he : starEach (e :: es) X.env = (false, eval e X.env) :: starEach es X.env := by rfl) (hpl : (backTo pos (starEach es X.env)).any (·.1) = false := by rfl) :
    WE X (.Call (.Name x p) (e :: es) [] pos) (callM ios F fas) :=
  ⟨peWeak (pe_call G hr hg hmg hk hb .nil pass0 ha.pa hdb he hpl) fun _ _ _ q => readCall hF hio q⟩
theorem we_call0 (G : FnOk X.prog X.w X.K X.mg X.base CX0 k f fd ps (spOf X.K n ios F)) (hF : ∀ xs y zs, F xs = some (y, zs) → zs.length = ios.length ∧ xs.length = n) (hio : ∀ i ∈ ios, i < n) (hr : Room k X.A) (hg : Gl X x) (hmg : X.mg x = some (.ref f))
    (hk : PySem.W.keepIn X.K (.ref f) = true) (hb : Binds X.K fd ps []) (hdb : (x == ("__debug__" : Str)) = false := by decide) :
    WE X (.Call (.Name x p) [] [] pos) (callM ios F (pure [])) :=
  ⟨peWeak (pe_call0 G hr hg hmg hk hb .nil pass0 hdb) fun σ H Q q => by
    have := readCall hF hio q
    obtain ⟨ρ, Hf, r, w⟩ := this
    exact wp_pure.mp w [] Hf H r .rfl' rfl⟩
end
end MC
set_option Elab.async false
set_option linter.all false
set_option maxRecDepth 100000
set_option maxHeartbeats 4000000
namespace MC
open PySem PySem.Spec L2

/-! ### room -/
section
variable {k : Nat} {A : Around}
theorem _root_.L2.Room.u64 (r : Room k A) : A.units + 64 < cLine := by have := r.un; omega
theorem _root_.L2.Room.u65 (r : Room k A) : A.units + 65 < cLine := by have := r.un; omega
theorem _root_.L2.Room.u0 (r : Room k A) : A.units < cLine := by have := r.un; omega
theorem _root_.L2.Room.u1 (r : Room k A) : A.units + 1 < cLine := by have := r.un; omega
end

section
variable {X : Cx} {a e o : Expr} {fa fo : M PV} {T : String} {p pos apos : Pos}
def isiM (T : String) (x : PV) : Option OV := if tyName x = "dict" then none else isiP T x
/-- a constant of the module -/
theorem wf_globI {x : Str} {i : Int} (hg : Gl X x) (hm : ∃ t, X.mg x = some (.int i t)) (hd : (x == ("__debug__" : Str)) = false := by decide) : WF X (.Name x pos) (pure (.int i)) := by
  obtain ⟨t, hm⟩ := hm
  exact wf_flat (pe_glob (v := .int i) hg hm ⟨t, rfl⟩ hd) fun _ _ => rep_int
end

/-! ### sep.join(reversed(a list)) -/
theorem strsAre_of : ∀ {ys : List Str} {its : List Value}, Vals (ys.map V.str) its → PyProof.Rows.StrsAre its ys
  | [], _, r => by cases r; exact .nil
  | y :: ys, _, r => by
    cases r with
    | cons r rr => obtain ⟨t, rfl⟩ := r; exact .cons y t (strsAre_of rr)
theorem join_rev {prog : Program} {w : World} {A : Around} {E : Value → Shared → Prop} {s : Shared} {x : Str} {t : Tok} {it l : Addr} {items : Array Value} {ys : List Str} {Q : Value → Shared → Prop} (hh : A.handled = none) (hit : s.heap.IsRevIter it l ((items.size : Int) - 1)) (hl : s.heap.IsList l items) (hne : l ≠ it) (hn : items.size ≤ sizeLine)
    (hP : ∀ acc : Array Value, ItemsOf (fun i v => items[items.size - 1 - i]? = some v) acc items.size → PyProof.Rows.StrsAre acc.toList ys) (hok : (ys.map (·.length)).sum + ys.length * x.length ≤ 16777216)
    (hq : ∀ (h' : Heap) t' k, (∀ b o, b ≠ it → s.heap.get? b = some o → h'.get? b = some o) → Q (.str (Txt.join x ys) t') { s with heap := h', toks := k }) :
    wpAny (model prog w) A (call (.builtin "str.join") [.str x t, .ref it]) Q E s := by
  refine wpAny_call (codeAny_call_builtin F.slot_str_join.plain F.entry_str_join (F.slot_str_join.check _ _ _ _ _ _ _ _ (typeIs_str _ _ _) (F.args_str_join_2 _ _) ?_))
  rw [join_tree_other]
  refine wpAny_bind (wpAny_typeOf (Heap.IsRevIter.typeIs hit) ?_)
  show wpAny _ A.in1 ((pyIter (.ref it)).tryCatch _ >>= fun it => collect it >>= fun items => joinTail x items) _ _ s
  refine wpAny_bind (wpAny_tryCatch (wpAny_pyIter_revIter hit ?_))
  refine wpAny_bind (RT.collect_rev (show A.in1.handled = none from hh) hit hl hne hn fun h' tk acc hk hacc => ?_)
  obtain ⟨l, hl, ht⟩ := PyProof.Rows.strsAre_values (hP acc hacc)
  subst ht
  rw [hl]
  have hok' := PyProof.Rows.joinOk_of hok
  unfold JoinOk at hok'
  rw [Bool.not_eq_true'] at hok'
  have g : Gives (joinTail x (strValues l)) (joinMade x l) := by
    have g0 := gives_joinTail x l hok'
    cases l with
    | nil => exact g0
    | cons p r => cases r with
      | nil => exact g0
      | cons q r' => exact g0
  exact g prog w A (wants Q E) _ (post_join l ⟨joinFit_length hok', fun t' k => hq h' t' k hk⟩)
def tJoinRev (K : PySem.W.Frag) (to te : TE) : TE := fun σ H Q => to σ H fun x H1 => (∃ a, x = .str a) ∧ te σ H1 fun v H2 => ∃ (a : Str) (q : Addr) (xs : List V) (ys : List Str),
  x = .str a ∧ v = .ref q ∧ SqL K H2 q xs ∧ xs.reverse = ys.map V.str ∧ (ys.map (·.length)).sum + ys.length * a.length ≤ 16777216 ∧ Q (.str (Txt.join a ys)) H2
section
variable {X : Cx}
theorem pe_joinRev {o e : Expr} {to te : TE} {apos pos p pos2 : Pos} (hc : X.calm = true) (ho : PE X o to) (hg2 : Gl X "reversed") (hm2 : X.mg "reversed" = none) (he : PE X e te)
    (hs1 : starEach [.Call (.Name "reversed" p) [e] [] pos2] X.env = [(false, eval (.Call (.Name "reversed" p) [e] [] pos2) X.env)] := by rfl)
    (hs : starEach [e] X.env = (false, eval e X.env) :: starEach [] X.env := by rfl)
    (hbase : attributeBase o "join" X.env (eval o X.env) = eval o X.env := by rfl) (hline : (apos.endLine == pos.line) = true := by rfl) :
    PE X (.Call (.Attribute o "join" apos) [.Call (.Name "reversed" p) [e] [] pos2] [] pos) (tJoinRev X.K to te) := by
  refine ⟨fun pins s σ H Q I h => ?_⟩
  refine PySem.Call_method1 hbase hs1 hline (thn (ho.run pins s σ H _ I h) fun v s1 ⟨x, H1, I1, r1, q1⟩ => ?_)
  obtain ⟨⟨a, rfl⟩, q1⟩ := q1
  obtain ⟨t, rfl⟩ := _root_.id r1
  refine ⟨"str", _, F.plainAttrs_str, F.slot_str_join, F.type_str_join, typeIs_str _ _ _, (fun _ e => nomatch e), Calls.callWith_builtin rfl (Calls.evalArgs_plain (Calls.spliced_cons ?_))⟩
  refine PyProof.Rows.Call_ (ld_blt I1 hg2 hm2 PyProof.Rows.boot_reversed (PyProof.Rows.callWith_type1 (PyProof.Rows.args_cons (thn (he.run pins s1 σ H1 _ I1 q1) fun u s2 ⟨v, H2, I2, r2, q2⟩ => PyProof.Rows.args_nil ?_) hs) hs rfl))
  obtain ⟨a', q, xs, ys, ea, rfl, hq, hr, hz, q2⟩ := q2
  cases ea
  obtain rfl : u = Value.ref q := r2
  obtain ⟨its, rv, p', hsz⟩ := I2.list hq
  refine PySem.call_reversed_list p'.isList (Calls.spliced_nil ?_)
  have k0 : ∀ b o, s2.heap.get? b = some o → (s2.heap.push (PySem.revObj q ((its.toArray.size : Int) - 1))).get? b = some o := fun b o e => Heap.get?_push_of_some _ e
  have I3 : Inv X pins σ H2 { s2 with heap := s2.heap.push (PySem.revObj q ((its.toArray.size : Int) - 1)) } := I2.kept (t' := s2.toks) k0
  obtain ⟨f0, f1, f2, f3, f4, f5⟩ := I2.fpOk (H' := H2) (b := s2.heap.objs.size) (Nat.le_refl _) (I2.hok.fresh (Nat.le_refl _))
  have hl := p'.isList
  obtain ⟨ol, hol, _⟩ := _root_.id hl
  have hne : q ≠ s2.heap.objs.size := Nat.ne_of_lt (Heap.lt_size hol)
  have hn : its.toArray.size ≤ sizeLine := by rw [List.size_toArray, ← rv.length]; exact hsz
  refine join_rev (s := { s2 with heap := s2.heap.push (PySem.revObj q ((its.toArray.size : Int) - 1)) }) (ys := ys) (I2.ok.hd hc) ⟨_, Heap.get?_push_size _ rfl, rfl, rfl⟩ (hl.push _) hne hn (fun acc hi => ?_) hz fun h' t' k hk => ?_
  · exact strsAre_of (hr ▸ RT.vals_rev rv hi)
  · exact ⟨.str _, H2, I3.turned (t' := k) (fun b o hb e => hk b o hb e) f0 f1 f3 f4 f5, ⟨t', rfl⟩, q2⟩
end
def joinRevP (a : Str) : PV → Option OV
  | .lst xs => joinP a [.lst xs.reverse]
  | .sq true xs => joinP a [.lst xs.reverse]
  | _ => none
def joinRevM (fo fa : M PV) : M OV := fo >>= fun x => match x with
  | .str a => fa >>= fun y => lift (joinRevP a y)
  | _ => bad
section
variable {X : Cx} {e o : Expr} {fa fo : M PV} {p pos pos2 apos : Pos}
theorem joinP_inv {a : Str} {xs : List PV} {r : OV} (e : joinP a [.lst xs] = some r) : ∃ ys : List Str, xs = ys.map PV.str ∧ (ys.map (·.length)).sum + ys.length * a.length ≤ 16777216 ∧ r = (false, .str (Txt.join a ys)) := by
  unfold joinP at e
  obtain ⟨ys, e1, e⟩ := Option.bind_eq_some_iff.mp e
  obtain ⟨c, e⟩ := when_some e
  cases e
  exact ⟨ys, strsOf_some e1, of_decide_eq_true c, rfl⟩
theorem we_joinRev (hc : X.calm = true) (hg : Gl X "reversed") (hm : X.mg "reversed" = none) (ho : WO X o fo) (he : WF X e fa)
    (hs1 : starEach [.Call (.Name "reversed" p) [e] [] pos2] X.env = [(false, eval (.Call (.Name "reversed" p) [e] [] pos2) X.env)] := by rfl)
    (hs : starEach [e] X.env = (false, eval e X.env) :: starEach [] X.env := by rfl)
    (hbase : attributeBase o "join" X.env (eval o X.env) = eval o X.env := by rfl) (hline : (apos.endLine == pos.line) = true := by rfl) :
    WE X (.Call (.Attribute o "join" apos) [.Call (.Name "reversed" p) [e] [] pos2] [] pos) (joinRevM fo fa) := ⟨peWeak (pe_joinRev hc ho.pe hg hm he.pe hs1 hs hbase hline) fun σ H Q ⟨ρ, Hf, r, w⟩ => by
  unfold joinRevM at w
  rw [wp_bind] at w
  refine ⟨ρ, Hf, r, wp_mono w fun x ρ1 w v1 Hf1 H1 r1 s1 p1 => ?_⟩
  cases x with
  | str a =>
    have w : wp (fa >>= fun y => lift (joinRevP a y)) ρ1 _ := w
    rw [wp_bind] at w
    refine ⟨⟨a, opd_str p1⟩, ρ1, Hf1, r1, wp_mono w fun y ρ2 w v2 Hf2 H2 r2 s2 p2 => ?_⟩
    rw [wp_lift] at w
    obtain ⟨z, e, k⟩ := w
    have fin : ∀ (q : Addr) (vs : List V) (xs : List PV), v2 = .ref q → SqL X.K H2 q vs → Reps X.K Hf2 vs xs → joinP a [.lst xs.reverse] = some z → ∃ (a' : Str) (q : Addr) (xs : List V) (ys : List Str),
        v1 = .str a' ∧ v2 = .ref q ∧ SqL X.K H2 q xs ∧ xs.reverse = ys.map V.str ∧ (ys.map (·.length)).sum + ys.length * a'.length ≤ 16777216 ∧ Q (.str (Txt.join a' ys)) H2 := fun q vs xs ev hq ra ez => by
      obtain ⟨ys, exs, hf, rfl⟩ := joinP_inv ez
      have rr := ra.reverse
      rw [exs] at rr
      exact ⟨a, q, vs, ys, opd_str p1, ev, hq, reps_strs rr, hf, k _ Hf2 H2 r2 (s1.trans s2) (show Rep X.K Hf2 _ _ from rep_str) fun z => nomatch z⟩
    unfold joinRevP at e
    split at e
    · unfold Rep at p2
      obtain ⟨q, vs, rfl, hq, ra⟩ := p2
      exact fin q vs _ rfl (SqL.of (r2.sub.lst hq)) ra e
    · unfold Rep at p2
      obtain ⟨q, vs, rfl, hq, ra⟩ := p2
      exact fin q vs _ rfl (r2.sub.sqL hq) ra e
    · cases e
  | _ => exact w.elim⟩
end

/-! ### the module's defs -/
def fnOf (n N : Nat) (ios : List Nat) (f : M Fl) : Fn := fun xs => if xs.length = n then runF N ios f xs else none
structure Dfn (K : PySem.W.Frag) (mg : Str → Option Value) (x : Str) (st : Stmt) (ps : List Str) : Prop where
  ex : ∃ f fd, mg x = some (.ref f) ∧ L2.Fun K x x st f fd ∧ Binds K fd ps []
structure Cal (P : Program) (w : World) (K : PySem.W.Frag) (mg : Str → Option Value) (base : Heap) (k : Nat) (x : Str) (ps : List Str) (ios : List Nat) (F : Fn) : Prop where
  ex : ∃ f fd, mg x = some (.ref f) ∧ FnOk P w K mg base CX0 k f fd ps (spOf K ps.length ios F) ∧ PySem.W.keepIn K (.ref f) = true ∧ Binds K fd ps [] ∧ ∃ oc od osl, K.lookup f = some ⟨oc, od, .func fd, osl⟩
  len : ∀ xs y zs, F xs = some (y, zs) → zs.length = ios.length ∧ xs.length = ps.length
  io : ∀ i ∈ ios, i < ps.length
section
variable {P : Program} {w : World} {K : PySem.W.Frag} {mg : Str → Option Value} {base : Heap}
theorem dfn_mk {h : Heap} {x : Str} {st : Stmt} {ps : List Str} {f : Addr} {oc : Value} {od an : Option Addr} {osl : Array (Option Value)} {kV doc pm cdv ct : Value} (X : K.In h) (G : h.Ns mainGlobals mg)
    (a : PySem.W.nsIn K mainGlobals x = some (some (.ref f))) (l : K.lookup f = some ⟨oc, od, .func (PySem.W.fnOf x x (defArgs st) (defBody st) (defScope st) .none kV doc pm an cdv ct), osl⟩)
    (c : PySem.W.codeIn K cdv x = true) (k : PySem.W.keepIn K (.ref f) = true)
    (b : ∀ (kV doc pm : Value) (an : Option Addr) (cdv ct : Value) (us : List Value), us.length = ps.length → bindArgs (PySem.W.fnOf x x (defArgs st) (defBody st) (defScope st) .none kV doc pm an cdv ct) ⟨us, []⟩ = pure (ps.zip us)) : Dfn K mg x st ps :=
  ⟨_, _, PySem.W.mg_of X G a, fun_mk l c k, (fun_mk l c k).binds b⟩
theorem Dfn.cal {x : Str} {st : Stmt} {N ps : List Str} {k : Nat} {ios : List Nat} {fb : M Fl} (D : Dfn K mg x st ps) (S : FnScope N ps (defScope st)) (hio : ∀ i ∈ ios, i < ps.length)
    (hbody : ∀ (f : Addr) (cdv : Value) (A : Around) (outer : List PySem.Env) (s : Shared) (H : Hp) (E : XK), Room k (A.deeper (PyProof.Rows.envOfC x (defScope st) s.heap.objs.size f cdv)) →
      WSs ios (cxOf CX0 P w K mg base N x (defScope st) f cdv A outer s H E).nox (defBody st) fb) : Cal P w K mg base (k + 1) x ps ios (fnOf ps.length N.length ios fb) := by
  obtain ⟨f, fd, hm, F, hb⟩ := D.ex
  refine ⟨⟨f, fd, hm, (fn_ok F S hio (hbody f)).imp fun vs H Q E h => ?_, F.kp, hb, ?_⟩, fun xs y zs h => ?_, hio⟩
  · obtain ⟨h1, Hf, xs, h2, r, y, zs, e, q⟩ := h
    refine ⟨h1, Hf, xs, h2, r, y, zs, ?_, q⟩
    unfold fnOf at e
    rw [if_pos h2] at e
    exact e
  · obtain ⟨oc, od, kV, doc, pm, an, cdv, ct, osl, rfl, lk, _⟩ := F.ex
    exact ⟨_, _, _, lk⟩
  · unfold fnOf at h
    split at h
    · rename_i hl
      exact ⟨outs_len (F := fun _ => none) h, hl⟩
    · cases h
end
section
variable {X : Cx} {x : Str} {p pos : Pos} {e : Expr} {es : List Expr} {fas : M (List Arg)} {ios : List Nat} {F : Fn} {k j : Nat} {ps : List Str}
theorem Cal.we (C : Cal X.prog X.w X.K X.mg X.base k x ps ios F) (hr : Room j X.A) (hk : k ≤ j) (hg : Gl X x) (ha : WAs X (e :: es) fas) (hdb : (x == ("__debug__" : Str)) = false := by decide) (he : starEach (e :: es) X.env = (false, eval e X.env) :: starEach es X.env := by rfl) (hpl : (backTo pos (starEach es X.env)).any (·.1) = false := by rfl) :
    WE X (.Call (.Name x p) (e :: es) [] pos) (callM ios F fas) := by
  obtain ⟨f, fd, hm, G, kp, hb, _⟩ := C.ex
  exact we_call G C.len C.io (hr.mono hk) hg hm kp hb ha hdb he hpl
theorem Cal.we0 (C : Cal X.prog X.w X.K X.mg X.base k x ps ios F) (hr : Room j X.A) (hk : k ≤ j) (hg : Gl X x) (hdb : (x == ("__debug__" : Str)) = false := by decide) :
    WE X (.Call (.Name x p) [] [] pos) (callM ios F (pure [])) := by
  obtain ⟨f, fd, hm, G, kp, hb, _⟩ := C.ex
  exact we_call0 G C.len C.io (hr.mono hk) hg hm kp hb hdb
end

/-! ### the law -/
theorem law_of {P : Program} {w : World} {K : PySem.W.Frag} {mg : Str → Option Value} {fa : Addr} {st : Stmt} {k : Nat} {F : Fn} (hmg : mg "law" = some (.ref fa)) (D : Dfn K mg "law" st ["script"])
    (hb : ∀ fd (kV doc pm : Value) (an : Option Addr) (cdv ct : Value), fd = PySem.W.fnOf "law" "law" (defArgs st) (defBody st) (defScope st) .none kV doc pm an cdv ct → ∀ (s : Shared) (u : Value), BindsTo s fd ⟨[u], []⟩ [("script", u)])
    (C : ∀ base : Heap, K.In base → base.Ns mainGlobals mg → Cal P w K mg base k "law" ["script"] [] F) :
    ∃ fd : FuncData, (∀ (s : Shared) (u : Value), BindsTo s fd ⟨[u], []⟩ [("script", u)]) ∧
      ∀ base : Heap, K.In base → base.Ns mainGlobals mg → FnOk P w K mg base CX0 k fa fd ["script"] (spOf K 1 [] F) := by
  obtain ⟨f, fd, hm, Fn, _⟩ := D.ex
  rw [hmg] at hm
  cases hm
  obtain ⟨oc, od, kV, doc, pm, an, cdv, ct, osl, rfl, lk, _⟩ := Fn.ex
  refine ⟨_, hb _ kV doc pm an cdv ct rfl, fun base h1 h2 => ?_⟩
  obtain ⟨f2, fd2, hm2, G, _, _, _, _, _, lk2⟩ := (C base h1 h2).ex
  rw [hmg] at hm2
  cases hm2
  rw [lk] at lk2
  cases lk2
  exact G
theorem law_end {l : PySem.W.OpenLaw} {k : Nat} {q : Program} {loose : List Str} {XP : (Str → Option Value) → Heap → Prop} {YP : World → Heap → Prop} {d : DefRec} {K : Params → PySem.W.Frag} {F : Fn}
    (hn : l.most = some 63) (hdf : d.params.defaults = []) (hY : ∀ (w : World) (h : Heap), YP w h → (K w.params).In h) (hk : (Around.depth callerA + 3 * k + 5 < recursionLimit) ∧ (Around.units callerA + 16 * k + 200 < cLine))
    (hF : ∀ ns : List Int, ns.length ≤ 63 → F [.sq true (ns.map .int)] = some ((false, .bl true), []))
    (G : ∀ (w : World) (mg : Str → Option Value) (fa : Addr) (h : Heap), (K w.params).In h → h.Ns mainGlobals mg → mg d.name = some (.ref fa) →
      ∃ fd : FuncData, (∀ (s : Shared) (u : Value), BindsTo s fd ⟨[u], []⟩ [("script", u)]) ∧
        ∀ base : Heap, (K w.params).In base → base.Ns mainGlobals mg → FnOk l.prog w (K w.params) mg base CX0 k fa fd ["script"] (spOf (K w.params) 1 [] F)) :
    PySem.W.WalkO q loose XP YP l.row.toRowW d [] (fun f vs => PySem.call f vs) := by
  refine L2.walk_of (n := 63) (k := k) (x := "script") (CX := fun _ => CX0) (sp := fun w => spOf (K w.params) 1 [] F) hn (by decide) hdf ⟨rfl, hk.1, hk.2⟩ hY G (fun w H a ns hl hO hS => ?_) fun _ _ _ _ _ z => z
  have rp : Rep (K w.params) H (.ref a) (.sq true (ns.map .int)) := by unfold Rep; exact ⟨a, _, rfl, hS, Reps.ints ns⟩
  refine ⟨rfl, H, [.sq true (ns.map .int)], rfl, ⟨.rfl', fun i o v h => ?_, fun i j v w b h => ?_⟩, _, _, hF ns hl, fun v' Hf' H' dn rv nw => rv⟩
  · cases i with
    | zero => cases h; exact ⟨_, rfl, fun _ => rp, fun z => Bool.noConfusion z⟩
    | succ i => cases h
  · cases i with
    | zero => cases h
    | succ i => cases h
end MC
set_option Elab.async false
set_option linter.all false
set_option maxRecDepth 100000
set_option maxHeartbeats 4000000
namespace MC
open PySem

/-! ### running on an environment -/
section
variable {α β : Type} {ρ ρ' : Env}
theorem bind_run (f : M α) (g : α → M β) (ρ : Env) : (f >>= g) ρ = (f ρ).bind fun p => g p.1 p.2 := by
  rw [bind_eq]; cases f ρ <;> rfl
theorem pure_run (a : α) (ρ : Env) : (pure a : M α) ρ = some (a, ρ) := rfl
theorem lift_run (o : Option α) (ρ : Env) : lift o ρ = o.map fun a => (a, ρ) := lift_eq o ρ
theorem bad_run (ρ : Env) : (bad : M α) ρ = none := rfl
theorem ite_run (c : Prop) [Decidable c] (f g : M α) (ρ : Env) : (if c then f else g) ρ = if c then f ρ else g ρ := by split <;> rfl
theorem bind_of {f : M α} {g : α → M β} {a : α} {r : Option (β × Env)} (h : f ρ = some (a, ρ')) (k : g a ρ' = r) : (f >>= g) ρ = r := by rw [bind_run, h]; exact k

/-! ### loops -/
theorem forM_inv {h : PV → M Unit} {f : M Fl} (P : Nat → Env → Prop) : ∀ (xs : List PV) (n : Nat) (ρ : Env), P n ρ → (∀ i x ρ, xs[i]? = some x → P (n + i) ρ → ∃ ρ', ((h x >>= fun _ => f) ρ = some (.nx, ρ') ∨ (h x >>= fun _ => f) ρ = some (.ct, ρ')) ∧ P (n + i + 1) ρ') →
    ∃ ρ', forM h f xs ρ = some (.nx, ρ') ∧ P (n + xs.length) ρ'
  | [], n, ρ, p, _ => ⟨ρ, rfl, p⟩
  | x :: xs, n, ρ, p, hs => by
    obtain ⟨ρ1, h1, p1⟩ := hs 0 x ρ rfl p
    obtain ⟨ρ2, h2, p2⟩ := forM_inv P xs (n + 1) ρ1 p1 fun i y ρ e q => by
      have := hs (i + 1) y ρ (by simpa using e) (by rw [show n + (i + 1) = n + 1 + i by omega]; exact q)
      rw [show n + (i + 1) + 1 = n + 1 + i + 1 by omega] at this
      exact this
    refine ⟨ρ2, ?_, by rw [show n + (x :: xs).length = n + 1 + xs.length by simp; omega]; exact p2⟩
    show (h x >>= fun _ => f >>= fun r => _) ρ = _
    have key : ∀ r, ((h x >>= fun _ => f) ρ = some (r, ρ1)) → (h x >>= fun _ => f >>= fun r => match r with
      | .nx => forM h f xs
      | .ct => forM h f xs
      | .bk => pure .nx
      | .rt y => pure (.rt y)) ρ = (match r with
      | .nx => forM h f xs
      | .ct => forM h f xs
      | .bk => pure .nx
      | .rt y => pure (.rt y)) ρ1 := fun r e => by
        rw [bind_run] at e ⊢
        cases q : h x ρ with
        | none => rw [q] at e; cases e
        | some z =>
          rw [q] at e
          have e : f z.2 = some (r, ρ1) := e
          show (f >>= _) z.2 = _
          exact bind_of e rfl
    rcases h1 with h1 | h1
    · exact (key _ h1).trans h2
    · exact (key _ h1).trans h2
/-- a walk that ends with an answer at the first item that is bad -/
theorem forM_stop {h : PV → M Unit} {f : M Fl} (P : Env → Prop) (y : OV) (bad : PV → Bool) : ∀ (xs : List PV) (ρ : Env), P ρ → (∀ x ρ, x ∈ xs → P ρ → ∃ ρ', (h x >>= fun _ => f) ρ = some (if bad x = true then .rt y else .nx, ρ') ∧ P ρ') →
    ∃ ρ', forM h f xs ρ = some (if xs.any bad = true then .rt y else .nx, ρ') ∧ P ρ'
  | [], ρ, p, _ => ⟨ρ, rfl, p⟩
  | x :: xs, ρ, p, hs => by
    obtain ⟨ρ1, h1, p1⟩ := hs x ρ List.mem_cons_self p
    have key : forM h f (x :: xs) ρ = (match (if bad x = true then Fl.rt y else Fl.nx) with
      | .nx => forM h f xs
      | .ct => forM h f xs
      | .bk => pure .nx
      | .rt y => pure (.rt y)) ρ1 := by
      show (h x >>= fun _ => f >>= fun r => _) ρ = _
      rw [bind_run] at h1 ⊢
      cases q : h x ρ with
      | none => rw [q] at h1; cases h1
      | some z =>
        rw [q] at h1
        exact bind_of (show f z.2 = some (_, ρ1) from h1) rfl
    rw [key]
    by_cases b : bad x = true
    · rw [if_pos b, if_pos (by simp [b])]
      exact ⟨ρ1, rfl, p1⟩
    · rw [if_neg b]
      obtain ⟨ρ2, h2, p2⟩ := forM_stop P y bad xs ρ1 p1 fun z ρ hz q => hs z ρ (List.mem_cons_of_mem _ hz) q
      refine ⟨ρ2, ?_, p2⟩
      have e : (x :: xs).any bad = xs.any bad := by
        have : bad x = false := by simpa using b
        simp [this]
      rw [e]; exact h2
/-- the same with the state named: step by step through E -/
theorem forM_nx {h : PV → M Unit} {f : M Fl} (E : Nat → Env) (xs : List PV) (hs : ∀ i x, xs[i]? = some x → (h x >>= fun _ => f) (E i) = some (.nx, E (i + 1)) ∨ (h x >>= fun _ => f) (E i) = some (.ct, E (i + 1))) :
    forM h f xs (E 0) = some (.nx, E xs.length) := by
  obtain ⟨ρ', h1, rfl⟩ := forM_inv (fun n ρ => ρ = E n) xs 0 (E 0) rfl fun i x ρ e q => by
    subst q
    rw [Nat.zero_add]
    exact ⟨E (i + 1), hs i x e, rfl⟩
  rw [h1, Nat.zero_add]
theorem lcLoop_inv {vs : List Nat} {h : PV → M Unit} {ft : M Bool} {fe : M PV} (P : Nat → List PV → Env → Prop) : ∀ (xs : List PV) (n : Nat) (acc : List PV) (ρ : Env), P n acc ρ →
    (∀ i x acc ρ, xs[i]? = some x → P (n + i) acc ρ → ∃ b ρ1, (h x >>= fun _ => ft) ρ = some (b, ρ1) ∧ (b = true → ∃ y ρ2, fe ρ1 = some (y, ρ2) ∧ P (n + i + 1) (acc ++ [y]) (clear vs ρ2)) ∧ (b = false → P (n + i + 1) acc (clear vs ρ1))) →
    ∃ ys ρ', lcLoop vs h ft fe xs ρ = some (ys, ρ') ∧ P (n + xs.length) (acc ++ ys) ρ'
  | [], n, acc, ρ, p, _ => ⟨[], ρ, rfl, by rw [List.append_nil]; exact p⟩
  | x :: xs, n, acc, ρ, p, hs => by
    obtain ⟨b, ρ1, h1, h2, h3⟩ := hs 0 x acc ρ rfl p
    have rest : ∀ acc ρ, P (n + 1) acc ρ → ∃ ys ρ', lcLoop vs h ft fe xs ρ = some (ys, ρ') ∧ P (n + 1 + xs.length) (acc ++ ys) ρ' := fun acc ρ p1 => lcLoop_inv P xs (n + 1) acc ρ p1 fun i y acc ρ e q => by
      have := hs (i + 1) y acc ρ (by simpa using e) (by rw [show n + (i + 1) = n + 1 + i by omega]; exact q)
      rw [show n + (i + 1) + 1 = n + 1 + i + 1 by omega] at this
      exact this
    have ln : n + (x :: xs).length = n + 1 + xs.length := by simp; omega
    rw [ln]
    have open_ : ∀ (r : Option (List PV × Env)), (if b = true then fe >>= fun y => clr vs >>= fun _ => lcLoop vs h ft fe xs >>= fun ys => pure (y :: ys) else clr vs >>= fun _ => lcLoop vs h ft fe xs) ρ1 = r → lcLoop vs h ft fe (x :: xs) ρ = r := fun r e => by
      unfold lcLoop
      rw [bind_run] at h1 ⊢
      cases q : h x ρ with
      | none => rw [q] at h1; cases h1
      | some z =>
        rw [q] at h1
        exact bind_of (show ft z.2 = some (b, ρ1) from h1) e
    cases b with
    | true =>
      obtain ⟨y, ρ2, h4, p2⟩ := h2 rfl
      obtain ⟨ys, ρ', h5, p5⟩ := rest _ _ p2
      refine ⟨y :: ys, ρ', open_ _ ?_, by rw [List.append_assoc] at p5; exact p5⟩
      rw [if_pos rfl]
      refine bind_of h4 (bind_of rfl (bind_of h5 rfl))
    | false =>
      obtain ⟨ys, ρ', h5, p5⟩ := rest _ _ (h3 rfl)
      refine ⟨ys, ρ', open_ _ ?_, p5⟩
      rw [if_neg Bool.false_ne_true]
      exact bind_of rfl h5
/-- a comprehension whose parts leave the environment alone -/
theorem lcLoop_pure {vs : List Nat} {h : PV → M Unit} {ft : M Bool} {fe : M PV} {ρ : Env} (p : PV → Bool) (g : PV → PV) : ∀ (xs : List PV),
    (∀ x ∈ xs, ∃ ρ1, (h x >>= fun _ => ft) ρ = some (p x, ρ1) ∧ (p x = true → ∃ ρ2, fe ρ1 = some (g x, ρ2) ∧ clear vs ρ2 = ρ) ∧ (p x = false → clear vs ρ1 = ρ)) → lcLoop vs h ft fe xs ρ = some ((xs.filter p).map g, ρ)
  | [], _ => rfl
  | x :: xs, hs => by
    have ih := lcLoop_pure p g xs fun y hy => hs y (List.mem_cons_of_mem _ hy)
    obtain ⟨ρ1, h1, h2, h3⟩ := hs x List.mem_cons_self
    have open_ : ∀ (r : Option (List PV × Env)), (if p x = true then fe >>= fun y => clr vs >>= fun _ => lcLoop vs h ft fe xs >>= fun ys => pure (y :: ys) else clr vs >>= fun _ => lcLoop vs h ft fe xs) ρ1 = r → lcLoop vs h ft fe (x :: xs) ρ = r := fun r e => by
      unfold lcLoop
      rw [bind_run] at h1 ⊢
      cases q : h x ρ with
      | none => rw [q] at h1; cases h1
      | some z =>
        rw [q] at h1
        exact bind_of (show ft z.2 = some (p x, ρ1) from h1) e
    refine open_ _ ?_
    cases e : p x with
    | true =>
      obtain ⟨ρ2, h4, e4⟩ := h2 e
      rw [if_pos rfl]
      refine bind_of h4 (bind_of rfl ?_)
      rw [e4]
      refine bind_of ih ?_
      rw [List.filter_cons_of_pos e]; rfl
    | false =>
      rw [if_neg Bool.false_ne_true]
      refine bind_of rfl ?_
      rw [h3 e, ih, List.filter_cons_of_neg (by rw [e]; exact Bool.false_ne_true)]
theorem lc2Loop_pure {vs vs1 : List Nat} {h h1 : PV → M Unit} {ft ft1 : M Bool} {fi1 : M (List PV)} {fe : M PV} {ρ : Env} (g : PV → List PV) : ∀ (xs : List PV),
    (∀ x ∈ xs, ∃ ρ1 ρ2 ρ3 xs1, (h x >>= fun _ => ft) ρ = some (true, ρ1) ∧ fi1 ρ1 = some (xs1, ρ2) ∧ lcLoop vs1 h1 ft1 fe xs1 (clear vs1 ρ2) = some (g x, ρ3) ∧ clear vs ρ3 = ρ) → lc2Loop vs vs1 h ft fi1 h1 ft1 fe xs ρ = some (xs.flatMap g, ρ)
  | [], _ => rfl
  | x :: xs, hs => by
    have ih := lc2Loop_pure g xs fun y hy => hs y (List.mem_cons_of_mem _ hy)
    obtain ⟨ρ1, ρ2, ρ3, xs1, e1, e2, e3, e4⟩ := hs x List.mem_cons_self
    unfold lc2Loop
    rw [bind_run] at e1 ⊢
    cases q : h x ρ with
    | none => rw [q] at e1; cases e1
    | some z =>
      rw [q] at e1
      refine bind_of (show ft z.2 = some (true, ρ1) from e1) ?_
      rw [if_pos rfl]
      refine bind_of e2 (bind_of rfl (bind_of e3 (bind_of rfl ?_)))
      rw [e4]
      exact bind_of ih rfl
theorem whileM_true {c : M Bool} {f : M Fl} {ρ ρ1 ρ2 : Env} {r : Fl × Env} (hc : c ρ = some (true, ρ1)) (hf : f ρ1 = some (.nx, ρ2)) (h : whileM c f ρ2 = some r) : whileM c f ρ = some r := by
  obtain ⟨n, e⟩ := whileM_inv h
  refine whileM_of (n := n + 1) ?_
  unfold whileN
  refine bind_of hc ?_
  rw [if_pos rfl]
  exact bind_of hf e
theorem whileM_false {c : M Bool} {f : M Fl} {ρ ρ1 : Env} (hc : c ρ = some (false, ρ1)) : whileM c f ρ = some (.nx, ρ1) := by
  refine whileM_of (n := 1) ?_
  unfold whileN
  refine bind_of hc ?_
  rw [if_neg Bool.false_ne_true]; rfl
end

/-! ### by statements -/
theorem fn_run {xs : List PV} {n N : Nat} {ios : List Nat} {f : M Fl} {ρ0 ρ : Env} {y : OV} {zs : List PV} (hl : xs.length = n) (h0 : argE ios 0 xs ++ List.replicate (N - xs.length) none = ρ0) (e : f ρ0 = some (.rt y, ρ)) (o : outs ρ ios = some zs) : fnOf n N ios f xs = some (y, zs) := by
  unfold fnOf
  rw [if_pos hl]
  unfold runF
  rw [h0, e]
  show (outs ρ ios).map _ = _
  rw [o]; rfl
section
variable {ρ ρ' : Env} {f g : M Fl} {r : Option (Fl × Env)}
theorem seq_nx (h : f ρ = some (.nx, ρ')) (k : g ρ' = r) : seqM f g ρ = r := bind_of h k
theorem seq_rt {y : OV} (h : f ρ = some (.rt y, ρ')) : seqM f g ρ = some (.rt y, ρ') := bind_of h rfl
theorem ret_run {f : M OV} {x : OV} (h : f ρ = some (x, ρ')) : retM f ρ = some (.rt x, ρ') := bind_of h rfl
theorem set_run {f : M OV} {x : OV} {i : Nat} (h : f ρ = some (x, ρ')) : setM i f ρ = some (.nx, ρ'.set i (some (x.1, x.2))) := bind_of h rfl
theorem drop_run {f : M OV} {x : OV} (h : f ρ = some (x, ρ')) : dropM f ρ = some (.nx, ρ') := bind_of h rfl
theorem if_t {α : Type} {c : M Bool} {f g : M α} {r : Option (α × Env)} (h : c ρ = some (true, ρ')) (k : f ρ' = r) : ifM c f g ρ = r := bind_of h (by rw [if_pos rfl]; exact k)
theorem if_f {α : Type} {c : M Bool} {f g : M α} {r : Option (α × Env)} (h : c ρ = some (false, ρ')) (k : g ρ' = r) : ifM c f g ρ = r := bind_of h (by rw [if_neg Bool.false_ne_true]; exact k)
theorem or_run {c : M Bool} {d : M Bool} {a b : Bool} {ρ2 : Env} (h : c ρ = some (a, ρ')) (k : a = false → d ρ' = some (b, ρ2)) (e : a = true → ρ' = ρ2 ∧ b = true) : MC.orM c d ρ = some (b, ρ2) := bind_of h (by
  cases a with
  | true => obtain ⟨rfl, rfl⟩ := e rfl; rfl
  | false => rw [if_neg Bool.false_ne_true]; exact k rfl)
theorem not_run {c : M Bool} {a : Bool} (h : c ρ = some (a, ρ')) : MC.notM c ρ = some (!a, ρ') := bind_of h rfl
end

/-! ### ranges -/
theorem inRange_nat {n : Nat} (h : n ≤ 100000) : inRange n = true := by unfold inRange; exact decide_eq_true ⟨by omega, by omega⟩
theorem range_len (n : Nat) : (rangeL 0 n).length = n := by simp [rangeL]
theorem range_get {n i : Nat} {x : PV} (h : (rangeL 0 n)[i]? = some x) : i < n ∧ x = .int i := by
  unfold rangeL at h
  rw [List.getElem?_map] at h
  obtain ⟨j, h1, h2⟩ := Option.map_eq_some_iff.mp h
  obtain ⟨h3, h4⟩ := List.getElem?_eq_some_iff.mp h1
  simp at h3 h4
  subst h4
  exact ⟨by omega, by rw [← h2]; simp⟩
theorem range1_run {f : M PV} {ρ ρ' : Env} {n : Nat} (h : f ρ = some (.int n, ρ')) (hn : n ≤ 100000) : range1M f ρ = some (rangeL 0 n, ρ') := by
  unfold range1M
  rw [bind_run, h]
  simp -implicitDefEqProofs only [Option.bind_some, inRange_nat hn, if_true, pure_run]
theorem for_range {f : M PV} {h : PV → M Unit} {g : M Fl} {ρ ρ' ρ2 : Env} {n : Nat} (e : f ρ = some (.int n, ρ')) (hn : n ≤ 100000) (k : forM h g (rangeL 0 n) ρ' = some (.nx, ρ2)) : (range1M f >>= forM h g) ρ = some (.nx, ρ2) :=
  bind_of (range1_run e hn) k
theorem within_run {α : Type} {vs : List Nat} {f : M α} {ρ ρ1 ρ2 ρ3 : Env} {a : α} (h1 : clear vs ρ = ρ1) (h2 : f ρ1 = some (a, ρ2)) (h3 : restore ρ vs ρ2 = ρ3) : within vs f ρ = some (a, ρ3) := by
  unfold within
  rw [h1, h2, ← h3]
theorem lst_run {ys : List PV} {ρ : Env} (h : ys.length ≤ 100000) : lift (MC.when (fits ys.length) (some (true, PV.lst ys))) ρ = some ((true, .lst ys), ρ) := by
  have : fits ys.length = true := decide_eq_true (Nat.le_trans h (by decide))
  rw [this]; rfl

/-! ### texts as lists of numbers -/
abbrev S (l : List Nat) : PV := .str ⟨⟨l⟩⟩
theorem str_app (a b : List Nat) : ((⟨⟨a⟩⟩ : Str) ++ (⟨⟨b⟩⟩ : Str)) = ⟨⟨a ++ b⟩⟩ := by
  show Str.append _ _ = _
  simp [Str.append]
theorem str_len (a : List Nat) : Str.length ⟨⟨a⟩⟩ = a.length := rfl
theorem fits_of {n : Nat} (h : n ≤ 100000) : fits n = true := decide_eq_true (Nat.le_trans h (by decide))

/-! ### single operations -/
def low (a : List Nat) : Bool := a.all fun c => decide (c < 0x110000)
section
variable {i j : Int} {a b : List Nat} {xs ys : List PV} {x y : PV} {l : Bool}
open PyProof.Rows (b2i)
theorem addP_ii : addP (.int i) (.int j) = some (false, .int (i + j)) := rfl
theorem addP_ib (k : Bool) : addP (.int i) (.bl k) = some (false, .int (i + if k = true then 1 else 0)) := by cases k <;> rfl
theorem addP_ss (h : fits (a.length + b.length) = true) : addP (.str ⟨⟨a⟩⟩) (.str ⟨⟨b⟩⟩) = some (false, .str ⟨⟨a ++ b⟩⟩) := by
  show MC.when (fits (a.length + b.length)) _ = _
  rw [h, str_app]; rfl
theorem addP_ll (h : fits (xs.length + ys.length) = true) : addP (.lst xs) (.lst ys) = some (true, .lst (xs ++ ys)) := by
  show MC.when (fits (xs.length + ys.length)) _ = _
  rw [h]; rfl
theorem addP_tt (h : fits (xs.length + ys.length) = true) : addP (.tup xs) (.tup ys) = some (false, .tup (xs ++ ys)) := by
  show MC.when (fits (xs.length + ys.length)) _ = _
  rw [h]; rfl
theorem iaddP_ii : iaddP (.int i) (.int j) = some (false, .int (i + j)) := rfl
theorem subP_ii : subP (.int i) (.int j) = some (false, .int (i - j)) := rfl
theorem mulP_ii (h : mulOk i j = true) : mulP (.int i) (.int j) = some (false, .int (i * j)) := by
  show MC.when (mulOk i j) _ = _
  rw [h]; rfl
theorem mulP_si (h : (decide (-(2 ^ 30) ≤ j ∧ j < 2 ^ 30) && fits (a.length * j.toNat)) = true) : mulP (.str ⟨⟨a⟩⟩) (.int j) = some (false, .str ⟨⟨(List.replicate j.toNat a).flatten⟩⟩) := by
  show MC.when (decide (-(2 ^ 30) ≤ j ∧ j < 2 ^ 30) && fits (a.length * j.toNat)) _ = _
  rw [h]; rfl
theorem fdivP_ii (h : divOk j = true) : fdivP (.int i) (.int j) = some (false, .int (i.fdiv j)) := by
  show MC.when (divOk j) _ = _
  rw [h]; rfl
theorem modP_ii (h : j ≠ 0) : modP (.int i) (.int j) = some (false, .int (i.fmod j)) := by
  show MC.when (decide (j ≠ 0)) _ = _
  rw [decide_eq_true h]; rfl
theorem negP_i : negP (.int i) = some (false, .int (-i)) := rfl
theorem absP_i : absP (.int i) = some (false, .int (if i < 0 then -i else i)) := rfl
theorem intP_i : intP (.int i) = some (false, .int i) := rfl
theorem intP_b (k : Bool) : intP (.bl k) = some (false, .int (if k = true then 1 else 0)) := rfl
theorem ltP_ii : ltP (.int i) (.int j) = some (false, .bl (decide (i < j))) := rfl
theorem leP_ii : leP (.int i) (.int j) = some (false, .bl (decide (i ≤ j))) := rfl
theorem gtP_ii : gtP (.int i) (.int j) = some (false, .bl (decide (j < i))) := rfl
theorem geP_ii : geP (.int i) (.int j) = some (false, .bl (decide (j ≤ i))) := rfl
theorem ltP_ss : ltP (.str ⟨⟨a⟩⟩) (.str ⟨⟨b⟩⟩) = some (false, .bl (decide (a < b))) := rfl
theorem leP_ss : leP (.str ⟨⟨a⟩⟩) (.str ⟨⟨b⟩⟩) = some (false, .bl (!decide (b < a))) := rfl
theorem gtP_ss : gtP (.str ⟨⟨a⟩⟩) (.str ⟨⟨b⟩⟩) = some (false, .bl (decide (b < a))) := rfl
theorem geP_ss : geP (.str ⟨⟨a⟩⟩) (.str ⟨⟨b⟩⟩) = some (false, .bl (!decide (a < b))) := rfl
theorem eqP_ii : eqP (.int i) (.int j) = some (false, .bl (decide (i = j))) := by
  have : eqPV (.int i) (.int j) = decide (i = j) := by unfold eqPV toD; rw [show ∀ A B, PyData.eqv A B = PyData.eqv A B from fun _ _ => rfl]; simp only [PyData.eqv]; rw [Bool.eq_iff_iff]; simp
  unfold eqP shapedP toD SeqAt.shaped
  rw [this]; rfl
theorem eqP_ss (ha : low a = true) (hb : low b = true) : eqP (.str ⟨⟨a⟩⟩) (.str ⟨⟨b⟩⟩) = some (false, .bl (decide (a = b))) := by
  have : eqPV (.str ⟨⟨a⟩⟩) (.str ⟨⟨b⟩⟩) = decide (a = b) := by unfold eqPV toD; simp only [PyData.eqv]; rw [Bool.eq_iff_iff]; simp
  have h1 : shapedP (.str ⟨⟨a⟩⟩) = true := by
    show ((⟨a⟩ : Array Nat).all (· < 0x110000) && _) = true
    rw [← Array.all_toList, show a.all _ = true from ha]; rfl
  have h2 : shapedP (.str ⟨⟨b⟩⟩) = true := by
    show ((⟨b⟩ : Array Nat).all (· < 0x110000) && _) = true
    rw [← Array.all_toList, show b.all _ = true from hb]; rfl
  unfold eqP
  rw [this, h1, h2]; rfl
theorem neP_ii : neP (.int i) (.int j) = some (false, .bl (!decide (i = j))) := by
  have : eqPV (.int i) (.int j) = decide (i = j) := by unfold eqPV toD; rw [show ∀ A B, PyData.eqv A B = PyData.eqv A B from fun _ _ => rfl]; simp only [PyData.eqv]; rw [Bool.eq_iff_iff]; simp
  unfold neP shapedP toD SeqAt.shaped
  rw [this]; rfl
theorem neP_ss (ha : low a = true) (hb : low b = true) : neP (.str ⟨⟨a⟩⟩) (.str ⟨⟨b⟩⟩) = some (false, .bl (!decide (a = b))) := by
  have : eqPV (.str ⟨⟨a⟩⟩) (.str ⟨⟨b⟩⟩) = decide (a = b) := by unfold eqPV toD; simp only [PyData.eqv]; rw [Bool.eq_iff_iff]; simp
  have h1 : shapedP (.str ⟨⟨a⟩⟩) = true := by
    show ((⟨a⟩ : Array Nat).all (· < 0x110000) && _) = true
    rw [← Array.all_toList, show a.all _ = true from ha]; rfl
  have h2 : shapedP (.str ⟨⟨b⟩⟩) = true := by
    show ((⟨b⟩ : Array Nat).all (· < 0x110000) && _) = true
    rw [← Array.all_toList, show b.all _ = true from hb]; rfl
  unfold neP
  rw [this, h1, h2]; rfl
theorem isP_b (k m : Bool) : isP (.bl k) (.bl m) = some (false, .bl (decide (k = m))) := rfl
theorem isNotP_b (k m : Bool) : isNotP (.bl k) (.bl m) = some (false, .bl (!decide (k = m))) := rfl
theorem inP_1 (c : Nat) : inP (.str ⟨⟨[c]⟩⟩) (.str ⟨⟨b⟩⟩) = some (false, .bl (decide (c ∈ b))) := rfl
theorem notInP_1 (c : Nat) : notInP (.str ⟨⟨[c]⟩⟩) (.str ⟨⟨b⟩⟩) = some (false, .bl (!decide (c ∈ b))) := rfl
theorem lenP_s (h : fits a.length = true) : lenP (.str ⟨⟨a⟩⟩) = some (false, .int a.length) := by
  show MC.when (fits a.length) _ = _
  rw [h]; rfl
theorem lenP_l : lenP (.lst xs) = some (false, .int xs.length) := rfl
theorem lenP_t : lenP (.tup xs) = some (false, .int xs.length) := rfl
theorem lenP_q : lenP (.sq l xs) = some (false, .int xs.length) := rfl
theorem listP_s (h : fits a.length = true) : listP (.str ⟨⟨a⟩⟩) = some (true, .lst (a.map sign)) := by
  show MC.when (fits a.length) _ = _
  rw [h]; rfl
theorem listP_l : listP (.lst xs) = some (true, .lst xs) := rfl
theorem listP_t : listP (.tup xs) = some (true, .lst xs) := rfl
theorem tupleP_l : tupleP (.lst xs) = some (false, .tup xs) := rfl
theorem tupleP_t : tupleP (.tup xs) = some (false, .tup xs) := rfl
theorem ixP_l : ixP (.lst xs) (.int i) = (L2.atI xs i).map fun x => (false, x) := rfl
theorem ixP_t : ixP (.tup xs) (.int i) = (L2.atI xs i).map fun x => (false, x) := rfl
theorem ixP_q : ixP (.sq l xs) (.int i) = (L2.atI xs i).map fun x => (false, x) := rfl
theorem ixP_s (h : fits a.length = true) : ixP (.str ⟨⟨a⟩⟩) (.int i) = (L2.atI a i).map fun c => (false, .str ⟨⟨[c]⟩⟩) := by
  show (if fits a.length then (L2.atI a i).map _ else none) = _
  rw [if_pos h]; rfl
theorem atI_nat {α : Type} (zs : List α) (n : Nat) : L2.atI zs (n : Int) = zs[n]? := by
  unfold L2.atI L2.ixN
  rw [if_pos (by omega)]
  by_cases h : n < zs.length
  · rw [if_pos (by omega)]; rfl
  · rw [if_neg (by omega), List.getElem?_eq_none (by omega)]; rfl
theorem atI_2 {α : Type} (zs : List α) : L2.atI zs 2 = zs[2]? := atI_nat zs 2
theorem atI_3 {α : Type} (zs : List α) : L2.atI zs 3 = zs[3]? := atI_nat zs 3
theorem atI_4 {α : Type} (zs : List α) : L2.atI zs 4 = zs[4]? := atI_nat zs 4
theorem atI_0 {α : Type} (zs : List α) : L2.atI zs 0 = zs[0]? := atI_nat zs 0
theorem atI_1 {α : Type} (zs : List α) : L2.atI zs 1 = zs[1]? := atI_nat zs 1
theorem atI_last {α : Type} (zs : List α) : L2.atI zs (-1) = zs.getLast? := by
  unfold L2.atI L2.ixN
  rw [if_neg (by omega)]
  by_cases h : zs = []
  · subst h; rfl
  · have : 0 < zs.length := List.length_pos_iff.mpr h
    rw [if_pos (by omega), List.getLast?_eq_getElem?]
    show zs[(-1 + (zs.length : Int)).toNat]? = _
    congr 1; omega
theorem setV_l {v : PV} : setV (.lst xs) (.int i) v = (L2.ixN xs.length i).map fun j => .lst (xs.set j v) := rfl
theorem getV_l : getV (.lst xs) (.int i) = L2.atI xs i := rfl
theorem ixN_nat (m n : Nat) : L2.ixN m (n : Int) = if n < m then some n else none := by
  unfold L2.ixN
  rw [if_pos (by omega)]
  by_cases h : n < m
  · rw [if_pos (by omega), if_pos h]; rfl
  · rw [if_neg (by omega), if_neg h]
theorem ixN_2 (m : Nat) : L2.ixN m 2 = if 2 < m then some 2 else none := ixN_nat m 2
theorem ixN_3 (m : Nat) : L2.ixN m 3 = if 3 < m then some 3 else none := ixN_nat m 3
theorem ixN_4 (m : Nat) : L2.ixN m 4 = if 4 < m then some 4 else none := ixN_nat m 4
theorem ixN_0 (m : Nat) : L2.ixN m 0 = if 0 < m then some 0 else none := ixN_nat m 0
theorem ixN_1 (m : Nat) : L2.ixN m 1 = if 1 < m then some 1 else none := ixN_nat m 1
theorem popP_n {n : Nat} (h : n < xs.length) (h1 : xs.length < 100000) : popP xs [.int n] = some (xs[n], xs.eraseIdx n) := by
  have c : decide (-(2 ^ 63) ≤ (n : Int) ∧ (n : Int) < 2 ^ 63) = true := decide_eq_true ⟨by omega, by omega⟩
  unfold popP
  simp only [c, ixN_nat, h, if_true, Option.bind_some, List.getElem?_eq_getElem, Option.map_some]
theorem appendP_1 (h : xs.length < 100000) : appendP xs [x] = some (.non, xs ++ [x]) := by
  have : decide (xs.length < sizeLine) = true := decide_eq_true (Nat.lt_of_lt_of_le h (by decide))
  exact if_pos this
theorem extendP_l (h : xs.length + ys.length < 100000) : extendP xs [.lst ys] = some (.non, xs ++ ys) := by
  have : decide (xs.length + ys.length ≤ sizeLine) = true := decide_eq_true (Nat.le_trans (Nat.le_of_lt h) (by decide))
  exact if_pos this
theorem take_min_len {α : Type} (l : List α) (n : Nat) : l.take (min n l.length) = l.take n := by
  by_cases h : n ≤ l.length
  · rw [Nat.min_eq_left h]
  · rw [Nat.min_eq_right (by omega), List.take_length, List.take_of_length_le (by omega)]
theorem slP_to {n : Nat} (h : fits a.length = true) : slP (.str ⟨⟨a⟩⟩) none (some (n : Int)) = some (false, .str ⟨⟨a.take n⟩⟩) := by
  show (if fits a.length then fl (.str (L2.cutS ⟨⟨a⟩⟩ none (some (n : Int)))) else none) = _
  rw [if_pos h]
  have : L2.cutS ⟨⟨a⟩⟩ none (some (n : Int)) = ⟨⟨a.take n⟩⟩ := by
    unfold L2.cutS
    rw [HT.sIx_none, HT.sIx_nat]
    show (⟨⟨(a.drop 0).take (min n a.length - 0)⟩⟩ : Str) = _
    rw [List.drop_zero, Nat.sub_zero, take_min_len]
  rw [this]; rfl
theorem slP_from {n : Nat} (h : fits a.length = true) : slP (.str ⟨⟨a⟩⟩) (some (n : Int)) none = some (false, .str ⟨⟨a.drop n⟩⟩) := by
  show (if fits a.length then fl (.str (L2.cutS ⟨⟨a⟩⟩ (some (n : Int)) none)) else none) = _
  rw [if_pos h]
  have : L2.cutS ⟨⟨a⟩⟩ (some (n : Int)) none = ⟨⟨a.drop n⟩⟩ := by
    unfold L2.cutS
    rw [HT.sIx_none, HT.sIx_nat]
    show (⟨⟨(a.drop (min n a.length)).take (a.length - min n a.length)⟩⟩ : Str) = _
    rw [List.take_of_length_le (by rw [List.length_drop]; exact Nat.le_refl _)]
    by_cases hn : n ≤ a.length
    · rw [Nat.min_eq_left hn]
    · rw [Nat.min_eq_right (by omega), List.drop_length, List.drop_eq_nil_of_le (by omega)]
  rw [this]; rfl
end
theorem when_true (x : Option OV) : when true x = x := rfl
end MC
set_option Elab.async false
set_option linter.all false
set_option maxRecDepth 100000
set_option maxHeartbeats 4000000
namespace MC.Law
open PySem PySem.Spec L2
/-! what the defs compute -/
noncomputable def lc1__law_begin : M OV := (lcM (itemsM (take 0)) [1] (put 1 false) (pure true) (asF (un1 (look 1) intP)))
noncomputable def sem__law_begin : M Fl := (retM (lstM (consM (asF lc1__law_begin) (consM (pure (.int 0)) (consM (pure (.int 0)) (consM (pure (.int 7)) (consM (pure (.int 0)) (pure []))))))))
noncomputable def F__law_begin : Fn := fnOf 1 2 [] sem__law_begin
noncomputable def vx1__law_draw : M PV := (asF (bin2 (asF (un1 (asF (bin2 (asF (bin2 (asF (bin2 (asF (bin2 (asF (bin2v 0 (pure (.int 3)) ixP)) (pure (.int 48271)) mulP)) (asF (bin2 (asF (bin2 (asF (un1 (look 3) intP)) (pure (.int 2147483629)) modP)) (pure (.int 16807)) mulP)) addP)) (asF (bin2 (asF (bin2v 0 (pure (.int 1)) ixP)) (pure (.int 69621)) mulP)) addP)) (pure (.int 11)) addP)) intP)) (pure (.int 2147483647)) modP))
noncomputable def sem__law_draw : M Fl := (seqM (ifM (asT (bin2 (asF (bin2v 0 (pure (.int 2)) ixP)) (pure (.int 0)) gtP)) (seqM (setM 2 (bin2v 0 (pure (.int 2)) ixP))
    (seqM (setIxM 0 (asF (bin2v 2 (look 1) fdivP)) (pure (.int 2)))
    (retM (bin2 (asF (un1 (look 2) intP)) (look 1) modP)))) (pure .nx))
    (seqM (setM 3 ((pure (.int 0)) >>= fun v => pure (false, v)))
    (seqM (ifM (asT (bin2 (asF (bin2v 0 (pure (.int 1)) ixP)) (asF (un1 (asF (bin2v 0 (pure (.int 0)) ixP)) lenP)) ltP)) (seqM (setM 4 (bin2 (asF (bin2v 0 (pure (.int 0)) ixP)) (asF (bin2v 0 (pure (.int 1)) ixP)) ixP))
    (setM 3 (bin2 (asF (bin2 (pure (.int 2)) (asF (un1 (look 4) absP)) mulP)) (asF (un1 (asF (bin2v 4 (pure (.int 0)) ltP)) intP)) addP))) (pure .nx))
    (seqM (augIxM 0 (pure (.int 1)) (pure (.int 1)) iaddP)
    (seqM (ifM (asT (bin2v 3 (asF (bin2 (pure (.int 2)) (asF (bin2 (pure (.int 10)) (pure (.int 18)) powP)) mulP)) geP)) (seqM (setM 2 (bin2 (asF (un1 (asF (bin2v 3 (pure (.int 2)) fdivP)) intP)) (asF (bin2 (pure (.int 1)) (pure (.int 6000)) shlP)) modP))
    (seqM (setIxM 0 (asF (bin2v 2 (look 1) fdivP)) (pure (.int 2)))
    (retM (bin2 (asF (un1 (look 2) intP)) (look 1) modP)))) (pure .nx))
    (seqM (setIxM 0 vx1__law_draw (pure (.int 3)))
    (retM (bin2 (asF (un1 (asF (bin2 (asF (bin2v 0 (pure (.int 3)) ixP)) (pure (.int 16)) fdivP)) intP)) (look 1) modP))))))))
noncomputable def F__law_draw : Fn := fnOf 2 5 [0] sem__law_draw
noncomputable def sem__law_pop : M Fl := (retM (mutM 1 (consM (asF (callM [0] F__law_draw (slotM 0 (valM (asF (un1 (look 1) lenP)) (pure []))))) (pure [])) popP))
noncomputable def F__law_pop : Fn := fnOf 2 2 [0, 1] sem__law_pop
noncomputable def bd1__law_alphabet : M Fl := (dropM (mutM 3 (consM (asF (callM [0, 1] F__law_pop (slotM 0 (slotM 2 (pure []))))) (pure [])) appendP))
noncomputable def fo1__law_alphabet : M Fl := ((range1M (look 1)) >>= forM (put 4 false) bd1__law_alphabet)
noncomputable def sem__law_alphabet : M Fl := (seqM (setM 2 (un1 (pure (.str "abcdefghijklmnopqrstuvwxyz")) listP))
    (seqM (setM 3 (lstM (pure [])))
    (seqM fo1__law_alphabet
    (retM (strM (pure (.str "")) (consM (asF (un1 (look 3) sortedP)) (pure [])) joinP)))))
noncomputable def F__law_alphabet : Fn := fnOf 2 5 [0] sem__law_alphabet
noncomputable def sem__law_pick : M Fl := (retM (bin2v 1 (asF (callM [0] F__law_draw (slotM 0 (valM (asF (un1 (look 1) lenP)) (pure []))))) ixP))
noncomputable def F__law_pick : Fn := fnOf 2 2 [0] sem__law_pick
noncomputable def bd1__law_long_word : M Fl := (setM 4 (bin2v 4 (asF (callM [0] F__law_pick (slotM 0 (slotM 1 (pure []))))) addP))
noncomputable def fo1__law_long_word : M Fl := ((range1M (look 3)) >>= forM (put 5 false) bd1__law_long_word)
noncomputable def sem__law_long_word : M Fl := (seqM (setM 2 (callM [0] F__law_draw (slotM 0 (valM (pure (.int 9)) (pure [])))))
    (seqM (ifM (asT (bin2 (asF (callM [0] F__law_draw (slotM 0 (valM (pure (.int 4)) (pure []))))) (pure (.int 1)) eqP)) (setM 2 (bin2 (pure (.int 9)) (asF (callM [0] F__law_draw (slotM 0 (valM (pure (.int 32)) (pure []))))) addP)) (pure .nx))
    (seqM (setM 3 ((take 2) >>= fun v => pure (false, v)))
    (seqM (ifM (asT (bin2 (asF (callM [0] F__law_draw (slotM 0 (valM (pure (.int 3)) (pure []))))) (pure (.int 0)) eqP)) (setM 3 (callM [0] F__law_draw (slotM 0 (valM (asF (bin2v 2 (pure (.int 1)) addP)) (pure []))))) (pure .nx))
    (seqM (setM 4 ((pure (.str "")) >>= fun v => pure (false, v)))
    (seqM fo1__law_long_word
    (retM (bin2v 4 (asF (bin2 (asF (bin2v 1 (asF (un1 (pure (.int 1)) negP)) ixP)) (asF (bin2v 2 (look 3) subP)) mulP)) addP))))))))
noncomputable def F__law_long_word : Fn := fnOf 2 6 [0] sem__law_long_word
noncomputable def lc1__law_bad_alphabets : M OV := (lcM (itemsM (take 1)) [7] (put 7 false) (pure true) (take 7))
noncomputable def sem__law_bad_alphabets : M Fl := (seqM (setM 3 (callM [0] F__law_draw (slotM 0 (valM (asF (un1 (look 1) lenP)) (pure [])))))
    (seqM (setM 4 (callM [0] F__law_pick (slotM 0 (valM (pure (.str "AZMQ09 _-\x40[^|~")) (pure [])))))
    (seqM (setM 5 (lstM (consM (pure (.str "")) (consM (take 2) (consM (asF (bin2 (asF (bin2 (asF (slMv 1 (pure none) (asInt (look 3)) slP)) (asF (bin2v 1 (look 3) ixP)) addP)) (asF (slMv 1 (asInt (look 3)) (pure none) slP)) addP)) (consM (take 3) (consM (asF (un1 (pure (.int 1)) negP)) (consM (asF (tupM (pure []))) (consM (asF (tupM (consM (take 1) (pure [])))) (pure []))))))))))
    (seqM (dropM (mutM 5 (consM (asF (bin2 (asF (bin2 (asF (slMv 1 (pure none) (asInt (look 3)) slP)) (look 4) addP)) (asF (slMv 1 (asInt (asF (bin2v 3 (pure (.int 1)) addP))) (pure none) slP)) addP)) (pure [])) appendP))
    (seqM (dropM (mutM 5 (consM (asF (bin2 (pure (.str "`")) (asF (slMv 1 (asInt (pure (.int 1))) (pure none) slP)) addP)) (pure [])) appendP))
    (seqM (dropM (mutM 5 (consM (asF (bin2 (asF (slMv 1 (pure none) (asInt (asF (un1 (pure (.int 1)) negP))) slP)) (pure (.str "{")) addP)) (pure [])) appendP))
    (seqM (dropM (mutM 5 (consM (asF (bin2 (asF (slMv 1 (pure none) (asInt (asF (un1 (pure (.int 1)) negP))) slP)) (asF (strM (asF (bin2v 1 (asF (un1 (pure (.int 1)) negP)) ixP)) (pure []) upperP)) addP)) (pure [])) appendP))
    (seqM (dropM (mutM 5 (consM (asF (un1 (asF lc1__law_bad_alphabets) tupleP)) (pure [])) appendP))
    (seqM (ifM (asT (bin2 (asF (un1 (look 1) lenP)) (pure (.int 1)) gtP)) (seqM (setM 6 (callM [0] F__law_draw (slotM 0 (valM (asF (bin2 (asF (un1 (look 1) lenP)) (pure (.int 1)) subP)) (pure [])))))
    (seqM (dropM (mutM 5 (consM (asF (bin2 (asF (bin2 (asF (bin2 (asF (slMv 1 (pure none) (asInt (look 6)) slP)) (asF (bin2v 1 (asF (bin2v 6 (pure (.int 1)) addP)) ixP)) addP)) (asF (bin2v 1 (look 6) ixP)) addP)) (asF (slMv 1 (asInt (asF (bin2v 6 (pure (.int 2)) addP))) (pure none) slP)) addP)) (pure [])) appendP))
    (dropM (mutM 5 (consM (asF (bin2 (asF (bin2 (asF (bin2 (asF (slMv 1 (pure none) (asInt (look 6)) slP)) (asF (bin2v 1 (look 6) ixP)) addP)) (asF (bin2v 1 (look 6) ixP)) addP)) (asF (slMv 1 (asInt (asF (bin2v 6 (pure (.int 2)) addP))) (pure none) slP)) addP)) (pure [])) appendP)))) (pure .nx))
    (giveM 5))))))))))
noncomputable def F__law_bad_alphabets : Fn := fnOf 3 8 [0] sem__law_bad_alphabets
noncomputable def bd1_is_alphabet : M Fl := (seqM (ifM (notM (asT (chain (pure (.str "a")) (asF (bin2v 0 (look 1) ixP)) (pure (.str "z")) leP leP))) (retM ((pure (.bl false)) >>= fun v => pure (false, v))) (pure .nx))
    (ifM (andM (asT (bin2v 1 (pure (.int 0)) gtP)) (asT (bin2 (asF (bin2v 0 (asF (bin2v 1 (pure (.int 1)) subP)) ixP)) (asF (bin2v 0 (look 1) ixP)) geP))) (retM ((pure (.bl false)) >>= fun v => pure (false, v))) (pure .nx)))
noncomputable def fo1_is_alphabet : M Fl := ((range1M (asF (un1 (look 0) lenP))) >>= forM (put 1 false) bd1_is_alphabet)
noncomputable def sem_is_alphabet : M Fl := (seqM (ifM (orM (notM (truM (asF (un1 (look 0) (isiM "str"))))) (notM (asT (chain (pure (.int 1)) (asF (un1 (look 0) lenP)) (pure (.int 4)) leP leP)))) (retM ((pure (.bl false)) >>= fun v => pure (false, v))) (pure .nx))
    (seqM fo1_is_alphabet
    (retM ((pure (.bl true)) >>= fun v => pure (false, v)))))
noncomputable def F_is_alphabet : Fn := fnOf 1 2 [] sem_is_alphabet
noncomputable def lc1_is_word : M OV := (lcM (itemsM (take 1)) [2] (put 2 false) (pure true) (asF (bin2v 2 (look 0) inP)))
noncomputable def sem_is_word : M Fl := (seqM (ifM (notM (truM (asF (un1 (look 1) (isiM "str"))))) (retM ((pure (.bl false)) >>= fun v => pure (false, v))) (pure .nx))
    (retM (un1 (asF lc1_is_word) allP)))
noncomputable def F_is_word : Fn := fnOf 2 3 [] sem_is_word
noncomputable def bd1__law_judges_stand : M Fl := (ifM (asT (bin2 (asF (callM [] F_is_alphabet (slotM 4 (pure [])))) (pure (.bl true)) isNotP)) (retM ((pure (.bl false)) >>= fun v => pure (false, v))) (pure .nx))
noncomputable def fo1__law_judges_stand : M Fl := ((itemsM (asF (lstM (consM (take 1) (consM (asF (slMv 3 (pure none) (asInt (pure (.int 4))) slP)) (consM (asF (slMv 3 (asInt (pure (.int 1))) (pure none) slP)) (consM (asF (slMv 3 (asInt (pure (.int 2))) (asInt (pure (.int 4))) slP)) (consM (asF (bin2v 3 (pure (.int 4)) ixP)) (pure []))))))))) >>= forM (put 4 false) bd1__law_judges_stand)
noncomputable def bd2__law_judges_stand : M Fl := (ifM (asT (bin2 (asF (callM [] F_is_alphabet (slotM 5 (pure [])))) (pure (.bl false)) isNotP)) (retM ((pure (.bl false)) >>= fun v => pure (false, v))) (pure .nx))
noncomputable def fo2__law_judges_stand : M Fl := ((itemsM (asF (callM [0] F__law_bad_alphabets (slotM 0 (slotM 1 (slotM 3 (pure []))))))) >>= forM (put 5 false) bd2__law_judges_stand)
noncomputable def lc1__law_judges_stand : M OV := (lcM (itemsM (pure (.str "abcdefghijklmnopqrstuvwxyz"))) [10] (put 10 false) (asT (bin2v 10 (look 1) notInP)) (take 10))
noncomputable def bd3__law_judges_stand : M Fl := (seqM (setM 8 (callM [0] F__law_draw (slotM 0 (valM (asF (bin2 (asF (un1 (look 2) lenP)) (pure (.int 1)) addP)) (pure [])))))
    (ifM (asT (bin2 (asF (callM [] F_is_word (slotM 1 (valM (asF (bin2 (asF (bin2 (asF (slMv 2 (pure none) (asInt (look 8)) slP)) (look 7) addP)) (asF (slMv 2 (asInt (look 8)) (pure none) slP)) addP)) (pure []))))) (pure (.bl false)) isNotP)) (retM ((pure (.bl false)) >>= fun v => pure (false, v))) (pure .nx)))
noncomputable def fo3__law_judges_stand : M Fl := ((itemsM (asF (lstM (consM (asF (callM [0] F__law_pick (slotM 0 (slotM 6 (pure []))))) (consM (asF (strM (asF (callM [0] F__law_pick (slotM 0 (slotM 1 (pure []))))) (pure []) upperP)) (consM (asF (callM [0] F__law_pick (slotM 0 (valM (pure (.str "059 _-~{`")) (pure []))))) (pure []))))))) >>= forM (put 7 false) bd3__law_judges_stand)
noncomputable def lc2__law_judges_stand : M OV := (lcM (itemsM (take 2)) [11] (put 11 false) (pure true) (take 11))
noncomputable def bd4__law_judges_stand : M Fl := (ifM (asT (bin2 (asF (callM [] F_is_word (slotM 1 (slotM 9 (pure []))))) (pure (.bl false)) isNotP)) (retM ((pure (.bl false)) >>= fun v => pure (false, v))) (pure .nx))
noncomputable def fo4__law_judges_stand : M Fl := ((itemsM (asF (lstM (consM (asF (un1 (asF lc2__law_judges_stand) tupleP)) (consM (asF (tupM (consM (take 2) (pure [])))) (consM (asF (tupM (pure []))) (consM (asF (tupM (consM (take 1) (pure [])))) (consM (pure (.int 0)) (consM (asF (un1 (pure (.int 1)) negP)) (consM (asF (un1 (look 2) lenP)) (pure []))))))))))) >>= forM (put 9 false) bd4__law_judges_stand)
noncomputable def sem__law_judges_stand : M Fl := (seqM (setM 3 (callM [0] F__law_alphabet (slotM 0 (valM (pure (.int 5)) (pure [])))))
    (seqM fo1__law_judges_stand
    (seqM fo2__law_judges_stand
    (seqM (setM 6 lc1__law_judges_stand)
    (seqM fo3__law_judges_stand
    (seqM fo4__law_judges_stand
    (retM (andV (asF (bin2 (asF (callM [] F_is_word (slotM 1 (slotM 2 (pure []))))) (pure (.bl true)) isP)) (bin2 (asF (callM [] F_is_word (slotM 1 (valM (pure (.str "")) (pure []))))) (pure (.bl true)) isP)))))))))
noncomputable def F__law_judges_stand : Fn := fnOf 3 12 [0] sem__law_judges_stand
noncomputable def bd1_word_at : M Fl := (seqM (augM 3 (pure (.int 1)) subP)
    (seqM (dropM (mutM 2 (consM (asF (bin2v 0 (asF (bin2v 3 (asF (un1 (look 0) lenP)) modP)) ixP)) (pure [])) appendP))
    (setM 3 (bin2v 3 (asF (un1 (look 0) lenP)) fdivP))))
noncomputable def wh1_word_at : M Fl := (whileM (asT (bin2v 3 (pure (.int 0)) gtP)) bd1_word_at)
noncomputable def sem_word_at : M Fl := (seqM (setM 2 (lstM (pure [])))
    (seqM (setM 3 ((take 1) >>= fun v => pure (false, v)))
    (seqM wh1_word_at
    (retM (joinRevM (pure (.str "")) (take 2))))))
noncomputable def F_word_at : Fn := fnOf 2 4 [] sem_word_at
noncomputable def bd1__law_words_before : M Fl := (seqM (augM 2 (look 3) iaddP)
    (seqM (setM 3 (bin2v 3 (asF (un1 (look 0) lenP)) mulP))
    (setM 4 (bin2 (asF (bin2v 4 (asF (un1 (look 0) lenP)) mulP)) (asF (strM (look 0) (consM (take 5) (pure [])) indexP)) addP))))
noncomputable def fo1__law_words_before : M Fl := ((itemsM (take 1)) >>= forM (put 5 false) bd1__law_words_before)
noncomputable def sem__law_words_before : M Fl := (seqM (setM 2 ((pure (.int 0)) >>= fun v => pure (false, v)))
    (seqM (setM 3 ((pure (.int 1)) >>= fun v => pure (false, v)))
    (seqM (setM 4 ((pure (.int 0)) >>= fun v => pure (false, v)))
    (seqM fo1__law_words_before
    (retM (bin2v 2 (look 4) addP))))))
noncomputable def F__law_words_before : Fn := fnOf 2 6 [] sem__law_words_before
noncomputable def bd1__law_word_behind : M Fl := (augM 2 (pure (.int 1)) subP)
noncomputable def wh1__law_word_behind : M Fl := (whileM (andM (asT (bin2v 2 (pure (.int 0)) geP)) (asT (bin2 (asF (bin2v 1 (look 2) ixP)) (asF (bin2v 0 (asF (un1 (pure (.int 1)) negP)) ixP)) eqP))) bd1__law_word_behind)
noncomputable def sem__law_word_behind : M Fl := (seqM (setM 2 (bin2 (asF (un1 (look 1) lenP)) (pure (.int 1)) subP))
    (seqM wh1__law_word_behind
    (seqM (ifM (asT (bin2v 2 (pure (.int 0)) ltP)) (retM (bin2 (asF (bin2v 0 (pure (.int 0)) ixP)) (asF (bin2 (asF (un1 (look 1) lenP)) (pure (.int 1)) addP)) mulP)) (pure .nx))
    (seqM (setM 3 (bin2 (asF (bin2 (asF (un1 (look 1) lenP)) (look 2) subP)) (pure (.int 1)) subP))
    (retM (bin2 (asF (bin2 (asF (slMv 1 (pure none) (asInt (look 2)) slP)) (asF (bin2v 0 (asF (bin2 (asF (strM (look 0) (consM (asF (bin2v 1 (look 2) ixP)) (pure [])) indexP)) (pure (.int 1)) addP)) ixP)) addP)) (asF (bin2 (asF (bin2v 0 (pure (.int 0)) ixP)) (look 3) mulP)) addP))))))
noncomputable def F__law_word_behind : Fn := fnOf 2 4 [] sem__law_word_behind
noncomputable def sem__law_is_int : M Fl := (retM (andV (asF (un1 (look 0) (isiM "int"))) (notV (asF (un1 (look 0) (isiM "bool"))))))
noncomputable def F__law_is_int : Fn := fnOf 1 1 [] sem__law_is_int
noncomputable def sem__law_is_number : M Fl := (retM (andV (asF (callM [] F__law_is_int (slotM 0 (pure [])))) (bin2v 0 (look 1) eqP)))
noncomputable def F__law_is_number : Fn := fnOf 2 2 [] sem__law_is_number
noncomputable def sem__law_is_text : M Fl := (retM (andV (asF (un1 (look 0) (isiM "str"))) (bin2v 0 (look 1) eqP)))
noncomputable def F__law_is_text : Fn := fnOf 2 2 [] sem__law_is_text
noncomputable def bd1_word_rank : M Fl := (setM 2 (bin2 (asF (bin2 (asF (bin2v 2 (asF (un1 (look 0) lenP)) mulP)) (asF (strM (look 0) (consM (take 3) (pure [])) indexP)) addP)) (pure (.int 1)) addP))
noncomputable def fo1_word_rank : M Fl := ((itemsM (take 1)) >>= forM (put 3 false) bd1_word_rank)
noncomputable def sem_word_rank : M Fl := (seqM (setM 2 ((pure (.int 0)) >>= fun v => pure (false, v)))
    (seqM fo1_word_rank
    (giveM 2)))
noncomputable def F_word_rank : Fn := fnOf 2 4 [] sem_word_rank
noncomputable def bd1__law_far_places_stand : M Fl := (seqM (setM 5 (callM [] F__law_words_before (slotM 4 (slotM 3 (pure [])))))
    (seqM (setM 6 (callM [] F__law_word_behind (slotM 4 (slotM 3 (pure [])))))
    (seqM (ifM (orM (notM (truM (asF (callM [] F__law_is_number (valM (asF (callM [] F_word_rank (slotM 4 (slotM 3 (pure []))))) (slotM 5 (pure []))))))) (notM (truM (asF (callM [] F__law_is_text (valM (asF (callM [] F_word_at (slotM 4 (slotM 5 (pure []))))) (slotM 3 (pure [])))))))) (retM ((pure (.bl false)) >>= fun v => pure (false, v))) (pure .nx))
    (seqM (ifM (notM (truM (asF (callM [] F__law_is_number (valM (asF (callM [] F_word_rank (slotM 4 (slotM 6 (pure []))))) (valM (asF (bin2v 5 (pure (.int 1)) addP)) (pure []))))))) (retM ((pure (.bl false)) >>= fun v => pure (false, v))) (pure .nx))
    (ifM (notM (truM (asF (callM [] F__law_is_text (valM (asF (callM [] F_word_at (slotM 4 (valM (asF (bin2v 5 (pure (.int 1)) addP)) (pure []))))) (slotM 6 (pure []))))))) (retM ((pure (.bl false)) >>= fun v => pure (false, v))) (pure .nx))))))
noncomputable def fo1__law_far_places_stand : M Fl := ((itemsM (asF (lstM (consM (take 1) (consM (take 2) (consM (take 1) (pure []))))))) >>= forM (put 4 false) bd1__law_far_places_stand)
noncomputable def lc1__law_far_places_stand : M OV := (lcM (itemsM (take 8)) [9] (put 9 false) (pure true) (asF (bin2v 9 (look 1) inP)))
noncomputable def sem__law_far_places_stand : M Fl := (seqM fo1__law_far_places_stand
    (seqM (setM 7 (callM [0] F__law_draw (slotM 0 (valM (pure (.int 60)) (pure [])))))
    (seqM (ifM (asT (bin2 (asF (un1 (look 1) lenP)) (pure (.int 1)) gtP)) (setM 7 (callM [0] F__law_draw (slotM 0 (valM (asF (bin2 (pure (.int 10)) (pure (.int 9)) powP)) (pure []))))) (pure .nx))
    (seqM (setM 8 (callM [] F_word_at (slotM 1 (slotM 7 (pure [])))))
    (seqM (ifM (orM (notM (truM (asF (un1 (look 8) (isiM "str"))))) (notM (truM (asF (un1 (asF lc1__law_far_places_stand) allP))))) (retM ((pure (.bl false)) >>= fun v => pure (false, v))) (pure .nx))
    (retM (bin2 (asF (callM [] F__law_words_before (slotM 1 (slotM 8 (pure []))))) (look 7) eqP)))))))
noncomputable def F__law_far_places_stand : Fn := fnOf 4 10 [0] sem__law_far_places_stand
noncomputable def bd1__law_words : M Fl := (dropM (mutM 5 (consM (asF (bin2v 6 (look 7) addP)) (pure [])) appendP))
noncomputable def fo1__law_words : M Fl := ((itemsM (take 0)) >>= forM (put 7 false) bd1__law_words)
noncomputable def bd2__law_words : M Fl := fo1__law_words
noncomputable def fo2__law_words : M Fl := ((itemsM (take 2)) >>= forM (put 6 false) bd2__law_words)
noncomputable def bd3__law_words : M Fl := (seqM (setM 5 (lstM (pure [])))
    (seqM fo2__law_words
    (seqM (setM 2 ((take 5) >>= fun v => pure (false, v)))
    (setM 3 (bin2v 3 (look 2) addP)))))
noncomputable def fo3__law_words : M Fl := ((range1M (look 1)) >>= forM (put 4 false) bd3__law_words)
noncomputable def sem__law_words : M Fl := (seqM (setM 2 (lstM (consM (pure (.str "")) (pure []))))
    (seqM (setM 3 (lstM (consM (pure (.str "")) (pure []))))
    (seqM fo3__law_words
    (giveM 3))))
noncomputable def F__law_words : Fn := fnOf 2 8 [] sem__law_words
noncomputable def lc1_words_of_length : M OV := (lc2M (itemsM (take 2)) [4, 5] [5] (put 4 false) (pure true) (itemsM (take 0)) (put 5 false) (pure true) (asF (bin2v 4 (look 5) addP)))
noncomputable def bd1_words_of_length : M Fl := (setM 2 lc1_words_of_length)
noncomputable def fo1_words_of_length : M Fl := ((range1M (look 1)) >>= forM (put 3 false) bd1_words_of_length)
noncomputable def sem_words_of_length : M Fl := (seqM (setM 2 (lstM (consM (pure (.str "")) (pure []))))
    (seqM fo1_words_of_length
    (giveM 2)))
noncomputable def F_words_of_length : Fn := fnOf 2 6 [] sem_words_of_length
noncomputable def bd1_words_up_to : M Fl := (dropM (mutM 2 (consM (asF (callM [] F_words_of_length (slotM 0 (slotM 3 (pure []))))) (pure [])) extendP))
noncomputable def fo1_words_up_to : M Fl := ((range1M (asF (bin2v 1 (pure (.int 1)) addP))) >>= forM (put 3 false) bd1_words_up_to)
noncomputable def sem_words_up_to : M Fl := (seqM (setM 2 (lstM (pure [])))
    (seqM fo1_words_up_to
    (giveM 2)))
noncomputable def F_words_up_to : Fn := fnOf 2 4 [] sem_words_up_to
noncomputable def lc1__law_are_texts : M OV := (lcM (range1M (asF (un1 (look 1) lenP))) [2] (put 2 false) (pure true) (asF (callM [] F__law_is_text (valM (asF (bin2v 0 (look 2) ixP)) (valM (asF (bin2v 1 (look 2) ixP)) (pure []))))))
noncomputable def sem__law_are_texts : M Fl := (seqM (ifM (orM (notM (truM (asF (un1 (look 0) (isiM "list"))))) (asT (bin2 (asF (un1 (look 0) lenP)) (asF (un1 (look 1) lenP)) neP))) (retM ((pure (.bl false)) >>= fun v => pure (false, v))) (pure .nx))
    (retM (un1 (asF lc1__law_are_texts) allP)))
noncomputable def F__law_are_texts : Fn := fnOf 2 3 [] sem__law_are_texts
noncomputable def lc1__law_lists_stand : M OV := (lcM (itemsM (take 2)) [7] (put 7 false) (asT (bin2 (asF (un1 (look 7) lenP)) (look 4) leP)) (take 7))
noncomputable def lc2__law_lists_stand : M OV := (lcM (itemsM (take 2)) [7] (put 7 false) (asT (bin2 (asF (un1 (look 7) lenP)) (look 4) eqP)) (take 7))
noncomputable def bd1__law_lists_stand : M Fl := (seqM (setM 5 (callM [] F_words_up_to (slotM 0 (slotM 4 (pure [])))))
    (seqM (ifM (notM (truM (asF (callM [] F__law_are_texts (slotM 5 (valM (asF lc1__law_lists_stand) (pure []))))))) (retM ((pure (.bl false)) >>= fun v => pure (false, v))) (pure .nx))
    (seqM (setM 6 (callM [] F_words_of_length (slotM 0 (slotM 4 (pure [])))))
    (seqM (ifM (notM (truM (asF (callM [] F__law_are_texts (slotM 6 (valM (asF lc2__law_lists_stand) (pure []))))))) (retM ((pure (.bl false)) >>= fun v => pure (false, v))) (pure .nx))
    (seqM (setIxM 5 (pure (.str "spoilt")) (pure (.int 0)))
    (seqM (dropM (mutM 5 (consM (pure (.str "spoilt")) (pure [])) appendP))
    (seqM (setIxM 6 (pure (.str "spoilt")) (pure (.int 0)))
    (dropM (mutM 6 (consM (pure (.str "spoilt")) (pure [])) appendP)))))))))
noncomputable def fo1__law_lists_stand : M Fl := ((range1M (asF (bin2v 1 (pure (.int 1)) addP))) >>= forM (put 4 false) bd1__law_lists_stand)
noncomputable def bd2__law_lists_stand : M Fl := fo1__law_lists_stand
noncomputable def fo2__law_lists_stand : M Fl := ((range1M (pure (.int 2))) >>= forM (put 3 false) bd2__law_lists_stand)
noncomputable def sem__law_lists_stand : M Fl := (seqM (setM 2 (callM [] F__law_words (slotM 0 (slotM 1 (pure [])))))
    (seqM fo2__law_lists_stand
    (retM ((pure (.bl true)) >>= fun v => pure (false, v)))))
noncomputable def F__law_lists_stand : Fn := fnOf 2 8 [] sem__law_lists_stand
noncomputable def sem_word_key : M Fl := (retM (tupM (consM (asF (un1 (look 0) lenP)) (consM (take 0) (pure [])))))
noncomputable def F_word_key : Fn := fnOf 1 1 [] sem_word_key
noncomputable def bd1__law_places_stand : M Fl := (seqM (ifM (orM (notM (truM (asF (callM [] F__law_is_number (valM (asF (callM [] F_word_rank (slotM 0 (valM (asF (bin2v 2 (look 3) ixP)) (pure []))))) (slotM 3 (pure []))))))) (notM (truM (asF (callM [] F__law_is_text (valM (asF (callM [] F_word_at (slotM 0 (slotM 3 (pure []))))) (valM (asF (bin2v 2 (look 3) ixP)) (pure [])))))))) (retM ((pure (.bl false)) >>= fun v => pure (false, v))) (pure .nx))
    (seqM (setM 4 (callM [] F_word_key (valM (asF (bin2v 2 (look 3) ixP)) (pure []))))
    (seqM (ifM (orM (notM (truM (asF (un1 (look 4) (isiM "tuple"))))) (asT (bin2 (asF (un1 (look 4) lenP)) (pure (.int 2)) neP))) (retM ((pure (.bl false)) >>= fun v => pure (false, v))) (pure .nx))
    (seqM (ifM (orM (notM (truM (asF (callM [] F__law_is_number (valM (asF (bin2v 4 (pure (.int 0)) ixP)) (valM (asF (un1 (asF (bin2v 2 (look 3) ixP)) lenP)) (pure []))))))) (notM (truM (asF (callM [] F__law_is_text (valM (asF (bin2v 4 (pure (.int 1)) ixP)) (valM (asF (bin2v 2 (look 3) ixP)) (pure [])))))))) (retM ((pure (.bl false)) >>= fun v => pure (false, v))) (pure .nx))
    (ifM (asT (bin2 (asF (callM [] F_is_word (slotM 0 (valM (asF (bin2v 2 (look 3) ixP)) (pure []))))) (pure (.bl true)) isNotP)) (retM ((pure (.bl false)) >>= fun v => pure (false, v))) (pure .nx))))))
noncomputable def fo1__law_places_stand : M Fl := ((range1M (asF (un1 (look 2) lenP))) >>= forM (put 3 false) bd1__law_places_stand)
noncomputable def sem__law_places_stand : M Fl := (seqM (setM 2 (callM [] F__law_words (slotM 0 (slotM 1 (pure [])))))
    (seqM fo1__law_places_stand
    (retM ((pure (.bl true)) >>= fun v => pure (false, v)))))
noncomputable def F__law_places_stand : Fn := fnOf 2 5 [] sem__law_places_stand
noncomputable def lc1_law : M OV := (lcM (itemsM (pure (.str "abcdefghijklmnopqrstuvwxyz"))) [8] (put 8 false) (asT (bin2v 8 (look 3) notInP)) (take 8))
noncomputable def sem_law : M Fl := (seqM (setM 1 (callM [] F__law_begin (slotM 0 (pure []))))
    (seqM (setM 2 (bin2 (pure (.int 1)) (asF (callM [0] F__law_draw (slotM 1 (valM (pure (.int 4)) (pure []))))) addP))
    (seqM (setM 3 (callM [0] F__law_alphabet (slotM 1 (slotM 2 (pure [])))))
    (seqM (setM 4 ((take 3) >>= fun v => pure (false, v)))
    (seqM (ifM (asT (bin2v 2 (pure (.int 4)) ltP)) (seqM (setM 5 lc1_law)
    (setM 4 (strM (pure (.str "")) (consM (asF (un1 (asF (bin2 (asF (un1 (look 3) listP)) (asF (lstM (consM (asF (callM [0] F__law_pick (slotM 1 (slotM 5 (pure []))))) (pure [])))) addP)) sortedP)) (pure [])) joinP))) (pure .nx))
    (seqM (setM 6 (callM [0] F__law_long_word (slotM 1 (slotM 3 (pure [])))))
    (seqM (setM 7 (bin2 (asF (lstM (consM (pure (.int 12)) (consM (pure (.int 5)) (consM (pure (.int 4)) (consM (pure (.int 3)) (pure []))))))) (asF (bin2v 2 (pure (.int 1)) subP)) ixP))
    (seqM (ifM (asT (bin2 (asF (callM [0] F__law_draw (slotM 1 (valM (pure (.int 8)) (pure []))))) (pure (.int 0)) eqP)) (setM 7 (bin2 (asF (lstM (consM (pure (.int 40)) (consM (pure (.int 8)) (consM (pure (.int 5)) (consM (pure (.int 4)) (pure []))))))) (asF (bin2v 2 (pure (.int 1)) subP)) ixP)) (pure .nx))
    (seqM (ifM (orM (notM (truM (asF (callM [] F__law_lists_stand (slotM 3 (slotM 7 (pure []))))))) (notM (truM (asF (callM [] F__law_places_stand (slotM 3 (slotM 7 (pure [])))))))) (retM ((pure (.bl false)) >>= fun v => pure (false, v))) (pure .nx))
    (seqM (ifM (notM (truM (asF (callM [0] F__law_far_places_stand (slotM 1 (slotM 3 (slotM 4 (slotM 6 (pure []))))))))) (retM ((pure (.bl false)) >>= fun v => pure (false, v))) (pure .nx))
    (retM (callM [0] F__law_judges_stand (slotM 1 (slotM 3 (slotM 6 (pure []))))))))))))))))
noncomputable def F_law : Fn := fnOf 1 9 [] sem_law
end MC.Law
set_option Elab.async false
set_option linter.all false
set_option maxRecDepth 100000
set_option maxHeartbeats 4000000
namespace MC.Law
open PySem PySem.Spec L2
def top (i : Nat) : Stmt := PySem.Challenge.pw_lettercourt_k01_ranks_of_words.main.body.getD i (.Pass ⟨0, 0, 0, 0⟩)
structure Bl (mg : Str → Option Value) : Prop where
  b_abs : mg "abs" = none
  b_all : mg "all" = none
  b_bool : mg "bool" = none
  b_int : mg "int" = none
  b_isinstance : mg "isinstance" = none
  b_len : mg "len" = none
  b_list : mg "list" = none
  b_range : mg "range" = none
  b_reversed : mg "reversed" = none
  b_sorted : mg "sorted" = none
  b_str : mg "str" = none
  b_tuple : mg "tuple" = none
  c_LETTERS_LIMIT : ∃ t, mg "LETTERS_LIMIT" = some (.int 4 t)
section
variable {P : Program} {w : World} {K : PySem.W.Frag} {mg : Str → Option Value} {base : Heap}
abbrev s__law_begin : Stmt := top 10
theorem sc__law_begin : FnScope ["script", "cell"] ["script"] (defScope s__law_begin) := ⟨rfl, rfl, rfl, by decide +kernel, rfl, by decide +kernel, by decide +kernel⟩
theorem ok__law_begin (T : Bl mg)  (D : Dfn K mg "_law_begin" s__law_begin ["script"]) : Cal P w K mg base 1 "_law_begin" ["script"] [] F__law_begin :=
  D.cal (N := ["script", "cell"]) sc__law_begin (by decide) fun f cdv A outer s H E hr =>
    (wss_one (ws_ret (we_lst (wl_cons (WE.wf (we_lc (own := [("cell", 1)]) rfl sc__law_begin.nd (wi_any (wf_var 0)) (blkOk_by (by kernel_rfl)) (by decide) (fun _ _ _ _ _ => (wg_name 1 sc__law_begin.nd)) (fun _ _ _ _ _ => wts_nil) (fun _ _ _ _ _ => (WE.wf (we_callT (p_int) rfl T.b_int (by decide +kernel) (wo_var 1)))))) (wl_cons wf_int (wl_cons wf_int (wl_cons wf_int (wl_cons wf_int wl_nil))))))))
abbrev s__law_draw : Stmt := top 11
theorem sc__law_draw : FnScope ["d", "many", "found", "size", "cell"] ["d", "many"] (defScope s__law_draw) := ⟨rfl, rfl, rfl, by decide +kernel, rfl, by decide +kernel, by decide +kernel⟩
theorem ok__law_draw (T : Bl mg)  (D : Dfn K mg "_law_draw" s__law_draw ["d", "many"]) : Cal P w K mg base 1 "_law_draw" ["d", "many"] [0] F__law_draw :=
  D.cal (N := ["d", "many", "found", "size", "cell"]) sc__law_draw (by decide) fun f cdv A outer s H E hr =>
    (wss_cons (ws_if (wt_cmp p_gt (WE.wf (we_ixv (p_ix hr.u1) (pv 0) (WF.wo wf_int))) (WF.wo wf_int)) (wss_cons (ws_set 2 (by decide) sc__law_draw.nd (we_ixv (p_ix hr.u1) (pv 0) (WF.wo wf_int)))
    (wss_cons (ws_setIx hr.u1 (pv 0) (WF.wo wf_int) (WE.wf (we_binv p_fdiv (pv 2) (wo_var 1))))
    (wss_one (ws_ret (we_bin p_mod (WE.wf (we_callT (p_int) rfl T.b_int (by decide +kernel) (wo_var 2))) (wo_var 1)))))) wss_nil)
    (wss_cons (ws_set 3 (by decide) sc__law_draw.nd (WF.we wf_int))
    (wss_cons (ws_if (wt_cmp (p_lt hr.u0) (WE.wf (we_ixv (p_ix hr.u1) (pv 0) (WF.wo wf_int))) (WE.wo (we_call1 p_len rfl T.b_len (by decide +kernel) (WE.wo (we_ixv (p_ix hr.u1) (pv 0) (WF.wo wf_int)))))) (wss_cons (ws_set 4 (by decide) sc__law_draw.nd (we_ix (p_ix hr.u1) (WE.wf (we_ixv (p_ix hr.u1) (pv 0) (WF.wo wf_int))) (WE.wo (we_ixv (p_ix hr.u1) (pv 0) (WF.wo wf_int)))))
    (wss_one (ws_set 3 (by decide) sc__law_draw.nd (we_bin p_add (WE.wf (we_bin p_mul wf_int (WE.wo (we_call1 p_abs rfl T.b_abs (by decide +kernel) (wo_var 4))))) (WE.wo (we_callT (p_int) rfl T.b_int (by decide +kernel) (WE.wo (we_cmpv (p_lt hr.u0) (pv 4) (WF.wo wf_int))))))))) wss_nil)
    (wss_cons (ws_augIx hr.u1 p_iadd (pv 0) wf_int wf_int)
    (wss_cons (ws_if (wt_cmpv p_ge (pv 3) (WE.wo (we_bin p_mul wf_int (WE.wo (we_bin p_pow wf_int (WF.wo wf_int)))))) (wss_cons (ws_set 2 (by decide) sc__law_draw.nd (we_bin p_mod (WE.wf (we_callT (p_int) rfl T.b_int (by decide +kernel) (WE.wo (we_binv p_fdiv (pv 3) (WF.wo wf_int))))) (WE.wo (we_bin p_shl wf_int (WF.wo wf_int)))))
    (wss_cons (ws_setIx hr.u1 (pv 0) (WF.wo wf_int) (WE.wf (we_binv p_fdiv (pv 2) (wo_var 1))))
    (wss_one (ws_ret (we_bin p_mod (WE.wf (we_callT (p_int) rfl T.b_int (by decide +kernel) (wo_var 2))) (wo_var 1)))))) wss_nil)
    (wss_cons (ws_setIx hr.u1 (pv 0) (WF.wo wf_int) (WE.wf (we_bin p_mod (WE.wf (we_callT (p_int) rfl T.b_int (by decide +kernel) (WE.wo (we_bin p_add (WE.wf (we_bin p_add (WE.wf (we_bin p_add (WE.wf (we_bin p_mul (WE.wf (we_ixv (p_ix hr.u1) (pv 0) (WF.wo wf_int))) (WF.wo wf_int))) (WE.wo (we_bin p_mul (WE.wf (we_bin p_mod (WE.wf (we_callT (p_int) rfl T.b_int (by decide +kernel) (wo_var 3))) (WF.wo wf_int))) (WF.wo wf_int))))) (WE.wo (we_bin p_mul (WE.wf (we_ixv (p_ix hr.u1) (pv 0) (WF.wo wf_int))) (WF.wo wf_int))))) (WF.wo wf_int))))) (WF.wo wf_int))))
    (wss_one (ws_ret (we_bin p_mod (WE.wf (we_callT (p_int) rfl T.b_int (by decide +kernel) (WE.wo (we_bin p_fdiv (WE.wf (we_ixv (p_ix hr.u1) (pv 0) (WF.wo wf_int))) (WF.wo wf_int))))) (wo_var 1))))))))))
abbrev s__law_pop : Stmt := top 13
theorem sc__law_pop : FnScope ["d", "row"] ["d", "row"] (defScope s__law_pop) := ⟨rfl, rfl, rfl, by decide +kernel, rfl, by decide +kernel, by decide +kernel⟩
theorem ok__law_pop (T : Bl mg) (C__law_draw : Cal P w K mg base 1 "_law_draw" ["d", "many"] [0] F__law_draw) (D : Dfn K mg "_law_pop" s__law_pop ["d", "row"]) : Cal P w K mg base 2 "_law_pop" ["d", "row"] [0, 1] F__law_pop :=
  D.cal (N := ["d", "row"]) sc__law_pop (by decide) fun f cdv A outer s H E hr =>
    (wss_one (ws_ret (we_mut PySem.F.slot_list_pop PySem.F.type_list_pop p_pop (pv 1) (wl_cons (WE.wf (C__law_draw.we hr (by decide) rfl (was_slot (pv 0) (was_val (WE.wf (we_call1 p_len rfl T.b_len (by decide +kernel) (wo_var 1))) was_nil)))) wl_nil))))
abbrev s__law_alphabet : Stmt := top 16
theorem sc__law_alphabet : FnScope ["d", "many", "left", "found", "k"] ["d", "many"] (defScope s__law_alphabet) := ⟨rfl, rfl, rfl, by decide +kernel, rfl, by decide +kernel, by decide +kernel⟩
theorem ok__law_alphabet (T : Bl mg) (C__law_pop : Cal P w K mg base 2 "_law_pop" ["d", "row"] [0, 1] F__law_pop) (D : Dfn K mg "_law_alphabet" s__law_alphabet ["d", "many"]) : Cal P w K mg base 3 "_law_alphabet" ["d", "many"] [0] F__law_alphabet :=
  D.cal (N := ["d", "many", "left", "found", "k"]) sc__law_alphabet (by decide) fun f cdv A outer s H E hr =>
    (wss_cons (ws_set 2 (by decide) sc__law_alphabet.nd (we_callT (p_list rfl) rfl T.b_list (by decide +kernel) (WF.wo wf_str)))
    (wss_cons (ws_set 3 (by decide) sc__law_alphabet.nd (we_lst wl_nil))
    (wss_cons (ws_for PassesOwn.never rfl (by decide) (wi_range1 rfl T.b_range (wo_var 1)) (wg_name 4 sc__law_alphabet.nd) (wss_one (ws_expr (we_mut PySem.F.slot_list_append PySem.F.type_list_append p_append (pv 3) (wl_cons (WE.wf (C__law_pop.we hr (by decide) rfl (was_slot (pv 0) (was_slot (pv 2) was_nil)))) wl_nil)))))
    (wss_one (ws_ret (we_str PySem.F.slot_str_join PySem.F.type_str_join p_join (WF.wo wf_str) (wl_cons (WE.wf (we_call1 p_sorted rfl T.b_sorted (by decide +kernel) (wo_var 3))) wl_nil)))))))
abbrev s__law_pick : Stmt := top 12
theorem sc__law_pick : FnScope ["d", "row"] ["d", "row"] (defScope s__law_pick) := ⟨rfl, rfl, rfl, by decide +kernel, rfl, by decide +kernel, by decide +kernel⟩
theorem ok__law_pick (T : Bl mg) (C__law_draw : Cal P w K mg base 1 "_law_draw" ["d", "many"] [0] F__law_draw) (D : Dfn K mg "_law_pick" s__law_pick ["d", "row"]) : Cal P w K mg base 2 "_law_pick" ["d", "row"] [0] F__law_pick :=
  D.cal (N := ["d", "row"]) sc__law_pick (by decide) fun f cdv A outer s H E hr =>
    (wss_one (ws_ret (we_ixv (p_ix hr.u1) (pv 1) (WE.wo (C__law_draw.we hr (by decide) rfl (was_slot (pv 0) (was_val (WE.wf (we_call1 p_len rfl T.b_len (by decide +kernel) (wo_var 1))) was_nil)))))))
abbrev s__law_long_word : Stmt := top 22
theorem sc__law_long_word : FnScope ["d", "letters", "size", "cut", "found", "k"] ["d", "letters"] (defScope s__law_long_word) := ⟨rfl, rfl, rfl, by decide +kernel, rfl, by decide +kernel, by decide +kernel⟩
theorem ok__law_long_word (T : Bl mg) (C__law_draw : Cal P w K mg base 1 "_law_draw" ["d", "many"] [0] F__law_draw) (C__law_pick : Cal P w K mg base 2 "_law_pick" ["d", "row"] [0] F__law_pick) (D : Dfn K mg "_law_long_word" s__law_long_word ["d", "letters"]) : Cal P w K mg base 3 "_law_long_word" ["d", "letters"] [0] F__law_long_word :=
  D.cal (N := ["d", "letters", "size", "cut", "found", "k"]) sc__law_long_word (by decide) fun f cdv A outer s H E hr =>
    (wss_cons (ws_set 2 (by decide) sc__law_long_word.nd (C__law_draw.we hr (by decide) rfl (was_slot (pv 0) (was_val wf_int was_nil))))
    (wss_cons (ws_if (wt_cmp (p_eq hr.u64) (WE.wf (C__law_draw.we hr (by decide) rfl (was_slot (pv 0) (was_val wf_int was_nil)))) (WF.wo wf_int)) (wss_one (ws_set 2 (by decide) sc__law_long_word.nd (we_bin p_add wf_int (WE.wo (C__law_draw.we hr (by decide) rfl (was_slot (pv 0) (was_val wf_int was_nil))))))) wss_nil)
    (wss_cons (ws_set 3 (by decide) sc__law_long_word.nd (WF.we (wf_var 2)))
    (wss_cons (ws_if (wt_cmp (p_eq hr.u64) (WE.wf (C__law_draw.we hr (by decide) rfl (was_slot (pv 0) (was_val wf_int was_nil)))) (WF.wo wf_int)) (wss_one (ws_set 3 (by decide) sc__law_long_word.nd (C__law_draw.we hr (by decide) rfl (was_slot (pv 0) (was_val (WE.wf (we_binv p_add (pv 2) (WF.wo wf_int))) was_nil))))) wss_nil)
    (wss_cons (ws_set 4 (by decide) sc__law_long_word.nd (WF.we wf_str))
    (wss_cons (ws_for PassesOwn.never rfl (by decide) (wi_range1 rfl T.b_range (wo_var 3)) (wg_name 5 sc__law_long_word.nd) (wss_one (ws_set 4 (by decide) sc__law_long_word.nd (we_binv p_add (pv 4) (WE.wo (C__law_pick.we hr (by decide) rfl (was_slot (pv 0) (was_slot (pv 1) was_nil))))))))
    (wss_one (ws_ret (we_binv p_add (pv 4) (WE.wo (we_bin p_mul (WE.wf (we_ixv (p_ix hr.u1) (pv 1) (WE.wo (we_un p_neg (WF.wo wf_int))))) (WE.wo (we_binv p_sub (pv 2) (wo_var 3))))))))))))))
abbrev s__law_bad_alphabets : Stmt := top 26
theorem sc__law_bad_alphabets : FnScope ["d", "letters", "five", "place", "sign", "found", "at", "part"] ["d", "letters", "five"] (defScope s__law_bad_alphabets) := ⟨rfl, rfl, rfl, by decide +kernel, rfl, by decide +kernel, by decide +kernel⟩
theorem ok__law_bad_alphabets (T : Bl mg) (C__law_draw : Cal P w K mg base 1 "_law_draw" ["d", "many"] [0] F__law_draw) (C__law_pick : Cal P w K mg base 2 "_law_pick" ["d", "row"] [0] F__law_pick) (D : Dfn K mg "_law_bad_alphabets" s__law_bad_alphabets ["d", "letters", "five"]) : Cal P w K mg base 3 "_law_bad_alphabets" ["d", "letters", "five"] [0] F__law_bad_alphabets :=
  D.cal (N := ["d", "letters", "five", "place", "sign", "found", "at", "part"]) sc__law_bad_alphabets (by decide) fun f cdv A outer s H E hr =>
    (wss_cons (ws_set 3 (by decide) sc__law_bad_alphabets.nd (C__law_draw.we hr (by decide) rfl (was_slot (pv 0) (was_val (WE.wf (we_call1 p_len rfl T.b_len (by decide +kernel) (wo_var 1))) was_nil))))
    (wss_cons (ws_set 4 (by decide) sc__law_bad_alphabets.nd (C__law_pick.we hr (by decide) rfl (was_slot (pv 0) (was_val wf_str was_nil))))
    (wss_cons (ws_set 5 (by decide) sc__law_bad_alphabets.nd (we_lst (wl_cons wf_str (wl_cons (wf_var 2) (wl_cons (WE.wf (we_bin p_add (WE.wf (we_bin p_add (WE.wf (we_slv p_sl (pv 1) wp_none (wp_part (wo_var 3)))) (WE.wo (we_ixv (p_ix hr.u1) (pv 1) (wo_var 3))))) (WE.wo (we_slv p_sl (pv 1) (wp_part (wo_var 3)) wp_none)))) (wl_cons (wf_var 3) (wl_cons (WE.wf (we_un p_neg (WF.wo wf_int))) (wl_cons (WE.wf (we_tup wl_nil)) (wl_cons (WE.wf (we_tup (wl_cons (wf_var 1) wl_nil))) wl_nil)))))))))
    (wss_cons (ws_expr (we_mut PySem.F.slot_list_append PySem.F.type_list_append p_append (pv 5) (wl_cons (WE.wf (we_bin p_add (WE.wf (we_bin p_add (WE.wf (we_slv p_sl (pv 1) wp_none (wp_part (wo_var 3)))) (wo_var 4))) (WE.wo (we_slv p_sl (pv 1) (wp_part (WE.wo (we_binv p_add (pv 3) (WF.wo wf_int)))) wp_none)))) wl_nil)))
    (wss_cons (ws_expr (we_mut PySem.F.slot_list_append PySem.F.type_list_append p_append (pv 5) (wl_cons (WE.wf (we_bin p_add wf_str (WE.wo (we_slv p_sl (pv 1) (wp_part (WF.wo wf_int)) wp_none)))) wl_nil)))
    (wss_cons (ws_expr (we_mut PySem.F.slot_list_append PySem.F.type_list_append p_append (pv 5) (wl_cons (WE.wf (we_bin p_add (WE.wf (we_slv p_sl (pv 1) wp_none (wp_part (WE.wo (we_un p_neg (WF.wo wf_int)))))) (WF.wo wf_str))) wl_nil)))
    (wss_cons (ws_expr (we_mut PySem.F.slot_list_append PySem.F.type_list_append p_append (pv 5) (wl_cons (WE.wf (we_bin p_add (WE.wf (we_slv p_sl (pv 1) wp_none (wp_part (WE.wo (we_un p_neg (WF.wo wf_int)))))) (WE.wo (we_str0 PySem.F.slot_str_upper PySem.F.type_str_upper p_upper (WE.wo (we_ixv (p_ix hr.u1) (pv 1) (WE.wo (we_un p_neg (WF.wo wf_int))))))))) wl_nil)))
    (wss_cons (ws_expr (we_mut PySem.F.slot_list_append PySem.F.type_list_append p_append (pv 5) (wl_cons (WE.wf (we_callT (p_tuple) rfl T.b_tuple (by decide +kernel) (WE.wo (we_lc (own := [("part", 7)]) rfl sc__law_bad_alphabets.nd (wi_any (wf_var 1)) (blkOk_by (by kernel_rfl)) (by decide) (fun _ _ _ _ _ => (wg_name 7 sc__law_bad_alphabets.nd)) (fun _ _ _ _ _ => wts_nil) (fun _ _ _ _ _ => (wf_var 7)))))) wl_nil)))
    (wss_cons (ws_if (wt_cmp p_gt (WE.wf (we_call1 p_len rfl T.b_len (by decide +kernel) (wo_var 1))) (WF.wo wf_int)) (wss_cons (ws_set 6 (by decide) sc__law_bad_alphabets.nd (C__law_draw.we hr (by decide) rfl (was_slot (pv 0) (was_val (WE.wf (we_bin p_sub (WE.wf (we_call1 p_len rfl T.b_len (by decide +kernel) (wo_var 1))) (WF.wo wf_int))) was_nil))))
    (wss_cons (ws_expr (we_mut PySem.F.slot_list_append PySem.F.type_list_append p_append (pv 5) (wl_cons (WE.wf (we_bin p_add (WE.wf (we_bin p_add (WE.wf (we_bin p_add (WE.wf (we_slv p_sl (pv 1) wp_none (wp_part (wo_var 6)))) (WE.wo (we_ixv (p_ix hr.u1) (pv 1) (WE.wo (we_binv p_add (pv 6) (WF.wo wf_int))))))) (WE.wo (we_ixv (p_ix hr.u1) (pv 1) (wo_var 6))))) (WE.wo (we_slv p_sl (pv 1) (wp_part (WE.wo (we_binv p_add (pv 6) (WF.wo wf_int)))) wp_none)))) wl_nil)))
    (wss_one (ws_expr (we_mut PySem.F.slot_list_append PySem.F.type_list_append p_append (pv 5) (wl_cons (WE.wf (we_bin p_add (WE.wf (we_bin p_add (WE.wf (we_bin p_add (WE.wf (we_slv p_sl (pv 1) wp_none (wp_part (wo_var 6)))) (WE.wo (we_ixv (p_ix hr.u1) (pv 1) (wo_var 6))))) (WE.wo (we_ixv (p_ix hr.u1) (pv 1) (wo_var 6))))) (WE.wo (we_slv p_sl (pv 1) (wp_part (WE.wo (we_binv p_add (pv 6) (WF.wo wf_int)))) wp_none)))) wl_nil)))))) wss_nil)
    (wss_one (ws_retv 5 (pv 5))))))))))))
abbrev s_is_alphabet : Stmt := top 2
theorem sc_is_alphabet : FnScope ["letters", "k"] ["letters"] (defScope s_is_alphabet) := ⟨rfl, rfl, rfl, by decide +kernel, rfl, by decide +kernel, by decide +kernel⟩
theorem ok_is_alphabet (T : Bl mg)  (D : Dfn K mg "is_alphabet" s_is_alphabet ["letters"]) : Cal P w K mg base 1 "is_alphabet" ["letters"] [] F_is_alphabet :=
  D.cal (N := ["letters", "k"]) sc_is_alphabet (by decide) fun f cdv A outer s H E hr =>
    (wss_cons (ws_if (WW.wt (ww_or (wt_not (wt_truth (WE.wo (we_isi rfl T.b_isinstance rfl T.b_str (by decide +kernel) (wo_var 0))))) (ww_or1 (wt_not (wt_chain p_le p_le wf_int (WE.wf (we_call1 p_len rfl T.b_len (by decide +kernel) (wo_var 0))) (WF.wo (wf_globI rfl T.c_LETTERS_LIMIT))))))) (wss_one (ws_ret (WF.we wf_bl))) wss_nil)
    (wss_cons (ws_for PassesOwn.never rfl (by decide) (wi_range1 rfl T.b_range (WE.wo (we_call1 p_len rfl T.b_len (by decide +kernel) (wo_var 0)))) (wg_name 1 sc_is_alphabet.nd) (wss_cons (ws_if (wt_not (wt_chain p_le p_le wf_str (WE.wf (we_ixv (p_ix hr.u1) (pv 0) (wo_var 1))) (WF.wo wf_str))) (wss_one (ws_ret (WF.we wf_bl))) wss_nil)
    (wss_one (ws_if (WW.wt (ww_and (wt_cmpv p_gt (pv 1) (WF.wo wf_int)) (ww_and1 (wt_cmp p_ge (WE.wf (we_ixv (p_ix hr.u1) (pv 0) (WE.wo (we_binv p_sub (pv 1) (WF.wo wf_int))))) (WE.wo (we_ixv (p_ix hr.u1) (pv 0) (wo_var 1))))))) (wss_one (ws_ret (WF.we wf_bl))) wss_nil))))
    (wss_one (ws_ret (WF.we wf_bl)))))
abbrev s_is_word : Stmt := top 3
theorem sc_is_word : FnScope ["letters", "word", "sign"] ["letters", "word"] (defScope s_is_word) := ⟨rfl, rfl, rfl, by decide +kernel, rfl, by decide +kernel, by decide +kernel⟩
theorem ok_is_word (T : Bl mg)  (D : Dfn K mg "is_word" s_is_word ["letters", "word"]) : Cal P w K mg base 1 "is_word" ["letters", "word"] [] F_is_word :=
  D.cal (N := ["letters", "word", "sign"]) sc_is_word (by decide) fun f cdv A outer s H E hr =>
    (wss_cons (ws_if (wt_not (wt_truth (WE.wo (we_isi rfl T.b_isinstance rfl T.b_str (by decide +kernel) (wo_var 1))))) (wss_one (ws_ret (WF.we wf_bl))) wss_nil)
    (wss_one (ws_ret (we_call1 (p_all rfl) rfl T.b_all (by decide +kernel) (WE.wo (we_lc (own := [("sign", 2)]) rfl sc_is_word.nd (wi_any (wf_var 1)) (blkOk_by (by kernel_rfl)) (by decide) (fun _ _ _ _ _ => (wg_name 2 sc_is_word.nd)) (fun _ _ _ _ _ => wts_nil) (fun _ _ _ _ _ => (WE.wf (we_cmpv (p_in hr.u65) (pv 2) (wo_var 0))))))))))
abbrev s__law_judges_stand : Stmt := top 27
theorem sc__law_judges_stand : FnScope ["d", "letters", "word", "five", "good", "bad", "others", "foreign", "place", "thing", "sign", "part"] ["d", "letters", "word"] (defScope s__law_judges_stand) := ⟨rfl, rfl, rfl, by decide +kernel, rfl, by decide +kernel, by decide +kernel⟩
theorem ok__law_judges_stand (T : Bl mg) (C__law_alphabet : Cal P w K mg base 3 "_law_alphabet" ["d", "many"] [0] F__law_alphabet) (C__law_bad_alphabets : Cal P w K mg base 3 "_law_bad_alphabets" ["d", "letters", "five"] [0] F__law_bad_alphabets) (C__law_pick : Cal P w K mg base 2 "_law_pick" ["d", "row"] [0] F__law_pick) (C__law_draw : Cal P w K mg base 1 "_law_draw" ["d", "many"] [0] F__law_draw) (C_is_alphabet : Cal P w K mg base 1 "is_alphabet" ["letters"] [] F_is_alphabet) (C_is_word : Cal P w K mg base 1 "is_word" ["letters", "word"] [] F_is_word) (D : Dfn K mg "_law_judges_stand" s__law_judges_stand ["d", "letters", "word"]) : Cal P w K mg base 4 "_law_judges_stand" ["d", "letters", "word"] [0] F__law_judges_stand :=
  D.cal (N := ["d", "letters", "word", "five", "good", "bad", "others", "foreign", "place", "thing", "sign", "part"]) sc__law_judges_stand (by decide) fun f cdv A outer s H E hr =>
    (wss_cons (ws_set 3 (by decide) sc__law_judges_stand.nd (C__law_alphabet.we hr (by decide) rfl (was_slot (pv 0) (was_val wf_int was_nil))))
    (wss_cons (ws_for PassesOwn.never rfl (by decide) (wi_any (WE.wf (we_lst (wl_cons (wf_var 1) (wl_cons (WE.wf (we_slv p_sl (pv 3) wp_none (wp_part (WF.wo wf_int)))) (wl_cons (WE.wf (we_slv p_sl (pv 3) (wp_part (WF.wo wf_int)) wp_none)) (wl_cons (WE.wf (we_slv p_sl (pv 3) (wp_part (WF.wo wf_int)) (wp_part (WF.wo wf_int)))) (wl_cons (WE.wf (we_ixv (p_ix hr.u1) (pv 3) (WF.wo wf_int))) wl_nil)))))))) (wg_name 4 sc__law_judges_stand.nd) (wss_one (ws_if (wt_cmp p_isnot (WE.wf (C_is_alphabet.we hr (by decide) rfl (was_slot (pv 4) was_nil))) (WF.wo wf_bl)) (wss_one (ws_ret (WF.we wf_bl))) wss_nil)))
    (wss_cons (ws_for PassesOwn.never rfl (by decide) (wi_any (WE.wf (C__law_bad_alphabets.we hr (by decide) rfl (was_slot (pv 0) (was_slot (pv 1) (was_slot (pv 3) was_nil)))))) (wg_name 5 sc__law_judges_stand.nd) (wss_one (ws_if (wt_cmp p_isnot (WE.wf (C_is_alphabet.we hr (by decide) rfl (was_slot (pv 5) was_nil))) (WF.wo wf_bl)) (wss_one (ws_ret (WF.we wf_bl))) wss_nil)))
    (wss_cons (ws_setLc (own := [("sign", 10)]) 6 (by decide) rfl sc__law_judges_stand.nd (wi_any wf_str) (blkOk_by (by kernel_rfl)) (by decide) (fun _ _ _ _ _ => (wg_name 10 sc__law_judges_stand.nd)) (fun _ _ _ _ _ => (wts_one (wt_cmpv (p_notin hr.u65) (pv 10) (wo_var 1)))) (fun _ _ _ _ _ => (wf_var 10)))
    (wss_cons (ws_for PassesOwn.never rfl (by decide) (wi_any (WE.wf (we_lst (wl_cons (WE.wf (C__law_pick.we hr (by decide) rfl (was_slot (pv 0) (was_slot (pv 6) was_nil)))) (wl_cons (WE.wf (we_str0 PySem.F.slot_str_upper PySem.F.type_str_upper p_upper (WE.wo (C__law_pick.we hr (by decide) rfl (was_slot (pv 0) (was_slot (pv 1) was_nil)))))) (wl_cons (WE.wf (C__law_pick.we hr (by decide) rfl (was_slot (pv 0) (was_val wf_str was_nil)))) wl_nil)))))) (wg_name 7 sc__law_judges_stand.nd) (wss_cons (ws_set 8 (by decide) sc__law_judges_stand.nd (C__law_draw.we hr (by decide) rfl (was_slot (pv 0) (was_val (WE.wf (we_bin p_add (WE.wf (we_call1 p_len rfl T.b_len (by decide +kernel) (wo_var 2))) (WF.wo wf_int))) was_nil))))
    (wss_one (ws_if (wt_cmp p_isnot (WE.wf (C_is_word.we hr (by decide) rfl (was_slot (pv 1) (was_val (WE.wf (we_bin p_add (WE.wf (we_bin p_add (WE.wf (we_slv p_sl (pv 2) wp_none (wp_part (wo_var 8)))) (wo_var 7))) (WE.wo (we_slv p_sl (pv 2) (wp_part (wo_var 8)) wp_none)))) was_nil)))) (WF.wo wf_bl)) (wss_one (ws_ret (WF.we wf_bl))) wss_nil))))
    (wss_cons (ws_for PassesOwn.never rfl (by decide) (wi_any (WE.wf (we_lst (wl_cons (WE.wf (we_callT (p_tuple) rfl T.b_tuple (by decide +kernel) (WE.wo (we_lc (own := [("part", 11)]) rfl sc__law_judges_stand.nd (wi_any (wf_var 2)) (blkOk_by (by kernel_rfl)) (by decide) (fun _ _ _ _ _ => (wg_name 11 sc__law_judges_stand.nd)) (fun _ _ _ _ _ => wts_nil) (fun _ _ _ _ _ => (wf_var 11)))))) (wl_cons (WE.wf (we_tup (wl_cons (wf_var 2) wl_nil))) (wl_cons (WE.wf (we_tup wl_nil)) (wl_cons (WE.wf (we_tup (wl_cons (wf_var 1) wl_nil))) (wl_cons wf_int (wl_cons (WE.wf (we_un p_neg (WF.wo wf_int))) (wl_cons (WE.wf (we_call1 p_len rfl T.b_len (by decide +kernel) (wo_var 2))) wl_nil)))))))))) (wg_name 9 sc__law_judges_stand.nd) (wss_one (ws_if (wt_cmp p_isnot (WE.wf (C_is_word.we hr (by decide) rfl (was_slot (pv 1) (was_slot (pv 9) was_nil)))) (WF.wo wf_bl)) (wss_one (ws_ret (WF.we wf_bl))) wss_nil)))
    (wss_one (ws_ret (we_and (WE.wf (we_cmp p_is (WE.wf (C_is_word.we hr (by decide) rfl (was_slot (pv 1) (was_slot (pv 2) was_nil)))) (WF.wo wf_bl))) (we_one (we_cmp p_is (WE.wf (C_is_word.we hr (by decide) rfl (was_slot (pv 1) (was_val wf_str was_nil)))) (WF.wo wf_bl))))))))))))
abbrev s_word_at : Stmt := top 6
theorem sc_word_at : FnScope ["letters", "rank", "signs", "left"] ["letters", "rank"] (defScope s_word_at) := ⟨rfl, rfl, rfl, by decide +kernel, rfl, by decide +kernel, by decide +kernel⟩
theorem ok_word_at (T : Bl mg)  (D : Dfn K mg "word_at" s_word_at ["letters", "rank"]) : Cal P w K mg base 1 "word_at" ["letters", "rank"] [] F_word_at :=
  D.cal (N := ["letters", "rank", "signs", "left"]) sc_word_at (by decide) fun f cdv A outer s H E hr =>
    (wss_cons (ws_set 2 (by decide) sc_word_at.nd (we_lst wl_nil))
    (wss_cons (ws_set 3 (by decide) sc_word_at.nd (WF.we (wf_var 1)))
    (wss_cons (ws_while PassesOwn.never (wt_cmpv p_gt (pv 3) (WF.wo wf_int)) (wss_cons (ws_aug 3 (by decide) sc_word_at.nd p_isub (WF.wo wf_int))
    (wss_cons (ws_expr (we_mut PySem.F.slot_list_append PySem.F.type_list_append p_append (pv 2) (wl_cons (WE.wf (we_ixv (p_ix hr.u1) (pv 0) (WE.wo (we_binv p_mod (pv 3) (WE.wo (we_call1 p_len rfl T.b_len (by decide +kernel) (wo_var 0))))))) wl_nil)))
    (wss_one (ws_set 3 (by decide) sc_word_at.nd (we_binv p_fdiv (pv 3) (WE.wo (we_call1 p_len rfl T.b_len (by decide +kernel) (wo_var 0)))))))))
    (wss_one (ws_ret (we_joinRev rfl rfl T.b_reversed (WF.wo wf_str) (wf_var 2)))))))
abbrev s__law_words_before : Stmt := top 20
theorem sc__law_words_before : FnScope ["letters", "word", "shorter", "layer", "place", "sign"] ["letters", "word"] (defScope s__law_words_before) := ⟨rfl, rfl, rfl, by decide +kernel, rfl, by decide +kernel, by decide +kernel⟩
theorem ok__law_words_before (T : Bl mg)  (D : Dfn K mg "_law_words_before" s__law_words_before ["letters", "word"]) : Cal P w K mg base 1 "_law_words_before" ["letters", "word"] [] F__law_words_before :=
  D.cal (N := ["letters", "word", "shorter", "layer", "place", "sign"]) sc__law_words_before (by decide) fun f cdv A outer s H E hr =>
    (wss_cons (ws_set 2 (by decide) sc__law_words_before.nd (WF.we wf_int))
    (wss_cons (ws_set 3 (by decide) sc__law_words_before.nd (WF.we wf_int))
    (wss_cons (ws_set 4 (by decide) sc__law_words_before.nd (WF.we wf_int))
    (wss_cons (ws_for PassesOwn.never rfl (by decide) (wi_any (wf_var 1)) (wg_name 5 sc__law_words_before.nd) (wss_cons (ws_aug 2 (by decide) sc__law_words_before.nd p_iadd (wo_var 3))
    (wss_cons (ws_set 3 (by decide) sc__law_words_before.nd (we_binv p_mul (pv 3) (WE.wo (we_call1 p_len rfl T.b_len (by decide +kernel) (wo_var 0)))))
    (wss_one (ws_set 4 (by decide) sc__law_words_before.nd (we_bin p_add (WE.wf (we_binv p_mul (pv 4) (WE.wo (we_call1 p_len rfl T.b_len (by decide +kernel) (wo_var 0))))) (WE.wo (we_str PySem.F.slot_str_index PySem.F.type_str_index p_index (wo_var 0) (wl_cons (wf_var 5) wl_nil)))))))))
    (wss_one (ws_ret (we_binv p_add (pv 2) (wo_var 4))))))))
abbrev s__law_word_behind : Stmt := top 21
theorem sc__law_word_behind : FnScope ["letters", "word", "place", "rest"] ["letters", "word"] (defScope s__law_word_behind) := ⟨rfl, rfl, rfl, by decide +kernel, rfl, by decide +kernel, by decide +kernel⟩
theorem ok__law_word_behind (T : Bl mg)  (D : Dfn K mg "_law_word_behind" s__law_word_behind ["letters", "word"]) : Cal P w K mg base 1 "_law_word_behind" ["letters", "word"] [] F__law_word_behind :=
  D.cal (N := ["letters", "word", "place", "rest"]) sc__law_word_behind (by decide) fun f cdv A outer s H E hr =>
    (wss_cons (ws_set 2 (by decide) sc__law_word_behind.nd (we_bin p_sub (WE.wf (we_call1 p_len rfl T.b_len (by decide +kernel) (wo_var 1))) (WF.wo wf_int)))
    (wss_cons (ws_while PassesOwn.never (WW.wt (ww_and (wt_cmpv p_ge (pv 2) (WF.wo wf_int)) (ww_and1 (wt_cmp (p_eq hr.u64) (WE.wf (we_ixv (p_ix hr.u1) (pv 1) (wo_var 2))) (WE.wo (we_ixv (p_ix hr.u1) (pv 0) (WE.wo (we_un p_neg (WF.wo wf_int))))))))) (wss_one (ws_aug 2 (by decide) sc__law_word_behind.nd p_isub (WF.wo wf_int))))
    (wss_cons (ws_if (wt_cmpv (p_lt hr.u0) (pv 2) (WF.wo wf_int)) (wss_one (ws_ret (we_bin p_mul (WE.wf (we_ixv (p_ix hr.u1) (pv 0) (WF.wo wf_int))) (WE.wo (we_bin p_add (WE.wf (we_call1 p_len rfl T.b_len (by decide +kernel) (wo_var 1))) (WF.wo wf_int)))))) wss_nil)
    (wss_cons (ws_set 3 (by decide) sc__law_word_behind.nd (we_bin p_sub (WE.wf (we_bin p_sub (WE.wf (we_call1 p_len rfl T.b_len (by decide +kernel) (wo_var 1))) (wo_var 2))) (WF.wo wf_int)))
    (wss_one (ws_ret (we_bin p_add (WE.wf (we_bin p_add (WE.wf (we_slv p_sl (pv 1) wp_none (wp_part (wo_var 2)))) (WE.wo (we_ixv (p_ix hr.u1) (pv 0) (WE.wo (we_bin p_add (WE.wf (we_str PySem.F.slot_str_index PySem.F.type_str_index p_index (wo_var 0) (wl_cons (WE.wf (we_ixv (p_ix hr.u1) (pv 1) (wo_var 2))) wl_nil))) (WF.wo wf_int))))))) (WE.wo (we_bin p_mul (WE.wf (we_ixv (p_ix hr.u1) (pv 0) (WF.wo wf_int))) (wo_var 3))))))))))
abbrev s__law_is_int : Stmt := top 15
theorem sc__law_is_int : FnScope ["thing"] ["thing"] (defScope s__law_is_int) := ⟨rfl, rfl, rfl, by decide +kernel, rfl, by decide +kernel, by decide +kernel⟩
theorem ok__law_is_int (T : Bl mg)  (D : Dfn K mg "_law_is_int" s__law_is_int ["thing"]) : Cal P w K mg base 1 "_law_is_int" ["thing"] [] F__law_is_int :=
  D.cal (N := ["thing"]) sc__law_is_int (by decide) fun f cdv A outer s H E hr =>
    (wss_one (ws_ret (we_and (WE.wf (we_isi rfl T.b_isinstance rfl T.b_int (by decide +kernel) (wo_var 0))) (we_one (we_not (WE.wo (we_isi rfl T.b_isinstance rfl T.b_bool (by decide +kernel) (wo_var 0))))))))
abbrev s__law_is_number : Stmt := top 17
theorem sc__law_is_number : FnScope ["told", "due"] ["told", "due"] (defScope s__law_is_number) := ⟨rfl, rfl, rfl, by decide +kernel, rfl, by decide +kernel, by decide +kernel⟩
theorem ok__law_is_number (T : Bl mg) (C__law_is_int : Cal P w K mg base 1 "_law_is_int" ["thing"] [] F__law_is_int) (D : Dfn K mg "_law_is_number" s__law_is_number ["told", "due"]) : Cal P w K mg base 2 "_law_is_number" ["told", "due"] [] F__law_is_number :=
  D.cal (N := ["told", "due"]) sc__law_is_number (by decide) fun f cdv A outer s H E hr =>
    (wss_one (ws_ret (we_and (WE.wf (C__law_is_int.we hr (by decide) rfl (was_slot (pv 0) was_nil))) (we_one (we_cmpv (p_eq hr.u64) (pv 0) (wo_var 1))))))
abbrev s__law_is_text : Stmt := top 18
theorem sc__law_is_text : FnScope ["told", "due"] ["told", "due"] (defScope s__law_is_text) := ⟨rfl, rfl, rfl, by decide +kernel, rfl, by decide +kernel, by decide +kernel⟩
theorem ok__law_is_text (T : Bl mg)  (D : Dfn K mg "_law_is_text" s__law_is_text ["told", "due"]) : Cal P w K mg base 1 "_law_is_text" ["told", "due"] [] F__law_is_text :=
  D.cal (N := ["told", "due"]) sc__law_is_text (by decide) fun f cdv A outer s H E hr =>
    (wss_one (ws_ret (we_and (WE.wf (we_isi rfl T.b_isinstance rfl T.b_str (by decide +kernel) (wo_var 0))) (we_one (we_cmpv (p_eq hr.u64) (pv 0) (wo_var 1))))))
abbrev s_word_rank : Stmt := top 5
theorem sc_word_rank : FnScope ["letters", "word", "rank", "sign"] ["letters", "word"] (defScope s_word_rank) := ⟨rfl, rfl, rfl, by decide +kernel, rfl, by decide +kernel, by decide +kernel⟩
theorem ok_word_rank (T : Bl mg)  (D : Dfn K mg "word_rank" s_word_rank ["letters", "word"]) : Cal P w K mg base 1 "word_rank" ["letters", "word"] [] F_word_rank :=
  D.cal (N := ["letters", "word", "rank", "sign"]) sc_word_rank (by decide) fun f cdv A outer s H E hr =>
    (wss_cons (ws_set 2 (by decide) sc_word_rank.nd (WF.we wf_int))
    (wss_cons (ws_for PassesOwn.never rfl (by decide) (wi_any (wf_var 1)) (wg_name 3 sc_word_rank.nd) (wss_one (ws_set 2 (by decide) sc_word_rank.nd (we_bin p_add (WE.wf (we_bin p_add (WE.wf (we_binv p_mul (pv 2) (WE.wo (we_call1 p_len rfl T.b_len (by decide +kernel) (wo_var 0))))) (WE.wo (we_str PySem.F.slot_str_index PySem.F.type_str_index p_index (wo_var 0) (wl_cons (wf_var 3) wl_nil))))) (WF.wo wf_int)))))
    (wss_one (ws_retv 2 (pv 2)))))
abbrev s__law_far_places_stand : Stmt := top 25
theorem sc__law_far_places_stand : FnScope ["d", "letters", "wide", "word", "signs", "rank", "behind", "number", "told", "sign"] ["d", "letters", "wide", "word"] (defScope s__law_far_places_stand) := ⟨rfl, rfl, rfl, by decide +kernel, rfl, by decide +kernel, by decide +kernel⟩
theorem ok__law_far_places_stand (T : Bl mg) (C__law_draw : Cal P w K mg base 1 "_law_draw" ["d", "many"] [0] F__law_draw) (C_word_at : Cal P w K mg base 1 "word_at" ["letters", "rank"] [] F_word_at) (C__law_words_before : Cal P w K mg base 1 "_law_words_before" ["letters", "word"] [] F__law_words_before) (C__law_word_behind : Cal P w K mg base 1 "_law_word_behind" ["letters", "word"] [] F__law_word_behind) (C__law_is_number : Cal P w K mg base 2 "_law_is_number" ["told", "due"] [] F__law_is_number) (C__law_is_text : Cal P w K mg base 1 "_law_is_text" ["told", "due"] [] F__law_is_text) (C_word_rank : Cal P w K mg base 1 "word_rank" ["letters", "word"] [] F_word_rank) (D : Dfn K mg "_law_far_places_stand" s__law_far_places_stand ["d", "letters", "wide", "word"]) : Cal P w K mg base 3 "_law_far_places_stand" ["d", "letters", "wide", "word"] [0] F__law_far_places_stand :=
  D.cal (N := ["d", "letters", "wide", "word", "signs", "rank", "behind", "number", "told", "sign"]) sc__law_far_places_stand (by decide) fun f cdv A outer s H E hr =>
    (wss_cons (ws_for PassesOwn.never rfl (by decide) (wi_any (WE.wf (we_lst (wl_cons (wf_var 1) (wl_cons (wf_var 2) (wl_cons (wf_var 1) wl_nil)))))) (wg_name 4 sc__law_far_places_stand.nd) (wss_cons (ws_set 5 (by decide) sc__law_far_places_stand.nd (C__law_words_before.we hr (by decide) rfl (was_slot (pv 4) (was_slot (pv 3) was_nil))))
    (wss_cons (ws_set 6 (by decide) sc__law_far_places_stand.nd (C__law_word_behind.we hr (by decide) rfl (was_slot (pv 4) (was_slot (pv 3) was_nil))))
    (wss_cons (ws_if (WW.wt (ww_or (wt_not (wt_truth (WE.wo (C__law_is_number.we hr (by decide) rfl (was_val (WE.wf (C_word_rank.we hr (by decide) rfl (was_slot (pv 4) (was_slot (pv 3) was_nil)))) (was_slot (pv 5) was_nil)))))) (ww_or1 (wt_not (wt_truth (WE.wo (C__law_is_text.we hr (by decide) rfl (was_val (WE.wf (C_word_at.we hr (by decide) rfl (was_slot (pv 4) (was_slot (pv 5) was_nil)))) (was_slot (pv 3) was_nil))))))))) (wss_one (ws_ret (WF.we wf_bl))) wss_nil)
    (wss_cons (ws_if (wt_not (wt_truth (WE.wo (C__law_is_number.we hr (by decide) rfl (was_val (WE.wf (C_word_rank.we hr (by decide) rfl (was_slot (pv 4) (was_slot (pv 6) was_nil)))) (was_val (WE.wf (we_binv p_add (pv 5) (WF.wo wf_int))) was_nil)))))) (wss_one (ws_ret (WF.we wf_bl))) wss_nil)
    (wss_one (ws_if (wt_not (wt_truth (WE.wo (C__law_is_text.we hr (by decide) rfl (was_val (WE.wf (C_word_at.we hr (by decide) rfl (was_slot (pv 4) (was_val (WE.wf (we_binv p_add (pv 5) (WF.wo wf_int))) was_nil)))) (was_slot (pv 6) was_nil)))))) (wss_one (ws_ret (WF.we wf_bl))) wss_nil)))))))
    (wss_cons (ws_set 7 (by decide) sc__law_far_places_stand.nd (C__law_draw.we hr (by decide) rfl (was_slot (pv 0) (was_val wf_int was_nil))))
    (wss_cons (ws_if (wt_cmp p_gt (WE.wf (we_call1 p_len rfl T.b_len (by decide +kernel) (wo_var 1))) (WF.wo wf_int)) (wss_one (ws_set 7 (by decide) sc__law_far_places_stand.nd (C__law_draw.we hr (by decide) rfl (was_slot (pv 0) (was_val (WE.wf (we_bin p_pow wf_int (WF.wo wf_int))) was_nil))))) wss_nil)
    (wss_cons (ws_set 8 (by decide) sc__law_far_places_stand.nd (C_word_at.we hr (by decide) rfl (was_slot (pv 1) (was_slot (pv 7) was_nil))))
    (wss_cons (ws_if (WW.wt (ww_or (wt_not (wt_truth (WE.wo (we_isi rfl T.b_isinstance rfl T.b_str (by decide +kernel) (wo_var 8))))) (ww_or1 (wt_not (wt_truth (WE.wo (we_call1 (p_all rfl) rfl T.b_all (by decide +kernel) (WE.wo (we_lc (own := [("sign", 9)]) rfl sc__law_far_places_stand.nd (wi_any (wf_var 8)) (blkOk_by (by kernel_rfl)) (by decide) (fun _ _ _ _ _ => (wg_name 9 sc__law_far_places_stand.nd)) (fun _ _ _ _ _ => wts_nil) (fun _ _ _ _ _ => (WE.wf (we_cmpv (p_in hr.u65) (pv 9) (wo_var 1))))))))))))) (wss_one (ws_ret (WF.we wf_bl))) wss_nil)
    (wss_one (ws_ret (we_cmp (p_eq hr.u64) (WE.wf (C__law_words_before.we hr (by decide) rfl (was_slot (pv 1) (was_slot (pv 8) was_nil)))) (wo_var 7)))))))))
abbrev s__law_words : Stmt := top 14
theorem sc__law_words : FnScope ["letters", "most", "layer", "found", "size", "fresh", "word", "sign"] ["letters", "most"] (defScope s__law_words) := ⟨rfl, rfl, rfl, by decide +kernel, rfl, by decide +kernel, by decide +kernel⟩
theorem ok__law_words (T : Bl mg)  (D : Dfn K mg "_law_words" s__law_words ["letters", "most"]) : Cal P w K mg base 1 "_law_words" ["letters", "most"] [] F__law_words :=
  D.cal (N := ["letters", "most", "layer", "found", "size", "fresh", "word", "sign"]) sc__law_words (by decide) fun f cdv A outer s H E hr =>
    (wss_cons (ws_set 2 (by decide) sc__law_words.nd (we_lst (wl_cons wf_str wl_nil)))
    (wss_cons (ws_set 3 (by decide) sc__law_words.nd (we_lst (wl_cons wf_str wl_nil)))
    (wss_cons (ws_for PassesOwn.never rfl (by decide) (wi_range1 rfl T.b_range (wo_var 1)) (wg_name 4 sc__law_words.nd) (wss_cons (ws_set 5 (by decide) sc__law_words.nd (we_lst wl_nil))
    (wss_cons (ws_for PassesOwn.never rfl (by decide) (wi_any (wf_var 2)) (wg_name 6 sc__law_words.nd) (wss_one (ws_for PassesOwn.never rfl (by decide) (wi_any (wf_var 0)) (wg_name 7 sc__law_words.nd) (wss_one (ws_expr (we_mut PySem.F.slot_list_append PySem.F.type_list_append p_append (pv 5) (wl_cons (WE.wf (we_binv p_add (pv 6) (wo_var 7))) wl_nil)))))))
    (wss_cons (ws_set 2 (by decide) sc__law_words.nd (WF.we (wf_var 5)))
    (wss_one (ws_set 3 (by decide) sc__law_words.nd (we_binv p_add (pv 3) (wo_var 2))))))))
    (wss_one (ws_retv 3 (pv 3))))))
abbrev s_words_of_length : Stmt := top 7
theorem sc_words_of_length : FnScope ["letters", "length", "found", "step", "word", "sign"] ["letters", "length"] (defScope s_words_of_length) := ⟨rfl, rfl, rfl, by decide +kernel, rfl, by decide +kernel, by decide +kernel⟩
theorem ok_words_of_length (T : Bl mg)  (D : Dfn K mg "words_of_length" s_words_of_length ["letters", "length"]) : Cal P w K mg base 1 "words_of_length" ["letters", "length"] [] F_words_of_length :=
  D.cal (N := ["letters", "length", "found", "step", "word", "sign"]) sc_words_of_length (by decide) fun f cdv A outer s H E hr =>
    (wss_cons (ws_set 2 (by decide) sc_words_of_length.nd (we_lst (wl_cons wf_str wl_nil)))
    (wss_cons (ws_for PassesOwn.never rfl (by decide) (wi_range1 rfl T.b_range (wo_var 1)) (wg_name 3 sc_words_of_length.nd) (wss_one (ws_setLc2 (own := [("word", 4), ("sign", 5)]) (vs1 := [5]) 2 (by decide) rfl sc_words_of_length.nd (wi_any (wf_var 2)) (blkOk_by (by kernel_rfl)) (by decide) (by decide) (by decide) (fun _ _ _ _ _ => (wg_name 4 sc_words_of_length.nd)) (fun _ _ _ _ _ => wts_nil) (fun _ _ _ _ _ => (wi_any (wf_var 0))) (fun _ _ _ _ _ => (wg_name 5 sc_words_of_length.nd)) (fun _ _ _ _ _ => wts_nil) (fun _ _ _ _ _ => (WE.wf (we_binv p_add (pv 4) (wo_var 5)))))))
    (wss_one (ws_retv 2 (pv 2)))))
abbrev s_words_up_to : Stmt := top 8
theorem sc_words_up_to : FnScope ["letters", "length", "found", "size"] ["letters", "length"] (defScope s_words_up_to) := ⟨rfl, rfl, rfl, by decide +kernel, rfl, by decide +kernel, by decide +kernel⟩
theorem ok_words_up_to (T : Bl mg) (C_words_of_length : Cal P w K mg base 1 "words_of_length" ["letters", "length"] [] F_words_of_length) (D : Dfn K mg "words_up_to" s_words_up_to ["letters", "length"]) : Cal P w K mg base 2 "words_up_to" ["letters", "length"] [] F_words_up_to :=
  D.cal (N := ["letters", "length", "found", "size"]) sc_words_up_to (by decide) fun f cdv A outer s H E hr =>
    (wss_cons (ws_set 2 (by decide) sc_words_up_to.nd (we_lst wl_nil))
    (wss_cons (ws_for PassesOwn.never rfl (by decide) (wi_range1 rfl T.b_range (WE.wo (we_binv p_add (pv 1) (WF.wo wf_int)))) (wg_name 3 sc_words_up_to.nd) (wss_one (ws_expr (we_mut PySem.F.slot_list_extend PySem.F.type_list_extend p_extend (pv 2) (wl_cons (WE.wf (C_words_of_length.we hr (by decide) rfl (was_slot (pv 0) (was_slot (pv 3) was_nil)))) wl_nil)))))
    (wss_one (ws_retv 2 (pv 2)))))
abbrev s__law_are_texts : Stmt := top 19
theorem sc__law_are_texts : FnScope ["told", "due", "k"] ["told", "due"] (defScope s__law_are_texts) := ⟨rfl, rfl, rfl, by decide +kernel, rfl, by decide +kernel, by decide +kernel⟩
theorem ok__law_are_texts (T : Bl mg) (C__law_is_text : Cal P w K mg base 1 "_law_is_text" ["told", "due"] [] F__law_is_text) (D : Dfn K mg "_law_are_texts" s__law_are_texts ["told", "due"]) : Cal P w K mg base 2 "_law_are_texts" ["told", "due"] [] F__law_are_texts :=
  D.cal (N := ["told", "due", "k"]) sc__law_are_texts (by decide) fun f cdv A outer s H E hr =>
    (wss_cons (ws_if (WW.wt (ww_or (wt_not (wt_truth (WE.wo (we_isi rfl T.b_isinstance rfl T.b_list (by decide +kernel) (wo_var 0))))) (ww_or1 (wt_cmp (p_ne hr.u64) (WE.wf (we_call1 p_len rfl T.b_len (by decide +kernel) (wo_var 0))) (WE.wo (we_call1 p_len rfl T.b_len (by decide +kernel) (wo_var 1))))))) (wss_one (ws_ret (WF.we wf_bl))) wss_nil)
    (wss_one (ws_ret (we_call1 (p_all rfl) rfl T.b_all (by decide +kernel) (WE.wo (we_lc (own := [("k", 2)]) rfl sc__law_are_texts.nd (wi_range1 rfl T.b_range (WE.wo (we_call1 p_len rfl T.b_len (by decide +kernel) (wo_var 1)))) (blkOk_by (by kernel_rfl)) (by decide) (fun _ _ _ _ _ => (wg_name 2 sc__law_are_texts.nd)) (fun _ _ _ _ _ => wts_nil) (fun _ _ _ _ _ => (WE.wf (C__law_is_text.we hr (by decide) rfl (was_val (WE.wf (we_ixv (p_ix hr.u1) (pv 0) (wo_var 2))) (was_val (WE.wf (we_ixv (p_ix hr.u1) (pv 1) (wo_var 2))) was_nil)))))))))))
abbrev s__law_lists_stand : Stmt := top 23
theorem sc__law_lists_stand : FnScope ["letters", "most", "due", "turn", "size", "told", "row", "word"] ["letters", "most"] (defScope s__law_lists_stand) := ⟨rfl, rfl, rfl, by decide +kernel, rfl, by decide +kernel, by decide +kernel⟩
theorem ok__law_lists_stand (T : Bl mg) (C__law_words : Cal P w K mg base 1 "_law_words" ["letters", "most"] [] F__law_words) (C_words_up_to : Cal P w K mg base 2 "words_up_to" ["letters", "length"] [] F_words_up_to) (C_words_of_length : Cal P w K mg base 1 "words_of_length" ["letters", "length"] [] F_words_of_length) (C__law_are_texts : Cal P w K mg base 2 "_law_are_texts" ["told", "due"] [] F__law_are_texts) (D : Dfn K mg "_law_lists_stand" s__law_lists_stand ["letters", "most"]) : Cal P w K mg base 3 "_law_lists_stand" ["letters", "most"] [] F__law_lists_stand :=
  D.cal (N := ["letters", "most", "due", "turn", "size", "told", "row", "word"]) sc__law_lists_stand (by decide) fun f cdv A outer s H E hr =>
    (wss_cons (ws_set 2 (by decide) sc__law_lists_stand.nd (C__law_words.we hr (by decide) rfl (was_slot (pv 0) (was_slot (pv 1) was_nil))))
    (wss_cons (ws_for PassesOwn.never rfl (by decide) (wi_range1 rfl T.b_range (WF.wo wf_int)) (wg_name 3 sc__law_lists_stand.nd) (wss_one (ws_for PassesOwn.never rfl (by decide) (wi_range1 rfl T.b_range (WE.wo (we_binv p_add (pv 1) (WF.wo wf_int)))) (wg_name 4 sc__law_lists_stand.nd) (wss_cons (ws_set 5 (by decide) sc__law_lists_stand.nd (C_words_up_to.we hr (by decide) rfl (was_slot (pv 0) (was_slot (pv 4) was_nil))))
    (wss_cons (ws_if (wt_not (wt_truth (WE.wo (C__law_are_texts.we hr (by decide) rfl (was_slot (pv 5) (was_val (WE.wf (we_lc (own := [("word", 7)]) rfl sc__law_lists_stand.nd (wi_any (wf_var 2)) (blkOk_by (by kernel_rfl)) (by decide) (fun _ _ _ _ _ => (wg_name 7 sc__law_lists_stand.nd)) (fun _ _ _ _ _ => (wts_one (wt_cmp p_le (WE.wf (we_call1 p_len rfl T.b_len (by decide +kernel) (wo_var 7))) (wo_var 4)))) (fun _ _ _ _ _ => (wf_var 7)))) was_nil)))))) (wss_one (ws_ret (WF.we wf_bl))) wss_nil)
    (wss_cons (ws_set 6 (by decide) sc__law_lists_stand.nd (C_words_of_length.we hr (by decide) rfl (was_slot (pv 0) (was_slot (pv 4) was_nil))))
    (wss_cons (ws_if (wt_not (wt_truth (WE.wo (C__law_are_texts.we hr (by decide) rfl (was_slot (pv 6) (was_val (WE.wf (we_lc (own := [("word", 7)]) rfl sc__law_lists_stand.nd (wi_any (wf_var 2)) (blkOk_by (by kernel_rfl)) (by decide) (fun _ _ _ _ _ => (wg_name 7 sc__law_lists_stand.nd)) (fun _ _ _ _ _ => (wts_one (wt_cmp (p_eq hr.u64) (WE.wf (we_call1 p_len rfl T.b_len (by decide +kernel) (wo_var 7))) (wo_var 4)))) (fun _ _ _ _ _ => (wf_var 7)))) was_nil)))))) (wss_one (ws_ret (WF.we wf_bl))) wss_nil)
    (wss_cons (ws_setIx hr.u1 (pv 5) (WF.wo wf_int) wf_str)
    (wss_cons (ws_expr (we_mut PySem.F.slot_list_append PySem.F.type_list_append p_append (pv 5) (wl_cons wf_str wl_nil)))
    (wss_cons (ws_setIx hr.u1 (pv 6) (WF.wo wf_int) wf_str)
    (wss_one (ws_expr (we_mut PySem.F.slot_list_append PySem.F.type_list_append p_append (pv 6) (wl_cons wf_str wl_nil))))))))))))))
    (wss_one (ws_ret (WF.we wf_bl)))))
abbrev s_word_key : Stmt := top 4
theorem sc_word_key : FnScope ["word"] ["word"] (defScope s_word_key) := ⟨rfl, rfl, rfl, by decide +kernel, rfl, by decide +kernel, by decide +kernel⟩
theorem ok_word_key (T : Bl mg)  (D : Dfn K mg "word_key" s_word_key ["word"]) : Cal P w K mg base 1 "word_key" ["word"] [] F_word_key :=
  D.cal (N := ["word"]) sc_word_key (by decide) fun f cdv A outer s H E hr =>
    (wss_one (ws_ret (we_tup (wl_cons (WE.wf (we_call1 p_len rfl T.b_len (by decide +kernel) (wo_var 0))) (wl_cons (wf_var 0) wl_nil)))))
abbrev s__law_places_stand : Stmt := top 24
theorem sc__law_places_stand : FnScope ["letters", "most", "due", "k", "key"] ["letters", "most"] (defScope s__law_places_stand) := ⟨rfl, rfl, rfl, by decide +kernel, rfl, by decide +kernel, by decide +kernel⟩
theorem ok__law_places_stand (T : Bl mg) (C__law_words : Cal P w K mg base 1 "_law_words" ["letters", "most"] [] F__law_words) (C_word_key : Cal P w K mg base 1 "word_key" ["word"] [] F_word_key) (C_is_word : Cal P w K mg base 1 "is_word" ["letters", "word"] [] F_is_word) (C__law_is_number : Cal P w K mg base 2 "_law_is_number" ["told", "due"] [] F__law_is_number) (C__law_is_text : Cal P w K mg base 1 "_law_is_text" ["told", "due"] [] F__law_is_text) (C_word_rank : Cal P w K mg base 1 "word_rank" ["letters", "word"] [] F_word_rank) (C_word_at : Cal P w K mg base 1 "word_at" ["letters", "rank"] [] F_word_at) (D : Dfn K mg "_law_places_stand" s__law_places_stand ["letters", "most"]) : Cal P w K mg base 3 "_law_places_stand" ["letters", "most"] [] F__law_places_stand :=
  D.cal (N := ["letters", "most", "due", "k", "key"]) sc__law_places_stand (by decide) fun f cdv A outer s H E hr =>
    (wss_cons (ws_set 2 (by decide) sc__law_places_stand.nd (C__law_words.we hr (by decide) rfl (was_slot (pv 0) (was_slot (pv 1) was_nil))))
    (wss_cons (ws_for PassesOwn.never rfl (by decide) (wi_range1 rfl T.b_range (WE.wo (we_call1 p_len rfl T.b_len (by decide +kernel) (wo_var 2)))) (wg_name 3 sc__law_places_stand.nd) (wss_cons (ws_if (WW.wt (ww_or (wt_not (wt_truth (WE.wo (C__law_is_number.we hr (by decide) rfl (was_val (WE.wf (C_word_rank.we hr (by decide) rfl (was_slot (pv 0) (was_val (WE.wf (we_ixv (p_ix hr.u1) (pv 2) (wo_var 3))) was_nil)))) (was_slot (pv 3) was_nil)))))) (ww_or1 (wt_not (wt_truth (WE.wo (C__law_is_text.we hr (by decide) rfl (was_val (WE.wf (C_word_at.we hr (by decide) rfl (was_slot (pv 0) (was_slot (pv 3) was_nil)))) (was_val (WE.wf (we_ixv (p_ix hr.u1) (pv 2) (wo_var 3))) was_nil))))))))) (wss_one (ws_ret (WF.we wf_bl))) wss_nil)
    (wss_cons (ws_set 4 (by decide) sc__law_places_stand.nd (C_word_key.we hr (by decide) rfl (was_val (WE.wf (we_ixv (p_ix hr.u1) (pv 2) (wo_var 3))) was_nil)))
    (wss_cons (ws_if (WW.wt (ww_or (wt_not (wt_truth (WE.wo (we_isi rfl T.b_isinstance rfl T.b_tuple (by decide +kernel) (wo_var 4))))) (ww_or1 (wt_cmp (p_ne hr.u64) (WE.wf (we_call1 p_len rfl T.b_len (by decide +kernel) (wo_var 4))) (WF.wo wf_int))))) (wss_one (ws_ret (WF.we wf_bl))) wss_nil)
    (wss_cons (ws_if (WW.wt (ww_or (wt_not (wt_truth (WE.wo (C__law_is_number.we hr (by decide) rfl (was_val (WE.wf (we_ixv (p_ix hr.u1) (pv 4) (WF.wo wf_int))) (was_val (WE.wf (we_call1 p_len rfl T.b_len (by decide +kernel) (WE.wo (we_ixv (p_ix hr.u1) (pv 2) (wo_var 3))))) was_nil)))))) (ww_or1 (wt_not (wt_truth (WE.wo (C__law_is_text.we hr (by decide) rfl (was_val (WE.wf (we_ixv (p_ix hr.u1) (pv 4) (WF.wo wf_int))) (was_val (WE.wf (we_ixv (p_ix hr.u1) (pv 2) (wo_var 3))) was_nil))))))))) (wss_one (ws_ret (WF.we wf_bl))) wss_nil)
    (wss_one (ws_if (wt_cmp p_isnot (WE.wf (C_is_word.we hr (by decide) rfl (was_slot (pv 0) (was_val (WE.wf (we_ixv (p_ix hr.u1) (pv 2) (wo_var 3))) was_nil)))) (WF.wo wf_bl)) (wss_one (ws_ret (WF.we wf_bl))) wss_nil)))))))
    (wss_one (ws_ret (WF.we wf_bl)))))
abbrev s_law : Stmt := top 28
theorem sc_law : FnScope ["script", "d", "many", "letters", "wide", "others", "word", "most", "sign"] ["script"] (defScope s_law) := ⟨rfl, rfl, rfl, by decide +kernel, rfl, by decide +kernel, by decide +kernel⟩
theorem ok_law (T : Bl mg) (C__law_begin : Cal P w K mg base 1 "_law_begin" ["script"] [] F__law_begin) (C__law_alphabet : Cal P w K mg base 3 "_law_alphabet" ["d", "many"] [0] F__law_alphabet) (C__law_long_word : Cal P w K mg base 3 "_law_long_word" ["d", "letters"] [0] F__law_long_word) (C__law_judges_stand : Cal P w K mg base 4 "_law_judges_stand" ["d", "letters", "word"] [0] F__law_judges_stand) (C__law_draw : Cal P w K mg base 1 "_law_draw" ["d", "many"] [0] F__law_draw) (C__law_far_places_stand : Cal P w K mg base 3 "_law_far_places_stand" ["d", "letters", "wide", "word"] [0] F__law_far_places_stand) (C__law_lists_stand : Cal P w K mg base 3 "_law_lists_stand" ["letters", "most"] [] F__law_lists_stand) (C__law_places_stand : Cal P w K mg base 3 "_law_places_stand" ["letters", "most"] [] F__law_places_stand) (C__law_pick : Cal P w K mg base 2 "_law_pick" ["d", "row"] [0] F__law_pick) (D : Dfn K mg "law" s_law ["script"]) : Cal P w K mg base 5 "law" ["script"] [] F_law :=
  D.cal (N := ["script", "d", "many", "letters", "wide", "others", "word", "most", "sign"]) sc_law (by decide) fun f cdv A outer s H E hr =>
    (wss_cons (ws_set 1 (by decide) sc_law.nd (C__law_begin.we hr (by decide) rfl (was_slot (pv 0) was_nil)))
    (wss_cons (ws_set 2 (by decide) sc_law.nd (we_bin p_add wf_int (WE.wo (C__law_draw.we hr (by decide) rfl (was_slot (pv 1) (was_val wf_int was_nil))))))
    (wss_cons (ws_set 3 (by decide) sc_law.nd (C__law_alphabet.we hr (by decide) rfl (was_slot (pv 1) (was_slot (pv 2) was_nil))))
    (wss_cons (ws_set 4 (by decide) sc_law.nd (WF.we (wf_var 3)))
    (wss_cons (ws_if (wt_cmpv (p_lt hr.u0) (pv 2) (WF.wo wf_int)) (wss_cons (ws_setLc (own := [("sign", 8)]) 5 (by decide) rfl sc_law.nd (wi_any wf_str) (blkOk_by (by kernel_rfl)) (by decide) (fun _ _ _ _ _ => (wg_name 8 sc_law.nd)) (fun _ _ _ _ _ => (wts_one (wt_cmpv (p_notin hr.u65) (pv 8) (wo_var 3)))) (fun _ _ _ _ _ => (wf_var 8)))
    (wss_one (ws_set 4 (by decide) sc_law.nd (we_str PySem.F.slot_str_join PySem.F.type_str_join p_join (WF.wo wf_str) (wl_cons (WE.wf (we_call1 p_sorted rfl T.b_sorted (by decide +kernel) (WE.wo (we_bin p_add (WE.wf (we_callT (p_list rfl) rfl T.b_list (by decide +kernel) (wo_var 3))) (WE.wo (we_lst (wl_cons (WE.wf (C__law_pick.we hr (by decide) rfl (was_slot (pv 1) (was_slot (pv 5) was_nil)))) wl_nil))))))) wl_nil))))) wss_nil)
    (wss_cons (ws_set 6 (by decide) sc_law.nd (C__law_long_word.we hr (by decide) rfl (was_slot (pv 1) (was_slot (pv 3) was_nil))))
    (wss_cons (ws_set 7 (by decide) sc_law.nd (we_ix (p_ix hr.u1) (WE.wf (we_lst (wl_cons wf_int (wl_cons wf_int (wl_cons wf_int (wl_cons wf_int wl_nil)))))) (WE.wo (we_binv p_sub (pv 2) (WF.wo wf_int)))))
    (wss_cons (ws_if (wt_cmp (p_eq hr.u64) (WE.wf (C__law_draw.we hr (by decide) rfl (was_slot (pv 1) (was_val wf_int was_nil)))) (WF.wo wf_int)) (wss_one (ws_set 7 (by decide) sc_law.nd (we_ix (p_ix hr.u1) (WE.wf (we_lst (wl_cons wf_int (wl_cons wf_int (wl_cons wf_int (wl_cons wf_int wl_nil)))))) (WE.wo (we_binv p_sub (pv 2) (WF.wo wf_int)))))) wss_nil)
    (wss_cons (ws_if (WW.wt (ww_or (wt_not (wt_truth (WE.wo (C__law_lists_stand.we hr (by decide) rfl (was_slot (pv 3) (was_slot (pv 7) was_nil)))))) (ww_or1 (wt_not (wt_truth (WE.wo (C__law_places_stand.we hr (by decide) rfl (was_slot (pv 3) (was_slot (pv 7) was_nil))))))))) (wss_one (ws_ret (WF.we wf_bl))) wss_nil)
    (wss_cons (ws_if (wt_not (wt_truth (WE.wo (C__law_far_places_stand.we hr (by decide) rfl (was_slot (pv 1) (was_slot (pv 3) (was_slot (pv 4) (was_slot (pv 6) was_nil)))))))) (wss_one (ws_ret (WF.we wf_bl))) wss_nil)
    (wss_one (ws_ret (C__law_judges_stand.we hr (by decide) rfl (was_slot (pv 1) (was_slot (pv 3) (was_slot (pv 6) was_nil))))))))))))))))
end
theorem all_ok {l : PySem.W.OpenLaw} {w : World} {K : PySem.W.Frag} {mg : Str → Option Value} {base : Heap} (T : Bl mg)
    (D__law_begin : Dfn K mg "_law_begin" s__law_begin ["script"])
    (D__law_draw : Dfn K mg "_law_draw" s__law_draw ["d", "many"])
    (D__law_pop : Dfn K mg "_law_pop" s__law_pop ["d", "row"])
    (D__law_alphabet : Dfn K mg "_law_alphabet" s__law_alphabet ["d", "many"])
    (D__law_pick : Dfn K mg "_law_pick" s__law_pick ["d", "row"])
    (D__law_long_word : Dfn K mg "_law_long_word" s__law_long_word ["d", "letters"])
    (D__law_bad_alphabets : Dfn K mg "_law_bad_alphabets" s__law_bad_alphabets ["d", "letters", "five"])
    (D_is_alphabet : Dfn K mg "is_alphabet" s_is_alphabet ["letters"])
    (D_is_word : Dfn K mg "is_word" s_is_word ["letters", "word"])
    (D__law_judges_stand : Dfn K mg "_law_judges_stand" s__law_judges_stand ["d", "letters", "word"])
    (D_word_at : Dfn K mg "word_at" s_word_at ["letters", "rank"])
    (D__law_words_before : Dfn K mg "_law_words_before" s__law_words_before ["letters", "word"])
    (D__law_word_behind : Dfn K mg "_law_word_behind" s__law_word_behind ["letters", "word"])
    (D__law_is_int : Dfn K mg "_law_is_int" s__law_is_int ["thing"])
    (D__law_is_number : Dfn K mg "_law_is_number" s__law_is_number ["told", "due"])
    (D__law_is_text : Dfn K mg "_law_is_text" s__law_is_text ["told", "due"])
    (D_word_rank : Dfn K mg "word_rank" s_word_rank ["letters", "word"])
    (D__law_far_places_stand : Dfn K mg "_law_far_places_stand" s__law_far_places_stand ["d", "letters", "wide", "word"])
    (D__law_words : Dfn K mg "_law_words" s__law_words ["letters", "most"])
    (D_words_of_length : Dfn K mg "words_of_length" s_words_of_length ["letters", "length"])
    (D_words_up_to : Dfn K mg "words_up_to" s_words_up_to ["letters", "length"])
    (D__law_are_texts : Dfn K mg "_law_are_texts" s__law_are_texts ["told", "due"])
    (D__law_lists_stand : Dfn K mg "_law_lists_stand" s__law_lists_stand ["letters", "most"])
    (D_word_key : Dfn K mg "word_key" s_word_key ["word"])
    (D__law_places_stand : Dfn K mg "_law_places_stand" s__law_places_stand ["letters", "most"])
    (D_law : Dfn K mg "law" s_law ["script"])
    : Cal l.prog w K mg base 5 "law" ["script"] [] F_law := by
  have C__law_begin := ok__law_begin (P := l.prog) (w := w) (base := base) T  D__law_begin
  have C__law_draw := ok__law_draw (P := l.prog) (w := w) (base := base) T  D__law_draw
  have C__law_pop := ok__law_pop (P := l.prog) (w := w) (base := base) T C__law_draw D__law_pop
  have C__law_alphabet := ok__law_alphabet (P := l.prog) (w := w) (base := base) T C__law_pop D__law_alphabet
  have C__law_pick := ok__law_pick (P := l.prog) (w := w) (base := base) T C__law_draw D__law_pick
  have C__law_long_word := ok__law_long_word (P := l.prog) (w := w) (base := base) T C__law_draw C__law_pick D__law_long_word
  have C__law_bad_alphabets := ok__law_bad_alphabets (P := l.prog) (w := w) (base := base) T C__law_draw C__law_pick D__law_bad_alphabets
  have C_is_alphabet := ok_is_alphabet (P := l.prog) (w := w) (base := base) T  D_is_alphabet
  have C_is_word := ok_is_word (P := l.prog) (w := w) (base := base) T  D_is_word
  have C__law_judges_stand := ok__law_judges_stand (P := l.prog) (w := w) (base := base) T C__law_alphabet C__law_bad_alphabets C__law_pick C__law_draw C_is_alphabet C_is_word D__law_judges_stand
  have C_word_at := ok_word_at (P := l.prog) (w := w) (base := base) T  D_word_at
  have C__law_words_before := ok__law_words_before (P := l.prog) (w := w) (base := base) T  D__law_words_before
  have C__law_word_behind := ok__law_word_behind (P := l.prog) (w := w) (base := base) T  D__law_word_behind
  have C__law_is_int := ok__law_is_int (P := l.prog) (w := w) (base := base) T  D__law_is_int
  have C__law_is_number := ok__law_is_number (P := l.prog) (w := w) (base := base) T C__law_is_int D__law_is_number
  have C__law_is_text := ok__law_is_text (P := l.prog) (w := w) (base := base) T  D__law_is_text
  have C_word_rank := ok_word_rank (P := l.prog) (w := w) (base := base) T  D_word_rank
  have C__law_far_places_stand := ok__law_far_places_stand (P := l.prog) (w := w) (base := base) T C__law_draw C_word_at C__law_words_before C__law_word_behind C__law_is_number C__law_is_text C_word_rank D__law_far_places_stand
  have C__law_words := ok__law_words (P := l.prog) (w := w) (base := base) T  D__law_words
  have C_words_of_length := ok_words_of_length (P := l.prog) (w := w) (base := base) T  D_words_of_length
  have C_words_up_to := ok_words_up_to (P := l.prog) (w := w) (base := base) T C_words_of_length D_words_up_to
  have C__law_are_texts := ok__law_are_texts (P := l.prog) (w := w) (base := base) T C__law_is_text D__law_are_texts
  have C__law_lists_stand := ok__law_lists_stand (P := l.prog) (w := w) (base := base) T C__law_words C_words_up_to C_words_of_length C__law_are_texts D__law_lists_stand
  have C_word_key := ok_word_key (P := l.prog) (w := w) (base := base) T  D_word_key
  have C__law_places_stand := ok__law_places_stand (P := l.prog) (w := w) (base := base) T C__law_words C_word_key C_is_word C__law_is_number C__law_is_text C_word_rank C_word_at D__law_places_stand
  have C_law := ok_law (P := l.prog) (w := w) (base := base) T C__law_begin C__law_alphabet C__law_long_word C__law_judges_stand C__law_draw C__law_far_places_stand C__law_lists_stand C__law_places_stand C__law_pick D_law
  exact C_law
end MC.Law
set_option Elab.async false
set_option linter.all false
set_option maxRecDepth 100000
set_option maxHeartbeats 4000000
namespace MC.Law
open PySem
/-- the drawing state -/
def Dr (cs : List Int) (a b c e : Int) : PV := .lst [.lst (cs.map .int), .int a, .int b, .int c, .int e]
def IsDr (x : PV) : Prop := ∃ cs a b c e, x = Dr cs a b c e ∧ 0 ≤ a
theorem mod_lt {i j : Int} (h : 0 < j) : 0 ≤ i.fmod j ∧ i.fmod j < j := ⟨Int.fmod_nonneg_of_pos i h, Int.fmod_lt_of_pos i h⟩
theorem lc1__law_begin_run (ns : List Int) (hn : ns.length ≤ 63) : lc1__law_begin [some (false, .sq true (ns.map .int)), none] = some ((true, .lst (ns.map .int)), [some (false, .sq true (ns.map .int)), none]) := by
  have lp : lcLoop [1] (put 1 false) (pure true) (asF (un1 (look 1) intP)) (ns.map PV.int) [some (false, .sq true (ns.map .int)), none] = some (((ns.map PV.int).filter fun _ => true).map id, [some (false, .sq true (ns.map .int)), none]) :=
    lcLoop_pure (fun _ => true) id _ fun x hx => by
      obtain ⟨i, _, rfl⟩ := List.mem_map.mp hx
      exact ⟨_, rfl, fun _ => ⟨_, rfl, rfl⟩, fun z => nomatch z⟩
  have fl1 : fits ns.length = true := fits_of (by omega)
  unfold lc1__law_begin lcM
  refine bind_of (a := ns.map PV.int) (ρ' := [some (false, .sq true (ns.map .int)), none]) rfl ?_
  refine bind_of (a := ns.map PV.int) (ρ' := [some (false, .sq true (ns.map .int)), none]) ?_ ?_
  · unfold within
    simp only [clear, List.set]
    rw [lp]
    simp [restore, plainAt]
  · simp [fl1, bind_run, pure_run, lift_run, ite_run, bad_run, fnOf, runF, argE, seqM, ifM, asT, bin2, bin2v, un1, unL, asF, setM, setIxM, augIxM, augM, retM, giveM, dropM, look, take, put, frz1, ownsAny, owns, store, change, mutM, onL, isB, truM, truP, MC.notM, MC.andM, MC.orM, chain, tupM, lstM, consM, outs, callM, valM, slotM, argSlots, frzS, resolve, ioSlots, setIo, itemsM, itemsOf, PV.flat, strM, andV, orV, notV, slM, slMv, asInt, str_len, addP_ii, addP_ib, addP_ss, addP_ll, addP_tt, iaddP_ii, subP_ii, mulP_ii, mulP_si, fdivP_ii, modP_ii, negP_i, absP_i, intP_i, intP_b, ltP_ii, leP_ii, gtP_ii, geP_ii, ltP_ss, leP_ss, gtP_ss, geP_ss, eqP_ii, eqP_ss, neP_ii, neP_ss, isP_b, isNotP_b, inP_1, notInP_1, lenP_s, lenP_l, lenP_t, lenP_q, listP_s, listP_l, listP_t, tupleP_l, tupleP_t, ixP_l, ixP_t, ixP_q, ixP_s, atI_nat, atI_2, atI_3, atI_4, atI_0, atI_1, atI_last, setV_l, getV_l, ixN_nat, ixN_2, ixN_3, ixN_4, ixN_0, ixN_1, popP_n, appendP_1, extendP_l, slP_to, slP_from, MC.when, fl]
theorem begin_ok (ns : List Int) (hn : ns.length ≤ 63) : F__law_begin [.sq true (ns.map .int)] = some ((true, Dr ns 0 0 7 0), []) := by
  have fl2 : fits 5 = true := fits_of (by omega)
  simp -implicitDefEqProofs [F__law_begin, sem__law_begin, Dr, lc1__law_begin_run, hn, fl2, bind_run, pure_run, lift_run, ite_run, bad_run, fnOf, runF, argE, seqM, ifM, asT, bin2, bin2v, un1, unL, asF, setM, setIxM, augIxM, augM, retM, giveM, dropM, look, take, put, frz1, ownsAny, owns, store, change, mutM, onL, isB, truM, truP, MC.notM, MC.andM, MC.orM, chain, tupM, lstM, consM, outs, callM, valM, slotM, argSlots, frzS, resolve, ioSlots, setIo, itemsM, itemsOf, PV.flat, strM, andV, orV, notV, slM, slMv, asInt, str_len, addP_ii, addP_ib, addP_ss, addP_ll, addP_tt, iaddP_ii, subP_ii, mulP_ii, mulP_si, fdivP_ii, modP_ii, negP_i, absP_i, intP_i, intP_b, ltP_ii, leP_ii, gtP_ii, geP_ii, ltP_ss, leP_ss, gtP_ss, geP_ss, eqP_ii, eqP_ss, neP_ii, neP_ss, isP_b, isNotP_b, inP_1, notInP_1, lenP_s, lenP_l, lenP_t, lenP_q, listP_s, listP_l, listP_t, tupleP_l, tupleP_t, ixP_l, ixP_t, ixP_q, ixP_s, atI_nat, atI_2, atI_3, atI_4, atI_0, atI_1, atI_last, setV_l, getV_l, ixN_nat, ixN_2, ixN_3, ixN_4, ixN_0, ixN_1, popP_n, appendP_1, extendP_l, slP_to, slP_from, MC.when, fl]
def stir (c size : Int) (n : Nat) : Int := (c * 48271 + size.fmod 2147483629 * 16807 + ((n : Int) + 1) * 69621 + 11).fmod 2147483647
theorem shl_big : ∃ N : Int, N ≠ 0 ∧ shlP (.int 1) (.int 6000) = some (false, .int N) := by
  have ps : powOk 1 6000 = true := by decide
  refine ⟨1 * 2 ^ (6000 : Int).toNat, ?_, ?_⟩
  · rw [Int.one_mul]
    exact Int.ne_of_gt (Int.pow_pos (by decide))
  · show MC.when (powOk 1 6000) _ = _
    rw [ps]
    rfl
section
variable {many c b e : Int} {cs : List Int} {n : Nat}
theorem m1 (x : Int) : mulOk 2 x = true := by unfold mulOk; simp
theorem m2 (x : Int) : mulOk x 48271 = true := by unfold mulOk; simp
theorem m3 (x : Int) : mulOk x 16807 = true := by unfold mulOk; simp
theorem m4 (x : Int) : mulOk x 69621 = true := by unfold mulOk; simp
theorem d2 : divOk 2 = true := by decide
theorem d16 : divOk 16 = true := by decide
theorem big_pow : powP (.int 10) (.int 18) = some (false, .int 1000000000000000000) := rfl
theorem ba (x : Bool) : PyProof.Rows.b2i x = if x = true then 1 else 0 := by cases x <;> rfl
theorem vx_run {cs : PV} {b c e size many : Int} {n : Int} {x2 x4} : vx1__law_draw [some (true, .lst [cs, .int n, .int b, .int c, .int e]), some (false, .int many), x2, some (false, .int size), x4] =
   some (.int ((c * 48271 + size.fmod 2147483629 * 16807 + n * 69621 + 11).fmod 2147483647), [some (true, .lst [cs, .int n, .int b, .int c, .int e]), some (false, .int many), x2, some (false, .int size), x4]) := by
  simp -implicitDefEqProofs [vx1__law_draw, m2, m3, m4, bind_run, pure_run, lift_run, ite_run, bad_run, fnOf, runF, argE, seqM, ifM, asT, bin2, bin2v, un1, unL, asF, setM, setIxM, augIxM, augM, retM, giveM, dropM, look, take, put, frz1, ownsAny, owns, store, change, mutM, onL, isB, truM, truP, MC.notM, MC.andM, MC.orM, chain, tupM, lstM, consM, outs, callM, valM, slotM, argSlots, frzS, resolve, ioSlots, setIo, itemsM, itemsOf, PV.flat, strM, andV, orV, notV, slM, slMv, asInt, str_len, addP_ii, addP_ib, addP_ss, addP_ll, addP_tt, iaddP_ii, subP_ii, mulP_ii, mulP_si, fdivP_ii, modP_ii, negP_i, absP_i, intP_i, intP_b, ltP_ii, leP_ii, gtP_ii, geP_ii, ltP_ss, leP_ss, gtP_ss, geP_ss, eqP_ii, eqP_ss, neP_ii, neP_ss, isP_b, isNotP_b, inP_1, notInP_1, lenP_s, lenP_l, lenP_t, lenP_q, listP_s, listP_l, listP_t, tupleP_l, tupleP_t, ixP_l, ixP_t, ixP_q, ixP_s, atI_nat, atI_2, atI_3, atI_4, atI_0, atI_1, atI_last, setV_l, getV_l, ixN_nat, ixN_2, ixN_3, ixN_4, ixN_0, ixN_1, popP_n, appendP_1, extendP_l, slP_to, slP_from, MC.when, fl]
theorem draw1 (hb : 0 < b) (dv : divOk many = true) (nz : many ≠ 0) : F__law_draw [Dr cs n b c e, .int many] = some ((false, .int (b.fmod many)), [Dr cs n (b.fdiv many) c e]) := by
  simp -implicitDefEqProofs [F__law_draw, sem__law_draw, Dr, hb, dv, nz, bind_run, pure_run, lift_run, ite_run, bad_run, fnOf, runF, argE, seqM, ifM, asT, bin2, bin2v, un1, unL, asF, setM, setIxM, augIxM, augM, retM, giveM, dropM, look, take, put, frz1, ownsAny, owns, store, change, mutM, onL, isB, truM, truP, MC.notM, MC.andM, MC.orM, chain, tupM, lstM, consM, outs, callM, valM, slotM, argSlots, frzS, resolve, ioSlots, setIo, itemsM, itemsOf, PV.flat, strM, andV, orV, notV, slM, slMv, asInt, str_len, addP_ii, addP_ib, addP_ss, addP_ll, addP_tt, iaddP_ii, subP_ii, mulP_ii, mulP_si, fdivP_ii, modP_ii, negP_i, absP_i, intP_i, intP_b, ltP_ii, leP_ii, gtP_ii, geP_ii, ltP_ss, leP_ss, gtP_ss, geP_ss, eqP_ii, eqP_ss, neP_ii, neP_ss, isP_b, isNotP_b, inP_1, notInP_1, lenP_s, lenP_l, lenP_t, lenP_q, listP_s, listP_l, listP_t, tupleP_l, tupleP_t, ixP_l, ixP_t, ixP_q, ixP_s, atI_nat, atI_2, atI_3, atI_4, atI_0, atI_1, atI_last, setV_l, getV_l, ixN_nat, ixN_2, ixN_3, ixN_4, ixN_0, ixN_1, popP_n, appendP_1, extendP_l, slP_to, slP_from, MC.when, fl]
theorem draw2 {size N : Int} (hb : ¬ 0 < b) (dv : divOk many = true) (nz : many ≠ 0) (hn : n < cs.length) (hz : 2 * (if cs[n] < 0 then -cs[n] else cs[n]) + (if cs[n] < 0 then 1 else 0) = size) (hs : 2000000000000000000 ≤ size) (p6 : N ≠ 0) (ps : shlP (.int 1) (.int 6000) = some (false, .int N)) :
    F__law_draw [Dr cs n b c e, .int many] = some ((false, .int (((size.fdiv 2).fmod N).fmod many)), [Dr cs (n + 1) (((size.fdiv 2).fmod N).fdiv many) c e]) := by
  simp -implicitDefEqProofs [F__law_draw, sem__law_draw, Dr, hb, dv, nz, hn, hs, hz, m1, vx_run, d2, d16, big_pow, ps, p6, absP, ba, bind_run, pure_run, lift_run, ite_run, bad_run, fnOf, runF, argE, seqM, ifM, asT, bin2, bin2v, un1, unL, asF, setM, setIxM, augIxM, augM, retM, giveM, dropM, look, take, put, frz1, ownsAny, owns, store, change, mutM, onL, isB, truM, truP, MC.notM, MC.andM, MC.orM, chain, tupM, lstM, consM, outs, callM, valM, slotM, argSlots, frzS, resolve, ioSlots, setIo, itemsM, itemsOf, PV.flat, strM, andV, orV, notV, slM, slMv, asInt, str_len, addP_ii, addP_ib, addP_ss, addP_ll, addP_tt, iaddP_ii, subP_ii, mulP_ii, mulP_si, fdivP_ii, modP_ii, negP_i, absP_i, intP_i, intP_b, ltP_ii, leP_ii, gtP_ii, geP_ii, ltP_ss, leP_ss, gtP_ss, geP_ss, eqP_ii, eqP_ss, neP_ii, neP_ss, isP_b, isNotP_b, inP_1, notInP_1, lenP_s, lenP_l, lenP_t, lenP_q, listP_s, listP_l, listP_t, tupleP_l, tupleP_t, ixP_l, ixP_t, ixP_q, ixP_s, atI_nat, atI_2, atI_3, atI_4, atI_0, atI_1, atI_last, setV_l, getV_l, ixN_nat, ixN_2, ixN_3, ixN_4, ixN_0, ixN_1, popP_n, appendP_1, extendP_l, slP_to, slP_from, MC.when, fl]
theorem draw3 {size : Int} (hb : ¬ 0 < b) (dv : divOk many = true) (nz : many ≠ 0) (hn : n < cs.length) (hz : 2 * (if cs[n] < 0 then -cs[n] else cs[n]) + (if cs[n] < 0 then 1 else 0) = size) (hs : ¬ 2000000000000000000 ≤ size) :
    F__law_draw [Dr cs n b c e, .int many] = some ((false, .int (((stir c size n).fdiv 16).fmod many)), [Dr cs (n + 1) b (stir c size n) e]) := by
  simp -implicitDefEqProofs [F__law_draw, sem__law_draw, Dr, stir, hb, dv, nz, hn, hs, hz, m1, vx_run, d2, d16, big_pow, absP, ba, bind_run, pure_run, lift_run, ite_run, bad_run, fnOf, runF, argE, seqM, ifM, asT, bin2, bin2v, un1, unL, asF, setM, setIxM, augIxM, augM, retM, giveM, dropM, look, take, put, frz1, ownsAny, owns, store, change, mutM, onL, isB, truM, truP, MC.notM, MC.andM, MC.orM, chain, tupM, lstM, consM, outs, callM, valM, slotM, argSlots, frzS, resolve, ioSlots, setIo, itemsM, itemsOf, PV.flat, strM, andV, orV, notV, slM, slMv, asInt, str_len, addP_ii, addP_ib, addP_ss, addP_ll, addP_tt, iaddP_ii, subP_ii, mulP_ii, mulP_si, fdivP_ii, modP_ii, negP_i, absP_i, intP_i, intP_b, ltP_ii, leP_ii, gtP_ii, geP_ii, ltP_ss, leP_ss, gtP_ss, geP_ss, eqP_ii, eqP_ss, neP_ii, neP_ss, isP_b, isNotP_b, inP_1, notInP_1, lenP_s, lenP_l, lenP_t, lenP_q, listP_s, listP_l, listP_t, tupleP_l, tupleP_t, ixP_l, ixP_t, ixP_q, ixP_s, atI_nat, atI_2, atI_3, atI_4, atI_0, atI_1, atI_last, setV_l, getV_l, ixN_nat, ixN_2, ixN_3, ixN_4, ixN_0, ixN_1, popP_n, appendP_1, extendP_l, slP_to, slP_from, MC.when, fl]
theorem draw4 (hb : ¬ 0 < b) (dv : divOk many = true) (nz : many ≠ 0) (hn : ¬ n < cs.length) :
    F__law_draw [Dr cs n b c e, .int many] = some ((false, .int (((stir c 0 n).fdiv 16).fmod many)), [Dr cs (n + 1) b (stir c 0 n) e]) := by
  simp -implicitDefEqProofs [F__law_draw, sem__law_draw, Dr, stir, hb, dv, nz, hn, m1, vx_run, d2, d16, big_pow, absP, ba, bind_run, pure_run, lift_run, ite_run, bad_run, fnOf, runF, argE, seqM, ifM, asT, bin2, bin2v, un1, unL, asF, setM, setIxM, augIxM, augM, retM, giveM, dropM, look, take, put, frz1, ownsAny, owns, store, change, mutM, onL, isB, truM, truP, MC.notM, MC.andM, MC.orM, chain, tupM, lstM, consM, outs, callM, valM, slotM, argSlots, frzS, resolve, ioSlots, setIo, itemsM, itemsOf, PV.flat, strM, andV, orV, notV, slM, slMv, asInt, str_len, addP_ii, addP_ib, addP_ss, addP_ll, addP_tt, iaddP_ii, subP_ii, mulP_ii, mulP_si, fdivP_ii, modP_ii, negP_i, absP_i, intP_i, intP_b, ltP_ii, leP_ii, gtP_ii, geP_ii, ltP_ss, leP_ss, gtP_ss, geP_ss, eqP_ii, eqP_ss, neP_ii, neP_ss, isP_b, isNotP_b, inP_1, notInP_1, lenP_s, lenP_l, lenP_t, lenP_q, listP_s, listP_l, listP_t, tupleP_l, tupleP_t, ixP_l, ixP_t, ixP_q, ixP_s, atI_nat, atI_2, atI_3, atI_4, atI_0, atI_1, atI_last, setV_l, getV_l, ixN_nat, ixN_2, ixN_3, ixN_4, ixN_0, ixN_1, popP_n, appendP_1, extendP_l, slP_to, slP_from, MC.when, fl]
end
theorem draw_ok {d : PV} {many : Int} (hd : IsDr d) (h0 : 0 < many) (h1 : many < 1073741824) : ∃ r d', F__law_draw [d, .int many] = some ((false, .int r), [d']) ∧ 0 ≤ r ∧ r < many ∧ IsDr d' := by
  obtain ⟨cs, a, b, c, e, rfl, ha⟩ := hd
  obtain ⟨n, rfl⟩ := Int.eq_ofNat_of_zero_le ha
  have dv : divOk many = true := by unfold divOk; simp; left; omega
  have nz : many ≠ 0 := by omega
  obtain ⟨N, p6, ps⟩ := shl_big
  by_cases hb : 0 < b
  · exact ⟨_, _, draw1 hb dv nz, (mod_lt h0).1, (mod_lt h0).2, ⟨_, _, _, _, _, rfl, ha⟩⟩
  · by_cases hn : n < cs.length
    · by_cases hs : 2000000000000000000 ≤ 2 * (if cs[n] < 0 then -cs[n] else cs[n]) + (if cs[n] < 0 then 1 else 0)
      · exact ⟨_, _, draw2 hb dv nz hn rfl hs p6 ps, (mod_lt h0).1, (mod_lt h0).2, ⟨_, _, _, _, _, rfl, by omega⟩⟩
      · exact ⟨_, _, draw3 hb dv nz hn rfl hs, (mod_lt h0).1, (mod_lt h0).2, ⟨_, _, _, _, _, rfl, by omega⟩⟩
    · exact ⟨_, _, draw4 hb dv nz hn, (mod_lt h0).1, (mod_lt h0).2, ⟨_, _, _, _, _, rfl, by omega⟩⟩
end MC.Law
set_option Elab.async false
set_option linter.all false
set_option maxRecDepth 100000
set_option maxHeartbeats 4000000
namespace MC.Law
open PySem
theorem pick_s {d : PV} {a : List Nat} (hd : IsDr d) (h0 : a ≠ []) (h1 : a.length < 1000) : ∃ c d', F__law_pick [d, .str ⟨⟨a⟩⟩] = some ((false, .str ⟨⟨[c]⟩⟩), [d']) ∧ c ∈ a ∧ IsDr d' := by
  have lp : 0 < a.length := List.length_pos_iff.mpr h0
  obtain ⟨r, d', e, r0, r1, hd'⟩ := draw_ok hd (many := a.length) (by omega) (by omega)
  obtain ⟨n, rfl⟩ := Int.eq_ofNat_of_zero_le r0
  have hn : n < a.length := by omega
  have hf : fits a.length = true := fits_of (by omega)
  exact ⟨a[n], d', by simp -implicitDefEqProofs [F__law_pick, sem__law_pick, hf, e, hn, bind_run, pure_run, lift_run, ite_run, bad_run, fnOf, runF, argE, seqM, ifM, asT, bin2, bin2v, un1, unL, asF, setM, setIxM, augIxM, augM, retM, giveM, dropM, look, take, put, frz1, ownsAny, owns, store, change, mutM, onL, isB, truM, truP, MC.notM, MC.andM, MC.orM, chain, tupM, lstM, consM, outs, callM, valM, slotM, argSlots, frzS, resolve, ioSlots, setIo, itemsM, itemsOf, PV.flat, strM, andV, orV, notV, slM, slMv, asInt, str_len, addP_ii, addP_ib, addP_ss, addP_ll, addP_tt, iaddP_ii, subP_ii, mulP_ii, mulP_si, fdivP_ii, modP_ii, negP_i, absP_i, intP_i, intP_b, ltP_ii, leP_ii, gtP_ii, geP_ii, ltP_ss, leP_ss, gtP_ss, geP_ss, eqP_ii, eqP_ss, neP_ii, neP_ss, isP_b, isNotP_b, inP_1, notInP_1, lenP_s, lenP_l, lenP_t, lenP_q, listP_s, listP_l, listP_t, tupleP_l, tupleP_t, ixP_l, ixP_t, ixP_q, ixP_s, atI_nat, atI_2, atI_3, atI_4, atI_0, atI_1, atI_last, setV_l, getV_l, ixN_nat, ixN_2, ixN_3, ixN_4, ixN_0, ixN_1, popP_n, appendP_1, extendP_l, slP_to, slP_from, MC.when, fl], List.getElem_mem hn, hd'⟩
theorem pick_l {d : PV} {xs : List PV} (hd : IsDr d) (h0 : xs ≠ []) (h1 : xs.length < 100000) : ∃ x d', F__law_pick [d, .lst xs] = some ((false, x), [d']) ∧ x ∈ xs ∧ IsDr d' := by
  have lp : 0 < xs.length := List.length_pos_iff.mpr h0
  obtain ⟨r, d', e, r0, r1, hd'⟩ := draw_ok hd (many := xs.length) (by omega) (by omega)
  obtain ⟨n, rfl⟩ := Int.eq_ofNat_of_zero_le r0
  have hn : n < xs.length := by omega
  exact ⟨xs[n], d', by simp -implicitDefEqProofs [F__law_pick, sem__law_pick, e, hn, bind_run, pure_run, lift_run, ite_run, bad_run, fnOf, runF, argE, seqM, ifM, asT, bin2, bin2v, un1, unL, asF, setM, setIxM, augIxM, augM, retM, giveM, dropM, look, take, put, frz1, ownsAny, owns, store, change, mutM, onL, isB, truM, truP, MC.notM, MC.andM, MC.orM, chain, tupM, lstM, consM, outs, callM, valM, slotM, argSlots, frzS, resolve, ioSlots, setIo, itemsM, itemsOf, PV.flat, strM, andV, orV, notV, slM, slMv, asInt, str_len, addP_ii, addP_ib, addP_ss, addP_ll, addP_tt, iaddP_ii, subP_ii, mulP_ii, mulP_si, fdivP_ii, modP_ii, negP_i, absP_i, intP_i, intP_b, ltP_ii, leP_ii, gtP_ii, geP_ii, ltP_ss, leP_ss, gtP_ss, geP_ss, eqP_ii, eqP_ss, neP_ii, neP_ss, isP_b, isNotP_b, inP_1, notInP_1, lenP_s, lenP_l, lenP_t, lenP_q, listP_s, listP_l, listP_t, tupleP_l, tupleP_t, ixP_l, ixP_t, ixP_q, ixP_s, atI_nat, atI_2, atI_3, atI_4, atI_0, atI_1, atI_last, setV_l, getV_l, ixN_nat, ixN_2, ixN_3, ixN_4, ixN_0, ixN_1, popP_n, appendP_1, extendP_l, slP_to, slP_from, MC.when, fl], List.getElem_mem hn, hd'⟩
theorem pop_l {d : PV} {xs : List PV} (hd : IsDr d) (h0 : xs ≠ []) (h1 : xs.length < 100000) : ∃ (n : Nat) (hn : n < xs.length) (d' : PV), F__law_pop [d, .lst xs] = some ((false, xs[n]), [d', .lst (xs.eraseIdx n)]) ∧ IsDr d' := by
  have lp : 0 < xs.length := List.length_pos_iff.mpr h0
  obtain ⟨r, d', e, r0, r1, hd'⟩ := draw_ok hd (many := xs.length) (by omega) (by omega)
  obtain ⟨n, rfl⟩ := Int.eq_ofNat_of_zero_le r0
  have hn : n < xs.length := by omega
  exact ⟨n, hn, d', by simp -implicitDefEqProofs [F__law_pop, sem__law_pop, e, hn, h1, bind_run, pure_run, lift_run, ite_run, bad_run, fnOf, runF, argE, seqM, ifM, asT, bin2, bin2v, un1, unL, asF, setM, setIxM, augIxM, augM, retM, giveM, dropM, look, take, put, frz1, ownsAny, owns, store, change, mutM, onL, isB, truM, truP, MC.notM, MC.andM, MC.orM, chain, tupM, lstM, consM, outs, callM, valM, slotM, argSlots, frzS, resolve, ioSlots, setIo, itemsM, itemsOf, PV.flat, strM, andV, orV, notV, slM, slMv, asInt, str_len, addP_ii, addP_ib, addP_ss, addP_ll, addP_tt, iaddP_ii, subP_ii, mulP_ii, mulP_si, fdivP_ii, modP_ii, negP_i, absP_i, intP_i, intP_b, ltP_ii, leP_ii, gtP_ii, geP_ii, ltP_ss, leP_ss, gtP_ss, geP_ss, eqP_ii, eqP_ss, neP_ii, neP_ss, isP_b, isNotP_b, inP_1, notInP_1, lenP_s, lenP_l, lenP_t, lenP_q, listP_s, listP_l, listP_t, tupleP_l, tupleP_t, ixP_l, ixP_t, ixP_q, ixP_s, atI_nat, atI_2, atI_3, atI_4, atI_0, atI_1, atI_last, setV_l, getV_l, ixN_nat, ixN_2, ixN_3, ixN_4, ixN_0, ixN_1, popP_n, appendP_1, extendP_l, slP_to, slP_from, MC.when, fl], hd'⟩
end MC.Law
set_option Elab.async false
set_option linter.all false
set_option maxRecDepth 100000
set_option maxHeartbeats 4000000
namespace MC.Law
open PySem
def AZ : List Nat := [97, 98, 99, 100, 101, 102, 103, 104, 105, 106, 107, 108, 109, 110, 111, 112, 113, 114, 115, 116, 117, 118, 119, 120, 121, 122]
theorem lit_az : Str.ofString "abcdefghijklmnopqrstuvwxyz" = ⟨⟨AZ⟩⟩ := by decide +kernel
theorem lit_e : Str.ofString "" = ⟨⟨[]⟩⟩ := by decide +kernel
structure Al (A : List Nat) (m : Nat) : Prop where
  len : A.length = m
  srt : A.Pairwise (· < ·)
  rg : ∀ c ∈ A, 97 ≤ c ∧ c ≤ 122
theorem joinL_map (L : List Nat) : TL.joinL [] (L.map fun c => [c]) = L := by
  induction L with
  | nil => rfl
  | cons a r ih =>
    cases r with
    | nil => rfl
    | cons b r =>
      show [a] ++ ([] ++ TL.joinL [] ((b :: r).map fun c => [c])) = _
      rw [ih]; rfl
theorem join_map (L : List Nat) : Txt.join ⟨⟨[]⟩⟩ (L.map fun c => (⟨⟨[c]⟩⟩ : Str)) = ⟨⟨L⟩⟩ := by
  have h := TL.tl_join ⟨⟨[]⟩⟩ (L.map fun c => (⟨⟨[c]⟩⟩ : Str))
  rw [List.map_map] at h
  have h2 : Txt.join ⟨⟨[]⟩⟩ (L.map fun c => (⟨⟨[c]⟩⟩ : Str)) = Str.join ⟨⟨[]⟩⟩ (L.map fun c => (⟨⟨[c]⟩⟩ : Str)) := TL.join_eq _ _
  rw [h2]
  have h3 : (Str.join ⟨⟨[]⟩⟩ (L.map fun c => (⟨⟨[c]⟩⟩ : Str))).cps.toList = L := h.trans (joinL_map L)
  cases e : Str.join ⟨⟨[]⟩⟩ (L.map fun c => (⟨⟨[c]⟩⟩ : Str)) with
  | mk c => rw [e] at h3; cases c; cases h3; rfl
theorem strsOf_sign (L : List Nat) : strsOf (L.map sign) = some (L.map fun c => (⟨⟨[c]⟩⟩ : Str)) := by
  induction L with
  | nil => rfl
  | cons a r ih => show (strsOf (r.map sign)).map _ = _; rw [ih]; rfl
theorem joinP_sign (L : List Nat) (h : L.length ≤ 1000) : joinP ⟨⟨[]⟩⟩ [.lst (L.map sign)] = some (false, .str ⟨⟨L⟩⟩) := by
  have hf : joinFits ⟨⟨[]⟩⟩ (L.map fun c => (⟨⟨[c]⟩⟩ : Str)) = true := by
    unfold joinFits
    refine decide_eq_true ?_
    have : ((L.map fun c => (⟨⟨[c]⟩⟩ : Str)).map (·.length)).sum = L.length := by
      rw [List.map_map]
      induction L with
      | nil => rfl
      | cons a r ih => simp only [List.map_cons, List.sum_cons, List.length_cons]; rw [ih (by simp at h; omega)]; show 1 + r.length = _; omega
    rw [this, str_len]
    simp; omega
  unfold joinP
  simp only [strsOf_sign, Option.bind_some, hf]
  show MC.when true _ = _
  rw [join_map]; rfl
theorem sortedP_sign (L : List Nat) (h0 : L ≠ []) (h : L.length < 64) : sortedP (.lst (L.map sign)) = some (true, .lst ((L.mergeSort fun a b => decide (a ≤ b)).map sign)) := by
  have hi : intsOf (L.map sign) = none := by
    cases L with
    | nil => exact absurd rfl h0
    | cons a r => rfl
  unfold sortedP
  simp only [hi, strsOf_sign]
  have hl : decide ((L.map fun c => (⟨⟨[c]⟩⟩ : Str)).length < 64) = true := by simpa using h
  rw [hl]
  show some (true, PV.lst _) = _
  congr 3
  unfold sortStrs
  have : (L.mergeSort fun a b => decide (a ≤ b)).map (fun c => (⟨⟨[c]⟩⟩ : Str)) = (L.map fun c => (⟨⟨[c]⟩⟩ : Str)).mergeSort strLe := List.map_mergeSort fun a _ b _ => by
    show decide (a ≤ b) = !decide ([b] < [a])
    rw [Bool.eq_iff_iff]
    simp [List.cons_lt_cons_iff]
  rw [← this, List.map_map]
  rfl
theorem map_erase {α β : Type} (f : α → β) : ∀ (l : List α) (n : Nat), (l.map f).eraseIdx n = (l.eraseIdx n).map f
  | [], n => by simp
  | a :: l, 0 => rfl
  | a :: l, n + 1 => by simp [map_erase f l n]
theorem cons_erase_perm {α : Type} : ∀ {l : List α} {n : Nat} (h : n < l.length), (l[n] :: l.eraseIdx n).Perm l
  | a :: l, 0, _ => .refl _
  | a :: l, n + 1, h => by
    have h' : n < l.length := by simpa using h
    show (l[n] :: a :: l.eraseIdx n).Perm (a :: l)
    exact (List.Perm.swap _ _ _).trans ((cons_erase_perm h').cons a)
theorem fo1_run {d d0 : PV} {many : Nat} (hd : IsDr d) (hm : many ≤ 6) : ∃ (d' : PV) (F L : List Nat) (x : Option (Bool × PV)), fo1__law_alphabet [some (true, d), some (false, .int many), some (true, .lst (AZ.map sign)), some (true, .lst []), none] =
    some (.nx, [some (true, d'), some (false, .int many), some (true, .lst (L.map sign)), some (true, .lst (F.map sign)), x]) ∧ IsDr d' ∧ F.length = many ∧ (F ++ L).Perm AZ := by
  have hr : inRange many = true := by unfold inRange; exact decide_eq_true ⟨by omega, by omega⟩
  obtain ⟨ρ', h1, d', F, L, x, rfl, h2⟩ := forM_inv (h := put 4 false) (f := bd1__law_alphabet) (fun n ρ => ∃ (d' : PV) (F L : List Nat) (x : Option (Bool × PV)), ρ = [some (true, d'), some (false, .int many), some (true, .lst (L.map sign)), some (true, .lst (F.map sign)), x] ∧ IsDr d' ∧ F.length = n ∧ (F ++ L).Perm AZ)
    (rangeL 0 many) 0 _ ⟨d, [], AZ, none, rfl, hd, rfl, .refl _⟩ (by
      rintro i x _ hx ⟨d', F, L, x4, rfl, hd', hF, hp⟩
      have hi : i < many := by
        have := (List.getElem?_eq_some_iff.mp hx).1
        simp [rangeL] at this; omega
      have hl : F.length + L.length = 26 := by have := hp.length_eq; rw [List.length_append] at this; exact this
      obtain ⟨n, hn, d2, e, hd2⟩ := pop_l hd' (xs := L.map sign) (by intro z; have := congrArg List.length z; simp at this; subst this; simp at hl; omega) (by simp; omega)
      have hn' : n < L.length := by simpa using hn
      have lf : F.length < 100000 := by omega
      refine ⟨_, .inl ?_, d2, F ++ [L[n]], L.eraseIdx n, some (false, x), rfl, hd2, by simp; omega, ?_⟩
      · rw [map_erase] at e
        have e3 : (L.map sign)[n] = sign L[n] := by simp
        rw [e3] at e
        simp -implicitDefEqProofs [bd1__law_alphabet, e, lf, bind_run, pure_run, lift_run, ite_run, bad_run, fnOf, runF, argE, seqM, ifM, asT, bin2, bin2v, un1, unL, asF, setM, setIxM, augIxM, augM, retM, giveM, dropM, look, take, put, frz1, ownsAny, owns, store, change, mutM, onL, isB, truM, truP, MC.notM, MC.andM, MC.orM, chain, tupM, lstM, consM, outs, callM, valM, slotM, argSlots, frzS, resolve, ioSlots, setIo, itemsM, itemsOf, PV.flat, strM, andV, orV, notV, slM, slMv, asInt, str_len, addP_ii, addP_ib, addP_ss, addP_ll, addP_tt, iaddP_ii, subP_ii, mulP_ii, mulP_si, fdivP_ii, modP_ii, negP_i, absP_i, intP_i, intP_b, ltP_ii, leP_ii, gtP_ii, geP_ii, ltP_ss, leP_ss, gtP_ss, geP_ss, eqP_ii, eqP_ss, neP_ii, neP_ss, isP_b, isNotP_b, inP_1, notInP_1, lenP_s, lenP_l, lenP_t, lenP_q, listP_s, listP_l, listP_t, tupleP_l, tupleP_t, ixP_l, ixP_t, ixP_q, ixP_s, atI_nat, atI_2, atI_3, atI_4, atI_0, atI_1, atI_last, setV_l, getV_l, ixN_nat, ixN_2, ixN_3, ixN_4, ixN_0, ixN_1, popP_n, appendP_1, extendP_l, slP_to, slP_from, MC.when, fl]
      · refine List.Perm.trans ?_ hp
        rw [List.append_assoc]
        show (F ++ (L[n] :: L.eraseIdx n)).Perm (F ++ L)
        exact List.Perm.append_left F (cons_erase_perm hn'))
  refine ⟨d', F, L, x, ?_, h2.1, ?_, h2.2.2⟩
  · unfold fo1__law_alphabet range1M
    rw [bind_run, bind_run]
    simp -implicitDefEqProofs only [look, List.getElem?_cons_succ, List.getElem?_cons_zero, Option.bind_some, hr, if_true, pure_run]
    exact h1
  · have := h2.2.1; simp [rangeL] at this; omega
theorem az_nd : AZ.Nodup := by decide
theorem az_rg : ∀ c ∈ AZ, 97 ≤ c ∧ c ≤ 122 := by decide
theorem f26 : fits AZ.length = true := fits_of (by decide)
theorem f0 : fits 0 = true := fits_of (by decide)
theorem alphabet_run {d d' : PV} {many : Int} {F L : List Nat} {x : Option (Bool × PV)} (h0 : F ≠ []) (h1 : F.length < 60) (e : fo1__law_alphabet [some (true, d), some (false, .int many), some (true, .lst (AZ.map sign)), some (true, .lst []), none] =
    some (.nx, [some (true, d'), some (false, .int many), some (true, .lst (L.map sign)), some (true, .lst (F.map sign)), x])) :
    F__law_alphabet [d, .int many] = some ((false, .str ⟨⟨F.mergeSort fun a b => decide (a ≤ b)⟩⟩), [d']) := by
  have pm : (F.mergeSort fun a b => decide (a ≤ b)).Perm F := List.mergeSort_perm _ _
  have jn := joinP_sign (F.mergeSort fun a b => decide (a ≤ b)) (by rw [pm.length_eq]; omega)
  have st := sortedP_sign F h0 (by omega)
  simp -implicitDefEqProofs [F__law_alphabet, sem__law_alphabet, lit_az, lit_e, f26, f0, e, st, jn, bind_run, pure_run, lift_run, ite_run, bad_run, fnOf, runF, argE, seqM, ifM, asT, bin2, bin2v, un1, unL, asF, setM, setIxM, augIxM, augM, retM, giveM, dropM, look, take, put, frz1, ownsAny, owns, store, change, mutM, onL, isB, truM, truP, MC.notM, MC.andM, MC.orM, chain, tupM, lstM, consM, outs, callM, valM, slotM, argSlots, frzS, resolve, ioSlots, setIo, itemsM, itemsOf, PV.flat, strM, andV, orV, notV, slM, slMv, asInt, str_len, addP_ii, addP_ib, addP_ss, addP_ll, addP_tt, iaddP_ii, subP_ii, mulP_ii, mulP_si, fdivP_ii, modP_ii, negP_i, absP_i, intP_i, intP_b, ltP_ii, leP_ii, gtP_ii, geP_ii, ltP_ss, leP_ss, gtP_ss, geP_ss, eqP_ii, eqP_ss, neP_ii, neP_ss, isP_b, isNotP_b, inP_1, notInP_1, lenP_s, lenP_l, lenP_t, lenP_q, listP_s, listP_l, listP_t, tupleP_l, tupleP_t, ixP_l, ixP_t, ixP_q, ixP_s, atI_nat, atI_2, atI_3, atI_4, atI_0, atI_1, atI_last, setV_l, getV_l, ixN_nat, ixN_2, ixN_3, ixN_4, ixN_0, ixN_1, popP_n, appendP_1, extendP_l, slP_to, slP_from, MC.when, fl]
theorem sort_srt {F L : List Nat} (hp : (F ++ L).Perm AZ) : (F.mergeSort fun a b => decide (a ≤ b)).Pairwise (· < ·) := by
  have pm : (F.mergeSort fun a b => decide (a ≤ b)).Perm F := List.mergeSort_perm _ _
  have s1 := List.pairwise_mergeSort (le := fun a b : Nat => decide (a ≤ b)) (fun a b c h1 h2 => decide_eq_true (Nat.le_trans (of_decide_eq_true h1) (of_decide_eq_true h2))) (fun a b => by simp; omega) F
  have nd : (F.mergeSort fun a b => decide (a ≤ b)).Nodup := pm.nodup_iff.mpr (by
    have : (F ++ L).Nodup := hp.nodup_iff.mpr az_nd
    exact (List.nodup_append.mp this).1)
  refine (s1.and nd).imp fun h => ?_
  have h1 := of_decide_eq_true h.1
  have h2 := h.2
  omega
theorem alphabet_ok {d : PV} {many : Nat} (hd : IsDr d) (h0 : 0 < many) (hm : many ≤ 6) : ∃ (A : List Nat) (d' : PV), F__law_alphabet [d, .int many] = some ((false, .str ⟨⟨A⟩⟩), [d']) ∧ IsDr d' ∧ Al A many := by
  obtain ⟨d', F, L, x, e, hd', hF, hp⟩ := fo1_run (d0 := d) hd hm
  have pm : (F.mergeSort fun a b => decide (a ≤ b)).Perm F := List.mergeSort_perm _ _
  exact ⟨F.mergeSort fun a b => decide (a ≤ b), d', alphabet_run (by intro z; subst z; simp at hF; omega) (by omega) e, hd', ⟨by rw [pm.length_eq]; exact hF, sort_srt hp, fun c hc => az_rg c (hp.mem_iff.mp (List.mem_append_left _ (pm.mem_iff.mp hc)))⟩⟩
end MC.Law
set_option Elab.async false
set_option linter.all false
set_option maxRecDepth 100000
set_option maxHeartbeats 4000000
namespace MC.Law
open PySem
def ext (A : List Nat) (l : List (List Nat)) : List (List Nat) := l.flatMap fun w => A.map fun c => w ++ [c]
def wl (A : List Nat) : Nat → List (List Nat)
  | 0 => [[]]
  | n + 1 => ext A (wl A n)
def wu (A : List Nat) : Nat → List (List Nat)
  | 0 => wl A 0
  | n + 1 => wu A n ++ wl A (n + 1)
theorem ext_len (A : List Nat) (l : List (List Nat)) : (ext A l).length = l.length * A.length := by
  induction l with
  | nil => simp [ext]
  | cons a r ih =>
    unfold ext at ih ⊢
    rw [List.flatMap_cons, List.length_append, ih, List.length_map, List.length_cons, Nat.succ_mul, Nat.add_comm]
theorem wl_len {A : List Nat} : ∀ {n : Nat} {w : List Nat}, w ∈ wl A n → w.length = n
  | 0, w, h => by
    have : w = [] := by simpa [wl] using h
    subst this; rfl
  | n + 1, w, h => by
    unfold wl ext at h
    obtain ⟨v, hv, h2⟩ := List.mem_flatMap.mp h
    obtain ⟨c, _, rfl⟩ := List.mem_map.mp h2
    rw [List.length_append, wl_len hv]; rfl
def We (A : List Nat) (n : Int) (b : Bool) (l : List (List Nat)) (x3 : Option (Bool × PV)) : Env := [some (false, S A), some (false, .int n), some (b, .lst (l.map S)), x3, none, none]
theorem wol_lc {A : List Nat} {n : Int} {l : List (List Nat)} {x3 : Option (Bool × PV)} (hl : ∀ w ∈ l, w.length ≤ 100) (hs : l.length * A.length ≤ 1000) :
    lc1_words_of_length (We A n true l x3) = some ((true, .lst ((ext A l).map S)), We A n false l x3) := by
  have inner : ∀ w ∈ l, lcLoop [5] (put 5 false) (pure true) (asF (bin2v 4 (look 5) addP)) (A.map sign) [some (false, S A), some (false, .int n), some (false, .lst (l.map S)), x3, some (false, S w), none] =
      some (A.map fun c => S (w ++ [c]), [some (false, S A), some (false, .int n), some (false, .lst (l.map S)), x3, some (false, S w), none]) := fun w hw => by
    have hf : fits (w.length + 1) = true := fits_of (by have := hl w hw; omega)
    have := lcLoop_pure (vs := [5]) (h := put 5 false) (ft := pure true) (fe := asF (bin2v 4 (look 5) addP)) (ρ := [some (false, S A), some (false, .int n), some (false, .lst (l.map S)), x3, some (false, S w), none])
      (fun _ => true) (fun x => match x with
        | .str z => .str (⟨⟨w⟩⟩ ++ z)
        | x => x) (A.map sign) fun x hx => by
        obtain ⟨c, _, rfl⟩ := List.mem_map.mp hx
        refine ⟨_, rfl, fun _ => ⟨[some (false, S A), some (false, .int n), some (false, .lst (l.map S)), x3, some (false, S w), some (false, sign c)], ?_, rfl⟩, fun z => nomatch z⟩
        show asF _ [some (false, S A), some (false, .int n), some (false, .lst (l.map S)), x3, some (false, S w), some (false, .str ⟨⟨[c]⟩⟩)] = _
        simp -implicitDefEqProofs [hf, str_app, sign, bind_run, pure_run, lift_run, ite_run, bad_run, fnOf, runF, argE, seqM, ifM, asT, bin2, bin2v, un1, unL, asF, setM, setIxM, augIxM, augM, retM, giveM, dropM, look, take, put, frz1, ownsAny, owns, store, change, mutM, onL, isB, truM, truP, MC.notM, MC.andM, MC.orM, chain, tupM, lstM, consM, outs, callM, valM, slotM, argSlots, frzS, resolve, ioSlots, setIo, itemsM, itemsOf, PV.flat, strM, andV, orV, notV, slM, slMv, asInt, str_len, addP_ii, addP_ib, addP_ss, addP_ll, addP_tt, iaddP_ii, subP_ii, mulP_ii, mulP_si, fdivP_ii, modP_ii, negP_i, absP_i, intP_i, intP_b, ltP_ii, leP_ii, gtP_ii, geP_ii, ltP_ss, leP_ss, gtP_ss, geP_ss, eqP_ii, eqP_ss, neP_ii, neP_ss, isP_b, isNotP_b, inP_1, notInP_1, lenP_s, lenP_l, lenP_t, lenP_q, listP_s, listP_l, listP_t, tupleP_l, tupleP_t, ixP_l, ixP_t, ixP_q, ixP_s, atI_nat, atI_2, atI_3, atI_4, atI_0, atI_1, atI_last, setV_l, getV_l, ixN_nat, ixN_2, ixN_3, ixN_4, ixN_0, ixN_1, popP_n, appendP_1, extendP_l, slP_to, slP_from, MC.when, fl]
    rw [this, List.filter_eq_self.mpr (fun _ _ => rfl), List.map_map]
    congr 2
    refine List.map_congr_left fun c _ => ?_
    show PV.str (⟨⟨w⟩⟩ ++ ⟨⟨[c]⟩⟩) = _
    rw [str_app]
  have outer := lc2Loop_pure (vs := [4, 5]) (vs1 := [5]) (h := put 4 false) (ft := pure true) (fi1 := itemsM (take 0)) (h1 := put 5 false) (ft1 := pure true) (fe := asF (bin2v 4 (look 5) addP)) (ρ := We A n false l x3)
    (fun x => match x with
      | .str ⟨⟨w⟩⟩ => A.map fun c => S (w ++ [c])
      | _ => []) (l.map S) fun x hx => by
      obtain ⟨w, hw, rfl⟩ := List.mem_map.mp hx
      exact ⟨_, _, _, A.map sign, rfl, rfl, inner w hw, rfl⟩
  have e2 : (l.map S).flatMap (fun x => match x with
      | .str ⟨⟨w⟩⟩ => A.map fun c => S (w ++ [c])
      | _ => []) = (ext A l).map S := by
    unfold ext
    rw [List.flatMap_map, List.map_flatMap]
    congr 1; funext w
    rw [List.map_map]; rfl
  rw [e2] at outer
  unfold lc1_words_of_length lc2M
  refine bind_of (a := l.map S) (ρ' := We A n false l x3) rfl ?_
  refine bind_of (a := (ext A l).map S) (ρ' := We A n false l x3) ?_ ?_
  · exact within_run rfl outer rfl
  · exact lst_run (by rw [List.length_map, ext_len]; omega)
theorem wol_step {A : List Nat} {n : Int} {i : Nat} {x : PV} {x3 : Option (Bool × PV)} (hi : i ≤ 60) (hB : (wl A i).length * A.length ≤ 1000) : (put 3 false x >>= fun _ => bd1_words_of_length) (We A n true (wl A i) x3) = some (.nx, We A n true (wl A (i + 1)) (some (false, x))) := by
  refine bind_of (ρ' := We A n true (wl A i) (some (false, x))) rfl ?_
  unfold bd1_words_of_length setM
  refine bind_of (wol_lc (fun w hw => by rw [wl_len hw]; omega) hB) ?_
  rfl
theorem wol_loop {A : List Nat} {n : Nat} (hn : n ≤ 60) (hB : ∀ i, i < n → (wl A i).length * A.length ≤ 1000) : ∃ x3, forM (put 3 false) bd1_words_of_length (rangeL 0 n) (We A n true (wl A 0) none) = some (.nx, We A n true (wl A n) x3) := by
  obtain ⟨ρ', h1, x3, rfl⟩ := forM_inv (h := put 3 false) (f := bd1_words_of_length) (fun i ρ => ∃ x3, ρ = We A n true (wl A i) x3) (rangeL 0 n) 0 (We A n true (wl A 0) none) ⟨none, rfl⟩ (by
      rintro i x _ hx ⟨x3, rfl⟩
      obtain ⟨hi, rfl⟩ := range_get hx
      rw [Nat.zero_add]
      exact ⟨_, .inl (wol_step (by omega) (hB i hi)), ⟨_, rfl⟩⟩)
  rw [range_len, Nat.zero_add] at h1
  exact ⟨x3, h1⟩
theorem wol_fo {A : List Nat} {n : Nat} (hn : n ≤ 60) (hB : ∀ i, i < n → (wl A i).length * A.length ≤ 1000) : ∃ x3, fo1_words_of_length (We A n true (wl A 0) none) = some (.nx, We A n true (wl A n) x3) := by
  obtain ⟨x3, h1⟩ := wol_loop hn hB
  exact ⟨x3, for_range (ρ' := We A n true (wl A 0) none) rfl (by omega) h1⟩
theorem f1 : fits 1 = true := fits_of (by decide)
theorem wol_ok {A : List Nat} {n : Nat} (hn : n ≤ 60) (hB : ∀ i, i < n → (wl A i).length * A.length ≤ 1000) : F_words_of_length [S A, .int n] = some ((true, .lst ((wl A n).map S)), []) := by
  obtain ⟨x3, e⟩ := wol_fo hn hB
  have h0 : lstM (consM (pure (.str "")) (pure [])) [some (false, S A), some (false, .int n), none, none, none, none] = some ((true, .lst [S []]), [some (false, S A), some (false, .int n), none, none, none, none]) := by
    simp -implicitDefEqProofs [lit_e, f1, bind_run, pure_run, lift_run, ite_run, bad_run, fnOf, runF, argE, seqM, ifM, asT, bin2, bin2v, un1, unL, asF, setM, setIxM, augIxM, augM, retM, giveM, dropM, look, take, put, frz1, ownsAny, owns, store, change, mutM, onL, isB, truM, truP, MC.notM, MC.andM, MC.orM, chain, tupM, lstM, consM, outs, callM, valM, slotM, argSlots, frzS, resolve, ioSlots, setIo, itemsM, itemsOf, PV.flat, strM, andV, orV, notV, slM, slMv, asInt, str_len, addP_ii, addP_ib, addP_ss, addP_ll, addP_tt, iaddP_ii, subP_ii, mulP_ii, mulP_si, fdivP_ii, modP_ii, negP_i, absP_i, intP_i, intP_b, ltP_ii, leP_ii, gtP_ii, geP_ii, ltP_ss, leP_ss, gtP_ss, geP_ss, eqP_ii, eqP_ss, neP_ii, neP_ss, isP_b, isNotP_b, inP_1, notInP_1, lenP_s, lenP_l, lenP_t, lenP_q, listP_s, listP_l, listP_t, tupleP_l, tupleP_t, ixP_l, ixP_t, ixP_q, ixP_s, atI_nat, atI_2, atI_3, atI_4, atI_0, atI_1, atI_last, setV_l, getV_l, ixN_nat, ixN_2, ixN_3, ixN_4, ixN_0, ixN_1, popP_n, appendP_1, extendP_l, slP_to, slP_from, MC.when, fl]
  exact fn_run rfl rfl (seq_nx (set_run h0) (seq_nx e rfl)) rfl
end MC.Law
set_option Elab.async false
set_option linter.all false
set_option maxRecDepth 100000
set_option maxHeartbeats 4000000
namespace MC.Law
open PySem
/-- the words shorter than n -/
def wv (A : List Nat) : Nat → List (List Nat)
  | 0 => []
  | n + 1 => wv A n ++ wl A n
structure Bd (A : List Nat) (n : Nat) : Prop where
  m : n ≤ 50
  a : A.length ≤ 10
  w : ∀ i, i ≤ n → (wl A i).length ≤ 1000
  l : ∀ i, i < n → (wl A i).length * A.length ≤ 1000
  v : ∀ i, i ≤ n + 1 → (wv A i).length ≤ 1000
theorem Bd.le {A : List Nat} {n m : Nat} (h : Bd A n) (k : m ≤ n) : Bd A m := ⟨by have := h.m; omega, h.a, fun i hi => h.w i (by omega), fun i hi => h.l i (by omega), fun i hi => h.v i (by omega)⟩
theorem wut_ok {A : List Nat} {n : Nat} (B : Bd A n) : F_words_up_to [S A, .int n] = some ((true, .lst ((wv A (n + 1)).map S)), []) := by
  have hn := B.m
  have h0 : lstM (pure []) [some (false, S A), some (false, .int n), none, none] = some ((true, .lst []), [some (false, S A), some (false, .int n), none, none]) := by
    simp -implicitDefEqProofs [f0, bind_run, pure_run, lift_run, ite_run, bad_run, fnOf, runF, argE, seqM, ifM, asT, bin2, bin2v, un1, unL, asF, setM, setIxM, augIxM, augM, retM, giveM, dropM, look, take, put, frz1, ownsAny, owns, store, change, mutM, onL, isB, truM, truP, MC.notM, MC.andM, MC.orM, chain, tupM, lstM, consM, outs, callM, valM, slotM, argSlots, frzS, resolve, ioSlots, setIo, itemsM, itemsOf, PV.flat, strM, andV, orV, notV, slM, slMv, asInt, str_len, addP_ii, addP_ib, addP_ss, addP_ll, addP_tt, iaddP_ii, subP_ii, mulP_ii, mulP_si, fdivP_ii, modP_ii, negP_i, absP_i, intP_i, intP_b, ltP_ii, leP_ii, gtP_ii, geP_ii, ltP_ss, leP_ss, gtP_ss, geP_ss, eqP_ii, eqP_ss, neP_ii, neP_ss, isP_b, isNotP_b, inP_1, notInP_1, lenP_s, lenP_l, lenP_t, lenP_q, listP_s, listP_l, listP_t, tupleP_l, tupleP_t, ixP_l, ixP_t, ixP_q, ixP_s, atI_nat, atI_2, atI_3, atI_4, atI_0, atI_1, atI_last, setV_l, getV_l, ixN_nat, ixN_2, ixN_3, ixN_4, ixN_0, ixN_1, popP_n, appendP_1, extendP_l, slP_to, slP_from, MC.when, fl]
  obtain ⟨ρ', h1, x3, rfl⟩ := forM_inv (h := put 3 false) (f := bd1_words_up_to) (fun i ρ => ∃ x3, ρ = [some (false, S A), some (false, .int n), some (true, .lst ((wv A i).map S)), x3]) (rangeL 0 (n + 1 : Nat)) 0 [some (false, S A), some (false, .int n), some (true, .lst []), none] ⟨none, rfl⟩ (by
    rintro i x _ hx ⟨x3, rfl⟩
    obtain ⟨hi, rfl⟩ := range_get hx
    rw [Nat.zero_add]
    refine ⟨_, .inl ?_, ⟨some (false, .int i), rfl⟩⟩
    refine bind_of (ρ' := [some (false, S A), some (false, .int n), some (true, .lst ((wv A i).map S)), some (false, .int i)]) rfl ?_
    have e := wol_ok (A := A) (n := i) (by omega) (fun j hj => B.l j (by omega))
    have lx : ((wv A i).map S).length + ((wl A i).map S).length < 100000 := by
      have a1 := B.v i (by omega)
      have a2 := B.w i (by omega)
      rw [List.length_map, List.length_map]; omega
    have ex := extendP_l lx
    show _ = some (Fl.nx, [some (false, S A), some (false, .int n), some (true, .lst ((wv A i ++ wl A i).map S)), some (false, .int i)])
    rw [List.map_append]
    simp -implicitDefEqProofs [bd1_words_up_to, e, ex, bind_run, pure_run, lift_run, ite_run, bad_run, fnOf, runF, argE, seqM, ifM, asT, bin2, bin2v, un1, unL, asF, setM, setIxM, augIxM, augM, retM, giveM, dropM, look, take, put, frz1, ownsAny, owns, store, change, mutM, onL, isB, truM, truP, MC.notM, MC.andM, MC.orM, chain, tupM, lstM, consM, outs, callM, valM, slotM, argSlots, frzS, resolve, ioSlots, setIo, itemsM, itemsOf, PV.flat, strM, andV, orV, notV, slM, slMv, asInt, str_len, addP_ii, addP_ib, addP_ss, addP_ll, addP_tt, iaddP_ii, subP_ii, mulP_ii, mulP_si, fdivP_ii, modP_ii, negP_i, absP_i, intP_i, intP_b, ltP_ii, leP_ii, gtP_ii, geP_ii, ltP_ss, leP_ss, gtP_ss, geP_ss, eqP_ii, eqP_ss, neP_ii, neP_ss, isP_b, isNotP_b, inP_1, notInP_1, lenP_s, lenP_l, lenP_t, lenP_q, listP_s, listP_l, listP_t, tupleP_l, tupleP_t, ixP_l, ixP_t, ixP_q, ixP_s, atI_nat, atI_2, atI_3, atI_4, atI_0, atI_1, atI_last, setV_l, getV_l, ixN_nat, ixN_2, ixN_3, ixN_4, ixN_0, ixN_1, popP_n, appendP_1, extendP_l, slP_to, slP_from, MC.when, fl])
  rw [range_len, Nat.zero_add] at h1
  have h2 : asF (bin2v 1 (pure (.int 1)) addP) [some (false, S A), some (false, .int n), some (true, .lst []), none] = some (.int (n + 1 : Nat), [some (false, S A), some (false, .int n), some (true, .lst []), none]) := by
    simp -implicitDefEqProofs [bind_run, pure_run, lift_run, ite_run, bad_run, fnOf, runF, argE, seqM, ifM, asT, bin2, bin2v, un1, unL, asF, setM, setIxM, augIxM, augM, retM, giveM, dropM, look, take, put, frz1, ownsAny, owns, store, change, mutM, onL, isB, truM, truP, MC.notM, MC.andM, MC.orM, chain, tupM, lstM, consM, outs, callM, valM, slotM, argSlots, frzS, resolve, ioSlots, setIo, itemsM, itemsOf, PV.flat, strM, andV, orV, notV, slM, slMv, asInt, str_len, addP_ii, addP_ib, addP_ss, addP_ll, addP_tt, iaddP_ii, subP_ii, mulP_ii, mulP_si, fdivP_ii, modP_ii, negP_i, absP_i, intP_i, intP_b, ltP_ii, leP_ii, gtP_ii, geP_ii, ltP_ss, leP_ss, gtP_ss, geP_ss, eqP_ii, eqP_ss, neP_ii, neP_ss, isP_b, isNotP_b, inP_1, notInP_1, lenP_s, lenP_l, lenP_t, lenP_q, listP_s, listP_l, listP_t, tupleP_l, tupleP_t, ixP_l, ixP_t, ixP_q, ixP_s, atI_nat, atI_2, atI_3, atI_4, atI_0, atI_1, atI_last, setV_l, getV_l, ixN_nat, ixN_2, ixN_3, ixN_4, ixN_0, ixN_1, popP_n, appendP_1, extendP_l, slP_to, slP_from, MC.when, fl]
  exact fn_run rfl rfl (seq_nx (set_run h0) (seq_nx (for_range h2 (by omega) h1) rfl)) rfl

/-! the same list, made by the law itself -/
def Lw (A : List Nat) (n : Int) (x2 x3 x4 : Option (Bool × PV)) (fr : List (List Nat)) (x6 x7 : Option (Bool × PV)) : Env := [some (false, S A), some (false, .int n), x2, x3, x4, some (true, .lst (fr.map S)), x6, x7]
theorem lw1 {A : List Nat} {n : Int} {x2 x3 x4 x7 : Option (Bool × PV)} {fr : List (List Nat)} {w : List Nat} (hA : A.length ≤ 10) (hf : fr.length ≤ 1000) (hw : w.length ≤ 100) :
    ∃ x7', fo1__law_words (Lw A n x2 x3 x4 fr (some (false, S w)) x7) = some (.nx, Lw A n x2 x3 x4 (fr ++ A.map fun c => w ++ [c]) (some (false, S w)) x7') := by
  obtain ⟨ρ', h1, x7', rfl⟩ := forM_inv (h := put 7 false) (f := bd1__law_words) (fun i ρ => ∃ x7', ρ = Lw A n x2 x3 x4 (fr ++ (A.take i).map fun c => w ++ [c]) (some (false, S w)) x7') (A.map sign) 0 (Lw A n x2 x3 x4 fr (some (false, S w)) x7) ⟨x7, by simp⟩ (by
    rintro i x _ hx ⟨x7', rfl⟩
    rw [List.getElem?_map] at hx
    obtain ⟨c, hc, rfl⟩ := Option.map_eq_some_iff.mp hx
    have hi : i < A.length := (List.getElem?_eq_some_iff.mp hc).1
    rw [Nat.zero_add]
    refine ⟨_, .inl ?_, ⟨some (false, sign c), rfl⟩⟩
    refine bind_of (ρ' := Lw A n x2 x3 x4 (fr ++ (A.take i).map fun c => w ++ [c]) (some (false, S w)) (some (false, .str ⟨⟨[c]⟩⟩))) rfl ?_
    have hF : fits (w.length + 1) = true := fits_of (by omega)
    have ha := appendP_1 (xs := (fr ++ (A.take i).map fun c => w ++ [c]).map S) (x := S (w ++ [c])) (by rw [List.length_map, List.length_append, List.length_map, List.length_take]; omega)
    have e2 : (fr ++ (A.take (i + 1)).map fun c => w ++ [c]).map S = (fr ++ (A.take i).map fun c => w ++ [c]).map S ++ [S (w ++ [c])] := by
      rw [List.take_add_one, hc]; simp
    unfold Lw
    rw [e2]
    generalize (fr ++ (A.take i).map fun c => w ++ [c]).map S = Z at ha ⊢
    simp -implicitDefEqProofs [bd1__law_words, hF, ha, sign, bind_run, pure_run, lift_run, ite_run, bad_run, fnOf, runF, argE, seqM, ifM, asT, bin2, bin2v, un1, unL, asF, setM, setIxM, augIxM, augM, retM, giveM, dropM, look, take, put, frz1, ownsAny, owns, store, change, mutM, onL, isB, truM, truP, MC.notM, MC.andM, MC.orM, chain, tupM, lstM, consM, outs, callM, valM, slotM, argSlots, frzS, resolve, ioSlots, setIo, itemsM, itemsOf, PV.flat, strM, andV, orV, notV, slM, slMv, asInt, str_len, addP_ii, addP_ib, addP_ss, addP_ll, addP_tt, iaddP_ii, subP_ii, mulP_ii, mulP_si, fdivP_ii, modP_ii, negP_i, absP_i, intP_i, intP_b, ltP_ii, leP_ii, gtP_ii, geP_ii, ltP_ss, leP_ss, gtP_ss, geP_ss, eqP_ii, eqP_ss, neP_ii, neP_ss, isP_b, isNotP_b, inP_1, notInP_1, lenP_s, lenP_l, lenP_t, lenP_q, listP_s, listP_l, listP_t, tupleP_l, tupleP_t, ixP_l, ixP_t, ixP_q, ixP_s, atI_nat, atI_2, atI_3, atI_4, atI_0, atI_1, atI_last, setV_l, getV_l, ixN_nat, ixN_2, ixN_3, ixN_4, ixN_0, ixN_1, popP_n, appendP_1, extendP_l, slP_to, slP_from, MC.when, fl])
  refine ⟨x7', ?_⟩
  rw [Nat.zero_add, List.length_map, List.take_length] at h1
  unfold fo1__law_words
  exact bind_of (ρ' := Lw A n x2 x3 x4 fr (some (false, S w)) x7) rfl h1
theorem lw2 {A : List Nat} {n : Int} {b : Bool} {l : List (List Nat)} {x3 x4 x6 x7 : Option (Bool × PV)} (hA : A.length ≤ 10) (hl : l.length * A.length ≤ 900) (hw : ∀ w ∈ l, w.length ≤ 100) :
    ∃ x6' x7', fo2__law_words (Lw A n (some (b, .lst (l.map S))) x3 x4 [] x6 x7) = some (.nx, Lw A n (some (false, .lst (l.map S))) x3 x4 (ext A l) x6' x7') := by
  obtain ⟨ρ', h1, x6', x7', rfl⟩ := forM_inv (h := put 6 false) (f := bd2__law_words) (fun i ρ => ∃ x6' x7', ρ = Lw A n (some (false, .lst (l.map S))) x3 x4 (ext A (l.take i)) x6' x7') (l.map S) 0 (Lw A n (some (false, .lst (l.map S))) x3 x4 [] x6 x7) ⟨x6, x7, by simp [ext]⟩ (by
    rintro i x _ hx ⟨x6', x7', rfl⟩
    rw [List.getElem?_map] at hx
    obtain ⟨w, hc, rfl⟩ := Option.map_eq_some_iff.mp hx
    have hi : i < l.length := (List.getElem?_eq_some_iff.mp hc).1
    rw [Nat.zero_add]
    have hm : w ∈ l := List.mem_of_getElem? hc
    have le : (ext A (l.take i)).length ≤ 1000 := by
      rw [ext_len, List.length_take, Nat.min_eq_left (by omega)]
      have := Nat.mul_le_mul_right A.length (Nat.le_of_lt hi)
      omega
    obtain ⟨x7'', e⟩ := lw1 (A := A) (n := n) (x2 := some (false, .lst (l.map S))) (x3 := x3) (x4 := x4) (x7 := x7') (fr := ext A (l.take i)) (w := w) hA le (hw w hm)
    have e2 : ext A (l.take (i + 1)) = ext A (l.take i) ++ A.map fun c => w ++ [c] := by
      unfold ext
      rw [List.take_add_one, hc]; simp
    rw [← e2] at e
    exact ⟨_, .inl (bind_of rfl e), ⟨_, _, rfl⟩⟩)
  refine ⟨x6', x7', ?_⟩
  rw [Nat.zero_add, List.length_map, List.take_length] at h1
  unfold fo2__law_words
  refine bind_of (ρ' := Lw A n (some (false, .lst (l.map S))) x3 x4 [] x6 x7) ?_ h1
  cases b <;> rfl
theorem lw_ok {A : List Nat} {n : Nat} (B : Bd A n) (hB : ∀ i, i < n → (wl A i).length * A.length ≤ 900) : F__law_words [S A, .int n] = some ((true, .lst ((wv A (n + 1)).map S)), []) := by
  have hn := B.m
  have h0 : ∀ x2 : Option (Bool × PV), lstM (consM (pure (.str "")) (pure [])) [some (false, S A), some (false, .int n), x2, none, none, none, none, none] = some ((true, .lst [S []]), [some (false, S A), some (false, .int n), x2, none, none, none, none, none]) := fun x2 => by
    simp -implicitDefEqProofs [lit_e, f1, bind_run, pure_run, lift_run, ite_run, bad_run, fnOf, runF, argE, seqM, ifM, asT, bin2, bin2v, un1, unL, asF, setM, setIxM, augIxM, augM, retM, giveM, dropM, look, take, put, frz1, ownsAny, owns, store, change, mutM, onL, isB, truM, truP, MC.notM, MC.andM, MC.orM, chain, tupM, lstM, consM, outs, callM, valM, slotM, argSlots, frzS, resolve, ioSlots, setIo, itemsM, itemsOf, PV.flat, strM, andV, orV, notV, slM, slMv, asInt, str_len, addP_ii, addP_ib, addP_ss, addP_ll, addP_tt, iaddP_ii, subP_ii, mulP_ii, mulP_si, fdivP_ii, modP_ii, negP_i, absP_i, intP_i, intP_b, ltP_ii, leP_ii, gtP_ii, geP_ii, ltP_ss, leP_ss, gtP_ss, geP_ss, eqP_ii, eqP_ss, neP_ii, neP_ss, isP_b, isNotP_b, inP_1, notInP_1, lenP_s, lenP_l, lenP_t, lenP_q, listP_s, listP_l, listP_t, tupleP_l, tupleP_t, ixP_l, ixP_t, ixP_q, ixP_s, atI_nat, atI_2, atI_3, atI_4, atI_0, atI_1, atI_last, setV_l, getV_l, ixN_nat, ixN_2, ixN_3, ixN_4, ixN_0, ixN_1, popP_n, appendP_1, extendP_l, slP_to, slP_from, MC.when, fl]
  obtain ⟨ρ', h1, x2, x4, x5, x6, x7, rfl⟩ := forM_inv (h := put 4 false) (f := bd3__law_words) (fun i ρ => ∃ b x4 x5 x6 x7, ρ = [some (false, S A), some (false, .int n), some (b, .lst ((wl A i).map S)), some (true, .lst ((wv A (i + 1)).map S)), x4, x5, x6, x7]) (rangeL 0 n) 0
    [some (false, S A), some (false, .int n), some (true, .lst [S []]), some (true, .lst [S []]), none, none, none, none] ⟨true, none, none, none, none, rfl⟩ (by
    rintro i x _ hx ⟨b, x4, x5, x6, x7, rfl⟩
    obtain ⟨hi, rfl⟩ := range_get hx
    rw [Nat.zero_add]
    obtain ⟨x6', x7', e⟩ := lw2 (A := A) (n := n) (b := b) (l := wl A i) (x3 := some (true, .lst ((wv A (i + 1)).map S))) (x4 := some (false, .int i)) (x6 := x6) (x7 := x7) B.a (hB i hi) (fun w hw => by rw [wl_len hw]; omega)
    refine ⟨_, .inl ?_, ⟨false, some (false, .int i), some (false, .lst ((wl A (i + 1)).map S)), x6', x7', rfl⟩⟩
    refine bind_of (ρ' := [some (false, S A), some (false, .int n), some (b, .lst ((wl A i).map S)), some (true, .lst ((wv A (i + 1)).map S)), some (false, .int i), x5, x6, x7]) rfl ?_
    have h2 : lstM (pure []) [some (false, S A), some (false, .int n), some (b, .lst ((wl A i).map S)), some (true, .lst ((wv A (i + 1)).map S)), some (false, .int i), x5, x6, x7] = some ((true, .lst []), [some (false, S A), some (false, .int n), some (b, .lst ((wl A i).map S)), some (true, .lst ((wv A (i + 1)).map S)), some (false, .int i), x5, x6, x7]) := by
      simp -implicitDefEqProofs [f0, bind_run, pure_run, lift_run, ite_run, bad_run, fnOf, runF, argE, seqM, ifM, asT, bin2, bin2v, un1, unL, asF, setM, setIxM, augIxM, augM, retM, giveM, dropM, look, take, put, frz1, ownsAny, owns, store, change, mutM, onL, isB, truM, truP, MC.notM, MC.andM, MC.orM, chain, tupM, lstM, consM, outs, callM, valM, slotM, argSlots, frzS, resolve, ioSlots, setIo, itemsM, itemsOf, PV.flat, strM, andV, orV, notV, slM, slMv, asInt, str_len, addP_ii, addP_ib, addP_ss, addP_ll, addP_tt, iaddP_ii, subP_ii, mulP_ii, mulP_si, fdivP_ii, modP_ii, negP_i, absP_i, intP_i, intP_b, ltP_ii, leP_ii, gtP_ii, geP_ii, ltP_ss, leP_ss, gtP_ss, geP_ss, eqP_ii, eqP_ss, neP_ii, neP_ss, isP_b, isNotP_b, inP_1, notInP_1, lenP_s, lenP_l, lenP_t, lenP_q, listP_s, listP_l, listP_t, tupleP_l, tupleP_t, ixP_l, ixP_t, ixP_q, ixP_s, atI_nat, atI_2, atI_3, atI_4, atI_0, atI_1, atI_last, setV_l, getV_l, ixN_nat, ixN_2, ixN_3, ixN_4, ixN_0, ixN_1, popP_n, appendP_1, extendP_l, slP_to, slP_from, MC.when, fl]
    unfold bd3__law_words
    refine seq_nx (set_run h2) (seq_nx e (seq_nx (ρ' := [some (false, S A), some (false, .int n), some (false, .lst ((wl A (i + 1)).map S)), some (true, .lst ((wv A (i + 1)).map S)), some (false, .int i), some (false, .lst ((wl A (i + 1)).map S)), x6', x7']) rfl ?_))
    have hF : fits (((wv A (i + 1)).map S).length + ((wl A (i + 1)).map S).length) = true := fits_of (by
      have a1 := B.v (i + 1) (by omega)
      have a2 := B.w (i + 1) (by omega)
      rw [List.length_map, List.length_map]; omega)
    have ad := addP_ll hF
    show _ = some (Fl.nx, [some (false, S A), some (false, .int n), some (false, .lst ((wl A (i + 1)).map S)), some (true, .lst ((wv A (i + 1) ++ wl A (i + 1)).map S)), some (false, .int i), some (false, .lst ((wl A (i + 1)).map S)), x6', x7'])
    rw [List.map_append]
    generalize (wv A (i + 1)).map S = Z1 at ad ⊢
    generalize (wl A (i + 1)).map S = Z2 at ad ⊢
    refine set_run (x := (true, .lst (Z1 ++ Z2))) (ρ' := [some (false, S A), some (false, .int n), some (false, .lst Z2), some (true, .lst Z1), some (false, .int i), some (false, .lst Z2), x6', x7']) ?_
    simp -implicitDefEqProofs [ad, bind_run, pure_run, lift_run, ite_run, bad_run, fnOf, runF, argE, seqM, ifM, asT, bin2, bin2v, un1, unL, asF, setM, setIxM, augIxM, augM, retM, giveM, dropM, look, take, put, frz1, ownsAny, owns, store, change, mutM, onL, isB, truM, truP, MC.notM, MC.andM, MC.orM, chain, tupM, lstM, consM, outs, callM, valM, slotM, argSlots, frzS, resolve, ioSlots, setIo, itemsM, itemsOf, PV.flat, strM, andV, orV, notV, slM, slMv, asInt, str_len, addP_ii, addP_ib, addP_ss, addP_ll, addP_tt, iaddP_ii, subP_ii, mulP_ii, mulP_si, fdivP_ii, modP_ii, negP_i, absP_i, intP_i, intP_b, ltP_ii, leP_ii, gtP_ii, geP_ii, ltP_ss, leP_ss, gtP_ss, geP_ss, eqP_ii, eqP_ss, neP_ii, neP_ss, isP_b, isNotP_b, inP_1, notInP_1, lenP_s, lenP_l, lenP_t, lenP_q, listP_s, listP_l, listP_t, tupleP_l, tupleP_t, ixP_l, ixP_t, ixP_q, ixP_s, atI_nat, atI_2, atI_3, atI_4, atI_0, atI_1, atI_last, setV_l, getV_l, ixN_nat, ixN_2, ixN_3, ixN_4, ixN_0, ixN_1, popP_n, appendP_1, extendP_l, slP_to, slP_from, MC.when, fl])
  rw [range_len, Nat.zero_add] at h1
  exact fn_run rfl rfl (seq_nx (set_run (h0 _)) (seq_nx (set_run (h0 _)) (seq_nx (for_range rfl (by omega) h1) rfl))) rfl
end MC.Law
set_option Elab.async false
set_option linter.all false
set_option maxRecDepth 100000
set_option maxHeartbeats 4000000
namespace MC.Law
open PySem
theorem isi_of {T U : String} {x : PV} {b : Bool} (hu : tyName x = U) (hd : U ≠ "dict") (h : L2.kitB U T = some b) : isiM T x = some (false, .bl b) := by
  unfold isiM isiP
  rw [hu, if_neg hd, h]; rfl
theorem isi_ss (x : Str) : isiM "str" (.str x) = some (false, .bl true) := isi_of (U := "str") rfl (by decide) (by decide +kernel)
theorem isi_si (x : Int) : isiM "str" (.int x) = some (false, .bl false) := isi_of (U := "int") rfl (by decide) (by decide +kernel)
theorem isi_st (x : List PV) : isiM "str" (.tup x) = some (false, .bl false) := isi_of (U := "tuple") rfl (by decide) (by decide +kernel)
theorem isi_ll (x : List PV) : isiM "list" (.lst x) = some (false, .bl true) := isi_of (U := "list") rfl (by decide) (by decide +kernel)
theorem isi_ii (x : Int) : isiM "int" (.int x) = some (false, .bl true) := isi_of (U := "int") rfl (by decide) (by decide +kernel)
theorem isi_bi (x : Int) : isiM "bool" (.int x) = some (false, .bl false) := isi_of (U := "int") rfl (by decide) (by decide +kernel)
theorem isi_tt (x : List PV) : isiM "tuple" (.tup x) = some (false, .bl true) := isi_of (U := "tuple") rfl (by decide) (by decide +kernel)
theorem is_text {a b : List Nat} (ha : low a = true) (hb : low b = true) : F__law_is_text [S a, S b] = some ((false, .bl (decide (a = b))), []) := by
  refine fn_run rfl rfl (ρ := [some (false, S a), some (false, S b)]) (ret_run ?_) rfl
  simp -implicitDefEqProofs [isi_ss, ha, hb, bind_run, pure_run, lift_run, ite_run, bad_run, fnOf, runF, argE, seqM, ifM, asT, bin2, bin2v, un1, unL, asF, setM, setIxM, augIxM, augM, retM, giveM, dropM, look, take, put, frz1, ownsAny, owns, store, change, mutM, onL, isB, truM, truP, MC.notM, MC.andM, MC.orM, chain, tupM, lstM, consM, outs, callM, valM, slotM, argSlots, frzS, resolve, ioSlots, setIo, itemsM, itemsOf, PV.flat, strM, andV, orV, notV, slM, slMv, asInt, str_len, addP_ii, addP_ib, addP_ss, addP_ll, addP_tt, iaddP_ii, subP_ii, mulP_ii, mulP_si, fdivP_ii, modP_ii, negP_i, absP_i, intP_i, intP_b, ltP_ii, leP_ii, gtP_ii, geP_ii, ltP_ss, leP_ss, gtP_ss, geP_ss, eqP_ii, eqP_ss, neP_ii, neP_ss, isP_b, isNotP_b, inP_1, notInP_1, lenP_s, lenP_l, lenP_t, lenP_q, listP_s, listP_l, listP_t, tupleP_l, tupleP_t, ixP_l, ixP_t, ixP_q, ixP_s, atI_nat, atI_2, atI_3, atI_4, atI_0, atI_1, atI_last, setV_l, getV_l, ixN_nat, ixN_2, ixN_3, ixN_4, ixN_0, ixN_1, popP_n, appendP_1, extendP_l, slP_to, slP_from, MC.when, fl]
theorem is_int (i : Int) : F__law_is_int [.int i] = some ((false, .bl true), []) := by
  refine fn_run rfl rfl (ρ := [some (false, .int i)]) (ret_run ?_) rfl
  simp -implicitDefEqProofs [isi_ii, isi_bi, bind_run, pure_run, lift_run, ite_run, bad_run, fnOf, runF, argE, seqM, ifM, asT, bin2, bin2v, un1, unL, asF, setM, setIxM, augIxM, augM, retM, giveM, dropM, look, take, put, frz1, ownsAny, owns, store, change, mutM, onL, isB, truM, truP, MC.notM, MC.andM, MC.orM, chain, tupM, lstM, consM, outs, callM, valM, slotM, argSlots, frzS, resolve, ioSlots, setIo, itemsM, itemsOf, PV.flat, strM, andV, orV, notV, slM, slMv, asInt, str_len, addP_ii, addP_ib, addP_ss, addP_ll, addP_tt, iaddP_ii, subP_ii, mulP_ii, mulP_si, fdivP_ii, modP_ii, negP_i, absP_i, intP_i, intP_b, ltP_ii, leP_ii, gtP_ii, geP_ii, ltP_ss, leP_ss, gtP_ss, geP_ss, eqP_ii, eqP_ss, neP_ii, neP_ss, isP_b, isNotP_b, inP_1, notInP_1, lenP_s, lenP_l, lenP_t, lenP_q, listP_s, listP_l, listP_t, tupleP_l, tupleP_t, ixP_l, ixP_t, ixP_q, ixP_s, atI_nat, atI_2, atI_3, atI_4, atI_0, atI_1, atI_last, setV_l, getV_l, ixN_nat, ixN_2, ixN_3, ixN_4, ixN_0, ixN_1, popP_n, appendP_1, extendP_l, slP_to, slP_from, MC.when, fl]
theorem is_number (i j : Int) : F__law_is_number [.int i, .int j] = some ((false, .bl (decide (i = j))), []) := by
  refine fn_run rfl rfl (ρ := [some (false, .int i), some (false, .int j)]) (ret_run ?_) rfl
  have := is_int i
  simp -implicitDefEqProofs [this, bind_run, pure_run, lift_run, ite_run, bad_run, fnOf, runF, argE, seqM, ifM, asT, bin2, bin2v, un1, unL, asF, setM, setIxM, augIxM, augM, retM, giveM, dropM, look, take, put, frz1, ownsAny, owns, store, change, mutM, onL, isB, truM, truP, MC.notM, MC.andM, MC.orM, chain, tupM, lstM, consM, outs, callM, valM, slotM, argSlots, frzS, resolve, ioSlots, setIo, itemsM, itemsOf, PV.flat, strM, andV, orV, notV, slM, slMv, asInt, str_len, addP_ii, addP_ib, addP_ss, addP_ll, addP_tt, iaddP_ii, subP_ii, mulP_ii, mulP_si, fdivP_ii, modP_ii, negP_i, absP_i, intP_i, intP_b, ltP_ii, leP_ii, gtP_ii, geP_ii, ltP_ss, leP_ss, gtP_ss, geP_ss, eqP_ii, eqP_ss, neP_ii, neP_ss, isP_b, isNotP_b, inP_1, notInP_1, lenP_s, lenP_l, lenP_t, lenP_q, listP_s, listP_l, listP_t, tupleP_l, tupleP_t, ixP_l, ixP_t, ixP_q, ixP_s, atI_nat, atI_2, atI_3, atI_4, atI_0, atI_1, atI_last, setV_l, getV_l, ixN_nat, ixN_2, ixN_3, ixN_4, ixN_0, ixN_1, popP_n, appendP_1, extendP_l, slP_to, slP_from, MC.when, fl]
theorem blsOf_true {α : Type} (xs : List α) : blsOf (xs.map fun _ => PV.bl true) = some (xs.map fun _ => true) := by
  induction xs with
  | nil => rfl
  | cons a r ih => show (blsOf (r.map fun _ => PV.bl true)).map _ = _; rw [ih]; rfl
theorem allP_true {α : Type} (xs : List α) : allP (.lst (xs.map fun _ => PV.bl true)) = some (false, .bl true) := by
  unfold allP
  simp only [blsOf_true, Option.bind_some]
  have : (xs.map fun _ => true).all id = true := by simp
  rw [this]; rfl
theorem are_texts {t : List (List Nat)} (ht : t.length ≤ 1000) (hl : ∀ w ∈ t, low w = true) : F__law_are_texts [.lst (t.map S), .lst (t.map S)] = some ((false, .bl true), []) := by
  have c1 : (MC.orM (MC.notM (truM (asF (un1 (look 0) (isiM "list"))))) (asT (bin2 (asF (un1 (look 0) lenP)) (asF (un1 (look 1) lenP)) neP))) [some (false, .lst (t.map S)), some (false, .lst (t.map S)), none] = some (false, [some (false, .lst (t.map S)), some (false, .lst (t.map S)), none]) := by
    generalize t.map S = Z
    simp -implicitDefEqProofs [isi_ll, bind_run, pure_run, lift_run, ite_run, bad_run, fnOf, runF, argE, seqM, ifM, asT, bin2, bin2v, un1, unL, asF, setM, setIxM, augIxM, augM, retM, giveM, dropM, look, take, put, frz1, ownsAny, owns, store, change, mutM, onL, isB, truM, truP, MC.notM, MC.andM, MC.orM, chain, tupM, lstM, consM, outs, callM, valM, slotM, argSlots, frzS, resolve, ioSlots, setIo, itemsM, itemsOf, PV.flat, strM, andV, orV, notV, slM, slMv, asInt, str_len, addP_ii, addP_ib, addP_ss, addP_ll, addP_tt, iaddP_ii, subP_ii, mulP_ii, mulP_si, fdivP_ii, modP_ii, negP_i, absP_i, intP_i, intP_b, ltP_ii, leP_ii, gtP_ii, geP_ii, ltP_ss, leP_ss, gtP_ss, geP_ss, eqP_ii, eqP_ss, neP_ii, neP_ss, isP_b, isNotP_b, inP_1, notInP_1, lenP_s, lenP_l, lenP_t, lenP_q, listP_s, listP_l, listP_t, tupleP_l, tupleP_t, ixP_l, ixP_t, ixP_q, ixP_s, atI_nat, atI_2, atI_3, atI_4, atI_0, atI_1, atI_last, setV_l, getV_l, ixN_nat, ixN_2, ixN_3, ixN_4, ixN_0, ixN_1, popP_n, appendP_1, extendP_l, slP_to, slP_from, MC.when, fl]
  have c2 : lc1__law_are_texts [some (false, .lst (t.map S)), some (false, .lst (t.map S)), none] = some ((true, .lst ((rangeL 0 t.length).map fun _ => .bl true)), [some (false, .lst (t.map S)), some (false, .lst (t.map S)), none]) := by
    have lp := lcLoop_pure (vs := [2]) (h := put 2 false) (ft := pure true) (fe := asF (callM [] F__law_is_text (valM (asF (bin2v 0 (look 2) ixP)) (valM (asF (bin2v 1 (look 2) ixP)) (pure [])))))
      (ρ := [some (false, .lst (t.map S)), some (false, .lst (t.map S)), none]) (fun _ => true) (fun _ => PV.bl true) (rangeL 0 t.length) fun x hx => by
        obtain ⟨i, hi⟩ := List.getElem?_of_mem hx
        obtain ⟨h1, rfl⟩ := range_get hi
        refine ⟨_, rfl, fun _ => ⟨[some (false, .lst (t.map S)), some (false, .lst (t.map S)), some (false, .int i)], ?_, rfl⟩, fun z => nomatch z⟩
        have hw := hl t[i] (List.getElem_mem h1)
        have e1 : L2.atI (t.map S) (i : Int) = some (S t[i]) := by rw [atI_nat]; simp [h1]
        have e2 := is_text hw hw
        rw [decide_eq_true rfl] at e2
        generalize t.map S = Z at e1 ⊢
        show asF _ [some (false, .lst Z), some (false, .lst Z), some (false, .int i)] = _
        simp -implicitDefEqProofs [e1, e2, bind_run, pure_run, lift_run, asF, callM, valM, bin2v, look, ixP_l, resolve, ioSlots, argSlots, frzS, PV.flat]
    rw [List.filter_eq_self.mpr (fun _ _ => rfl)] at lp
    have hr : asF (un1 (look 1) lenP) [some (false, .lst (t.map S)), some (false, .lst (t.map S)), none] = some (.int t.length, [some (false, .lst (t.map S)), some (false, .lst (t.map S)), none]) := by
      have := List.length_map (as := t) S
      generalize t.map S = Z at this ⊢
      simp -implicitDefEqProofs [this, bind_run, pure_run, lift_run, ite_run, bad_run, fnOf, runF, argE, seqM, ifM, asT, bin2, bin2v, un1, unL, asF, setM, setIxM, augIxM, augM, retM, giveM, dropM, look, take, put, frz1, ownsAny, owns, store, change, mutM, onL, isB, truM, truP, MC.notM, MC.andM, MC.orM, chain, tupM, lstM, consM, outs, callM, valM, slotM, argSlots, frzS, resolve, ioSlots, setIo, itemsM, itemsOf, PV.flat, strM, andV, orV, notV, slM, slMv, asInt, str_len, addP_ii, addP_ib, addP_ss, addP_ll, addP_tt, iaddP_ii, subP_ii, mulP_ii, mulP_si, fdivP_ii, modP_ii, negP_i, absP_i, intP_i, intP_b, ltP_ii, leP_ii, gtP_ii, geP_ii, ltP_ss, leP_ss, gtP_ss, geP_ss, eqP_ii, eqP_ss, neP_ii, neP_ss, isP_b, isNotP_b, inP_1, notInP_1, lenP_s, lenP_l, lenP_t, lenP_q, listP_s, listP_l, listP_t, tupleP_l, tupleP_t, ixP_l, ixP_t, ixP_q, ixP_s, atI_nat, atI_2, atI_3, atI_4, atI_0, atI_1, atI_last, setV_l, getV_l, ixN_nat, ixN_2, ixN_3, ixN_4, ixN_0, ixN_1, popP_n, appendP_1, extendP_l, slP_to, slP_from, MC.when, fl]
    unfold lc1__law_are_texts lcM
    refine bind_of (range1_run hr (by omega)) (bind_of (within_run rfl lp rfl) (lst_run (by rw [List.length_map, range_len]; omega)))
  have c3 := allP_true (rangeL 0 t.length)
  refine fn_run rfl rfl (ρ := [some (false, .lst (t.map S)), some (false, .lst (t.map S)), none]) (seq_nx (if_f c1 rfl) (ret_run (x := (false, .bl true)) ?_)) rfl
  generalize (rangeL 0 t.length).map (fun _ => PV.bl true) = Y at c2 c3
  generalize t.map S = Z at c2 ⊢
  simp -implicitDefEqProofs [c2, c3, bind_run, pure_run, lift_run, ite_run, bad_run, fnOf, runF, argE, seqM, ifM, asT, bin2, bin2v, un1, unL, asF, setM, setIxM, augIxM, augM, retM, giveM, dropM, look, take, put, frz1, ownsAny, owns, store, change, mutM, onL, isB, truM, truP, MC.notM, MC.andM, MC.orM, chain, tupM, lstM, consM, outs, callM, valM, slotM, argSlots, frzS, resolve, ioSlots, setIo, itemsM, itemsOf, PV.flat, strM, andV, orV, notV, slM, slMv, asInt, str_len, addP_ii, addP_ib, addP_ss, addP_ll, addP_tt, iaddP_ii, subP_ii, mulP_ii, mulP_si, fdivP_ii, modP_ii, negP_i, absP_i, intP_i, intP_b, ltP_ii, leP_ii, gtP_ii, geP_ii, ltP_ss, leP_ss, gtP_ss, geP_ss, eqP_ii, eqP_ss, neP_ii, neP_ss, isP_b, isNotP_b, inP_1, notInP_1, lenP_s, lenP_l, lenP_t, lenP_q, listP_s, listP_l, listP_t, tupleP_l, tupleP_t, ixP_l, ixP_t, ixP_q, ixP_s, atI_nat, atI_2, atI_3, atI_4, atI_0, atI_1, atI_last, setV_l, getV_l, ixN_nat, ixN_2, ixN_3, ixN_4, ixN_0, ixN_1, popP_n, appendP_1, extendP_l, slP_to, slP_from, MC.when, fl]
end MC.Law
set_option Elab.async false
set_option linter.all false
set_option maxRecDepth 100000
set_option maxHeartbeats 4000000
namespace MC.Law
open PySem
theorem wl_mem {A : List Nat} : ∀ {n : Nat} {w : List Nat}, w ∈ wl A n → ∀ c ∈ w, c ∈ A
  | 0, w, h, c, hc => by
    have : w = [] := by simpa [wl] using h
    subst this; cases hc
  | n + 1, w, h, c, hc => by
    unfold wl ext at h
    obtain ⟨v, hv, h2⟩ := List.mem_flatMap.mp h
    obtain ⟨d, hd, rfl⟩ := List.mem_map.mp h2
    rcases List.mem_append.mp hc with h3 | h3
    · exact wl_mem hv c h3
    · rw [List.mem_singleton.mp h3]; exact hd
theorem wv_mem {A : List Nat} : ∀ {n : Nat} {w : List Nat}, w ∈ wv A n → ∃ k, k < n ∧ w ∈ wl A k
  | n + 1, w, h => by
    unfold wv at h
    rcases List.mem_append.mp h with h | h
    · obtain ⟨k, hk, h2⟩ := wv_mem h; exact ⟨k, by omega, h2⟩
    · exact ⟨n, by omega, h⟩
theorem Al.low {A : List Nat} {m : Nat} (a : Al A m) {w : List Nat} (h : ∀ c ∈ w, c ∈ A) : low w = true := by
  unfold MC.low
  rw [List.all_eq_true]
  intro c hc
  have := a.rg c (h c hc)
  exact decide_eq_true (by omega)
theorem wv_low {A : List Nat} {m n : Nat} (a : Al A m) {w : List Nat} (h : w ∈ wv A n) : MC.low w = true := by
  obtain ⟨k, _, h⟩ := wv_mem h
  exact a.low (wl_mem h)
theorem wv_le (A : List Nat) (k : Nat) : ∀ n, (wv A (n + 1)).filter (fun w => decide (w.length ≤ k)) = wv A (min n k + 1)
  | 0 => by
    rw [Nat.zero_min]
    show ([] ++ [[]] : List (List Nat)).filter _ = [] ++ [[]]
    simp
  | n + 1 => by
    have ih := wv_le A k n
    show (wv A (n + 1) ++ wl A (n + 1)).filter _ = _
    rw [List.filter_append, ih]
    by_cases h : n + 1 ≤ k
    · have e1 : (wl A (n + 1)).filter (fun w => decide (w.length ≤ k)) = wl A (n + 1) := List.filter_eq_self.mpr fun w hw => decide_eq_true (by rw [wl_len hw]; exact h)
      rw [e1, Nat.min_eq_left (by omega), Nat.min_eq_left (by omega)]
      rfl
    · have e1 : (wl A (n + 1)).filter (fun w => decide (w.length ≤ k)) = [] := List.filter_eq_nil_iff.mpr fun w hw => by rw [wl_len hw]; simpa using h
      rw [e1, Nat.min_eq_right (by omega), Nat.min_eq_right (by omega), List.append_nil]
theorem wv_eq (A : List Nat) (k : Nat) : ∀ n, (wv A n).filter (fun w => decide (w.length = k)) = if k < n then wl A k else []
  | 0 => rfl
  | n + 1 => by
    have ih := wv_eq A k n
    show (wv A n ++ wl A n).filter _ = _
    rw [List.filter_append, ih]
    by_cases h : n = k
    · subst h
      have e1 : (wl A n).filter (fun w => decide (w.length = n)) = wl A n := List.filter_eq_self.mpr fun w hw => decide_eq_true (wl_len hw)
      rw [e1, if_neg (by omega), if_pos (by omega), List.nil_append]
    · have e1 : (wl A n).filter (fun w => decide (w.length = k)) = [] := List.filter_eq_nil_iff.mpr fun w hw => by rw [wl_len hw]; simpa using h
      rw [e1, List.append_nil]
      by_cases h2 : k < n
      · rw [if_pos h2, if_pos (by omega)]
      · rw [if_neg h2, if_neg (by omega)]
theorem lit_sp : Str.ofString "spoilt" = ⟨⟨[115, 112, 111, 105, 108, 116]⟩⟩ := by decide +kernel
def Ls (A : List Nat) (n : Int) (b : Bool) (t : List (List Nat)) (x3 x4 x5 x6 : Option (Bool × PV)) : Env := [some (false, S A), some (false, .int n), some (b, .lst (t.map S)), x3, x4, x5, x6, none]
theorem ls_lc {A : List Nat} {n : Int} {b : Bool} {t : List (List Nat)} {k : Nat} {x3 x5 x6 : Option (Bool × PV)} (ht : t.length ≤ 1000) (hw : ∀ w ∈ t, w.length ≤ 100) :
    lc1__law_lists_stand (Ls A n b t x3 (some (false, .int k)) x5 x6) = some ((true, .lst ((t.filter fun w => decide (w.length ≤ k)).map S)), Ls A n false t x3 (some (false, .int k)) x5 x6) ∧
    lc2__law_lists_stand (Ls A n b t x3 (some (false, .int k)) x5 x6) = some ((true, .lst ((t.filter fun w => decide (w.length = k)).map S)), Ls A n false t x3 (some (false, .int k)) x5 x6) := by
  have one : ∀ (op : PV → PV → Option OV) (p : Nat → Bool), (∀ i : Nat, op (.int i) (.int k) = some (false, .bl (p i))) →
      lcLoop [7] (put 7 false) (asT (bin2 (asF (un1 (look 7) lenP)) (look 4) op)) (take 7) (t.map S) (Ls A n false t x3 (some (false, .int k)) x5 x6) = some ((t.filter fun w => p w.length).map S, Ls A n false t x3 (some (false, .int k)) x5 x6) := fun op p hop => by
    have lp := lcLoop_pure (vs := [7]) (h := put 7 false) (ft := asT (bin2 (asF (un1 (look 7) lenP)) (look 4) op)) (fe := take 7) (ρ := Ls A n false t x3 (some (false, .int k)) x5 x6)
      (fun x => match x with
        | .str z => p z.length
        | _ => false) id (t.map S) fun x hx => by
        obtain ⟨w, hm, rfl⟩ := List.mem_map.mp hx
        have hF : fits w.length = true := fits_of (by have := hw w hm; omega)
        have ho := hop w.length
        refine ⟨[some (false, S A), some (false, .int n), some (false, .lst (t.map S)), x3, some (false, .int k), x5, x6, some (false, S w)], ?_, fun _ => ⟨_, rfl, rfl⟩, fun _ => rfl⟩
        refine bind_of (ρ' := [some (false, S A), some (false, .int n), some (false, .lst (t.map S)), x3, some (false, .int k), x5, x6, some (false, S w)]) rfl ?_
        simp -implicitDefEqProofs [hF, ho, bind_run, pure_run, lift_run, ite_run, bad_run, fnOf, runF, argE, seqM, ifM, asT, bin2, bin2v, un1, unL, asF, setM, setIxM, augIxM, augM, retM, giveM, dropM, look, take, put, frz1, ownsAny, owns, store, change, mutM, onL, isB, truM, truP, MC.notM, MC.andM, MC.orM, chain, tupM, lstM, consM, outs, callM, valM, slotM, argSlots, frzS, resolve, ioSlots, setIo, itemsM, itemsOf, PV.flat, strM, andV, orV, notV, slM, slMv, asInt, str_len, addP_ii, addP_ib, addP_ss, addP_ll, addP_tt, iaddP_ii, subP_ii, mulP_ii, mulP_si, fdivP_ii, modP_ii, negP_i, absP_i, intP_i, intP_b, ltP_ii, leP_ii, gtP_ii, geP_ii, ltP_ss, leP_ss, gtP_ss, geP_ss, eqP_ii, eqP_ss, neP_ii, neP_ss, isP_b, isNotP_b, inP_1, notInP_1, lenP_s, lenP_l, lenP_t, lenP_q, listP_s, listP_l, listP_t, tupleP_l, tupleP_t, ixP_l, ixP_t, ixP_q, ixP_s, atI_nat, atI_2, atI_3, atI_4, atI_0, atI_1, atI_last, setV_l, getV_l, ixN_nat, ixN_2, ixN_3, ixN_4, ixN_0, ixN_1, popP_n, appendP_1, extendP_l, slP_to, slP_from, MC.when, fl]
    rw [lp, List.map_id, List.filter_map]
    rfl
  constructor
  · unfold lc1__law_lists_stand lcM
    refine bind_of (a := t.map S) (ρ' := Ls A n false t x3 (some (false, .int k)) x5 x6) (by cases b <;> rfl) (bind_of (within_run rfl (one leP (fun i => decide (i ≤ k)) fun i => by rw [leP_ii]; simp) rfl) (lst_run ?_))
    rw [List.length_map]
    exact Nat.le_trans (List.length_filter_le _ _) (by omega)
  · unfold lc2__law_lists_stand lcM
    refine bind_of (a := t.map S) (ρ' := Ls A n false t x3 (some (false, .int k)) x5 x6) (by cases b <;> rfl) (bind_of (within_run rfl (one eqP (fun i => decide (i = k)) fun i => by rw [eqP_ii]; simp; omega) rfl) (lst_run ?_))
    rw [List.length_map]
    exact Nat.le_trans (List.length_filter_le _ _) (by omega)
theorem set0_run {a b c d e f g : Option (Bool × PV)} {z : PV} {zs : List PV} : setIxM 5 (pure (.str "spoilt")) (pure (.int 0)) [a, b, c, d, e, some (true, .lst (z :: zs)), f, g] = some (.nx, [a, b, c, d, e, some (true, .lst (.str "spoilt" :: zs)), f, g]) := by
  simp -implicitDefEqProofs [bind_run, pure_run, lift_run, ite_run, bad_run, fnOf, runF, argE, seqM, ifM, asT, bin2, bin2v, un1, unL, asF, setM, setIxM, augIxM, augM, retM, giveM, dropM, look, take, put, frz1, ownsAny, owns, store, change, mutM, onL, isB, truM, truP, MC.notM, MC.andM, MC.orM, chain, tupM, lstM, consM, outs, callM, valM, slotM, argSlots, frzS, resolve, ioSlots, setIo, itemsM, itemsOf, PV.flat, strM, andV, orV, notV, slM, slMv, asInt, str_len, addP_ii, addP_ib, addP_ss, addP_ll, addP_tt, iaddP_ii, subP_ii, mulP_ii, mulP_si, fdivP_ii, modP_ii, negP_i, absP_i, intP_i, intP_b, ltP_ii, leP_ii, gtP_ii, geP_ii, ltP_ss, leP_ss, gtP_ss, geP_ss, eqP_ii, eqP_ss, neP_ii, neP_ss, isP_b, isNotP_b, inP_1, notInP_1, lenP_s, lenP_l, lenP_t, lenP_q, listP_s, listP_l, listP_t, tupleP_l, tupleP_t, ixP_l, ixP_t, ixP_q, ixP_s, atI_nat, atI_2, atI_3, atI_4, atI_0, atI_1, atI_last, setV_l, getV_l, ixN_nat, ixN_2, ixN_3, ixN_4, ixN_0, ixN_1, popP_n, appendP_1, extendP_l, slP_to, slP_from, MC.when, fl]
theorem set1_run {a b c d e f g : Option (Bool × PV)} {z : PV} {zs : List PV} : setIxM 6 (pure (.str "spoilt")) (pure (.int 0)) [a, b, c, d, e, f, some (true, .lst (z :: zs)), g] = some (.nx, [a, b, c, d, e, f, some (true, .lst (.str "spoilt" :: zs)), g]) := by
  simp -implicitDefEqProofs [bind_run, pure_run, lift_run, ite_run, bad_run, fnOf, runF, argE, seqM, ifM, asT, bin2, bin2v, un1, unL, asF, setM, setIxM, augIxM, augM, retM, giveM, dropM, look, take, put, frz1, ownsAny, owns, store, change, mutM, onL, isB, truM, truP, MC.notM, MC.andM, MC.orM, chain, tupM, lstM, consM, outs, callM, valM, slotM, argSlots, frzS, resolve, ioSlots, setIo, itemsM, itemsOf, PV.flat, strM, andV, orV, notV, slM, slMv, asInt, str_len, addP_ii, addP_ib, addP_ss, addP_ll, addP_tt, iaddP_ii, subP_ii, mulP_ii, mulP_si, fdivP_ii, modP_ii, negP_i, absP_i, intP_i, intP_b, ltP_ii, leP_ii, gtP_ii, geP_ii, ltP_ss, leP_ss, gtP_ss, geP_ss, eqP_ii, eqP_ss, neP_ii, neP_ss, isP_b, isNotP_b, inP_1, notInP_1, lenP_s, lenP_l, lenP_t, lenP_q, listP_s, listP_l, listP_t, tupleP_l, tupleP_t, ixP_l, ixP_t, ixP_q, ixP_s, atI_nat, atI_2, atI_3, atI_4, atI_0, atI_1, atI_last, setV_l, getV_l, ixN_nat, ixN_2, ixN_3, ixN_4, ixN_0, ixN_1, popP_n, appendP_1, extendP_l, slP_to, slP_from, MC.when, fl]
theorem app0_run {a b c d e f g : Option (Bool × PV)} {zs : List PV} (h : zs.length < 100000) : dropM (mutM 5 (consM (pure (.str "spoilt")) (pure [])) appendP) [a, b, c, d, e, some (true, .lst zs), f, g] = some (.nx, [a, b, c, d, e, some (true, .lst (zs ++ [.str "spoilt"])), f, g]) := by
  have := appendP_1 (x := .str "spoilt") h
  simp -implicitDefEqProofs [this, bind_run, pure_run, lift_run, ite_run, bad_run, fnOf, runF, argE, seqM, ifM, asT, bin2, bin2v, un1, unL, asF, setM, setIxM, augIxM, augM, retM, giveM, dropM, look, take, put, frz1, ownsAny, owns, store, change, mutM, onL, isB, truM, truP, MC.notM, MC.andM, MC.orM, chain, tupM, lstM, consM, outs, callM, valM, slotM, argSlots, frzS, resolve, ioSlots, setIo, itemsM, itemsOf, PV.flat, strM, andV, orV, notV, slM, slMv, asInt, str_len, addP_ii, addP_ib, addP_ss, addP_ll, addP_tt, iaddP_ii, subP_ii, mulP_ii, mulP_si, fdivP_ii, modP_ii, negP_i, absP_i, intP_i, intP_b, ltP_ii, leP_ii, gtP_ii, geP_ii, ltP_ss, leP_ss, gtP_ss, geP_ss, eqP_ii, eqP_ss, neP_ii, neP_ss, isP_b, isNotP_b, inP_1, notInP_1, lenP_s, lenP_l, lenP_t, lenP_q, listP_s, listP_l, listP_t, tupleP_l, tupleP_t, ixP_l, ixP_t, ixP_q, ixP_s, atI_nat, atI_2, atI_3, atI_4, atI_0, atI_1, atI_last, setV_l, getV_l, ixN_nat, ixN_2, ixN_3, ixN_4, ixN_0, ixN_1, popP_n, appendP_1, extendP_l, slP_to, slP_from, MC.when, fl]
theorem app1_run {a b c d e f g : Option (Bool × PV)} {zs : List PV} (h : zs.length < 100000) : dropM (mutM 6 (consM (pure (.str "spoilt")) (pure [])) appendP) [a, b, c, d, e, f, some (true, .lst zs), g] = some (.nx, [a, b, c, d, e, f, some (true, .lst (zs ++ [.str "spoilt"])), g]) := by
  have := appendP_1 (x := .str "spoilt") h
  simp -implicitDefEqProofs [this, bind_run, pure_run, lift_run, ite_run, bad_run, fnOf, runF, argE, seqM, ifM, asT, bin2, bin2v, un1, unL, asF, setM, setIxM, augIxM, augM, retM, giveM, dropM, look, take, put, frz1, ownsAny, owns, store, change, mutM, onL, isB, truM, truP, MC.notM, MC.andM, MC.orM, chain, tupM, lstM, consM, outs, callM, valM, slotM, argSlots, frzS, resolve, ioSlots, setIo, itemsM, itemsOf, PV.flat, strM, andV, orV, notV, slM, slMv, asInt, str_len, addP_ii, addP_ib, addP_ss, addP_ll, addP_tt, iaddP_ii, subP_ii, mulP_ii, mulP_si, fdivP_ii, modP_ii, negP_i, absP_i, intP_i, intP_b, ltP_ii, leP_ii, gtP_ii, geP_ii, ltP_ss, leP_ss, gtP_ss, geP_ss, eqP_ii, eqP_ss, neP_ii, neP_ss, isP_b, isNotP_b, inP_1, notInP_1, lenP_s, lenP_l, lenP_t, lenP_q, listP_s, listP_l, listP_t, tupleP_l, tupleP_t, ixP_l, ixP_t, ixP_q, ixP_s, atI_nat, atI_2, atI_3, atI_4, atI_0, atI_1, atI_last, setV_l, getV_l, ixN_nat, ixN_2, ixN_3, ixN_4, ixN_0, ixN_1, popP_n, appendP_1, extendP_l, slP_to, slP_from, MC.when, fl]
theorem wl_cons {A : List Nat} (hA : A ≠ []) : ∀ n, ∃ w r, wl A n = w :: r
  | 0 => ⟨[], [], rfl⟩
  | n + 1 => by
    obtain ⟨w, r, e⟩ := wl_cons hA n
    cases A with
    | nil => exact absurd rfl hA
    | cons a A =>
      refine ⟨w ++ [a], (A.map fun c => w ++ [c]) ++ ext (a :: A) r, ?_⟩
      show ext (a :: A) (wl (a :: A) n) = _
      rw [e]; rfl
theorem wv_cons (A : List Nat) : ∀ n, ∃ w r, wv A (n + 1) = w :: r
  | 0 => ⟨[], [], rfl⟩
  | n + 1 => by
    obtain ⟨w, r, e⟩ := wv_cons A n
    exact ⟨w, r ++ wl A (n + 1), by show wv A (n + 1) ++ _ = _; rw [e]; rfl⟩
theorem ls_step {A : List Nat} {m n k : Nat} {b : Bool} {x3 x5 x6 : Option (Bool × PV)} (a : Al A m) (hA : A ≠ []) (B : Bd A n) (hk : k ≤ n) :
    ∃ x5' x6', bd1__law_lists_stand (Ls A n b (wv A (n + 1)) x3 (some (false, .int k)) x5 x6) = some (.nx, Ls A n false (wv A (n + 1)) x3 (some (false, .int k)) x5' x6') := by
  have hn := B.m
  have hv := B.v (n + 1) (by omega)
  have hvk := B.v (k + 1) (by omega)
  have hwk := B.w k (by omega)
  have e1 := wut_ok (B.le hk)
  have e2 := wol_ok (A := A) (n := k) (by omega) (fun i hi => B.l i (by omega))
  have hw : ∀ w ∈ wv A (n + 1), w.length ≤ 100 := fun w h => by
    obtain ⟨j, hj, h⟩ := wv_mem h
    rw [wl_len h]; omega
  have l1 := fun b (x5 x6 : Option (Bool × PV)) => (ls_lc (A := A) (n := n) (b := b) (t := wv A (n + 1)) (k := k) (x3 := x3) (x5 := x5) (x6 := x6) hv hw).1
  have l2 := fun b (x5 x6 : Option (Bool × PV)) => (ls_lc (A := A) (n := n) (b := b) (t := wv A (n + 1)) (k := k) (x3 := x3) (x5 := x5) (x6 := x6) hv hw).2
  rw [wv_le, Nat.min_eq_right hk] at l1
  rw [wv_eq, if_pos (by omega)] at l2
  have t1 := are_texts hvk (fun w h => wv_low a h)
  have t2 := are_texts hwk (fun w h => a.low (wl_mem h))
  obtain ⟨w1, r1, c1⟩ := wv_cons A k
  obtain ⟨w2, r2, c2⟩ := wl_cons hA k
  have n1 : ((S w1 :: r1.map S)).length < 100000 := by
    rw [c1] at hvk; simp at hvk ⊢; omega
  have n2 : ((S w2 :: r2.map S)).length < 100000 := by
    rw [c2] at hwk; simp at hwk ⊢; omega
  rw [c1] at e1 l1 t1
  rw [c2] at e2 l2 t2
  rw [List.map_cons] at e1 l1 t1 e2 l2 t2
  unfold Ls at l1 l2 ⊢
  generalize (wv A (n + 1)).map S = Z at l1 l2 ⊢
  generalize r1.map S = R1 at *
  generalize r2.map S = R2 at *
  refine ⟨some (true, .lst (.str "spoilt" :: R1 ++ [.str "spoilt"])), some (true, .lst (.str "spoilt" :: R2 ++ [.str "spoilt"])), ?_⟩
  unfold bd1__law_lists_stand
  refine seq_nx (set_run (x := (true, .lst (S w1 :: R1))) (ρ' := [some (false, S A), some (false, .int n), some (b, .lst Z), x3, some (false, .int k), x5, x6, none]) ?_) ?_
  · simp -implicitDefEqProofs [e1, bind_run, pure_run, lift_run, ite_run, bad_run, fnOf, runF, argE, seqM, ifM, asT, bin2, bin2v, un1, unL, asF, setM, setIxM, augIxM, augM, retM, giveM, dropM, look, take, put, frz1, ownsAny, owns, store, change, mutM, onL, isB, truM, truP, MC.notM, MC.andM, MC.orM, chain, tupM, lstM, consM, outs, callM, valM, slotM, argSlots, frzS, resolve, ioSlots, setIo, itemsM, itemsOf, PV.flat, strM, andV, orV, notV, slM, slMv, asInt, str_len, addP_ii, addP_ib, addP_ss, addP_ll, addP_tt, iaddP_ii, subP_ii, mulP_ii, mulP_si, fdivP_ii, modP_ii, negP_i, absP_i, intP_i, intP_b, ltP_ii, leP_ii, gtP_ii, geP_ii, ltP_ss, leP_ss, gtP_ss, geP_ss, eqP_ii, eqP_ss, neP_ii, neP_ss, isP_b, isNotP_b, inP_1, notInP_1, lenP_s, lenP_l, lenP_t, lenP_q, listP_s, listP_l, listP_t, tupleP_l, tupleP_t, ixP_l, ixP_t, ixP_q, ixP_s, atI_nat, atI_2, atI_3, atI_4, atI_0, atI_1, atI_last, setV_l, getV_l, ixN_nat, ixN_2, ixN_3, ixN_4, ixN_0, ixN_1, popP_n, appendP_1, extendP_l, slP_to, slP_from, MC.when, fl]
  refine seq_nx (ρ' := [some (false, S A), some (false, .int n), some (false, .lst Z), x3, some (false, .int k), some (true, .lst (S w1 :: R1)), x6, none]) (if_f (ρ' := [some (false, S A), some (false, .int n), some (false, .lst Z), x3, some (false, .int k), some (true, .lst (S w1 :: R1)), x6, none]) ?_ rfl) ?_
  · simp -implicitDefEqProofs [l1, t1, bind_run, pure_run, lift_run, ite_run, bad_run, fnOf, runF, argE, seqM, ifM, asT, bin2, bin2v, un1, unL, asF, setM, setIxM, augIxM, augM, retM, giveM, dropM, look, take, put, frz1, ownsAny, owns, store, change, mutM, onL, isB, truM, truP, MC.notM, MC.andM, MC.orM, chain, tupM, lstM, consM, outs, callM, valM, slotM, argSlots, frzS, resolve, ioSlots, setIo, itemsM, itemsOf, PV.flat, strM, andV, orV, notV, slM, slMv, asInt, str_len, addP_ii, addP_ib, addP_ss, addP_ll, addP_tt, iaddP_ii, subP_ii, mulP_ii, mulP_si, fdivP_ii, modP_ii, negP_i, absP_i, intP_i, intP_b, ltP_ii, leP_ii, gtP_ii, geP_ii, ltP_ss, leP_ss, gtP_ss, geP_ss, eqP_ii, eqP_ss, neP_ii, neP_ss, isP_b, isNotP_b, inP_1, notInP_1, lenP_s, lenP_l, lenP_t, lenP_q, listP_s, listP_l, listP_t, tupleP_l, tupleP_t, ixP_l, ixP_t, ixP_q, ixP_s, atI_nat, atI_2, atI_3, atI_4, atI_0, atI_1, atI_last, setV_l, getV_l, ixN_nat, ixN_2, ixN_3, ixN_4, ixN_0, ixN_1, popP_n, appendP_1, extendP_l, slP_to, slP_from, MC.when, fl]
  refine seq_nx (set_run (x := (true, .lst (S w2 :: R2))) (ρ' := [some (false, S A), some (false, .int n), some (false, .lst Z), x3, some (false, .int k), some (true, .lst (S w1 :: R1)), x6, none]) ?_) ?_
  · simp -implicitDefEqProofs [e2, bind_run, pure_run, lift_run, ite_run, bad_run, fnOf, runF, argE, seqM, ifM, asT, bin2, bin2v, un1, unL, asF, setM, setIxM, augIxM, augM, retM, giveM, dropM, look, take, put, frz1, ownsAny, owns, store, change, mutM, onL, isB, truM, truP, MC.notM, MC.andM, MC.orM, chain, tupM, lstM, consM, outs, callM, valM, slotM, argSlots, frzS, resolve, ioSlots, setIo, itemsM, itemsOf, PV.flat, strM, andV, orV, notV, slM, slMv, asInt, str_len, addP_ii, addP_ib, addP_ss, addP_ll, addP_tt, iaddP_ii, subP_ii, mulP_ii, mulP_si, fdivP_ii, modP_ii, negP_i, absP_i, intP_i, intP_b, ltP_ii, leP_ii, gtP_ii, geP_ii, ltP_ss, leP_ss, gtP_ss, geP_ss, eqP_ii, eqP_ss, neP_ii, neP_ss, isP_b, isNotP_b, inP_1, notInP_1, lenP_s, lenP_l, lenP_t, lenP_q, listP_s, listP_l, listP_t, tupleP_l, tupleP_t, ixP_l, ixP_t, ixP_q, ixP_s, atI_nat, atI_2, atI_3, atI_4, atI_0, atI_1, atI_last, setV_l, getV_l, ixN_nat, ixN_2, ixN_3, ixN_4, ixN_0, ixN_1, popP_n, appendP_1, extendP_l, slP_to, slP_from, MC.when, fl]
  refine seq_nx (ρ' := [some (false, S A), some (false, .int n), some (false, .lst Z), x3, some (false, .int k), some (true, .lst (S w1 :: R1)), some (true, .lst (S w2 :: R2)), none]) (if_f (ρ' := [some (false, S A), some (false, .int n), some (false, .lst Z), x3, some (false, .int k), some (true, .lst (S w1 :: R1)), some (true, .lst (S w2 :: R2)), none]) ?_ rfl) ?_
  · simp -implicitDefEqProofs [l2, t2, bind_run, pure_run, lift_run, ite_run, bad_run, fnOf, runF, argE, seqM, ifM, asT, bin2, bin2v, un1, unL, asF, setM, setIxM, augIxM, augM, retM, giveM, dropM, look, take, put, frz1, ownsAny, owns, store, change, mutM, onL, isB, truM, truP, MC.notM, MC.andM, MC.orM, chain, tupM, lstM, consM, outs, callM, valM, slotM, argSlots, frzS, resolve, ioSlots, setIo, itemsM, itemsOf, PV.flat, strM, andV, orV, notV, slM, slMv, asInt, str_len, addP_ii, addP_ib, addP_ss, addP_ll, addP_tt, iaddP_ii, subP_ii, mulP_ii, mulP_si, fdivP_ii, modP_ii, negP_i, absP_i, intP_i, intP_b, ltP_ii, leP_ii, gtP_ii, geP_ii, ltP_ss, leP_ss, gtP_ss, geP_ss, eqP_ii, eqP_ss, neP_ii, neP_ss, isP_b, isNotP_b, inP_1, notInP_1, lenP_s, lenP_l, lenP_t, lenP_q, listP_s, listP_l, listP_t, tupleP_l, tupleP_t, ixP_l, ixP_t, ixP_q, ixP_s, atI_nat, atI_2, atI_3, atI_4, atI_0, atI_1, atI_last, setV_l, getV_l, ixN_nat, ixN_2, ixN_3, ixN_4, ixN_0, ixN_1, popP_n, appendP_1, extendP_l, slP_to, slP_from, MC.when, fl]
  exact seq_nx set0_run (seq_nx (app0_run n1) (seq_nx set1_run (app1_run n2)))
theorem lists_stand {A : List Nat} {m n : Nat} (a : Al A m) (hA : A ≠ []) (B : Bd A n) (hB : ∀ i, i < n → (wl A i).length * A.length ≤ 900) : F__law_lists_stand [S A, .int n] = some ((false, .bl true), []) := by
  have hn := B.m
  have e0 := lw_ok B hB
  have inner : ∀ (b : Bool) (x3 x4 x5 x6 : Option (Bool × PV)), ∃ x4' x5' x6', fo1__law_lists_stand (Ls A n b (wv A (n + 1)) x3 x4 x5 x6) = some (.nx, Ls A n false (wv A (n + 1)) x3 x4' x5' x6') := fun b x3 x4 x5 x6 => by
    obtain ⟨ρ', h1, b', x4', x5', x6', rfl, hb⟩ := forM_inv (h := put 4 false) (f := bd1__law_lists_stand) (fun i ρ => ∃ b' x4' x5' x6', ρ = Ls A n b' (wv A (n + 1)) x3 x4' x5' x6' ∧ (0 < i → b' = false)) (rangeL 0 (n + 1 : Nat)) 0 (Ls A n b (wv A (n + 1)) x3 x4 x5 x6) ⟨b, x4, x5, x6, rfl, fun h => by omega⟩ (by
      rintro i x _ hx ⟨b', x4', x5', x6', rfl, _⟩
      obtain ⟨hi, rfl⟩ := range_get hx
      obtain ⟨y5, y6, e⟩ := ls_step (k := i) (b := b') (x3 := x3) (x5 := x5') (x6 := x6') a hA B (by omega)
      exact ⟨_, .inl (bind_of rfl e), false, _, _, _, rfl, fun _ => rfl⟩)
    rw [range_len] at hb
    have hb := hb (by omega)
    subst hb
    refine ⟨x4', x5', x6', for_range (ρ' := Ls A n b (wv A (n + 1)) x3 x4 x5 x6) (n := n + 1) ?_ (by omega) h1⟩
    unfold Ls
    generalize (wv A (n + 1)).map S = Z
    simp -implicitDefEqProofs [bind_run, pure_run, lift_run, ite_run, bad_run, fnOf, runF, argE, seqM, ifM, asT, bin2, bin2v, un1, unL, asF, setM, setIxM, augIxM, augM, retM, giveM, dropM, look, take, put, frz1, ownsAny, owns, store, change, mutM, onL, isB, truM, truP, MC.notM, MC.andM, MC.orM, chain, tupM, lstM, consM, outs, callM, valM, slotM, argSlots, frzS, resolve, ioSlots, setIo, itemsM, itemsOf, PV.flat, strM, andV, orV, notV, slM, slMv, asInt, str_len, addP_ii, addP_ib, addP_ss, addP_ll, addP_tt, iaddP_ii, subP_ii, mulP_ii, mulP_si, fdivP_ii, modP_ii, negP_i, absP_i, intP_i, intP_b, ltP_ii, leP_ii, gtP_ii, geP_ii, ltP_ss, leP_ss, gtP_ss, geP_ss, eqP_ii, eqP_ss, neP_ii, neP_ss, isP_b, isNotP_b, inP_1, notInP_1, lenP_s, lenP_l, lenP_t, lenP_q, listP_s, listP_l, listP_t, tupleP_l, tupleP_t, ixP_l, ixP_t, ixP_q, ixP_s, atI_nat, atI_2, atI_3, atI_4, atI_0, atI_1, atI_last, setV_l, getV_l, ixN_nat, ixN_2, ixN_3, ixN_4, ixN_0, ixN_1, popP_n, appendP_1, extendP_l, slP_to, slP_from, MC.when, fl]
  have outer : ∃ b x3 x4 x5 x6, fo2__law_lists_stand (Ls A n true (wv A (n + 1)) none none none none) = some (.nx, Ls A n b (wv A (n + 1)) x3 x4 x5 x6) := by
    obtain ⟨ρ', h1, b', x3', x4', x5', x6', rfl⟩ := forM_inv (h := put 3 false) (f := bd2__law_lists_stand) (fun i ρ => ∃ b' x3' x4' x5' x6', ρ = Ls A n b' (wv A (n + 1)) x3' x4' x5' x6') (rangeL 0 (2 : Nat)) 0 (Ls A n true (wv A (n + 1)) none none none none) ⟨_, _, _, _, _, rfl⟩ (by
      rintro i x _ hx ⟨b', x3', x4', x5', x6', rfl⟩
      obtain ⟨y4, y5, y6, e⟩ := inner b' (some (false, x)) x4' x5' x6'
      exact ⟨_, .inl (bind_of rfl e), _, _, _, _, _, rfl⟩)
    exact ⟨b', x3', x4', x5', x6', for_range (n := 2) rfl (by omega) h1⟩
  obtain ⟨b, x3, x4, x5, x6, eo⟩ := outer
  refine fn_run rfl (ρ0 := [some (false, S A), some (false, .int n), none, none, none, none, none, none]) rfl (seq_nx (set_run (x := (true, .lst ((wv A (n + 1)).map S))) (ρ' := [some (false, S A), some (false, .int n), none, none, none, none, none, none]) ?_) (seq_nx eo (ret_run (x := (false, .bl true)) rfl))) rfl
  generalize (wv A (n + 1)).map S = Z at e0 ⊢
  simp -implicitDefEqProofs [e0, bind_run, pure_run, lift_run, ite_run, bad_run, fnOf, runF, argE, seqM, ifM, asT, bin2, bin2v, un1, unL, asF, setM, setIxM, augIxM, augM, retM, giveM, dropM, look, take, put, frz1, ownsAny, owns, store, change, mutM, onL, isB, truM, truP, MC.notM, MC.andM, MC.orM, chain, tupM, lstM, consM, outs, callM, valM, slotM, argSlots, frzS, resolve, ioSlots, setIo, itemsM, itemsOf, PV.flat, strM, andV, orV, notV, slM, slMv, asInt, str_len, addP_ii, addP_ib, addP_ss, addP_ll, addP_tt, iaddP_ii, subP_ii, mulP_ii, mulP_si, fdivP_ii, modP_ii, negP_i, absP_i, intP_i, intP_b, ltP_ii, leP_ii, gtP_ii, geP_ii, ltP_ss, leP_ss, gtP_ss, geP_ss, eqP_ii, eqP_ss, neP_ii, neP_ss, isP_b, isNotP_b, inP_1, notInP_1, lenP_s, lenP_l, lenP_t, lenP_q, listP_s, listP_l, listP_t, tupleP_l, tupleP_t, ixP_l, ixP_t, ixP_q, ixP_s, atI_nat, atI_2, atI_3, atI_4, atI_0, atI_1, atI_last, setV_l, getV_l, ixN_nat, ixN_2, ixN_3, ixN_4, ixN_0, ixN_1, popP_n, appendP_1, extendP_l, slP_to, slP_from, MC.when, fl]
end MC.Law
set_option Elab.async false
set_option linter.all false
set_option maxRecDepth 100000
set_option maxHeartbeats 4000000
namespace MC.Law
open PySem
/-! ranks -/
def ix (A : List Nat) (c : Nat) : Nat := (A.findIdx? fun x => decide (x = c)).getD 0
theorem find_get {A : List Nat} (nd : A.Nodup) : ∀ {i : Nat} {c : Nat}, A[i]? = some c → A.findIdx? (fun x => decide (x = c)) = some i := by
  induction A with
  | nil => intro i c h; simp at h
  | cons a r ih =>
    intro i c h
    obtain ⟨n1, n2⟩ := List.nodup_cons.mp nd
    rw [List.findIdx?_cons]
    cases i with
    | zero => simp at h; subst h; simp
    | succ i =>
      have h' : r[i]? = some c := by simpa using h
      have : a ≠ c := fun z => n1 (z ▸ List.mem_of_getElem? h')
      rw [decide_eq_false this, if_neg Bool.false_ne_true, ih n2 h']; rfl
theorem ix_get {A : List Nat} (nd : A.Nodup) {i c : Nat} (h : A[i]? = some c) : ix A c = i := by unfold ix; rw [find_get nd h]; rfl
theorem find_ix {A : List Nat} (nd : A.Nodup) {c : Nat} (h : c ∈ A) : A.findIdx? (fun x => decide (x = c)) = some (ix A c) ∧ A[ix A c]? = some c ∧ ix A c < A.length := by
  obtain ⟨i, hi⟩ := List.getElem?_of_mem h
  rw [ix_get nd hi]
  exact ⟨find_get nd hi, hi, (List.getElem?_eq_some_iff.mp hi).1⟩
def rk (A : List Nat) (w : List Nat) : Nat := w.foldl (fun r c => r * A.length + ix A c + 1) 0
theorem rk_app (A : List Nat) (w : List Nat) (c : Nat) : rk A (w ++ [c]) = rk A w * A.length + ix A c + 1 := by unfold rk; rw [List.foldl_append]; rfl
def wa (A : List Nat) : Nat → List Nat
  | 0 => []
  | n + 1 => wa A (n / A.length) ++ [A.getD (n % A.length) 0]
decreasing_by exact Nat.lt_succ_of_le (Nat.div_le_self ..)
theorem wa_succ (A : List Nat) (n : Nat) : wa A (n + 1) = wa A (n / A.length) ++ [A.getD (n % A.length) 0] := by rw [wa]
theorem wa_zero (A : List Nat) : wa A 0 = [] := by rw [wa]
theorem wa_len (A : List Nat) : ∀ n, (wa A n).length ≤ n := fun n => by
  induction n using Nat.strongRecOn with
  | _ n ih =>
    cases n with
    | zero => rw [wa_zero]; exact Nat.le_refl _
    | succ n =>
      rw [wa_succ, List.length_append]
      have := ih (n / A.length) (Nat.lt_succ_of_le (Nat.div_le_self ..))
      have := Nat.div_le_self n A.length
      simp; omega
theorem wa_log {A : List Nat} (h2 : 2 ≤ A.length) : ∀ k n, n < 2 ^ k → (wa A n).length ≤ k
  | 0, n, h => by
    have : n = 0 := by simpa using h
    subst this; rw [wa_zero]; exact Nat.le_refl _
  | k + 1, n, h => by
    cases n with
    | zero => rw [wa_zero]; exact Nat.zero_le _
    | succ n =>
      rw [wa_succ, List.length_append]
      have h3 : n / A.length ≤ n / 2 := Nat.div_le_div_left h2 (by omega)
      have h4 : n / 2 < 2 ^ k := by rw [Nat.pow_succ] at h; omega
      have := wa_log h2 k (n / A.length) (by omega)
      simp; omega
theorem getD_mem {A : List Nat} (hA : A ≠ []) (n : Nat) : A[n % A.length]? = some (A.getD (n % A.length) 0) ∧ A.getD (n % A.length) 0 ∈ A := by
  have : n % A.length < A.length := Nat.mod_lt _ (List.length_pos_iff.mpr hA)
  rw [List.getD_eq_getElem?_getD, List.getElem?_eq_getElem this]
  exact ⟨rfl, List.getElem_mem this⟩
theorem wa_mem {A : List Nat} (hA : A ≠ []) : ∀ n, ∀ c ∈ wa A n, c ∈ A := fun n => by
  induction n using Nat.strongRecOn with
  | _ n ih =>
    cases n with
    | zero => rw [wa_zero]; intro c h; cases h
    | succ n =>
      rw [wa_succ]
      intro c h
      rcases List.mem_append.mp h with h | h
      · exact ih _ (Nat.lt_succ_of_le (Nat.div_le_self ..)) c h
      · rw [List.mem_singleton.mp h]; exact (getD_mem hA n).2
theorem rk_wa {A : List Nat} (nd : A.Nodup) (hA : A ≠ []) : ∀ n, rk A (wa A n) = n := fun n => by
  induction n using Nat.strongRecOn with
  | _ n ih =>
    cases n with
    | zero => rw [wa_zero]; rfl
    | succ n =>
      rw [wa_succ, rk_app, ih _ (Nat.lt_succ_of_le (Nat.div_le_self ..)), ix_get nd (getD_mem hA n).1]
      have := Nat.div_add_mod n A.length
      rw [Nat.mul_comm] at this
      omega
theorem wa_rk {A : List Nat} (nd : A.Nodup) (w : List Nat) (h : ∀ c ∈ w, c ∈ A) : wa A (rk A w) = w := by
  have key : ∀ (n : Nat) (w : List Nat), w.length = n → (∀ c ∈ w, c ∈ A) → wa A (rk A w) = w := fun n => by
    induction n with
    | zero => intro w hw _; rw [List.length_eq_zero_iff.mp hw]; exact wa_zero A
    | succ n ih =>
      intro w hw h
      have hne : w ≠ [] := by intro z; subst z; cases hw
      have ew := List.dropLast_concat_getLast hne
      have hv : (w.dropLast).length = n := by rw [List.length_dropLast]; omega
      have i1 := ih w.dropLast hv fun c hc => h c (List.dropLast_subset _ hc)
      generalize w.dropLast = v at *
      generalize ec : w.getLast hne = c at *
      subst ew
      obtain ⟨_, f2, f3⟩ := find_ix nd (h c (by simp))
      have pos : 0 < A.length := by omega
      rw [rk_app, wa_succ]
      have e1 : (rk A v * A.length + ix A c) / A.length = rk A v := by
        rw [Nat.mul_comm, Nat.mul_add_div pos, Nat.div_eq_of_lt f3]; rfl
      have e2 : (rk A v * A.length + ix A c) % A.length = ix A c := by
        rw [Nat.mul_comm, Nat.mul_add_mod]; exact Nat.mod_eq_of_lt f3
      rw [e1, e2, i1, List.getD_eq_getElem?_getD, f2]; rfl
  exact key _ w rfl h
theorem ext_get {A : List Nat} (hA : A ≠ []) : ∀ {l : List (List Nat)} {q : Nat} {w : List Nat}, (ext A l)[q]? = some w → ∃ v c, l[q / A.length]? = some v ∧ A[q % A.length]? = some c ∧ w = v ++ [c]
  | [], q, w, h => by simp [ext] at h
  | a :: l, q, w, h => by
    have pos := List.length_pos_iff.mpr hA
    have h : ((A.map fun c => a ++ [c]) ++ ext A l)[q]? = some w := h
    by_cases hq : q < A.length
    · rw [List.getElem?_append_left (by rw [List.length_map]; exact hq), List.getElem?_map] at h
      obtain ⟨c, h1, h2⟩ := Option.map_eq_some_iff.mp h
      rw [Nat.div_eq_of_lt hq, Nat.mod_eq_of_lt hq]
      exact ⟨a, c, rfl, h1, h2.symm⟩
    · rw [List.getElem?_append_right (by rw [List.length_map]; omega), List.length_map] at h
      obtain ⟨v, c, h1, h2, h3⟩ := ext_get hA h
      have e1 : q / A.length = (q - A.length) / A.length + 1 := by
        rw [Nat.div_eq_sub_div pos (by omega)]
      have e2 : q % A.length = (q - A.length) % A.length := Nat.mod_eq_sub_mod (by omega)
      rw [e1, e2]
      exact ⟨v, c, by simpa using h1, h2, h3⟩
theorem lo_succ (A : List Nat) : ∀ n, (wv A (n + 1)).length = (wv A n).length * A.length + 1
  | 0 => by simp [wv, wl]
  | n + 1 => by
    have ih := lo_succ A n
    show (wv A (n + 1) ++ wl A (n + 1)).length = (wv A n ++ wl A n).length * A.length + 1
    rw [List.length_append, List.length_append, ih, Nat.add_mul]
    show _ + (ext A (wl A n)).length = _
    rw [ext_len]; omega
theorem wl_rk {A : List Nat} (nd : A.Nodup) (hA : A ≠ []) : ∀ n {i : Nat} {w : List Nat}, (wl A n)[i]? = some w → rk A w = (wv A n).length + i
  | 0, i, w, h => by
    cases i with
    | zero => cases h; rfl
    | succ i => simp [wl] at h
  | n + 1, i, w, h => by
    obtain ⟨v, c, h1, h2, rfl⟩ := ext_get hA h
    rw [rk_app, wl_rk nd hA n h1, ix_get nd h2, lo_succ]
    have := Nat.div_add_mod i A.length
    rw [Nat.mul_comm] at this
    rw [Nat.add_mul]; omega
theorem wv_rk {A : List Nat} (nd : A.Nodup) (hA : A ≠ []) : ∀ n {i : Nat} {w : List Nat}, (wv A n)[i]? = some w → rk A w = i
  | 0, i, w, h => by simp [wv] at h
  | n + 1, i, w, h => by
    have h : (wv A n ++ wl A n)[i]? = some w := h
    by_cases hi : i < (wv A n).length
    · rw [List.getElem?_append_left hi] at h
      exact wv_rk nd hA n h
    · rw [List.getElem?_append_right (by omega)] at h
      rw [wl_rk nd hA n h]; omega
theorem Al.nd {A : List Nat} {m : Nat} (a : Al A m) : A.Nodup := a.srt.imp fun h => Nat.ne_of_lt h
end MC.Law
set_option Elab.async false
set_option linter.all false
set_option maxRecDepth 100000
set_option maxHeartbeats 4000000
namespace MC.Law
open PySem
theorem mulOk_small (i : Int) {j : Nat} (h : j ≤ 1000) : mulOk i j = true := by
  unfold mulOk
  have : decide (-(2 ^ 64) < (j : Int) ∧ (j : Int) < 2 ^ 64) = true := decide_eq_true ⟨by omega, by omega⟩
  rw [this]; simp
theorem divOk_small {j : Nat} (h0 : 0 < j) (h : j ≤ 1000) : divOk (j : Int) = true := by
  unfold divOk
  have : decide ((j : Int) ≠ 0 ∧ (j : Int).natAbs < 1073741824) = true := decide_eq_true ⟨by omega, by omega⟩
  rw [this]; rfl
theorem index_ok {A : List Nat} (nd : A.Nodup) {c : Nat} (h : c ∈ A) : indexP ⟨⟨A⟩⟩ [.str ⟨⟨[c]⟩⟩] = some (false, .int (ix A c)) := by
  show (A.findIdx? fun x => decide (x = c)).map _ = _
  rw [(find_ix nd h).1]; rfl
theorem items_s (w : List Nat) : itemsOf (S w) = some (w.map sign) := rfl
theorem rank_ok {A w : List Nat} (nd : A.Nodup) (ha : A.length ≤ 1000) (h : ∀ c ∈ w, c ∈ A) : F_word_rank [S A, S w] = some ((false, .int (rk A w)), []) := by
  have fA : fits A.length = true := fits_of (by omega)
  obtain ⟨ρ', h1, x3, rfl⟩ := forM_inv (h := put 3 false) (f := bd1_word_rank) (fun i ρ => ∃ x3, ρ = [some (false, S A), some (false, S w), some (false, .int (rk A (w.take i))), x3]) (w.map sign) 0 [some (false, S A), some (false, S w), some (false, .int 0), none] ⟨none, rfl⟩ (by
    rintro i x _ hx ⟨x3, rfl⟩
    rw [List.getElem?_map] at hx
    obtain ⟨c, hc, rfl⟩ := Option.map_eq_some_iff.mp hx
    rw [Nat.zero_add]
    refine ⟨_, .inl ?_, ⟨some (false, sign c), rfl⟩⟩
    refine bind_of (ρ' := [some (false, S A), some (false, S w), some (false, .int (rk A (w.take i))), some (false, .str ⟨⟨[c]⟩⟩)]) rfl ?_
    have e1 := index_ok nd (h c (List.mem_of_getElem? hc))
    have e2 := mulOk_small (rk A (w.take i)) ha
    rw [List.take_add_one, hc, Option.toList_some, rk_app]
    generalize rk A (w.take i) = r at e2 ⊢
    unfold bd1_word_rank
    refine (set_run (x := (false, .int (r * A.length + ix A c + 1))) (ρ' := [some (false, S A), some (false, S w), some (false, .int r), some (false, .str ⟨⟨[c]⟩⟩)]) ?_).trans ?_
    · simp -implicitDefEqProofs [fA, e1, e2, bind_run, pure_run, lift_run, ite_run, bad_run, fnOf, runF, argE, seqM, ifM, asT, bin2, bin2v, un1, unL, asF, setM, setIxM, augIxM, augM, retM, giveM, dropM, look, take, put, frz1, ownsAny, owns, store, change, mutM, onL, isB, truM, truP, MC.notM, MC.andM, MC.orM, chain, tupM, lstM, consM, outs, callM, valM, slotM, argSlots, frzS, resolve, ioSlots, setIo, itemsM, itemsOf, PV.flat, strM, andV, orV, notV, slM, slMv, asInt, str_len, addP_ii, addP_ib, addP_ss, addP_ll, addP_tt, iaddP_ii, subP_ii, mulP_ii, mulP_si, fdivP_ii, modP_ii, negP_i, absP_i, intP_i, intP_b, ltP_ii, leP_ii, gtP_ii, geP_ii, ltP_ss, leP_ss, gtP_ss, geP_ss, eqP_ii, eqP_ss, neP_ii, neP_ss, isP_b, isNotP_b, inP_1, notInP_1, lenP_s, lenP_l, lenP_t, lenP_q, listP_s, listP_l, listP_t, tupleP_l, tupleP_t, ixP_l, ixP_t, ixP_q, ixP_s, atI_nat, atI_2, atI_3, atI_4, atI_0, atI_1, atI_last, setV_l, getV_l, ixN_nat, ixN_2, ixN_3, ixN_4, ixN_0, ixN_1, popP_n, appendP_1, extendP_l, slP_to, slP_from, MC.when, fl]
    · simp [sign])
  rw [Nat.zero_add, List.length_map, List.take_length] at h1
  have h2 : fo1_word_rank [some (false, S A), some (false, S w), some (false, .int 0), none] = _ := bind_of (a := w.map sign) (ρ' := [some (false, S A), some (false, S w), some (false, .int 0), none]) rfl h1
  exact fn_run rfl rfl (seq_nx (set_run (x := (false, .int 0)) rfl) (seq_nx h2 rfl)) rfl
theorem at_loop {A : List Nat} (hA : A ≠ []) (ha : A.length ≤ 1000) (x1 : Option (Bool × PV)) : ∀ (n : Nat) (sg : List Nat), (wa A n).length + sg.length ≤ 1000 →
    wh1_word_at [some (false, S A), x1, some (true, .lst (sg.map sign)), some (false, .int n)] = some (.nx, [some (false, S A), x1, some (true, .lst ((sg ++ (wa A n).reverse).map sign)), some (false, .int 0)]) := fun n => by
  have pos := List.length_pos_iff.mpr hA
  have fA : fits A.length = true := fits_of (by omega)
  induction n using Nat.strongRecOn with
  | _ n ih =>
    intro sg hl
    cases n with
    | zero =>
      rw [wa_zero, List.reverse_nil, List.append_nil]
      refine whileM_false ?_
      generalize sg.map sign = Z
      simp -implicitDefEqProofs [bind_run, pure_run, lift_run, ite_run, bad_run, fnOf, runF, argE, seqM, ifM, asT, bin2, bin2v, un1, unL, asF, setM, setIxM, augIxM, augM, retM, giveM, dropM, look, take, put, frz1, ownsAny, owns, store, change, mutM, onL, isB, truM, truP, MC.notM, MC.andM, MC.orM, chain, tupM, lstM, consM, outs, callM, valM, slotM, argSlots, frzS, resolve, ioSlots, setIo, itemsM, itemsOf, PV.flat, strM, andV, orV, notV, slM, slMv, asInt, str_len, addP_ii, addP_ib, addP_ss, addP_ll, addP_tt, iaddP_ii, subP_ii, mulP_ii, mulP_si, fdivP_ii, modP_ii, negP_i, absP_i, intP_i, intP_b, ltP_ii, leP_ii, gtP_ii, geP_ii, ltP_ss, leP_ss, gtP_ss, geP_ss, eqP_ii, eqP_ss, neP_ii, neP_ss, isP_b, isNotP_b, inP_1, notInP_1, lenP_s, lenP_l, lenP_t, lenP_q, listP_s, listP_l, listP_t, tupleP_l, tupleP_t, ixP_l, ixP_t, ixP_q, ixP_s, atI_nat, atI_2, atI_3, atI_4, atI_0, atI_1, atI_last, setV_l, getV_l, ixN_nat, ixN_2, ixN_3, ixN_4, ixN_0, ixN_1, popP_n, appendP_1, extendP_l, slP_to, slP_from, MC.when, fl]
    | succ n =>
      rw [wa_succ, List.length_append] at hl
      have hl2 : (wa A (n / A.length)).length + 1 + sg.length ≤ 1000 := by simpa using hl
      have i1 := ih (n / A.length) (Nat.lt_succ_of_le (Nat.div_le_self ..)) (sg ++ [A.getD (n % A.length) 0]) (by simp; omega)
      have e0 : (sg ++ [A.getD (n % A.length) 0] ++ (wa A (n / A.length)).reverse).map sign = (sg ++ (wa A (n + 1)).reverse).map sign := by
        rw [wa_succ]; simp
      rw [e0] at i1
      refine whileM_true (ρ1 := [some (false, S A), x1, some (true, .lst (sg.map sign)), some (false, .int (n + 1 : Nat))]) ?_ ?_ i1
      · have : (0 : Int) < (n + 1 : Nat) := by omega
        generalize sg.map sign = Z
        generalize ((n + 1 : Nat) : Int) = q at this ⊢
        simp -implicitDefEqProofs [this, bind_run, pure_run, lift_run, ite_run, bad_run, fnOf, runF, argE, seqM, ifM, asT, bin2, bin2v, un1, unL, asF, setM, setIxM, augIxM, augM, retM, giveM, dropM, look, take, put, frz1, ownsAny, owns, store, change, mutM, onL, isB, truM, truP, MC.notM, MC.andM, MC.orM, chain, tupM, lstM, consM, outs, callM, valM, slotM, argSlots, frzS, resolve, ioSlots, setIo, itemsM, itemsOf, PV.flat, strM, andV, orV, notV, slM, slMv, asInt, str_len, addP_ii, addP_ib, addP_ss, addP_ll, addP_tt, iaddP_ii, subP_ii, mulP_ii, mulP_si, fdivP_ii, modP_ii, negP_i, absP_i, intP_i, intP_b, ltP_ii, leP_ii, gtP_ii, geP_ii, ltP_ss, leP_ss, gtP_ss, geP_ss, eqP_ii, eqP_ss, neP_ii, neP_ss, isP_b, isNotP_b, inP_1, notInP_1, lenP_s, lenP_l, lenP_t, lenP_q, listP_s, listP_l, listP_t, tupleP_l, tupleP_t, ixP_l, ixP_t, ixP_q, ixP_s, atI_nat, atI_2, atI_3, atI_4, atI_0, atI_1, atI_last, setV_l, getV_l, ixN_nat, ixN_2, ixN_3, ixN_4, ixN_0, ixN_1, popP_n, appendP_1, extendP_l, slP_to, slP_from, MC.when, fl]
      · rw [List.map_append]
        have ap := appendP_1 (xs := sg.map sign) (x := S [A.getD (n % A.length) 0]) (by rw [List.length_map]; omega)
        have dv := divOk_small pos ha
        have nz : (A.length : Int) ≠ 0 := by omega
        have md : (n : Int).fmod A.length = ((n % A.length : Nat) : Int) := by rw [Int.fmod_eq_emod_of_nonneg _ (by omega)]; rfl
        have qt : (n : Int).fdiv A.length = ((n / A.length : Nat) : Int) := by rw [Int.fdiv_eq_ediv_of_nonneg _ (by omega)]; rfl
        have at_ : A[n % A.length]? = some (A.getD (n % A.length) 0) := (getD_mem hA n).1
        show bd1_word_at _ = some (Fl.nx, [some (false, S A), x1, some (true, .lst (sg.map sign ++ [S [A.getD (n % A.length) 0]])), _])
        generalize A.getD (n % A.length) 0 = c at ap at_ ⊢
        generalize sg.map sign = Z at ap ⊢
        unfold bd1_word_at
        refine seq_nx (ρ' := [some (false, S A), x1, some (true, .lst Z), some (false, .int n)]) ?_ (seq_nx (ρ' := [some (false, S A), x1, some (true, .lst (Z ++ [S [c]])), some (false, .int n)]) ?_ ?_)
        · have : ((n + 1 : Nat) : Int) - 1 = n := by omega
          simp -implicitDefEqProofs [this, bind_run, pure_run, lift_run, ite_run, bad_run, fnOf, runF, argE, seqM, ifM, asT, bin2, bin2v, un1, unL, asF, setM, setIxM, augIxM, augM, retM, giveM, dropM, look, take, put, frz1, ownsAny, owns, store, change, mutM, onL, isB, truM, truP, MC.notM, MC.andM, MC.orM, chain, tupM, lstM, consM, outs, callM, valM, slotM, argSlots, frzS, resolve, ioSlots, setIo, itemsM, itemsOf, PV.flat, strM, andV, orV, notV, slM, slMv, asInt, str_len, addP_ii, addP_ib, addP_ss, addP_ll, addP_tt, iaddP_ii, subP_ii, mulP_ii, mulP_si, fdivP_ii, modP_ii, negP_i, absP_i, intP_i, intP_b, ltP_ii, leP_ii, gtP_ii, geP_ii, ltP_ss, leP_ss, gtP_ss, geP_ss, eqP_ii, eqP_ss, neP_ii, neP_ss, isP_b, isNotP_b, inP_1, notInP_1, lenP_s, lenP_l, lenP_t, lenP_q, listP_s, listP_l, listP_t, tupleP_l, tupleP_t, ixP_l, ixP_t, ixP_q, ixP_s, atI_nat, atI_2, atI_3, atI_4, atI_0, atI_1, atI_last, setV_l, getV_l, ixN_nat, ixN_2, ixN_3, ixN_4, ixN_0, ixN_1, popP_n, appendP_1, extendP_l, slP_to, slP_from, MC.when, fl]
        · generalize n % A.length = q at md at_
          have mo := modP_ii (i := n) nz
          rw [md] at mo
          simp -implicitDefEqProofs [fA, mo, at_, ap, bind_run, pure_run, lift_run, ite_run, bad_run, fnOf, runF, argE, seqM, ifM, asT, bin2, bin2v, un1, unL, asF, setM, setIxM, augIxM, augM, retM, giveM, dropM, look, take, put, frz1, ownsAny, owns, store, change, mutM, onL, isB, truM, truP, MC.notM, MC.andM, MC.orM, chain, tupM, lstM, consM, outs, callM, valM, slotM, argSlots, frzS, resolve, ioSlots, setIo, itemsM, itemsOf, PV.flat, strM, andV, orV, notV, slM, slMv, asInt, str_len, addP_ii, addP_ib, addP_ss, addP_ll, addP_tt, iaddP_ii, subP_ii, mulP_ii, mulP_si, fdivP_ii, modP_ii, negP_i, absP_i, intP_i, intP_b, ltP_ii, leP_ii, gtP_ii, geP_ii, ltP_ss, leP_ss, gtP_ss, geP_ss, eqP_ii, eqP_ss, neP_ii, neP_ss, isP_b, isNotP_b, inP_1, notInP_1, lenP_s, lenP_l, lenP_t, lenP_q, listP_s, listP_l, listP_t, tupleP_l, tupleP_t, ixP_l, ixP_t, ixP_q, ixP_s, atI_nat, atI_2, atI_3, atI_4, atI_0, atI_1, atI_last, setV_l, getV_l, ixN_nat, ixN_2, ixN_3, ixN_4, ixN_0, ixN_1, popP_n, appendP_1, extendP_l, slP_to, slP_from, MC.when, fl]
        · generalize n / A.length = q at qt ⊢
          simp -implicitDefEqProofs [fA, dv, qt, bind_run, pure_run, lift_run, ite_run, bad_run, fnOf, runF, argE, seqM, ifM, asT, bin2, bin2v, un1, unL, asF, setM, setIxM, augIxM, augM, retM, giveM, dropM, look, take, put, frz1, ownsAny, owns, store, change, mutM, onL, isB, truM, truP, MC.notM, MC.andM, MC.orM, chain, tupM, lstM, consM, outs, callM, valM, slotM, argSlots, frzS, resolve, ioSlots, setIo, itemsM, itemsOf, PV.flat, strM, andV, orV, notV, slM, slMv, asInt, str_len, addP_ii, addP_ib, addP_ss, addP_ll, addP_tt, iaddP_ii, subP_ii, mulP_ii, mulP_si, fdivP_ii, modP_ii, negP_i, absP_i, intP_i, intP_b, ltP_ii, leP_ii, gtP_ii, geP_ii, ltP_ss, leP_ss, gtP_ss, geP_ss, eqP_ii, eqP_ss, neP_ii, neP_ss, isP_b, isNotP_b, inP_1, notInP_1, lenP_s, lenP_l, lenP_t, lenP_q, listP_s, listP_l, listP_t, tupleP_l, tupleP_t, ixP_l, ixP_t, ixP_q, ixP_s, atI_nat, atI_2, atI_3, atI_4, atI_0, atI_1, atI_last, setV_l, getV_l, ixN_nat, ixN_2, ixN_3, ixN_4, ixN_0, ixN_1, popP_n, appendP_1, extendP_l, slP_to, slP_from, MC.when, fl]
theorem joinRev_ok (w : List Nat) (h : w.length ≤ 1000) : joinRevP ⟨⟨[]⟩⟩ (.lst (w.reverse.map sign)) = some (false, S w) := by
  show joinP ⟨⟨[]⟩⟩ [.lst (w.reverse.map sign).reverse] = _
  rw [← List.map_reverse, List.reverse_reverse]
  exact joinP_sign w h
theorem at_ok {A : List Nat} (hA : A ≠ []) (ha : A.length ≤ 1000) {n : Nat} (hl : (wa A n).length ≤ 1000) : F_word_at [S A, .int n] = some ((false, S (wa A n)), []) := by
  have h0 : lstM (pure []) [some (false, S A), some (false, .int n), none, none] = some ((true, .lst []), [some (false, S A), some (false, .int n), none, none]) := by
    simp -implicitDefEqProofs [f0, bind_run, pure_run, lift_run, ite_run, bad_run, fnOf, runF, argE, seqM, ifM, asT, bin2, bin2v, un1, unL, asF, setM, setIxM, augIxM, augM, retM, giveM, dropM, look, take, put, frz1, ownsAny, owns, store, change, mutM, onL, isB, truM, truP, MC.notM, MC.andM, MC.orM, chain, tupM, lstM, consM, outs, callM, valM, slotM, argSlots, frzS, resolve, ioSlots, setIo, itemsM, itemsOf, PV.flat, strM, andV, orV, notV, slM, slMv, asInt, str_len, addP_ii, addP_ib, addP_ss, addP_ll, addP_tt, iaddP_ii, subP_ii, mulP_ii, mulP_si, fdivP_ii, modP_ii, negP_i, absP_i, intP_i, intP_b, ltP_ii, leP_ii, gtP_ii, geP_ii, ltP_ss, leP_ss, gtP_ss, geP_ss, eqP_ii, eqP_ss, neP_ii, neP_ss, isP_b, isNotP_b, inP_1, notInP_1, lenP_s, lenP_l, lenP_t, lenP_q, listP_s, listP_l, listP_t, tupleP_l, tupleP_t, ixP_l, ixP_t, ixP_q, ixP_s, atI_nat, atI_2, atI_3, atI_4, atI_0, atI_1, atI_last, setV_l, getV_l, ixN_nat, ixN_2, ixN_3, ixN_4, ixN_0, ixN_1, popP_n, appendP_1, extendP_l, slP_to, slP_from, MC.when, fl]
  have lp := at_loop hA ha (some (false, .int n)) n [] (by simpa using hl)
  rw [List.nil_append] at lp
  have jn := joinRev_ok (wa A n) hl
  refine fn_run rfl rfl (ρ := [some (false, S A), some (false, .int n), some (false, .lst ((wa A n).reverse.map sign)), some (false, .int 0)]) (seq_nx (set_run h0) (seq_nx (set_run (x := (false, .int n)) rfl) (seq_nx lp (ret_run (x := (false, S (wa A n))) ?_)))) rfl
  generalize (wa A n).reverse.map sign = Z at jn ⊢
  generalize wa A n = w at jn ⊢
  simp -implicitDefEqProofs [joinRevM, lit_e, jn, bind_run, pure_run, lift_run, ite_run, bad_run, fnOf, runF, argE, seqM, ifM, asT, bin2, bin2v, un1, unL, asF, setM, setIxM, augIxM, augM, retM, giveM, dropM, look, take, put, frz1, ownsAny, owns, store, change, mutM, onL, isB, truM, truP, MC.notM, MC.andM, MC.orM, chain, tupM, lstM, consM, outs, callM, valM, slotM, argSlots, frzS, resolve, ioSlots, setIo, itemsM, itemsOf, PV.flat, strM, andV, orV, notV, slM, slMv, asInt, str_len, addP_ii, addP_ib, addP_ss, addP_ll, addP_tt, iaddP_ii, subP_ii, mulP_ii, mulP_si, fdivP_ii, modP_ii, negP_i, absP_i, intP_i, intP_b, ltP_ii, leP_ii, gtP_ii, geP_ii, ltP_ss, leP_ss, gtP_ss, geP_ss, eqP_ii, eqP_ss, neP_ii, neP_ss, isP_b, isNotP_b, inP_1, notInP_1, lenP_s, lenP_l, lenP_t, lenP_q, listP_s, listP_l, listP_t, tupleP_l, tupleP_t, ixP_l, ixP_t, ixP_q, ixP_s, atI_nat, atI_2, atI_3, atI_4, atI_0, atI_1, atI_last, setV_l, getV_l, ixN_nat, ixN_2, ixN_3, ixN_4, ixN_0, ixN_1, popP_n, appendP_1, extendP_l, slP_to, slP_from, MC.when, fl]
theorem is_word_ok {A w : List Nat} (hw : w.length ≤ 1000) (h : ∀ c ∈ w, c ∈ A) : F_is_word [S A, S w] = some ((false, .bl true), []) := by
  have lc : lc1_is_word [some (false, S A), some (false, S w), none] = some ((true, .lst (w.map fun _ => .bl true)), [some (false, S A), some (false, S w), none]) := by
    have lp := lcLoop_pure (vs := [2]) (h := put 2 false) (ft := pure true) (fe := asF (bin2v 2 (look 0) inP)) (ρ := [some (false, S A), some (false, S w), none]) (fun _ => true) (fun _ => PV.bl true) (w.map sign) fun x hx => by
      obtain ⟨c, hc, rfl⟩ := List.mem_map.mp hx
      have hm := h c hc
      refine ⟨_, rfl, fun _ => ⟨[some (false, S A), some (false, S w), some (false, .str ⟨⟨[c]⟩⟩)], ?_, rfl⟩, fun z => nomatch z⟩
      show asF _ [some (false, S A), some (false, S w), some (false, .str ⟨⟨[c]⟩⟩)] = _
      simp -implicitDefEqProofs [hm, bind_run, pure_run, lift_run, ite_run, bad_run, fnOf, runF, argE, seqM, ifM, asT, bin2, bin2v, un1, unL, asF, setM, setIxM, augIxM, augM, retM, giveM, dropM, look, take, put, frz1, ownsAny, owns, store, change, mutM, onL, isB, truM, truP, MC.notM, MC.andM, MC.orM, chain, tupM, lstM, consM, outs, callM, valM, slotM, argSlots, frzS, resolve, ioSlots, setIo, itemsM, itemsOf, PV.flat, strM, andV, orV, notV, slM, slMv, asInt, str_len, addP_ii, addP_ib, addP_ss, addP_ll, addP_tt, iaddP_ii, subP_ii, mulP_ii, mulP_si, fdivP_ii, modP_ii, negP_i, absP_i, intP_i, intP_b, ltP_ii, leP_ii, gtP_ii, geP_ii, ltP_ss, leP_ss, gtP_ss, geP_ss, eqP_ii, eqP_ss, neP_ii, neP_ss, isP_b, isNotP_b, inP_1, notInP_1, lenP_s, lenP_l, lenP_t, lenP_q, listP_s, listP_l, listP_t, tupleP_l, tupleP_t, ixP_l, ixP_t, ixP_q, ixP_s, atI_nat, atI_2, atI_3, atI_4, atI_0, atI_1, atI_last, setV_l, getV_l, ixN_nat, ixN_2, ixN_3, ixN_4, ixN_0, ixN_1, popP_n, appendP_1, extendP_l, slP_to, slP_from, MC.when, fl]
    rw [List.filter_eq_self.mpr (fun _ _ => rfl), List.map_map] at lp
    unfold lc1_is_word lcM
    exact bind_of (a := w.map sign) (ρ' := [some (false, S A), some (false, S w), none]) rfl (bind_of (within_run rfl lp rfl) (lst_run (by rw [List.length_map]; omega)))
  have ap := allP_true w
  refine fn_run rfl rfl (ρ := [some (false, S A), some (false, S w), none]) (seq_nx (ρ' := [some (false, S A), some (false, S w), none]) (if_f (ρ' := [some (false, S A), some (false, S w), none]) ?_ rfl) (ret_run (x := (false, .bl true)) ?_)) rfl
  · simp -implicitDefEqProofs [isi_ss, bind_run, pure_run, lift_run, ite_run, bad_run, fnOf, runF, argE, seqM, ifM, asT, bin2, bin2v, un1, unL, asF, setM, setIxM, augIxM, augM, retM, giveM, dropM, look, take, put, frz1, ownsAny, owns, store, change, mutM, onL, isB, truM, truP, MC.notM, MC.andM, MC.orM, chain, tupM, lstM, consM, outs, callM, valM, slotM, argSlots, frzS, resolve, ioSlots, setIo, itemsM, itemsOf, PV.flat, strM, andV, orV, notV, slM, slMv, asInt, str_len, addP_ii, addP_ib, addP_ss, addP_ll, addP_tt, iaddP_ii, subP_ii, mulP_ii, mulP_si, fdivP_ii, modP_ii, negP_i, absP_i, intP_i, intP_b, ltP_ii, leP_ii, gtP_ii, geP_ii, ltP_ss, leP_ss, gtP_ss, geP_ss, eqP_ii, eqP_ss, neP_ii, neP_ss, isP_b, isNotP_b, inP_1, notInP_1, lenP_s, lenP_l, lenP_t, lenP_q, listP_s, listP_l, listP_t, tupleP_l, tupleP_t, ixP_l, ixP_t, ixP_q, ixP_s, atI_nat, atI_2, atI_3, atI_4, atI_0, atI_1, atI_last, setV_l, getV_l, ixN_nat, ixN_2, ixN_3, ixN_4, ixN_0, ixN_1, popP_n, appendP_1, extendP_l, slP_to, slP_from, MC.when, fl]
  · generalize w.map (fun _ => PV.bl true) = Z at lc ap
    simp -implicitDefEqProofs [lc, ap, bind_run, pure_run, lift_run, ite_run, bad_run, fnOf, runF, argE, seqM, ifM, asT, bin2, bin2v, un1, unL, asF, setM, setIxM, augIxM, augM, retM, giveM, dropM, look, take, put, frz1, ownsAny, owns, store, change, mutM, onL, isB, truM, truP, MC.notM, MC.andM, MC.orM, chain, tupM, lstM, consM, outs, callM, valM, slotM, argSlots, frzS, resolve, ioSlots, setIo, itemsM, itemsOf, PV.flat, strM, andV, orV, notV, slM, slMv, asInt, str_len, addP_ii, addP_ib, addP_ss, addP_ll, addP_tt, iaddP_ii, subP_ii, mulP_ii, mulP_si, fdivP_ii, modP_ii, negP_i, absP_i, intP_i, intP_b, ltP_ii, leP_ii, gtP_ii, geP_ii, ltP_ss, leP_ss, gtP_ss, geP_ss, eqP_ii, eqP_ss, neP_ii, neP_ss, isP_b, isNotP_b, inP_1, notInP_1, lenP_s, lenP_l, lenP_t, lenP_q, listP_s, listP_l, listP_t, tupleP_l, tupleP_t, ixP_l, ixP_t, ixP_q, ixP_s, atI_nat, atI_2, atI_3, atI_4, atI_0, atI_1, atI_last, setV_l, getV_l, ixN_nat, ixN_2, ixN_3, ixN_4, ixN_0, ixN_1, popP_n, appendP_1, extendP_l, slP_to, slP_from, MC.when, fl]
theorem key_ok {w : List Nat} (hw : w.length ≤ 1000) : F_word_key [S w] = some ((false, .tup [.int w.length, S w]), []) := by
  have fw : fits w.length = true := fits_of (by omega)
  have f2 : fits 2 = true := fits_of (by decide)
  refine fn_run rfl rfl (ρ := [some (false, S w)]) (ret_run ?_) rfl
  simp -implicitDefEqProofs [fw, f2, bind_run, pure_run, lift_run, ite_run, bad_run, fnOf, runF, argE, seqM, ifM, asT, bin2, bin2v, un1, unL, asF, setM, setIxM, augIxM, augM, retM, giveM, dropM, look, take, put, frz1, ownsAny, owns, store, change, mutM, onL, isB, truM, truP, MC.notM, MC.andM, MC.orM, chain, tupM, lstM, consM, outs, callM, valM, slotM, argSlots, frzS, resolve, ioSlots, setIo, itemsM, itemsOf, PV.flat, strM, andV, orV, notV, slM, slMv, asInt, str_len, addP_ii, addP_ib, addP_ss, addP_ll, addP_tt, iaddP_ii, subP_ii, mulP_ii, mulP_si, fdivP_ii, modP_ii, negP_i, absP_i, intP_i, intP_b, ltP_ii, leP_ii, gtP_ii, geP_ii, ltP_ss, leP_ss, gtP_ss, geP_ss, eqP_ii, eqP_ss, neP_ii, neP_ss, isP_b, isNotP_b, inP_1, notInP_1, lenP_s, lenP_l, lenP_t, lenP_q, listP_s, listP_l, listP_t, tupleP_l, tupleP_t, ixP_l, ixP_t, ixP_q, ixP_s, atI_nat, atI_2, atI_3, atI_4, atI_0, atI_1, atI_last, setV_l, getV_l, ixN_nat, ixN_2, ixN_3, ixN_4, ixN_0, ixN_1, popP_n, appendP_1, extendP_l, slP_to, slP_from, MC.when, fl]
end MC.Law
set_option Elab.async false
set_option linter.all false
set_option maxRecDepth 100000
set_option maxHeartbeats 4000000
namespace MC.Law
open PySem
theorem is_num1 (i : Int) : F__law_is_number [.int i, .int i] = some ((false, .bl true), []) := by
  have := is_number i i
  rw [decide_eq_true rfl] at this; exact this
theorem is_text1 {a : List Nat} (ha : low a = true) : F__law_is_text [S a, S a] = some ((false, .bl true), []) := by
  have := is_text ha ha
  rw [decide_eq_true rfl] at this; exact this
theorem places_step {A w : List Nat} {Z : List PV} {n k : Int} {x4 : Option (Bool × PV)} (e1 : F_word_rank [S A, S w] = some ((false, .int k), [])) (e2 : F_word_at [S A, .int k] = some ((false, S w), [])) (e3 : F_is_word [S A, S w] = some ((false, .bl true), []))
    (hw : w.length ≤ 1000) (lw : low w = true) (hz : L2.atI Z k = some (S w)) :
    bd1__law_places_stand [some (false, S A), some (false, .int n), some (true, .lst Z), some (false, .int k), x4] = some (.nx, [some (false, S A), some (false, .int n), some (true, .lst Z), some (false, .int k), some (false, .tup [.int w.length, S w])]) := by
  have fw : fits w.length = true := fits_of (by omega)
  have k1 := key_ok hw
  have n1 := is_num1 k
  have n2 := is_num1 w.length
  have t1 := is_text1 lw
  unfold bd1__law_places_stand
  refine seq_nx (ρ' := [some (false, S A), some (false, .int n), some (true, .lst Z), some (false, .int k), x4]) (if_f (ρ' := [some (false, S A), some (false, .int n), some (true, .lst Z), some (false, .int k), x4]) ?_ rfl) ?_
  · simp -implicitDefEqProofs [hz, e1, e2, n1, t1, bind_run, pure_run, lift_run, ite_run, bad_run, fnOf, runF, argE, seqM, ifM, asT, bin2, bin2v, un1, unL, asF, setM, setIxM, augIxM, augM, retM, giveM, dropM, look, take, put, frz1, ownsAny, owns, store, change, mutM, onL, isB, truM, truP, MC.notM, MC.andM, MC.orM, chain, tupM, lstM, consM, outs, callM, valM, slotM, argSlots, frzS, resolve, ioSlots, setIo, itemsM, itemsOf, PV.flat, strM, andV, orV, notV, slM, slMv, asInt, str_len, addP_ii, addP_ib, addP_ss, addP_ll, addP_tt, iaddP_ii, subP_ii, mulP_ii, mulP_si, fdivP_ii, modP_ii, negP_i, absP_i, intP_i, intP_b, ltP_ii, leP_ii, gtP_ii, geP_ii, ltP_ss, leP_ss, gtP_ss, geP_ss, eqP_ii, eqP_ss, neP_ii, neP_ss, isP_b, isNotP_b, inP_1, notInP_1, lenP_s, lenP_l, lenP_t, lenP_q, listP_s, listP_l, listP_t, tupleP_l, tupleP_t, ixP_l, ixP_t, ixP_q, ixP_s, atI_nat, atI_2, atI_3, atI_4, atI_0, atI_1, atI_last, setV_l, getV_l, ixN_nat, ixN_2, ixN_3, ixN_4, ixN_0, ixN_1, popP_n, appendP_1, extendP_l, slP_to, slP_from, MC.when, fl]
  refine seq_nx (ρ' := [some (false, S A), some (false, .int n), some (true, .lst Z), some (false, .int k), some (false, .tup [.int w.length, S w])]) ?_ ?_
  · simp -implicitDefEqProofs [hz, k1, bind_run, pure_run, lift_run, ite_run, bad_run, fnOf, runF, argE, seqM, ifM, asT, bin2, bin2v, un1, unL, asF, setM, setIxM, augIxM, augM, retM, giveM, dropM, look, take, put, frz1, ownsAny, owns, store, change, mutM, onL, isB, truM, truP, MC.notM, MC.andM, MC.orM, chain, tupM, lstM, consM, outs, callM, valM, slotM, argSlots, frzS, resolve, ioSlots, setIo, itemsM, itemsOf, PV.flat, strM, andV, orV, notV, slM, slMv, asInt, str_len, addP_ii, addP_ib, addP_ss, addP_ll, addP_tt, iaddP_ii, subP_ii, mulP_ii, mulP_si, fdivP_ii, modP_ii, negP_i, absP_i, intP_i, intP_b, ltP_ii, leP_ii, gtP_ii, geP_ii, ltP_ss, leP_ss, gtP_ss, geP_ss, eqP_ii, eqP_ss, neP_ii, neP_ss, isP_b, isNotP_b, inP_1, notInP_1, lenP_s, lenP_l, lenP_t, lenP_q, listP_s, listP_l, listP_t, tupleP_l, tupleP_t, ixP_l, ixP_t, ixP_q, ixP_s, atI_nat, atI_2, atI_3, atI_4, atI_0, atI_1, atI_last, setV_l, getV_l, ixN_nat, ixN_2, ixN_3, ixN_4, ixN_0, ixN_1, popP_n, appendP_1, extendP_l, slP_to, slP_from, MC.when, fl]
  refine seq_nx (ρ' := [some (false, S A), some (false, .int n), some (true, .lst Z), some (false, .int k), some (false, .tup [.int w.length, S w])]) (if_f (ρ' := [some (false, S A), some (false, .int n), some (true, .lst Z), some (false, .int k), some (false, .tup [.int w.length, S w])]) ?_ rfl) ?_
  · simp -implicitDefEqProofs [isi_tt, bind_run, pure_run, lift_run, ite_run, bad_run, fnOf, runF, argE, seqM, ifM, asT, bin2, bin2v, un1, unL, asF, setM, setIxM, augIxM, augM, retM, giveM, dropM, look, take, put, frz1, ownsAny, owns, store, change, mutM, onL, isB, truM, truP, MC.notM, MC.andM, MC.orM, chain, tupM, lstM, consM, outs, callM, valM, slotM, argSlots, frzS, resolve, ioSlots, setIo, itemsM, itemsOf, PV.flat, strM, andV, orV, notV, slM, slMv, asInt, str_len, addP_ii, addP_ib, addP_ss, addP_ll, addP_tt, iaddP_ii, subP_ii, mulP_ii, mulP_si, fdivP_ii, modP_ii, negP_i, absP_i, intP_i, intP_b, ltP_ii, leP_ii, gtP_ii, geP_ii, ltP_ss, leP_ss, gtP_ss, geP_ss, eqP_ii, eqP_ss, neP_ii, neP_ss, isP_b, isNotP_b, inP_1, notInP_1, lenP_s, lenP_l, lenP_t, lenP_q, listP_s, listP_l, listP_t, tupleP_l, tupleP_t, ixP_l, ixP_t, ixP_q, ixP_s, atI_nat, atI_2, atI_3, atI_4, atI_0, atI_1, atI_last, setV_l, getV_l, ixN_nat, ixN_2, ixN_3, ixN_4, ixN_0, ixN_1, popP_n, appendP_1, extendP_l, slP_to, slP_from, MC.when, fl]
  refine seq_nx (ρ' := [some (false, S A), some (false, .int n), some (true, .lst Z), some (false, .int k), some (false, .tup [.int w.length, S w])]) (if_f (ρ' := [some (false, S A), some (false, .int n), some (true, .lst Z), some (false, .int k), some (false, .tup [.int w.length, S w])]) ?_ rfl) ?_
  · simp -implicitDefEqProofs [hz, n2, t1, fw, bind_run, pure_run, lift_run, ite_run, bad_run, fnOf, runF, argE, seqM, ifM, asT, bin2, bin2v, un1, unL, asF, setM, setIxM, augIxM, augM, retM, giveM, dropM, look, take, put, frz1, ownsAny, owns, store, change, mutM, onL, isB, truM, truP, MC.notM, MC.andM, MC.orM, chain, tupM, lstM, consM, outs, callM, valM, slotM, argSlots, frzS, resolve, ioSlots, setIo, itemsM, itemsOf, PV.flat, strM, andV, orV, notV, slM, slMv, asInt, str_len, addP_ii, addP_ib, addP_ss, addP_ll, addP_tt, iaddP_ii, subP_ii, mulP_ii, mulP_si, fdivP_ii, modP_ii, negP_i, absP_i, intP_i, intP_b, ltP_ii, leP_ii, gtP_ii, geP_ii, ltP_ss, leP_ss, gtP_ss, geP_ss, eqP_ii, eqP_ss, neP_ii, neP_ss, isP_b, isNotP_b, inP_1, notInP_1, lenP_s, lenP_l, lenP_t, lenP_q, listP_s, listP_l, listP_t, tupleP_l, tupleP_t, ixP_l, ixP_t, ixP_q, ixP_s, atI_nat, atI_2, atI_3, atI_4, atI_0, atI_1, atI_last, setV_l, getV_l, ixN_nat, ixN_2, ixN_3, ixN_4, ixN_0, ixN_1, popP_n, appendP_1, extendP_l, slP_to, slP_from, MC.when, fl]
  refine if_f (ρ' := [some (false, S A), some (false, .int n), some (true, .lst Z), some (false, .int k), some (false, .tup [.int w.length, S w])]) ?_ rfl
  simp -implicitDefEqProofs [hz, e3, bind_run, pure_run, lift_run, ite_run, bad_run, fnOf, runF, argE, seqM, ifM, asT, bin2, bin2v, un1, unL, asF, setM, setIxM, augIxM, augM, retM, giveM, dropM, look, take, put, frz1, ownsAny, owns, store, change, mutM, onL, isB, truM, truP, MC.notM, MC.andM, MC.orM, chain, tupM, lstM, consM, outs, callM, valM, slotM, argSlots, frzS, resolve, ioSlots, setIo, itemsM, itemsOf, PV.flat, strM, andV, orV, notV, slM, slMv, asInt, str_len, addP_ii, addP_ib, addP_ss, addP_ll, addP_tt, iaddP_ii, subP_ii, mulP_ii, mulP_si, fdivP_ii, modP_ii, negP_i, absP_i, intP_i, intP_b, ltP_ii, leP_ii, gtP_ii, geP_ii, ltP_ss, leP_ss, gtP_ss, geP_ss, eqP_ii, eqP_ss, neP_ii, neP_ss, isP_b, isNotP_b, inP_1, notInP_1, lenP_s, lenP_l, lenP_t, lenP_q, listP_s, listP_l, listP_t, tupleP_l, tupleP_t, ixP_l, ixP_t, ixP_q, ixP_s, atI_nat, atI_2, atI_3, atI_4, atI_0, atI_1, atI_last, setV_l, getV_l, ixN_nat, ixN_2, ixN_3, ixN_4, ixN_0, ixN_1, popP_n, appendP_1, extendP_l, slP_to, slP_from, MC.when, fl]
theorem places_stand {A : List Nat} {m n : Nat} (a : Al A m) (hA : A ≠ []) (B : Bd A n) (hB : ∀ i, i < n → (wl A i).length * A.length ≤ 900) : F__law_places_stand [S A, .int n] = some ((false, .bl true), []) := by
  have hn := B.m
  have e0 := lw_ok B hB
  have hv := B.v (n + 1) (by omega)
  have ha := B.a
  obtain ⟨ρ', h1, x3, x4, rfl⟩ := forM_inv (h := put 3 false) (f := bd1__law_places_stand) (fun i ρ => ∃ x3 x4, ρ = [some (false, S A), some (false, .int n), some (true, .lst ((wv A (n + 1)).map S)), x3, x4]) (rangeL 0 (wv A (n + 1)).length) 0 [some (false, S A), some (false, .int n), some (true, .lst ((wv A (n + 1)).map S)), none, none] ⟨none, none, rfl⟩ (by
    rintro i x _ hx ⟨x3, x4, rfl⟩
    obtain ⟨hi, rfl⟩ := range_get hx
    have hw : (wv A (n + 1))[i]? = some (wv A (n + 1))[i] := List.getElem?_eq_getElem hi
    have hm : (wv A (n + 1))[i] ∈ wv A (n + 1) := List.getElem_mem hi
    generalize (wv A (n + 1))[i] = w at hw hm
    obtain ⟨k, hk, hwk⟩ := wv_mem hm
    have wm := wl_mem hwk
    have wlen := wl_len hwk
    have r1 := wv_rk a.nd hA _ hw
    have e1 := rank_ok a.nd (by omega) wm
    rw [r1] at e1
    have w1 := wa_rk a.nd w wm
    rw [r1] at w1
    have e2 := at_ok hA (by omega) (n := i) (by rw [w1]; omega)
    rw [w1] at e2
    have e3 := is_word_ok (by omega) wm
    have hz : L2.atI ((wv A (n + 1)).map S) (i : Int) = some (S w) := by rw [atI_nat, List.getElem?_map, hw]; rfl
    exact ⟨_, .inl (bind_of rfl (places_step e1 e2 e3 (by omega) (wv_low a hm) hz)), _, _, rfl⟩)
  have hl : asF (un1 (look 2) lenP) [some (false, S A), some (false, .int n), some (true, .lst ((wv A (n + 1)).map S)), none, none] = some (.int (wv A (n + 1)).length, [some (false, S A), some (false, .int n), some (true, .lst ((wv A (n + 1)).map S)), none, none]) := by
    have := List.length_map (as := wv A (n + 1)) S
    generalize (wv A (n + 1)).map S = Z at this ⊢
    simp -implicitDefEqProofs [this, bind_run, pure_run, lift_run, ite_run, bad_run, fnOf, runF, argE, seqM, ifM, asT, bin2, bin2v, un1, unL, asF, setM, setIxM, augIxM, augM, retM, giveM, dropM, look, take, put, frz1, ownsAny, owns, store, change, mutM, onL, isB, truM, truP, MC.notM, MC.andM, MC.orM, chain, tupM, lstM, consM, outs, callM, valM, slotM, argSlots, frzS, resolve, ioSlots, setIo, itemsM, itemsOf, PV.flat, strM, andV, orV, notV, slM, slMv, asInt, str_len, addP_ii, addP_ib, addP_ss, addP_ll, addP_tt, iaddP_ii, subP_ii, mulP_ii, mulP_si, fdivP_ii, modP_ii, negP_i, absP_i, intP_i, intP_b, ltP_ii, leP_ii, gtP_ii, geP_ii, ltP_ss, leP_ss, gtP_ss, geP_ss, eqP_ii, eqP_ss, neP_ii, neP_ss, isP_b, isNotP_b, inP_1, notInP_1, lenP_s, lenP_l, lenP_t, lenP_q, listP_s, listP_l, listP_t, tupleP_l, tupleP_t, ixP_l, ixP_t, ixP_q, ixP_s, atI_nat, atI_2, atI_3, atI_4, atI_0, atI_1, atI_last, setV_l, getV_l, ixN_nat, ixN_2, ixN_3, ixN_4, ixN_0, ixN_1, popP_n, appendP_1, extendP_l, slP_to, slP_from, MC.when, fl]
  refine fn_run rfl (ρ0 := [some (false, S A), some (false, .int n), none, none, none]) rfl (seq_nx (set_run (x := (true, .lst ((wv A (n + 1)).map S))) (ρ' := [some (false, S A), some (false, .int n), none, none, none]) ?_) (seq_nx (for_range hl (by omega) h1) (ret_run (x := (false, .bl true)) rfl))) rfl
  generalize (wv A (n + 1)).map S = Z at e0 ⊢
  simp -implicitDefEqProofs [e0, bind_run, pure_run, lift_run, ite_run, bad_run, fnOf, runF, argE, seqM, ifM, asT, bin2, bin2v, un1, unL, asF, setM, setIxM, augIxM, augM, retM, giveM, dropM, look, take, put, frz1, ownsAny, owns, store, change, mutM, onL, isB, truM, truP, MC.notM, MC.andM, MC.orM, chain, tupM, lstM, consM, outs, callM, valM, slotM, argSlots, frzS, resolve, ioSlots, setIo, itemsM, itemsOf, PV.flat, strM, andV, orV, notV, slM, slMv, asInt, str_len, addP_ii, addP_ib, addP_ss, addP_ll, addP_tt, iaddP_ii, subP_ii, mulP_ii, mulP_si, fdivP_ii, modP_ii, negP_i, absP_i, intP_i, intP_b, ltP_ii, leP_ii, gtP_ii, geP_ii, ltP_ss, leP_ss, gtP_ss, geP_ss, eqP_ii, eqP_ss, neP_ii, neP_ss, isP_b, isNotP_b, inP_1, notInP_1, lenP_s, lenP_l, lenP_t, lenP_q, listP_s, listP_l, listP_t, tupleP_l, tupleP_t, ixP_l, ixP_t, ixP_q, ixP_s, atI_nat, atI_2, atI_3, atI_4, atI_0, atI_1, atI_last, setV_l, getV_l, ixN_nat, ixN_2, ixN_3, ixN_4, ixN_0, ixN_1, popP_n, appendP_1, extendP_l, slP_to, slP_from, MC.when, fl]
end MC.Law
set_option Elab.async false
set_option linter.all false
set_option maxRecDepth 100000
set_option maxHeartbeats 4000000
namespace MC.Law
open PySem
def sh (m : Nat) : Nat → Nat
  | 0 => 0
  | n + 1 => sh m n + m ^ n
theorem sh_mul (m : Nat) : ∀ n, sh m n * m + 1 = sh m (n + 1)
  | 0 => by simp [sh]
  | n + 1 => by
    have ih := sh_mul m n
    show (sh m n + m ^ n) * m + 1 = sh m (n + 1) + m ^ (n + 1)
    rw [Nat.add_mul, Nat.pow_succ, ← ih]; omega
def pl (A : List Nat) (w : List Nat) : Nat := w.foldl (fun r c => r * A.length + ix A c) 0
theorem pl_app (A : List Nat) (w : List Nat) (c : Nat) : pl A (w ++ [c]) = pl A w * A.length + ix A c := by unfold pl; rw [List.foldl_append]; rfl
theorem rk_split (A : List Nat) (w : List Nat) : ∀ k, k ≤ w.length → rk A (w.take k) = sh A.length k + pl A (w.take k)
  | 0, _ => by simp [rk, sh, pl]
  | k + 1, h => by
    have ih := rk_split A w k (by omega)
    have e : w.take (k + 1) = w.take k ++ [w[k]] := by rw [List.take_add_one, List.getElem?_eq_getElem (by omega)]; rfl
    rw [e, rk_app, pl_app, ih, ← sh_mul, Nat.add_mul]; omega
theorem before_ok {A w : List Nat} (nd : A.Nodup) (ha : A.length ≤ 1000) (h : ∀ c ∈ w, c ∈ A) : F__law_words_before [S A, S w] = some ((false, .int (rk A w)), []) := by
  have fA : fits A.length = true := fits_of (by omega)
  obtain ⟨ρ', h1, x5, rfl⟩ := forM_inv (h := put 5 false) (f := bd1__law_words_before) (fun i ρ => ∃ x5, ρ = [some (false, S A), some (false, S w), some (false, .int (sh A.length i)), some (false, .int (A.length ^ i : Nat)), some (false, .int (pl A (w.take i))), x5]) (w.map sign) 0 [some (false, S A), some (false, S w), some (false, .int 0), some (false, .int 1), some (false, .int 0), none] ⟨none, rfl⟩ (by
    rintro i x _ hx ⟨x5, rfl⟩
    rw [List.getElem?_map] at hx
    obtain ⟨c, hc, rfl⟩ := Option.map_eq_some_iff.mp hx
    rw [Nat.zero_add]
    refine ⟨_, .inl ?_, ⟨some (false, sign c), rfl⟩⟩
    refine bind_of (ρ' := [some (false, S A), some (false, S w), some (false, .int (sh A.length i)), some (false, .int (A.length ^ i : Nat)), some (false, .int (pl A (w.take i))), some (false, .str ⟨⟨[c]⟩⟩)]) rfl ?_
    have e1 := index_ok nd (h c (List.mem_of_getElem? hc))
    have e2 := mulOk_small (pl A (w.take i)) ha
    have e3 := mulOk_small (A.length ^ i : Nat) ha
    have g1 : ((sh A.length (i + 1) : Nat) : Int) = sh A.length i + (A.length ^ i : Nat) := by show ((sh A.length i + A.length ^ i : Nat) : Int) = _; rw [Int.natCast_add]
    have g2 : ((A.length ^ (i + 1) : Nat) : Int) = (A.length ^ i : Nat) * (A.length : Int) := by rw [Nat.pow_succ, Int.natCast_mul]
    have g3 : ((pl A (w.take (i + 1)) : Nat) : Int) = pl A (w.take i) * A.length + ix A c := by
      rw [List.take_add_one, hc, Option.toList_some, pl_app, Int.natCast_add, Int.natCast_mul]
    rw [g1, g2, g3]
    generalize ((pl A (w.take i) : Nat) : Int) = r at e2 ⊢
    generalize ((A.length ^ i : Nat) : Int) = t at e3 ⊢
    generalize ((sh A.length i : Nat) : Int) = u
    unfold bd1__law_words_before
    refine seq_nx (ρ' := [some (false, S A), some (false, S w), some (false, .int (u + t)), some (false, .int t), some (false, .int r), some (false, .str ⟨⟨[c]⟩⟩)]) ?_ (seq_nx (ρ' := [some (false, S A), some (false, S w), some (false, .int (u + t)), some (false, .int (t * A.length)), some (false, .int r), some (false, .str ⟨⟨[c]⟩⟩)]) ?_ ?_)
    · simp -implicitDefEqProofs [bind_run, pure_run, lift_run, ite_run, bad_run, fnOf, runF, argE, seqM, ifM, asT, bin2, bin2v, un1, unL, asF, setM, setIxM, augIxM, augM, retM, giveM, dropM, look, take, put, frz1, ownsAny, owns, store, change, mutM, onL, isB, truM, truP, MC.notM, MC.andM, MC.orM, chain, tupM, lstM, consM, outs, callM, valM, slotM, argSlots, frzS, resolve, ioSlots, setIo, itemsM, itemsOf, PV.flat, strM, andV, orV, notV, slM, slMv, asInt, str_len, addP_ii, addP_ib, addP_ss, addP_ll, addP_tt, iaddP_ii, subP_ii, mulP_ii, mulP_si, fdivP_ii, modP_ii, negP_i, absP_i, intP_i, intP_b, ltP_ii, leP_ii, gtP_ii, geP_ii, ltP_ss, leP_ss, gtP_ss, geP_ss, eqP_ii, eqP_ss, neP_ii, neP_ss, isP_b, isNotP_b, inP_1, notInP_1, lenP_s, lenP_l, lenP_t, lenP_q, listP_s, listP_l, listP_t, tupleP_l, tupleP_t, ixP_l, ixP_t, ixP_q, ixP_s, atI_nat, atI_2, atI_3, atI_4, atI_0, atI_1, atI_last, setV_l, getV_l, ixN_nat, ixN_2, ixN_3, ixN_4, ixN_0, ixN_1, popP_n, appendP_1, extendP_l, slP_to, slP_from, MC.when, fl]
    · simp -implicitDefEqProofs [fA, e3, bind_run, pure_run, lift_run, ite_run, bad_run, fnOf, runF, argE, seqM, ifM, asT, bin2, bin2v, un1, unL, asF, setM, setIxM, augIxM, augM, retM, giveM, dropM, look, take, put, frz1, ownsAny, owns, store, change, mutM, onL, isB, truM, truP, MC.notM, MC.andM, MC.orM, chain, tupM, lstM, consM, outs, callM, valM, slotM, argSlots, frzS, resolve, ioSlots, setIo, itemsM, itemsOf, PV.flat, strM, andV, orV, notV, slM, slMv, asInt, str_len, addP_ii, addP_ib, addP_ss, addP_ll, addP_tt, iaddP_ii, subP_ii, mulP_ii, mulP_si, fdivP_ii, modP_ii, negP_i, absP_i, intP_i, intP_b, ltP_ii, leP_ii, gtP_ii, geP_ii, ltP_ss, leP_ss, gtP_ss, geP_ss, eqP_ii, eqP_ss, neP_ii, neP_ss, isP_b, isNotP_b, inP_1, notInP_1, lenP_s, lenP_l, lenP_t, lenP_q, listP_s, listP_l, listP_t, tupleP_l, tupleP_t, ixP_l, ixP_t, ixP_q, ixP_s, atI_nat, atI_2, atI_3, atI_4, atI_0, atI_1, atI_last, setV_l, getV_l, ixN_nat, ixN_2, ixN_3, ixN_4, ixN_0, ixN_1, popP_n, appendP_1, extendP_l, slP_to, slP_from, MC.when, fl]
    · simp -implicitDefEqProofs [fA, e1, e2, sign, bind_run, pure_run, lift_run, ite_run, bad_run, fnOf, runF, argE, seqM, ifM, asT, bin2, bin2v, un1, unL, asF, setM, setIxM, augIxM, augM, retM, giveM, dropM, look, take, put, frz1, ownsAny, owns, store, change, mutM, onL, isB, truM, truP, MC.notM, MC.andM, MC.orM, chain, tupM, lstM, consM, outs, callM, valM, slotM, argSlots, frzS, resolve, ioSlots, setIo, itemsM, itemsOf, PV.flat, strM, andV, orV, notV, slM, slMv, asInt, str_len, addP_ii, addP_ib, addP_ss, addP_ll, addP_tt, iaddP_ii, subP_ii, mulP_ii, mulP_si, fdivP_ii, modP_ii, negP_i, absP_i, intP_i, intP_b, ltP_ii, leP_ii, gtP_ii, geP_ii, ltP_ss, leP_ss, gtP_ss, geP_ss, eqP_ii, eqP_ss, neP_ii, neP_ss, isP_b, isNotP_b, inP_1, notInP_1, lenP_s, lenP_l, lenP_t, lenP_q, listP_s, listP_l, listP_t, tupleP_l, tupleP_t, ixP_l, ixP_t, ixP_q, ixP_s, atI_nat, atI_2, atI_3, atI_4, atI_0, atI_1, atI_last, setV_l, getV_l, ixN_nat, ixN_2, ixN_3, ixN_4, ixN_0, ixN_1, popP_n, appendP_1, extendP_l, slP_to, slP_from, MC.when, fl])
  rw [Nat.zero_add, List.length_map] at h1
  have h2 : fo1__law_words_before [some (false, S A), some (false, S w), some (false, .int 0), some (false, .int 1), some (false, .int 0), none] = _ := bind_of (a := w.map sign) (ρ' := [some (false, S A), some (false, S w), some (false, .int 0), some (false, .int 1), some (false, .int 0), none]) rfl h1
  have e := rk_split A w w.length (Nat.le_refl _)
  rw [List.take_length] at e h2
  refine fn_run rfl rfl (seq_nx (set_run (x := (false, .int 0)) rfl) (seq_nx (set_run (x := (false, .int 1)) rfl) (seq_nx (set_run (x := (false, .int 0)) rfl) (seq_nx h2 (ret_run (x := (false, .int (rk A w))) (ρ' := [some (false, S A), some (false, S w), some (false, .int (sh A.length w.length)), some (false, .int (A.length ^ w.length : Nat)), some (false, .int (pl A w)), x5]) ?_))))) rfl
  have e' : ((rk A w : Nat) : Int) = sh A.length w.length + pl A w := by rw [e, Int.natCast_add]
  rw [e']
  generalize ((sh A.length w.length : Nat) : Int) = u
  generalize ((pl A w : Nat) : Int) = v
  generalize ((A.length ^ w.length : Nat) : Int) = t
  simp -implicitDefEqProofs [bind_run, pure_run, lift_run, ite_run, bad_run, fnOf, runF, argE, seqM, ifM, asT, bin2, bin2v, un1, unL, asF, setM, setIxM, augIxM, augM, retM, giveM, dropM, look, take, put, frz1, ownsAny, owns, store, change, mutM, onL, isB, truM, truP, MC.notM, MC.andM, MC.orM, chain, tupM, lstM, consM, outs, callM, valM, slotM, argSlots, frzS, resolve, ioSlots, setIo, itemsM, itemsOf, PV.flat, strM, andV, orV, notV, slM, slMv, asInt, str_len, addP_ii, addP_ib, addP_ss, addP_ll, addP_tt, iaddP_ii, subP_ii, mulP_ii, mulP_si, fdivP_ii, modP_ii, negP_i, absP_i, intP_i, intP_b, ltP_ii, leP_ii, gtP_ii, geP_ii, ltP_ss, leP_ss, gtP_ss, geP_ss, eqP_ii, eqP_ss, neP_ii, neP_ss, isP_b, isNotP_b, inP_1, notInP_1, lenP_s, lenP_l, lenP_t, lenP_q, listP_s, listP_l, listP_t, tupleP_l, tupleP_t, ixP_l, ixP_t, ixP_q, ixP_s, atI_nat, atI_2, atI_3, atI_4, atI_0, atI_1, atI_last, setV_l, getV_l, ixN_nat, ixN_2, ixN_3, ixN_4, ixN_0, ixN_1, popP_n, appendP_1, extendP_l, slP_to, slP_from, MC.when, fl]
/-! the word behind -/
theorem rk_rep {A : List Nat} {a z : Nat} (h0 : ix A a = 0) (hz : ix A z + 1 = A.length) {x y : List Nat} (h : rk A y = rk A x + 1) : ∀ r, rk A (y ++ List.replicate r a) = rk A (x ++ List.replicate r z) + 1
  | 0 => by simpa using h
  | r + 1 => by
    have ih := rk_rep h0 hz h r
    rw [List.replicate_succ', List.replicate_succ', ← List.append_assoc, ← List.append_assoc, rk_app, rk_app, ih, h0, Nat.add_mul]
    omega
theorem rep_flat (n c : Nat) : (List.replicate n [c]).flatten = List.replicate n c := by
  induction n with
  | zero => rfl
  | succ n ih => rw [List.replicate_succ, List.flatten_cons, ih, List.replicate_succ]; rfl
theorem low_1 {A : List Nat} {m : Nat} (a : Al A m) {c : Nat} (h : c ∈ A) : low [c] = true := a.low fun d hd => by rw [List.mem_singleton.mp hd]; exact h
theorem mulS_ok (c : Nat) {n : Nat} (h : n ≤ 1000) : mulP (.str ⟨⟨[c]⟩⟩) (.int n) = some (false, .str ⟨⟨List.replicate n c⟩⟩) := by
  have h1 : decide (-(2 ^ 30) ≤ (n : Int) ∧ (n : Int) < 2 ^ 30) = true := decide_eq_true ⟨by omega, by omega⟩
  have h2 : fits ([c].length * (n : Int).toNat) = true := fits_of (by simp; omega)
  have := mulP_si (a := [c]) (j := n) (by rw [h1, h2]; rfl)
  rw [this, Int.toNat_natCast, rep_flat]
theorem behind_loop {A u : List Nat} {m z : Nat} (a : Al A m) (hz : A.getLast? = some z) (hu : ∀ c ∈ u, c ∈ A) (hend : u = [] ∨ ∃ c, u.getLast? = some c ∧ c ≠ z) (r : Nat) (hl : (u ++ List.replicate r z).length ≤ 1000) (ha : A.length ≤ 1000) (x3 : Option (Bool × PV)) :
    ∀ j, j ≤ r → wh1__law_word_behind [some (false, S A), some (false, S (u ++ List.replicate r z)), some (false, .int ((u.length : Int) + j - 1)), x3] = some (.nx, [some (false, S A), some (false, S (u ++ List.replicate r z)), some (false, .int ((u.length : Int) - 1)), x3]) := by
  have fA : fits A.length = true := fits_of (by omega)
  have fW : fits (u ++ List.replicate r z).length = true := fits_of (by omega)
  have zA : z ∈ A := List.mem_of_getLast? hz
  have lz := low_1 a zA
  intro j
  induction j with
  | zero =>
    intro _
    have e0 : (u.length : Int) + (0 : Nat) - 1 = u.length - 1 := by omega
    rw [e0]
    refine whileM_false ?_
    rcases hend with rfl | ⟨c, hc, ne⟩
    · generalize ([] : List Nat) ++ List.replicate r z = w
      simp -implicitDefEqProofs [bind_run, pure_run, lift_run, ite_run, bad_run, fnOf, runF, argE, seqM, ifM, asT, bin2, bin2v, un1, unL, asF, setM, setIxM, augIxM, augM, retM, giveM, dropM, look, take, put, frz1, ownsAny, owns, store, change, mutM, onL, isB, truM, truP, MC.notM, MC.andM, MC.orM, chain, tupM, lstM, consM, outs, callM, valM, slotM, argSlots, frzS, resolve, ioSlots, setIo, itemsM, itemsOf, PV.flat, strM, andV, orV, notV, slM, slMv, asInt, str_len, addP_ii, addP_ib, addP_ss, addP_ll, addP_tt, iaddP_ii, subP_ii, mulP_ii, mulP_si, fdivP_ii, modP_ii, negP_i, absP_i, intP_i, intP_b, ltP_ii, leP_ii, gtP_ii, geP_ii, ltP_ss, leP_ss, gtP_ss, geP_ss, eqP_ii, eqP_ss, neP_ii, neP_ss, isP_b, isNotP_b, inP_1, notInP_1, lenP_s, lenP_l, lenP_t, lenP_q, listP_s, listP_l, listP_t, tupleP_l, tupleP_t, ixP_l, ixP_t, ixP_q, ixP_s, atI_nat, atI_2, atI_3, atI_4, atI_0, atI_1, atI_last, setV_l, getV_l, ixN_nat, ixN_2, ixN_3, ixN_4, ixN_0, ixN_1, popP_n, appendP_1, extendP_l, slP_to, slP_from, MC.when, fl]
    · have hne : u ≠ [] := by intro q; subst q; cases hc
      have up := List.length_pos_iff.mpr hne
      obtain ⟨k, hk⟩ : ∃ k : Nat, u.length = k + 1 := ⟨u.length - 1, by omega⟩
      have e1 : (u.length : Int) - 1 = (k : Int) := by omega
      have e2 : (u ++ List.replicate r z)[k]? = some c := by
        rw [List.getElem?_append_left (by omega), ← hc, List.getLast?_eq_getElem?]
        congr 1; omega
      have lc := low_1 a (hu c (List.mem_of_getLast? hc))
      have nn : (0 : Int) ≤ k := by omega
      have ne' : ¬ c = z := ne
      rw [e1]
      generalize u ++ List.replicate r z = w at fW e2 ⊢
      simp -implicitDefEqProofs [fA, fW, e2, hz, lc, lz, nn, ne', bind_run, pure_run, lift_run, ite_run, bad_run, fnOf, runF, argE, seqM, ifM, asT, bin2, bin2v, un1, unL, asF, setM, setIxM, augIxM, augM, retM, giveM, dropM, look, take, put, frz1, ownsAny, owns, store, change, mutM, onL, isB, truM, truP, MC.notM, MC.andM, MC.orM, chain, tupM, lstM, consM, outs, callM, valM, slotM, argSlots, frzS, resolve, ioSlots, setIo, itemsM, itemsOf, PV.flat, strM, andV, orV, notV, slM, slMv, asInt, str_len, addP_ii, addP_ib, addP_ss, addP_ll, addP_tt, iaddP_ii, subP_ii, mulP_ii, mulP_si, fdivP_ii, modP_ii, negP_i, absP_i, intP_i, intP_b, ltP_ii, leP_ii, gtP_ii, geP_ii, ltP_ss, leP_ss, gtP_ss, geP_ss, eqP_ii, eqP_ss, neP_ii, neP_ss, isP_b, isNotP_b, inP_1, notInP_1, lenP_s, lenP_l, lenP_t, lenP_q, listP_s, listP_l, listP_t, tupleP_l, tupleP_t, ixP_l, ixP_t, ixP_q, ixP_s, atI_nat, atI_2, atI_3, atI_4, atI_0, atI_1, atI_last, setV_l, getV_l, ixN_nat, ixN_2, ixN_3, ixN_4, ixN_0, ixN_1, popP_n, appendP_1, extendP_l, slP_to, slP_from, MC.when, fl]
  | succ j ih =>
    intro hj
    have i1 := ih (by omega)
    have e1 : (u.length : Int) + (j + 1 : Nat) - 1 = ((u.length + j : Nat) : Int) := by omega
    have e2 : (u ++ List.replicate r z)[u.length + j]? = some z := by
      rw [List.getElem?_append_right (by omega), List.getElem?_replicate]
      rw [if_pos (by omega)]
    have e3 : (u.length : Int) + j - 1 = ((u.length + j : Nat) : Int) - 1 := by omega
    rw [e1]
    rw [e3] at i1
    have nn : (0 : Int) ≤ ((u.length + j : Nat) : Int) := by omega
    generalize u.length + j = k at *
    generalize u ++ List.replicate r z = w at *
    refine whileM_true (ρ1 := [some (false, S A), some (false, S w), some (false, .int k), x3]) ?_ ?_ i1
    · simp -implicitDefEqProofs [fA, fW, e2, hz, lz, nn, bind_run, pure_run, lift_run, ite_run, bad_run, fnOf, runF, argE, seqM, ifM, asT, bin2, bin2v, un1, unL, asF, setM, setIxM, augIxM, augM, retM, giveM, dropM, look, take, put, frz1, ownsAny, owns, store, change, mutM, onL, isB, truM, truP, MC.notM, MC.andM, MC.orM, chain, tupM, lstM, consM, outs, callM, valM, slotM, argSlots, frzS, resolve, ioSlots, setIo, itemsM, itemsOf, PV.flat, strM, andV, orV, notV, slM, slMv, asInt, str_len, addP_ii, addP_ib, addP_ss, addP_ll, addP_tt, iaddP_ii, subP_ii, mulP_ii, mulP_si, fdivP_ii, modP_ii, negP_i, absP_i, intP_i, intP_b, ltP_ii, leP_ii, gtP_ii, geP_ii, ltP_ss, leP_ss, gtP_ss, geP_ss, eqP_ii, eqP_ss, neP_ii, neP_ss, isP_b, isNotP_b, inP_1, notInP_1, lenP_s, lenP_l, lenP_t, lenP_q, listP_s, listP_l, listP_t, tupleP_l, tupleP_t, ixP_l, ixP_t, ixP_q, ixP_s, atI_nat, atI_2, atI_3, atI_4, atI_0, atI_1, atI_last, setV_l, getV_l, ixN_nat, ixN_2, ixN_3, ixN_4, ixN_0, ixN_1, popP_n, appendP_1, extendP_l, slP_to, slP_from, MC.when, fl]
    · unfold bd1__law_word_behind
      simp -implicitDefEqProofs [bind_run, pure_run, lift_run, ite_run, bad_run, fnOf, runF, argE, seqM, ifM, asT, bin2, bin2v, un1, unL, asF, setM, setIxM, augIxM, augM, retM, giveM, dropM, look, take, put, frz1, ownsAny, owns, store, change, mutM, onL, isB, truM, truP, MC.notM, MC.andM, MC.orM, chain, tupM, lstM, consM, outs, callM, valM, slotM, argSlots, frzS, resolve, ioSlots, setIo, itemsM, itemsOf, PV.flat, strM, andV, orV, notV, slM, slMv, asInt, str_len, addP_ii, addP_ib, addP_ss, addP_ll, addP_tt, iaddP_ii, subP_ii, mulP_ii, mulP_si, fdivP_ii, modP_ii, negP_i, absP_i, intP_i, intP_b, ltP_ii, leP_ii, gtP_ii, geP_ii, ltP_ss, leP_ss, gtP_ss, geP_ss, eqP_ii, eqP_ss, neP_ii, neP_ss, isP_b, isNotP_b, inP_1, notInP_1, lenP_s, lenP_l, lenP_t, lenP_q, listP_s, listP_l, listP_t, tupleP_l, tupleP_t, ixP_l, ixP_t, ixP_q, ixP_s, atI_nat, atI_2, atI_3, atI_4, atI_0, atI_1, atI_last, setV_l, getV_l, ixN_nat, ixN_2, ixN_3, ixN_4, ixN_0, ixN_1, popP_n, appendP_1, extendP_l, slP_to, slP_from, MC.when, fl]
end MC.Law
set_option Elab.async false
set_option linter.all false
set_option maxRecDepth 100000
set_option maxHeartbeats 4000000
namespace MC.Law
open PySem
theorem cut_end (z : Nat) (w : List Nat) : ∃ u r, w = u ++ List.replicate r z ∧ (u = [] ∨ ∃ c, u.getLast? = some c ∧ c ≠ z) := by
  have key : ∀ (n : Nat) (w : List Nat), w.length = n → ∃ u r, w = u ++ List.replicate r z ∧ (u = [] ∨ ∃ c, u.getLast? = some c ∧ c ≠ z) := fun n => by
    induction n with
    | zero => intro w hw; rw [List.length_eq_zero_iff.mp hw]; exact ⟨[], 0, rfl, .inl rfl⟩
    | succ n ih =>
      intro w hw
      have hne : w ≠ [] := by intro q; subst q; cases hw
      have ew := List.dropLast_concat_getLast hne
      by_cases hz : w.getLast hne = z
      · obtain ⟨u, r, e, h⟩ := ih w.dropLast (by rw [List.length_dropLast]; omega)
        refine ⟨u, r + 1, ?_, h⟩
        rw [← ew, hz, e, List.replicate_succ', List.append_assoc]
      · exact ⟨w, 0, by simp, .inr ⟨w.getLast hne, List.getLast?_eq_some_getLast hne, hz⟩⟩
  exact key _ w rfl
theorem behind_ok {A w : List Nat} {m : Nat} (a : Al A m) (hA : A ≠ []) (ha : A.length ≤ 1000) (h : ∀ c ∈ w, c ∈ A) (hw : w.length ≤ 500) :
    ∃ b, F__law_word_behind [S A, S w] = some ((false, S b), []) ∧ rk A b = rk A w + 1 ∧ (∀ c ∈ b, c ∈ A) ∧ b.length ≤ w.length + 1 := by
  have fA : fits A.length = true := fits_of (by omega)
  have pos := List.length_pos_iff.mpr hA
  obtain ⟨z, hz⟩ : ∃ z, A.getLast? = some z := ⟨_, List.getLast?_eq_some_getLast hA⟩
  obtain ⟨a0, h0⟩ : ∃ a0, A[0]? = some a0 := ⟨_, List.getElem?_eq_getElem pos⟩
  have a0A : a0 ∈ A := List.mem_of_getElem? h0
  have i0 : ix A a0 = 0 := ix_get a.nd h0
  have iz : ix A z + 1 = A.length := by
    rw [List.getLast?_eq_getElem?] at hz
    rw [ix_get a.nd hz]; omega
  obtain ⟨u, r, rfl, hend⟩ := cut_end z w
  have hu : ∀ c ∈ u, c ∈ A := fun c hc => h c (List.mem_append_left _ hc)
  have lw : (u ++ List.replicate r z).length = u.length + r := by simp
  have fW : fits (u ++ List.replicate r z).length = true := fits_of (by omega)
  have lp := behind_loop a hz hu hend r (by omega) ha none r (Nat.le_refl _)
  have s1 : setM 2 (bin2 (asF (un1 (look 1) lenP)) (pure (.int 1)) subP) [some (false, S A), some (false, S (u ++ List.replicate r z)), none, none] = some (.nx, [some (false, S A), some (false, S (u ++ List.replicate r z)), some (false, .int ((u.length : Int) + r - 1)), none]) := by
    have : (((u ++ List.replicate r z).length : Nat) : Int) = (u.length : Int) + r := by rw [lw, Int.natCast_add]
    generalize u ++ List.replicate r z = w at fW this ⊢
    simp -implicitDefEqProofs [fW, this, bind_run, pure_run, lift_run, ite_run, bad_run, fnOf, runF, argE, seqM, ifM, asT, bin2, bin2v, un1, unL, asF, setM, setIxM, augIxM, augM, retM, giveM, dropM, look, take, put, frz1, ownsAny, owns, store, change, mutM, onL, isB, truM, truP, MC.notM, MC.andM, MC.orM, chain, tupM, lstM, consM, outs, callM, valM, slotM, argSlots, frzS, resolve, ioSlots, setIo, itemsM, itemsOf, PV.flat, strM, andV, orV, notV, slM, slMv, asInt, str_len, addP_ii, addP_ib, addP_ss, addP_ll, addP_tt, iaddP_ii, subP_ii, mulP_ii, mulP_si, fdivP_ii, modP_ii, negP_i, absP_i, intP_i, intP_b, ltP_ii, leP_ii, gtP_ii, geP_ii, ltP_ss, leP_ss, gtP_ss, geP_ss, eqP_ii, eqP_ss, neP_ii, neP_ss, isP_b, isNotP_b, inP_1, notInP_1, lenP_s, lenP_l, lenP_t, lenP_q, listP_s, listP_l, listP_t, tupleP_l, tupleP_t, ixP_l, ixP_t, ixP_q, ixP_s, atI_nat, atI_2, atI_3, atI_4, atI_0, atI_1, atI_last, setV_l, getV_l, ixN_nat, ixN_2, ixN_3, ixN_4, ixN_0, ixN_1, popP_n, appendP_1, extendP_l, slP_to, slP_from, MC.when, fl]
  rcases hend with rfl | ⟨c, hc, ne⟩
  · refine ⟨[a0] ++ List.replicate r a0, ?_, ?_, ?_, ?_⟩
    · have ms := mulS_ok a0 (n := r + 1) (by simp at lw hw; omega)
      have e1 : List.replicate (r + 1) a0 = [a0] ++ List.replicate r a0 := rfl
      rw [e1] at ms
      have e2 : ((([] : List Nat) ++ List.replicate r z).length : Int) = r := by simp
      have lr : (([] : List Nat) ++ List.replicate r z).length = r := by simp
      have g : ((r : Int) + 1) = ((r + 1 : Nat) : Int) := by omega
      refine fn_run rfl rfl (ρ := [some (false, S A), some (false, S ([] ++ List.replicate r z)), some (false, .int (-1)), none]) (seq_nx s1 (seq_nx lp (seq_rt (if_t (ρ' := [some (false, S A), some (false, S ([] ++ List.replicate r z)), some (false, .int (-1)), none]) ?_ (ret_run (x := (false, S ([a0] ++ List.replicate r a0))) ?_))))) rfl
      · show asT _ [some (false, S A), some (false, S ([] ++ List.replicate r z)), some (false, .int (0 - 1)), none] = _
        generalize ([] : List Nat) ++ List.replicate r z = w
        simp -implicitDefEqProofs [bind_run, pure_run, lift_run, ite_run, bad_run, fnOf, runF, argE, seqM, ifM, asT, bin2, bin2v, un1, unL, asF, setM, setIxM, augIxM, augM, retM, giveM, dropM, look, take, put, frz1, ownsAny, owns, store, change, mutM, onL, isB, truM, truP, MC.notM, MC.andM, MC.orM, chain, tupM, lstM, consM, outs, callM, valM, slotM, argSlots, frzS, resolve, ioSlots, setIo, itemsM, itemsOf, PV.flat, strM, andV, orV, notV, slM, slMv, asInt, str_len, addP_ii, addP_ib, addP_ss, addP_ll, addP_tt, iaddP_ii, subP_ii, mulP_ii, mulP_si, fdivP_ii, modP_ii, negP_i, absP_i, intP_i, intP_b, ltP_ii, leP_ii, gtP_ii, geP_ii, ltP_ss, leP_ss, gtP_ss, geP_ss, eqP_ii, eqP_ss, neP_ii, neP_ss, isP_b, isNotP_b, inP_1, notInP_1, lenP_s, lenP_l, lenP_t, lenP_q, listP_s, listP_l, listP_t, tupleP_l, tupleP_t, ixP_l, ixP_t, ixP_q, ixP_s, atI_nat, atI_2, atI_3, atI_4, atI_0, atI_1, atI_last, setV_l, getV_l, ixN_nat, ixN_2, ixN_3, ixN_4, ixN_0, ixN_1, popP_n, appendP_1, extendP_l, slP_to, slP_from, MC.when, fl]
      · generalize ([] : List Nat) ++ List.replicate r z = w at fW lr ⊢
        generalize [a0] ++ List.replicate r a0 = b at ms ⊢
        rw [lr] at fW
        rw [← g] at ms
        simp -implicitDefEqProofs [fA, fW, lr, h0, ms, bind_run, pure_run, lift_run, ite_run, bad_run, fnOf, runF, argE, seqM, ifM, asT, bin2, bin2v, un1, unL, asF, setM, setIxM, augIxM, augM, retM, giveM, dropM, look, take, put, frz1, ownsAny, owns, store, change, mutM, onL, isB, truM, truP, MC.notM, MC.andM, MC.orM, chain, tupM, lstM, consM, outs, callM, valM, slotM, argSlots, frzS, resolve, ioSlots, setIo, itemsM, itemsOf, PV.flat, strM, andV, orV, notV, slM, slMv, asInt, str_len, addP_ii, addP_ib, addP_ss, addP_ll, addP_tt, iaddP_ii, subP_ii, mulP_ii, mulP_si, fdivP_ii, modP_ii, negP_i, absP_i, intP_i, intP_b, ltP_ii, leP_ii, gtP_ii, geP_ii, ltP_ss, leP_ss, gtP_ss, geP_ss, eqP_ii, eqP_ss, neP_ii, neP_ss, isP_b, isNotP_b, inP_1, notInP_1, lenP_s, lenP_l, lenP_t, lenP_q, listP_s, listP_l, listP_t, tupleP_l, tupleP_t, ixP_l, ixP_t, ixP_q, ixP_s, atI_nat, atI_2, atI_3, atI_4, atI_0, atI_1, atI_last, setV_l, getV_l, ixN_nat, ixN_2, ixN_3, ixN_4, ixN_0, ixN_1, popP_n, appendP_1, extendP_l, slP_to, slP_from, MC.when, fl]
    · have := rk_rep (A := A) (a := a0) (z := z) (x := []) (y := [a0]) i0 iz (by simp [rk, i0]) r
      exact this
    · intro d hd
      rcases List.mem_append.mp hd with hd | hd
      · rw [List.mem_singleton.mp hd]; exact a0A
      · rw [List.eq_of_mem_replicate hd]; exact a0A
    · simp
  · have hne : u ≠ [] := by intro q; subst q; cases hc
    have eu := List.dropLast_concat_getLast hne
    have : u.getLast hne = c := by rw [List.getLast?_eq_some_getLast hne] at hc; exact Option.some.inj hc
    rw [this] at eu
    generalize u.dropLast = v at eu
    subst eu
    have hcA : c ∈ A := hu c (by simp)
    obtain ⟨f1', f2, f3⟩ := find_ix a.nd hcA
    have hi : ix A c + 1 < A.length := by
      by_cases q : ix A c + 1 < A.length
      · exact q
      · have : ix A c = ix A z := by omega
        have zA : z ∈ A := List.mem_of_getLast? hz
        have e2 := (find_ix a.nd zA).2.1
        rw [← this, f2] at e2
        exact absurd (Option.some.inj e2) ne
    obtain ⟨d, hd⟩ : ∃ d, A[ix A c + 1]? = some d := ⟨_, List.getElem?_eq_getElem hi⟩
    have dA : d ∈ A := List.mem_of_getElem? hd
    have idd : ix A d = ix A c + 1 := ix_get a.nd hd
    have lv : (v ++ [c]).length = v.length + 1 := by simp
    refine ⟨v ++ [d] ++ List.replicate r a0, ?_, ?_, ?_, ?_⟩
    · have ep : (((v ++ [c]).length : Nat) : Int) - 1 = v.length := by rw [lv]; omega
      rw [ep] at lp
      have wk : (v ++ [c] ++ List.replicate r z)[v.length]? = some c := by simp
      have wt : (v ++ [c] ++ List.replicate r z).take v.length = v := by rw [List.append_assoc]; simp
      have e1 := index_ok a.nd hcA
      have ms := mulS_ok a0 (n := r) (by omega)
      have hd' : L2.atI A ((ix A c : Int) + 1) = some d := by
        have := atI_nat A (ix A c + 1)
        rw [hd] at this
        exact this
      have g : (((v ++ [c] ++ List.replicate r z).length : Nat) : Int) - v.length - 1 = r := by rw [lw, lv]; omega
      have fv : fits (v.length + 1) = true := fits_of (by omega)
      have fb : fits (v.length + 1 + r) = true := fits_of (by omega)
      have nn : ¬ (v.length : Int) < 0 := by omega
      refine fn_run rfl rfl (ρ := [some (false, S A), some (false, S (v ++ [c] ++ List.replicate r z)), some (false, .int v.length), some (false, .int r)]) (seq_nx s1 (seq_nx lp (seq_nx (ρ' := [some (false, S A), some (false, S (v ++ [c] ++ List.replicate r z)), some (false, .int v.length), none]) (if_f (ρ' := [some (false, S A), some (false, S (v ++ [c] ++ List.replicate r z)), some (false, .int v.length), none]) ?_ rfl) (seq_nx (ρ' := [some (false, S A), some (false, S (v ++ [c] ++ List.replicate r z)), some (false, .int v.length), some (false, .int r)]) ?_ (ret_run (x := (false, S (v ++ [d] ++ List.replicate r a0))) ?_))))) rfl
      · generalize v ++ [c] ++ List.replicate r z = w
        simp -implicitDefEqProofs [nn, bind_run, pure_run, lift_run, ite_run, bad_run, fnOf, runF, argE, seqM, ifM, asT, bin2, bin2v, un1, unL, asF, setM, setIxM, augIxM, augM, retM, giveM, dropM, look, take, put, frz1, ownsAny, owns, store, change, mutM, onL, isB, truM, truP, MC.notM, MC.andM, MC.orM, chain, tupM, lstM, consM, outs, callM, valM, slotM, argSlots, frzS, resolve, ioSlots, setIo, itemsM, itemsOf, PV.flat, strM, andV, orV, notV, slM, slMv, asInt, str_len, addP_ii, addP_ib, addP_ss, addP_ll, addP_tt, iaddP_ii, subP_ii, mulP_ii, mulP_si, fdivP_ii, modP_ii, negP_i, absP_i, intP_i, intP_b, ltP_ii, leP_ii, gtP_ii, geP_ii, ltP_ss, leP_ss, gtP_ss, geP_ss, eqP_ii, eqP_ss, neP_ii, neP_ss, isP_b, isNotP_b, inP_1, notInP_1, lenP_s, lenP_l, lenP_t, lenP_q, listP_s, listP_l, listP_t, tupleP_l, tupleP_t, ixP_l, ixP_t, ixP_q, ixP_s, atI_nat, atI_2, atI_3, atI_4, atI_0, atI_1, atI_last, setV_l, getV_l, ixN_nat, ixN_2, ixN_3, ixN_4, ixN_0, ixN_1, popP_n, appendP_1, extendP_l, slP_to, slP_from, MC.when, fl]
      · generalize v ++ [c] ++ List.replicate r z = w at fW g ⊢
        simp -implicitDefEqProofs [fW, g, bind_run, pure_run, lift_run, ite_run, bad_run, fnOf, runF, argE, seqM, ifM, asT, bin2, bin2v, un1, unL, asF, setM, setIxM, augIxM, augM, retM, giveM, dropM, look, take, put, frz1, ownsAny, owns, store, change, mutM, onL, isB, truM, truP, MC.notM, MC.andM, MC.orM, chain, tupM, lstM, consM, outs, callM, valM, slotM, argSlots, frzS, resolve, ioSlots, setIo, itemsM, itemsOf, PV.flat, strM, andV, orV, notV, slM, slMv, asInt, str_len, addP_ii, addP_ib, addP_ss, addP_ll, addP_tt, iaddP_ii, subP_ii, mulP_ii, mulP_si, fdivP_ii, modP_ii, negP_i, absP_i, intP_i, intP_b, ltP_ii, leP_ii, gtP_ii, geP_ii, ltP_ss, leP_ss, gtP_ss, geP_ss, eqP_ii, eqP_ss, neP_ii, neP_ss, isP_b, isNotP_b, inP_1, notInP_1, lenP_s, lenP_l, lenP_t, lenP_q, listP_s, listP_l, listP_t, tupleP_l, tupleP_t, ixP_l, ixP_t, ixP_q, ixP_s, atI_nat, atI_2, atI_3, atI_4, atI_0, atI_1, atI_last, setV_l, getV_l, ixN_nat, ixN_2, ixN_3, ixN_4, ixN_0, ixN_1, popP_n, appendP_1, extendP_l, slP_to, slP_from, MC.when, fl]
      · generalize v ++ [c] ++ List.replicate r z = w at fW wk wt ⊢
        generalize hR : List.replicate r a0 = R at ms ⊢
        have lR : R.length = r := by rw [← hR]; simp
        rw [← lR] at fb ms
        have f2' : fits ((v ++ [d]).length + R.length) = true := by simpa using fb
        have f1'' : fits (v.length + [d].length) = true := by simpa using fv
        have ad1 := addP_ss f1''
        have ad2 := addP_ss f2'
        rw [lR] at ms
        simp -implicitDefEqProofs [fA, fW, wk, wt, e1, hd', h0, ms, ad1, ad2, bind_run, pure_run, lift_run, ite_run, bad_run, fnOf, runF, argE, seqM, ifM, asT, bin2, bin2v, un1, unL, asF, setM, setIxM, augIxM, augM, retM, giveM, dropM, look, take, put, frz1, ownsAny, owns, store, change, mutM, onL, isB, truM, truP, MC.notM, MC.andM, MC.orM, chain, tupM, lstM, consM, outs, callM, valM, slotM, argSlots, frzS, resolve, ioSlots, setIo, itemsM, itemsOf, PV.flat, strM, andV, orV, notV, slM, slMv, asInt, str_len, addP_ii, addP_ib, addP_ss, addP_ll, addP_tt, iaddP_ii, subP_ii, mulP_ii, mulP_si, fdivP_ii, modP_ii, negP_i, absP_i, intP_i, intP_b, ltP_ii, leP_ii, gtP_ii, geP_ii, ltP_ss, leP_ss, gtP_ss, geP_ss, eqP_ii, eqP_ss, neP_ii, neP_ss, isP_b, isNotP_b, inP_1, notInP_1, lenP_s, lenP_l, lenP_t, lenP_q, listP_s, listP_l, listP_t, tupleP_l, tupleP_t, ixP_l, ixP_t, ixP_q, ixP_s, atI_nat, atI_2, atI_3, atI_4, atI_0, atI_1, atI_last, setV_l, getV_l, ixN_nat, ixN_2, ixN_3, ixN_4, ixN_0, ixN_1, popP_n, appendP_1, extendP_l, slP_to, slP_from, MC.when, fl]
    · exact rk_rep (A := A) (a := a0) (z := z) (x := v ++ [c]) (y := v ++ [d]) i0 iz (by rw [rk_app, rk_app, idd]; omega) r
    · intro x hx
      rcases List.mem_append.mp hx with hx | hx
      · rcases List.mem_append.mp hx with hx | hx
        · exact hu x (List.mem_append_left _ hx)
        · rw [List.mem_singleton.mp hx]; exact dA
      · rw [List.eq_of_mem_replicate hx]; exact a0A
    · simp
end MC.Law
set_option Elab.async false
set_option linter.all false
set_option maxRecDepth 100000
set_option maxHeartbeats 4000000
namespace MC.Law
open PySem
theorem long_ok {d : PV} {A : List Nat} {m : Nat} (hd : IsDr d) (a : Al A m) (hA : A ≠ []) (ha : A.length ≤ 900) : ∃ w d', F__law_long_word [d, S A] = some ((false, S w), [d']) ∧ IsDr d' ∧ (∀ c ∈ w, c ∈ A) ∧ w.length ≤ 40 := by
  have fA : fits A.length = true := fits_of (by omega)
  obtain ⟨z, hz⟩ : ∃ z, A.getLast? = some z := ⟨_, List.getLast?_eq_some_getLast hA⟩
  have zA : z ∈ A := List.mem_of_getLast? hz
  -- size
  obtain ⟨r1, d1, e1, p1, q1, hd1⟩ := draw_ok hd (many := 9) (by omega) (by omega)
  obtain ⟨r2, d2, e2, p2, q2, hd2⟩ := draw_ok hd1 (many := 4) (by omega) (by omega)
  have s2 : ∃ (size : Nat) (d3 : PV), size ≤ 40 ∧ IsDr d3 ∧ (ifM (asT (bin2 (asF (callM [0] F__law_draw (slotM 0 (valM (pure (.int 4)) (pure []))))) (pure (.int 1)) eqP)) (setM 2 (bin2 (pure (.int 9)) (asF (callM [0] F__law_draw (slotM 0 (valM (pure (.int 32)) (pure []))))) addP)) (pure .nx)) [some (true, d1), some (false, S A), some (false, .int r1), none, none, none] =
      some (.nx, [some (true, d3), some (false, S A), some (false, .int size), none, none, none]) := by
    by_cases h : r2 = 1
    · obtain ⟨r3, d3, e3, p3, q3, hd3⟩ := draw_ok hd2 (many := 32) (by omega) (by omega)
      refine ⟨(9 + r3).toNat, d3, by omega, hd3, if_t (ρ' := [some (true, d2), some (false, S A), some (false, .int r1), none, none, none]) ?_ ?_⟩
      · subst h; simp -implicitDefEqProofs [e2, bind_run, pure_run, lift_run, ite_run, bad_run, fnOf, runF, argE, seqM, ifM, asT, bin2, bin2v, un1, unL, asF, setM, setIxM, augIxM, augM, retM, giveM, dropM, look, take, put, frz1, ownsAny, owns, store, change, mutM, onL, isB, truM, truP, MC.notM, MC.andM, MC.orM, chain, tupM, lstM, consM, outs, callM, valM, slotM, argSlots, frzS, resolve, ioSlots, setIo, itemsM, itemsOf, PV.flat, strM, andV, orV, notV, slM, slMv, asInt, str_len, addP_ii, addP_ib, addP_ss, addP_ll, addP_tt, iaddP_ii, subP_ii, mulP_ii, mulP_si, fdivP_ii, modP_ii, negP_i, absP_i, intP_i, intP_b, ltP_ii, leP_ii, gtP_ii, geP_ii, ltP_ss, leP_ss, gtP_ss, geP_ss, eqP_ii, eqP_ss, neP_ii, neP_ss, isP_b, isNotP_b, inP_1, notInP_1, lenP_s, lenP_l, lenP_t, lenP_q, listP_s, listP_l, listP_t, tupleP_l, tupleP_t, ixP_l, ixP_t, ixP_q, ixP_s, atI_nat, atI_2, atI_3, atI_4, atI_0, atI_1, atI_last, setV_l, getV_l, ixN_nat, ixN_2, ixN_3, ixN_4, ixN_0, ixN_1, popP_n, appendP_1, extendP_l, slP_to, slP_from, MC.when, fl]
      · have : (((9 + r3).toNat : Nat) : Int) = 9 + r3 := by omega
        rw [this]
        simp -implicitDefEqProofs [e3, bind_run, pure_run, lift_run, ite_run, bad_run, fnOf, runF, argE, seqM, ifM, asT, bin2, bin2v, un1, unL, asF, setM, setIxM, augIxM, augM, retM, giveM, dropM, look, take, put, frz1, ownsAny, owns, store, change, mutM, onL, isB, truM, truP, MC.notM, MC.andM, MC.orM, chain, tupM, lstM, consM, outs, callM, valM, slotM, argSlots, frzS, resolve, ioSlots, setIo, itemsM, itemsOf, PV.flat, strM, andV, orV, notV, slM, slMv, asInt, str_len, addP_ii, addP_ib, addP_ss, addP_ll, addP_tt, iaddP_ii, subP_ii, mulP_ii, mulP_si, fdivP_ii, modP_ii, negP_i, absP_i, intP_i, intP_b, ltP_ii, leP_ii, gtP_ii, geP_ii, ltP_ss, leP_ss, gtP_ss, geP_ss, eqP_ii, eqP_ss, neP_ii, neP_ss, isP_b, isNotP_b, inP_1, notInP_1, lenP_s, lenP_l, lenP_t, lenP_q, listP_s, listP_l, listP_t, tupleP_l, tupleP_t, ixP_l, ixP_t, ixP_q, ixP_s, atI_nat, atI_2, atI_3, atI_4, atI_0, atI_1, atI_last, setV_l, getV_l, ixN_nat, ixN_2, ixN_3, ixN_4, ixN_0, ixN_1, popP_n, appendP_1, extendP_l, slP_to, slP_from, MC.when, fl]
    · refine ⟨r1.toNat, d2, by omega, hd2, if_f (ρ' := [some (true, d2), some (false, S A), some (false, .int r1), none, none, none]) ?_ ?_⟩
      · simp -implicitDefEqProofs [e2, h, bind_run, pure_run, lift_run, ite_run, bad_run, fnOf, runF, argE, seqM, ifM, asT, bin2, bin2v, un1, unL, asF, setM, setIxM, augIxM, augM, retM, giveM, dropM, look, take, put, frz1, ownsAny, owns, store, change, mutM, onL, isB, truM, truP, MC.notM, MC.andM, MC.orM, chain, tupM, lstM, consM, outs, callM, valM, slotM, argSlots, frzS, resolve, ioSlots, setIo, itemsM, itemsOf, PV.flat, strM, andV, orV, notV, slM, slMv, asInt, str_len, addP_ii, addP_ib, addP_ss, addP_ll, addP_tt, iaddP_ii, subP_ii, mulP_ii, mulP_si, fdivP_ii, modP_ii, negP_i, absP_i, intP_i, intP_b, ltP_ii, leP_ii, gtP_ii, geP_ii, ltP_ss, leP_ss, gtP_ss, geP_ss, eqP_ii, eqP_ss, neP_ii, neP_ss, isP_b, isNotP_b, inP_1, notInP_1, lenP_s, lenP_l, lenP_t, lenP_q, listP_s, listP_l, listP_t, tupleP_l, tupleP_t, ixP_l, ixP_t, ixP_q, ixP_s, atI_nat, atI_2, atI_3, atI_4, atI_0, atI_1, atI_last, setV_l, getV_l, ixN_nat, ixN_2, ixN_3, ixN_4, ixN_0, ixN_1, popP_n, appendP_1, extendP_l, slP_to, slP_from, MC.when, fl]
      · have : ((r1.toNat : Nat) : Int) = r1 := by omega
        rw [this]; rfl
  obtain ⟨size, d3, hs, hd3, s2⟩ := s2
  obtain ⟨r4, d4, e4, p4, q4, hd4⟩ := draw_ok hd3 (many := 3) (by omega) (by omega)
  have s4 : ∃ (cut : Nat) (d5 : PV), cut ≤ size ∧ IsDr d5 ∧ (ifM (asT (bin2 (asF (callM [0] F__law_draw (slotM 0 (valM (pure (.int 3)) (pure []))))) (pure (.int 0)) eqP)) (setM 3 (callM [0] F__law_draw (slotM 0 (valM (asF (bin2v 2 (pure (.int 1)) addP)) (pure []))))) (pure .nx)) [some (true, d3), some (false, S A), some (false, .int size), some (false, .int size), none, none] =
      some (.nx, [some (true, d5), some (false, S A), some (false, .int size), some (false, .int cut), none, none]) := by
    by_cases h : r4 = 0
    · obtain ⟨r5, d5, e5, p5, q5, hd5⟩ := draw_ok hd4 (many := (size : Int) + 1) (by omega) (by omega)
      refine ⟨r5.toNat, d5, by omega, hd5, if_t (ρ' := [some (true, d4), some (false, S A), some (false, .int size), some (false, .int size), none, none]) ?_ ?_⟩
      · subst h; simp -implicitDefEqProofs [e4, bind_run, pure_run, lift_run, ite_run, bad_run, fnOf, runF, argE, seqM, ifM, asT, bin2, bin2v, un1, unL, asF, setM, setIxM, augIxM, augM, retM, giveM, dropM, look, take, put, frz1, ownsAny, owns, store, change, mutM, onL, isB, truM, truP, MC.notM, MC.andM, MC.orM, chain, tupM, lstM, consM, outs, callM, valM, slotM, argSlots, frzS, resolve, ioSlots, setIo, itemsM, itemsOf, PV.flat, strM, andV, orV, notV, slM, slMv, asInt, str_len, addP_ii, addP_ib, addP_ss, addP_ll, addP_tt, iaddP_ii, subP_ii, mulP_ii, mulP_si, fdivP_ii, modP_ii, negP_i, absP_i, intP_i, intP_b, ltP_ii, leP_ii, gtP_ii, geP_ii, ltP_ss, leP_ss, gtP_ss, geP_ss, eqP_ii, eqP_ss, neP_ii, neP_ss, isP_b, isNotP_b, inP_1, notInP_1, lenP_s, lenP_l, lenP_t, lenP_q, listP_s, listP_l, listP_t, tupleP_l, tupleP_t, ixP_l, ixP_t, ixP_q, ixP_s, atI_nat, atI_2, atI_3, atI_4, atI_0, atI_1, atI_last, setV_l, getV_l, ixN_nat, ixN_2, ixN_3, ixN_4, ixN_0, ixN_1, popP_n, appendP_1, extendP_l, slP_to, slP_from, MC.when, fl]
      · have : ((r5.toNat : Nat) : Int) = r5 := by omega
        rw [this]
        simp -implicitDefEqProofs [e5, bind_run, pure_run, lift_run, ite_run, bad_run, fnOf, runF, argE, seqM, ifM, asT, bin2, bin2v, un1, unL, asF, setM, setIxM, augIxM, augM, retM, giveM, dropM, look, take, put, frz1, ownsAny, owns, store, change, mutM, onL, isB, truM, truP, MC.notM, MC.andM, MC.orM, chain, tupM, lstM, consM, outs, callM, valM, slotM, argSlots, frzS, resolve, ioSlots, setIo, itemsM, itemsOf, PV.flat, strM, andV, orV, notV, slM, slMv, asInt, str_len, addP_ii, addP_ib, addP_ss, addP_ll, addP_tt, iaddP_ii, subP_ii, mulP_ii, mulP_si, fdivP_ii, modP_ii, negP_i, absP_i, intP_i, intP_b, ltP_ii, leP_ii, gtP_ii, geP_ii, ltP_ss, leP_ss, gtP_ss, geP_ss, eqP_ii, eqP_ss, neP_ii, neP_ss, isP_b, isNotP_b, inP_1, notInP_1, lenP_s, lenP_l, lenP_t, lenP_q, listP_s, listP_l, listP_t, tupleP_l, tupleP_t, ixP_l, ixP_t, ixP_q, ixP_s, atI_nat, atI_2, atI_3, atI_4, atI_0, atI_1, atI_last, setV_l, getV_l, ixN_nat, ixN_2, ixN_3, ixN_4, ixN_0, ixN_1, popP_n, appendP_1, extendP_l, slP_to, slP_from, MC.when, fl]
    · exact ⟨size, d4, Nat.le_refl _, hd4, if_f (ρ' := [some (true, d4), some (false, S A), some (false, .int size), some (false, .int size), none, none]) (by simp -implicitDefEqProofs [e4, h, bind_run, pure_run, lift_run, ite_run, bad_run, fnOf, runF, argE, seqM, ifM, asT, bin2, bin2v, un1, unL, asF, setM, setIxM, augIxM, augM, retM, giveM, dropM, look, take, put, frz1, ownsAny, owns, store, change, mutM, onL, isB, truM, truP, MC.notM, MC.andM, MC.orM, chain, tupM, lstM, consM, outs, callM, valM, slotM, argSlots, frzS, resolve, ioSlots, setIo, itemsM, itemsOf, PV.flat, strM, andV, orV, notV, slM, slMv, asInt, str_len, addP_ii, addP_ib, addP_ss, addP_ll, addP_tt, iaddP_ii, subP_ii, mulP_ii, mulP_si, fdivP_ii, modP_ii, negP_i, absP_i, intP_i, intP_b, ltP_ii, leP_ii, gtP_ii, geP_ii, ltP_ss, leP_ss, gtP_ss, geP_ss, eqP_ii, eqP_ss, neP_ii, neP_ss, isP_b, isNotP_b, inP_1, notInP_1, lenP_s, lenP_l, lenP_t, lenP_q, listP_s, listP_l, listP_t, tupleP_l, tupleP_t, ixP_l, ixP_t, ixP_q, ixP_s, atI_nat, atI_2, atI_3, atI_4, atI_0, atI_1, atI_last, setV_l, getV_l, ixN_nat, ixN_2, ixN_3, ixN_4, ixN_0, ixN_1, popP_n, appendP_1, extendP_l, slP_to, slP_from, MC.when, fl]) rfl⟩
  obtain ⟨cut, d5, hc, hd5, s4⟩ := s4
  obtain ⟨ρ', h1, d6, w, x5, rfl, hd6, hw, wl⟩ := forM_inv (h := put 5 false) (f := bd1__law_long_word) (fun i ρ => ∃ (d6 : PV) (w : List Nat) (x5 : Option (Bool × PV)), ρ = [some (true, d6), some (false, S A), some (false, .int size), some (false, .int cut), some (false, S w), x5] ∧ IsDr d6 ∧ (∀ c ∈ w, c ∈ A) ∧ w.length = i) (rangeL 0 cut) 0
    [some (true, d5), some (false, S A), some (false, .int size), some (false, .int cut), some (false, S []), none] ⟨d5, [], none, rfl, hd5, (fun c h => by cases h), rfl⟩ (by
    rintro i x _ hx ⟨d6, w, x5, rfl, hd6, hw, wl⟩
    obtain ⟨hi, rfl⟩ := range_get hx
    obtain ⟨c, d7, e7, hcA, hd7⟩ := pick_s hd6 hA (by omega)
    have fw : fits (w.length + [c].length) = true := fits_of (by simp; omega)
    have ad := addP_ss fw
    refine ⟨_, .inl ?_, d7, w ++ [c], some (false, .int i), rfl, hd7, fun x hx => ?_, by simp; omega⟩
    · refine bind_of (ρ' := [some (true, d6), some (false, S A), some (false, .int size), some (false, .int cut), some (false, S w), some (false, .int i)]) rfl ?_
      unfold bd1__law_long_word
      simp -implicitDefEqProofs [e7, ad, bind_run, pure_run, lift_run, ite_run, bad_run, fnOf, runF, argE, seqM, ifM, asT, bin2, bin2v, un1, unL, asF, setM, setIxM, augIxM, augM, retM, giveM, dropM, look, take, put, frz1, ownsAny, owns, store, change, mutM, onL, isB, truM, truP, MC.notM, MC.andM, MC.orM, chain, tupM, lstM, consM, outs, callM, valM, slotM, argSlots, frzS, resolve, ioSlots, setIo, itemsM, itemsOf, PV.flat, strM, andV, orV, notV, slM, slMv, asInt, str_len, addP_ii, addP_ib, addP_ss, addP_ll, addP_tt, iaddP_ii, subP_ii, mulP_ii, mulP_si, fdivP_ii, modP_ii, negP_i, absP_i, intP_i, intP_b, ltP_ii, leP_ii, gtP_ii, geP_ii, ltP_ss, leP_ss, gtP_ss, geP_ss, eqP_ii, eqP_ss, neP_ii, neP_ss, isP_b, isNotP_b, inP_1, notInP_1, lenP_s, lenP_l, lenP_t, lenP_q, listP_s, listP_l, listP_t, tupleP_l, tupleP_t, ixP_l, ixP_t, ixP_q, ixP_s, atI_nat, atI_2, atI_3, atI_4, atI_0, atI_1, atI_last, setV_l, getV_l, ixN_nat, ixN_2, ixN_3, ixN_4, ixN_0, ixN_1, popP_n, appendP_1, extendP_l, slP_to, slP_from, MC.when, fl]
    · rcases List.mem_append.mp hx with h | h
      · exact hw x h
      · rw [List.mem_singleton.mp h]; exact hcA)
  rw [Nat.zero_add, range_len] at wl
  refine ⟨w ++ List.replicate (size - cut) z, d6, ?_, hd6, fun x hx => ?_, by simp; omega⟩
  · have ms := mulS_ok z (n := size - cut) (by omega)
    have g : (size : Int) - cut = ((size - cut : Nat) : Int) := by omega
    have ff : fits (w.length + (List.replicate (size - cut) z).length) = true := fits_of (by simp; omega)
    have ad := addP_ss ff
    refine fn_run rfl (ρ0 := [some (true, d), some (false, S A), none, none, none, none]) rfl (seq_nx (ρ' := [some (true, d1), some (false, S A), some (false, .int r1), none, none, none]) ?_ (seq_nx s2 (seq_nx (set_run (x := (false, .int size)) rfl) (seq_nx s4 (seq_nx (ρ' := [some (true, d5), some (false, S A), some (false, .int size), some (false, .int cut), some (false, S []), none]) ?_ (seq_nx (for_range rfl (by omega) h1) (ret_run (x := (false, S (w ++ List.replicate (size - cut) z))) (ρ' := [some (true, d6), some (false, S A), some (false, .int size), some (false, .int cut), some (false, S w), x5]) ?_))))))) rfl
    · simp -implicitDefEqProofs [e1, bind_run, pure_run, lift_run, ite_run, bad_run, fnOf, runF, argE, seqM, ifM, asT, bin2, bin2v, un1, unL, asF, setM, setIxM, augIxM, augM, retM, giveM, dropM, look, take, put, frz1, ownsAny, owns, store, change, mutM, onL, isB, truM, truP, MC.notM, MC.andM, MC.orM, chain, tupM, lstM, consM, outs, callM, valM, slotM, argSlots, frzS, resolve, ioSlots, setIo, itemsM, itemsOf, PV.flat, strM, andV, orV, notV, slM, slMv, asInt, str_len, addP_ii, addP_ib, addP_ss, addP_ll, addP_tt, iaddP_ii, subP_ii, mulP_ii, mulP_si, fdivP_ii, modP_ii, negP_i, absP_i, intP_i, intP_b, ltP_ii, leP_ii, gtP_ii, geP_ii, ltP_ss, leP_ss, gtP_ss, geP_ss, eqP_ii, eqP_ss, neP_ii, neP_ss, isP_b, isNotP_b, inP_1, notInP_1, lenP_s, lenP_l, lenP_t, lenP_q, listP_s, listP_l, listP_t, tupleP_l, tupleP_t, ixP_l, ixP_t, ixP_q, ixP_s, atI_nat, atI_2, atI_3, atI_4, atI_0, atI_1, atI_last, setV_l, getV_l, ixN_nat, ixN_2, ixN_3, ixN_4, ixN_0, ixN_1, popP_n, appendP_1, extendP_l, slP_to, slP_from, MC.when, fl]
    · simp -implicitDefEqProofs [lit_e, bind_run, pure_run, lift_run, ite_run, bad_run, fnOf, runF, argE, seqM, ifM, asT, bin2, bin2v, un1, unL, asF, setM, setIxM, augIxM, augM, retM, giveM, dropM, look, take, put, frz1, ownsAny, owns, store, change, mutM, onL, isB, truM, truP, MC.notM, MC.andM, MC.orM, chain, tupM, lstM, consM, outs, callM, valM, slotM, argSlots, frzS, resolve, ioSlots, setIo, itemsM, itemsOf, PV.flat, strM, andV, orV, notV, slM, slMv, asInt, str_len, addP_ii, addP_ib, addP_ss, addP_ll, addP_tt, iaddP_ii, subP_ii, mulP_ii, mulP_si, fdivP_ii, modP_ii, negP_i, absP_i, intP_i, intP_b, ltP_ii, leP_ii, gtP_ii, geP_ii, ltP_ss, leP_ss, gtP_ss, geP_ss, eqP_ii, eqP_ss, neP_ii, neP_ss, isP_b, isNotP_b, inP_1, notInP_1, lenP_s, lenP_l, lenP_t, lenP_q, listP_s, listP_l, listP_t, tupleP_l, tupleP_t, ixP_l, ixP_t, ixP_q, ixP_s, atI_nat, atI_2, atI_3, atI_4, atI_0, atI_1, atI_last, setV_l, getV_l, ixN_nat, ixN_2, ixN_3, ixN_4, ixN_0, ixN_1, popP_n, appendP_1, extendP_l, slP_to, slP_from, MC.when, fl]
    · generalize List.replicate (size - cut) z = R at ms ad ⊢
      rw [← g] at ms
      simp -implicitDefEqProofs [fA, hz, ms, ad, bind_run, pure_run, lift_run, ite_run, bad_run, fnOf, runF, argE, seqM, ifM, asT, bin2, bin2v, un1, unL, asF, setM, setIxM, augIxM, augM, retM, giveM, dropM, look, take, put, frz1, ownsAny, owns, store, change, mutM, onL, isB, truM, truP, MC.notM, MC.andM, MC.orM, chain, tupM, lstM, consM, outs, callM, valM, slotM, argSlots, frzS, resolve, ioSlots, setIo, itemsM, itemsOf, PV.flat, strM, andV, orV, notV, slM, slMv, asInt, str_len, addP_ii, addP_ib, addP_ss, addP_ll, addP_tt, iaddP_ii, subP_ii, mulP_ii, mulP_si, fdivP_ii, modP_ii, negP_i, absP_i, intP_i, intP_b, ltP_ii, leP_ii, gtP_ii, geP_ii, ltP_ss, leP_ss, gtP_ss, geP_ss, eqP_ii, eqP_ss, neP_ii, neP_ss, isP_b, isNotP_b, inP_1, notInP_1, lenP_s, lenP_l, lenP_t, lenP_q, listP_s, listP_l, listP_t, tupleP_l, tupleP_t, ixP_l, ixP_t, ixP_q, ixP_s, atI_nat, atI_2, atI_3, atI_4, atI_0, atI_1, atI_last, setV_l, getV_l, ixN_nat, ixN_2, ixN_3, ixN_4, ixN_0, ixN_1, popP_n, appendP_1, extendP_l, slP_to, slP_from, MC.when, fl]
  · rcases List.mem_append.mp hx with h | h
    · exact hw x h
    · rw [List.eq_of_mem_replicate h]; exact zA
end MC.Law
set_option Elab.async false
set_option linter.all false
set_option maxRecDepth 100000
set_option maxHeartbeats 4000000
namespace MC.Law
open PySem
theorem far_step {d : Option (Bool × PV)} {B w : List Nat} {mb : Nat} {x1 x2 x5 x6 x7 x8 x9 : Option (Bool × PV)} (a : Al B mb) (hB : B ≠ []) (hb : B.length ≤ 1000) (h : ∀ c ∈ w, c ∈ B) (hw : w.length ≤ 100) :
    ∃ y5 y6, bd1__law_far_places_stand [d, x1, x2, some (false, S w), some (false, S B), x5, x6, x7, x8, x9] = some (.nx, [d, x1, x2, some (false, S w), some (false, S B), y5, y6, x7, x8, x9]) := by
  obtain ⟨b, e2, r2, hbm, hbl⟩ := behind_ok a hB hb h (by omega)
  have e1 := before_ok a.nd hb h
  have e3 := rank_ok a.nd hb h
  have w1 := wa_rk a.nd w h
  have e4 := at_ok hB hb (n := rk B w) (by rw [w1]; omega)
  rw [w1] at e4
  have e5 := rank_ok a.nd hb hbm
  have w2 := wa_rk a.nd b hbm
  have e6 := at_ok hB hb (n := rk B b) (by rw [w2]; omega)
  rw [w2] at e6
  rw [r2, Int.natCast_add] at e5 e6
  have lw := a.low h
  have lb := a.low hbm
  have n1 := is_num1 (rk B w)
  have n2 := is_num1 ((rk B w : Int) + (1 : Nat))
  have t1 := is_text1 lw
  have t2 := is_text1 lb
  have g : ((1 : Nat) : Int) = 1 := rfl
  rw [g] at e5 e6 n2
  generalize ((rk B w : Nat) : Int) = r at *
  refine ⟨some (false, .int r), some (false, S b), ?_⟩
  unfold bd1__law_far_places_stand
  refine seq_nx (ρ' := [d, x1, x2, some (false, S w), some (false, S B), some (false, .int r), x6, x7, x8, x9]) ?_ (seq_nx (ρ' := [d, x1, x2, some (false, S w), some (false, S B), some (false, .int r), some (false, S b), x7, x8, x9]) ?_
    (seq_nx (ρ' := [d, x1, x2, some (false, S w), some (false, S B), some (false, .int r), some (false, S b), x7, x8, x9]) (if_f (ρ' := [d, x1, x2, some (false, S w), some (false, S B), some (false, .int r), some (false, S b), x7, x8, x9]) ?_ rfl)
    (seq_nx (ρ' := [d, x1, x2, some (false, S w), some (false, S B), some (false, .int r), some (false, S b), x7, x8, x9]) (if_f (ρ' := [d, x1, x2, some (false, S w), some (false, S B), some (false, .int r), some (false, S b), x7, x8, x9]) ?_ rfl)
      (if_f (ρ' := [d, x1, x2, some (false, S w), some (false, S B), some (false, .int r), some (false, S b), x7, x8, x9]) ?_ rfl))))
  · simp -implicitDefEqProofs [e1, bind_run, pure_run, lift_run, ite_run, bad_run, fnOf, runF, argE, seqM, ifM, asT, bin2, bin2v, un1, unL, asF, setM, setIxM, augIxM, augM, retM, giveM, dropM, look, take, put, frz1, ownsAny, owns, store, change, mutM, onL, isB, truM, truP, MC.notM, MC.andM, MC.orM, chain, tupM, lstM, consM, outs, callM, valM, slotM, argSlots, frzS, resolve, ioSlots, setIo, itemsM, itemsOf, PV.flat, strM, andV, orV, notV, slM, slMv, asInt, str_len, addP_ii, addP_ib, addP_ss, addP_ll, addP_tt, iaddP_ii, subP_ii, mulP_ii, mulP_si, fdivP_ii, modP_ii, negP_i, absP_i, intP_i, intP_b, ltP_ii, leP_ii, gtP_ii, geP_ii, ltP_ss, leP_ss, gtP_ss, geP_ss, eqP_ii, eqP_ss, neP_ii, neP_ss, isP_b, isNotP_b, inP_1, notInP_1, lenP_s, lenP_l, lenP_t, lenP_q, listP_s, listP_l, listP_t, tupleP_l, tupleP_t, ixP_l, ixP_t, ixP_q, ixP_s, atI_nat, atI_2, atI_3, atI_4, atI_0, atI_1, atI_last, setV_l, getV_l, ixN_nat, ixN_2, ixN_3, ixN_4, ixN_0, ixN_1, popP_n, appendP_1, extendP_l, slP_to, slP_from, MC.when, fl]
  · simp -implicitDefEqProofs [e2, bind_run, pure_run, lift_run, ite_run, bad_run, fnOf, runF, argE, seqM, ifM, asT, bin2, bin2v, un1, unL, asF, setM, setIxM, augIxM, augM, retM, giveM, dropM, look, take, put, frz1, ownsAny, owns, store, change, mutM, onL, isB, truM, truP, MC.notM, MC.andM, MC.orM, chain, tupM, lstM, consM, outs, callM, valM, slotM, argSlots, frzS, resolve, ioSlots, setIo, itemsM, itemsOf, PV.flat, strM, andV, orV, notV, slM, slMv, asInt, str_len, addP_ii, addP_ib, addP_ss, addP_ll, addP_tt, iaddP_ii, subP_ii, mulP_ii, mulP_si, fdivP_ii, modP_ii, negP_i, absP_i, intP_i, intP_b, ltP_ii, leP_ii, gtP_ii, geP_ii, ltP_ss, leP_ss, gtP_ss, geP_ss, eqP_ii, eqP_ss, neP_ii, neP_ss, isP_b, isNotP_b, inP_1, notInP_1, lenP_s, lenP_l, lenP_t, lenP_q, listP_s, listP_l, listP_t, tupleP_l, tupleP_t, ixP_l, ixP_t, ixP_q, ixP_s, atI_nat, atI_2, atI_3, atI_4, atI_0, atI_1, atI_last, setV_l, getV_l, ixN_nat, ixN_2, ixN_3, ixN_4, ixN_0, ixN_1, popP_n, appendP_1, extendP_l, slP_to, slP_from, MC.when, fl]
  · simp -implicitDefEqProofs [e3, e4, n1, t1, bind_run, pure_run, lift_run, ite_run, bad_run, fnOf, runF, argE, seqM, ifM, asT, bin2, bin2v, un1, unL, asF, setM, setIxM, augIxM, augM, retM, giveM, dropM, look, take, put, frz1, ownsAny, owns, store, change, mutM, onL, isB, truM, truP, MC.notM, MC.andM, MC.orM, chain, tupM, lstM, consM, outs, callM, valM, slotM, argSlots, frzS, resolve, ioSlots, setIo, itemsM, itemsOf, PV.flat, strM, andV, orV, notV, slM, slMv, asInt, str_len, addP_ii, addP_ib, addP_ss, addP_ll, addP_tt, iaddP_ii, subP_ii, mulP_ii, mulP_si, fdivP_ii, modP_ii, negP_i, absP_i, intP_i, intP_b, ltP_ii, leP_ii, gtP_ii, geP_ii, ltP_ss, leP_ss, gtP_ss, geP_ss, eqP_ii, eqP_ss, neP_ii, neP_ss, isP_b, isNotP_b, inP_1, notInP_1, lenP_s, lenP_l, lenP_t, lenP_q, listP_s, listP_l, listP_t, tupleP_l, tupleP_t, ixP_l, ixP_t, ixP_q, ixP_s, atI_nat, atI_2, atI_3, atI_4, atI_0, atI_1, atI_last, setV_l, getV_l, ixN_nat, ixN_2, ixN_3, ixN_4, ixN_0, ixN_1, popP_n, appendP_1, extendP_l, slP_to, slP_from, MC.when, fl]
  · simp -implicitDefEqProofs [e5, n2, bind_run, pure_run, lift_run, ite_run, bad_run, fnOf, runF, argE, seqM, ifM, asT, bin2, bin2v, un1, unL, asF, setM, setIxM, augIxM, augM, retM, giveM, dropM, look, take, put, frz1, ownsAny, owns, store, change, mutM, onL, isB, truM, truP, MC.notM, MC.andM, MC.orM, chain, tupM, lstM, consM, outs, callM, valM, slotM, argSlots, frzS, resolve, ioSlots, setIo, itemsM, itemsOf, PV.flat, strM, andV, orV, notV, slM, slMv, asInt, str_len, addP_ii, addP_ib, addP_ss, addP_ll, addP_tt, iaddP_ii, subP_ii, mulP_ii, mulP_si, fdivP_ii, modP_ii, negP_i, absP_i, intP_i, intP_b, ltP_ii, leP_ii, gtP_ii, geP_ii, ltP_ss, leP_ss, gtP_ss, geP_ss, eqP_ii, eqP_ss, neP_ii, neP_ss, isP_b, isNotP_b, inP_1, notInP_1, lenP_s, lenP_l, lenP_t, lenP_q, listP_s, listP_l, listP_t, tupleP_l, tupleP_t, ixP_l, ixP_t, ixP_q, ixP_s, atI_nat, atI_2, atI_3, atI_4, atI_0, atI_1, atI_last, setV_l, getV_l, ixN_nat, ixN_2, ixN_3, ixN_4, ixN_0, ixN_1, popP_n, appendP_1, extendP_l, slP_to, slP_from, MC.when, fl]
  · simp -implicitDefEqProofs [e6, t2, bind_run, pure_run, lift_run, ite_run, bad_run, fnOf, runF, argE, seqM, ifM, asT, bin2, bin2v, un1, unL, asF, setM, setIxM, augIxM, augM, retM, giveM, dropM, look, take, put, frz1, ownsAny, owns, store, change, mutM, onL, isB, truM, truP, MC.notM, MC.andM, MC.orM, chain, tupM, lstM, consM, outs, callM, valM, slotM, argSlots, frzS, resolve, ioSlots, setIo, itemsM, itemsOf, PV.flat, strM, andV, orV, notV, slM, slMv, asInt, str_len, addP_ii, addP_ib, addP_ss, addP_ll, addP_tt, iaddP_ii, subP_ii, mulP_ii, mulP_si, fdivP_ii, modP_ii, negP_i, absP_i, intP_i, intP_b, ltP_ii, leP_ii, gtP_ii, geP_ii, ltP_ss, leP_ss, gtP_ss, geP_ss, eqP_ii, eqP_ss, neP_ii, neP_ss, isP_b, isNotP_b, inP_1, notInP_1, lenP_s, lenP_l, lenP_t, lenP_q, listP_s, listP_l, listP_t, tupleP_l, tupleP_t, ixP_l, ixP_t, ixP_q, ixP_s, atI_nat, atI_2, atI_3, atI_4, atI_0, atI_1, atI_last, setV_l, getV_l, ixN_nat, ixN_2, ixN_3, ixN_4, ixN_0, ixN_1, popP_n, appendP_1, extendP_l, slP_to, slP_from, MC.when, fl]
theorem far_stand {d : PV} {A W w : List Nat} {m mw : Nat} (hd : IsDr d) (a : Al A m) (hA : A ≠ []) (ha : A.length ≤ 900) (aw : Al W mw) (hW : W.length ≤ 900) (hs : ∀ c ∈ A, c ∈ W) (h : ∀ c ∈ w, c ∈ A) (hw : w.length ≤ 40) :
    ∃ d', F__law_far_places_stand [d, S A, S W, S w] = some ((false, .bl true), [d']) ∧ IsDr d' := by
  have fA : fits A.length = true := fits_of (by omega)
  have hWn : W ≠ [] := by
    intro z; subst z
    obtain ⟨x, r⟩ := List.exists_cons_of_ne_nil hA
    obtain ⟨y, rfl⟩ := r
    exact absurd (hs x List.mem_cons_self) (by simp)
  have f3 : fits 3 = true := fits_of (by decide)
  -- the three
  obtain ⟨ρ', h1, x4, x5, x6, rfl⟩ := forM_inv (h := put 4 false) (f := bd1__law_far_places_stand) (fun i ρ => ∃ x4 x5 x6, ρ = [some (true, d), some (false, S A), some (false, S W), some (false, S w), x4, x5, x6, none, none, none]) [S A, S W, S A] 0 [some (true, d), some (false, S A), some (false, S W), some (false, S w), none, none, none, none, none, none] ⟨none, none, none, rfl⟩ (by
    rintro i x _ hx ⟨x4, x5, x6, rfl⟩
    have hx2 : x = S A ∨ x = S W := by
      have := List.mem_of_getElem? hx
      simp at this
      rcases this with q | q | q
      · exact .inl q
      · exact .inr q
      · exact .inl q
    rcases hx2 with rfl | rfl
    · obtain ⟨y5, y6, e⟩ := far_step (d := some (true, d)) (x1 := some (false, S A)) (x2 := some (false, S W)) (x5 := x5) (x6 := x6) (x7 := none) (x8 := none) (x9 := none) a hA (by omega) h (by omega)
      exact ⟨_, .inl (bind_of rfl e), _, _, _, rfl⟩
    · obtain ⟨y5, y6, e⟩ := far_step (d := some (true, d)) (x1 := some (false, S A)) (x2 := some (false, S W)) (x5 := x5) (x6 := x6) (x7 := none) (x8 := none) (x9 := none) aw hWn (by omega) (fun c hc => hs c (h c hc)) (by omega)
      exact ⟨_, .inl (bind_of rfl e), _, _, _, rfl⟩)
  have s1 : fo1__law_far_places_stand [some (true, d), some (false, S A), some (false, S W), some (false, S w), none, none, none, none, none, none] = some (.nx, [some (true, d), some (false, S A), some (false, S W), some (false, S w), x4, x5, x6, none, none, none]) := by
    refine bind_of (a := [S A, S W, S A]) (ρ' := [some (true, d), some (false, S A), some (false, S W), some (false, S w), none, none, none, none, none, none]) ?_ h1
    simp -implicitDefEqProofs [f3, bind_run, pure_run, lift_run, ite_run, bad_run, fnOf, runF, argE, seqM, ifM, asT, bin2, bin2v, un1, unL, asF, setM, setIxM, augIxM, augM, retM, giveM, dropM, look, take, put, frz1, ownsAny, owns, store, change, mutM, onL, isB, truM, truP, MC.notM, MC.andM, MC.orM, chain, tupM, lstM, consM, outs, callM, valM, slotM, argSlots, frzS, resolve, ioSlots, setIo, itemsM, itemsOf, PV.flat, strM, andV, orV, notV, slM, slMv, asInt, str_len, addP_ii, addP_ib, addP_ss, addP_ll, addP_tt, iaddP_ii, subP_ii, mulP_ii, mulP_si, fdivP_ii, modP_ii, negP_i, absP_i, intP_i, intP_b, ltP_ii, leP_ii, gtP_ii, geP_ii, ltP_ss, leP_ss, gtP_ss, geP_ss, eqP_ii, eqP_ss, neP_ii, neP_ss, isP_b, isNotP_b, inP_1, notInP_1, lenP_s, lenP_l, lenP_t, lenP_q, listP_s, listP_l, listP_t, tupleP_l, tupleP_t, ixP_l, ixP_t, ixP_q, ixP_s, atI_nat, atI_2, atI_3, atI_4, atI_0, atI_1, atI_last, setV_l, getV_l, ixN_nat, ixN_2, ixN_3, ixN_4, ixN_0, ixN_1, popP_n, appendP_1, extendP_l, slP_to, slP_from, MC.when, fl]
  obtain ⟨r1, d1, e1, p1, q1, hd1⟩ := draw_ok hd (many := 60) (by omega) (by omega)
  have s3 : ∃ (num : Nat) (d2 : PV), IsDr d2 ∧ (wa A num).length ≤ 100 ∧ (ifM (asT (bin2 (asF (un1 (look 1) lenP)) (pure (.int 1)) gtP)) (setM 7 (callM [0] F__law_draw (slotM 0 (valM (asF (bin2 (pure (.int 10)) (pure (.int 9)) powP)) (pure []))))) (pure .nx)) [some (true, d1), some (false, S A), some (false, S W), some (false, S w), x4, x5, x6, some (false, .int r1), none, none] =
      some (.nx, [some (true, d2), some (false, S A), some (false, S W), some (false, S w), x4, x5, x6, some (false, .int num), none, none]) := by
    by_cases hm : (1 : Int) < A.length
    · obtain ⟨r2, d2, e2, p2, q2, hd2⟩ := draw_ok hd1 (many := 1000000000) (by omega) (by omega)
      have pw : powP (.int 10) (.int 9) = some (false, .int 1000000000) := rfl
      refine ⟨r2.toNat, d2, hd2, ?_, if_t (ρ' := [some (true, d1), some (false, S A), some (false, S W), some (false, S w), x4, x5, x6, some (false, .int r1), none, none]) ?_ ?_⟩
      · have p30 : (2 : Nat) ^ 30 = 1073741824 := by decide
        have := wa_log (A := A) (by omega) 30 r2.toNat (by rw [p30]; omega)
        omega
      · simp -implicitDefEqProofs [fA, hm, bind_run, pure_run, lift_run, ite_run, bad_run, fnOf, runF, argE, seqM, ifM, asT, bin2, bin2v, un1, unL, asF, setM, setIxM, augIxM, augM, retM, giveM, dropM, look, take, put, frz1, ownsAny, owns, store, change, mutM, onL, isB, truM, truP, MC.notM, MC.andM, MC.orM, chain, tupM, lstM, consM, outs, callM, valM, slotM, argSlots, frzS, resolve, ioSlots, setIo, itemsM, itemsOf, PV.flat, strM, andV, orV, notV, slM, slMv, asInt, str_len, addP_ii, addP_ib, addP_ss, addP_ll, addP_tt, iaddP_ii, subP_ii, mulP_ii, mulP_si, fdivP_ii, modP_ii, negP_i, absP_i, intP_i, intP_b, ltP_ii, leP_ii, gtP_ii, geP_ii, ltP_ss, leP_ss, gtP_ss, geP_ss, eqP_ii, eqP_ss, neP_ii, neP_ss, isP_b, isNotP_b, inP_1, notInP_1, lenP_s, lenP_l, lenP_t, lenP_q, listP_s, listP_l, listP_t, tupleP_l, tupleP_t, ixP_l, ixP_t, ixP_q, ixP_s, atI_nat, atI_2, atI_3, atI_4, atI_0, atI_1, atI_last, setV_l, getV_l, ixN_nat, ixN_2, ixN_3, ixN_4, ixN_0, ixN_1, popP_n, appendP_1, extendP_l, slP_to, slP_from, MC.when, fl]
      · have g : ((r2.toNat : Nat) : Int) = r2 := by omega
        rw [g]
        simp -implicitDefEqProofs [pw, e2, bind_run, pure_run, lift_run, ite_run, bad_run, fnOf, runF, argE, seqM, ifM, asT, bin2, bin2v, un1, unL, asF, setM, setIxM, augIxM, augM, retM, giveM, dropM, look, take, put, frz1, ownsAny, owns, store, change, mutM, onL, isB, truM, truP, MC.notM, MC.andM, MC.orM, chain, tupM, lstM, consM, outs, callM, valM, slotM, argSlots, frzS, resolve, ioSlots, setIo, itemsM, itemsOf, PV.flat, strM, andV, orV, notV, slM, slMv, asInt, str_len, addP_ii, addP_ib, addP_ss, addP_ll, addP_tt, iaddP_ii, subP_ii, mulP_ii, mulP_si, fdivP_ii, modP_ii, negP_i, absP_i, intP_i, intP_b, ltP_ii, leP_ii, gtP_ii, geP_ii, ltP_ss, leP_ss, gtP_ss, geP_ss, eqP_ii, eqP_ss, neP_ii, neP_ss, isP_b, isNotP_b, inP_1, notInP_1, lenP_s, lenP_l, lenP_t, lenP_q, listP_s, listP_l, listP_t, tupleP_l, tupleP_t, ixP_l, ixP_t, ixP_q, ixP_s, atI_nat, atI_2, atI_3, atI_4, atI_0, atI_1, atI_last, setV_l, getV_l, ixN_nat, ixN_2, ixN_3, ixN_4, ixN_0, ixN_1, popP_n, appendP_1, extendP_l, slP_to, slP_from, MC.when, fl]
    · refine ⟨r1.toNat, d1, hd1, ?_, if_f (ρ' := [some (true, d1), some (false, S A), some (false, S W), some (false, S w), x4, x5, x6, some (false, .int r1), none, none]) ?_ ?_⟩
      · have := wa_len A r1.toNat; omega
      · simp -implicitDefEqProofs [fA, hm, bind_run, pure_run, lift_run, ite_run, bad_run, fnOf, runF, argE, seqM, ifM, asT, bin2, bin2v, un1, unL, asF, setM, setIxM, augIxM, augM, retM, giveM, dropM, look, take, put, frz1, ownsAny, owns, store, change, mutM, onL, isB, truM, truP, MC.notM, MC.andM, MC.orM, chain, tupM, lstM, consM, outs, callM, valM, slotM, argSlots, frzS, resolve, ioSlots, setIo, itemsM, itemsOf, PV.flat, strM, andV, orV, notV, slM, slMv, asInt, str_len, addP_ii, addP_ib, addP_ss, addP_ll, addP_tt, iaddP_ii, subP_ii, mulP_ii, mulP_si, fdivP_ii, modP_ii, negP_i, absP_i, intP_i, intP_b, ltP_ii, leP_ii, gtP_ii, geP_ii, ltP_ss, leP_ss, gtP_ss, geP_ss, eqP_ii, eqP_ss, neP_ii, neP_ss, isP_b, isNotP_b, inP_1, notInP_1, lenP_s, lenP_l, lenP_t, lenP_q, listP_s, listP_l, listP_t, tupleP_l, tupleP_t, ixP_l, ixP_t, ixP_q, ixP_s, atI_nat, atI_2, atI_3, atI_4, atI_0, atI_1, atI_last, setV_l, getV_l, ixN_nat, ixN_2, ixN_3, ixN_4, ixN_0, ixN_1, popP_n, appendP_1, extendP_l, slP_to, slP_from, MC.when, fl]
      · have g : ((r1.toNat : Nat) : Int) = r1 := by omega
        rw [g]; rfl
  obtain ⟨num, d2, hd2, hl, s3⟩ := s3
  have e4 := at_ok hA (by omega) (n := num) (by omega)
  have hm := wa_mem hA num
  have e5 := before_ok a.nd (by omega) hm
  rw [rk_wa a.nd hA] at e5
  generalize wa A num = t at hl e4 hm e5
  have lc : lc1__law_far_places_stand [some (true, d2), some (false, S A), some (false, S W), some (false, S w), x4, x5, x6, some (false, .int num), some (false, S t), none] = some ((true, .lst (t.map fun _ => .bl true)), [some (true, d2), some (false, S A), some (false, S W), some (false, S w), x4, x5, x6, some (false, .int num), some (false, S t), none]) := by
    have lp := lcLoop_pure (vs := [9]) (h := put 9 false) (ft := pure true) (fe := asF (bin2v 9 (look 1) inP)) (ρ := [some (true, d2), some (false, S A), some (false, S W), some (false, S w), x4, x5, x6, some (false, .int num), some (false, S t), none]) (fun _ => true) (fun _ => PV.bl true) (t.map sign) fun x hx => by
      obtain ⟨c, hc, rfl⟩ := List.mem_map.mp hx
      have hcm := hm c hc
      refine ⟨_, rfl, fun _ => ⟨[some (true, d2), some (false, S A), some (false, S W), some (false, S w), x4, x5, x6, some (false, .int num), some (false, S t), some (false, .str ⟨⟨[c]⟩⟩)], ?_, rfl⟩, fun z => nomatch z⟩
      show asF _ [some (true, d2), some (false, S A), some (false, S W), some (false, S w), x4, x5, x6, some (false, .int num), some (false, S t), some (false, .str ⟨⟨[c]⟩⟩)] = _
      simp -implicitDefEqProofs [hcm, bind_run, pure_run, lift_run, ite_run, bad_run, fnOf, runF, argE, seqM, ifM, asT, bin2, bin2v, un1, unL, asF, setM, setIxM, augIxM, augM, retM, giveM, dropM, look, take, put, frz1, ownsAny, owns, store, change, mutM, onL, isB, truM, truP, MC.notM, MC.andM, MC.orM, chain, tupM, lstM, consM, outs, callM, valM, slotM, argSlots, frzS, resolve, ioSlots, setIo, itemsM, itemsOf, PV.flat, strM, andV, orV, notV, slM, slMv, asInt, str_len, addP_ii, addP_ib, addP_ss, addP_ll, addP_tt, iaddP_ii, subP_ii, mulP_ii, mulP_si, fdivP_ii, modP_ii, negP_i, absP_i, intP_i, intP_b, ltP_ii, leP_ii, gtP_ii, geP_ii, ltP_ss, leP_ss, gtP_ss, geP_ss, eqP_ii, eqP_ss, neP_ii, neP_ss, isP_b, isNotP_b, inP_1, notInP_1, lenP_s, lenP_l, lenP_t, lenP_q, listP_s, listP_l, listP_t, tupleP_l, tupleP_t, ixP_l, ixP_t, ixP_q, ixP_s, atI_nat, atI_2, atI_3, atI_4, atI_0, atI_1, atI_last, setV_l, getV_l, ixN_nat, ixN_2, ixN_3, ixN_4, ixN_0, ixN_1, popP_n, appendP_1, extendP_l, slP_to, slP_from, MC.when, fl]
    rw [List.filter_eq_self.mpr (fun _ _ => rfl), List.map_map] at lp
    unfold lc1__law_far_places_stand lcM
    exact bind_of (a := t.map sign) (ρ' := [some (true, d2), some (false, S A), some (false, S W), some (false, S w), x4, x5, x6, some (false, .int num), some (false, S t), none]) rfl (bind_of (within_run rfl lp rfl) (lst_run (by rw [List.length_map]; omega)))
  have ap := allP_true t
  refine ⟨d2, ?_, hd2⟩
  refine fn_run rfl (ρ0 := [some (true, d), some (false, S A), some (false, S W), some (false, S w), none, none, none, none, none, none]) rfl (seq_nx s1 (seq_nx (ρ' := [some (true, d1), some (false, S A), some (false, S W), some (false, S w), x4, x5, x6, some (false, .int r1), none, none]) ?_
    (seq_nx s3 (seq_nx (ρ' := [some (true, d2), some (false, S A), some (false, S W), some (false, S w), x4, x5, x6, some (false, .int num), some (false, S t), none]) ?_
    (seq_nx (ρ' := [some (true, d2), some (false, S A), some (false, S W), some (false, S w), x4, x5, x6, some (false, .int num), some (false, S t), none]) (if_f (ρ' := [some (true, d2), some (false, S A), some (false, S W), some (false, S w), x4, x5, x6, some (false, .int num), some (false, S t), none]) ?_ rfl)
      (ret_run (x := (false, .bl true)) (ρ' := [some (true, d2), some (false, S A), some (false, S W), some (false, S w), x4, x5, x6, some (false, .int num), some (false, S t), none]) ?_)))))) rfl
  · simp -implicitDefEqProofs [e1, bind_run, pure_run, lift_run, ite_run, bad_run, fnOf, runF, argE, seqM, ifM, asT, bin2, bin2v, un1, unL, asF, setM, setIxM, augIxM, augM, retM, giveM, dropM, look, take, put, frz1, ownsAny, owns, store, change, mutM, onL, isB, truM, truP, MC.notM, MC.andM, MC.orM, chain, tupM, lstM, consM, outs, callM, valM, slotM, argSlots, frzS, resolve, ioSlots, setIo, itemsM, itemsOf, PV.flat, strM, andV, orV, notV, slM, slMv, asInt, str_len, addP_ii, addP_ib, addP_ss, addP_ll, addP_tt, iaddP_ii, subP_ii, mulP_ii, mulP_si, fdivP_ii, modP_ii, negP_i, absP_i, intP_i, intP_b, ltP_ii, leP_ii, gtP_ii, geP_ii, ltP_ss, leP_ss, gtP_ss, geP_ss, eqP_ii, eqP_ss, neP_ii, neP_ss, isP_b, isNotP_b, inP_1, notInP_1, lenP_s, lenP_l, lenP_t, lenP_q, listP_s, listP_l, listP_t, tupleP_l, tupleP_t, ixP_l, ixP_t, ixP_q, ixP_s, atI_nat, atI_2, atI_3, atI_4, atI_0, atI_1, atI_last, setV_l, getV_l, ixN_nat, ixN_2, ixN_3, ixN_4, ixN_0, ixN_1, popP_n, appendP_1, extendP_l, slP_to, slP_from, MC.when, fl]
  · simp -implicitDefEqProofs [e4, bind_run, pure_run, lift_run, ite_run, bad_run, fnOf, runF, argE, seqM, ifM, asT, bin2, bin2v, un1, unL, asF, setM, setIxM, augIxM, augM, retM, giveM, dropM, look, take, put, frz1, ownsAny, owns, store, change, mutM, onL, isB, truM, truP, MC.notM, MC.andM, MC.orM, chain, tupM, lstM, consM, outs, callM, valM, slotM, argSlots, frzS, resolve, ioSlots, setIo, itemsM, itemsOf, PV.flat, strM, andV, orV, notV, slM, slMv, asInt, str_len, addP_ii, addP_ib, addP_ss, addP_ll, addP_tt, iaddP_ii, subP_ii, mulP_ii, mulP_si, fdivP_ii, modP_ii, negP_i, absP_i, intP_i, intP_b, ltP_ii, leP_ii, gtP_ii, geP_ii, ltP_ss, leP_ss, gtP_ss, geP_ss, eqP_ii, eqP_ss, neP_ii, neP_ss, isP_b, isNotP_b, inP_1, notInP_1, lenP_s, lenP_l, lenP_t, lenP_q, listP_s, listP_l, listP_t, tupleP_l, tupleP_t, ixP_l, ixP_t, ixP_q, ixP_s, atI_nat, atI_2, atI_3, atI_4, atI_0, atI_1, atI_last, setV_l, getV_l, ixN_nat, ixN_2, ixN_3, ixN_4, ixN_0, ixN_1, popP_n, appendP_1, extendP_l, slP_to, slP_from, MC.when, fl]
  · generalize t.map (fun _ => PV.bl true) = Z at lc ap
    simp -implicitDefEqProofs [isi_ss, lc, ap, bind_run, pure_run, lift_run, ite_run, bad_run, fnOf, runF, argE, seqM, ifM, asT, bin2, bin2v, un1, unL, asF, setM, setIxM, augIxM, augM, retM, giveM, dropM, look, take, put, frz1, ownsAny, owns, store, change, mutM, onL, isB, truM, truP, MC.notM, MC.andM, MC.orM, chain, tupM, lstM, consM, outs, callM, valM, slotM, argSlots, frzS, resolve, ioSlots, setIo, itemsM, itemsOf, PV.flat, strM, andV, orV, notV, slM, slMv, asInt, str_len, addP_ii, addP_ib, addP_ss, addP_ll, addP_tt, iaddP_ii, subP_ii, mulP_ii, mulP_si, fdivP_ii, modP_ii, negP_i, absP_i, intP_i, intP_b, ltP_ii, leP_ii, gtP_ii, geP_ii, ltP_ss, leP_ss, gtP_ss, geP_ss, eqP_ii, eqP_ss, neP_ii, neP_ss, isP_b, isNotP_b, inP_1, notInP_1, lenP_s, lenP_l, lenP_t, lenP_q, listP_s, listP_l, listP_t, tupleP_l, tupleP_t, ixP_l, ixP_t, ixP_q, ixP_s, atI_nat, atI_2, atI_3, atI_4, atI_0, atI_1, atI_last, setV_l, getV_l, ixN_nat, ixN_2, ixN_3, ixN_4, ixN_0, ixN_1, popP_n, appendP_1, extendP_l, slP_to, slP_from, MC.when, fl]
  · simp -implicitDefEqProofs [e5, bind_run, pure_run, lift_run, ite_run, bad_run, fnOf, runF, argE, seqM, ifM, asT, bin2, bin2v, un1, unL, asF, setM, setIxM, augIxM, augM, retM, giveM, dropM, look, take, put, frz1, ownsAny, owns, store, change, mutM, onL, isB, truM, truP, MC.notM, MC.andM, MC.orM, chain, tupM, lstM, consM, outs, callM, valM, slotM, argSlots, frzS, resolve, ioSlots, setIo, itemsM, itemsOf, PV.flat, strM, andV, orV, notV, slM, slMv, asInt, str_len, addP_ii, addP_ib, addP_ss, addP_ll, addP_tt, iaddP_ii, subP_ii, mulP_ii, mulP_si, fdivP_ii, modP_ii, negP_i, absP_i, intP_i, intP_b, ltP_ii, leP_ii, gtP_ii, geP_ii, ltP_ss, leP_ss, gtP_ss, geP_ss, eqP_ii, eqP_ss, neP_ii, neP_ss, isP_b, isNotP_b, inP_1, notInP_1, lenP_s, lenP_l, lenP_t, lenP_q, listP_s, listP_l, listP_t, tupleP_l, tupleP_t, ixP_l, ixP_t, ixP_q, ixP_s, atI_nat, atI_2, atI_3, atI_4, atI_0, atI_1, atI_last, setV_l, getV_l, ixN_nat, ixN_2, ixN_3, ixN_4, ixN_0, ixN_1, popP_n, appendP_1, extendP_l, slP_to, slP_from, MC.when, fl]
end MC.Law
set_option Elab.async false
set_option linter.all false
set_option maxRecDepth 100000
set_option maxHeartbeats 4000000
namespace MC.Law
open PySem
theorem lt1 (a b : Nat) : (([a] : List Nat) < [b]) ↔ a < b := by simp [List.cons_lt_cons_iff]
theorem lit_a : Str.ofString "a" = ⟨⟨[97]⟩⟩ := by decide +kernel
theorem lit_z : Str.ofString "z" = ⟨⟨[122]⟩⟩ := by decide +kernel
def badAt (B : List Nat) : PV → Bool
  | .int i => match B[i.toNat]? with
    | some c => decide (c < 97 ∨ 122 < c) || (match i.toNat with
      | 0 => false
      | j + 1 => match B[j]? with
        | some b => decide (c ≤ b)
        | none => false)
    | none => false
  | _ => false
theorem alpha_step {B : List Nat} (hl : B.length ≤ 1000) {k : Nat} (hk : k < B.length) (x1 : Option (Bool × PV)) :
    (put 1 false (.int k) >>= fun _ => bd1_is_alphabet) [some (false, S B), x1] = some (if badAt B (.int k) = true then .rt (false, .bl false) else .nx, [some (false, S B), some (false, .int k)]) := by
  have fB : fits B.length = true := fits_of (by omega)
  obtain ⟨c, hc⟩ : ∃ c, B[k]? = some c := ⟨_, List.getElem?_eq_getElem hk⟩
  refine bind_of (ρ' := [some (false, S B), some (false, .int k)]) rfl ?_
  unfold bd1_is_alphabet
  by_cases r1 : c < 97 ∨ 122 < c
  · have hb : badAt B (.int k) = true := by
      show (match B[((k : Int)).toNat]? with | some c => _ | none => _) = true
      rw [Int.toNat_natCast, hc]
      simp [r1]
    rw [if_pos hb]
    refine seq_rt (if_t (ρ' := [some (false, S B), some (false, .int k)]) ?_ rfl)
    rcases r1 with r | r
    · have r' : ¬ 97 ≤ c := by omega
      simp -implicitDefEqProofs [lit_a, lit_z, fB, hc, lt1, r, r', bind_run, pure_run, lift_run, ite_run, bad_run, fnOf, runF, argE, seqM, ifM, asT, bin2, bin2v, un1, unL, asF, setM, setIxM, augIxM, augM, retM, giveM, dropM, look, take, put, frz1, ownsAny, owns, store, change, mutM, onL, isB, truM, truP, MC.notM, MC.andM, MC.orM, chain, tupM, lstM, consM, outs, callM, valM, slotM, argSlots, frzS, resolve, ioSlots, setIo, itemsM, itemsOf, PV.flat, strM, andV, orV, notV, slM, slMv, asInt, str_len, addP_ii, addP_ib, addP_ss, addP_ll, addP_tt, iaddP_ii, subP_ii, mulP_ii, mulP_si, fdivP_ii, modP_ii, negP_i, absP_i, intP_i, intP_b, ltP_ii, leP_ii, gtP_ii, geP_ii, ltP_ss, leP_ss, gtP_ss, geP_ss, eqP_ii, eqP_ss, neP_ii, neP_ss, isP_b, isNotP_b, inP_1, notInP_1, lenP_s, lenP_l, lenP_t, lenP_q, listP_s, listP_l, listP_t, tupleP_l, tupleP_t, ixP_l, ixP_t, ixP_q, ixP_s, atI_nat, atI_2, atI_3, atI_4, atI_0, atI_1, atI_last, setV_l, getV_l, ixN_nat, ixN_2, ixN_3, ixN_4, ixN_0, ixN_1, popP_n, appendP_1, extendP_l, slP_to, slP_from, MC.when, fl]
    · have r' : ¬ c < 97 := by omega
      have r2 : ¬ c ≤ 122 := by omega
      simp -implicitDefEqProofs [lit_a, lit_z, fB, hc, lt1, r, r', r2, bind_run, pure_run, lift_run, ite_run, bad_run, fnOf, runF, argE, seqM, ifM, asT, bin2, bin2v, un1, unL, asF, setM, setIxM, augIxM, augM, retM, giveM, dropM, look, take, put, frz1, ownsAny, owns, store, change, mutM, onL, isB, truM, truP, MC.notM, MC.andM, MC.orM, chain, tupM, lstM, consM, outs, callM, valM, slotM, argSlots, frzS, resolve, ioSlots, setIo, itemsM, itemsOf, PV.flat, strM, andV, orV, notV, slM, slMv, asInt, str_len, addP_ii, addP_ib, addP_ss, addP_ll, addP_tt, iaddP_ii, subP_ii, mulP_ii, mulP_si, fdivP_ii, modP_ii, negP_i, absP_i, intP_i, intP_b, ltP_ii, leP_ii, gtP_ii, geP_ii, ltP_ss, leP_ss, gtP_ss, geP_ss, eqP_ii, eqP_ss, neP_ii, neP_ss, isP_b, isNotP_b, inP_1, notInP_1, lenP_s, lenP_l, lenP_t, lenP_q, listP_s, listP_l, listP_t, tupleP_l, tupleP_t, ixP_l, ixP_t, ixP_q, ixP_s, atI_nat, atI_2, atI_3, atI_4, atI_0, atI_1, atI_last, setV_l, getV_l, ixN_nat, ixN_2, ixN_3, ixN_4, ixN_0, ixN_1, popP_n, appendP_1, extendP_l, slP_to, slP_from, MC.when, fl]
  · have r2 : ¬ c < 97 := by omega
    have r3 : ¬ 122 < c := by omega
    have r4 : 97 ≤ c := by omega
    have r5 : c ≤ 122 := by omega
    refine seq_nx (ρ' := [some (false, S B), some (false, .int k)]) (if_f (ρ' := [some (false, S B), some (false, .int k)]) (by simp -implicitDefEqProofs [lit_a, lit_z, fB, hc, lt1, r2, r3, r4, r5, bind_run, pure_run, lift_run, ite_run, bad_run, fnOf, runF, argE, seqM, ifM, asT, bin2, bin2v, un1, unL, asF, setM, setIxM, augIxM, augM, retM, giveM, dropM, look, take, put, frz1, ownsAny, owns, store, change, mutM, onL, isB, truM, truP, MC.notM, MC.andM, MC.orM, chain, tupM, lstM, consM, outs, callM, valM, slotM, argSlots, frzS, resolve, ioSlots, setIo, itemsM, itemsOf, PV.flat, strM, andV, orV, notV, slM, slMv, asInt, str_len, addP_ii, addP_ib, addP_ss, addP_ll, addP_tt, iaddP_ii, subP_ii, mulP_ii, mulP_si, fdivP_ii, modP_ii, negP_i, absP_i, intP_i, intP_b, ltP_ii, leP_ii, gtP_ii, geP_ii, ltP_ss, leP_ss, gtP_ss, geP_ss, eqP_ii, eqP_ss, neP_ii, neP_ss, isP_b, isNotP_b, inP_1, notInP_1, lenP_s, lenP_l, lenP_t, lenP_q, listP_s, listP_l, listP_t, tupleP_l, tupleP_t, ixP_l, ixP_t, ixP_q, ixP_s, atI_nat, atI_2, atI_3, atI_4, atI_0, atI_1, atI_last, setV_l, getV_l, ixN_nat, ixN_2, ixN_3, ixN_4, ixN_0, ixN_1, popP_n, appendP_1, extendP_l, slP_to, slP_from, MC.when, fl]) rfl) ?_
    cases k with
    | zero =>
      have hb : badAt B (.int (0 : Nat)) = false := by
        show (match B[(((0 : Nat) : Int)).toNat]? with | some c => _ | none => _) = false
        rw [Int.toNat_natCast, hc]
        simp [r1]
      rw [hb]
      refine if_f (ρ' := [some (false, S B), some (false, .int (0 : Nat))]) (by simp -implicitDefEqProofs [bind_run, pure_run, lift_run, ite_run, bad_run, fnOf, runF, argE, seqM, ifM, asT, bin2, bin2v, un1, unL, asF, setM, setIxM, augIxM, augM, retM, giveM, dropM, look, take, put, frz1, ownsAny, owns, store, change, mutM, onL, isB, truM, truP, MC.notM, MC.andM, MC.orM, chain, tupM, lstM, consM, outs, callM, valM, slotM, argSlots, frzS, resolve, ioSlots, setIo, itemsM, itemsOf, PV.flat, strM, andV, orV, notV, slM, slMv, asInt, str_len, addP_ii, addP_ib, addP_ss, addP_ll, addP_tt, iaddP_ii, subP_ii, mulP_ii, mulP_si, fdivP_ii, modP_ii, negP_i, absP_i, intP_i, intP_b, ltP_ii, leP_ii, gtP_ii, geP_ii, ltP_ss, leP_ss, gtP_ss, geP_ss, eqP_ii, eqP_ss, neP_ii, neP_ss, isP_b, isNotP_b, inP_1, notInP_1, lenP_s, lenP_l, lenP_t, lenP_q, listP_s, listP_l, listP_t, tupleP_l, tupleP_t, ixP_l, ixP_t, ixP_q, ixP_s, atI_nat, atI_2, atI_3, atI_4, atI_0, atI_1, atI_last, setV_l, getV_l, ixN_nat, ixN_2, ixN_3, ixN_4, ixN_0, ixN_1, popP_n, appendP_1, extendP_l, slP_to, slP_from, MC.when, fl]) rfl
    | succ j =>
      obtain ⟨b, hb0⟩ : ∃ b, B[j]? = some b := ⟨_, List.getElem?_eq_getElem (by omega)⟩
      have hb : badAt B (.int (j + 1 : Nat)) = decide (c ≤ b) := by
        show (match B[(((j + 1 : Nat) : Int)).toNat]? with | some c => _ | none => _) = _
        rw [Int.toNat_natCast, hc]
        simp [r1, hb0]
      rw [hb]
      have p0 : (0 : Int) < (j + 1 : Nat) := by omega
      have sb : subP (.int (j + 1 : Nat)) (.int 1) = some (false, .int j) := by
        show some (false, PV.int _) = _
        congr 3; omega
      generalize hq : ((j + 1 : Nat) : Int) = q at p0 sb ⊢
      have hcq : L2.atI B q = some c := by rw [← hq, atI_nat, hc]
      by_cases le : c ≤ b
      · rw [if_pos (decide_eq_true le)]
        have le2 : ¬ b < c := by omega
        refine if_t (ρ' := [some (false, S B), some (false, .int q)]) ?_ rfl
        simp -implicitDefEqProofs [p0, sb, hcq, hb0, fB, lt1, le, le2, MC.andM, asT, bin2, bin2v, bind_run, pure_run, lift_run, ite_run, look, asF, isB, gtP_ii, geP_ss, ixP_s, atI_nat]
      · rw [if_neg (by simpa using le)]
        have le2 : b < c := by omega
        refine if_f (ρ' := [some (false, S B), some (false, .int q)]) ?_ rfl
        simp -implicitDefEqProofs [p0, sb, hcq, hb0, fB, lt1, le, le2, MC.andM, asT, bin2, bin2v, bind_run, pure_run, lift_run, ite_run, look, asF, isB, gtP_ii, geP_ss, ixP_s, atI_nat]
theorem alpha_run {B : List Nat} (hl : B.length ≤ 1000) : F_is_alphabet [S B] = some ((false, .bl (decide (1 ≤ B.length ∧ B.length ≤ 4) && !(rangeL 0 B.length).any (badAt B))), []) := by
  have fB : fits B.length = true := fits_of (by omega)
  by_cases h : 1 ≤ B.length ∧ B.length ≤ 4
  · obtain ⟨ρ', h1, x1, rfl⟩ := forM_stop (h := put 1 false) (f := bd1_is_alphabet) (fun ρ => ∃ x1, ρ = [some (false, S B), x1]) (false, .bl false) (badAt B) (rangeL 0 B.length) [some (false, S B), none] ⟨none, rfl⟩ (by
      rintro x _ hx ⟨x1, rfl⟩
      obtain ⟨i, hi0⟩ := List.getElem?_of_mem hx
      obtain ⟨hi, rfl⟩ := range_get hi0
      exact ⟨_, alpha_step hl hi x1, _, rfl⟩)
    have c0 : (1 : Int) ≤ B.length := by omega
    have c1 : (B.length : Int) ≤ 4 := by omega
    have hl1 : asF (un1 (look 0) lenP) [some (false, S B), none] = some (.int B.length, [some (false, S B), none]) := by simp -implicitDefEqProofs [fB, bind_run, pure_run, lift_run, ite_run, bad_run, fnOf, runF, argE, seqM, ifM, asT, bin2, bin2v, un1, unL, asF, setM, setIxM, augIxM, augM, retM, giveM, dropM, look, take, put, frz1, ownsAny, owns, store, change, mutM, onL, isB, truM, truP, MC.notM, MC.andM, MC.orM, chain, tupM, lstM, consM, outs, callM, valM, slotM, argSlots, frzS, resolve, ioSlots, setIo, itemsM, itemsOf, PV.flat, strM, andV, orV, notV, slM, slMv, asInt, str_len, addP_ii, addP_ib, addP_ss, addP_ll, addP_tt, iaddP_ii, subP_ii, mulP_ii, mulP_si, fdivP_ii, modP_ii, negP_i, absP_i, intP_i, intP_b, ltP_ii, leP_ii, gtP_ii, geP_ii, ltP_ss, leP_ss, gtP_ss, geP_ss, eqP_ii, eqP_ss, neP_ii, neP_ss, isP_b, isNotP_b, inP_1, notInP_1, lenP_s, lenP_l, lenP_t, lenP_q, listP_s, listP_l, listP_t, tupleP_l, tupleP_t, ixP_l, ixP_t, ixP_q, ixP_s, atI_nat, atI_2, atI_3, atI_4, atI_0, atI_1, atI_last, setV_l, getV_l, ixN_nat, ixN_2, ixN_3, ixN_4, ixN_0, ixN_1, popP_n, appendP_1, extendP_l, slP_to, slP_from, MC.when, fl]
    have c2 : (MC.orM (MC.notM (truM (asF (un1 (look 0) (isiM "str"))))) (MC.notM (asT (chain (pure (.int 1)) (asF (un1 (look 0) lenP)) (pure (.int 4)) leP leP)))) [some (false, S B), none] = some (false, [some (false, S B), none]) := by
      generalize asF (un1 (look 0) lenP) = L at hl1 ⊢
      generalize (B.length : Int) = q at c0 c1 hl1
      simp -implicitDefEqProofs [isi_ss, hl1, c0, c1, bind_run, pure_run, lift_run, ite_run, bad_run, fnOf, runF, argE, seqM, ifM, asT, bin2, bin2v, un1, unL, asF, setM, setIxM, augIxM, augM, retM, giveM, dropM, look, take, put, frz1, ownsAny, owns, store, change, mutM, onL, isB, truM, truP, MC.notM, MC.andM, MC.orM, chain, tupM, lstM, consM, outs, callM, valM, slotM, argSlots, frzS, resolve, ioSlots, setIo, itemsM, itemsOf, PV.flat, strM, andV, orV, notV, slM, slMv, asInt, str_len, addP_ii, addP_ib, addP_ss, addP_ll, addP_tt, iaddP_ii, subP_ii, mulP_ii, mulP_si, fdivP_ii, modP_ii, negP_i, absP_i, intP_i, intP_b, ltP_ii, leP_ii, gtP_ii, geP_ii, ltP_ss, leP_ss, gtP_ss, geP_ss, eqP_ii, eqP_ss, neP_ii, neP_ss, isP_b, isNotP_b, inP_1, notInP_1, lenP_s, lenP_l, lenP_t, lenP_q, listP_s, listP_l, listP_t, tupleP_l, tupleP_t, ixP_l, ixP_t, ixP_q, ixP_s, atI_nat, atI_2, atI_3, atI_4, atI_0, atI_1, atI_last, setV_l, getV_l, ixN_nat, ixN_2, ixN_3, ixN_4, ixN_0, ixN_1, popP_n, appendP_1, extendP_l, slP_to, slP_from, MC.when, fl]
    have h2 : fo1_is_alphabet [some (false, S B), none] = _ := bind_of (range1_run hl1 (by omega)) h1
    rw [decide_eq_true h, Bool.true_and]
    by_cases hb : (rangeL 0 B.length).any (badAt B) = true
    · rw [if_pos hb] at h2
      rw [hb]
      exact fn_run rfl rfl (seq_nx (if_f c2 rfl) (seq_rt h2)) rfl
    · rw [if_neg hb] at h2
      have hb' : (rangeL 0 B.length).any (badAt B) = false := by simpa using hb
      rw [hb']
      exact fn_run rfl rfl (seq_nx (if_f c2 rfl) (seq_nx h2 (ret_run (x := (false, .bl true)) rfl))) rfl
  · have c2 : (MC.orM (MC.notM (truM (asF (un1 (look 0) (isiM "str"))))) (MC.notM (asT (chain (pure (.int 1)) (asF (un1 (look 0) lenP)) (pure (.int 4)) leP leP)))) [some (false, S B), none] = some (true, [some (false, S B), none]) := by
      have hl1 : asF (un1 (look 0) lenP) [some (false, S B), none] = some (.int B.length, [some (false, S B), none]) := by simp -implicitDefEqProofs [fB, bind_run, pure_run, lift_run, ite_run, bad_run, fnOf, runF, argE, seqM, ifM, asT, bin2, bin2v, un1, unL, asF, setM, setIxM, augIxM, augM, retM, giveM, dropM, look, take, put, frz1, ownsAny, owns, store, change, mutM, onL, isB, truM, truP, MC.notM, MC.andM, MC.orM, chain, tupM, lstM, consM, outs, callM, valM, slotM, argSlots, frzS, resolve, ioSlots, setIo, itemsM, itemsOf, PV.flat, strM, andV, orV, notV, slM, slMv, asInt, str_len, addP_ii, addP_ib, addP_ss, addP_ll, addP_tt, iaddP_ii, subP_ii, mulP_ii, mulP_si, fdivP_ii, modP_ii, negP_i, absP_i, intP_i, intP_b, ltP_ii, leP_ii, gtP_ii, geP_ii, ltP_ss, leP_ss, gtP_ss, geP_ss, eqP_ii, eqP_ss, neP_ii, neP_ss, isP_b, isNotP_b, inP_1, notInP_1, lenP_s, lenP_l, lenP_t, lenP_q, listP_s, listP_l, listP_t, tupleP_l, tupleP_t, ixP_l, ixP_t, ixP_q, ixP_s, atI_nat, atI_2, atI_3, atI_4, atI_0, atI_1, atI_last, setV_l, getV_l, ixN_nat, ixN_2, ixN_3, ixN_4, ixN_0, ixN_1, popP_n, appendP_1, extendP_l, slP_to, slP_from, MC.when, fl]
      have c0 : ¬ (1 : Int) ≤ B.length ∨ ¬ (B.length : Int) ≤ 4 := by omega
      generalize asF (un1 (look 0) lenP) = L at hl1 ⊢
      generalize (B.length : Int) = q at c0 hl1
      by_cases c3 : (1 : Int) ≤ q
      · have c4 : ¬ q ≤ 4 := by omega
        simp -implicitDefEqProofs [isi_ss, hl1, c3, c4, bind_run, pure_run, lift_run, ite_run, bad_run, fnOf, runF, argE, seqM, ifM, asT, bin2, bin2v, un1, unL, asF, setM, setIxM, augIxM, augM, retM, giveM, dropM, look, take, put, frz1, ownsAny, owns, store, change, mutM, onL, isB, truM, truP, MC.notM, MC.andM, MC.orM, chain, tupM, lstM, consM, outs, callM, valM, slotM, argSlots, frzS, resolve, ioSlots, setIo, itemsM, itemsOf, PV.flat, strM, andV, orV, notV, slM, slMv, asInt, str_len, addP_ii, addP_ib, addP_ss, addP_ll, addP_tt, iaddP_ii, subP_ii, mulP_ii, mulP_si, fdivP_ii, modP_ii, negP_i, absP_i, intP_i, intP_b, ltP_ii, leP_ii, gtP_ii, geP_ii, ltP_ss, leP_ss, gtP_ss, geP_ss, eqP_ii, eqP_ss, neP_ii, neP_ss, isP_b, isNotP_b, inP_1, notInP_1, lenP_s, lenP_l, lenP_t, lenP_q, listP_s, listP_l, listP_t, tupleP_l, tupleP_t, ixP_l, ixP_t, ixP_q, ixP_s, atI_nat, atI_2, atI_3, atI_4, atI_0, atI_1, atI_last, setV_l, getV_l, ixN_nat, ixN_2, ixN_3, ixN_4, ixN_0, ixN_1, popP_n, appendP_1, extendP_l, slP_to, slP_from, MC.when, fl]
      · simp -implicitDefEqProofs [isi_ss, hl1, c3, bind_run, pure_run, lift_run, ite_run, bad_run, fnOf, runF, argE, seqM, ifM, asT, bin2, bin2v, un1, unL, asF, setM, setIxM, augIxM, augM, retM, giveM, dropM, look, take, put, frz1, ownsAny, owns, store, change, mutM, onL, isB, truM, truP, MC.notM, MC.andM, MC.orM, chain, tupM, lstM, consM, outs, callM, valM, slotM, argSlots, frzS, resolve, ioSlots, setIo, itemsM, itemsOf, PV.flat, strM, andV, orV, notV, slM, slMv, asInt, str_len, addP_ii, addP_ib, addP_ss, addP_ll, addP_tt, iaddP_ii, subP_ii, mulP_ii, mulP_si, fdivP_ii, modP_ii, negP_i, absP_i, intP_i, intP_b, ltP_ii, leP_ii, gtP_ii, geP_ii, ltP_ss, leP_ss, gtP_ss, geP_ss, eqP_ii, eqP_ss, neP_ii, neP_ss, isP_b, isNotP_b, inP_1, notInP_1, lenP_s, lenP_l, lenP_t, lenP_q, listP_s, listP_l, listP_t, tupleP_l, tupleP_t, ixP_l, ixP_t, ixP_q, ixP_s, atI_nat, atI_2, atI_3, atI_4, atI_0, atI_1, atI_last, setV_l, getV_l, ixN_nat, ixN_2, ixN_3, ixN_4, ixN_0, ixN_1, popP_n, appendP_1, extendP_l, slP_to, slP_from, MC.when, fl]
    rw [decide_eq_false h, Bool.false_and]
    exact fn_run rfl rfl (seq_rt (if_t c2 rfl)) rfl
theorem alpha_int (i : Int) : F_is_alphabet [.int i] = some ((false, .bl false), []) := by
  have c2 : (MC.orM (MC.notM (truM (asF (un1 (look 0) (isiM "str"))))) (MC.notM (asT (chain (pure (.int 1)) (asF (un1 (look 0) lenP)) (pure (.int 4)) leP leP)))) [some (false, .int i), none] = some (true, [some (false, .int i), none]) := by
    simp -implicitDefEqProofs [isi_si, bind_run, pure_run, lift_run, ite_run, bad_run, fnOf, runF, argE, seqM, ifM, asT, bin2, bin2v, un1, unL, asF, setM, setIxM, augIxM, augM, retM, giveM, dropM, look, take, put, frz1, ownsAny, owns, store, change, mutM, onL, isB, truM, truP, MC.notM, MC.andM, MC.orM, chain, tupM, lstM, consM, outs, callM, valM, slotM, argSlots, frzS, resolve, ioSlots, setIo, itemsM, itemsOf, PV.flat, strM, andV, orV, notV, slM, slMv, asInt, str_len, addP_ii, addP_ib, addP_ss, addP_ll, addP_tt, iaddP_ii, subP_ii, mulP_ii, mulP_si, fdivP_ii, modP_ii, negP_i, absP_i, intP_i, intP_b, ltP_ii, leP_ii, gtP_ii, geP_ii, ltP_ss, leP_ss, gtP_ss, geP_ss, eqP_ii, eqP_ss, neP_ii, neP_ss, isP_b, isNotP_b, inP_1, notInP_1, lenP_s, lenP_l, lenP_t, lenP_q, listP_s, listP_l, listP_t, tupleP_l, tupleP_t, ixP_l, ixP_t, ixP_q, ixP_s, atI_nat, atI_2, atI_3, atI_4, atI_0, atI_1, atI_last, setV_l, getV_l, ixN_nat, ixN_2, ixN_3, ixN_4, ixN_0, ixN_1, popP_n, appendP_1, extendP_l, slP_to, slP_from, MC.when, fl]
  exact fn_run rfl rfl (seq_rt (if_t c2 rfl)) rfl
theorem alpha_tup (xs : List PV) : F_is_alphabet [.tup xs] = some ((false, .bl false), []) := by
  have c2 : (MC.orM (MC.notM (truM (asF (un1 (look 0) (isiM "str"))))) (MC.notM (asT (chain (pure (.int 1)) (asF (un1 (look 0) lenP)) (pure (.int 4)) leP leP)))) [some (false, .tup xs), none] = some (true, [some (false, .tup xs), none]) := by
    simp -implicitDefEqProofs [isi_st, bind_run, pure_run, lift_run, ite_run, bad_run, fnOf, runF, argE, seqM, ifM, asT, bin2, bin2v, un1, unL, asF, setM, setIxM, augIxM, augM, retM, giveM, dropM, look, take, put, frz1, ownsAny, owns, store, change, mutM, onL, isB, truM, truP, MC.notM, MC.andM, MC.orM, chain, tupM, lstM, consM, outs, callM, valM, slotM, argSlots, frzS, resolve, ioSlots, setIo, itemsM, itemsOf, PV.flat, strM, andV, orV, notV, slM, slMv, asInt, str_len, addP_ii, addP_ib, addP_ss, addP_ll, addP_tt, iaddP_ii, subP_ii, mulP_ii, mulP_si, fdivP_ii, modP_ii, negP_i, absP_i, intP_i, intP_b, ltP_ii, leP_ii, gtP_ii, geP_ii, ltP_ss, leP_ss, gtP_ss, geP_ss, eqP_ii, eqP_ss, neP_ii, neP_ss, isP_b, isNotP_b, inP_1, notInP_1, lenP_s, lenP_l, lenP_t, lenP_q, listP_s, listP_l, listP_t, tupleP_l, tupleP_t, ixP_l, ixP_t, ixP_q, ixP_s, atI_nat, atI_2, atI_3, atI_4, atI_0, atI_1, atI_last, setV_l, getV_l, ixN_nat, ixN_2, ixN_3, ixN_4, ixN_0, ixN_1, popP_n, appendP_1, extendP_l, slP_to, slP_from, MC.when, fl]
  exact fn_run rfl rfl (seq_rt (if_t c2 rfl)) rfl
theorem alpha_len {B : List Nat} (hl : B.length ≤ 1000) (h : ¬ (1 ≤ B.length ∧ B.length ≤ 4)) : F_is_alphabet [S B] = some ((false, .bl false), []) := by
  have := alpha_run hl
  rw [decide_eq_false h] at this
  exact this
theorem range_mem {n k : Nat} (h : k < n) : PV.int k ∈ rangeL 0 n := by
  unfold rangeL
  refine List.mem_map.mpr ⟨k, List.mem_range.mpr (by omega), ?_⟩
  simp
theorem alpha_bad {B : List Nat} (hl : B.length ≤ 1000) {k : Nat} (hk : k < B.length) (h : badAt B (.int k) = true) : F_is_alphabet [S B] = some ((false, .bl false), []) := by
  have := alpha_run hl
  rw [List.any_eq_true.mpr ⟨_, range_mem hk, h⟩, Bool.not_true, Bool.and_false] at this
  exact this
theorem alpha_sign {u v : List Nat} {s : Nat} (hl : (u ++ s :: v).length ≤ 1000) (h : s < 97 ∨ 122 < s) : F_is_alphabet [S (u ++ s :: v)] = some ((false, .bl false), []) := by
  refine alpha_bad hl (k := u.length) (by simp) ?_
  show (match (u ++ s :: v)[((u.length : Int)).toNat]? with | some c => _ | none => _) = true
  rw [Int.toNat_natCast, show (u ++ s :: v)[u.length]? = some s by simp]
  simp [h]
theorem alpha_pair {u v : List Nat} {s t : Nat} (hl : (u ++ s :: t :: v).length ≤ 1000) (h : t ≤ s) : F_is_alphabet [S (u ++ s :: t :: v)] = some ((false, .bl false), []) := by
  refine alpha_bad hl (k := u.length + 1) (by simp) ?_
  show (match (u ++ s :: t :: v)[(((u.length + 1 : Nat) : Int)).toNat]? with | some c => _ | none => _) = true
  have e1 : (u ++ s :: t :: v)[u.length + 1]? = some t := by rw [List.getElem?_append_right (by omega)]; simp
  have e2 : (u ++ s :: t :: v)[u.length]? = some s := by simp
  rw [Int.toNat_natCast, e1]
  simp [e2, h]
theorem alpha_good {B : List Nat} {m : Nat} (a : Al B m) (h1 : 1 ≤ m) (h4 : m ≤ 4) : F_is_alphabet [S B] = some ((false, .bl true), []) := by
  have hl := a.len
  have := alpha_run (B := B) (by omega)
  have hb : (rangeL 0 B.length).any (badAt B) = false := by
    rw [List.any_eq_false]
    intro x hx
    obtain ⟨i, hi0⟩ := List.getElem?_of_mem hx
    obtain ⟨hi, rfl⟩ := range_get hi0
    have hc : B[i]? = some B[i] := List.getElem?_eq_getElem hi
    have rg := a.rg B[i] (List.getElem_mem hi)
    show ¬ (match B[((i : Int)).toNat]? with | some c => _ | none => _) = true
    rw [Int.toNat_natCast, hc]
    cases i with
    | zero => simp; omega
    | succ j =>
      have hj : B[j]? = some B[j] := List.getElem?_eq_getElem (by omega)
      have lt : B[j] < B[j + 1] := List.pairwise_iff_getElem.mp a.srt j (j + 1) (by omega) hi (by omega)
      simp [hj]
      omega
  rw [hb, decide_eq_true ⟨by omega, by omega⟩] at this
  exact this
end MC.Law
set_option Elab.async false
set_option linter.all false
set_option maxRecDepth 100000
set_option maxHeartbeats 4000000
namespace MC.Law
open PySem
def Bad (x : PV) : Prop := F_is_alphabet [x] = some ((false, .bl false), [])
def AllBad (xs : List PV) : Prop := ∀ x ∈ xs, Bad x
theorem AllBad.snoc {xs : List PV} {x : PV} (h : AllBad xs) (b : Bad x) : AllBad (xs ++ [x]) := fun y hy => by
  rcases List.mem_append.mp hy with hy | hy
  · exact h y hy
  · rw [List.mem_singleton.mp hy]; exact b
theorem app_any {a b c d e g k : Option (Bool × PV)} {zs : List PV} {f : M PV} {x : PV} (h : f [a, b, c, d, e, some (true, .lst zs), g, k] = some (x, [a, b, c, d, e, some (true, .lst zs), g, k])) (hz : zs.length < 1000) :
    dropM (mutM 5 (consM f (pure [])) appendP) [a, b, c, d, e, some (true, .lst zs), g, k] = some (.nx, [a, b, c, d, e, some (true, .lst (zs ++ [x])), g, k]) := by
  have ap := appendP_1 (xs := zs) (x := x) (by omega)
  refine drop_run (x := (false, .non)) (bind_of (a := ()) rfl (bind_of (a := [x]) (ρ' := [a, b, c, d, e, some (true, .lst zs), g, k]) (bind_of h rfl) (bind_of (a := .non) ?_ rfl)))
  simp -implicitDefEqProofs [ap, bind_run, pure_run, lift_run, ite_run, bad_run, fnOf, runF, argE, seqM, ifM, asT, bin2, bin2v, un1, unL, asF, setM, setIxM, augIxM, augM, retM, giveM, dropM, look, take, put, frz1, ownsAny, owns, store, change, mutM, onL, isB, truM, truP, MC.notM, MC.andM, MC.orM, chain, tupM, lstM, consM, outs, callM, valM, slotM, argSlots, frzS, resolve, ioSlots, setIo, itemsM, itemsOf, PV.flat, strM, andV, orV, notV, slM, slMv, asInt, str_len, addP_ii, addP_ib, addP_ss, addP_ll, addP_tt, iaddP_ii, subP_ii, mulP_ii, mulP_si, fdivP_ii, modP_ii, negP_i, absP_i, intP_i, intP_b, ltP_ii, leP_ii, gtP_ii, geP_ii, ltP_ss, leP_ss, gtP_ss, geP_ss, eqP_ii, eqP_ss, neP_ii, neP_ss, isP_b, isNotP_b, inP_1, notInP_1, lenP_s, lenP_l, lenP_t, lenP_q, listP_s, listP_l, listP_t, tupleP_l, tupleP_t, ixP_l, ixP_t, ixP_q, ixP_s, atI_nat, atI_2, atI_3, atI_4, atI_0, atI_1, atI_last, setV_l, getV_l, ixN_nat, ixN_2, ixN_3, ixN_4, ixN_0, ixN_1, popP_n, appendP_1, extendP_l, slP_to, slP_from, MC.when, fl]
theorem lit_q : Str.ofString "`" = ⟨⟨[96]⟩⟩ := by decide +kernel
theorem lit_b : Str.ofString "{" = ⟨⟨[123]⟩⟩ := by decide +kernel
def OD : List Nat := [65, 90, 77, 81, 48, 57, 32, 95, 45, 64, 91, 94, 124, 126]
theorem lit_od : Str.ofString "AZMQ09 _-\x40[^|~" = ⟨⟨OD⟩⟩ := by decide +kernel
theorem od_bad : ∀ c ∈ OD, c < 97 ∨ 122 < c := by decide
theorem up_az : ∀ c ∈ AZ, Txt.upper ⟨⟨[c]⟩⟩ = ⟨⟨[c - 32]⟩⟩ := by decide +kernel
theorem rg_az {c : Nat} (h : 97 ≤ c ∧ c ≤ 122) : c ∈ AZ := by
  have : c = 97 + (c - 97) := by omega
  have h2 : c - 97 < 26 := by omega
  have h3 : ∀ k, k < 26 → 97 + k ∈ AZ := by decide
  rw [this]; exact h3 _ h2
theorem upperP_1 {c : Nat} (h : 97 ≤ c ∧ c ≤ 122) : upperP ⟨⟨[c]⟩⟩ [] = some (false, .str ⟨⟨[c - 32]⟩⟩) := by
  have h1 : decide (Str.length ⟨⟨[c]⟩⟩ ≤ 5592405) = true := decide_eq_true (by rw [str_len]; simp)
  show MC.when (decide (Str.length ⟨⟨[c]⟩⟩ ≤ 5592405)) (fl (.str (Txt.upper ⟨⟨[c]⟩⟩))) = _
  rw [h1, up_az c (rg_az h)]; rfl
theorem slP_from1 {a : List Nat} (h : fits a.length = true) : slP (.str ⟨⟨a⟩⟩) (some 1) none = some (false, .str ⟨⟨a.drop 1⟩⟩) := slP_from (n := 1) h
theorem slP_fromS {a : List Nat} {n : Nat} (h : fits a.length = true) : slP (.str ⟨⟨a⟩⟩) (some ((n : Int) + 1)) none = some (false, .str ⟨⟨a.drop (n + 1)⟩⟩) := slP_from (n := n + 1) h
theorem slP_fromS2 {a : List Nat} {n : Nat} (h : fits a.length = true) : slP (.str ⟨⟨a⟩⟩) (some ((n : Int) + 2)) none = some (false, .str ⟨⟨a.drop (n + 2)⟩⟩) := slP_from (n := n + 2) h
theorem slP_butlast {a : List Nat} (h : fits a.length = true) : slP (.str ⟨⟨a⟩⟩) none (some (-1)) = some (false, .str ⟨⟨a.dropLast⟩⟩) := by
  show (if fits a.length then fl (.str (L2.cutS ⟨⟨a⟩⟩ none (some (-1)))) else none) = _
  rw [if_pos h]
  have : L2.cutS ⟨⟨a⟩⟩ none (some (-1)) = ⟨⟨a.dropLast⟩⟩ := by
    unfold L2.cutS HT.sIx
    show (⟨⟨(a.drop 0).take (((-1 : Int) + (a.length : Int)).toNat - 0)⟩⟩ : Str) = _
    rw [List.drop_zero, Nat.sub_zero, List.dropLast_eq_take]
    congr 3; omega
  rw [this]; rfl
theorem cut_at {A : List Nat} {p c : Nat} (h : A[p]? = some c) : A = A.take p ++ c :: A.drop (p + 1) := by
  have hp : p < A.length := (List.getElem?_eq_some_iff.mp h).1
  have h2 : A[p] = c := (List.getElem?_eq_some_iff.mp h).2
  have := List.take_append_drop p A
  rw [List.drop_eq_getElem_cons hp, h2] at this
  exact this.symm
theorem bad_ok {d : PV} {A V : List Nat} {m : Nat} (hd : IsDr d) (a : Al A m) (h1 : 1 ≤ m) (h4 : m ≤ 4) (hV : V.length = 5) :
    ∃ xs d', F__law_bad_alphabets [d, S A, S V] = some ((true, .lst xs), [d']) ∧ IsDr d' ∧ AllBad xs ∧ xs.length ≤ 100 := by
  have hl := a.len
  have hA : A ≠ [] := by intro z; subst z; simp at hl; omega
  have fA : fits A.length = true := fits_of (by omega)
  obtain ⟨r1, d1, e1, p1, q1, hd1⟩ := draw_ok hd (many := A.length) (by omega) (by omega)
  obtain ⟨p, rfl⟩ := Int.eq_ofNat_of_zero_le p1
  have hp : p < A.length := by omega
  obtain ⟨c, hc⟩ : ∃ c, A[p]? = some c := ⟨_, List.getElem?_eq_getElem hp⟩
  have cut := cut_at hc
  obtain ⟨s, d2, e2, hsO, hd2⟩ := pick_s hd1 (a := OD) (by decide) (by decide)
  have hs := od_bad s hsO
  obtain ⟨z, hz⟩ : ∃ z, A.getLast? = some z := ⟨_, List.getLast?_eq_some_getLast hA⟩
  have zr := a.rg z (List.mem_of_getLast? hz)
  have tk : (A.take p).length = p := by rw [List.length_take]; omega
  have dl : A.dropLast.length = A.length - 1 := List.length_dropLast
  -- the first seven
  have b0 : AllBad [S [], S V, S (A.take p ++ c :: A.drop p), .int p, .int (-1), .tup [], .tup [S A]] := fun x hx => by
    simp only [List.mem_cons, List.not_mem_nil, or_false] at hx
    rcases hx with rfl | rfl | rfl | rfl | rfl | rfl | rfl
    · exact alpha_len (by simp) (by simp)
    · exact alpha_len (by omega) (by omega)
    · have e : A.drop p = c :: A.drop (p + 1) := by
        have h2 : A[p] = c := (List.getElem?_eq_some_iff.mp hc).2
        rw [List.drop_eq_getElem_cons hp, h2]
      rw [e]
      exact alpha_pair (by simp; omega) (Nat.le_refl _)
    · exact alpha_int _
    · exact alpha_int _
    · exact alpha_tup _
    · exact alpha_tup _
  have s3 : lstM (consM (pure (.str "")) (consM (take 2) (consM (asF (bin2 (asF (bin2 (asF (slMv 1 (pure none) (asInt (look 3)) slP)) (asF (bin2v 1 (look 3) ixP)) addP)) (asF (slMv 1 (asInt (look 3)) (pure none) slP)) addP)) (consM (take 3) (consM (asF (un1 (pure (.int 1)) negP)) (consM (asF (tupM (pure []))) (consM (asF (tupM (consM (take 1) (pure [])))) (pure []))))))))
      [some (true, d2), some (false, S A), some (false, S V), some (false, .int p), some (false, S [s]), none, none, none] = some ((true, .lst [S [], S V, S (A.take p ++ c :: A.drop p), .int p, .int (-1), .tup [], .tup [S A]]), [some (true, d2), some (false, S A), some (false, S V), some (false, .int p), some (false, S [s]), none, none, none]) := by
    have f7 : fits 7 = true := fits_of (by decide)
    have ad1 := addP_ss (a := A.take p) (b := [c]) (fits_of (by simp; omega))
    have ad2 := addP_ss (a := A.take p ++ [c]) (b := A.drop p) (fits_of (by simp; omega))
    have e : A.take p ++ [c] ++ A.drop p = A.take p ++ c :: A.drop p := by simp
    rw [e] at ad2
    have k1 := slP_to (a := A) (n := p) fA
    have k2 := slP_from (a := A) (n := p) fA
    generalize A.take p ++ c :: A.drop p = X at ad2 ⊢
    simp -implicitDefEqProofs [lit_e, fA, hc, f0, f1, f7, ad1, ad2, k1, k2, lstM, consM, bind_run, pure_run, lift_run, ite_run, look, take, asF, bin2, bin2v, un1, slMv, asInt, ixP_s, atI_nat, negP_i, tupM, MC.when, fl]
  have A1 : ∀ (zs : List PV) (x6 : Option (Bool × PV)), zs.length < 1000 → dropM (mutM 5 (consM (asF (bin2 (asF (bin2 (asF (slMv 1 (pure none) (asInt (look 3)) slP)) (look 4) addP)) (asF (slMv 1 (asInt (asF (bin2v 3 (pure (.int 1)) addP))) (pure none) slP)) addP)) (pure [])) appendP) [some (true, d2), some (false, S A), some (false, S V), some (false, .int p), some (false, S [s]), some (true, .lst zs), x6, none] =
      some (.nx, [some (true, d2), some (false, S A), some (false, S V), some (false, .int p), some (false, S [s]), some (true, .lst (zs ++ [S (A.take p ++ s :: A.drop (p + 1))])), x6, none]) := fun zs x6 hz => by
    refine app_any ?_ hz
    have ad1 := addP_ss (a := A.take p) (b := [s]) (fits_of (by simp; omega))
    have ad2 := addP_ss (a := A.take p ++ [s]) (b := A.drop (p + 1)) (fits_of (by simp; omega))
    have e : A.take p ++ [s] ++ A.drop (p + 1) = A.take p ++ s :: A.drop (p + 1) := by simp
    rw [e] at ad2
    have k1 := slP_to (a := A) (n := p) fA
    have k2 := slP_fromS (a := A) (n := p) fA
    generalize A.take p ++ s :: A.drop (p + 1) = X at ad2 ⊢
    simp -implicitDefEqProofs [fA, ad1, ad2, k1, k2, bind_run, pure_run, lift_run, ite_run, look, asF, bin2, bin2v, un1, slMv, asInt, addP_ii]
  have A2 : ∀ (zs : List PV) (x6 : Option (Bool × PV)), zs.length < 1000 → dropM (mutM 5 (consM (asF (bin2 (pure (.str "`")) (asF (slMv 1 (asInt (pure (.int 1))) (pure none) slP)) addP)) (pure [])) appendP) [some (true, d2), some (false, S A), some (false, S V), some (false, .int p), some (false, S [s]), some (true, .lst zs), x6, none] =
      some (.nx, [some (true, d2), some (false, S A), some (false, S V), some (false, .int p), some (false, S [s]), some (true, .lst (zs ++ [S (([] : List Nat) ++ 96 :: A.drop 1)])), x6, none]) := fun zs x6 hz => by
    refine app_any ?_ hz
    have k2 := slP_from1 (a := A) fA
    have ly : (A.drop 1).length ≤ 10 := by simp; omega
    generalize A.drop 1 = Y at k2 ly ⊢
    have ad1 := addP_ss (a := [96]) (b := Y) (fits_of (by simp; omega))
    have e : [96] ++ Y = ([] : List Nat) ++ 96 :: Y := rfl
    rw [e] at ad1
    generalize ([] : List Nat) ++ 96 :: Y = X at ad1 ⊢
    simp -implicitDefEqProofs [lit_q, fA, ad1, k2, bind_run, pure_run, lift_run, ite_run, look, asF, bin2, bin2v, un1, slMv, asInt]
  have A3 : ∀ (zs : List PV) (x6 : Option (Bool × PV)), zs.length < 1000 → dropM (mutM 5 (consM (asF (bin2 (asF (slMv 1 (pure none) (asInt (asF (un1 (pure (.int 1)) negP))) slP)) (pure (.str "{")) addP)) (pure [])) appendP) [some (true, d2), some (false, S A), some (false, S V), some (false, .int p), some (false, S [s]), some (true, .lst zs), x6, none] =
      some (.nx, [some (true, d2), some (false, S A), some (false, S V), some (false, .int p), some (false, S [s]), some (true, .lst (zs ++ [S (A.dropLast ++ 123 :: [])])), x6, none]) := fun zs x6 hz => by
    refine app_any ?_ hz
    have ad1 := addP_ss (a := A.dropLast) (b := [123]) (fits_of (by simp; omega))
    have k2 := slP_butlast (a := A) fA
    generalize A.dropLast ++ [123] = X at ad1 ⊢
    simp -implicitDefEqProofs [lit_b, fA, ad1, k2, bind_run, pure_run, lift_run, ite_run, look, asF, bin2, bin2v, un1, slMv, asInt, negP_i]
  have A4 : ∀ (zs : List PV) (x6 : Option (Bool × PV)), zs.length < 1000 → dropM (mutM 5 (consM (asF (bin2 (asF (slMv 1 (pure none) (asInt (asF (un1 (pure (.int 1)) negP))) slP)) (asF (strM (asF (bin2v 1 (asF (un1 (pure (.int 1)) negP)) ixP)) (pure []) upperP)) addP)) (pure [])) appendP) [some (true, d2), some (false, S A), some (false, S V), some (false, .int p), some (false, S [s]), some (true, .lst zs), x6, none] =
      some (.nx, [some (true, d2), some (false, S A), some (false, S V), some (false, .int p), some (false, S [s]), some (true, .lst (zs ++ [S (A.dropLast ++ (z - 32) :: [])])), x6, none]) := fun zs x6 hz' => by
    refine app_any ?_ hz'
    have ad1 := addP_ss (a := A.dropLast) (b := [z - 32]) (fits_of (by simp; omega))
    have k2 := slP_butlast (a := A) fA
    have up := upperP_1 zr
    generalize A.dropLast ++ [z - 32] = X at ad1 ⊢
    simp -implicitDefEqProofs [fA, ad1, k2, up, hz, atI_last, bind_run, pure_run, lift_run, ite_run, look, asF, bin2, bin2v, un1, slMv, asInt, negP_i, ixP_s, strM]
  have lc : ∀ (x5 x6 : Option (Bool × PV)), lc1__law_bad_alphabets [some (true, d2), some (false, S A), some (false, S V), some (false, .int p), some (false, S [s]), x5, x6, none] = some ((true, .lst (A.map sign)), [some (true, d2), some (false, S A), some (false, S V), some (false, .int p), some (false, S [s]), x5, x6, none]) := fun x5 x6 => by
    have lp := lcLoop_pure (vs := [7]) (h := put 7 false) (ft := pure true) (fe := take 7) (ρ := [some (true, d2), some (false, S A), some (false, S V), some (false, .int p), some (false, S [s]), x5, x6, none]) (fun _ => true) id (A.map sign) fun x hx => ⟨_, rfl, fun _ => ⟨_, rfl, rfl⟩, fun z => nomatch z⟩
    rw [List.filter_eq_self.mpr (fun _ _ => rfl), List.map_id] at lp
    exact bind_of (a := A.map sign) rfl (bind_of (within_run rfl lp rfl) (lst_run (by rw [List.length_map]; omega)))
  have A5 : ∀ (zs : List PV) (x6 : Option (Bool × PV)), zs.length < 1000 → dropM (mutM 5 (consM (asF (un1 (asF lc1__law_bad_alphabets) tupleP)) (pure [])) appendP) [some (true, d2), some (false, S A), some (false, S V), some (false, .int p), some (false, S [s]), some (true, .lst zs), x6, none] =
      some (.nx, [some (true, d2), some (false, S A), some (false, S V), some (false, .int p), some (false, S [s]), some (true, .lst (zs ++ [.tup (A.map sign)])), x6, none]) := fun zs x6 hz' => by
    refine app_any ?_ hz'
    have l := lc (some (true, .lst zs)) x6
    generalize A.map sign = Z at l ⊢
    simp -implicitDefEqProofs [l, bind_run, pure_run, lift_run, ite_run, bad_run, fnOf, runF, argE, seqM, ifM, asT, bin2, bin2v, un1, unL, asF, setM, setIxM, augIxM, augM, retM, giveM, dropM, look, take, put, frz1, ownsAny, owns, store, change, mutM, onL, isB, truM, truP, MC.notM, MC.andM, MC.orM, chain, tupM, lstM, consM, outs, callM, valM, slotM, argSlots, frzS, resolve, ioSlots, setIo, itemsM, itemsOf, PV.flat, strM, andV, orV, notV, slM, slMv, asInt, str_len, addP_ii, addP_ib, addP_ss, addP_ll, addP_tt, iaddP_ii, subP_ii, mulP_ii, mulP_si, fdivP_ii, modP_ii, negP_i, absP_i, intP_i, intP_b, ltP_ii, leP_ii, gtP_ii, geP_ii, ltP_ss, leP_ss, gtP_ss, geP_ss, eqP_ii, eqP_ss, neP_ii, neP_ss, isP_b, isNotP_b, inP_1, notInP_1, lenP_s, lenP_l, lenP_t, lenP_q, listP_s, listP_l, listP_t, tupleP_l, tupleP_t, ixP_l, ixP_t, ixP_q, ixP_s, atI_nat, atI_2, atI_3, atI_4, atI_0, atI_1, atI_last, setV_l, getV_l, ixN_nat, ixN_2, ixN_3, ixN_4, ixN_0, ixN_1, popP_n, appendP_1, extendP_l, slP_to, slP_from, MC.when, fl]
  have A6 : ∀ (zs : List PV), zs.length < 500 → AllBad zs → ∃ (xs : List PV) (d3 : PV) (x6 : Option (Bool × PV)), IsDr d3 ∧ AllBad xs ∧ xs.length ≤ zs.length + 2 ∧
      (ifM (asT (bin2 (asF (un1 (look 1) lenP)) (pure (.int 1)) gtP)) (seqM (setM 6 (callM [0] F__law_draw (slotM 0 (valM (asF (bin2 (asF (un1 (look 1) lenP)) (pure (.int 1)) subP)) (pure [])))))
    (seqM (dropM (mutM 5 (consM (asF (bin2 (asF (bin2 (asF (bin2 (asF (slMv 1 (pure none) (asInt (look 6)) slP)) (asF (bin2v 1 (asF (bin2v 6 (pure (.int 1)) addP)) ixP)) addP)) (asF (bin2v 1 (look 6) ixP)) addP)) (asF (slMv 1 (asInt (asF (bin2v 6 (pure (.int 2)) addP))) (pure none) slP)) addP)) (pure [])) appendP))
    (dropM (mutM 5 (consM (asF (bin2 (asF (bin2 (asF (bin2 (asF (slMv 1 (pure none) (asInt (look 6)) slP)) (asF (bin2v 1 (look 6) ixP)) addP)) (asF (bin2v 1 (look 6) ixP)) addP)) (asF (slMv 1 (asInt (asF (bin2v 6 (pure (.int 2)) addP))) (pure none) slP)) addP)) (pure [])) appendP)))) (pure .nx))
      [some (true, d2), some (false, S A), some (false, S V), some (false, .int p), some (false, S [s]), some (true, .lst zs), none, none] = some (.nx, [some (true, d3), some (false, S A), some (false, S V), some (false, .int p), some (false, S [s]), some (true, .lst xs), x6, none]) := fun zs hz' hb => by
    by_cases hm : (1 : Int) < A.length
    · obtain ⟨r3, d3, e3, p3, q3, hd3⟩ := draw_ok hd2 (many := (A.length : Int) - 1) (by omega) (by omega)
      obtain ⟨t, rfl⟩ := Int.eq_ofNat_of_zero_le p3
      have ht : t + 1 < A.length := by omega
      obtain ⟨x, hx⟩ : ∃ x, A[t]? = some x := ⟨_, List.getElem?_eq_getElem (by omega)⟩
      obtain ⟨y, hy⟩ : ∃ y, A[t + 1]? = some y := ⟨_, List.getElem?_eq_getElem ht⟩
      have lt : x < y := by
        have h1 := List.pairwise_iff_getElem.mp a.srt t (t + 1) (by omega) ht (by omega)
        rw [(List.getElem?_eq_some_iff.mp hx).2, (List.getElem?_eq_some_iff.mp hy).2] at h1
        exact h1
      have hy' : L2.atI A ((t : Int) + 1) = some y := (atI_nat A (t + 1)).trans hy
      have k1 := slP_to (a := A) (n := t) fA
      have k2 := slP_fromS2 (a := A) (n := t) fA
      have l1 : (A.take t).length ≤ 10 := by simp; omega
      have l2 : (A.drop (t + 2)).length ≤ 10 := by simp; omega
      generalize A.take t = U at k1 l1
      generalize A.drop (t + 2) = W at k2 l2
      have c1 : F_is_alphabet [S (U ++ y :: x :: W)] = some ((false, .bl false), []) := alpha_pair (by simp; omega) (Nat.le_of_lt lt)
      have c2 : F_is_alphabet [S (U ++ x :: x :: W)] = some ((false, .bl false), []) := alpha_pair (by simp; omega) (Nat.le_refl _)
      have g : ∀ u v : Nat, addP (S U) (S [u]) = some (false, S (U ++ [u])) ∧ addP (S (U ++ [u])) (S [v]) = some (false, S (U ++ [u] ++ [v])) ∧ addP (S (U ++ [u] ++ [v])) (S W) = some (false, S (U ++ u :: v :: W)) := fun u v => by
        refine ⟨addP_ss (fits_of (by simp; omega)), addP_ss (fits_of (by simp; omega)), ?_⟩
        have := addP_ss (a := U ++ [u] ++ [v]) (b := W) (fits_of (by simp; omega))
        have e : U ++ [u] ++ [v] ++ W = U ++ u :: v :: W := by simp
        rw [e] at this; exact this
      obtain ⟨g1, g2, g3⟩ := g y x
      obtain ⟨g4, g5, g6⟩ := g x x
      refine ⟨zs ++ [S (U ++ y :: x :: W)] ++ [S (U ++ x :: x :: W)], d3, some (false, .int t), hd3, (hb.snoc c1).snoc c2, by simp, ?_⟩
      refine if_t (ρ' := [some (true, d2), some (false, S A), some (false, S V), some (false, .int p), some (false, S [s]), some (true, .lst zs), none, none]) ?_
        (seq_nx (ρ' := [some (true, d3), some (false, S A), some (false, S V), some (false, .int p), some (false, S [s]), some (true, .lst zs), some (false, .int t), none]) ?_ (seq_nx (app_any (x := S (U ++ y :: x :: W)) ?_ (by omega)) (app_any (x := S (U ++ x :: x :: W)) ?_ (by simp; omega))))
      · simp -implicitDefEqProofs [fA, hm, bind_run, pure_run, lift_run, ite_run, bad_run, fnOf, runF, argE, seqM, ifM, asT, bin2, bin2v, un1, unL, asF, setM, setIxM, augIxM, augM, retM, giveM, dropM, look, take, put, frz1, ownsAny, owns, store, change, mutM, onL, isB, truM, truP, MC.notM, MC.andM, MC.orM, chain, tupM, lstM, consM, outs, callM, valM, slotM, argSlots, frzS, resolve, ioSlots, setIo, itemsM, itemsOf, PV.flat, strM, andV, orV, notV, slM, slMv, asInt, str_len, addP_ii, addP_ib, addP_ss, addP_ll, addP_tt, iaddP_ii, subP_ii, mulP_ii, mulP_si, fdivP_ii, modP_ii, negP_i, absP_i, intP_i, intP_b, ltP_ii, leP_ii, gtP_ii, geP_ii, ltP_ss, leP_ss, gtP_ss, geP_ss, eqP_ii, eqP_ss, neP_ii, neP_ss, isP_b, isNotP_b, inP_1, notInP_1, lenP_s, lenP_l, lenP_t, lenP_q, listP_s, listP_l, listP_t, tupleP_l, tupleP_t, ixP_l, ixP_t, ixP_q, ixP_s, atI_nat, atI_2, atI_3, atI_4, atI_0, atI_1, atI_last, setV_l, getV_l, ixN_nat, ixN_2, ixN_3, ixN_4, ixN_0, ixN_1, popP_n, appendP_1, extendP_l, slP_to, slP_from, MC.when, fl]
      · simp -implicitDefEqProofs [fA, e3, bind_run, pure_run, lift_run, ite_run, bad_run, fnOf, runF, argE, seqM, ifM, asT, bin2, bin2v, un1, unL, asF, setM, setIxM, augIxM, augM, retM, giveM, dropM, look, take, put, frz1, ownsAny, owns, store, change, mutM, onL, isB, truM, truP, MC.notM, MC.andM, MC.orM, chain, tupM, lstM, consM, outs, callM, valM, slotM, argSlots, frzS, resolve, ioSlots, setIo, itemsM, itemsOf, PV.flat, strM, andV, orV, notV, slM, slMv, asInt, str_len, addP_ii, addP_ib, addP_ss, addP_ll, addP_tt, iaddP_ii, subP_ii, mulP_ii, mulP_si, fdivP_ii, modP_ii, negP_i, absP_i, intP_i, intP_b, ltP_ii, leP_ii, gtP_ii, geP_ii, ltP_ss, leP_ss, gtP_ss, geP_ss, eqP_ii, eqP_ss, neP_ii, neP_ss, isP_b, isNotP_b, inP_1, notInP_1, lenP_s, lenP_l, lenP_t, lenP_q, listP_s, listP_l, listP_t, tupleP_l, tupleP_t, ixP_l, ixP_t, ixP_q, ixP_s, atI_nat, atI_2, atI_3, atI_4, atI_0, atI_1, atI_last, setV_l, getV_l, ixN_nat, ixN_2, ixN_3, ixN_4, ixN_0, ixN_1, popP_n, appendP_1, extendP_l, slP_to, slP_from, MC.when, fl]
      · generalize U ++ y :: x :: W = X1 at g3 ⊢
        generalize U ++ [y] ++ [x] = X2 at g2 g3
        generalize U ++ [y] = X3 at g1 g2
        simp -implicitDefEqProofs [fA, k1, k2, g1, g2, g3, hx, hy', bind_run, pure_run, lift_run, ite_run, look, asF, bin2, bin2v, un1, slMv, asInt, addP_ii, ixP_s, atI_nat]
      · generalize U ++ x :: x :: W = X1 at g6 ⊢
        generalize U ++ [x] ++ [x] = X2 at g5 g6
        generalize U ++ [x] = X3 at g4 g5
        simp -implicitDefEqProofs [fA, k1, k2, g4, g5, g6, hx, bind_run, pure_run, lift_run, ite_run, look, asF, bin2, bin2v, un1, slMv, asInt, addP_ii, ixP_s, atI_nat]
    · exact ⟨zs, d2, none, hd2, hb, by omega, if_f (ρ' := [some (true, d2), some (false, S A), some (false, S V), some (false, .int p), some (false, S [s]), some (true, .lst zs), none, none]) (by simp -implicitDefEqProofs [fA, hm, bind_run, pure_run, lift_run, ite_run, bad_run, fnOf, runF, argE, seqM, ifM, asT, bin2, bin2v, un1, unL, asF, setM, setIxM, augIxM, augM, retM, giveM, dropM, look, take, put, frz1, ownsAny, owns, store, change, mutM, onL, isB, truM, truP, MC.notM, MC.andM, MC.orM, chain, tupM, lstM, consM, outs, callM, valM, slotM, argSlots, frzS, resolve, ioSlots, setIo, itemsM, itemsOf, PV.flat, strM, andV, orV, notV, slM, slMv, asInt, str_len, addP_ii, addP_ib, addP_ss, addP_ll, addP_tt, iaddP_ii, subP_ii, mulP_ii, mulP_si, fdivP_ii, modP_ii, negP_i, absP_i, intP_i, intP_b, ltP_ii, leP_ii, gtP_ii, geP_ii, ltP_ss, leP_ss, gtP_ss, geP_ss, eqP_ii, eqP_ss, neP_ii, neP_ss, isP_b, isNotP_b, inP_1, notInP_1, lenP_s, lenP_l, lenP_t, lenP_q, listP_s, listP_l, listP_t, tupleP_l, tupleP_t, ixP_l, ixP_t, ixP_q, ixP_s, atI_nat, atI_2, atI_3, atI_4, atI_0, atI_1, atI_last, setV_l, getV_l, ixN_nat, ixN_2, ixN_3, ixN_4, ixN_0, ixN_1, popP_n, appendP_1, extendP_l, slP_to, slP_from, MC.when, fl]) rfl⟩
  have bb := (((((b0.snoc (alpha_sign (u := A.take p) (v := A.drop (p + 1)) (s := s) (by simp; omega) hs)).snoc (alpha_sign (u := []) (v := A.drop 1) (s := 96) (by simp; omega) (by omega))).snoc (alpha_sign (u := A.dropLast) (v := []) (s := 123) (by simp; omega) (by omega))).snoc (alpha_sign (u := A.dropLast) (v := []) (s := z - 32) (by simp; omega) (by omega))).snoc (alpha_tup (A.map sign)))
  obtain ⟨xs, d3, x6, hd3, hxs, lxs, e6⟩ := A6 _ (by simp) bb
  refine ⟨xs, d3, ?_, hd3, hxs, Nat.le_trans lxs (by simp)⟩
  refine fn_run rfl (ρ0 := [some (true, d), some (false, S A), some (false, S V), none, none, none, none, none]) rfl (seq_nx (ρ' := [some (true, d1), some (false, S A), some (false, S V), some (false, .int p), none, none, none, none]) ?_ (seq_nx (ρ' := [some (true, d2), some (false, S A), some (false, S V), some (false, .int p), some (false, S [s]), none, none, none]) ?_
    (seq_nx (set_run s3) (seq_nx (A1 _ _ (by simp)) (seq_nx (A2 _ _ (by simp)) (seq_nx (A3 _ _ (by simp)) (seq_nx (A4 _ _ (by simp)) (seq_nx (A5 _ _ (by simp)) (seq_nx e6 rfl))))))))) rfl
  · simp -implicitDefEqProofs [fA, e1, bind_run, pure_run, lift_run, ite_run, bad_run, fnOf, runF, argE, seqM, ifM, asT, bin2, bin2v, un1, unL, asF, setM, setIxM, augIxM, augM, retM, giveM, dropM, look, take, put, frz1, ownsAny, owns, store, change, mutM, onL, isB, truM, truP, MC.notM, MC.andM, MC.orM, chain, tupM, lstM, consM, outs, callM, valM, slotM, argSlots, frzS, resolve, ioSlots, setIo, itemsM, itemsOf, PV.flat, strM, andV, orV, notV, slM, slMv, asInt, str_len, addP_ii, addP_ib, addP_ss, addP_ll, addP_tt, iaddP_ii, subP_ii, mulP_ii, mulP_si, fdivP_ii, modP_ii, negP_i, absP_i, intP_i, intP_b, ltP_ii, leP_ii, gtP_ii, geP_ii, ltP_ss, leP_ss, gtP_ss, geP_ss, eqP_ii, eqP_ss, neP_ii, neP_ss, isP_b, isNotP_b, inP_1, notInP_1, lenP_s, lenP_l, lenP_t, lenP_q, listP_s, listP_l, listP_t, tupleP_l, tupleP_t, ixP_l, ixP_t, ixP_q, ixP_s, atI_nat, atI_2, atI_3, atI_4, atI_0, atI_1, atI_last, setV_l, getV_l, ixN_nat, ixN_2, ixN_3, ixN_4, ixN_0, ixN_1, popP_n, appendP_1, extendP_l, slP_to, slP_from, MC.when, fl]
  · simp -implicitDefEqProofs [lit_od, e2, bind_run, pure_run, lift_run, ite_run, bad_run, fnOf, runF, argE, seqM, ifM, asT, bin2, bin2v, un1, unL, asF, setM, setIxM, augIxM, augM, retM, giveM, dropM, look, take, put, frz1, ownsAny, owns, store, change, mutM, onL, isB, truM, truP, MC.notM, MC.andM, MC.orM, chain, tupM, lstM, consM, outs, callM, valM, slotM, argSlots, frzS, resolve, ioSlots, setIo, itemsM, itemsOf, PV.flat, strM, andV, orV, notV, slM, slMv, asInt, str_len, addP_ii, addP_ib, addP_ss, addP_ll, addP_tt, iaddP_ii, subP_ii, mulP_ii, mulP_si, fdivP_ii, modP_ii, negP_i, absP_i, intP_i, intP_b, ltP_ii, leP_ii, gtP_ii, geP_ii, ltP_ss, leP_ss, gtP_ss, geP_ss, eqP_ii, eqP_ss, neP_ii, neP_ss, isP_b, isNotP_b, inP_1, notInP_1, lenP_s, lenP_l, lenP_t, lenP_q, listP_s, listP_l, listP_t, tupleP_l, tupleP_t, ixP_l, ixP_t, ixP_q, ixP_s, atI_nat, atI_2, atI_3, atI_4, atI_0, atI_1, atI_last, setV_l, getV_l, ixN_nat, ixN_2, ixN_3, ixN_4, ixN_0, ixN_1, popP_n, appendP_1, extendP_l, slP_to, slP_from, MC.when, fl]
end MC.Law
set_option Elab.async false
set_option linter.all false
set_option maxRecDepth 100000
set_option maxHeartbeats 4000000
namespace MC.Law
open PySem
theorem Al.sub {V u : List Nat} {m : Nat} (a : Al V m) (h : u.Sublist V) : Al u u.length := ⟨rfl, a.srt.sublist h, fun c hc => a.rg c (h.subset hc)⟩
theorem blsOf_map {α : Type} (p : α → Bool) (xs : List α) : blsOf (xs.map fun c => PV.bl (p c)) = some (xs.map p) := by
  induction xs with
  | nil => rfl
  | cons a r ih => show (blsOf (r.map fun c => PV.bl (p c))).map _ = _; rw [ih]; rfl
theorem is_word_run {A w : List Nat} (hw : w.length ≤ 1000) : F_is_word [S A, S w] = some ((false, .bl (w.all fun c => decide (c ∈ A))), []) := by
  have lc : lc1_is_word [some (false, S A), some (false, S w), none] = some ((true, .lst (w.map fun c => .bl (decide (c ∈ A)))), [some (false, S A), some (false, S w), none]) := by
    have lp := lcLoop_pure (vs := [2]) (h := put 2 false) (ft := pure true) (fe := asF (bin2v 2 (look 0) inP)) (ρ := [some (false, S A), some (false, S w), none]) (fun _ => true) (fun x => match x with
      | .str ⟨⟨[c]⟩⟩ => PV.bl (decide (c ∈ A))
      | _ => .non) (w.map sign) fun x hx => by
      obtain ⟨c, hc, rfl⟩ := List.mem_map.mp hx
      refine ⟨_, rfl, fun _ => ⟨[some (false, S A), some (false, S w), some (false, .str ⟨⟨[c]⟩⟩)], ?_, rfl⟩, fun z => nomatch z⟩
      show asF _ [some (false, S A), some (false, S w), some (false, .str ⟨⟨[c]⟩⟩)] = some (PV.bl (decide (c ∈ A)), _)
      simp -implicitDefEqProofs [bind_run, pure_run, lift_run, ite_run, bad_run, fnOf, runF, argE, seqM, ifM, asT, bin2, bin2v, un1, unL, asF, setM, setIxM, augIxM, augM, retM, giveM, dropM, look, take, put, frz1, ownsAny, owns, store, change, mutM, onL, isB, truM, truP, MC.notM, MC.andM, MC.orM, chain, tupM, lstM, consM, outs, callM, valM, slotM, argSlots, frzS, resolve, ioSlots, setIo, itemsM, itemsOf, PV.flat, strM, andV, orV, notV, slM, slMv, asInt, str_len, addP_ii, addP_ib, addP_ss, addP_ll, addP_tt, iaddP_ii, subP_ii, mulP_ii, mulP_si, fdivP_ii, modP_ii, negP_i, absP_i, intP_i, intP_b, ltP_ii, leP_ii, gtP_ii, geP_ii, ltP_ss, leP_ss, gtP_ss, geP_ss, eqP_ii, eqP_ss, neP_ii, neP_ss, isP_b, isNotP_b, inP_1, notInP_1, lenP_s, lenP_l, lenP_t, lenP_q, listP_s, listP_l, listP_t, tupleP_l, tupleP_t, ixP_l, ixP_t, ixP_q, ixP_s, atI_nat, atI_2, atI_3, atI_4, atI_0, atI_1, atI_last, setV_l, getV_l, ixN_nat, ixN_2, ixN_3, ixN_4, ixN_0, ixN_1, popP_n, appendP_1, extendP_l, slP_to, slP_from, MC.when, fl]
    rw [List.filter_eq_self.mpr (fun _ _ => rfl), List.map_map] at lp
    unfold lc1_is_word lcM
    exact bind_of (a := w.map sign) (ρ' := [some (false, S A), some (false, S w), none]) rfl (bind_of (within_run rfl lp rfl) (lst_run (by rw [List.length_map]; omega)))
  have ap : allP (.lst (w.map fun c => .bl (decide (c ∈ A)))) = some (false, .bl (w.all fun c => decide (c ∈ A))) := by
    unfold allP
    simp only [blsOf_map, Option.bind_some]
    rw [List.all_map]; rfl
  refine fn_run rfl rfl (ρ := [some (false, S A), some (false, S w), none]) (seq_nx (ρ' := [some (false, S A), some (false, S w), none]) (if_f (ρ' := [some (false, S A), some (false, S w), none]) ?_ rfl) (ret_run ?_)) rfl
  · simp -implicitDefEqProofs [isi_ss, bind_run, pure_run, lift_run, ite_run, bad_run, fnOf, runF, argE, seqM, ifM, asT, bin2, bin2v, un1, unL, asF, setM, setIxM, augIxM, augM, retM, giveM, dropM, look, take, put, frz1, ownsAny, owns, store, change, mutM, onL, isB, truM, truP, MC.notM, MC.andM, MC.orM, chain, tupM, lstM, consM, outs, callM, valM, slotM, argSlots, frzS, resolve, ioSlots, setIo, itemsM, itemsOf, PV.flat, strM, andV, orV, notV, slM, slMv, asInt, str_len, addP_ii, addP_ib, addP_ss, addP_ll, addP_tt, iaddP_ii, subP_ii, mulP_ii, mulP_si, fdivP_ii, modP_ii, negP_i, absP_i, intP_i, intP_b, ltP_ii, leP_ii, gtP_ii, geP_ii, ltP_ss, leP_ss, gtP_ss, geP_ss, eqP_ii, eqP_ss, neP_ii, neP_ss, isP_b, isNotP_b, inP_1, notInP_1, lenP_s, lenP_l, lenP_t, lenP_q, listP_s, listP_l, listP_t, tupleP_l, tupleP_t, ixP_l, ixP_t, ixP_q, ixP_s, atI_nat, atI_2, atI_3, atI_4, atI_0, atI_1, atI_last, setV_l, getV_l, ixN_nat, ixN_2, ixN_3, ixN_4, ixN_0, ixN_1, popP_n, appendP_1, extendP_l, slP_to, slP_from, MC.when, fl]
  · generalize w.map (fun c => PV.bl (decide (c ∈ A))) = Z at lc ap
    generalize (w.all fun c => decide (c ∈ A)) = q at ap ⊢
    simp -implicitDefEqProofs [lc, ap, bind_run, pure_run, lift_run, ite_run, bad_run, fnOf, runF, argE, seqM, ifM, asT, bin2, bin2v, un1, unL, asF, setM, setIxM, augIxM, augM, retM, giveM, dropM, look, take, put, frz1, ownsAny, owns, store, change, mutM, onL, isB, truM, truP, MC.notM, MC.andM, MC.orM, chain, tupM, lstM, consM, outs, callM, valM, slotM, argSlots, frzS, resolve, ioSlots, setIo, itemsM, itemsOf, PV.flat, strM, andV, orV, notV, slM, slMv, asInt, str_len, addP_ii, addP_ib, addP_ss, addP_ll, addP_tt, iaddP_ii, subP_ii, mulP_ii, mulP_si, fdivP_ii, modP_ii, negP_i, absP_i, intP_i, intP_b, ltP_ii, leP_ii, gtP_ii, geP_ii, ltP_ss, leP_ss, gtP_ss, geP_ss, eqP_ii, eqP_ss, neP_ii, neP_ss, isP_b, isNotP_b, inP_1, notInP_1, lenP_s, lenP_l, lenP_t, lenP_q, listP_s, listP_l, listP_t, tupleP_l, tupleP_t, ixP_l, ixP_t, ixP_q, ixP_s, atI_nat, atI_2, atI_3, atI_4, atI_0, atI_1, atI_last, setV_l, getV_l, ixN_nat, ixN_2, ixN_3, ixN_4, ixN_0, ixN_1, popP_n, appendP_1, extendP_l, slP_to, slP_from, MC.when, fl]
theorem is_word_int (A : List Nat) (i : Int) : F_is_word [S A, .int i] = some ((false, .bl false), []) := by
  refine fn_run rfl rfl (ρ := [some (false, S A), some (false, .int i), none]) (seq_rt (if_t (ρ' := [some (false, S A), some (false, .int i), none]) ?_ rfl)) rfl
  simp -implicitDefEqProofs [isi_si, bind_run, pure_run, lift_run, ite_run, bad_run, fnOf, runF, argE, seqM, ifM, asT, bin2, bin2v, un1, unL, asF, setM, setIxM, augIxM, augM, retM, giveM, dropM, look, take, put, frz1, ownsAny, owns, store, change, mutM, onL, isB, truM, truP, MC.notM, MC.andM, MC.orM, chain, tupM, lstM, consM, outs, callM, valM, slotM, argSlots, frzS, resolve, ioSlots, setIo, itemsM, itemsOf, PV.flat, strM, andV, orV, notV, slM, slMv, asInt, str_len, addP_ii, addP_ib, addP_ss, addP_ll, addP_tt, iaddP_ii, subP_ii, mulP_ii, mulP_si, fdivP_ii, modP_ii, negP_i, absP_i, intP_i, intP_b, ltP_ii, leP_ii, gtP_ii, geP_ii, ltP_ss, leP_ss, gtP_ss, geP_ss, eqP_ii, eqP_ss, neP_ii, neP_ss, isP_b, isNotP_b, inP_1, notInP_1, lenP_s, lenP_l, lenP_t, lenP_q, listP_s, listP_l, listP_t, tupleP_l, tupleP_t, ixP_l, ixP_t, ixP_q, ixP_s, atI_nat, atI_2, atI_3, atI_4, atI_0, atI_1, atI_last, setV_l, getV_l, ixN_nat, ixN_2, ixN_3, ixN_4, ixN_0, ixN_1, popP_n, appendP_1, extendP_l, slP_to, slP_from, MC.when, fl]
theorem is_word_tup (A : List Nat) (xs : List PV) : F_is_word [S A, .tup xs] = some ((false, .bl false), []) := by
  refine fn_run rfl rfl (ρ := [some (false, S A), some (false, .tup xs), none]) (seq_rt (if_t (ρ' := [some (false, S A), some (false, .tup xs), none]) ?_ rfl)) rfl
  simp -implicitDefEqProofs [isi_st, bind_run, pure_run, lift_run, ite_run, bad_run, fnOf, runF, argE, seqM, ifM, asT, bin2, bin2v, un1, unL, asF, setM, setIxM, augIxM, augM, retM, giveM, dropM, look, take, put, frz1, ownsAny, owns, store, change, mutM, onL, isB, truM, truP, MC.notM, MC.andM, MC.orM, chain, tupM, lstM, consM, outs, callM, valM, slotM, argSlots, frzS, resolve, ioSlots, setIo, itemsM, itemsOf, PV.flat, strM, andV, orV, notV, slM, slMv, asInt, str_len, addP_ii, addP_ib, addP_ss, addP_ll, addP_tt, iaddP_ii, subP_ii, mulP_ii, mulP_si, fdivP_ii, modP_ii, negP_i, absP_i, intP_i, intP_b, ltP_ii, leP_ii, gtP_ii, geP_ii, ltP_ss, leP_ss, gtP_ss, geP_ss, eqP_ii, eqP_ss, neP_ii, neP_ss, isP_b, isNotP_b, inP_1, notInP_1, lenP_s, lenP_l, lenP_t, lenP_q, listP_s, listP_l, listP_t, tupleP_l, tupleP_t, ixP_l, ixP_t, ixP_q, ixP_s, atI_nat, atI_2, atI_3, atI_4, atI_0, atI_1, atI_last, setV_l, getV_l, ixN_nat, ixN_2, ixN_3, ixN_4, ixN_0, ixN_1, popP_n, appendP_1, extendP_l, slP_to, slP_from, MC.when, fl]
theorem is_word_for {A u v : List Nat} {f : Nat} (hl : (u ++ f :: v).length ≤ 1000) (hf : f ∉ A) : F_is_word [S A, S (u ++ f :: v)] = some ((false, .bl false), []) := by
  have h := is_word_run (A := A) hl
  have : ((u ++ f :: v).all fun c => decide (c ∈ A)) = false := by
    rw [List.all_eq_false]
    exact ⟨f, by simp, by simpa using hf⟩
  rw [this] at h; exact h
def Je (d : PV) (A w V : List Nat) (x4 x5 x6 x7 x8 x9 : Option (Bool × PV)) : Env := [some (true, d), some (false, S A), some (false, S w), some (false, S V), x4, x5, x6, x7, x8, x9, none, none]
theorem j_good {d : PV} {A w V : List Nat} {m : Nat} (a : Al A m) (h1 : 1 ≤ m) (h4 : m ≤ 4) (v : Al V 5) : ∃ x4, fo1__law_judges_stand (Je d A w V none none none none none none) = some (.nx, Je d A w V x4 none none none none none) := by
  have hV := v.len
  have fV : fits V.length = true := fits_of (by omega)
  have f5 : fits 5 = true := fits_of (by decide)
  have key : ∀ u : List Nat, u.Sublist V → 1 ≤ u.length → u.length ≤ 4 → F_is_alphabet [S u] = some ((false, .bl true), []) := fun u hu a1 a2 => alpha_good (v.sub hu) a1 a2
  obtain ⟨e, he⟩ : ∃ e, V[4]? = some e := ⟨_, List.getElem?_eq_getElem (by omega)⟩
  have k1 : slP (.str ⟨⟨V⟩⟩) none (some 4) = some (false, .str ⟨⟨V.take 4⟩⟩) := slP_to (n := 4) fV
  have k2 : slP (.str ⟨⟨V⟩⟩) (some 1) none = some (false, .str ⟨⟨V.drop 1⟩⟩) := slP_from1 fV
  have k3 : slP (.str ⟨⟨V⟩⟩) (some 2) (some 4) = some (false, .str ⟨⟨(V.drop 2).take 2⟩⟩) := by
    show (if fits V.length then fl (.str (L2.cutS ⟨⟨V⟩⟩ (some 2) (some 4))) else none) = _
    rw [if_pos fV]
    unfold L2.cutS
    rw [show Str.length ⟨⟨V⟩⟩ = 5 from hV]
    rfl
  have g1 := key (V.take 4) (List.take_sublist _ _) (by simp; omega) (by simp; omega)
  have g2 := key (V.drop 1) (List.drop_sublist _ _) (by simp; omega) (by simp; omega)
  have g3 := key ((V.drop 2).take 2) ((List.take_sublist _ _).trans (List.drop_sublist _ _)) (by simp; omega) (by simp; omega)
  have g4 := key [e] (List.singleton_sublist.mpr (List.mem_of_getElem? he)) (by simp) (by simp)
  have g0 := alpha_good a h1 h4
  generalize V.take 4 = V1 at k1 g1
  generalize V.drop 1 = V2 at k2 g2
  generalize (V.drop 2).take 2 = V3 at k3 g3
  obtain ⟨ρ', h2, x4, rfl⟩ := forM_inv (h := put 4 false) (f := bd1__law_judges_stand) (fun i ρ => ∃ x4, ρ = Je d A w V x4 none none none none none) [S A, S V1, S V2, S V3, S [e]] 0 (Je d A w V none none none none none none) ⟨none, rfl⟩ (by
    rintro i x _ hx ⟨x4, rfl⟩
    have hm := List.mem_of_getElem? hx
    have gx : F_is_alphabet [x] = some ((false, .bl true), []) := by
      simp only [List.mem_cons, List.not_mem_nil, or_false] at hm
      rcases hm with rfl | rfl | rfl | rfl | rfl
      · exact g0
      · exact g1
      · exact g2
      · exact g3
      · exact g4
    refine ⟨Je d A w V (some (false, x)) none none none none none, .inl (bind_of (ρ' := Je d A w V (some (false, x)) none none none none none) rfl ?_), _, rfl⟩
    refine if_f (ρ' := Je d A w V (some (false, x)) none none none none none) ?_ rfl
    unfold Je
    simp -implicitDefEqProofs [gx, bind_run, pure_run, lift_run, ite_run, bad_run, fnOf, runF, argE, seqM, ifM, asT, bin2, bin2v, un1, unL, asF, setM, setIxM, augIxM, augM, retM, giveM, dropM, look, take, put, frz1, ownsAny, owns, store, change, mutM, onL, isB, truM, truP, MC.notM, MC.andM, MC.orM, chain, tupM, lstM, consM, outs, callM, valM, slotM, argSlots, frzS, resolve, ioSlots, setIo, itemsM, itemsOf, PV.flat, strM, andV, orV, notV, slM, slMv, asInt, str_len, addP_ii, addP_ib, addP_ss, addP_ll, addP_tt, iaddP_ii, subP_ii, mulP_ii, mulP_si, fdivP_ii, modP_ii, negP_i, absP_i, intP_i, intP_b, ltP_ii, leP_ii, gtP_ii, geP_ii, ltP_ss, leP_ss, gtP_ss, geP_ss, eqP_ii, eqP_ss, neP_ii, neP_ss, isP_b, isNotP_b, inP_1, notInP_1, lenP_s, lenP_l, lenP_t, lenP_q, listP_s, listP_l, listP_t, tupleP_l, tupleP_t, ixP_l, ixP_t, ixP_q, ixP_s, atI_nat, atI_2, atI_3, atI_4, atI_0, atI_1, atI_last, setV_l, getV_l, ixN_nat, ixN_2, ixN_3, ixN_4, ixN_0, ixN_1, popP_n, appendP_1, extendP_l, slP_to, slP_from, MC.when, fl])
  refine ⟨x4, bind_of (a := [S A, S V1, S V2, S V3, S [e]]) (ρ' := Je d A w V none none none none none none) ?_ h2⟩
  unfold Je
  simp -implicitDefEqProofs [fV, f5, k1, k2, k3, he, itemsM, itemsOf, lstM, consM, bind_run, pure_run, lift_run, ite_run, look, take, asF, bin2, bin2v, slMv, asInt, ixP_s, atI_4, MC.when, fl]
theorem j_bad {d : PV} {A w V : List Nat} {m : Nat} {x4 : Option (Bool × PV)} (hd : IsDr d) (a : Al A m) (h1 : 1 ≤ m) (h4 : m ≤ 4) (v : Al V 5) : ∃ d' x5, IsDr d' ∧ fo2__law_judges_stand (Je d A w V x4 none none none none none) = some (.nx, Je d' A w V x4 x5 none none none none) := by
  obtain ⟨xs, d', e, hd', hb, _⟩ := bad_ok hd a h1 h4 v.len
  obtain ⟨ρ', h2, x5, rfl⟩ := forM_inv (h := put 5 false) (f := bd2__law_judges_stand) (fun i ρ => ∃ x5, ρ = Je d' A w V x4 x5 none none none none) xs 0 (Je d' A w V x4 none none none none none) ⟨none, rfl⟩ (by
    rintro i x _ hx ⟨x5, rfl⟩
    have gx : F_is_alphabet [x] = some ((false, .bl false), []) := hb x (List.mem_of_getElem? hx)
    refine ⟨Je d' A w V x4 (some (false, x)) none none none none, .inl (bind_of (ρ' := Je d' A w V x4 (some (false, x)) none none none none) rfl ?_), _, rfl⟩
    refine if_f (ρ' := Je d' A w V x4 (some (false, x)) none none none none) ?_ rfl
    unfold Je
    simp -implicitDefEqProofs [gx, bind_run, pure_run, lift_run, ite_run, bad_run, fnOf, runF, argE, seqM, ifM, asT, bin2, bin2v, un1, unL, asF, setM, setIxM, augIxM, augM, retM, giveM, dropM, look, take, put, frz1, ownsAny, owns, store, change, mutM, onL, isB, truM, truP, MC.notM, MC.andM, MC.orM, chain, tupM, lstM, consM, outs, callM, valM, slotM, argSlots, frzS, resolve, ioSlots, setIo, itemsM, itemsOf, PV.flat, strM, andV, orV, notV, slM, slMv, asInt, str_len, addP_ii, addP_ib, addP_ss, addP_ll, addP_tt, iaddP_ii, subP_ii, mulP_ii, mulP_si, fdivP_ii, modP_ii, negP_i, absP_i, intP_i, intP_b, ltP_ii, leP_ii, gtP_ii, geP_ii, ltP_ss, leP_ss, gtP_ss, geP_ss, eqP_ii, eqP_ss, neP_ii, neP_ss, isP_b, isNotP_b, inP_1, notInP_1, lenP_s, lenP_l, lenP_t, lenP_q, listP_s, listP_l, listP_t, tupleP_l, tupleP_t, ixP_l, ixP_t, ixP_q, ixP_s, atI_nat, atI_2, atI_3, atI_4, atI_0, atI_1, atI_last, setV_l, getV_l, ixN_nat, ixN_2, ixN_3, ixN_4, ixN_0, ixN_1, popP_n, appendP_1, extendP_l, slP_to, slP_from, MC.when, fl])
  refine ⟨d', x5, hd', bind_of (a := xs) (ρ' := Je d' A w V x4 none none none none none) ?_ h2⟩
  unfold Je
  simp -implicitDefEqProofs [e, bind_run, pure_run, lift_run, ite_run, bad_run, fnOf, runF, argE, seqM, ifM, asT, bin2, bin2v, un1, unL, asF, setM, setIxM, augIxM, augM, retM, giveM, dropM, look, take, put, frz1, ownsAny, owns, store, change, mutM, onL, isB, truM, truP, MC.notM, MC.andM, MC.orM, chain, tupM, lstM, consM, outs, callM, valM, slotM, argSlots, frzS, resolve, ioSlots, setIo, itemsM, itemsOf, PV.flat, strM, andV, orV, notV, slM, slMv, asInt, str_len, addP_ii, addP_ib, addP_ss, addP_ll, addP_tt, iaddP_ii, subP_ii, mulP_ii, mulP_si, fdivP_ii, modP_ii, negP_i, absP_i, intP_i, intP_b, ltP_ii, leP_ii, gtP_ii, geP_ii, ltP_ss, leP_ss, gtP_ss, geP_ss, eqP_ii, eqP_ss, neP_ii, neP_ss, isP_b, isNotP_b, inP_1, notInP_1, lenP_s, lenP_l, lenP_t, lenP_q, listP_s, listP_l, listP_t, tupleP_l, tupleP_t, ixP_l, ixP_t, ixP_q, ixP_s, atI_nat, atI_2, atI_3, atI_4, atI_0, atI_1, atI_last, setV_l, getV_l, ixN_nat, ixN_2, ixN_3, ixN_4, ixN_0, ixN_1, popP_n, appendP_1, extendP_l, slP_to, slP_from, MC.when, fl]
theorem others_lc {A : List Nat} {ρ : Env} {vs : List Nat} {k : Nat} (hp : ∀ c, ∃ ρ1, (put k false (sign c) >>= fun _ => asT (bin2v k (look 1) notInP)) ρ = some (decide (c ∉ A), ρ1) ∧ take k ρ1 = some (sign c, ρ1) ∧ clear vs ρ1 = ρ) :
    lcLoop vs (put k false) (asT (bin2v k (look 1) notInP)) (take k) (AZ.map sign) ρ = some ((AZ.filter fun c => decide (c ∉ A)).map sign, ρ) := by
  have lp := lcLoop_pure (vs := vs) (h := put k false) (ft := asT (bin2v k (look 1) notInP)) (fe := take k) (ρ := ρ) (fun x => match x with
      | .str ⟨⟨[c]⟩⟩ => decide (c ∉ A)
      | _ => false) id (AZ.map sign) fun x hx => by
    obtain ⟨c, hc, rfl⟩ := List.mem_map.mp hx
    obtain ⟨ρ1, e1, e2, e3⟩ := hp c
    exact ⟨ρ1, e1, fun _ => ⟨ρ1, e2, e3⟩, fun _ => e3⟩
  rw [lp, List.map_id, List.filter_map]
  rfl
theorem others_len (A : List Nat) : (AZ.filter fun c => decide (c ∉ A)).length ≤ 26 := List.length_filter_le _ _
theorem nodup_le : ∀ {l m : List Nat}, l.Nodup → (∀ c ∈ l, c ∈ m) → l.length ≤ m.length
  | [], _, _, _ => Nat.zero_le _
  | a :: l, m, nd, h => by
    obtain ⟨n1, n2⟩ := List.nodup_cons.mp nd
    have ha := h a List.mem_cons_self
    have ih := nodup_le (l := l) (m := m.erase a) n2 fun c hc => (List.mem_erase_of_ne (by intro z; subst z; exact n1 hc)).mpr (h c (List.mem_cons_of_mem _ hc))
    rw [List.length_erase_of_mem ha] at ih
    have := List.length_pos_of_mem ha
    simp; omega
theorem others_ne {A : List Nat} (h : A.length ≤ 20) : (AZ.filter fun c => decide (c ∉ A)) ≠ [] := fun z => by
  have h2 : ∀ c ∈ AZ, c ∈ A := fun c hc => by
    have := List.filter_eq_nil_iff.mp z c hc
    simpa using this
  have h3 : AZ.length ≤ A.length := nodup_le az_nd h2
  have : AZ.length = 26 := rfl
  omega
end MC.Law
set_option Elab.async false
set_option linter.all false
set_option maxRecDepth 100000
set_option maxHeartbeats 4000000
namespace MC.Law
open PySem
def DG : List Nat := [48, 53, 57, 32, 95, 45, 126, 123, 96]
theorem lit_dg : Str.ofString "059 _-~{`" = ⟨⟨DG⟩⟩ := by decide +kernel
theorem dg_bad : ∀ c ∈ DG, c < 97 ∨ 122 < c := by decide
theorem j_others {d : PV} {A w V : List Nat} {x4 x5 : Option (Bool × PV)} : lc1__law_judges_stand (Je d A w V x4 x5 none none none none) = some ((true, .lst ((AZ.filter fun c => decide (c ∉ A)).map sign)), Je d A w V x4 x5 none none none none) := by
  have lp := others_lc (A := A) (ρ := Je d A w V x4 x5 none none none none) (vs := [10]) (k := 10) fun c => by
    refine ⟨[some (true, d), some (false, S A), some (false, S w), some (false, S V), x4, x5, none, none, none, none, some (false, sign c), none], ?_, rfl, rfl⟩
    refine bind_of (ρ' := [some (true, d), some (false, S A), some (false, S w), some (false, S V), x4, x5, none, none, none, none, some (false, .str ⟨⟨[c]⟩⟩), none]) rfl ?_
    simp -implicitDefEqProofs [sign, bind_run, pure_run, lift_run, ite_run, bad_run, fnOf, runF, argE, seqM, ifM, asT, bin2, bin2v, un1, unL, asF, setM, setIxM, augIxM, augM, retM, giveM, dropM, look, take, put, frz1, ownsAny, owns, store, change, mutM, onL, isB, truM, truP, MC.notM, MC.andM, MC.orM, chain, tupM, lstM, consM, outs, callM, valM, slotM, argSlots, frzS, resolve, ioSlots, setIo, itemsM, itemsOf, PV.flat, strM, andV, orV, notV, slM, slMv, asInt, str_len, addP_ii, addP_ib, addP_ss, addP_ll, addP_tt, iaddP_ii, subP_ii, mulP_ii, mulP_si, fdivP_ii, modP_ii, negP_i, absP_i, intP_i, intP_b, ltP_ii, leP_ii, gtP_ii, geP_ii, ltP_ss, leP_ss, gtP_ss, geP_ss, eqP_ii, eqP_ss, neP_ii, neP_ss, isP_b, isNotP_b, inP_1, notInP_1, lenP_s, lenP_l, lenP_t, lenP_q, listP_s, listP_l, listP_t, tupleP_l, tupleP_t, ixP_l, ixP_t, ixP_q, ixP_s, atI_nat, atI_2, atI_3, atI_4, atI_0, atI_1, atI_last, setV_l, getV_l, ixN_nat, ixN_2, ixN_3, ixN_4, ixN_0, ixN_1, popP_n, appendP_1, extendP_l, slP_to, slP_from, MC.when, fl]
  have ol := others_len A
  refine bind_of (a := AZ.map sign) (ρ' := Je d A w V x4 x5 none none none none) ?_ (bind_of (within_run rfl lp rfl) (lst_run (by rw [List.length_map]; omega)))
  unfold Je
  simp -implicitDefEqProofs [lit_az, bind_run, pure_run, lift_run, ite_run, bad_run, fnOf, runF, argE, seqM, ifM, asT, bin2, bin2v, un1, unL, asF, setM, setIxM, augIxM, augM, retM, giveM, dropM, look, take, put, frz1, ownsAny, owns, store, change, mutM, onL, isB, truM, truP, MC.notM, MC.andM, MC.orM, chain, tupM, lstM, consM, outs, callM, valM, slotM, argSlots, frzS, resolve, ioSlots, setIo, itemsM, itemsOf, PV.flat, strM, andV, orV, notV, slM, slMv, asInt, str_len, addP_ii, addP_ib, addP_ss, addP_ll, addP_tt, iaddP_ii, subP_ii, mulP_ii, mulP_si, fdivP_ii, modP_ii, negP_i, absP_i, intP_i, intP_b, ltP_ii, leP_ii, gtP_ii, geP_ii, ltP_ss, leP_ss, gtP_ss, geP_ss, eqP_ii, eqP_ss, neP_ii, neP_ss, isP_b, isNotP_b, inP_1, notInP_1, lenP_s, lenP_l, lenP_t, lenP_q, listP_s, listP_l, listP_t, tupleP_l, tupleP_t, ixP_l, ixP_t, ixP_q, ixP_s, atI_nat, atI_2, atI_3, atI_4, atI_0, atI_1, atI_last, setV_l, getV_l, ixN_nat, ixN_2, ixN_3, ixN_4, ixN_0, ixN_1, popP_n, appendP_1, extendP_l, slP_to, slP_from, MC.when, fl]
theorem j_foreign_step {d : PV} {A w V : List Nat} {x4 x5 x6 x8 : Option (Bool × PV)} {f : Nat} (hd : IsDr d) (hw : w.length ≤ 100) (hf : f ∉ A) :
    ∃ d' x8', IsDr d' ∧ bd3__law_judges_stand (Je d A w V x4 x5 x6 (some (false, S [f])) x8 none) = some (.nx, Je d' A w V x4 x5 x6 (some (false, S [f])) x8' none) := by
  have fw : fits w.length = true := fits_of (by omega)
  obtain ⟨r, d', e, p, q, hd'⟩ := draw_ok hd (many := (w.length : Int) + 1) (by omega) (by omega)
  obtain ⟨n, rfl⟩ := Int.eq_ofNat_of_zero_le p
  have k1 := slP_to (a := w) (n := n) fw
  have k2 := slP_from (a := w) (n := n) fw
  have l1 : (w.take n).length ≤ 100 := by simp; omega
  have l2 : (w.drop n).length ≤ 100 := by simp; omega
  generalize w.take n = U at k1 l1
  generalize w.drop n = W at k2 l2
  have g1 := addP_ss (a := U) (b := [f]) (fits_of (by simp; omega))
  have g2 := addP_ss (a := U ++ [f]) (b := W) (fits_of (by simp; omega))
  have eq : U ++ [f] ++ W = U ++ f :: W := by simp
  rw [eq] at g2
  have iw := is_word_for (A := A) (u := U) (v := W) (by simp; omega) hf
  generalize U ++ f :: W = X1 at g2 iw
  generalize U ++ [f] = X2 at g1 g2
  refine ⟨d', some (false, .int n), hd', ?_⟩
  unfold bd3__law_judges_stand Je
  refine seq_nx (ρ' := [some (true, d'), some (false, S A), some (false, S w), some (false, S V), x4, x5, x6, some (false, S [f]), some (false, .int n), none, none, none]) ?_ (if_f (ρ' := [some (true, d'), some (false, S A), some (false, S w), some (false, S V), x4, x5, x6, some (false, S [f]), some (false, .int n), none, none, none]) ?_ rfl)
  · simp -implicitDefEqProofs [fw, e, bind_run, pure_run, lift_run, ite_run, bad_run, fnOf, runF, argE, seqM, ifM, asT, bin2, bin2v, un1, unL, asF, setM, setIxM, augIxM, augM, retM, giveM, dropM, look, take, put, frz1, ownsAny, owns, store, change, mutM, onL, isB, truM, truP, MC.notM, MC.andM, MC.orM, chain, tupM, lstM, consM, outs, callM, valM, slotM, argSlots, frzS, resolve, ioSlots, setIo, itemsM, itemsOf, PV.flat, strM, andV, orV, notV, slM, slMv, asInt, str_len, addP_ii, addP_ib, addP_ss, addP_ll, addP_tt, iaddP_ii, subP_ii, mulP_ii, mulP_si, fdivP_ii, modP_ii, negP_i, absP_i, intP_i, intP_b, ltP_ii, leP_ii, gtP_ii, geP_ii, ltP_ss, leP_ss, gtP_ss, geP_ss, eqP_ii, eqP_ss, neP_ii, neP_ss, isP_b, isNotP_b, inP_1, notInP_1, lenP_s, lenP_l, lenP_t, lenP_q, listP_s, listP_l, listP_t, tupleP_l, tupleP_t, ixP_l, ixP_t, ixP_q, ixP_s, atI_nat, atI_2, atI_3, atI_4, atI_0, atI_1, atI_last, setV_l, getV_l, ixN_nat, ixN_2, ixN_3, ixN_4, ixN_0, ixN_1, popP_n, appendP_1, extendP_l, slP_to, slP_from, MC.when, fl]
  · simp -implicitDefEqProofs [k1, k2, g1, g2, iw, bind_run, pure_run, lift_run, ite_run, look, asF, asT, isB, bin2, bin2v, slMv, asInt, callM, valM, slotM, resolve, ioSlots, argSlots, frzS, PV.flat, isNotP_b]
theorem j_foreign {d : PV} {A w V : List Nat} {m : Nat} {x4 x5 : Option (Bool × PV)} (hd : IsDr d) (a : Al A m) (h1 : 1 ≤ m) (h4 : m ≤ 4) (hw : w.length ≤ 100) :
    ∃ d' x6 x7 x8, IsDr d' ∧ fo3__law_judges_stand (Je d A w V x4 x5 (some (true, .lst ((AZ.filter fun c => decide (c ∉ A)).map sign))) none none none) = some (.nx, Je d' A w V x4 x5 x6 x7 x8 none) := by
  have hl := a.len
  have hA : A ≠ [] := by intro z; subst z; simp at hl; omega
  have on := others_ne (A := A) (by omega)
  have ol := others_len A
  obtain ⟨x, d1, e1, hx, hd1⟩ := pick_l hd (xs := (AZ.filter fun c => decide (c ∉ A)).map sign) (by simpa using on) (by rw [List.length_map]; omega)
  obtain ⟨f1, hf1, rfl⟩ := List.mem_map.mp hx
  have hf1 : f1 ∉ A := by simpa using (List.mem_filter.mp hf1).2
  obtain ⟨c2, d2, e2, hc2, hd2⟩ := pick_s hd1 (a := A) hA (by omega)
  have up := upperP_1 (a.rg c2 hc2)
  have hf2 : c2 - 32 ∉ A := fun z => by
    have := a.rg _ z
    have := a.rg c2 hc2
    omega
  obtain ⟨f3, d3, e3, hc3, hd3⟩ := pick_s hd2 (a := DG) (by decide) (by decide)
  have hf3 : f3 ∉ A := fun z => by
    have := a.rg _ z
    have := dg_bad f3 hc3
    omega
  have e1 : F__law_pick [d, .lst ((AZ.filter fun c => decide (c ∉ A)).map sign)] = some ((false, S [f1]), [d1]) := e1
  generalize (AZ.filter fun c => decide (c ∉ A)).map sign = Z at e1 ⊢
  have f3' : fits 3 = true := fits_of (by decide)
  obtain ⟨ρ', h2, d', x7, x8, rfl, hd'⟩ := forM_inv (h := put 7 false) (f := bd3__law_judges_stand) (fun i ρ => ∃ (d' : PV) (x7 x8 : Option (Bool × PV)), ρ = Je d' A w V x4 x5 (some (false, .lst Z)) x7 x8 none ∧ IsDr d') [S [f1], S [c2 - 32], S [f3]] 0 (Je d3 A w V x4 x5 (some (false, .lst Z)) none none none) ⟨d3, none, none, rfl, hd3⟩ (by
    rintro i x _ hx ⟨d', x7, x8, rfl, hd'⟩
    have hm := List.mem_of_getElem? hx
    obtain ⟨f, rfl, hf⟩ : ∃ f, x = S [f] ∧ f ∉ A := by
      simp only [List.mem_cons, List.not_mem_nil, or_false] at hm
      rcases hm with rfl | rfl | rfl
      · exact ⟨f1, rfl, hf1⟩
      · exact ⟨_, rfl, hf2⟩
      · exact ⟨f3, rfl, hf3⟩
    obtain ⟨d2, y8, hd2, e⟩ := j_foreign_step (d := d') (A := A) (w := w) (V := V) (x4 := x4) (x5 := x5) (x6 := some (false, .lst Z)) (x8 := x8) hd' hw hf
    exact ⟨_, .inl (bind_of rfl e), d2, _, _, rfl, hd2⟩)
  refine ⟨d', _, x7, x8, hd', bind_of (a := [S [f1], S [c2 - 32], S [f3]]) (ρ' := Je d3 A w V x4 x5 (some (false, .lst Z)) none none none) ?_ h2⟩
  unfold Je
  simp -implicitDefEqProofs [lit_dg, f3', e1, e2, e3, up, bind_run, pure_run, lift_run, ite_run, bad_run, fnOf, runF, argE, seqM, ifM, asT, bin2, bin2v, un1, unL, asF, setM, setIxM, augIxM, augM, retM, giveM, dropM, look, take, put, frz1, ownsAny, owns, store, change, mutM, onL, isB, truM, truP, MC.notM, MC.andM, MC.orM, chain, tupM, lstM, consM, outs, callM, valM, slotM, argSlots, frzS, resolve, ioSlots, setIo, itemsM, itemsOf, PV.flat, strM, andV, orV, notV, slM, slMv, asInt, str_len, addP_ii, addP_ib, addP_ss, addP_ll, addP_tt, iaddP_ii, subP_ii, mulP_ii, mulP_si, fdivP_ii, modP_ii, negP_i, absP_i, intP_i, intP_b, ltP_ii, leP_ii, gtP_ii, geP_ii, ltP_ss, leP_ss, gtP_ss, geP_ss, eqP_ii, eqP_ss, neP_ii, neP_ss, isP_b, isNotP_b, inP_1, notInP_1, lenP_s, lenP_l, lenP_t, lenP_q, listP_s, listP_l, listP_t, tupleP_l, tupleP_t, ixP_l, ixP_t, ixP_q, ixP_s, atI_nat, atI_2, atI_3, atI_4, atI_0, atI_1, atI_last, setV_l, getV_l, ixN_nat, ixN_2, ixN_3, ixN_4, ixN_0, ixN_1, popP_n, appendP_1, extendP_l, slP_to, slP_from, MC.when, fl]
theorem j_things {d : PV} {A w V : List Nat} {x4 x5 x6 x7 x8 : Option (Bool × PV)} (hw : w.length ≤ 100) : ∃ x9, fo4__law_judges_stand (Je d A w V x4 x5 x6 x7 x8 none) = some (.nx, Je d A w V x4 x5 x6 x7 x8 x9) := by
  have fw : fits w.length = true := fits_of (by omega)
  have f7 : fits 7 = true := fits_of (by decide)
  have lc : lc2__law_judges_stand (Je d A w V x4 x5 x6 x7 x8 none) = some ((true, .lst (w.map sign)), Je d A w V x4 x5 x6 x7 x8 none) := by
    have lp := lcLoop_pure (vs := [11]) (h := put 11 false) (ft := pure true) (fe := take 11) (ρ := Je d A w V x4 x5 x6 x7 x8 none) (fun _ => true) id (w.map sign) fun x hx => ⟨_, rfl, fun _ => ⟨_, rfl, rfl⟩, fun z => nomatch z⟩
    rw [List.filter_eq_self.mpr (fun _ _ => rfl), List.map_id] at lp
    exact bind_of (a := w.map sign) (ρ' := Je d A w V x4 x5 x6 x7 x8 none) rfl (bind_of (within_run rfl lp rfl) (lst_run (by rw [List.length_map]; omega)))
  generalize w.map sign = Z at lc
  obtain ⟨ρ', h2, x9, rfl⟩ := forM_inv (h := put 9 false) (f := bd4__law_judges_stand) (fun i ρ => ∃ x9, ρ = Je d A w V x4 x5 x6 x7 x8 x9) [.tup Z, .tup [S w], .tup [], .tup [S A], .int 0, .int (-1), .int w.length] 0 (Je d A w V x4 x5 x6 x7 x8 none) ⟨none, rfl⟩ (by
    rintro i x _ hx ⟨x9, rfl⟩
    have hm := List.mem_of_getElem? hx
    have gx : F_is_word [S A, x] = some ((false, .bl false), []) := by
      simp only [List.mem_cons, List.not_mem_nil, or_false] at hm
      rcases hm with rfl | rfl | rfl | rfl | rfl | rfl | rfl
      · exact is_word_tup _ _
      · exact is_word_tup _ _
      · exact is_word_tup _ _
      · exact is_word_tup _ _
      · exact is_word_int _ _
      · exact is_word_int _ _
      · exact is_word_int _ _
    refine ⟨Je d A w V x4 x5 x6 x7 x8 (some (false, x)), .inl (bind_of (ρ' := Je d A w V x4 x5 x6 x7 x8 (some (false, x))) rfl ?_), _, rfl⟩
    refine if_f (ρ' := Je d A w V x4 x5 x6 x7 x8 (some (false, x))) ?_ rfl
    unfold Je
    simp -implicitDefEqProofs [gx, bind_run, pure_run, lift_run, ite_run, bad_run, fnOf, runF, argE, seqM, ifM, asT, bin2, bin2v, un1, unL, asF, setM, setIxM, augIxM, augM, retM, giveM, dropM, look, take, put, frz1, ownsAny, owns, store, change, mutM, onL, isB, truM, truP, MC.notM, MC.andM, MC.orM, chain, tupM, lstM, consM, outs, callM, valM, slotM, argSlots, frzS, resolve, ioSlots, setIo, itemsM, itemsOf, PV.flat, strM, andV, orV, notV, slM, slMv, asInt, str_len, addP_ii, addP_ib, addP_ss, addP_ll, addP_tt, iaddP_ii, subP_ii, mulP_ii, mulP_si, fdivP_ii, modP_ii, negP_i, absP_i, intP_i, intP_b, ltP_ii, leP_ii, gtP_ii, geP_ii, ltP_ss, leP_ss, gtP_ss, geP_ss, eqP_ii, eqP_ss, neP_ii, neP_ss, isP_b, isNotP_b, inP_1, notInP_1, lenP_s, lenP_l, lenP_t, lenP_q, listP_s, listP_l, listP_t, tupleP_l, tupleP_t, ixP_l, ixP_t, ixP_q, ixP_s, atI_nat, atI_2, atI_3, atI_4, atI_0, atI_1, atI_last, setV_l, getV_l, ixN_nat, ixN_2, ixN_3, ixN_4, ixN_0, ixN_1, popP_n, appendP_1, extendP_l, slP_to, slP_from, MC.when, fl])
  refine ⟨x9, ?_⟩
  unfold fo4__law_judges_stand
  refine bind_of (ρ' := Je d A w V x4 x5 x6 x7 x8 none) ?_ h2
  clear h2
  unfold Je at lc ⊢
  simp -implicitDefEqProofs [lc, fw, f0, f1, f7, itemsM, itemsOf, lstM, tupM, consM, bind_run, pure_run, lift_run, ite_run, look, take, asF, un1, lenP_s, tupleP_l, negP_i, MC.when, fl]
theorem judges_ok {d : PV} {A w : List Nat} {m : Nat} (hd : IsDr d) (a : Al A m) (h1 : 1 ≤ m) (h4 : m ≤ 4) (hwm : ∀ c ∈ w, c ∈ A) (hw : w.length ≤ 100) :
    ∃ d', F__law_judges_stand [d, S A, S w] = some ((false, .bl true), [d']) := by
  obtain ⟨V, d1, e1, hd1, v⟩ := alphabet_ok hd (many := 5) (by omega) (by omega)
  obtain ⟨x4, g⟩ := j_good (d := d1) (w := w) a h1 h4 v
  obtain ⟨d2, x5, hd2, b⟩ := j_bad (w := w) (x4 := x4) hd1 a h1 h4 v
  obtain ⟨d3, x6, x7, x8, hd3, fo⟩ := j_foreign (w := w) (V := V) (x4 := x4) (x5 := x5) hd2 a h1 h4 hw
  obtain ⟨x9, th⟩ := j_things (d := d3) (A := A) (V := V) (x4 := x4) (x5 := x5) (x6 := x6) (x7 := x7) (x8 := x8) hw
  have w1 := is_word_ok (A := A) (w := w) (by omega) hwm
  have w2 := is_word_ok (A := A) (w := []) (by simp) (fun c hc => by cases hc)
  have e1 : F__law_alphabet [d, .int 5] = some ((false, S V), [d1]) := e1
  refine ⟨d3, fn_run rfl (ρ0 := [some (true, d), some (false, S A), some (false, S w), none, none, none, none, none, none, none, none, none]) rfl (seq_nx (ρ' := Je d1 A w V none none none none none none) ?_ (seq_nx g (seq_nx b (seq_nx (set_run j_others) (seq_nx fo (seq_nx th (ret_run (x := (false, .bl true)) (ρ' := Je d3 A w V x4 x5 x6 x7 x8 x9) ?_))))))) rfl⟩
  · unfold Je
    simp -implicitDefEqProofs [e1, bind_run, pure_run, lift_run, ite_run, bad_run, fnOf, runF, argE, seqM, ifM, asT, bin2, bin2v, un1, unL, asF, setM, setIxM, augIxM, augM, retM, giveM, dropM, look, take, put, frz1, ownsAny, owns, store, change, mutM, onL, isB, truM, truP, MC.notM, MC.andM, MC.orM, chain, tupM, lstM, consM, outs, callM, valM, slotM, argSlots, frzS, resolve, ioSlots, setIo, itemsM, itemsOf, PV.flat, strM, andV, orV, notV, slM, slMv, asInt, str_len, addP_ii, addP_ib, addP_ss, addP_ll, addP_tt, iaddP_ii, subP_ii, mulP_ii, mulP_si, fdivP_ii, modP_ii, negP_i, absP_i, intP_i, intP_b, ltP_ii, leP_ii, gtP_ii, geP_ii, ltP_ss, leP_ss, gtP_ss, geP_ss, eqP_ii, eqP_ss, neP_ii, neP_ss, isP_b, isNotP_b, inP_1, notInP_1, lenP_s, lenP_l, lenP_t, lenP_q, listP_s, listP_l, listP_t, tupleP_l, tupleP_t, ixP_l, ixP_t, ixP_q, ixP_s, atI_nat, atI_2, atI_3, atI_4, atI_0, atI_1, atI_last, setV_l, getV_l, ixN_nat, ixN_2, ixN_3, ixN_4, ixN_0, ixN_1, popP_n, appendP_1, extendP_l, slP_to, slP_from, MC.when, fl]
  · unfold Je
    simp -implicitDefEqProofs [lit_e, w1, w2, bind_run, pure_run, lift_run, ite_run, bad_run, fnOf, runF, argE, seqM, ifM, asT, bin2, bin2v, un1, unL, asF, setM, setIxM, augIxM, augM, retM, giveM, dropM, look, take, put, frz1, ownsAny, owns, store, change, mutM, onL, isB, truM, truP, MC.notM, MC.andM, MC.orM, chain, tupM, lstM, consM, outs, callM, valM, slotM, argSlots, frzS, resolve, ioSlots, setIo, itemsM, itemsOf, PV.flat, strM, andV, orV, notV, slM, slMv, asInt, str_len, addP_ii, addP_ib, addP_ss, addP_ll, addP_tt, iaddP_ii, subP_ii, mulP_ii, mulP_si, fdivP_ii, modP_ii, negP_i, absP_i, intP_i, intP_b, ltP_ii, leP_ii, gtP_ii, geP_ii, ltP_ss, leP_ss, gtP_ss, geP_ss, eqP_ii, eqP_ss, neP_ii, neP_ss, isP_b, isNotP_b, inP_1, notInP_1, lenP_s, lenP_l, lenP_t, lenP_q, listP_s, listP_l, listP_t, tupleP_l, tupleP_t, ixP_l, ixP_t, ixP_q, ixP_s, atI_nat, atI_2, atI_3, atI_4, atI_0, atI_1, atI_last, setV_l, getV_l, ixN_nat, ixN_2, ixN_3, ixN_4, ixN_0, ixN_1, popP_n, appendP_1, extendP_l, slP_to, slP_from, MC.when, fl]
end MC.Law
set_option Elab.async false
set_option linter.all false
set_option maxRecDepth 100000
set_option maxHeartbeats 4000000
namespace MC.Law
open PySem
theorem wl_card {A : List Nat} {m : Nat} (h : A.length = m) : ∀ i, (wl A i).length = m ^ i
  | 0 => rfl
  | i + 1 => by
    show (ext A (wl A i)).length = _
    rw [ext_len, wl_card h i, h, Nat.pow_succ]
theorem wv_card {A : List Nat} {m : Nat} (h : A.length = m) : ∀ i, (wv A i).length = sh m i
  | 0 => rfl
  | i + 1 => by
    show (wv A i ++ wl A i).length = _
    rw [List.length_append, wv_card h i, wl_card h i]; rfl
theorem sh_mono (m : Nat) : ∀ {i j : Nat}, i ≤ j → sh m i ≤ sh m j := fun {i j} h => by
  induction j with
  | zero => rw [Nat.le_zero.mp h]; exact Nat.le_refl _
  | succ j ih =>
    by_cases e : i = j + 1
    · rw [e]; exact Nat.le_refl _
    · exact Nat.le_trans (ih (by omega)) (Nat.le_add_right _ _)
theorem bd_of {A : List Nat} {m n : Nat} (h : A.length = m) (h1 : 1 ≤ m) (h10 : m ≤ 10) (hn : n ≤ 50) (hp : m ^ n ≤ 900) (hs : sh m (n + 1) ≤ 1000) : Bd A n ∧ ∀ i, i < n → (wl A i).length * A.length ≤ 900 := by
  have pm : ∀ i, i ≤ n → m ^ i ≤ m ^ n := fun i hi => Nat.pow_le_pow_right h1 hi
  have l : ∀ i, i < n → (wl A i).length * A.length ≤ 900 := fun i hi => by
    rw [wl_card h, h, ← Nat.pow_succ]
    exact Nat.le_trans (pm (i + 1) hi) hp
  refine ⟨⟨hn, by omega, fun i hi => ?_, fun i hi => Nat.le_trans (l i hi) (by decide), fun i hi => ?_⟩, l⟩
  · rw [wl_card h]; exact Nat.le_trans (Nat.le_trans (pm i hi) hp) (by decide)
  · rw [wv_card h]; exact Nat.le_trans (sh_mono m hi) hs
/-- how far the lists are asked -/
theorem most_ok {m : Nat} (h1 : 1 ≤ m) (h4 : m ≤ 4) : (∃ n : Nat, L2.atI [PV.int 12, .int 5, .int 4, .int 3] ((m : Int) - 1) = some (.int n) ∧ n ≤ 50 ∧ m ^ n ≤ 900 ∧ sh m (n + 1) ≤ 1000) ∧
    (∃ n : Nat, L2.atI [PV.int 40, .int 8, .int 5, .int 4] ((m : Int) - 1) = some (.int n) ∧ n ≤ 50 ∧ m ^ n ≤ 900 ∧ sh m (n + 1) ≤ 1000) := by
  have : m = 1 ∨ m = 2 ∨ m = 3 ∨ m = 4 := by omega
  rcases this with rfl | rfl | rfl | rfl
  · exact ⟨⟨12, rfl, by decide, by decide, by decide⟩, ⟨40, rfl, by decide, by decide, by decide⟩⟩
  · exact ⟨⟨5, rfl, by decide, by decide, by decide⟩, ⟨8, rfl, by decide, by decide, by decide⟩⟩
  · exact ⟨⟨4, rfl, by decide, by decide, by decide⟩, ⟨5, rfl, by decide, by decide, by decide⟩⟩
  · exact ⟨⟨3, rfl, by decide, by decide, by decide⟩, ⟨4, rfl, by decide, by decide, by decide⟩⟩
def Le (ns : List Int) (d : PV) (m : Int) (A W : List Nat) (x5 x6 x7 : Option (Bool × PV)) : Env := [some (false, .sq true (ns.map .int)), some (true, d), some (false, .int m), some (false, S A), some (false, S W), x5, x6, x7, none]
theorem l_others {ns : List Int} {d : PV} {m : Int} {A W : List Nat} {x5 x6 x7 : Option (Bool × PV)} : lc1_law (Le ns d m A W x5 x6 x7) = some ((true, .lst ((AZ.filter fun c => decide (c ∉ A)).map sign)), Le ns d m A W x5 x6 x7) := by
  have lp : lcLoop [8] (put 8 false) (asT (bin2v 8 (look 3) notInP)) (take 8) (AZ.map sign) (Le ns d m A W x5 x6 x7) = some ((AZ.filter fun c => decide (c ∉ A)).map sign, Le ns d m A W x5 x6 x7) := by
    have lp := lcLoop_pure (vs := [8]) (h := put 8 false) (ft := asT (bin2v 8 (look 3) notInP)) (fe := take 8) (ρ := Le ns d m A W x5 x6 x7) (fun x => match x with
      | .str ⟨⟨[c]⟩⟩ => decide (c ∉ A)
      | _ => false) id (AZ.map sign) fun x hx => by
      obtain ⟨c, hc, rfl⟩ := List.mem_map.mp hx
      refine ⟨[some (false, .sq true (ns.map .int)), some (true, d), some (false, .int m), some (false, S A), some (false, S W), x5, x6, x7, some (false, sign c)], ?_, fun _ => ⟨_, rfl, rfl⟩, fun _ => rfl⟩
      refine bind_of (ρ' := [some (false, .sq true (ns.map .int)), some (true, d), some (false, .int m), some (false, S A), some (false, S W), x5, x6, x7, some (false, .str ⟨⟨[c]⟩⟩)]) rfl ?_
      show _ = some (decide (c ∉ A), _)
      simp -implicitDefEqProofs [sign, bind_run, pure_run, lift_run, ite_run, bad_run, fnOf, runF, argE, seqM, ifM, asT, bin2, bin2v, un1, unL, asF, setM, setIxM, augIxM, augM, retM, giveM, dropM, look, take, put, frz1, ownsAny, owns, store, change, mutM, onL, isB, truM, truP, MC.notM, MC.andM, MC.orM, chain, tupM, lstM, consM, outs, callM, valM, slotM, argSlots, frzS, resolve, ioSlots, setIo, itemsM, itemsOf, PV.flat, strM, andV, orV, notV, slM, slMv, asInt, str_len, addP_ii, addP_ib, addP_ss, addP_ll, addP_tt, iaddP_ii, subP_ii, mulP_ii, mulP_si, fdivP_ii, modP_ii, negP_i, absP_i, intP_i, intP_b, ltP_ii, leP_ii, gtP_ii, geP_ii, ltP_ss, leP_ss, gtP_ss, geP_ss, eqP_ii, eqP_ss, neP_ii, neP_ss, isP_b, isNotP_b, inP_1, notInP_1, lenP_s, lenP_l, lenP_t, lenP_q, listP_s, listP_l, listP_t, tupleP_l, tupleP_t, ixP_l, ixP_t, ixP_q, ixP_s, atI_nat, atI_2, atI_3, atI_4, atI_0, atI_1, atI_last, setV_l, getV_l, ixN_nat, ixN_2, ixN_3, ixN_4, ixN_0, ixN_1, popP_n, appendP_1, extendP_l, slP_to, slP_from, MC.when, fl]
    rw [lp, List.map_id, List.filter_map]
    rfl
  have ol := others_len A
  refine bind_of (a := AZ.map sign) (ρ' := Le ns d m A W x5 x6 x7) ?_ (bind_of (within_run rfl lp rfl) (lst_run (by rw [List.length_map]; omega)))
  unfold Le
  simp -implicitDefEqProofs [lit_az, bind_run, pure_run, lift_run, ite_run, bad_run, fnOf, runF, argE, seqM, ifM, asT, bin2, bin2v, un1, unL, asF, setM, setIxM, augIxM, augM, retM, giveM, dropM, look, take, put, frz1, ownsAny, owns, store, change, mutM, onL, isB, truM, truP, MC.notM, MC.andM, MC.orM, chain, tupM, lstM, consM, outs, callM, valM, slotM, argSlots, frzS, resolve, ioSlots, setIo, itemsM, itemsOf, PV.flat, strM, andV, orV, notV, slM, slMv, asInt, str_len, addP_ii, addP_ib, addP_ss, addP_ll, addP_tt, iaddP_ii, subP_ii, mulP_ii, mulP_si, fdivP_ii, modP_ii, negP_i, absP_i, intP_i, intP_b, ltP_ii, leP_ii, gtP_ii, geP_ii, ltP_ss, leP_ss, gtP_ss, geP_ss, eqP_ii, eqP_ss, neP_ii, neP_ss, isP_b, isNotP_b, inP_1, notInP_1, lenP_s, lenP_l, lenP_t, lenP_q, listP_s, listP_l, listP_t, tupleP_l, tupleP_t, ixP_l, ixP_t, ixP_q, ixP_s, atI_nat, atI_2, atI_3, atI_4, atI_0, atI_1, atI_last, setV_l, getV_l, ixN_nat, ixN_2, ixN_3, ixN_4, ixN_0, ixN_1, popP_n, appendP_1, extendP_l, slP_to, slP_from, MC.when, fl]
theorem wider {A : List Nat} {m : Nat} (a : Al A m) {o : Nat} (h1 : o ∈ AZ) (h2 : o ∉ A) : Al ((A ++ [o]).mergeSort fun a b => decide (a ≤ b)) (m + 1) := by
  have pm : ((A ++ [o]).mergeSort fun a b => decide (a ≤ b)).Perm (A ++ [o]) := List.mergeSort_perm _ _
  have s1 := List.pairwise_mergeSort (le := fun a b : Nat => decide (a ≤ b)) (fun a b c h1 h2 => decide_eq_true (Nat.le_trans (of_decide_eq_true h1) (of_decide_eq_true h2))) (fun a b => by simp; omega) (A ++ [o])
  have nd : ((A ++ [o]).mergeSort fun a b => decide (a ≤ b)).Nodup := pm.nodup_iff.mpr (List.nodup_append.mpr ⟨a.nd, by simp, fun x hx y hy => by
    rw [List.mem_singleton.mp hy]; intro z; subst z; exact h2 hx⟩)
  refine ⟨by rw [pm.length_eq, List.length_append, a.len]; rfl, (s1.and nd).imp fun h => ?_, fun c hc => ?_⟩
  · have h1 := of_decide_eq_true h.1
    have h2 := h.2
    omega
  · rcases List.mem_append.mp (pm.mem_iff.mp hc) with h | h
    · exact a.rg c h
    · rw [List.mem_singleton.mp h]; exact az_rg o h1
theorem l_wide {ns : List Int} {d : PV} {m : Nat} {A : List Nat} (hd : IsDr d) (a : Al A m) (h1 : 1 ≤ m) (h4 : m ≤ 4) : ∃ (d' : PV) (W : List Nat) (mw : Nat) (x5 : Option (Bool × PV)), IsDr d' ∧ Al W mw ∧ W.length ≤ 10 ∧ (∀ c ∈ A, c ∈ W) ∧
    (ifM (asT (bin2v 2 (pure (.int 4)) ltP)) (seqM (setM 5 lc1_law)
    (setM 4 (strM (pure (.str "")) (consM (asF (un1 (asF (bin2 (asF (un1 (look 3) listP)) (asF (lstM (consM (asF (callM [0] F__law_pick (slotM 1 (slotM 5 (pure []))))) (pure [])))) addP)) sortedP)) (pure [])) joinP))) (pure .nx)) (Le ns d m A A none none none) = some (.nx, Le ns d' m A W x5 none none) := by
  have hl := a.len
  have fA : fits A.length = true := fits_of (by omega)
  by_cases hm : (m : Int) < 4
  · have on := others_ne (A := A) (by omega)
    have ol := others_len A
    obtain ⟨x, d1, e1, hx, hd1⟩ := pick_l hd (xs := (AZ.filter fun c => decide (c ∉ A)).map sign) (by simpa using on) (by rw [List.length_map]; omega)
    obtain ⟨o, ho, rfl⟩ := List.mem_map.mp hx
    have ho1 : o ∈ AZ := (List.mem_filter.mp ho).1
    have ho2 : o ∉ A := by simpa using (List.mem_filter.mp ho).2
    have lo := l_others (ns := ns) (d := d) (m := m) (A := A) (W := A) (x5 := none) (x6 := none) (x7 := none)
    have pm : ((A ++ [o]).mergeSort fun a b => decide (a ≤ b)).Perm (A ++ [o]) := List.mergeSort_perm _ _
    have wd := wider a ho1 ho2
    have jn := joinP_sign ((A ++ [o]).mergeSort fun a b => decide (a ≤ b)) (by rw [pm.length_eq]; simp; omega)
    have st := sortedP_sign (A ++ [o]) (by simp) (by simp; omega)
    have ad := addP_ll (xs := A.map sign) (ys := [sign o]) (fits_of (by simp; omega))
    have em : (A ++ [o]).map sign = A.map sign ++ [sign o] := by simp
    rw [em] at st
    have ws : ∀ c ∈ A, c ∈ (A ++ [o]).mergeSort fun a b => decide (a ≤ b) := fun c hc => pm.mem_iff.mpr (List.mem_append_left _ hc)
    have wl := wd.len
    generalize (A ++ [o]).mergeSort (fun a b => decide (a ≤ b)) = W at *
    generalize (AZ.filter fun c => decide (c ∉ A)).map sign = Z at lo e1
    generalize W.map sign = Y at jn st
    generalize A.map sign ++ [sign o] = Y2 at ad st
    have ls : listP (.str ⟨⟨A⟩⟩) = some (true, .lst (A.map sign)) := listP_s fA
    generalize A.map sign = Y3 at ad ls
    refine ⟨d1, W, m + 1, some (false, .lst Z), hd1, wd, by omega, ws, ?_⟩
    refine if_t (ρ' := Le ns d m A A none none none) ?_ (seq_nx (set_run lo) (set_run (x := (false, S W)) (ρ' := Le ns d1 m A A (some (false, .lst Z)) none none) ?_))
    · unfold Le
      simp -implicitDefEqProofs [hm, bind_run, pure_run, lift_run, ite_run, bad_run, fnOf, runF, argE, seqM, ifM, asT, bin2, bin2v, un1, unL, asF, setM, setIxM, augIxM, augM, retM, giveM, dropM, look, take, put, frz1, ownsAny, owns, store, change, mutM, onL, isB, truM, truP, MC.notM, MC.andM, MC.orM, chain, tupM, lstM, consM, outs, callM, valM, slotM, argSlots, frzS, resolve, ioSlots, setIo, itemsM, itemsOf, PV.flat, strM, andV, orV, notV, slM, slMv, asInt, str_len, addP_ii, addP_ib, addP_ss, addP_ll, addP_tt, iaddP_ii, subP_ii, mulP_ii, mulP_si, fdivP_ii, modP_ii, negP_i, absP_i, intP_i, intP_b, ltP_ii, leP_ii, gtP_ii, geP_ii, ltP_ss, leP_ss, gtP_ss, geP_ss, eqP_ii, eqP_ss, neP_ii, neP_ss, isP_b, isNotP_b, inP_1, notInP_1, lenP_s, lenP_l, lenP_t, lenP_q, listP_s, listP_l, listP_t, tupleP_l, tupleP_t, ixP_l, ixP_t, ixP_q, ixP_s, atI_nat, atI_2, atI_3, atI_4, atI_0, atI_1, atI_last, setV_l, getV_l, ixN_nat, ixN_2, ixN_3, ixN_4, ixN_0, ixN_1, popP_n, appendP_1, extendP_l, slP_to, slP_from, MC.when, fl]
    · unfold Le
      show _ = some ((false, S W), _)
      generalize (ns.map PV.int) = q
      generalize sign o = so at e1 ad
      simp -implicitDefEqProofs [lit_e, ls, e1, f1, ad, st, jn, strM, lstM, consM, bind_run, pure_run, lift_run, ite_run, look, asF, un1, bin2, callM, slotM, resolve, ioSlots, argSlots, frzS, setIo, frz1, PV.flat, MC.when, fl]
  · exact ⟨d, A, m, none, hd, a, by omega, fun c h => h, if_f (ρ' := Le ns d m A A none none none) (by unfold Le; simp -implicitDefEqProofs [hm, bind_run, pure_run, lift_run, ite_run, bad_run, fnOf, runF, argE, seqM, ifM, asT, bin2, bin2v, un1, unL, asF, setM, setIxM, augIxM, augM, retM, giveM, dropM, look, take, put, frz1, ownsAny, owns, store, change, mutM, onL, isB, truM, truP, MC.notM, MC.andM, MC.orM, chain, tupM, lstM, consM, outs, callM, valM, slotM, argSlots, frzS, resolve, ioSlots, setIo, itemsM, itemsOf, PV.flat, strM, andV, orV, notV, slM, slMv, asInt, str_len, addP_ii, addP_ib, addP_ss, addP_ll, addP_tt, iaddP_ii, subP_ii, mulP_ii, mulP_si, fdivP_ii, modP_ii, negP_i, absP_i, intP_i, intP_b, ltP_ii, leP_ii, gtP_ii, geP_ii, ltP_ss, leP_ss, gtP_ss, geP_ss, eqP_ii, eqP_ss, neP_ii, neP_ss, isP_b, isNotP_b, inP_1, notInP_1, lenP_s, lenP_l, lenP_t, lenP_q, listP_s, listP_l, listP_t, tupleP_l, tupleP_t, ixP_l, ixP_t, ixP_q, ixP_s, atI_nat, atI_2, atI_3, atI_4, atI_0, atI_1, atI_last, setV_l, getV_l, ixN_nat, ixN_2, ixN_3, ixN_4, ixN_0, ixN_1, popP_n, appendP_1, extendP_l, slP_to, slP_from, MC.when, fl]) rfl⟩
end MC.Law
set_option Elab.async false
set_option linter.all false
set_option maxRecDepth 100000
set_option maxHeartbeats 4000000
namespace MC.Law
open PySem
theorem law_true : ∀ ns : List Int, ns.length ≤ 63 → F_law [.sq true (ns.map .int)] = some ((false, .bl true), []) := fun ns hns => by
  have e0 := begin_ok ns hns
  have hd0 : IsDr (Dr ns 0 0 7 0) := ⟨_, _, _, _, _, rfl, Int.le_refl _⟩
  generalize Dr ns 0 0 7 0 = d0 at e0 hd0
  obtain ⟨r1, d1, e1, p1, q1, hd1⟩ := draw_ok hd0 (many := 4) (by omega) (by omega)
  obtain ⟨m, hm⟩ : ∃ m : Nat, (1 : Int) + r1 = m := ⟨(1 + r1).toNat, by omega⟩
  have h1 : 1 ≤ m := by omega
  have h4 : m ≤ 4 := by omega
  obtain ⟨A, d2, e2, hd2, a⟩ := alphabet_ok hd1 (many := m) (by omega) (by omega)
  have hl := a.len
  have hA : A ≠ [] := by intro z; subst z; simp at hl; omega
  obtain ⟨d3, W, mw, x5, hd3, aw, hW, hs, s5⟩ := l_wide (ns := ns) hd2 a h1 h4
  obtain ⟨w, d4, e4, hd4, hwm, hw⟩ := long_ok hd3 a hA (by omega)
  obtain ⟨⟨n1, k1, b1⟩, ⟨n2, k2, b2⟩⟩ := most_ok h1 h4
  obtain ⟨r5, d5, e5, p5, q5, hd5⟩ := draw_ok hd4 (many := 8) (by omega) (by omega)
  have f4 : fits 4 = true := fits_of (by decide)
  have s9 : ∃ n : Nat, (n ≤ 50 ∧ m ^ n ≤ 900 ∧ sh m (n + 1) ≤ 1000) ∧ (ifM (asT (bin2 (asF (callM [0] F__law_draw (slotM 1 (valM (pure (.int 8)) (pure []))))) (pure (.int 0)) eqP)) (setM 7 (bin2 (asF (lstM (consM (pure (.int 40)) (consM (pure (.int 8)) (consM (pure (.int 5)) (consM (pure (.int 4)) (pure []))))))) (asF (bin2v 2 (pure (.int 1)) subP)) ixP)) (pure .nx)) (Le ns d4 m A W x5 (some (false, S w)) (some (false, .int n1))) =
      some (.nx, Le ns d5 m A W x5 (some (false, S w)) (some (false, .int n))) := by
    by_cases h : r5 = 0
    · refine ⟨n2, b2, if_t (ρ' := Le ns d5 m A W x5 (some (false, S w)) (some (false, .int n1))) ?_ (set_run (x := (false, .int n2)) (ρ' := Le ns d5 m A W x5 (some (false, S w)) (some (false, .int n1))) ?_)⟩
      · subst h
        unfold Le
        generalize ns.map PV.int = q
        simp -implicitDefEqProofs [e5, bind_run, pure_run, lift_run, ite_run, bad_run, fnOf, runF, argE, seqM, ifM, asT, bin2, bin2v, un1, unL, asF, setM, setIxM, augIxM, augM, retM, giveM, dropM, look, take, put, frz1, ownsAny, owns, store, change, mutM, onL, isB, truM, truP, MC.notM, MC.andM, MC.orM, chain, tupM, lstM, consM, outs, callM, valM, slotM, argSlots, frzS, resolve, ioSlots, setIo, itemsM, itemsOf, PV.flat, strM, andV, orV, notV, slM, slMv, asInt, str_len, addP_ii, addP_ib, addP_ss, addP_ll, addP_tt, iaddP_ii, subP_ii, mulP_ii, mulP_si, fdivP_ii, modP_ii, negP_i, absP_i, intP_i, intP_b, ltP_ii, leP_ii, gtP_ii, geP_ii, ltP_ss, leP_ss, gtP_ss, geP_ss, eqP_ii, eqP_ss, neP_ii, neP_ss, isP_b, isNotP_b, inP_1, notInP_1, lenP_s, lenP_l, lenP_t, lenP_q, listP_s, listP_l, listP_t, tupleP_l, tupleP_t, ixP_l, ixP_t, ixP_q, ixP_s, atI_nat, atI_2, atI_3, atI_4, atI_0, atI_1, atI_last, setV_l, getV_l, ixN_nat, ixN_2, ixN_3, ixN_4, ixN_0, ixN_1, popP_n, appendP_1, extendP_l, slP_to, slP_from, MC.when, fl]
      · unfold Le
        generalize ns.map PV.int = q
        generalize (m : Int) = mi at k2 ⊢
        simp -implicitDefEqProofs [k2, f4, lstM, consM, bind_run, pure_run, lift_run, ite_run, look, asF, bin2, bin2v, subP_ii, ixP_l, MC.when, fl]
    · refine ⟨n1, b1, if_f (ρ' := Le ns d5 m A W x5 (some (false, S w)) (some (false, .int n1))) ?_ rfl⟩
      unfold Le
      generalize ns.map PV.int = q
      simp -implicitDefEqProofs [e5, h, bind_run, pure_run, lift_run, ite_run, bad_run, fnOf, runF, argE, seqM, ifM, asT, bin2, bin2v, un1, unL, asF, setM, setIxM, augIxM, augM, retM, giveM, dropM, look, take, put, frz1, ownsAny, owns, store, change, mutM, onL, isB, truM, truP, MC.notM, MC.andM, MC.orM, chain, tupM, lstM, consM, outs, callM, valM, slotM, argSlots, frzS, resolve, ioSlots, setIo, itemsM, itemsOf, PV.flat, strM, andV, orV, notV, slM, slMv, asInt, str_len, addP_ii, addP_ib, addP_ss, addP_ll, addP_tt, iaddP_ii, subP_ii, mulP_ii, mulP_si, fdivP_ii, modP_ii, negP_i, absP_i, intP_i, intP_b, ltP_ii, leP_ii, gtP_ii, geP_ii, ltP_ss, leP_ss, gtP_ss, geP_ss, eqP_ii, eqP_ss, neP_ii, neP_ss, isP_b, isNotP_b, inP_1, notInP_1, lenP_s, lenP_l, lenP_t, lenP_q, listP_s, listP_l, listP_t, tupleP_l, tupleP_t, ixP_l, ixP_t, ixP_q, ixP_s, atI_nat, atI_2, atI_3, atI_4, atI_0, atI_1, atI_last, setV_l, getV_l, ixN_nat, ixN_2, ixN_3, ixN_4, ixN_0, ixN_1, popP_n, appendP_1, extendP_l, slP_to, slP_from, MC.when, fl]
  obtain ⟨n, ⟨c1, c2, c3⟩, s9⟩ := s9
  obtain ⟨B, hB⟩ := bd_of hl h1 (by omega) c1 c2 c3
  have l1 := lists_stand a hA B hB
  have l2 := places_stand a hA B hB
  obtain ⟨d6, e6, hd6⟩ := far_stand hd5 a hA (by omega) aw (by omega) hs hwm hw
  obtain ⟨d7, e7⟩ := judges_ok hd6 a h1 h4 hwm (by omega)
  refine fn_run rfl (ρ0 := [some (false, .sq true (ns.map .int)), none, none, none, none, none, none, none, none]) rfl
    (seq_nx (ρ' := [some (false, .sq true (ns.map .int)), some (true, d0), none, none, none, none, none, none, none]) ?a1
    (seq_nx (ρ' := [some (false, .sq true (ns.map .int)), some (true, d1), some (false, .int m), none, none, none, none, none, none]) ?a2
    (seq_nx (ρ' := [some (false, .sq true (ns.map .int)), some (true, d2), some (false, .int m), some (false, S A), none, none, none, none, none]) ?a3
    (seq_nx (ρ' := Le ns d2 m A A none none none) rfl
    (seq_nx s5
    (seq_nx (ρ' := Le ns d4 m A W x5 (some (false, S w)) none) ?a6
    (seq_nx (ρ' := Le ns d4 m A W x5 (some (false, S w)) (some (false, .int n1))) ?a7
    (seq_nx s9
    (seq_nx (ρ' := Le ns d5 m A W x5 (some (false, S w)) (some (false, .int n))) (if_f (ρ' := Le ns d5 m A W x5 (some (false, S w)) (some (false, .int n))) ?a9 rfl)
    (seq_nx (ρ' := Le ns d6 m A W x5 (some (false, S w)) (some (false, .int n))) (if_f (ρ' := Le ns d6 m A W x5 (some (false, S w)) (some (false, .int n))) ?a10 rfl)
    (ret_run (x := (false, .bl true)) (ρ' := Le ns d7 m A W x5 (some (false, S w)) (some (false, .int n))) ?a11))))))))))) rfl
  case a1 => generalize ns.map PV.int = q at e0 ⊢; simp -implicitDefEqProofs [e0, bind_run, pure_run, lift_run, ite_run, bad_run, fnOf, runF, argE, seqM, ifM, asT, bin2, bin2v, un1, unL, asF, setM, setIxM, augIxM, augM, retM, giveM, dropM, look, take, put, frz1, ownsAny, owns, store, change, mutM, onL, isB, truM, truP, MC.notM, MC.andM, MC.orM, chain, tupM, lstM, consM, outs, callM, valM, slotM, argSlots, frzS, resolve, ioSlots, setIo, itemsM, itemsOf, PV.flat, strM, andV, orV, notV, slM, slMv, asInt, str_len, addP_ii, addP_ib, addP_ss, addP_ll, addP_tt, iaddP_ii, subP_ii, mulP_ii, mulP_si, fdivP_ii, modP_ii, negP_i, absP_i, intP_i, intP_b, ltP_ii, leP_ii, gtP_ii, geP_ii, ltP_ss, leP_ss, gtP_ss, geP_ss, eqP_ii, eqP_ss, neP_ii, neP_ss, isP_b, isNotP_b, inP_1, notInP_1, lenP_s, lenP_l, lenP_t, lenP_q, listP_s, listP_l, listP_t, tupleP_l, tupleP_t, ixP_l, ixP_t, ixP_q, ixP_s, atI_nat, atI_2, atI_3, atI_4, atI_0, atI_1, atI_last, setV_l, getV_l, ixN_nat, ixN_2, ixN_3, ixN_4, ixN_0, ixN_1, popP_n, appendP_1, extendP_l, slP_to, slP_from, MC.when, fl]
  case a2 => generalize ns.map PV.int = q; rw [← hm]; simp -implicitDefEqProofs [e1, bind_run, pure_run, lift_run, ite_run, bad_run, fnOf, runF, argE, seqM, ifM, asT, bin2, bin2v, un1, unL, asF, setM, setIxM, augIxM, augM, retM, giveM, dropM, look, take, put, frz1, ownsAny, owns, store, change, mutM, onL, isB, truM, truP, MC.notM, MC.andM, MC.orM, chain, tupM, lstM, consM, outs, callM, valM, slotM, argSlots, frzS, resolve, ioSlots, setIo, itemsM, itemsOf, PV.flat, strM, andV, orV, notV, slM, slMv, asInt, str_len, addP_ii, addP_ib, addP_ss, addP_ll, addP_tt, iaddP_ii, subP_ii, mulP_ii, mulP_si, fdivP_ii, modP_ii, negP_i, absP_i, intP_i, intP_b, ltP_ii, leP_ii, gtP_ii, geP_ii, ltP_ss, leP_ss, gtP_ss, geP_ss, eqP_ii, eqP_ss, neP_ii, neP_ss, isP_b, isNotP_b, inP_1, notInP_1, lenP_s, lenP_l, lenP_t, lenP_q, listP_s, listP_l, listP_t, tupleP_l, tupleP_t, ixP_l, ixP_t, ixP_q, ixP_s, atI_nat, atI_2, atI_3, atI_4, atI_0, atI_1, atI_last, setV_l, getV_l, ixN_nat, ixN_2, ixN_3, ixN_4, ixN_0, ixN_1, popP_n, appendP_1, extendP_l, slP_to, slP_from, MC.when, fl]
  case a3 => generalize ns.map PV.int = q; generalize (m : Int) = mi at e2 ⊢; simp -implicitDefEqProofs [e2, bind_run, pure_run, lift_run, ite_run, bad_run, fnOf, runF, argE, seqM, ifM, asT, bin2, bin2v, un1, unL, asF, setM, setIxM, augIxM, augM, retM, giveM, dropM, look, take, put, frz1, ownsAny, owns, store, change, mutM, onL, isB, truM, truP, MC.notM, MC.andM, MC.orM, chain, tupM, lstM, consM, outs, callM, valM, slotM, argSlots, frzS, resolve, ioSlots, setIo, itemsM, itemsOf, PV.flat, strM, andV, orV, notV, slM, slMv, asInt, str_len, addP_ii, addP_ib, addP_ss, addP_ll, addP_tt, iaddP_ii, subP_ii, mulP_ii, mulP_si, fdivP_ii, modP_ii, negP_i, absP_i, intP_i, intP_b, ltP_ii, leP_ii, gtP_ii, geP_ii, ltP_ss, leP_ss, gtP_ss, geP_ss, eqP_ii, eqP_ss, neP_ii, neP_ss, isP_b, isNotP_b, inP_1, notInP_1, lenP_s, lenP_l, lenP_t, lenP_q, listP_s, listP_l, listP_t, tupleP_l, tupleP_t, ixP_l, ixP_t, ixP_q, ixP_s, atI_nat, atI_2, atI_3, atI_4, atI_0, atI_1, atI_last, setV_l, getV_l, ixN_nat, ixN_2, ixN_3, ixN_4, ixN_0, ixN_1, popP_n, appendP_1, extendP_l, slP_to, slP_from, MC.when, fl]
  case a6 => unfold Le; generalize ns.map PV.int = q; simp -implicitDefEqProofs [e4, bind_run, pure_run, lift_run, ite_run, bad_run, fnOf, runF, argE, seqM, ifM, asT, bin2, bin2v, un1, unL, asF, setM, setIxM, augIxM, augM, retM, giveM, dropM, look, take, put, frz1, ownsAny, owns, store, change, mutM, onL, isB, truM, truP, MC.notM, MC.andM, MC.orM, chain, tupM, lstM, consM, outs, callM, valM, slotM, argSlots, frzS, resolve, ioSlots, setIo, itemsM, itemsOf, PV.flat, strM, andV, orV, notV, slM, slMv, asInt, str_len, addP_ii, addP_ib, addP_ss, addP_ll, addP_tt, iaddP_ii, subP_ii, mulP_ii, mulP_si, fdivP_ii, modP_ii, negP_i, absP_i, intP_i, intP_b, ltP_ii, leP_ii, gtP_ii, geP_ii, ltP_ss, leP_ss, gtP_ss, geP_ss, eqP_ii, eqP_ss, neP_ii, neP_ss, isP_b, isNotP_b, inP_1, notInP_1, lenP_s, lenP_l, lenP_t, lenP_q, listP_s, listP_l, listP_t, tupleP_l, tupleP_t, ixP_l, ixP_t, ixP_q, ixP_s, atI_nat, atI_2, atI_3, atI_4, atI_0, atI_1, atI_last, setV_l, getV_l, ixN_nat, ixN_2, ixN_3, ixN_4, ixN_0, ixN_1, popP_n, appendP_1, extendP_l, slP_to, slP_from, MC.when, fl]
  case a7 =>
    unfold Le; generalize ns.map PV.int = q
    generalize (m : Int) = mi at k1 ⊢
    refine set_run (x := (false, .int n1)) (ρ' := [some (false, .sq true q), some (true, d4), some (false, .int mi), some (false, S A), some (false, S W), x5, some (false, S w), none, none]) ?_
    simp -implicitDefEqProofs [k1, f4, lstM, consM, bind_run, pure_run, lift_run, ite_run, look, asF, bin2, bin2v, subP_ii, ixP_l, MC.when, fl]
  case a9 => unfold Le; generalize ns.map PV.int = q; simp -implicitDefEqProofs [l1, l2, bind_run, pure_run, lift_run, ite_run, bad_run, fnOf, runF, argE, seqM, ifM, asT, bin2, bin2v, un1, unL, asF, setM, setIxM, augIxM, augM, retM, giveM, dropM, look, take, put, frz1, ownsAny, owns, store, change, mutM, onL, isB, truM, truP, MC.notM, MC.andM, MC.orM, chain, tupM, lstM, consM, outs, callM, valM, slotM, argSlots, frzS, resolve, ioSlots, setIo, itemsM, itemsOf, PV.flat, strM, andV, orV, notV, slM, slMv, asInt, str_len, addP_ii, addP_ib, addP_ss, addP_ll, addP_tt, iaddP_ii, subP_ii, mulP_ii, mulP_si, fdivP_ii, modP_ii, negP_i, absP_i, intP_i, intP_b, ltP_ii, leP_ii, gtP_ii, geP_ii, ltP_ss, leP_ss, gtP_ss, geP_ss, eqP_ii, eqP_ss, neP_ii, neP_ss, isP_b, isNotP_b, inP_1, notInP_1, lenP_s, lenP_l, lenP_t, lenP_q, listP_s, listP_l, listP_t, tupleP_l, tupleP_t, ixP_l, ixP_t, ixP_q, ixP_s, atI_nat, atI_2, atI_3, atI_4, atI_0, atI_1, atI_last, setV_l, getV_l, ixN_nat, ixN_2, ixN_3, ixN_4, ixN_0, ixN_1, popP_n, appendP_1, extendP_l, slP_to, slP_from, MC.when, fl]
  case a10 => unfold Le; generalize ns.map PV.int = q; simp -implicitDefEqProofs [e6, bind_run, pure_run, lift_run, ite_run, bad_run, fnOf, runF, argE, seqM, ifM, asT, bin2, bin2v, un1, unL, asF, setM, setIxM, augIxM, augM, retM, giveM, dropM, look, take, put, frz1, ownsAny, owns, store, change, mutM, onL, isB, truM, truP, MC.notM, MC.andM, MC.orM, chain, tupM, lstM, consM, outs, callM, valM, slotM, argSlots, frzS, resolve, ioSlots, setIo, itemsM, itemsOf, PV.flat, strM, andV, orV, notV, slM, slMv, asInt, str_len, addP_ii, addP_ib, addP_ss, addP_ll, addP_tt, iaddP_ii, subP_ii, mulP_ii, mulP_si, fdivP_ii, modP_ii, negP_i, absP_i, intP_i, intP_b, ltP_ii, leP_ii, gtP_ii, geP_ii, ltP_ss, leP_ss, gtP_ss, geP_ss, eqP_ii, eqP_ss, neP_ii, neP_ss, isP_b, isNotP_b, inP_1, notInP_1, lenP_s, lenP_l, lenP_t, lenP_q, listP_s, listP_l, listP_t, tupleP_l, tupleP_t, ixP_l, ixP_t, ixP_q, ixP_s, atI_nat, atI_2, atI_3, atI_4, atI_0, atI_1, atI_last, setV_l, getV_l, ixN_nat, ixN_2, ixN_3, ixN_4, ixN_0, ixN_1, popP_n, appendP_1, extendP_l, slP_to, slP_from, MC.when, fl]
  case a11 => unfold Le; generalize ns.map PV.int = q; simp -implicitDefEqProofs [e7, bind_run, pure_run, lift_run, ite_run, bad_run, fnOf, runF, argE, seqM, ifM, asT, bin2, bin2v, un1, unL, asF, setM, setIxM, augIxM, augM, retM, giveM, dropM, look, take, put, frz1, ownsAny, owns, store, change, mutM, onL, isB, truM, truP, MC.notM, MC.andM, MC.orM, chain, tupM, lstM, consM, outs, callM, valM, slotM, argSlots, frzS, resolve, ioSlots, setIo, itemsM, itemsOf, PV.flat, strM, andV, orV, notV, slM, slMv, asInt, str_len, addP_ii, addP_ib, addP_ss, addP_ll, addP_tt, iaddP_ii, subP_ii, mulP_ii, mulP_si, fdivP_ii, modP_ii, negP_i, absP_i, intP_i, intP_b, ltP_ii, leP_ii, gtP_ii, geP_ii, ltP_ss, leP_ss, gtP_ss, geP_ss, eqP_ii, eqP_ss, neP_ii, neP_ss, isP_b, isNotP_b, inP_1, notInP_1, lenP_s, lenP_l, lenP_t, lenP_q, listP_s, listP_l, listP_t, tupleP_l, tupleP_t, ixP_l, ixP_t, ixP_q, ixP_s, atI_nat, atI_2, atI_3, atI_4, atI_0, atI_1, atI_last, setV_l, getV_l, ixN_nat, ixN_2, ixN_3, ixN_4, ixN_0, ixN_1, popP_n, appendP_1, extendP_l, slP_to, slP_from, MC.when, fl]
end MC.Law
open PySem PySem.W PyProof.Rows
set_option maxHeartbeats 0 in
theorem PySem.Challenge.cw_lettercourt_k01_ranks_of_words_holds : PySem.Challenge.rw_lettercourt_k01_ranks_of_words.Holds := by
  w_on; o_law; k_head; (case hw => w_witness2)
  k_fill
  refine MC.law_end (l := PySem.Challenge.rw_lettercourt_k01_ranks_of_words) (k := 5) (F := MC.Law.F_law) rfl rfl (fun w h Y => PySem.W.kIn_of Y) (by decide) MC.Law.law_true ?F
  case F =>
    intro w mg fa h KX G hmg
    have hc_LETTERS_LIMIT := PySem.W.mg_of KX G (n := "LETTERS_LIMIT") (v := _) (by k_is)
    have T : MC.Law.Bl mg := by
      refine' ⟨PySem.W.mg_none_of KX G ?b_abs, PySem.W.mg_none_of KX G ?b_all, PySem.W.mg_none_of KX G ?b_bool, PySem.W.mg_none_of KX G ?b_int, PySem.W.mg_none_of KX G ?b_isinstance, PySem.W.mg_none_of KX G ?b_len, PySem.W.mg_none_of KX G ?b_list, PySem.W.mg_none_of KX G ?b_range, PySem.W.mg_none_of KX G ?b_reversed, PySem.W.mg_none_of KX G ?b_sorted, PySem.W.mg_none_of KX G ?b_str, PySem.W.mg_none_of KX G ?b_tuple, ⟨_, hc_LETTERS_LIMIT⟩⟩
      (case b_abs => k_is)
      (case b_all => k_is)
      (case b_bool => k_is)
      (case b_int => k_is)
      (case b_isinstance => k_is)
      (case b_len => k_is)
      (case b_list => k_is)
      (case b_range => k_is)
      (case b_reversed => k_is)
      (case b_sorted => k_is)
      (case b_str => k_is)
      (case b_tuple => k_is)
    have D__law_begin := MC.dfn_mk (x := "_law_begin") (st := MC.Law.s__law_begin) (ps := ["script"]) KX G (by k_is) (by k_is) (by k_is) (by k_is) (fun _ _ _ _ _ _ us hl => match us, hl with | [_], _ => rfl)
    have D__law_draw := MC.dfn_mk (x := "_law_draw") (st := MC.Law.s__law_draw) (ps := ["d", "many"]) KX G (by k_is) (by k_is) (by k_is) (by k_is) (fun _ _ _ _ _ _ us hl => match us, hl with | [_, _], _ => rfl)
    have D__law_pop := MC.dfn_mk (x := "_law_pop") (st := MC.Law.s__law_pop) (ps := ["d", "row"]) KX G (by k_is) (by k_is) (by k_is) (by k_is) (fun _ _ _ _ _ _ us hl => match us, hl with | [_, _], _ => rfl)
    have D__law_alphabet := MC.dfn_mk (x := "_law_alphabet") (st := MC.Law.s__law_alphabet) (ps := ["d", "many"]) KX G (by k_is) (by k_is) (by k_is) (by k_is) (fun _ _ _ _ _ _ us hl => match us, hl with | [_, _], _ => rfl)
    have D__law_pick := MC.dfn_mk (x := "_law_pick") (st := MC.Law.s__law_pick) (ps := ["d", "row"]) KX G (by k_is) (by k_is) (by k_is) (by k_is) (fun _ _ _ _ _ _ us hl => match us, hl with | [_, _], _ => rfl)
    have D__law_long_word := MC.dfn_mk (x := "_law_long_word") (st := MC.Law.s__law_long_word) (ps := ["d", "letters"]) KX G (by k_is) (by k_is) (by k_is) (by k_is) (fun _ _ _ _ _ _ us hl => match us, hl with | [_, _], _ => rfl)
    have D__law_bad_alphabets := MC.dfn_mk (x := "_law_bad_alphabets") (st := MC.Law.s__law_bad_alphabets) (ps := ["d", "letters", "five"]) KX G (by k_is) (by k_is) (by k_is) (by k_is) (fun _ _ _ _ _ _ us hl => match us, hl with | [_, _, _], _ => rfl)
    have D_is_alphabet := MC.dfn_mk (x := "is_alphabet") (st := MC.Law.s_is_alphabet) (ps := ["letters"]) KX G (by k_is) (by k_is) (by k_is) (by k_is) (fun _ _ _ _ _ _ us hl => match us, hl with | [_], _ => rfl)
    have D_is_word := MC.dfn_mk (x := "is_word") (st := MC.Law.s_is_word) (ps := ["letters", "word"]) KX G (by k_is) (by k_is) (by k_is) (by k_is) (fun _ _ _ _ _ _ us hl => match us, hl with | [_, _], _ => rfl)
    have D__law_judges_stand := MC.dfn_mk (x := "_law_judges_stand") (st := MC.Law.s__law_judges_stand) (ps := ["d", "letters", "word"]) KX G (by k_is) (by k_is) (by k_is) (by k_is) (fun _ _ _ _ _ _ us hl => match us, hl with | [_, _, _], _ => rfl)
    have D_word_at := MC.dfn_mk (x := "word_at") (st := MC.Law.s_word_at) (ps := ["letters", "rank"]) KX G (by k_is) (by k_is) (by k_is) (by k_is) (fun _ _ _ _ _ _ us hl => match us, hl with | [_, _], _ => rfl)
    have D__law_words_before := MC.dfn_mk (x := "_law_words_before") (st := MC.Law.s__law_words_before) (ps := ["letters", "word"]) KX G (by k_is) (by k_is) (by k_is) (by k_is) (fun _ _ _ _ _ _ us hl => match us, hl with | [_, _], _ => rfl)
    have D__law_word_behind := MC.dfn_mk (x := "_law_word_behind") (st := MC.Law.s__law_word_behind) (ps := ["letters", "word"]) KX G (by k_is) (by k_is) (by k_is) (by k_is) (fun _ _ _ _ _ _ us hl => match us, hl with | [_, _], _ => rfl)
    have D__law_is_int := MC.dfn_mk (x := "_law_is_int") (st := MC.Law.s__law_is_int) (ps := ["thing"]) KX G (by k_is) (by k_is) (by k_is) (by k_is) (fun _ _ _ _ _ _ us hl => match us, hl with | [_], _ => rfl)
    have D__law_is_number := MC.dfn_mk (x := "_law_is_number") (st := MC.Law.s__law_is_number) (ps := ["told", "due"]) KX G (by k_is) (by k_is) (by k_is) (by k_is) (fun _ _ _ _ _ _ us hl => match us, hl with | [_, _], _ => rfl)
    have D__law_is_text := MC.dfn_mk (x := "_law_is_text") (st := MC.Law.s__law_is_text) (ps := ["told", "due"]) KX G (by k_is) (by k_is) (by k_is) (by k_is) (fun _ _ _ _ _ _ us hl => match us, hl with | [_, _], _ => rfl)
    have D_word_rank := MC.dfn_mk (x := "word_rank") (st := MC.Law.s_word_rank) (ps := ["letters", "word"]) KX G (by k_is) (by k_is) (by k_is) (by k_is) (fun _ _ _ _ _ _ us hl => match us, hl with | [_, _], _ => rfl)
    have D__law_far_places_stand := MC.dfn_mk (x := "_law_far_places_stand") (st := MC.Law.s__law_far_places_stand) (ps := ["d", "letters", "wide", "word"]) KX G (by k_is) (by k_is) (by k_is) (by k_is) (fun _ _ _ _ _ _ us hl => match us, hl with | [_, _, _, _], _ => rfl)
    have D__law_words := MC.dfn_mk (x := "_law_words") (st := MC.Law.s__law_words) (ps := ["letters", "most"]) KX G (by k_is) (by k_is) (by k_is) (by k_is) (fun _ _ _ _ _ _ us hl => match us, hl with | [_, _], _ => rfl)
    have D_words_of_length := MC.dfn_mk (x := "words_of_length") (st := MC.Law.s_words_of_length) (ps := ["letters", "length"]) KX G (by k_is) (by k_is) (by k_is) (by k_is) (fun _ _ _ _ _ _ us hl => match us, hl with | [_, _], _ => rfl)
    have D_words_up_to := MC.dfn_mk (x := "words_up_to") (st := MC.Law.s_words_up_to) (ps := ["letters", "length"]) KX G (by k_is) (by k_is) (by k_is) (by k_is) (fun _ _ _ _ _ _ us hl => match us, hl with | [_, _], _ => rfl)
    have D__law_are_texts := MC.dfn_mk (x := "_law_are_texts") (st := MC.Law.s__law_are_texts) (ps := ["told", "due"]) KX G (by k_is) (by k_is) (by k_is) (by k_is) (fun _ _ _ _ _ _ us hl => match us, hl with | [_, _], _ => rfl)
    have D__law_lists_stand := MC.dfn_mk (x := "_law_lists_stand") (st := MC.Law.s__law_lists_stand) (ps := ["letters", "most"]) KX G (by k_is) (by k_is) (by k_is) (by k_is) (fun _ _ _ _ _ _ us hl => match us, hl with | [_, _], _ => rfl)
    have D_word_key := MC.dfn_mk (x := "word_key") (st := MC.Law.s_word_key) (ps := ["word"]) KX G (by k_is) (by k_is) (by k_is) (by k_is) (fun _ _ _ _ _ _ us hl => match us, hl with | [_], _ => rfl)
    have D__law_places_stand := MC.dfn_mk (x := "_law_places_stand") (st := MC.Law.s__law_places_stand) (ps := ["letters", "most"]) KX G (by k_is) (by k_is) (by k_is) (by k_is) (fun _ _ _ _ _ _ us hl => match us, hl with | [_, _], _ => rfl)
    have D_law := MC.dfn_mk (x := "law") (st := MC.Law.s_law) (ps := ["script"]) KX G (by k_is) (by k_is) (by k_is) (by k_is) (fun _ _ _ _ _ _ us hl => match us, hl with | [_], _ => rfl)
    exact MC.law_of hmg D_law (fun fd _ _ _ _ _ _ e s u => by subst e; exact .of_eq rfl) fun base _ _ => MC.Law.all_ok T D__law_begin D__law_draw D__law_pop D__law_alphabet D__law_pick D__law_long_word D__law_bad_alphabets D_is_alphabet D_is_word D__law_judges_stand D_word_at D__law_words_before D__law_word_behind D__law_is_int D__law_is_number D__law_is_text D_word_rank D__law_far_places_stand D__law_words D_words_of_length D_words_up_to D__law_are_texts D__law_lists_stand D_word_key D__law_places_stand D_law
